import PyProof.Rows.All
import Wide.All
import OpenK.AllK
import Wide.FinOn
import KE.KStateDown
import HandS.ForMost
import HandS.Exc
import HandS.ExcOwn
import HandS.WordsExc
import HandS.Defaults
import HandS.MakeKwOnly
import HandS.Lambda
import HandS.Wide
import HandS.Flow
import HandS.IsInst
import HandS.Head0
import HandS.Head1
import HandS.Head2
import HandS.HeadEnd
import HandS.HeadHook1
import HandS.HeadHook2
import HandS.HeadWalk
import HandS.WideBits
import HandS.Style
import PyProof.ReprRoads
import HandS.Zip
import HandS.ExcIs
import HandS.More
import HandS.TryOnly
import HandS.MakeKw
import HandS.OwnEq
import HandS.EndTab
import KE.KNestM
import PyProof.ReprLen
import PyProof.Rows.StrJoinMade
import PyProof.Rows.StrDigitsNeg
import HandS.TryMany
import KE.KUnpackStar
import PyProof.Rows.SeqMore
import PySem.Challenge.RW_pointhalls_k76_circles_by_points
set_option Elab.async false
set_option linter.all false
set_option maxRecDepth 100000
set_option maxHeartbeats 4000000
set_option autoImplicit false
namespace Sm
open PySem PySem.Spec PyProof.Rows L2
/-- data: what a value stands for, whatever its address -/
inductive D where
  | non | bl (b : Bool) | int (i : Int) | str (x : Str)
  | tup (ds : List D) | lst (ds : List D) | ins (c : Nat) (ds : List D)
  | ref (n : Nat) | glo (x : Str) | ty (n : String)
/-- what is fixed for a whole law: each class's fields in order, the tables of code objects -/
structure Sta where
  cn : Nat → Str
  cf : Nat → List Str
  T : List (Addr × Str)
abbrev Frg := PySem.W.Frag
/-- a tuple that stands frozen, or is written -/
def TpL (K : Frg) (Z : Hp) (a : Addr) (xs : List V) : Prop :=
  Z a = some (.tup xs) ∨ ∃ (o : Obj) (its : Array Value) (n : Nat), K.lookup a = some o ∧ o.cls = .type "tuple" ∧ o.data = .seq its n ∧ its.size ≤ sizeLine ∧ Vals xs its.toList
mutual
/-- the value v stands for d, by the frozen heap Z and the places of the store -/
def isD (K : Frg) (S : Sta) (Z : Hp) (μ : List Addr) : D → V → Prop
  | .non, v => v = .non
  | .bl b, v => v = .bl b
  | .int i, v => v = .int i
  | .str x, v => v = .str x
  | .tup ds, v => ∃ a xs, v = .ref a ∧ TpL K Z a xs ∧ isDs K S Z μ ds xs
  | .lst ds, v => ∃ a xs, v = .ref a ∧ SqL K Z a xs ∧ isDs K S Z μ ds xs
  | .ins c ds, v => ∃ a dx xs, v = .ref a ∧ Z a = some (.ins (He.ga K (S.cn c)) dx ((S.cf c).zip xs)) ∧ xs.length = (S.cf c).length ∧ isDs K S Z μ ds xs
  | .ref n, v => ∃ a, v = .ref a ∧ μ[n]? = some a
  | .glo x, v => v = .ref (He.ga K x)
  | .ty n, v => v = .ty n
def isDs (K : Frg) (S : Sta) (Z : Hp) (μ : List Addr) : List D → List V → Prop
  | [], vs => vs = []
  | d :: ds, vs => ∃ v r, vs = v :: r ∧ isD K S Z μ d v ∧ isDs K S Z μ ds r
end
section
variable {K : Frg} {S : Sta} {Z Z' : Hp} {μ μ' : List Addr}
theorem rd_mono {a : Addr} {u : HO} (hz : ∀ a o, Z a = some o → Z' a = some o) (h : Rd Z a u) : Rd Z' a u := by
  rcases h with h | ⟨o, h⟩
  · exact .inl (hz _ _ h)
  · exact .inr ⟨o, hz _ _ h⟩
theorem sqt_mono {a : Addr} {xs : List V} (hz : ∀ a o, Z a = some o → Z' a = some o) (h : TpL K Z a xs) : SqT K Z' a xs := by
  rcases h with h | h
  · exact .inl (.inl (hz _ _ h))
  · exact .inr h
theorem tpl_mono {a : Addr} {xs : List V} (hz : ∀ a o, Z a = some o → Z' a = some o) (h : TpL K Z a xs) : TpL K Z' a xs := by
  rcases h with h | h
  · exact .inl (hz _ _ h)
  · exact .inr h
theorem sql_mono {a : Addr} {xs : List V} (hz : ∀ a o, Z a = some o → Z' a = some o) (h : SqL K Z a xs) : SqL K Z' a xs := by
  rcases h with h | h
  · exact .inl (rd_mono hz h)
  · exact .inr h
mutual
theorem isD_mono (hz : ∀ a o, Z a = some o → Z' a = some o) (hm : ∀ (n : Nat) (a : Addr), μ[n]? = some a → μ'[n]? = some a) : ∀ (d : D) (v : V), isD K S Z μ d v → isD K S Z' μ' d v
  | .non, v, h => h
  | .bl b, v, h => h
  | .int i, v, h => h
  | .str x, v, h => h
  | .tup ds, v, h => by
    obtain ⟨a, xs, e, q, r⟩ := h
    exact ⟨a, xs, e, tpl_mono hz q, isDs_mono hz hm ds xs r⟩
  | .lst ds, v, h => by
    obtain ⟨a, xs, e, q, r⟩ := h
    exact ⟨a, xs, e, sql_mono hz q, isDs_mono hz hm ds xs r⟩
  | .ins c ds, v, h => by
    obtain ⟨a, dx, xs, e, q, l, r⟩ := h
    exact ⟨a, dx, xs, e, hz _ _ q, l, isDs_mono hz hm ds xs r⟩
  | .ref n, v, h => by
    obtain ⟨a, e, q⟩ := h
    exact ⟨a, e, hm _ _ q⟩
  | .glo x, v, h => h
  | .ty n, v, h => h
theorem isDs_mono (hz : ∀ a o, Z a = some o → Z' a = some o) (hm : ∀ (n : Nat) (a : Addr), μ[n]? = some a → μ'[n]? = some a) : ∀ (ds : List D) (vs : List V), isDs K S Z μ ds vs → isDs K S Z' μ' ds vs
  | [], vs, h => h
  | d :: ds, vs, h => by
    obtain ⟨v, r, e, q, t⟩ := h
    exact ⟨v, r, e, isD_mono hz hm d v q, isDs_mono hz hm ds r t⟩
end
theorem isDs_nil {vs : List V} : isDs K S Z μ [] vs ↔ vs = [] := Iff.rfl
theorem isDs_cons {d : D} {ds : List D} {v : V} {vs : List V} (h : isD K S Z μ d v) (t : isDs K S Z μ ds vs) : isDs K S Z μ (d :: ds) (v :: vs) := ⟨v, vs, rfl, h, t⟩
theorem isDs_len : ∀ {ds : List D} {vs : List V}, isDs K S Z μ ds vs → vs.length = ds.length
  | [], vs, h => by rw [show vs = [] from h]; rfl
  | d :: ds, vs, h => by
    obtain ⟨v, r, rfl, _, t⟩ := h
    rw [List.length_cons, List.length_cons, isDs_len t]
theorem isDs_app : ∀ {ds es : List D} {vs ws : List V}, isDs K S Z μ ds vs → isDs K S Z μ es ws → isDs K S Z μ (ds ++ es) (vs ++ ws)
  | [], es, vs, ws, h, t => by rw [show vs = [] from h]; exact t
  | d :: ds, es, vs, ws, h, t => by
    obtain ⟨v, r, rfl, q, u⟩ := h
    exact ⟨v, r ++ ws, rfl, q, isDs_app u t⟩
theorem isDs_get : ∀ {ds : List D} {vs : List V} {i : Nat} {d : D}, isDs K S Z μ ds vs → ds[i]? = some d → ∃ v, vs[i]? = some v ∧ isD K S Z μ d v
  | [], vs, i, d, h, e => by simp at e
  | d :: ds, vs, 0, d', h, e => by
    obtain ⟨v, r, rfl, q, u⟩ := h
    simp at e
    subst e
    exact ⟨v, rfl, q⟩
  | d :: ds, vs, i + 1, d', h, e => by
    obtain ⟨v, r, rfl, q, u⟩ := h
    simp only [List.getElem?_cons_succ] at e ⊢
    exact isDs_get u e
theorem isDs_at : ∀ {ds : List D} {vs : List V} {i : Nat} {v : V}, isDs K S Z μ ds vs → vs[i]? = some v → ∃ d, ds[i]? = some d ∧ isD K S Z μ d v
  | [], vs, i, v, h, e => by
    rw [show vs = [] from h] at e
    simp at e
  | d :: ds, vs, 0, v', h, e => by
    obtain ⟨v, r, rfl, q, u⟩ := h
    simp at e
    subst e
    exact ⟨d, rfl, q⟩
  | d :: ds, vs, i + 1, v', h, e => by
    obtain ⟨v, r, rfl, q, u⟩ := h
    simp only [List.getElem?_cons_succ] at e ⊢
    exact isDs_at u e
theorem isDs_set : ∀ {ds : List D} {vs : List V} {i : Nat} {d : D} {v : V}, isDs K S Z μ ds vs → isD K S Z μ d v → isDs K S Z μ (ds.set i d) (vs.set i v)
  | [], vs, i, d, v, h, q => by
    rw [show vs = [] from h]
    exact rfl
  | e :: ds, vs, 0, d, v, h, q => by
    obtain ⟨u, r, rfl, _, t⟩ := h
    exact ⟨v, r, rfl, q, t⟩
  | e :: ds, vs, i + 1, d, v, h, q => by
    obtain ⟨u, r, rfl, z, t⟩ := h
    exact ⟨u, r.set i v, rfl, z, isDs_set t q⟩
theorem isDs_take : ∀ {ds : List D} {vs : List V} (n : Nat), isDs K S Z μ ds vs → isDs K S Z μ (ds.take n) (vs.take n)
  | ds, vs, 0, h => by rw [List.take_zero, List.take_zero]; exact rfl
  | [], vs, n + 1, h => by rw [show vs = [] from h]; exact rfl
  | d :: ds, vs, n + 1, h => by
    obtain ⟨v, r, rfl, z, t⟩ := h
    exact ⟨v, r.take n, rfl, z, isDs_take n t⟩
theorem isDs_drop : ∀ {ds : List D} {vs : List V} (n : Nat), isDs K S Z μ ds vs → isDs K S Z μ (ds.drop n) (vs.drop n)
  | ds, vs, 0, h => h
  | [], vs, n + 1, h => by rw [show vs = [] from h]; exact rfl
  | d :: ds, vs, n + 1, h => by
    obtain ⟨v, r, rfl, z, t⟩ := h
    exact isDs_drop n t
theorem isDs_rev : ∀ {ds : List D} {vs : List V}, isDs K S Z μ ds vs → isDs K S Z μ ds.reverse vs.reverse
  | [], vs, h => by rw [show vs = [] from h]; exact rfl
  | d :: ds, vs, h => by
    obtain ⟨v, r, rfl, z, t⟩ := h
    rw [List.reverse_cons, List.reverse_cons]
    exact isDs_app (isDs_rev t) (isDs_cons z rfl)
theorem isDs_dropLast {ds : List D} {vs : List V} (h : isDs K S Z μ ds vs) : isDs K S Z μ ds.dropLast vs.dropLast := by
  rw [List.dropLast_eq_take, List.dropLast_eq_take, isDs_len h]
  exact isDs_take _ h
theorem isDs_ints : ∀ {ns : List Int} {vs : List V}, isDs K S Z μ (ns.map D.int) vs ↔ vs = ns.map V.int
  | [], vs => Iff.rfl
  | n :: ns, vs => by
    constructor
    · rintro ⟨v, r, rfl, z, t⟩
      rw [show v = .int n from z, isDs_ints.mp t]
      rfl
    · rintro rfl
      exact ⟨_, _, rfl, rfl, isDs_ints.mpr rfl⟩
end
inductive MO where
  | lst (ds : List D) | dic (kvs : List (Key × D))
abbrev Store := List MO
/-- the pairs of a dict -/
def isKs (K : Frg) (S : Sta) (Z : Hp) (μ : List Addr) : List (Key × D) → List (Key × V) → Prop
  | [], vs => vs = []
  | (k, d) :: ds, vs => ∃ v r, vs = (k, v) :: r ∧ isD K S Z μ d v ∧ isKs K S Z μ ds r
/-- an object of the store stands at a -/
def MOk (K : Frg) (S : Sta) (Z : Hp) (μ : List Addr) (H : Hp) (a : Addr) : MO → Prop
  | .lst ds => ∃ xs, H a = some (.lst xs) ∧ isDs K S Z μ ds xs
  | .dic kvs => ∃ vs, H a = some (.dK vs) ∧ isKs K S Z μ kvs vs
structure Rep (K : Frg) (S : Sta) (Z : Hp) (μ : List Addr) (H : Hp) (st : Store) : Prop where
  le : ∀ a o, Z a = some o → H a = some o
  nt : ∀ a ps, Z a ≠ some (.tbl ps)
  len : μ.length = st.length
  nd : μ.Nodup
  zm : ∀ a ∈ μ, Z a = none
  ob : ∀ (n : Nat) (a : Addr) (m : MO), μ[n]? = some a → st[n]? = some m → MOk K S Z μ H a m
  tb : LamX.Tabs S.T H
/-- from one heap to a later one: what was frozen stays, what is not of the store stays -/
structure Stp (Z : Hp) (μ : List Addr) (H : Hp) (Z' : Hp) (μ' : List Addr) (H' : Hp) : Prop where
  zz : ∀ a o, Z a = some o → Z' a = some o
  mm : ∃ t, μ' = μ ++ t
  fr : ∀ a o, H a = some o → a ∉ μ → (∀ ps, o ≠ .tbl ps) → H' a = some o
  th : ∀ a, H' a = none → H a = none
  zn : ∀ a, Z a = none → H a ≠ none → Z' a = none
  mn : ∀ a, a ∈ μ' → a ∈ μ ∨ H a = none
section
variable {K : Frg} {S : Sta} {Z Z1 Z2 : Hp} {μ μ1 μ2 : List Addr} {H H1 H2 : Hp} {st : Store}
theorem Stp.refl : Stp Z μ H Z μ H := ⟨fun _ _ h => h, ⟨[], by simp⟩, fun _ _ h _ _ => h, fun _ h => h, fun _ h _ => h, fun _ h => .inl h⟩
theorem Stp.trans (a : Stp Z μ H Z1 μ1 H1) (b : Stp Z1 μ1 H1 Z2 μ2 H2) : Stp Z μ H Z2 μ2 H2 where
  zz := fun c o h => b.zz c o (a.zz c o h)
  mm := by
    obtain ⟨t, e⟩ := a.mm
    obtain ⟨u, f⟩ := b.mm
    exact ⟨t ++ u, by rw [f, e, List.append_assoc]⟩
  fr := fun c o h n q => b.fr c o (a.fr c o h n q) (fun z => (a.mn c z).elim n fun e => by rw [h] at e; cases e) q
  th := fun c h => a.th c (b.th c h)
  zn := fun c h n => b.zn c (a.zn c h n) fun e => n (a.th c e)
  mn := fun c h => by
    rcases b.mn c h with z | z
    · exact a.mn c z
    · exact .inr (a.th c z)
theorem Stp.mu (a : Stp Z μ H Z1 μ1 H1) : ∀ (n : Nat) (c : Addr), μ[n]? = some c → μ1[n]? = some c := fun n c h => by
  obtain ⟨t, e⟩ := a.mm
  rw [e, List.getElem?_append_left (List.getElem?_eq_some_iff.mp h).1]
  exact h
theorem Stp.isD (a : Stp Z μ H Z1 μ1 H1) {d : D} {v : V} (h : isD K S Z μ d v) : isD K S Z1 μ1 d v := isD_mono a.zz a.mu d v h
theorem Stp.isDs (a : Stp Z μ H Z1 μ1 H1) {d : List D} {v : List V} (h : isDs K S Z μ d v) : isDs K S Z1 μ1 d v := isDs_mono a.zz a.mu d v h
theorem isKs_mono (hz : ∀ a o, Z a = some o → Z1 a = some o) (hm : ∀ (n : Nat) (a : Addr), μ[n]? = some a → μ1[n]? = some a) : ∀ (ds : List (Key × D)) (vs : List (Key × V)), isKs K S Z μ ds vs → isKs K S Z1 μ1 ds vs
  | [], vs, h => h
  | (k, d) :: ds, vs, h => by
    obtain ⟨v, r, e, q, t⟩ := h
    exact ⟨v, r, e, isD_mono hz hm d v q, isKs_mono hz hm ds r t⟩
theorem Stp.isKs (a : Stp Z μ H Z1 μ1 H1) {d : List (Key × D)} {v : List (Key × V)} (h : isKs K S Z μ d v) : isKs K S Z1 μ1 d v := isKs_mono a.zz a.mu d v h
/-- what stands at a key -/
def getD (kvs : List (Key × D)) (k : Key) : Option D := match kvs with
  | [] => none
  | (j, d) :: r => if j = k then some d else getD r k
def putD (kvs : List (Key × D)) (k : Key) (d : D) : List (Key × D) := match kvs with
  | [] => [(k, d)]
  | (j, e) :: r => if j = k then (j, d) :: r else (j, e) :: putD r k d
theorem isKs_get : ∀ {ds : List (Key × D)} {vs : List (Key × V)} {k : Key} {d : D}, isKs K S Z μ ds vs → getD ds k = some d → ∃ v, valV vs k = some v ∧ isD K S Z μ d v
  | [], vs, k, d, h, e => by cases e
  | (j, x) :: ds, vs, k, d, h, e => by
    obtain ⟨v, r, rfl, q, t⟩ := h
    by_cases hj : j = k
    · have e : (if j = k then some x else getD ds k) = some d := e
      rw [if_pos hj] at e
      cases e
      exact ⟨v, valV_pos (p := (j, v)) hj, q⟩
    · have e : (if j = k then some x else getD ds k) = some d := e
      rw [if_neg hj] at e
      rw [valV_neg (p := (j, v)) hj]
      exact isKs_get t e
theorem isKs_none : ∀ {ds : List (Key × D)} {vs : List (Key × V)} {k : Key}, isKs K S Z μ ds vs → getD ds k = none → valV vs k = none
  | [], vs, k, h, e => by rw [show vs = [] from h]; rfl
  | (j, x) :: ds, vs, k, h, e => by
    obtain ⟨v, r, rfl, q, t⟩ := h
    have e : (if j = k then some x else getD ds k) = none := e
    by_cases hj : j = k
    · rw [if_pos hj] at e
      cases e
    · rw [if_neg hj] at e
      rw [valV_neg (p := (j, v)) hj]
      exact isKs_none t e
/-- putK, each key once -/
theorem putK_cons {j k : Key} {v w : V} {r : List (Key × V)} (h : j ≠ k) : putK ((j, v) :: r) k w = (j, v) :: putK r k w := by
  unfold putK
  rw [List.any_cons, decide_eq_false (p := j = k) h, Bool.false_or, List.map_cons, if_neg (c := j = k) h]
  split
  · rfl
  · rfl
theorem isKs_put : ∀ {ds : List (Key × D)} {vs : List (Key × V)} {k : Key} {d : D} {v : V}, isKs K S Z μ ds vs → (ds.map (·.1)).Nodup → isD K S Z μ d v → isKs K S Z μ (putD ds k d) (putK vs k v)
  | [], vs, k, d, v, h, hn, q => by
    rw [show vs = [] from h]
    exact ⟨v, [], rfl, q, rfl⟩
  | (j, x) :: ds, vs, k, d, v, h, hn, q => by
    obtain ⟨u, r, rfl, z, t⟩ := h
    rw [List.map_cons, List.nodup_cons] at hn
    show isKs K S Z μ (if j = k then (j, d) :: ds else (j, x) :: putD ds k d) _
    by_cases hj : j = k
    · subst hj
      rw [if_pos rfl]
      have e : putK ((j, u) :: r) j v = (j, v) :: r := by
        unfold putK
        rw [List.any_cons, decide_eq_true (p := j = j) rfl, Bool.true_or, if_pos rfl, List.map_cons, if_pos rfl]
        congr 1
        have nk : ∀ p ∈ r, p.1 ≠ j := by
          have aux : ∀ (ds : List (Key × D)) (r : List (Key × V)), isKs K S Z μ ds r → r.map (·.1) = ds.map (·.1) := by
            intro ds
            induction ds with
            | nil => intro r h; rw [show r = [] from h]; rfl
            | cons p ds ih =>
              intro r h
              obtain ⟨k, d⟩ := p
              obtain ⟨v, r, rfl, _, t⟩ := h
              rw [List.map_cons, List.map_cons, ih r t]
          intro p hp e
          apply hn.1
          rw [← aux ds r t, ← e]
          exact List.mem_map_of_mem hp
        clear hn t
        induction r with
        | nil => rfl
        | cons p r ih =>
          rw [List.map_cons, if_neg (nk p List.mem_cons_self), ih fun q hq => nk q (List.mem_cons_of_mem _ hq)]
      rw [e]
      exact ⟨v, r, rfl, q, t⟩
    · rw [if_neg hj, putK_cons hj]
      exact ⟨u, _, rfl, z, isKs_put t hn.2 q⟩
theorem isKs_len : ∀ {ds : List (Key × D)} {vs : List (Key × V)}, isKs K S Z μ ds vs → vs.length = ds.length
  | [], vs, h => by rw [show vs = [] from h]; rfl
  | (j, x) :: ds, vs, h => by
    obtain ⟨u, r, rfl, z, t⟩ := h
    rw [List.length_cons, List.length_cons, isKs_len t]
theorem Rep.hne (R : Rep K S Z μ H st) {a : Addr} (h : a ∈ μ) : H a ≠ none := fun e => by
  obtain ⟨n, hn⟩ := List.getElem?_of_mem h
  have hl : n < st.length := by rw [← R.len]; exact (List.getElem?_eq_some_iff.mp hn).1
  have q := R.ob n a _ hn (List.getElem?_eq_getElem hl)
  cases hm : st[n] with
  | lst ds =>
    rw [hm] at q
    obtain ⟨xs, q, _⟩ := q
    rw [e] at q; cases q
  | dic kvs =>
    rw [hm] at q
    obtain ⟨xs, q, _⟩ := q
    rw [e] at q; cases q
theorem Rep.nne (R : Rep K S Z μ H st) {a : Addr} (h : H a = none) : Z a = none ∧ a ∉ μ := by
  refine ⟨?_, fun z => R.hne z h⟩
  cases q : Z a with
  | none => rfl
  | some o =>
    have e := R.le a o q
    rw [h] at e
    cases e
theorem Rep.mok (R : Rep K S Z μ H st) (s : Stp Z μ H Z1 μ1 H1) {a : Addr} {m : MO} (e : H1 a = H a) (h : MOk K S Z μ H a m) : MOk K S Z1 μ1 H1 a m := by
  cases m with
  | lst ds =>
    obtain ⟨xs, q, r⟩ := h
    exact ⟨xs, by rw [e]; exact q, s.isDs r⟩
  | dic kvs =>
    obtain ⟨xs, q, r⟩ := h
    exact ⟨xs, by rw [e]; exact q, s.isKs r⟩
/-- new objects, all others as they stand: the step and the store behind it -/
theorem Rep.grow (R : Rep K S Z μ H st) (hz : ∀ a o, Z a = some o → Z1 a = some o) (hk : ∀ a o, H a = some o → H1 a = some o) (hn : ∀ a o, Z1 a = some o → Z a = some o ∨ (H a = none ∧ H1 a = some o ∧ ∀ ps, o ≠ .tbl ps)) :
    Stp Z μ H Z1 μ H1 ∧ Rep K S Z1 μ H1 st := by
  have s : Stp Z μ H Z1 μ H1 := by
    refine ⟨hz, ⟨[], by simp⟩, fun a o h _ _ => hk a o h, fun a h => ?_, fun a h n => ?_, fun a h => .inl h⟩
    · cases q : H a with
      | none => rfl
      | some o =>
        have e := hk a o q
        rw [h] at e
        cases e
    · cases q : Z1 a with
      | none => rfl
      | some o =>
        rcases hn a o q with z | ⟨z, _⟩
        · rw [h] at z; cases z
        · exact absurd z n
  refine ⟨s, ⟨fun a o h => ?_, fun a ps h => ?_, R.len, R.nd, fun a h => ?_, fun n a m h1 h2 => ?_, R.tb.ext hk⟩⟩
  · rcases hn a o h with z | ⟨_, z, _⟩
    · exact hk a o (R.le a o z)
    · exact z
  · rcases hn a _ h with z | ⟨_, _, z⟩
    · exact R.nt a ps z
    · exact z ps rfl
  · exact s.zn a (R.zm a h) (R.hne h)
  · refine R.mok s ?_ (R.ob n a m h1 h2)
    have hs := R.hne (List.mem_of_getElem? h1)
    cases q : H a with
    | none => exact absurd q hs
    | some o => exact hk a o q
/-- a new object, frozen from the start -/
theorem Rep.put (R : Rep K S Z μ H st) {p : Addr} {o : HO} (hp : H p = Option.none) (ho : ∀ ps, o ≠ .tbl ps) : Stp Z μ H (upd Z p o) μ (upd H p o) ∧ Rep K S (upd Z p o) μ (upd H p o) st := by
  refine R.grow (fun a u h => ?_) (fun a u h => ?_) fun a u h => ?_
  · rw [upd_ne (ne_of_none h (R.nne hp).1)]; exact h
  · rw [upd_ne (ne_of_none h hp)]; exact h
  · by_cases e : a = p
    · subst e
      rw [upd_same] at h; cases h
      exact .inr ⟨hp, upd_same, ho⟩
    · rw [upd_ne e] at h; exact .inl h
/-- a new object that is not told of yet -/
theorem Rep.lay (R : Rep K S Z μ H st) {p : Addr} {o : HO} (hp : H p = Option.none) : Stp Z μ H Z μ (upd H p o) ∧ Rep K S Z μ (upd H p o) st :=
  R.grow (fun a u h => h) (fun a u h => by rw [upd_ne (ne_of_none h hp)]; exact h) fun a u h => .inl h
end
end Sm
set_option Elab.async false
set_option linter.all false
set_option maxRecDepth 100000
set_option maxHeartbeats 4000000
set_option autoImplicit false
namespace Sm
open PySem PySem.Spec PyProof.Rows L2
inductive Res (α : Type) where
  | ok (a : α) (st : Store)
  | exc (c : Nat) (st : Store)
  | fail
def Res.bind {α β : Type} (r : Res α) (f : α → Store → Res β) : Res β := match r with
  | .ok a st => f a st
  | .exc c st => .exc c st
  | .fail => .fail
/-- a slot: unknown, data, a list of its own, an instance that is being made, what was handed in to be called -/
inductive Sl where
  | un | val (d : D) | own (ds : List D) | obj (c : Nat) (fs : List (Str × D)) | lam | adr (a : Addr)
abbrev Env1 := List Sl
inductive RS where
  | nx (ρ : Env1) (st : Store) | ret (d : D) (st : Store) | bk (ρ : Env1) (st : Store) | ct (ρ : Env1) (st : Store) | exc (c : Nat) (ρ : Env1) (st : Store) | fail
abbrev EM (α : Type) := Env1 → Store → Res α
abbrev SM := Env1 → Store → RS
/-- where the def was entered; the instance that it makes (if it is an __init__) -/
structure Or where
  Z : Hp
  μ : List Addr
  H : Hp
  self : Addr
def isOwn : Option Sl → Prop
  | some (.own _) => True
  | some (.obj _ _) => True
  | _ => False
def slOk (K : Frg) (S : Sta) (H0 : Or) (Z : Hp) (μ : List Addr) (H : Hp) (sl : Sl) (o : Option (Option V)) : Prop := match sl with
  | .un => True
  | .val d => ∃ v, o = some (some v) ∧ isD K S Z μ d v
  | .own ds => ∃ a xs, o = some (some (.ref a)) ∧ H a = some (.lst xs) ∧ isDs K S Z μ ds xs ∧ Z a = none ∧ a ∉ μ ∧ H0.H a = none
  | .obj c fs => ∃ a dx xs, o = some (some (.ref a)) ∧ H a = some (.ins (He.ga K (S.cn c)) dx ((fs.map (·.1)).zip xs)) ∧ isDs K S Z μ (fs.map (·.2)) xs ∧ Z a = none ∧ a ∉ μ ∧ H0.H a = none ∧ a = H0.self
  | .lam => o = some (some (.ref H0.self)) ∧ Stp H0.Z H0.μ H0.H Z μ H
  | .adr a => o = some (some (.ref a))
structure RepL (K : Frg) (S : Sta) (H0 : Or) (Z : Hp) (μ : List Addr) (H : Hp) (σ : L2.St) (ρ : Env1) : Prop where
  len : σ.length = ρ.length
  ok : ∀ (i : Nat) (sl : Sl), ρ[i]? = some sl → slOk K S H0 Z μ H sl σ[i]?
  ap : ∀ (i j : Nat), i ≠ j → isOwn ρ[i]? → isOwn ρ[j]? → σ[i]? ≠ σ[j]?
section
variable {K : Frg} {S : Sta} {H0 : Or} {Z Z1 : Hp} {μ μ1 : List Addr} {H H1 : Hp} {σ : L2.St} {ρ : Env1} {st : Store}
theorem slOk.step {sl : Sl} {o : Option (Option V)} (h : slOk K S H0 Z μ H sl o) (s : Stp Z μ H Z1 μ1 H1) : slOk K S H0 Z1 μ1 H1 sl o := by
  cases sl with
  | un => trivial
  | val d => exact ⟨h.choose, h.choose_spec.1, s.isD h.choose_spec.2⟩
  | own ds =>
    obtain ⟨a, xs, e, h1, h2, h3, h4, h5⟩ := h
    refine ⟨a, xs, e, s.fr a _ h1 h4 (fun ps q => by cases q), s.isDs h2, s.zn a h3 (by rw [h1]; intro q; cases q), fun q => ?_, h5⟩
    rcases s.mn a q with z | z
    · exact h4 z
    · rw [h1] at z; cases z
  | obj c fs =>
    obtain ⟨a, dx, xs, e, h1, h2, h3, h4, h5⟩ := h
    refine ⟨a, dx, xs, e, s.fr a _ h1 h4 (fun ps q => by cases q), s.isDs h2, s.zn a h3 (by rw [h1]; intro q; cases q), fun q => ?_, h5⟩
    rcases s.mn a q with z | z
    · exact h4 z
    · rw [h1] at z; cases z
  | lam => exact ⟨h.1, h.2.trans s⟩
  | adr a => exact h
theorem RepL.step (L : RepL K S H0 Z μ H σ ρ) (s : Stp Z μ H Z1 μ1 H1) : RepL K S H0 Z1 μ1 H1 σ ρ := ⟨L.len, fun i sl h => (L.ok i sl h).step s, L.ap⟩
/-- a slot is stored with data -/
theorem RepL.set (L : RepL K S H0 Z μ H σ ρ) {i : Nat} {d : D} {v : V} (h : isD K S Z μ d v) : RepL K S H0 Z μ H (σ.set i (some v)) (ρ.set i (.val d)) := by
  refine ⟨by rw [List.length_set, List.length_set]; exact L.len, fun j sl e => ?_, fun j k hn h1 h2 => ?_⟩
  · by_cases hj : i = j
    · subst hj
      by_cases hl : i < ρ.length
      · rw [List.getElem?_set_self hl] at e
        cases e
        exact ⟨v, by rw [List.getElem?_set_self (by rw [L.len]; exact hl)], h⟩
      · rw [List.getElem?_eq_none (by rw [List.length_set]; omega)] at e
        cases e
    · rw [List.getElem?_set_ne hj] at e ⊢
      exact L.ok j sl e
  · have no : ∀ k, isOwn (ρ.set i (.val d))[k]? → i ≠ k ∧ isOwn ρ[k]? := fun k h => by
      by_cases hk : i = k
      · subst hk
        by_cases hl : i < ρ.length
        · rw [List.getElem?_set_self hl] at h; exact h.elim
        · rw [List.getElem?_eq_none (by rw [List.length_set]; omega)] at h; exact h.elim
      · rw [List.getElem?_set_ne hk] at h
        exact ⟨hk, h⟩
    obtain ⟨n1, o1⟩ := no j h1
    obtain ⟨n2, o2⟩ := no k h2
    rw [List.getElem?_set_ne n1, List.getElem?_set_ne n2]
    exact L.ap j k hn o1 o2
/-- a slot is forgotten -/
theorem RepL.un (L : RepL K S H0 Z μ H σ ρ) {i : Nat} {o : Option V} : RepL K S H0 Z μ H (σ.set i o) (ρ.set i .un) := by
  refine ⟨by rw [List.length_set, List.length_set]; exact L.len, fun j sl e => ?_, fun j k hn h1 h2 => ?_⟩
  · by_cases hj : i = j
    · subst hj
      by_cases hl : i < ρ.length
      · rw [List.getElem?_set_self hl] at e
        cases e
        exact True.intro
      · rw [List.getElem?_eq_none (by rw [List.length_set]; omega)] at e
        cases e
    · rw [List.getElem?_set_ne hj] at e ⊢
      exact L.ok j sl e
  · have no : ∀ k, isOwn (ρ.set i .un)[k]? → i ≠ k ∧ isOwn ρ[k]? := fun k h => by
      by_cases hk : i = k
      · subst hk
        by_cases hl : i < ρ.length
        · rw [List.getElem?_set_self hl] at h; exact h.elim
        · rw [List.getElem?_eq_none (by rw [List.length_set]; omega)] at h; exact h.elim
      · rw [List.getElem?_set_ne hk] at h
        exact ⟨hk, h⟩
    obtain ⟨n1, o1⟩ := no j h1
    obtain ⟨n2, o2⟩ := no k h2
    rw [List.getElem?_set_ne n1, List.getElem?_set_ne n2]
    exact L.ap j k hn o1 o2
/-- a slot gets a new list of its own -/
theorem RepL.setOwn (L : RepL K S H0 Z μ H σ ρ) {i : Nat} {ds : List D} {a : Addr} {xs : List V} (hn : ∀ (j : Nat), isOwn ρ[j]? → σ[j]? ≠ some (some (V.ref a))) (h1 : H a = some (.lst xs)) (h2 : isDs K S Z μ ds xs) (h3 : Z a = none) (h4 : a ∉ μ) (h5 : H0.H a = none) :
    RepL K S H0 Z μ H (σ.set i (some (.ref a))) (ρ.set i (.own ds)) := by
  refine ⟨by rw [List.length_set, List.length_set]; exact L.len, fun j sl e => ?_, fun j k hjk o1 o2 => ?_⟩
  · by_cases hj : i = j
    · subst hj
      by_cases hl : i < ρ.length
      · rw [List.getElem?_set_self hl] at e
        cases e
        exact ⟨a, xs, by rw [List.getElem?_set_self (by rw [L.len]; exact hl)], h1, h2, h3, h4, h5⟩
      · rw [List.getElem?_eq_none (by rw [List.length_set]; omega)] at e
        cases e
    · rw [List.getElem?_set_ne hj] at e ⊢
      exact L.ok j sl e
  · by_cases hij : i = j
    · subst hij
      have hik : i ≠ k := hjk
      rw [List.getElem?_set_ne hik] at o2 ⊢
      by_cases hl : i < σ.length
      · rw [List.getElem?_set_self hl]
        exact fun q => hn k o2 q.symm
      · rw [List.getElem?_eq_none (by rw [List.length_set, ← L.len]; omega)] at o1
        exact o1.elim
    · rw [List.getElem?_set_ne hij] at o1 ⊢
      by_cases hik : i = k
      · subst hik
        by_cases hl : i < σ.length
        · rw [List.getElem?_set_self hl]
          exact hn j o1
        · rw [List.getElem?_eq_none (by rw [List.length_set, ← L.len]; omega)] at o2
          exact o2.elim
      · rw [List.getElem?_set_ne hik] at o2 ⊢
        exact L.ap j k hjk o1 o2
theorem RepL.ownHp (L : RepL K S H0 Z μ H σ ρ) {j : Nat} (o : isOwn ρ[j]?) {a : Addr} (e : σ[j]? = some (some (.ref a))) : H a ≠ none := by
  cases q : ρ[j]? with
  | none => rw [q] at o; exact o.elim
  | some sl =>
    rw [q] at o
    have h := L.ok j sl q
    cases sl with
    | un => exact o.elim
    | val d => exact o.elim
    | lam => exact o.elim
    | adr _ => exact o.elim
    | own ds =>
      obtain ⟨b, xs, e1, h1, _⟩ := h
      rw [e] at e1
      cases e1
      rw [h1]
      intro q; cases q
    | obj c fs =>
      obtain ⟨b, dx, xs, e1, h1, _⟩ := h
      rw [e] at e1
      cases e1
      rw [h1]
      intro q; cases q
end
abbrev Rl (α β : Type) := Hp → Hp → List Addr → Hp → α → β → Prop
class Mn {α β : Type} (r : Rl α β) : Prop where
  mn : ∀ {H0 H1 Z : Hp} {μ : List Addr} {H : Hp} {a : α} {b : β}, (∀ c, H1 c = none → H0 c = none) → r H1 Z μ H a b → r H0 Z μ H a b
abbrev rD (K : Frg) (S : Sta) : Rl D V := fun _ Z μ _ d v => isD K S Z μ d v
abbrev rDs (K : Frg) (S : Sta) : Rl (List D) (List V) := fun _ Z μ _ d v => isDs K S Z μ d v
abbrev rT : Rl Bool Bool := fun _ _ _ _ a b => a = b
/-- data, or a list that a slot has of its own -/
abbrev rB (K : Frg) (S : Sta) : Rl D V := fun _ Z μ H d v => isD K S Z μ d v ∨ ∃ ds a xs, d = .lst ds ∧ v = .ref a ∧ H a = some (.lst xs) ∧ isDs K S Z μ ds xs ∧ Z a = none ∧ a ∉ μ
/-- a list just made -/
abbrev rF (K : Frg) (S : Sta) : Rl (List D) V := fun H0 Z μ H ds v => ∃ a xs, v = .ref a ∧ H0 a = none ∧ H a = some (.lst xs) ∧ isDs K S Z μ ds xs ∧ Z a = none ∧ a ∉ μ
instance {K : Frg} {S : Sta} : Mn (rD K S) := ⟨fun _ h => h⟩
instance {K : Frg} {S : Sta} : Mn (rDs K S) := ⟨fun _ h => h⟩
instance : Mn rT := ⟨fun _ h => h⟩
instance {K : Frg} {S : Sta} : Mn (rB K S) := ⟨fun _ h => h⟩
instance {K : Frg} {S : Sta} : Mn (rF K S) := ⟨fun k ⟨a, xs, e, h, r⟩ => ⟨a, xs, e, k a h, r⟩⟩
def Po {α β : Type} (K : Frg) (S : Sta) (W : WX) (σ : L2.St) (Z : Hp) (μ : List Addr) (H : Hp) (rel : Rl α β) (r : Res α) (Q : β → Hp → Prop) : Prop := match r with
  | .ok a st => ∀ b Z' μ' H', Stp Z μ H Z' μ' H' → Rep K S Z' μ' H' st → rel H Z' μ' H' a b → Q b H'
  | .exc c st => ∀ Z' μ' H', Stp Z μ H Z' μ' H' → Rep K S Z' μ' H' st → W (.ref (He.ga K (S.cn c))) none σ H'
  | .fail => False
theorem Po.later {α β : Type} {K : Frg} {S : Sta} {W : WX} {σ : L2.St} {Z Z1 : Hp} {μ μ1 : List Addr} {H H1 : Hp} {rel : Rl α β} [Mn rel] {r : Res α} {Q : β → Hp → Prop} (h : Po K S W σ Z μ H rel r Q) (s : Stp Z μ H Z1 μ1 H1) : Po K S W σ Z1 μ1 H1 rel r Q := by
  cases r with
  | ok a st => exact fun b Z' μ' H' s' R q => h b Z' μ' H' (s.trans s') R (Mn.mn s.th q)
  | exc c st => exact fun Z' μ' H' s' R => h Z' μ' H' (s.trans s') R
  | fail => exact h
def tG {α β : Type} (X : Cx) (S : Sta) (W : WX) (O : Or) (rel : Rl α β) (m : EM α) : L2.St → Hp → (β → Hp → Prop) → Prop := fun σ H Q =>
  ∃ Z μ ρ st, RepL X.K S O Z μ H σ ρ ∧ Rep X.K S Z μ H st ∧ Po X.K S W σ Z μ H rel (m ρ st) Q
section
variable {X : Cx} {S : Sta} {W : WX} {O : Or} {Z : Hp} {μ : List Addr} {H : Hp} {σ : L2.St} {ρ : Env1} {st : Store} {α β γ δ : Type}
/-- first m, then f -/
theorem tG_bind {rel : Rl α β} {rel2 : Rl γ δ} [Mn rel2] {m : EM α} {f : α → Store → Res γ} {Q : δ → Hp → Prop} {k : β → Hp → Prop} (L : RepL X.K S O Z μ H σ ρ) (R : Rep X.K S Z μ H st)
    (h : Po X.K S W σ Z μ H rel2 ((m ρ st).bind f) Q)
    (kk : ∀ a b st1 Z1 μ1 H1, Stp Z μ H Z1 μ1 H1 → RepL X.K S O Z1 μ1 H1 σ ρ → Rep X.K S Z1 μ1 H1 st1 → rel H Z1 μ1 H1 a b → Po X.K S W σ Z1 μ1 H1 rel2 (f a st1) Q → k b H1) : tG X S W O rel m σ H k := by
  refine ⟨Z, μ, ρ, st, L, R, ?_⟩
  cases e : m ρ st with
  | ok a st1 =>
    rw [e] at h
    exact fun b Z' μ' H' s R' q => kk a b st1 Z' μ' H' s (L.step s) R' q (Po.later h s)
  | exc c st1 =>
    rw [e] at h
    exact h
  | fail =>
    rw [e] at h
    exact h.elim
abbrev tE (X : Cx) (S : Sta) (W : WX) (O : Or) (m : EM D) : TE := tG X S W O (rD X.K S) m
abbrev SE (X : Cx) (S : Sta) (W : WX) (O : Or) (e : Expr) (m : EM D) : Prop := PE X e (tG X S W O (rD X.K S) m)
abbrev SB (X : Cx) (S : Sta) (W : WX) (O : Or) (e : Expr) (m : EM D) : Prop := PE X e (tG X S W O (rB X.K S) m)
abbrev SF (X : Cx) (S : Sta) (W : WX) (O : Or) (e : Expr) (m : EM (List D)) : Prop := PE X e (tG X S W O (rF X.K S) m)
abbrev SA (X : Cx) (S : Sta) (W : WX) (O : Or) (es : List Expr) (m : EM (List D)) : Prop := PA X es (tG X S W O (rDs X.K S) m)
abbrev ST (X : Cx) (S : Sta) (W : WX) (O : Or) (e : Expr) (m : EM Bool) : Prop := PT X e (tG X S W O rT m)
abbrev SW (X : Cx) (S : Sta) (W : WX) (O : Or) (e : Expr) (m : EM Bool) : Prop := PW X e (tG X S W O rT m)
theorem pe_imp {e : Expr} {t t' : TE} (h : PE X e t) (i : ∀ σ H Q, t' σ H Q → t σ H Q) : PE X e t' := ⟨fun pins s σ H Q I q => h.run pins s σ H Q I (i _ _ _ q)⟩
theorem pt_imp {e : Expr} {t t' : TT} (h : PT X e t) (i : ∀ σ H Q, t' σ H Q → t σ H Q) : PT X e t' := ⟨fun pins s σ H Q I q => h.run pins s σ H Q I (i _ _ _ q)⟩
theorem pw_imp {e : Expr} {t t' : TT} (h : PW X e t) (i : ∀ σ H Q, t' σ H Q → t σ H Q) : PW X e t' := ⟨fun wh pins s σ H Q I q => h.run wh pins s σ H Q I (i _ _ _ q)⟩
theorem pa_imp {e : List Expr} {t t' : TA} (h : PA X e t) (i : ∀ σ H Q, t' σ H Q → t σ H Q) : PA X e t' := ⟨fun pos pins s σ H Q I q => h.run pos pins s σ H Q I (i _ _ _ q)⟩
theorem ps_imp {e : Stmt} {t t' : TS} (h : PS X e t) (i : ∀ Dn σ H, t' Dn σ H → t Dn σ H) : PS X e t' := ⟨fun pins s σ H Dn I q => h.run pins s σ H Dn I (i _ _ _ q)⟩
theorem pss_imp {e : List Stmt} {t t' : TS} (h : PSs X e t) (i : ∀ Dn σ H, t' Dn σ H → t Dn σ H) : PSs X e t' := ⟨fun pins s σ H Dn I q => h.run pins s σ H Dn I (i _ _ _ q)⟩
end
def PoS (K : Frg) (S : Sta) (W : WX) (O : Or) (r : RS) (Dn : Ends) : Prop := match r with
  | .nx ρ st => ∀ σ Z μ H, Stp O.Z O.μ O.H Z μ H → RepL K S O Z μ H σ ρ → Rep K S Z μ H st → Dn.nx σ H
  | .bk ρ st => ∀ σ Z μ H, Stp O.Z O.μ O.H Z μ H → RepL K S O Z μ H σ ρ → Rep K S Z μ H st → Dn.bk σ H
  | .ct ρ st => ∀ σ Z μ H, Stp O.Z O.μ O.H Z μ H → RepL K S O Z μ H σ ρ → Rep K S Z μ H st → Dn.ct σ H
  | .ret d st => ∀ v Z μ H, Stp O.Z O.μ O.H Z μ H → Rep K S Z μ H st → isD K S Z μ d v → Dn.rt v H
  | .exc c ρ st => ∀ σ Z μ H, Stp O.Z O.μ O.H Z μ H → RepL K S O Z μ H σ ρ → Rep K S Z μ H st → W (.ref (He.ga K (S.cn c))) none σ H
  | .fail => False
def tS (X : Cx) (S : Sta) (W : WX) (O : Or) (m : SM) : TS := fun Dn σ H => ∃ Z μ ρ st, Stp O.Z O.μ O.H Z μ H ∧ RepL X.K S O Z μ H σ ρ ∧ Rep X.K S Z μ H st ∧ PoS X.K S W O (m ρ st) Dn
abbrev SS (X : Cx) (S : Sta) (W : WX) (O : Or) (e : Stmt) (m : SM) : Prop := PS X e (tS X S W O m)
abbrev SSs (X : Cx) (S : Sta) (W : WX) (O : Or) (e : List Stmt) (m : SM) : Prop := PSs X e (tS X S W O m)
/-- an expression's end in a statement: ρ the slots -/
def Res.toS {α : Type} (r : Res α) (ρ : Env1) (f : α → Store → RS) : RS := match r with
  | .ok a st => f a st
  | .exc c st => .exc c ρ st
  | .fail => .fail
section
variable {X : Cx} {S : Sta} {W : WX} {O : Or} {Z : Hp} {μ : List Addr} {H : Hp} {σ : L2.St} {ρ : Env1} {st : Store} {α β : Type}
/-- first the expression m, then the statement's rest -/
theorem tS_bind {rel : Rl α β} {m : EM α} {f : α → Store → RS} {Dn : Ends} {k : β → Hp → Prop} (s : Stp O.Z O.μ O.H Z μ H) (L : RepL X.K S O Z μ H σ ρ) (R : Rep X.K S Z μ H st) (h : PoS X.K S W O ((m ρ st).toS ρ f) Dn)
    (kk : ∀ a b st1 Z1 μ1 H1, Stp O.Z O.μ O.H Z1 μ1 H1 → Stp Z μ H Z1 μ1 H1 → RepL X.K S O Z1 μ1 H1 σ ρ → Rep X.K S Z1 μ1 H1 st1 → rel H Z1 μ1 H1 a b → PoS X.K S W O (f a st1) Dn → k b H1) : tG X S W O rel m σ H k := by
  refine ⟨Z, μ, ρ, st, L, R, ?_⟩
  cases e : m ρ st with
  | ok a st1 =>
    rw [e] at h
    exact fun b Z' μ' H' s' R' q => kk a b st1 Z' μ' H' (s.trans s') s' (L.step s') R' q h
  | exc c st1 =>
    rw [e] at h
    exact fun Z' μ' H' s' R' => h σ Z' μ' H' (s.trans s') (L.step s') R'
  | fail =>
    rw [e] at h
    exact h.elim
end
end Sm
set_option Elab.async false
set_option linter.all false
set_option maxRecDepth 100000
set_option maxHeartbeats 4000000
set_option autoImplicit false
namespace Sm
open PySem PySem.Spec PyProof.Rows L2
section
variable {X : Cx} {S : Sta} {W : WX} {O : Or}
def cM {α : Type} (a : α) : EM α := fun _ st => .ok a st
def varM (i : Nat) : EM D := fun ρ st => match ρ[i]? with
  | some (.val d) => .ok d st
  | _ => .fail
/-- a name whose list is only looked at -/
def varB (i : Nat) : EM D := fun ρ st => match ρ[i]? with
  | some (.val d) => .ok d st
  | some (.own ds) => .ok (.lst ds) st
  | _ => .fail
theorem s_c {e : Expr} {d : D} {v : V} (h : PE X e (tC v)) (hd : ∀ Z μ, isD X.K S Z μ d v) : SE X S W O e (cM d) :=
  pe_imp h fun σ H Q ⟨Z, μ, ρ, st, L, R, p⟩ => p v Z μ H Stp.refl R (hd Z μ)
theorem s_int {i : Int} {j : Nat} {pos : Pos} : SE X S W O (.Constant (.int i) j pos) (cM (.int i)) := s_c pe_int fun _ _ => rfl
theorem s_bl {b : Bool} {j : Nat} {pos : Pos} : SE X S W O (.Constant (.bool b) j pos) (cM (.bl b)) := s_c pe_bl fun _ _ => rfl
theorem s_non {j : Nat} {pos : Pos} : SE X S W O (.Constant .none j pos) (cM .non) := s_c pe_non fun _ _ => rfl
theorem s_str {x : Str} {j : Nat} {pos : Pos} : SE X S W O (.Constant (.str x) j pos) (cM (.str x)) := s_c pe_str fun _ _ => rfl
theorem s_v (i : Nat) {x : Str} {pos : Pos} (hN : X.N[i]? = some x := by rfl) (hv : Vis X.env.scope x := by first | exact Or.inl rfl | exact Or.inr (Or.inl rfl) | exact Or.inr (Or.inr rfl)) (hd : (x == ("__debug__" : Str)) = false := by decide)
    (hcd : (x == ("__classdict__" : Str)) = false := by decide) : SE X S W O (.Name x pos) (varM i) :=
  pe_imp (pe_var hN hv hd hcd) fun σ H Q ⟨Z, μ, ρ, st, L, R, p⟩ => by
    unfold varM at p
    cases e : ρ[i]? with
    | none => rw [e] at p; exact p.elim
    | some sl =>
      rw [e] at p
      cases sl with
      | val d =>
        obtain ⟨v, e1, q⟩ := L.ok i _ e
        exact ⟨v, e1, p v Z μ H Stp.refl R q⟩
      | _ => exact p.elim
theorem s_vb (i : Nat) {x : Str} {pos : Pos} (hN : X.N[i]? = some x := by rfl) (hv : Vis X.env.scope x := by first | exact Or.inl rfl | exact Or.inr (Or.inl rfl) | exact Or.inr (Or.inr rfl)) (hd : (x == ("__debug__" : Str)) = false := by decide)
    (hcd : (x == ("__classdict__" : Str)) = false := by decide) : SB X S W O (.Name x pos) (varB i) :=
  pe_imp (pe_var hN hv hd hcd) fun σ H Q ⟨Z, μ, ρ, st, L, R, p⟩ => by
    unfold varB at p
    cases e : ρ[i]? with
    | none => rw [e] at p; exact p.elim
    | some sl =>
      rw [e] at p
      cases sl with
      | val d =>
        obtain ⟨v, e1, q⟩ := L.ok i _ e
        exact ⟨v, e1, p v Z μ H Stp.refl R (.inl q)⟩
      | own ds =>
        obtain ⟨a, xs, e1, h1, h2, h3, h4, _⟩ := L.ok i _ e
        exact ⟨_, e1, p _ Z μ H Stp.refl R (.inr ⟨ds, a, xs, rfl, rfl, h1, h2, h3, h4⟩)⟩
      | _ => exact p.elim
theorem Po.imp {α β : Type} {K : Frg} {σ : L2.St} {Z : Hp} {μ : List Addr} {H : Hp} {rel rel' : Rl α β} {r : Res α} {Q : β → Hp → Prop} (h : Po K S W σ Z μ H rel r Q) (i : ∀ Z μ H' a b, rel' H Z μ H' a b → rel H Z μ H' a b) : Po K S W σ Z μ H rel' r Q := by
  cases r with
  | ok a st => exact fun b Z' μ' H' s R q => h b Z' μ' H' s R (i _ _ _ _ _ q)
  | exc c st => exact h
  | fail => exact h
theorem sb {e : Expr} {m : EM D} (h : SE X S W O e m) : SB X S W O e m :=
  pe_imp h fun σ H Q ⟨Z, μ, ρ, st, L, R, p⟩ => ⟨Z, μ, ρ, st, L, R, p.imp fun _ _ _ _ _ q => .inl q⟩
theorem rB.step {K : Frg} {H0 Z Z1 : Hp} {μ μ1 : List Addr} {H H1 : Hp} {d : D} {v : V} (h : rB K S H0 Z μ H d v) (s : Stp Z μ H Z1 μ1 H1) : rB K S H0 Z1 μ1 H1 d v := by
  rcases h with h | ⟨ds, a, xs, e, e1, h1, h2, h3, h4⟩
  · exact .inl (s.isD h)
  · refine .inr ⟨ds, a, xs, e, e1, s.fr a _ h1 h4 (fun ps q => by cases q), s.isDs h2, s.zn a h3 (by rw [h1]; intro q; cases q), fun q => ?_⟩
    rcases s.mn a q with z | z
    · exact h4 z
    · rw [h1] at z; cases z
/-- the items of what is a sequence -/
def seqOf (d : D) (st : Store) : Option (List D) := match d with
  | .lst ds => some ds
  | .tup ds => some ds
  | .ref n => (match st[n]? with
    | some (.lst ds) => some ds
    | _ => none)
  | _ => none
theorem seqOf_at {K : Frg} {H0 Z : Hp} {μ : List Addr} {H : Hp} {st : Store} {d : D} {v : V} {ds : List D} (R : Rep K S Z μ H st) (h : rB K S H0 Z μ H d v) (e : seqOf d st = some ds) : ∃ a xs, v = .ref a ∧ (SqL K H a xs ∨ SqT K H a xs) ∧ isDs K S Z μ ds xs := by
  rcases h with h | ⟨es, a, xs, rfl, e1, h1, h2, h3, h4⟩
  · cases d with
    | lst es =>
      obtain ⟨a, xs, e1, q, r⟩ := h
      cases e
      exact ⟨a, xs, e1, .inl (sql_mono R.le q), r⟩
    | tup es =>
      obtain ⟨a, xs, e1, q, r⟩ := h
      cases e
      exact ⟨a, xs, e1, .inr (sqt_mono R.le q), r⟩
    | ref n =>
      obtain ⟨a, e1, q⟩ := h
      have e : (match st[n]? with
        | some (MO.lst ds) => some ds
        | _ => none) = some ds := e
      cases e2 : st[n]? with
      | none => rw [e2] at e; cases e
      | some m =>
        rw [e2] at e
        have z := R.ob n a m q e2
        cases m with
        | lst es =>
          cases e
          obtain ⟨xs, z1, z2⟩ := z
          exact ⟨a, xs, e1, .inl (.of z1), z2⟩
        | dic kvs => cases e
    | _ => cases e
  · cases e
    exact ⟨a, xs, e1, .inl (.of h1), h2⟩
def op2 (f : D → D → Store → Option D) (ma mb : EM D) : EM D := fun ρ st => (ma ρ st).bind fun a st1 => (mb ρ st1).bind fun b st2 => match f a b st2 with
  | some d => .ok d st2
  | none => .fail
/-- r is served by f -/
def OpF (K : Frg) (S : Sta) (f : D → D → Store → Option D) (r : R2) : Prop := ∀ (d e c : D) (x y : V) (Z : Hp) (μ : List Addr) (H : Hp) (st : Store) (Q : VK), Rep K S Z μ H st → (∀ H0, rB K S H0 Z μ H d x) → (∀ H0, rB K S H0 Z μ H e y) → f d e st = some c →
  (∀ v Z' μ' H', Stp Z μ H Z' μ' H' → Rep K S Z' μ' H' st → isD K S Z' μ' c v → Q v H') → r x y H Q
theorem tOp_of {f : D → D → Store → Option D} {r : R2} {ma mb : EM D} (hf : OpF X.K S f r) (σ : L2.St) (H : Hp) (Q : VK) (h : tE X S W O (op2 f ma mb) σ H Q) : tOp r (tG X S W O (rB X.K S) ma) (tG X S W O (rB X.K S) mb) σ H Q := by
  obtain ⟨Z, μ, ρ, st, L, R, p⟩ := h
  refine tG_bind L R p fun a x st1 Z1 μ1 H1 s1 L1 R1 i1 p1 => ?_
  refine tG_bind L1 R1 p1 fun b y st2 Z2 μ2 H2 s2 L2 R2 i2 p2 => ?_
  cases e : f a b st2 with
  | none => rw [e] at p2; exact p2.elim
  | some c =>
    rw [e] at p2
    exact hf a b c x y Z2 μ2 H2 st2 Q R2 (fun _ => rB.step i1 s2) (fun _ => i2) e fun v Z' μ' H' s R' q => p2 v Z' μ' H' s R' q
theorem s_op {op : Operator} {f : D → D → Store → Option D} {r : R2} {a b : Expr} {pos : Pos} {ma mb : EM D} (ho : OpR X (binaryOp op) r) (hf : OpF X.K S f r) (ha : SB X S W O a ma) (hb : SB X S W O b mb) : SE X S W O (.BinOp a op b pos) (op2 f ma mb) :=
  pe_imp (pe_op ho ha hb) (tOp_of hf)
theorem s_cmp {op : CmpOp} {f : D → D → Store → Option D} {r : R2} {a b : Expr} {pos : Pos} {ma mb : EM D} (ho : OpR X (compareOp op) r) (hf : OpF X.K S f r) (ha : SB X S W O a ma) (hb : SB X S W O b mb) (hm : behindInMarks op b = false := by first | exact nomark _ | rfl) :
    SE X S W O (.Compare a [op] [b] pos) (op2 f ma mb) := pe_imp (pe_cmpR ho ha hb hm) (tOp_of hf)
/-- a test of what is a truth -/
def tst (m : EM D) : EM Bool := fun ρ st => (m ρ st).bind fun d st1 => match d with
  | .bl b => .ok b st1
  | _ => .fail
theorem tB_of {m : EM D} (σ : L2.St) (H : Hp) (Q : Bool → Hp → Prop) (h : tG X S W O rT (tst m) σ H Q) : tG X S W O (rD X.K S) m σ H fun x H' => ∃ k, x = .bl k ∧ Q k H' := by
  obtain ⟨Z, μ, ρ, st, L, R, p⟩ := h
  refine tG_bind L R p fun a x st1 Z1 μ1 H1 s1 L1 R1 i1 p1 => ?_
  cases a with
  | bl b => exact ⟨b, i1, p1 b Z1 μ1 H1 Stp.refl R1 rfl⟩
  | _ => exact p1.elim
theorem t_cmp {op : CmpOp} {f : D → D → Store → Option D} {r : R2} {a b : Expr} {pos : Pos} {ma mb : EM D} (ho : OpR X (compareOp op) r) (hf : OpF X.K S f r) (ha : SB X S W O a ma) (hb : SB X S W O b mb) (hm : behindInMarks op b = false := by first | exact nomark _ | rfl) :
    ST X S W O (.Compare a [op] [b] pos) (tst (op2 f ma mb)) :=
  pt_imp (pt_cmpR ho ha hb hm) fun σ H Q h => by
    have h2 := tB_of (m := op2 f ma mb) σ H Q h
    exact tOp_of hf σ H _ h2
theorem t_val {e : Expr} {m : EM D} (h : SE X S W O e m) (he : ∀ whole, isTrue e X.env whole = (do let v ← whole; standAt e.pos; holding [v] (truthy v)) := by intro _; rfl) : ST X S W O e (tst m) :=
  pt_imp (pt_val h he) tB_of
/-- a < b < c -/
def chn (f g : D → D → Store → Option D) (ma mb mc : EM D) : EM D := fun ρ st => (ma ρ st).bind fun a st1 => (mb ρ st1).bind fun b st2 => match f a b st2 with
  | some (.bl true) => (mc ρ st2).bind fun c st3 => (match g b c st3 with
    | some d => .ok d st3
    | none => .fail)
  | some (.bl false) => .ok (.bl false) st2
  | _ => .fail
def andM (a b : EM Bool) : EM Bool := fun ρ st => (a ρ st).bind fun c st1 => if c = true then b ρ st1 else .ok false st1
def orM (a b : EM Bool) : EM Bool := fun ρ st => (a ρ st).bind fun c st1 => if c = true then .ok true st1 else b ρ st1
def notM (a : EM Bool) : EM Bool := fun ρ st => (a ρ st).bind fun c st1 => .ok (!c) st1
variable {a b : Expr} {rest : List Expr} {pos : Pos} {ma mb : EM Bool}
theorem w_and1 (ha : ST X S W O a ma) : SW X S W O (.BoolOp .And [a] pos) ma := pw_and1 ha
theorem w_or1 (ha : ST X S W O a ma) : SW X S W O (.BoolOp .Or [a] pos) ma := pw_or1 ha
theorem w_and (ha : ST X S W O a ma) (hb : SW X S W O (.BoolOp .And (b :: rest) pos) mb) : SW X S W O (.BoolOp .And (a :: b :: rest) pos) (andM ma mb) :=
  pw_imp (pw_and ha hb) fun σ H Q ⟨Z, μ, ρ, st, L, R, p⟩ => by
    refine tG_bind L R p fun c k st1 Z1 μ1 H1 s1 L1 R1 i1 p1 => ?_
    obtain rfl : c = k := i1
    cases c with
    | true => exact iteT ⟨_, _, _, _, L1, R1, p1⟩
    | false => exact iteF (p1 false Z1 μ1 H1 Stp.refl R1 rfl)
theorem w_or (ha : ST X S W O a ma) (hb : SW X S W O (.BoolOp .Or (b :: rest) pos) mb) : SW X S W O (.BoolOp .Or (a :: b :: rest) pos) (orM ma mb) :=
  pw_imp (pw_or ha hb) fun σ H Q ⟨Z, μ, ρ, st, L, R, p⟩ => by
    refine tG_bind L R p fun c k st1 Z1 μ1 H1 s1 L1 R1 i1 p1 => ?_
    obtain rfl : c = k := i1
    cases c with
    | true => exact iteT (p1 true Z1 μ1 H1 Stp.refl R1 rfl)
    | false => exact iteF ⟨_, _, _, _, L1, R1, p1⟩
theorem t_w {e : Expr} (h : SW X S W O e ma) : ST X S W O e ma := h.pt
theorem t_not (ha : ST X S W O a ma) : ST X S W O (.UnaryOp .Not a pos) (notM ma) :=
  pt_imp (pt_not ha) fun σ H Q ⟨Z, μ, ρ, st, L, R, p⟩ => by
    refine tG_bind L R p fun c k st1 Z1 μ1 H1 s1 L1 R1 i1 p1 => ?_
    obtain rfl : c = k := i1
    exact p1 (!c) Z1 μ1 H1 Stp.refl R1 rfl
/-- as values: the parts are truths -/
def andV (a b : EM D) : EM D := fun ρ st => (tst a ρ st).bind fun c st1 => if c = true then b ρ st1 else .ok (.bl false) st1
def orV (a b : EM D) : EM D := fun ρ st => (tst a ρ st).bind fun c st1 => if c = true then .ok (.bl true) st1 else b ρ st1
def notV (a : EM D) : EM D := fun ρ st => (tst a ρ st).bind fun c st1 => .ok (.bl (!c)) st1
variable {da db dc : EM D}
theorem tst_bind {m : EM D} {β : Type} {f : Bool → Store → Res β} {ρ : Env1} {st : Store} : (tst m ρ st).bind f = (m ρ st).bind fun d st1 => match d with
    | .bl b => f b st1
    | _ => .fail := by
  unfold tst
  cases m ρ st with
  | ok d st1 => cases d <;> rfl
  | exc c st1 => rfl
  | fail => rfl
theorem s_one {op : BoolOp} (h : SE X S W O a da) : SE X S W O (.BoolOp op [a] pos) da := pe_one h
theorem s_and (ha : SE X S W O a da) (hb : SE X S W O (.BoolOp .And (b :: rest) pos) db) : SE X S W O (.BoolOp .And (a :: b :: rest) pos) (andV da db) :=
  pe_imp (pe_and ha hb) fun σ H Q ⟨Z, μ, ρ, st, L, R, p⟩ => by
    unfold andV at p
    rw [tst_bind] at p
    refine tG_bind L R p fun d x st1 Z1 μ1 H1 s1 L1 R1 i1 p1 => ?_
    cases d with
    | bl c =>
      refine ⟨c, i1, ?_⟩
      cases c with
      | true => exact iteT ⟨_, _, _, _, L1, R1, p1⟩
      | false => exact iteF (p1 _ Z1 μ1 H1 Stp.refl R1 rfl)
    | _ => exact p1.elim
theorem s_or (ha : SE X S W O a da) (hb : SE X S W O (.BoolOp .Or (b :: rest) pos) db) : SE X S W O (.BoolOp .Or (a :: b :: rest) pos) (orV da db) :=
  pe_imp (pe_or ha hb) fun σ H Q ⟨Z, μ, ρ, st, L, R, p⟩ => by
    unfold orV at p
    rw [tst_bind] at p
    refine tG_bind L R p fun d x st1 Z1 μ1 H1 s1 L1 R1 i1 p1 => ?_
    cases d with
    | bl c =>
      refine ⟨c, i1, ?_⟩
      cases c with
      | true => exact iteT (p1 _ Z1 μ1 H1 Stp.refl R1 rfl)
      | false => exact iteF ⟨_, _, _, _, L1, R1, p1⟩
    | _ => exact p1.elim
theorem s_not (ha : SE X S W O a da) : SE X S W O (.UnaryOp .Not a pos) (notV da) :=
  pe_imp (pe_not ha) fun σ H Q ⟨Z, μ, ρ, st, L, R, p⟩ => by
    unfold notV at p
    rw [tst_bind] at p
    refine tG_bind L R p fun d x st1 Z1 μ1 H1 s1 L1 R1 i1 p1 => ?_
    cases d with
    | bl c => exact ⟨c, i1, p1 _ Z1 μ1 H1 Stp.refl R1 rfl⟩
    | _ => exact p1.elim
def ifM {α : Type} (t : EM Bool) (a b : EM α) : EM α := fun ρ st => (t ρ st).bind fun c st1 => if c = true then a ρ st1 else b ρ st1
theorem s_ifG {rel : Rl D V} [Mn rel] {c : Expr} {t : EM Bool} (hc : ST X S W O c t) (ha : PE X a (tG X S W O rel da)) (hb : PE X b (tG X S W O rel db)) : PE X (.IfExp c a b pos) (tG X S W O rel (ifM t da db)) :=
  pe_imp (pe_ifExp hc ha hb) fun σ H Q ⟨Z, μ, ρ, st, L, R, p⟩ => by
    refine tG_bind L R p fun c k st1 Z1 μ1 H1 s1 L1 R1 i1 p1 => ?_
    obtain rfl : c = k := i1
    cases c with
    | true => exact iteT ⟨_, _, _, _, L1, R1, p1⟩
    | false => exact iteF ⟨_, _, _, _, L1, R1, p1⟩
theorem s_if {c : Expr} {t : EM Bool} (hc : ST X S W O c t) (ha : SE X S W O a da) (hb : SE X S W O b db) : SE X S W O (.IfExp c a b pos) (ifM t da db) := s_ifG hc ha hb
def nilM : EM (List D) := fun _ st => .ok [] st
def consM (a : EM D) (r : EM (List D)) : EM (List D) := fun ρ st => (a ρ st).bind fun d st1 => (r ρ st1).bind fun ds st2 => .ok (d :: ds) st2
theorem a_nil : SA X S W O [] nilM := pa_imp pa_nil fun σ H Q ⟨Z, μ, ρ, st, L, R, p⟩ => p [] Z μ H Stp.refl R rfl
theorem a_cons {e : Expr} {es : List Expr} {m : EM D} {r : EM (List D)} (ha : SE X S W O e m) (hr : SA X S W O es r) (hs : starEach (e :: es) X.env = (false, eval e X.env) :: starEach es X.env := by rfl) : SA X S W O (e :: es) (consM m r) :=
  pa_imp (pa_cons ha hr hs) fun σ H Q ⟨Z, μ, ρ, st, L, R, p⟩ => by
    refine tG_bind L R p fun d x st1 Z1 μ1 H1 s1 L1 R1 i1 p1 => ?_
    refine tG_bind L1 R1 p1 fun ds xs st2 Z2 μ2 H2 s2 L2 R2 i2 p2 => ?_
    exact p2 (x :: xs) Z2 μ2 H2 Stp.refl R2 (isDs_cons (s2.isD i1) i2)
theorem line1000 : 1000 ≤ sizeLine := by rw [sizeLine_eq]; decide
def tupM (m : EM (List D)) : EM D := fun ρ st => (m ρ st).bind fun ds st1 => if ds.length ≤ 1000 then .ok (.tup ds) st1 else .fail
theorem s_tup {es : List Expr} {k : Nat} {m : EM (List D)} (h : SA X S W O es m) : SE X S W O (.Tuple es k pos) (tupM m) :=
  pe_imp (pe_tup h) fun σ H Q ⟨Z, μ, ρ, st, L, R, p⟩ => by
    refine tG_bind L R p fun ds xs st1 Z1 μ1 H1 s1 L1 R1 i1 p1 => ?_
    by_cases hl : ds.length ≤ 1000
    · rw [if_pos hl] at p1
      refine ⟨by rw [isDs_len i1]; exact Nat.le_trans hl line1000, fun q hq => ?_⟩
      obtain ⟨s2, R2⟩ := R1.put (o := .tup xs) hq (fun ps z => by cases z)
      exact p1 _ _ μ1 _ s2 R2 ⟨q, xs, rfl, .inl upd_same, s2.isDs i1⟩
    · rw [if_neg hl] at p1
      exact p1.elim
/-- a list that is made -/
def lstM (m : EM (List D)) : EM (List D) := fun ρ st => (m ρ st).bind fun ds st1 => if ds.length ≤ 1000 then .ok ds st1 else .fail
theorem f_lst {es : List Expr} {m : EM (List D)} (h : SA X S W O es m) : SF X S W O (.List es pos) (lstM m) :=
  pe_imp (pe_lst h) fun σ H Q ⟨Z, μ, ρ, st, L, R, p⟩ => by
    refine tG_bind L R p fun ds xs st1 Z1 μ1 H1 s1 L1 R1 i1 p1 => ?_
    by_cases hl : ds.length ≤ 1000
    · rw [if_pos hl] at p1
      refine ⟨by rw [isDs_len i1]; exact Nat.le_trans hl line1000, fun q hq => ?_⟩
      obtain ⟨s2, R2⟩ := R1.lay (o := .lst xs) hq
      exact p1 _ _ μ1 _ s2 R2 ⟨q, xs, rfl, hq, upd_same, i1, (R1.nne hq).1, (R1.nne hq).2⟩
    · rw [if_neg hl] at p1
      exact p1.elim
/-- a new list, kept as it is from now on -/
def frzM (m : EM (List D)) : EM D := fun ρ st => (m ρ st).bind fun ds st1 => .ok (.lst ds) st1
theorem Rep.freeze {K : Frg} {Z Z1 : Hp} {μ μ1 : List Addr} {H H1 : Hp} {st : Store} {a : Addr} {u : HO} (s : Stp Z μ H Z1 μ1 H1) (R : Rep K S Z1 μ1 H1 st) (h0 : H a = none) (h1 : H1 a = some u) (h2 : Z1 a = none) (h3 : a ∉ μ1) (ht : ∀ ps, u ≠ .tbl ps) :
    Stp Z μ H (upd Z1 a u) μ1 H1 ∧ Rep K S (upd Z1 a u) μ1 H1 st := by
  have hz : ∀ b o, Z1 b = some o → upd Z1 a u b = some o := fun b o h => by rw [upd_ne (ne_of_none h h2)]; exact h
  refine ⟨⟨fun b o h => hz b o (s.zz b o h), s.mm, s.fr, s.th, fun b h n => ?_, s.mn⟩, ⟨fun b o h => ?_, fun b ps h => ?_, R.len, R.nd, fun b h => ?_, fun n b m e1 e2 => ?_, R.tb⟩⟩
  · have hb : b ≠ a := fun e => by rw [e] at n; exact n h0
    rw [upd_ne hb]
    exact s.zn b h n
  · by_cases e : b = a
    · rw [e, upd_same] at h
      rw [e, h1]
      exact h
    · rw [upd_ne e] at h
      exact R.le b o h
  · by_cases e : b = a
    · rw [e, upd_same] at h
      exact ht ps (Option.some.inj h)
    · rw [upd_ne e] at h
      exact R.nt b ps h
  · have hb : b ≠ a := fun e => by rw [e] at h; exact h3 h
    rw [upd_ne hb]
    exact R.zm b h
  · have q := R.ob n b m e1 e2
    cases m with
    | lst ds =>
      obtain ⟨ys, q1, q2⟩ := q
      exact ⟨ys, q1, isDs_mono hz (fun _ _ z => z) _ _ q2⟩
    | dic kvs =>
      obtain ⟨ys, q1, q2⟩ := q
      exact ⟨ys, q1, isKs_mono hz (fun _ _ z => z) _ _ q2⟩
theorem s_frz {e : Expr} {m : EM (List D)} (h : SF X S W O e m) : SE X S W O e (frzM m) :=
  pe_imp h fun σ H Q ⟨Z, μ, ρ, st, L, R, p⟩ => by
    refine ⟨Z, μ, ρ, st, L, R, ?_⟩
    unfold frzM at p
    cases e : m ρ st with
    | ok ds st1 =>
      rw [e] at p
      intro v Z1 μ1 H1 s1 R1 q
      obtain ⟨a, xs, rfl, h0, h1, h2, h3, h4⟩ := q
      obtain ⟨s2, R2⟩ := Rep.freeze s1 R1 h0 h1 h3 h4 (fun ps z => by cases z)
      exact p _ _ μ1 H1 s2 R2 ⟨a, xs, rfl, .inl (.inl upd_same), isDs_mono (fun b o z => by rw [upd_ne (ne_of_none z h3)]; exact z) (fun _ _ z => z) _ _ h2⟩
    | exc c st1 =>
      rw [e] at p
      exact p
    | fail =>
      rw [e] at p
      exact p.elim
end
section
variable {X : Cx} {S : Sta}
theorem rB_int {K : Frg} {H0 Z : Hp} {μ : List Addr} {H : Hp} {i : Int} {v : V} (h : rB K S H0 Z μ H (.int i) v) : v = .int i := by
  rcases h with h | ⟨ds, a, xs, e, _⟩
  · exact h
  · cases e
theorem rB_D {K : Frg} {H0 Z : Hp} {μ : List Addr} {H : Hp} {d : D} {v : V} (h : rB K S H0 Z μ H d v) (hd : ∀ ds, d ≠ .lst ds) : isD K S Z μ d v := by
  rcases h with h | ⟨ds, a, xs, e, _⟩
  · exact h
  · exact absurd e (hd ds)
/-- ints alone -/
def onI (c : Int → Int → Bool) (g : Int → Int → D) : D → D → Store → Option D := fun d e _ => match d, e with
  | .int i, .int j => if c i j = true then some (g i j) else none
  | _, _ => none
theorem f_I {K : Frg} {c : Int → Int → Bool} {C : Int → Int → Prop} {g : Int → Int → D} {g' : Int → Int → V} (hc : ∀ i j, c i j = true → C i j) (hg : ∀ i j Z μ, isD K S Z μ (g i j) (g' i j)) : OpF K S (onI c g) (rI C g') := by
  intro d e r x y Z μ H st Q R h1 h2 hf k
  cases d <;> cases e <;> first | (cases hf; done) | skip
  rename_i i j
  have hf' : (if c i j = true then some (g i j) else none) = some r := hf
  by_cases hh : c i j = true
  · rw [if_pos hh] at hf'
    cases hf'
    exact ⟨i, j, rB_int (h1 H), rB_int (h2 H), hc i j hh, k _ Z μ H Stp.refl R (hg i j Z μ)⟩
  · rw [if_neg hh] at hf'
    cases hf'
theorem f_I0 {K : Frg} {g : Int → Int → D} {g' : Int → Int → V} (hg : ∀ i j Z μ, isD K S Z μ (g i j) (g' i j)) : OpF K S (onI (fun _ _ => true) g) (rI0 g') := by
  intro d e r x y Z μ H st Q R h1 h2 hf k
  cases d <;> cases e <;> first | (cases hf; done) | skip
  rename_i i j
  have hf' : (if true = true then some (g i j) else none) = some r := hf
  rw [if_pos rfl] at hf'
  cases hf'
  exact ⟨i, j, rB_int (h1 H), rB_int (h2 H), k _ Z μ H Stp.refl R (hg i j Z μ)⟩
def subD := onI (fun _ _ => true) fun i j => .int (i - j)
def mulOk (i j : Int) : Bool := decide (i.natAbs.log2 + j.natAbs.log2 < 1000000)
def mulD := onI mulOk fun i j => .int (i * j)
def modD := onI (fun _ j => decide (j ≠ 0)) fun i j => .int (i.fmod j)
def divOk (_ j : Int) : Bool := decide (j ≠ 0 ∧ j.natAbs.log2 < 9000)
def divD := onI divOk fun i j => .int (i.fdiv j)
def powOk (i j : Int) : Bool := decide (0 ≤ j ∧ j ≤ 1000000 ∧ i.natAbs < 2 ^ 64)
def powD := onI powOk fun i j => .int (i ^ j.toNat)
def shlOk (i j : Int) : Bool := decide (0 ≤ j ∧ (Builtin.Int.intBits i : Int) + j ≤ 2 ^ 27)
def shlD := onI shlOk fun i j => .int (i * 2 ^ j.toNat)
def ltD := onI (fun _ _ => true) fun i j => .bl (decide (i < j))
def leD := onI (fun _ _ => true) fun i j => .bl (decide (i ≤ j))
def gtD := onI (fun _ _ => true) fun i j => .bl (decide (j < i))
def geD := onI (fun _ _ => true) fun i j => .bl (decide (j ≤ i))
theorem op_fdivZ : OpR X (binaryOp .FloorDiv) (rI (fun i j => divOk i j = true) fun i j => .int (i.fdiv j)) := opI fun i j _ _ _ _ _ hc q => by
  have h : j ≠ 0 ∧ j.natAbs.log2 < 9000 := of_decide_eq_true hc
  exact floordiv_int h.1 q (.inl (PyProof.noPylong_of_log2 h.2))
theorem fSub {K : Frg} : OpF K S subD (rI0 fun i j => .int (i - j)) := f_I0 fun _ _ _ _ => rfl
theorem fMul {K : Frg} : OpF K S mulD (rI CMulW fun i j => .int (i * j)) := f_I (fun i j h => of_decide_eq_true (p := i.natAbs.log2 + j.natAbs.log2 < 1000000) h) fun _ _ _ _ => rfl
theorem fMod {K : Frg} : OpF K S modD (rI (fun _ j => j ≠ 0) fun i j => .int (i.fmod j)) := f_I (fun i j h => of_decide_eq_true h) fun _ _ _ _ => rfl
theorem fDiv {K : Frg} : OpF K S divD (rI (fun i j => divOk i j = true) fun i j => .int (i.fdiv j)) := f_I (fun i j h => h) fun _ _ _ _ => rfl
theorem fPow {K : Frg} : OpF K S powD (rI CPow fun i j => .int (i ^ j.toNat)) := f_I (fun i j h => of_decide_eq_true (p := 0 ≤ j ∧ j ≤ 1000000 ∧ i.natAbs < 2 ^ 64) h) fun _ _ _ _ => rfl
theorem fShl {K : Frg} : OpF K S shlD (rI CShl fun i j => .int (i * 2 ^ j.toNat)) := f_I (fun i j h => of_decide_eq_true (p := 0 ≤ j ∧ (Builtin.Int.intBits i : Int) + j ≤ 2 ^ 27) h) fun _ _ _ _ => rfl
theorem fLt {K : Frg} : OpF K S ltD (rI0 fun i j => .bl (decide (i < j))) := f_I0 fun _ _ _ _ => rfl
theorem fLe {K : Frg} : OpF K S leD (rI0 fun i j => .bl (decide (i ≤ j))) := f_I0 fun _ _ _ _ => rfl
theorem fGt {K : Frg} : OpF K S gtD (rI0 fun i j => .bl (decide (j < i))) := f_I0 fun _ _ _ _ => rfl
theorem fGe {K : Frg} : OpF K S geD (rI0 fun i j => .bl (decide (j ≤ i))) := f_I0 fun _ _ _ _ => rfl
/-- + : ints, texts, tuples -/
def addD : D → D → Store → Option D := fun d e _ => match d, e with
  | .int i, .int j => some (.int (i + j))
  | .str x, .str y => if x.length + y.length ≤ sizeLine then some (.str (x ++ y)) else none
  | .tup xs, .tup ys => if xs ≠ [] ∧ xs.length + ys.length ≤ 1000 then some (.tup (xs ++ ys)) else none
  | _, _ => none
theorem op_addA : OpR X (binaryOp .Add) (fun x y H Q => (rI0 (fun i j => .int (i + j)) x y H Q) ∨ ((fun x y H Q => ∃ i j, x = .str i ∧ y = .str j ∧ i.length + j.length ≤ sizeLine ∧ Q (.str (i ++ j)) H) x y H Q ∨ rCatT X.K x y H Q)) :=
  op_add.or (op_add_str.or op_catT)
theorem fAdd {K : Frg} : OpF K S addD (fun x y H Q => (rI0 (fun i j => .int (i + j)) x y H Q) ∨ ((fun x y H Q => ∃ i j, x = .str i ∧ y = .str j ∧ i.length + j.length ≤ sizeLine ∧ Q (.str (i ++ j)) H) x y H Q ∨ rCatT K x y H Q)) := by
  intro d e r x y Z μ H st Q R h1 h2 hf k
  have g1 := h1 H
  have g2 := h2 H
  cases d <;> cases e <;> first | (cases hf; done) | skip
  · rename_i i j
    cases hf
    exact .inl ⟨i, j, rB_int g1, rB_int g2, k _ Z μ H Stp.refl R rfl⟩
  · rename_i i j
    have hf' : (if i.length + j.length ≤ sizeLine then some (D.str (i ++ j)) else none) = some r := hf
    split at hf'
    · rename_i hh
      cases hf'
      exact .inr (.inl ⟨i, j, rB_D g1 (fun _ z => by cases z), rB_D g2 (fun _ z => by cases z), hh, k _ Z μ H Stp.refl R rfl⟩)
    · cases hf'
  · rename_i xs ys
    have hf' : (if xs ≠ [] ∧ xs.length + ys.length ≤ 1000 then some (D.tup (xs ++ ys)) else none) = some r := hf
    split at hf'
    · rename_i hh
      cases hf'
      obtain ⟨a, vs, e1, q1, r1⟩ := rB_D g1 (fun _ z => by cases z)
      obtain ⟨b, ws, e2, q2, r2⟩ := rB_D g2 (fun _ z => by cases z)
      refine .inr (.inr ⟨a, b, vs, ws, e1, e2, sqt_mono R.le q1, sqt_mono R.le q2, fun z => ?_, ?_, fun z => ?_, fun z p hp => ?_⟩)
      · have := isDs_len r1
        rw [z] at this
        exact hh.1 (List.eq_nil_of_length_eq_zero this.symm)
      · rw [isDs_len r1, isDs_len r2]
        exact Nat.le_trans hh.2 line1000
      · have e3 : ys = [] := by
          have := isDs_len r2
          rw [z] at this
          exact List.eq_nil_of_length_eq_zero this.symm
        subst e3
        rw [List.append_nil] at k
        exact k _ Z μ H Stp.refl R ⟨a, vs, rfl, q1, r1⟩
      · obtain ⟨s2, R2⟩ := R.put (o := .tup (vs ++ ws)) hp (fun ps z => by cases z)
        exact k _ _ μ _ s2 R2 ⟨p, vs ++ ws, rfl, .inl upd_same, s2.isDs (isDs_app r1 r2)⟩
    · cases hf'
end
end Sm
set_option Elab.async false
set_option linter.all false
set_option maxRecDepth 100000
set_option maxHeartbeats 4000000
set_option autoImplicit false
namespace Sm
open PySem PySem.Spec PyProof.Rows L2
mutual
def pyOf : D → Option PyData
  | .non => some .none
  | .bl b => some (.bool b)
  | .int i => some (.int i)
  | .str x => some (.str x)
  | .tup ds => (pyOfs ds).map .tuple
  | .lst ds => (pyOfs ds).map .list
  | .ins _ _ => none
  | .ref _ => none
  | .glo _ => none
  | .ty _ => none
def pyOfs : List D → Option (List PyData)
  | [] => some []
  | d :: ds => match pyOf d, pyOfs ds with
    | some p, some ps => some (p :: ps)
    | _, _ => none
end
def pyB (d : D) (st : Store) : Option PyData := match d with
  | .ref n => (match st[n]? with
    | some (.lst ds) => (pyOfs ds).map .list
    | _ => none)
  | d => pyOf d
section
variable {K : Frg} {S : Sta} {Z : Hp} {μ : List Addr} {H : Hp}
mutual
theorem dp_of (hz : ∀ a o, Z a = some o → H a = some o) : ∀ (d : D) (v : V) (p : PyData), isD K S Z μ d v → pyOf d = some p → Dp K H v p
  | .non, v, p, h, e => by
    cases e
    rw [show v = .non from h]
    exact .non
  | .bl b, v, p, h, e => by
    cases e
    rw [show v = .bl b from h]
    exact .bl b
  | .int i, v, p, h, e => by
    cases e
    rw [show v = .int i from h]
    exact .int i
  | .str x, v, p, h, e => by
    cases e
    rw [show v = .str x from h]
    exact .str x
  | .tup ds, v, p, h, e => by
    obtain ⟨a, xs, rfl, q, r⟩ := h
    have e : (pyOfs ds).map PyData.tuple = some p := e
    cases e2 : pyOfs ds with
    | none => rw [e2] at e; cases e
    | some ps =>
      rw [e2] at e
      cases e
      exact .tup (sqt_mono hz q) (dps_of hz ds xs ps r e2)
  | .lst ds, v, p, h, e => by
    obtain ⟨a, xs, rfl, q, r⟩ := h
    have e : (pyOfs ds).map PyData.list = some p := e
    cases e2 : pyOfs ds with
    | none => rw [e2] at e; cases e
    | some ps =>
      rw [e2] at e
      cases e
      exact .lst (sql_mono hz q) (dps_of hz ds xs ps r e2)
  | .ins _ _, v, p, h, e => by cases e
  | .ref _, v, p, h, e => by cases e
  | .glo _, v, p, h, e => by cases e
  | .ty _, v, p, h, e => by cases e
theorem dps_of (hz : ∀ a o, Z a = some o → H a = some o) : ∀ (ds : List D) (vs : List V) (ps : List PyData), isDs K S Z μ ds vs → pyOfs ds = some ps → DpAll K H vs ps
  | [], vs, ps, h, e => by
    cases e
    rw [show vs = [] from h]
    exact .nil
  | d :: ds, vs, ps, h, e => by
    obtain ⟨v, r, rfl, q, t⟩ := h
    unfold pyOfs at e
    cases e1 : pyOf d with
    | none => rw [e1] at e; cases e
    | some p =>
      rw [e1] at e
      cases e2 : pyOfs ds with
      | none => rw [e2] at e; cases e
      | some ps' =>
        rw [e2] at e
        cases e
        exact .cons (dp_of hz d v p q e1) (dps_of hz ds r ps' t e2)
end
theorem dp_rB {st : Store} {H0 : Hp} {d : D} {v : V} {p : PyData} (R : Rep K S Z μ H st) (h : rB K S H0 Z μ H d v) (e : pyB d st = some p) : Dp K H v p := by
  rcases h with h | ⟨ds, a, xs, rfl, rfl, h1, h2, h3, h4⟩
  · cases d with
    | ref n =>
      obtain ⟨a, rfl, q⟩ := h
      have e : (match st[n]? with
        | some (MO.lst ds) => (pyOfs ds).map PyData.list
        | _ => none) = some p := e
      cases e2 : st[n]? with
      | none => rw [e2] at e; cases e
      | some m =>
        rw [e2] at e
        have z := R.ob n a m q e2
        cases m with
        | lst es =>
          have e : (pyOfs es).map PyData.list = some p := e
          obtain ⟨xs, z1, z2⟩ := z
          cases e3 : pyOfs es with
          | none => rw [e3] at e; cases e
          | some ps =>
            rw [e3] at e
            cases e
            exact .lst (.of z1) (dps_of R.le es xs ps z2 e3)
        | dic kvs => cases e
    | _ => exact dp_of R.le _ v p h e
  · have e : (pyOfs ds).map PyData.list = some p := e
    cases e3 : pyOfs ds with
    | none => rw [e3] at e; cases e
    | some ps =>
      rw [e3] at e
      cases e
      exact .lst (.of h1) (dps_of R.le ds xs ps h2 e3)
end
def eqD : D → D → Store → Option D := fun d e st => match pyB d st, pyB e st with
  | some p, some q => if (SeqAt.shaped p && SeqAt.shaped q) = true then some (.bl (PyData.eqv p q)) else none
  | _, _ => none
def neD : D → D → Store → Option D := fun d e st => match pyB d st, pyB e st with
  | some p, some q => if (SeqAt.shaped p && SeqAt.shaped q) = true then some (.bl (!PyData.eqv p q)) else none
  | _, _ => none
section
variable {X : Cx} {S : Sta} {W : WX} {O : Or}
theorem fEq {K : Frg} : OpF K S eqD (rEqD K) := by
  intro d e c x y Z μ H st Q R h1 h2 hf k
  unfold eqD at hf
  cases e1 : pyB d st with
  | none => rw [e1] at hf; cases hf
  | some p =>
    cases e2 : pyB e st with
    | none => rw [e1, e2] at hf; cases hf
    | some q =>
      rw [e1, e2] at hf
      have hf : (if (SeqAt.shaped p && SeqAt.shaped q) = true then some (D.bl (PyData.eqv p q)) else none) = some c := hf
      split at hf
      · rename_i hh
        cases hf
        obtain ⟨s1, s2⟩ := Bool.and_eq_true_iff.mp hh
        exact ⟨p, q, dp_rB R (h1 H) e1, dp_rB R (h2 H) e2, s1, s2, k _ Z μ H Stp.refl R rfl⟩
      · cases hf
theorem fNe {K : Frg} : OpF K S neD (rNeD K) := by
  intro d e c x y Z μ H st Q R h1 h2 hf k
  unfold neD at hf
  cases e1 : pyB d st with
  | none => rw [e1] at hf; cases hf
  | some p =>
    cases e2 : pyB e st with
    | none => rw [e1, e2] at hf; cases hf
    | some q =>
      rw [e1, e2] at hf
      have hf : (if (SeqAt.shaped p && SeqAt.shaped q) = true then some (D.bl (!PyData.eqv p q)) else none) = some c := hf
      split at hf
      · rename_i hh
        cases hf
        obtain ⟨s1, s2⟩ := Bool.and_eq_true_iff.mp hh
        exact ⟨p, q, dp_rB R (h1 H) e1, dp_rB R (h2 H) e2, s1, s2, k _ Z μ H Stp.refl R rfl⟩
      · cases hf
/-- is None, is not None -/
def isNon : D → Bool
  | .non => true
  | _ => false
def isD_ : D → D → Store → Option D := fun d e _ => match e with
  | .non => some (.bl (isNon d))
  | _ => none
def isNotD : D → D → Store → Option D := fun d e _ => match e with
  | .non => some (.bl (!isNon d))
  | _ => none
theorem isNon_of {K : Frg} {H0 Z : Hp} {μ : List Addr} {H : Hp} {d : D} {v : V} (h : rB K S H0 Z μ H d v) : decide (v = .non) = isNon d := by
  rcases h with h | ⟨ds, a, xs, rfl, rfl, _⟩
  · cases d with
    | non => rw [show v = .non from h]; rfl
    | bl b => rw [show v = .bl b from h]; rfl
    | int b => rw [show v = .int b from h]; rfl
    | str b => rw [show v = .str b from h]; rfl
    | tup ds => obtain ⟨a, xs, rfl, _⟩ := h; rfl
    | lst ds => obtain ⟨a, xs, rfl, _⟩ := h; rfl
    | ins c ds => obtain ⟨a, dx, xs, rfl, _⟩ := h; rfl
    | ref n => obtain ⟨a, rfl, _⟩ := h; rfl
    | glo x => rw [show v = .ref _ from h]; rfl
    | ty n => rw [show v = .ty _ from h]; rfl
  · rfl
theorem fIs {K : Frg} : OpF K S isD_ (fun x y H Q => y = .non ∧ Q (.bl (decide (x = .non))) H) := by
  intro d e c x y Z μ H st Q R h1 h2 hf k
  cases e <;> first | (cases hf; done) | skip
  cases hf
  refine ⟨rB_D (h2 H) (fun _ z => by cases z), ?_⟩
  rw [isNon_of (h1 H)]
  exact k _ Z μ H Stp.refl R rfl
theorem fIsNot {K : Frg} : OpF K S isNotD (fun x y H Q => y = .non ∧ Q (.bl (!decide (x = .non))) H) := by
  intro d e c x y Z μ H st Q R h1 h2 hf k
  cases e <;> first | (cases hf; done) | skip
  cases hf
  refine ⟨rB_D (h2 H) (fun _ z => by cases z), ?_⟩
  rw [isNon_of (h1 H)]
  exact k _ Z μ H Stp.refl R rfl
def ixD : D → D → Store → Option D := fun d e st => match e with
  | .int i => (match seqOf d st with
    | some ds => atI ds i
    | none => none)
  | _ => none
theorem atI_of {K : Frg} {Z : Hp} {μ : List Addr} {ds : List D} {xs : List V} {i : Int} {d : D} (h : isDs K S Z μ ds xs) (e : atI ds i = some d) : ∃ v, atI xs i = some v ∧ isD K S Z μ d v := by
  unfold atI at e ⊢
  rw [isDs_len h]
  cases q : ixN ds.length i with
  | none => rw [q] at e; cases e
  | some j =>
    rw [q] at e
    exact isDs_get h e
theorem fIx {K : Frg} : OpF K S ixD (rIx K) := by
  intro d e c x y Z μ H st Q R h1 h2 hf k
  cases e <;> first | (cases hf; done) | skip
  rename_i i
  unfold ixD at hf
  cases e1 : seqOf d st with
  | none => rw [e1] at hf; cases hf
  | some ds =>
    rw [e1] at hf
    obtain ⟨a, xs, rfl, hs, hd⟩ := seqOf_at R (h1 H) e1
    obtain ⟨v, hv, hi⟩ := atI_of hd hf
    have q := k v Z μ H Stp.refl R hi
    rcases hs with hs | hs
    · exact .inl ⟨a, xs, i, v, rfl, rB_int (h2 H), hs, hv, q⟩
    · exact .inr (.inl ⟨a, xs, i, v, rfl, rB_int (h2 H), hs, hv, q⟩)
theorem s_ix {a b : Expr} {pos : Pos} {ma mb : EM D} (ha : SB X S W O a ma) (hb : SB X S W O b mb) (hs : PlainIx b := by exact fun _ _ => rfl) : SE X S W O (.Subscript a b pos) (op2 ixD ma mb) :=
  pe_imp (pe_ix ix_seq ha hb hs) (tOp_of fIx)
/-- a key -/
def keyD : D → Option Key
  | .int i => some (.inl i)
  | .str x => some (.inr x)
  | _ => none
theorem keyD_of {K : Frg} {Z : Hp} {μ : List Addr} {d : D} {v : V} {k : Key} (h : isD K S Z μ d v) (e : keyD d = some k) : v = kV k := by
  cases d <;> first | (cases e; done) | skip
  · cases e
    exact h
  · cases e
    exact h
def dgetD : D → D → Store → Option D := fun d e st => match d, keyD e with
  | .ref n, some k => (match st[n]? with
    | some (.dic kvs) => getD kvs k
    | _ => none)
  | _, _ => none
theorem s_dget {a b : Expr} {pos : Pos} {ma mb : EM D} {k : Nat} (hr : Room k X.A) (ha : SE X S W O a ma) (hb : SE X S W O b mb) (hs : NoSl b := by exact fun _ _ => rfl) : SE X S W O (.Subscript a b pos) (op2 dgetD ma mb) :=
  pe_imp (pe_dget (hu_of hr) ha hb hs) fun σ H Q ⟨Z, μ, ρ, st, L, R, p⟩ => by
    refine tG_bind L R p fun d x st1 Z1 μ1 H1 s1 L1 R1 i1 p1 => ?_
    refine tG_bind L1 R1 p1 fun e y st2 Z2 μ2 H2 s2 L2 R2 i2 p2 => ?_
    cases he : dgetD d e st2 with
    | none => rw [he] at p2; exact p2.elim
    | some c =>
      rw [he] at p2
      cases d with
      | ref n =>
        cases hk : keyD e with
        | none =>
          unfold dgetD at he
          rw [hk] at he
          cases he
        | some k =>
          have he : (match st2[n]? with
            | some (MO.dic kvs) => getD kvs k
            | _ => none) = some c := by
            unfold dgetD at he
            rw [hk] at he
            exact he
          obtain ⟨a, rfl, q⟩ := s2.isD i1
          cases hm : st2[n]? with
          | none => rw [hm] at he; cases he
          | some m =>
            rw [hm] at he
            cases m with
            | lst ds => cases he
            | dic kvs =>
              have he : getD kvs k = some c := he
              obtain ⟨vs, z1, z2⟩ := R2.ob n a _ q hm
              obtain ⟨v, hv, hd⟩ := isKs_get z2 he
              rw [keyD_of i2 hk]
              have g : DGet H2 a (kV k) (valV vs k) := DGet.k z1
              rw [hv] at g
              exact ⟨a, v, rfl, g, p2 v Z2 μ2 H2 Stp.refl R2 hd⟩
      | _ => cases he
theorem zip_lookup {α : Type} {f : Str} : ∀ {names : List Str} {xs : List α} {i : Nat}, names.idxOf? f = some i → (names.zip xs).lookup f = xs[i]?
  | [], xs, i, h => by simp at h
  | n :: ns, [], i, h => by simp
  | n :: ns, x :: xs, i, h => by
    rw [List.zip_cons_cons, List.lookup_cons]
    rw [List.idxOf?_cons] at h
    by_cases e : n = f
    · subst e
      simp at h
      subst h
      simp
    · have e1 : (n == f) = false := beq_eq_false_iff_ne.mpr e
      have e2 : (f == n) = false := beq_eq_false_iff_ne.mpr fun z => e z.symm
      rw [e1] at h
      rw [e2]
      simp at h
      obtain ⟨j, hj, rfl⟩ := h
      show (ns.zip xs).lookup f = _
      rw [zip_lookup hj]
      simp
/-- the i-th field of an instance of the class c -/
def fldM (c i : Nat) (m : EM D) : EM D := fun ρ st => (m ρ st).bind fun d st1 => match d with
  | .ins c' ds => if c' = c then (match ds[i]? with
    | some e => .ok e st1
    | none => .fail) else .fail
  | _ => .fail
theorem s_fld {e : Expr} {f : Str} {pos : Pos} {m : EM D} (c i : Nat) (hc : Cls X.K (He.ga X.K (S.cn c))) (hn : NoAttr X.K (He.ga X.K (S.cn c)) f) (hi : (S.cf c).idxOf? f = some i) (he : SE X S W O e m) (hb : attributeBase e f X.env (eval e X.env) = eval e X.env := by rfl) :
    SE X S W O (.Attribute e f pos) (fldM c i m) :=
  pe_imp (pe_fld he hb) fun σ H Q ⟨Z, μ, ρ, st, L, R, p⟩ => by
    refine tG_bind L R p fun d x st1 Z1 μ1 H1 s1 L1 R1 i1 p1 => ?_
    cases d with
    | ins c' ds =>
      have p1 : Po X.K S W σ Z1 μ1 H1 (rD X.K S) (if c' = c then (match ds[i]? with
        | some e => Res.ok e st1
        | none => .fail) else .fail) Q := p1
      by_cases hcc : c' = c
      · subst hcc
        rw [if_pos rfl] at p1
        cases hx : ds[i]? with
        | none => rw [hx] at p1; exact p1.elim
        | some g =>
          rw [hx] at p1
          obtain ⟨a, dx, xs, rfl, h1, h2, h3⟩ := i1
          obtain ⟨v, hv, hd⟩ := isDs_get h3 hx
          exact ⟨a, _, dx, _, v, rfl, R1.le _ _ h1, hc, hn, (zip_lookup hi).trans hv, p1 v Z1 μ1 H1 Stp.refl R1 hd⟩
      · rw [if_neg hcc] at p1
        exact p1.elim
    | _ => exact p1.elim
end
/-- a list's items -/
def lstOf (d : D) (st : Store) : Option (List D) := match d with
  | .lst ds => some ds
  | .ref n => (match st[n]? with
    | some (.lst ds) => some ds
    | _ => none)
  | _ => none
theorem lstOf_at {K : Frg} {S : Sta} {H0 Z : Hp} {μ : List Addr} {H : Hp} {st : Store} {d : D} {v : V} {ds : List D} (R : Rep K S Z μ H st) (h : rB K S H0 Z μ H d v) (e : lstOf d st = some ds) : ∃ a xs, v = .ref a ∧ SqL K H a xs ∧ isDs K S Z μ ds xs := by
  rcases h with h | ⟨es, a, xs, rfl, e1, h1, h2, h3, h4⟩
  · cases d with
    | lst es =>
      obtain ⟨a, xs, e1, q, r⟩ := h
      cases e
      exact ⟨a, xs, e1, sql_mono R.le q, r⟩
    | ref n =>
      obtain ⟨a, e1, q⟩ := h
      have e : (match st[n]? with
        | some (MO.lst ds) => some ds
        | _ => none) = some ds := e
      cases e2 : st[n]? with
      | none => rw [e2] at e; cases e
      | some m =>
        rw [e2] at e
        have z := R.ob n a m q e2
        cases m with
        | lst es =>
          cases e
          obtain ⟨xs, z1, z2⟩ := z
          exact ⟨a, xs, e1, .of z1, z2⟩
        | dic kvs => cases e
    | _ => cases e
  · cases e
    exact ⟨a, xs, e1, .of h1, h2⟩
section
variable {X : Cx} {S : Sta} {W : WX} {O : Or}
/-- an end of a slice -/
abbrev rO : Rl (Option Int) (Option Int) := fun _ _ _ _ a b => a = b
instance : Mn rO := ⟨fun _ h => h⟩
abbrev SO (X : Cx) (S : Sta) (W : WX) (O : Or) (e : Option Expr) (m : EM (Option Int)) : Prop := PO X e (tG X S W O rO m)
theorem po_imp {e : Option Expr} {t t' : TO} (h : PO X e t) (i : ∀ σ H Q, t' σ H Q → t σ H Q) : PO X e t' := ⟨fun pins s σ H Q I q => h.run pins s σ H Q I (i _ _ _ q)⟩
def partM (m : EM D) : EM (Option Int) := fun ρ st => (m ρ st).bind fun d st1 => match d with
  | .int i => .ok (some i) st1
  | _ => .fail
theorem o_none : SO X S W O none (cM none) := po_imp po_none fun σ H Q ⟨Z, μ, ρ, st, L, R, p⟩ => p none Z μ H Stp.refl R rfl
theorem o_some {e : Expr} {m : EM D} (h : SE X S W O e m) : SO X S W O (some e) (partM m) := po_imp (po_some h) fun σ H Q ⟨Z, μ, ρ, st, L, R, p⟩ => by
  refine tG_bind L R p fun d x st1 Z1 μ1 H1 s1 L1 R1 i1 p1 => ?_
  cases d with
  | int i => exact ⟨i, i1, p1 _ Z1 μ1 H1 Stp.refl R1 rfl⟩
  | _ => exact p1.elim
def cutD (ds : List D) (lo hi : Option Int) : List D := (ds.drop (HT.sIx ds.length 0 lo)).take (HT.sIx ds.length ds.length hi - HT.sIx ds.length 0 lo)
theorem isDs_cut {K : Frg} {Z : Hp} {μ : List Addr} {ds : List D} {xs : List V} {lo hi : Option Int} (h : isDs K S Z μ ds xs) : isDs K S Z μ (cutD ds lo hi) (cutV xs lo hi) := by
  unfold cutD cutV
  rw [isDs_len h]
  exact isDs_take _ (isDs_drop _ h)
/-- xs[lo:hi] of a list: a new one -/
def slM (m : EM D) (lo hi : EM (Option Int)) : EM (List D) := fun ρ st => (m ρ st).bind fun d st1 => (lo ρ st1).bind fun a st2 => (hi ρ st2).bind fun b st3 => match lstOf d st3 with
  | some ds => .ok (cutD ds a b) st3
  | none => .fail
theorem f_slice {e : Expr} {lo hi : Option Expr} {p2 pos : Pos} {m : EM D} {ml mh : EM (Option Int)} (he : SB X S W O e m) (hl : SO X S W O lo ml) (hh : SO X S W O hi mh) : SF X S W O (.Subscript e (.Slice lo hi none p2) pos) (slM m ml mh) :=
  pe_imp (pe_slice sl_list he hl hh) fun σ H Q ⟨Z, μ, ρ, st, L, R, p⟩ => by
    refine tG_bind L R p fun d x st1 Z1 μ1 H1 s1 L1 R1 i1 p1 => ?_
    refine tG_bind L1 R1 p1 fun a a' st2 Z2 μ2 H2 s2 L2 R2 i2 p2 => ?_
    obtain rfl : a = a' := i2
    refine tG_bind L2 R2 p2 fun b b' st3 Z3 μ3 H3 s3 L3 R3 i3 p3 => ?_
    obtain rfl : b = b' := i3
    cases e : lstOf d st3 with
    | none => rw [e] at p3; exact p3.elim
    | some ds =>
      rw [e] at p3
      obtain ⟨q, xs, rfl, hs, hd⟩ := lstOf_at (H0 := H) R3 (rB.step (i1.step s2) s3) e
      exact ⟨q, xs, rfl, hs, fun l hl => by
        obtain ⟨s4, R4⟩ := R3.lay (o := .lst (cutV xs a b)) hl
        exact p3 _ _ μ3 _ s4 R4 ⟨l, _, rfl, hl, upd_same, isDs_cut hd, (R3.nne hl).1, (R3.nne hl).2⟩⟩
/-- t[lo:hi] of a tuple -/
def slTM (m : EM D) (lo hi : EM (Option Int)) : EM D := fun ρ st => (m ρ st).bind fun d st1 => (lo ρ st1).bind fun a st2 => (hi ρ st2).bind fun b st3 => match d with
  | .tup ds => if HT.sIx ds.length 0 a = 0 ∧ HT.sIx ds.length ds.length b = ds.length then .fail else .ok (.tup (cutD ds a b)) st3
  | _ => .fail
theorem s_sliceT {e : Expr} {lo hi : Option Expr} {p2 pos : Pos} {m : EM D} {ml mh : EM (Option Int)} (he : SE X S W O e m) (hl : SO X S W O lo ml) (hh : SO X S W O hi mh) : SE X S W O (.Subscript e (.Slice lo hi none p2) pos) (slTM m ml mh) :=
  pe_imp (pe_slice sl_tup he hl hh) fun σ H Q ⟨Z, μ, ρ, st, L, R, p⟩ => by
    refine tG_bind L R p fun d x st1 Z1 μ1 H1 s1 L1 R1 i1 p1 => ?_
    refine tG_bind L1 R1 p1 fun a a' st2 Z2 μ2 H2 s2 L2 R2 i2 p2 => ?_
    obtain rfl : a = a' := i2
    refine tG_bind L2 R2 p2 fun b b' st3 Z3 μ3 H3 s3 L3 R3 i3 p3 => ?_
    obtain rfl : b = b' := i3
    cases d with
    | tup ds =>
      have p3 : Po X.K S W σ Z3 μ3 H3 (rD X.K S) (if HT.sIx ds.length 0 a = 0 ∧ HT.sIx ds.length ds.length b = ds.length then Res.fail else Res.ok (.tup (cutD ds a b)) st3) Q := p3
      by_cases hc : HT.sIx ds.length 0 a = 0 ∧ HT.sIx ds.length ds.length b = ds.length
      · rw [if_pos hc] at p3
        exact p3.elim
      · rw [if_neg hc] at p3
        obtain ⟨q, xs, rfl, hs, hd⟩ := s3.isD (s2.isD i1)
        refine ⟨q, xs, rfl, sqt_mono R3.le hs, by rw [isDs_len hd]; exact hc, fun l hl => ?_⟩
        obtain ⟨s4, R4⟩ := R3.put (o := .tup (cutV xs a b)) hl (fun ps z => by cases z)
        exact p3 _ _ μ3 _ s4 R4 ⟨l, _, rfl, .inl upd_same, s4.isDs (isDs_cut hd)⟩
    | _ => exact p3.elim
/-- xs[::-1] -/
def revM (m : EM D) : EM (List D) := fun ρ st => (m ρ st).bind fun d st1 => match lstOf d st1 with
  | some ds => .ok ds.reverse st1
  | none => .fail
theorem f_rev {e : Expr} {k : Nat} {p1 p2 p3 pos : Pos} {m : EM D} (he : SB X S W O e m) : SF X S W O (.Subscript e (.Slice none none (some (.UnaryOp .USub (.Constant (.int 1) k p1) p2)) p3) pos) (revM m) :=
  pe_imp (pe_revL he) fun σ H Q ⟨Z, μ, ρ, st, L, R, p⟩ => by
    refine tG_bind L R p fun d x st1 Z1 μ1 H1 s1 L1 R1 i1 p1 => ?_
    cases e : lstOf d st1 with
    | none => rw [e] at p1; exact p1.elim
    | some ds =>
      rw [e] at p1
      obtain ⟨q, xs, rfl, hs, hd⟩ := lstOf_at (H0 := H) R1 i1 e
      exact ⟨q, xs, rfl, hs, fun l hl => by
        obtain ⟨s4, R4⟩ := R1.lay (o := .lst xs.reverse) hl
        exact p1 _ _ μ1 _ s4 R4 ⟨l, _, rfl, hl, upd_same, isDs_rev hd, (R1.nne hl).1, (R1.nne hl).2⟩⟩
def isBs (K : Frg) (S : Sta) (H0 Z : Hp) (μ : List Addr) (H : Hp) : List D → List V → Prop
  | [], vs => vs = []
  | d :: ds, vs => ∃ v r, vs = v :: r ∧ rB K S H0 Z μ H d v ∧ isBs K S H0 Z μ H ds r
abbrev rBs (K : Frg) (S : Sta) : Rl (List D) (List V) := fun H0 Z μ H d v => isBs K S H Z μ H d v
instance {K : Frg} {S : Sta} : Mn (rBs K S) := ⟨fun _ h => h⟩
abbrev SAb (X : Cx) (S : Sta) (W : WX) (O : Or) (es : List Expr) (m : EM (List D)) : Prop := PA X es (tG X S W O (rBs X.K S) m)
theorem b_nil : SAb X S W O [] nilM := pa_imp pa_nil fun σ H Q ⟨Z, μ, ρ, st, L, R, p⟩ => p [] Z μ H Stp.refl R rfl
theorem b_cons {e : Expr} {es : List Expr} {m : EM D} {r : EM (List D)} (ha : SB X S W O e m) (hr : SAb X S W O es r) (hs : starEach (e :: es) X.env = (false, eval e X.env) :: starEach es X.env := by rfl) : SAb X S W O (e :: es) (consM m r) :=
  pa_imp (pa_cons ha hr hs) fun σ H Q ⟨Z, μ, ρ, st, L, R, p⟩ => by
    refine tG_bind L R p fun d x st1 Z1 μ1 H1 s1 L1 R1 i1 p1 => ?_
    refine tG_bind L1 R1 p1 fun ds xs st2 Z2 μ2 H2 s2 L2 R2 i2 p2 => ?_
    exact p2 (x :: xs) Z2 μ2 H2 Stp.refl R2 ⟨x, xs, rfl, rB.step i1 s2, i2⟩
def callB (f : List D → Store → Option D) (m : EM (List D)) : EM D := fun ρ st => (m ρ st).bind fun ds st1 => match f ds st1 with
  | some d => .ok d st1
  | none => .fail
def callBF (f : List D → Store → Option (List D)) (m : EM (List D)) : EM (List D) := fun ρ st => (m ρ st).bind fun ds st1 => match f ds st1 with
  | some d => .ok d st1
  | none => .fail
def CalF (K : Frg) (S : Sta) (f : List D → Store → Option D) (r : List V → Hp → VK → Prop) : Prop := ∀ (ds : List D) (c : D) (xs : List V) (H0 Z : Hp) (μ : List Addr) (H : Hp) (st : Store) (Q : VK), Rep K S Z μ H st → isBs K S H0 Z μ H ds xs → f ds st = some c →
  (∀ v Z' μ' H', Stp Z μ H Z' μ' H' → Rep K S Z' μ' H' st → isD K S Z' μ' c v → Q v H') → r xs H Q
def CalFF (K : Frg) (S : Sta) (f : List D → Store → Option (List D)) (r : List V → Hp → VK → Prop) : Prop := ∀ (ds c : List D) (xs : List V) (H0 Z : Hp) (μ : List Addr) (H : Hp) (st : Store) (Q : VK), Rep K S Z μ H st → isBs K S H0 Z μ H ds xs → f ds st = some c →
  (∀ v Z' μ' H', Stp Z μ H Z' μ' H' → Rep K S Z' μ' H' st → rF K S H Z' μ' H' c v → Q v H') → r xs H Q
variable {x : Str} {p pos : Pos} {e : Expr} {es : List Expr} {id T : String} {r : List V → Hp → VK → Prop} {f : List D → Store → Option D} {ff : List D → Store → Option (List D)} {m : EM (List D)}
theorem tCB_of (hf : CalF X.K S f r) (σ : L2.St) (H : Hp) (Q : VK) (h : tE X S W O (callB f m) σ H Q) : tCB r (tG X S W O (rBs X.K S) m) σ H Q := by
  obtain ⟨Z, μ, ρ, st, L, R, p⟩ := h
  refine tG_bind L R p fun ds xs st1 Z1 μ1 H1 s1 L1 R1 i1 p1 => ?_
  cases e : f ds st1 with
  | none => rw [e] at p1; exact p1.elim
  | some c =>
    rw [e] at p1
    exact hf ds c xs H1 Z1 μ1 H1 st1 Q R1 i1 e fun v Z' μ' H' s R' q => p1 v Z' μ' H' s R' q
theorem tCB_ofF (hf : CalFF X.K S ff r) (σ : L2.St) (H : Hp) (Q : VK) (h : tG X S W O (rF X.K S) (callBF ff m) σ H Q) : tCB r (tG X S W O (rBs X.K S) m) σ H Q := by
  obtain ⟨Z, μ, ρ, st, L, R, p⟩ := h
  refine tG_bind L R p fun ds xs st1 Z1 μ1 H1 s1 L1 R1 i1 p1 => ?_
  cases e : ff ds st1 with
  | none => rw [e] at p1; exact p1.elim
  | some c =>
    rw [e] at p1
    exact hf ds c xs H1 Z1 μ1 H1 st1 Q R1 i1 e fun v Z' μ' H' s R' q => p1 v Z' μ' H' s R' q
theorem s_callB (hc : CallR X (.builtin id) r) (hf : CalF X.K S f r) (hm : X.mg x = none) (hv : bootBuiltins x = some (.builtin id)) (ha : SAb X S W O (e :: es) m) (hg : Gl X x := by rfl) (hn : x ≠ "__name__" := by decide) (hdb : (x == ("__debug__" : Str)) = false := by decide)
    (he : starEach (e :: es) X.env = (false, eval e X.env) :: starEach es X.env := by rfl) (hpl : (backTo pos (starEach es X.env)).any (·.1) = false := by rfl) : SE X S W O (.Call (.Name x p) (e :: es) [] pos) (callB f m) :=
  pe_imp (pe_callB hc hg hm hv ha hn hdb he hpl) (tCB_of hf)
theorem s_callT (hc : CallR X (.type T) r) (hf : CalF X.K S f r) (hm : X.mg x = none) (hv : bootBuiltins x = some (.type T)) (ha : SAb X S W O (e :: es) m) (hg : Gl X x := by rfl) (hn : x ≠ "__name__" := by decide) (hdb : (x == ("__debug__" : Str)) = false := by decide)
    (he : starEach (e :: es) X.env = (false, eval e X.env) :: starEach es X.env := by rfl) (hpl : (backTo pos (starEach es X.env)).any (·.1) = false := by rfl) : SE X S W O (.Call (.Name x p) (e :: es) [] pos) (callB f m) :=
  pe_imp (pe_callTy hc hg hm hv ha hn hdb he hpl) (tCB_of hf)
theorem f_callT (hc : CallR X (.type T) r) (hf : CalFF X.K S ff r) (hm : X.mg x = none) (hv : bootBuiltins x = some (.type T)) (ha : SAb X S W O (e :: es) m) (hg : Gl X x := by rfl) (hn : x ≠ "__name__" := by decide) (hdb : (x == ("__debug__" : Str)) = false := by decide)
    (he : starEach (e :: es) X.env = (false, eval e X.env) :: starEach es X.env := by rfl) (hpl : (backTo pos (starEach es X.env)).any (·.1) = false := by rfl) : SF X S W O (.Call (.Name x p) (e :: es) [] pos) (callBF ff m) :=
  pe_imp (pe_callTy hc hg hm hv ha hn hdb he hpl) (tCB_ofF hf)
end
section
variable {S : Sta} {K : Frg}
theorem bs1 {H0 Z : Hp} {μ : List Addr} {H : Hp} {d : D} {xs : List V} (h : isBs K S H0 Z μ H [d] xs) : ∃ v, xs = [v] ∧ rB K S H0 Z μ H d v := by
  obtain ⟨v, r, rfl, q, rfl⟩ := h
  exact ⟨v, rfl, q⟩
theorem bs2 {H0 Z : Hp} {μ : List Addr} {H : Hp} {d e : D} {xs : List V} (h : isBs K S H0 Z μ H [d, e] xs) : ∃ v w, xs = [v, w] ∧ rB K S H0 Z μ H d v ∧ rB K S H0 Z μ H e w := by
  obtain ⟨v, r, rfl, q, w, r2, rfl, q2, rfl⟩ := h
  exact ⟨v, w, rfl, q, q2⟩
def absB : List D → Store → Option D := fun ds _ => match ds with
  | [.int i] => some (.int (if i < 0 then -i else i))
  | _ => none
theorem cAbs : CalF K S absB (fun xs H Q => ∃ i, xs = [.int i] ∧ Q (.int (if i < 0 then -i else i)) H) := by
  intro ds c xs H0 Z μ H st Q R h hf k
  unfold absB at hf
  split at hf
  · cases hf
    obtain ⟨v, rfl, q⟩ := bs1 h
    rw [rB_int q]
    exact ⟨_, rfl, k _ Z μ H Stp.refl R rfl⟩
  · cases hf
def intB : List D → Store → Option D := fun ds _ => match ds with
  | [.int i] => some (.int i)
  | [.bl b] => some (.int (if b then 1 else 0))
  | _ => none
theorem cInt : CalF K S intB (fun xs H Q => (∃ i, xs = [.int i] ∧ Q (.int i) H) ∨ ∃ k, xs = [.bl k] ∧ Q (.int (if k then 1 else 0)) H) := by
  intro ds c xs H0 Z μ H st Q R h hf k
  unfold intB at hf
  split at hf
  · cases hf
    obtain ⟨v, rfl, q⟩ := bs1 h
    rw [rB_int q]
    exact .inl ⟨_, rfl, k _ Z μ H Stp.refl R rfl⟩
  · cases hf
    obtain ⟨v, rfl, q⟩ := bs1 h
    have e : v = .bl _ := rB_D q (fun _ z => by cases z)
    rw [e]
    exact .inr ⟨_, rfl, k _ Z μ H Stp.refl R rfl⟩
  · cases hf
def lenB : List D → Store → Option D := fun ds st => match ds with
  | [.str x] => if x.length ≤ sizeLine then some (.int x.length) else none
  | [d] => (seqOf d st).map fun es => .int es.length
  | _ => none
theorem cLen : CalF K S lenB (fun xs H Q => ∃ x n, xs = [x] ∧ LenV K x H n ∧ Q (.int n) H) := by
  intro ds c xs H0 Z μ H st Q R h hf k
  unfold lenB at hf
  split at hf
  · rename_i x
    split at hf
    · rename_i hl
      cases hf
      obtain ⟨v, rfl, q⟩ := bs1 h
      have e : v = .str _ := rB_D q (fun _ z => by cases z)
      rw [e]
      exact ⟨_, _, rfl, ⟨hl, rfl⟩, k _ Z μ H Stp.refl R rfl⟩
    · cases hf
  · rename_i d hx
    obtain ⟨v, rfl, q⟩ := bs1 h
    cases e : seqOf d st with
    | none => rw [e] at hf; cases hf
    | some es =>
      rw [e] at hf
      cases hf
      obtain ⟨a, ys, rfl, hs, hd⟩ := seqOf_at R q e
      refine ⟨_, es.length, rfl, ?_, k _ Z μ H Stp.refl R rfl⟩
      rcases hs with hs | hs
      · exact .inl ⟨ys, hs, (isDs_len hd).symm⟩
      · exact .inr ⟨ys, hs, (isDs_len hd).symm⟩
  · cases hf
def listB : List D → Store → Option (List D) := fun ds st => match ds with
  | [d] => seqOf d st
  | _ => none
theorem cList : CalFF K S listB (fun xs H Q => ∃ p ys, xs = [.ref p] ∧ (SqL K H p ys ∨ SqT K H p ys) ∧ ∀ l, H l = none → Q (.ref l) (upd H l (.lst ys))) := by
  intro ds c xs H0 Z μ H st Q R h hf k
  unfold listB at hf
  split at hf
  · obtain ⟨v, rfl, q⟩ := bs1 h
    obtain ⟨a, ys, rfl, hs, hd⟩ := seqOf_at R q hf
    refine ⟨a, ys, rfl, hs, fun l hl => ?_⟩
    obtain ⟨s2, R2⟩ := R.lay (o := .lst ys) hl
    exact k _ Z μ _ s2 R2 ⟨l, ys, rfl, hl, upd_same, hd, (R.nne hl).1, (R.nne hl).2⟩
  · cases hf
def tupleB : List D → Store → Option D := fun ds st => match ds with
  | [.tup es] => some (.tup es)
  | [d] => (lstOf d st).map .tup
  | _ => none
theorem cTuple : CalF K S tupleB (fun xs H Q => ∃ p ys, xs = [.ref p] ∧ ((SqL K H p ys ∧ ∀ l, H l = none → Q (.ref l) (upd H l (.tup ys))) ∨ (SqT K H p ys ∧ Q (.ref p) H))) := by
  intro ds c xs H0 Z μ H st Q R h hf k
  unfold tupleB at hf
  split at hf
  · cases hf
    obtain ⟨v, rfl, q⟩ := bs1 h
    obtain ⟨a, ys, rfl, hs, hd⟩ := rB_D q (fun _ z => by cases z)
    exact ⟨a, ys, rfl, .inr ⟨sqt_mono R.le hs, k _ Z μ H Stp.refl R ⟨a, ys, rfl, hs, hd⟩⟩⟩
  · rename_i d hx
    obtain ⟨v, rfl, q⟩ := bs1 h
    cases e : lstOf d st with
    | none => rw [e] at hf; cases hf
    | some es =>
      rw [e] at hf
      cases hf
      obtain ⟨a, ys, rfl, hs, hd⟩ := lstOf_at R q e
      refine ⟨a, ys, rfl, .inl ⟨hs, fun l hl => ?_⟩⟩
      obtain ⟨s2, R2⟩ := R.put (o := .tup ys) hl (fun ps z => by cases z)
      exact k _ _ μ _ s2 R2 ⟨l, ys, rfl, .inl upd_same, s2.isDs hd⟩
  · cases hf
/-- a list of truths -/
def blsOf : List D → Option (List Bool)
  | [] => some []
  | .bl b :: ds => (blsOf ds).map (b :: ·)
  | _ => none
theorem bls_at {Z : Hp} {μ : List Addr} : ∀ {ds : List D} {xs : List V} {bs : List Bool}, isDs K S Z μ ds xs → blsOf ds = some bs → xs = bs.map V.bl
  | [], xs, bs, h, e => by
    cases e
    exact h
  | d :: ds, xs, bs, h, e => by
    obtain ⟨v, r, rfl, q, t⟩ := h
    cases d <;> first | (cases e; done) | skip
    rename_i b
    have e : (blsOf ds).map (b :: ·) = some bs := e
    cases e2 : blsOf ds with
    | none => rw [e2] at e; cases e
    | some cs =>
      rw [e2] at e
      cases e
      rw [show v = .bl b from q, bls_at t e2]
      rfl
def allB : List D → Store → Option D := fun ds st => match ds with
  | [d] => ((lstOf d st).bind blsOf).map fun bs => .bl (bs.all id)
  | _ => none
theorem cAll : CalF K S allB (rAll K) := by
  intro ds c xs H0 Z μ H st Q R h hf k
  unfold allB at hf
  split at hf
  · rename_i d
    obtain ⟨v, rfl, q⟩ := bs1 h
    cases e : lstOf d st with
    | none => rw [e] at hf; cases hf
    | some es =>
      rw [e] at hf
      cases e2 : blsOf es with
      | none =>
        have hf : ((blsOf es).map fun bs => D.bl (bs.all id)) = some c := hf
        rw [e2] at hf
        cases hf
      | some bs =>
        have hf : ((blsOf es).map fun bs => D.bl (bs.all id)) = some c := hf
        rw [e2] at hf
        cases hf
        obtain ⟨a, ys, rfl, hs, hd⟩ := lstOf_at R q e
        rw [bls_at hd e2] at hs
        exact ⟨a, bs, rfl, hs, k _ Z μ H Stp.refl R rfl⟩
  · cases hf
end
end Sm
set_option Elab.async false
set_option linter.all false
set_option maxRecDepth 100000
set_option maxHeartbeats 4000000
set_option autoImplicit false
namespace Sm
open PySem PySem.Spec PyProof.Rows L2
/-- what a def does, as a function of its arguments' data and the store -/
abbrev DM := List D → Store → Res D
abbrev wD : XK → WX := fun E c d _ H => E c d H
structure FnSem (P : Program) (w : World) (K : Frg) (mg : Str → Option Value) (base : Heap) (S : Sta) (k : Nat) (f : Addr) (fd : FuncData) (ps : List Str) (m : DM) : Prop where
  run : ∀ (A : Around) (outer : List Env) (s : Shared) (H : Hp) (args : Args) (us : List Value) (vs : List V) (Q : VK) (E : XK) (Z : Hp) (μ : List Addr) (st : Store) (ds : List D), Room k A → A.guards = some [] → Env0 P w K mg base A outer s H →
    BindsTo s fd args (ps.zip us) → Vals vs us → ds.length = ps.length → isDs K S Z μ ds vs → Rep K S Z μ H st → Po K S (wD E) [] Z μ H (rD K S) (m ds st) Q → codeAny (model P w) A (.call (.ref f) args) (CR (L2.CX P w) outer P w H s Q E) s
/-- an __init__: the instance stands new and empty at a; told are its fields -/
def PoI (K : Frg) (S : Sta) (c : Nat) (E : XK) (a : Addr) (Z : Hp) (μ : List Addr) (H1 : Hp) (r : Res (List D)) (Q : VK) : Prop := match r with
  | .ok es st => ∀ dx xs Z' μ' H', Stp Z μ H1 Z' μ' H' → Rep K S Z' μ' H' st → H' a = some (.ins (He.ga K (S.cn c)) dx ((S.cf c).zip xs)) → xs.length = (S.cf c).length → isDs K S Z' μ' es xs → Z' a = none → a ∉ μ' → Q .non H'
  | .exc c' st => ∀ Z' μ' H', Stp Z μ H1 Z' μ' H' → Rep K S Z' μ' H' st → E (.ref (He.ga K (S.cn c'))) none H'
  | .fail => False
structure FnSemI (P : Program) (w : World) (K : Frg) (mg : Str → Option Value) (base : Heap) (S : Sta) (k : Nat) (c : Nat) (f : Addr) (fd : FuncData) (ps : List Str) (m : List D → Store → Res (List D)) : Prop where
  run : ∀ (A : Around) (outer : List Env) (s : Shared) (H H1 : Hp) (args : Args) (us : List Value) (vs : List V) (Q : VK) (E : XK) (Z : Hp) (μ : List Addr) (st : Store) (ds : List D) (a dx : Addr), Room k A → A.guards = some [] → Env0 P w K mg base A outer s H →
    BindsTo s fd args (ps.zip us) → Vals (.ref a :: vs) us → ds.length + 1 = ps.length → isDs K S Z μ ds vs → Rep K S Z μ H st → H a = some (.ins (He.ga K (S.cn c)) dx []) → Stp Z μ H1 Z μ H → H1 a = none → Z a = none → a ∉ μ →
    PoI K S c E a Z μ H1 (m ds st) Q → codeAny (model P w) A (.call (.ref f) args) (CR (L2.CX P w) outer P w H s Q E) s
/-- how a call binds: n positional values, keywords ks -/
structure Bnd (K : Frg) (S : Sta) (fd : FuncData) (ps : List Str) (n : Nat) (ks : List Str) (g : List D → List D → List D) : Prop where
  to : ∀ (s : Shared) (us ws : List Value) (vs zs : List V) (ds es : List D) (Z : Hp) (μ : List Addr), K.In s.heap → Vals vs us → Vals zs ws → isDs K S Z μ ds vs → isDs K S Z μ es zs → ds.length = n → es.length = ks.length →
    ∃ bs xs, BindsTo s fd ⟨us, ks.zip ws⟩ (ps.zip bs) ∧ Vals xs bs ∧ isDs K S Z μ (g ds es) xs ∧ (g ds es).length = ps.length
def startD (N : List Str) (ds : List D) : Env1 := ds.map Sl.val ++ List.replicate (N.length - ds.length) Sl.un
/-- a body's end -/
def fin (r : RS) : Res D := match r with
  | .nx _ st => .ok .non st
  | .ret d st => .ok d st
  | .exc c _ st => .exc c st
  | _ => .fail
def finI (S : Sta) (c : Nat) (r : RS) : Res (List D) := match r with
  | .nx ρ st => (match ρ[(0 : Nat)]? with
    | some (Sl.obj c' fs) => if c' = c ∧ fs.map (·.1) = S.cf c then .ok (fs.map (·.2)) st else .fail
    | _ => .fail)
  | .exc c' _ st => .exc c' st
  | _ => .fail
section
variable {P : Program} {w : World} {K : Frg} {mg : Str → Option Value} {base : Heap} {S : Sta}
theorem isDs_vals {Z : Hp} {μ : List Addr} {ds : List D} {vs : List V} (h : isDs K S Z μ ds vs) : ∀ (i : Nat) (d : D), ds[i]? = some d → ∃ v, vs[i]? = some v ∧ isD K S Z μ d v := fun i d e => isDs_get h e
theorem repL_start {N : List Str} {Z : Hp} {μ : List Addr} {H : Hp} {O : Or} {ds : List D} {vs : List V} (h : isDs K S Z μ ds vs) (hl : ds.length ≤ N.length) : RepL K S O Z μ H (L2.start N vs) (startD N ds) := by
  have e := isDs_len h
  refine ⟨?_, fun i sl hi => ?_, fun i j _ h1 _ => ?_⟩
  · unfold L2.start startD
    rw [List.length_append, List.length_append, List.length_map, List.length_map, List.length_replicate, List.length_replicate, e]
  · unfold startD at hi
    unfold L2.start
    by_cases hd : i < ds.length
    · rw [List.getElem?_append_left (by simpa using hd), List.getElem?_map, List.getElem?_eq_getElem hd] at hi
      cases hi
      obtain ⟨v, hv, q⟩ := isDs_get h (List.getElem?_eq_getElem hd)
      refine ⟨v, ?_, q⟩
      rw [List.getElem?_append_left (by rw [List.length_map, e]; exact hd), List.getElem?_map, hv]
      rfl
    · rw [List.getElem?_append_right (by simpa using hd), List.getElem?_replicate] at hi
      split at hi
      · cases hi
        exact True.intro
      · cases hi
  · unfold startD at h1
    by_cases hd : i < ds.length
    · rw [List.getElem?_append_left (by simpa using hd), List.getElem?_map, List.getElem?_eq_getElem hd] at h1
      exact h1.elim
    · rw [List.getElem?_append_right (by simpa using hd), List.getElem?_replicate] at h1
      split at h1
      · exact h1.elim
      · exact h1.elim
/-- THE RULE of a def: its body -/
theorem FnSem.ofC {x qual : Str} {params : Arguments} {body : List Stmt} {scope : Scope} {dvs : List V} {kws : List (Str × V)} {f : Addr} {fd : FuncData} {N ps : List Str} {k : Nat} {sm : SM} (F : FunD K x qual params body scope dvs kws f fd) (Sc : FnScope N ps scope)
    (h : ∀ (A : Around) (outer : List Env) (s : Shared) (H : Hp) (E : XK) (O : Or), Room k (A.deeper (envOfC qual scope s.heap.objs.size f fd.code)) → A.guards = some [] →
      SSs (cxOf (L2.CX P w) P w K mg base N qual scope f fd.code A outer s H E) S (wD E) O body sm) : FnSem P w K mg base S (k + 1) f fd ps (fun ds st => fin (sm (startD N ds) st)) := by
  obtain ⟨oc, od, dV, kV, doc, pm, an, cdv, ct, osl, rfl, lk, hcd, _, _⟩ := F.ex
  refine ⟨fun A outer s H args us vs Q E Z μ st ds hr hg e0 hb r hl hd R p => ?_⟩
  have hpl : ps.length ≤ N.length := by have := congrArg List.length Sc.pre; rw [List.length_take] at this; omega
  refine LamX.run_ofS lk hcd Sc hr e0 hb r (by rw [isDs_len hd, hl]) fun hr' => ⟨_, h A outer s H E ⟨Z, μ, H, 0⟩ hr' hg, ?_⟩
  refine ⟨Z, μ, startD N ds, st, Stp.refl, repL_start hd (by omega), R, ?_⟩
  show PoS K S (wD E) ⟨Z, μ, H, 0⟩ (sm (startD N ds) st) _
  cases e : sm (startD N ds) st with
  | nx ρ st' =>
    rw [e] at p
    exact fun σ Z' μ' H' s' _ R' => p .non Z' μ' H' s' R' rfl
  | ret d st' =>
    rw [e] at p
    exact fun v Z' μ' H' s' R' q => p v Z' μ' H' s' R' q
  | exc c ρ st' =>
    rw [e] at p
    exact fun σ Z' μ' H' s' _ R' => p Z' μ' H' s' R'
  | bk ρ st' => rw [e] at p; exact p.elim
  | ct ρ st' => rw [e] at p; exact p.elim
  | fail => rw [e] at p; exact p.elim
/-- whatever the code object -/
theorem FnSem.of {x qual : Str} {params : Arguments} {body : List Stmt} {scope : Scope} {dvs : List V} {kws : List (Str × V)} {f : Addr} {fd : FuncData} {N ps : List Str} {k : Nat} {sm : SM} (F : FunD K x qual params body scope dvs kws f fd) (Sc : FnScope N ps scope)
    (h : ∀ (cdv : Value) (A : Around) (outer : List Env) (s : Shared) (H : Hp) (E : XK) (O : Or), Room k (A.deeper (envOfC qual scope s.heap.objs.size f cdv)) → A.guards = some [] →
      SSs (cxOf (L2.CX P w) P w K mg base N qual scope f cdv A outer s H E) S (wD E) O body sm) : FnSem P w K mg base S (k + 1) f fd ps (fun ds st => fin (sm (startD N ds) st)) := FnSem.ofC F Sc (h fd.code)
theorem FnSem.mono {f : Addr} {fd : FuncData} {ps : List Str} {j k : Nat} {m : DM} (F : FnSem P w K mg base S j f fd ps m) (h : j ≤ k) : FnSem P w K mg base S k f fd ps m :=
  ⟨fun A outer s H args us vs Q E Z μ st ds hr => F.run A outer s H args us vs Q E Z μ st ds (hr.mono h)⟩
theorem FnSem.none {f : Addr} {fd : FuncData} {ps : List Str} {k : Nat} : FnSem P w K mg base S k f fd ps (fun _ _ => .fail) := ⟨fun A outer s H args us vs Q E Z μ st ds _ _ _ _ _ _ _ _ p => p.elim⟩
theorem takes_def {N : List Str} {qual : Str} {scope : Scope} {f : Addr} {cdv : Value} {A : Around} {outer : List Env} {s : Shared} {H : Hp} {E : XK} : Takes (cxOf (L2.CX P w) P w K mg base N qual scope f cdv A outer s H E) (wD E) := takes_of (E := E) rfl rfl rfl rfl
theorem repL_startI {N : List Str} {Z : Hp} {μ : List Addr} {H : Hp} {O : Or} {ds : List D} {vs : List V} {c : Nat} {a dx : Addr} (h : isDs K S Z μ ds vs) (h1 : H a = some (.ins (He.ga K (S.cn c)) dx [])) (h2 : Z a = none) (h3 : a ∉ μ) (h4 : O.H a = none) (h5 : a = O.self) :
    RepL K S O Z μ H (L2.start N (.ref a :: vs)) (Sl.obj c [] :: (ds.map Sl.val ++ List.replicate (N.length - (ds.length + 1)) Sl.un)) := by
  have e := isDs_len h
  have no : ∀ i, isOwn (ds.map Sl.val ++ List.replicate (N.length - (ds.length + 1)) Sl.un)[i]? → False := fun i h1 => by
    by_cases hd : i < ds.length
    · rw [List.getElem?_append_left (by simpa using hd), List.getElem?_map, List.getElem?_eq_getElem hd] at h1
      exact h1.elim
    · rw [List.getElem?_append_right (by simpa using hd), List.getElem?_replicate] at h1
      split at h1
      · exact h1.elim
      · exact h1.elim
  refine ⟨?_, fun i sl hi => ?_, fun i j hn h1 h2 => ?_⟩
  · unfold L2.start
    simp only [List.length_append, List.length_map, List.length_replicate, List.length_cons, e]
    omega
  · unfold L2.start
    cases i with
    | zero =>
      cases hi
      exact ⟨a, dx, [], rfl, h1, rfl, h2, h3, h4, h5⟩
    | succ i =>
      rw [List.getElem?_cons_succ] at hi
      rw [List.map_cons, List.cons_append, List.getElem?_cons_succ]
      by_cases hd : i < ds.length
      · rw [List.getElem?_append_left (by simpa using hd), List.getElem?_map, List.getElem?_eq_getElem hd] at hi
        cases hi
        obtain ⟨v, hv, q⟩ := isDs_get h (List.getElem?_eq_getElem hd)
        refine ⟨v, ?_, q⟩
        rw [List.getElem?_append_left (by rw [List.length_map, e]; exact hd), List.getElem?_map, hv]
        rfl
      · rw [List.getElem?_append_right (by simpa using hd), List.getElem?_replicate] at hi
        split at hi
        · cases hi
          exact True.intro
        · cases hi
  · cases i with
    | zero =>
      cases j with
      | zero => exact absurd rfl hn
      | succ j => exact (no j h2).elim
    | succ i => exact (no i h1).elim
theorem FnSemI.of {x qual : Str} {params : Arguments} {body : List Stmt} {scope : Scope} {dvs : List V} {kws : List (Str × V)} {f : Addr} {fd : FuncData} {N ps : List Str} {k c : Nat} {sm : SM} (F : FunD K x qual params body scope dvs kws f fd) (Sc : FnScope N ps scope)
    (h : ∀ (cdv : Value) (A : Around) (outer : List Env) (s : Shared) (H : Hp) (E : XK) (O : Or), Room k (A.deeper (envOfC qual scope s.heap.objs.size f cdv)) → A.guards = some [] →
      SSs (cxOf (L2.CX P w) P w K mg base N qual scope f cdv A outer s H E) S (wD E) O body sm) :
    FnSemI P w K mg base S (k + 1) c f fd ps (fun ds st => finI S c (sm (Sl.obj c [] :: (ds.map Sl.val ++ List.replicate (N.length - (ds.length + 1)) Sl.un)) st)) := by
  obtain ⟨oc, od, dV, kV, doc, pm, an, cdv, ct, osl, rfl, lk, hcd, _, _⟩ := F.ex
  refine ⟨fun A outer s H H1 args us vs Q E Z μ st ds a dx hr hg e0 hb r hl hd R ha s0 h0 hz hm p => ?_⟩
  refine LamX.run_ofS lk hcd Sc hr e0 hb r (by rw [List.length_cons, isDs_len hd, hl]) fun hr' => ⟨_, h cdv A outer s H E ⟨Z, μ, H1, a⟩ hr' hg, ?_⟩
  refine ⟨Z, μ, Sl.obj c [] :: (ds.map Sl.val ++ List.replicate (N.length - (ds.length + 1)) Sl.un), st, s0, repL_startI hd ha hz hm h0 rfl, R, ?_⟩
  show PoS K S (wD E) ⟨Z, μ, H1, a⟩ (sm (Sl.obj c [] :: (ds.map Sl.val ++ List.replicate (N.length - (ds.length + 1)) Sl.un)) st) _
  cases e : sm (Sl.obj c [] :: (ds.map Sl.val ++ List.replicate (N.length - (ds.length + 1)) Sl.un)) st with
  | nx ρ st' =>
    rw [e] at p
    intro σ Z' μ' H' s' L' R'
    have p : PoI K S c E a Z μ H1 (match ρ[(0 : Nat)]? with
      | some (Sl.obj c' fs) => if c' = c ∧ fs.map (·.1) = S.cf c then Res.ok (fs.map (·.2)) st' else .fail
      | _ => .fail) Q := p
    cases e0 : ρ[0]? with
    | none => rw [e0] at p; exact p.elim
    | some sl =>
      rw [e0] at p
      cases sl with
      | obj c' fs =>
        have p : PoI K S c E a Z μ H1 (if c' = c ∧ fs.map (·.1) = S.cf c then Res.ok (fs.map (·.2)) st' else .fail) Q := p
        by_cases hc : c' = c ∧ fs.map (·.1) = S.cf c
        · rw [if_pos hc] at p
          obtain ⟨rfl, hf⟩ := hc
          obtain ⟨a', dx', xs, e1, q1, q2, q3, q4, q5, q6⟩ := L'.ok 0 _ e0
          have q6 : a' = a := q6
          subst q6
          have hx : xs.length = (S.cf c').length := by rw [isDs_len q2, List.length_map, ← hf, List.length_map]
          rw [hf] at q1
          exact p dx' xs Z' μ' H' s' R' q1 hx q2 q3 q4
        · rw [if_neg hc] at p
          exact p.elim
      | _ => exact p.elim
  | ret d st' => rw [e] at p; exact p.elim
  | exc c ρ st' =>
    rw [e] at p
    exact fun σ Z' μ' H' s' _ R' => p Z' μ' H' s' R'
  | bk ρ st' => rw [e] at p; exact p.elim
  | ct ρ st' => rw [e] at p; exact p.elim
  | fail => rw [e] at p; exact p.elim
end
end Sm
set_option Elab.async false
set_option linter.all false
set_option maxRecDepth 100000
set_option maxHeartbeats 4000000
set_option autoImplicit false
namespace Sm
open PySem PySem.Spec PyProof.Rows L2
section
variable {X : Cx} {S : Sta} {W : WX} {O : Or} {k : Nat} {f : Addr} {fd : FuncData} {ps : List Str} {m : DM}
/-- a callee, from a body: its end is taken -/
theorem run_sem {pins : List (Addr × Obj)} {σ : L2.St} {H : Hp} {s : Shared} {Q : VK} {us : List Value} {kw : List (Str × Value)} {bs : List Value} {xs : List V} {Z : Hp} {μ : List Addr} {st : Store} {ds : List D}
    (F : FnSem X.prog X.w X.K X.mg X.base S k f fd ps m) (hr : Room k X.A) (hg : X.A.guards = some []) (tk : Takes X W) (I : Inv X pins σ H s) (hb : BindsTo s fd ⟨us, kw⟩ (ps.zip bs)) (rb : Vals xs bs) (hd : isDs X.K S Z μ ds xs) (hl : ds.length = ps.length)
    (R : Rep X.K S Z μ H st) (p : Po X.K S W σ Z μ H (rD X.K S) (m ds st) Q) : wpAny (model X.prog X.w) X.A (call (.ref f) us kw) (EP X pins σ Q) X.xe s := by
  have p' : Po X.K S (wD (WE W σ)) [] Z μ H (rD X.K S) (m ds st) Q := by
    cases e : m ds st with
    | ok d st' => rw [e] at p; exact p
    | exc c st' => rw [e] at p; exact p
    | fail => rw [e] at p; exact p
  have c := F.run X.A X.stack s H ⟨us, kw⟩ bs xs Q (WE W σ) Z μ st ds hr hg I.env0 hb rb hl hd R p'
  refine wpAny_call (codeAny_mono c fun res s' q => ?_)
  cases res with
  | error e => exact passAt tk σ pins H s e s' I q
  | ok fl =>
    cases fl with
    | ret u => exact I.after q
    | next => exact q.elim
    | brk => exact q.elim
    | cont => exact q.elim
/-- f(e, ..) -/
def callM (m : DM) (n np : Nat) (g : List D → List D → List D) (ma : EM (List D)) : EM D := fun ρ st => (ma ρ st).bind fun ds st1 => if ds.length = n then m (g ds []) st1 else .fail
/-- f(e, .., k=v, ..) -/
def callKM (m : DM) (n nk : Nat) (g : List D → List D → List D) (ma mk : EM (List D)) : EM D := fun ρ st => (ma ρ st).bind fun ds st1 => (mk ρ st1).bind fun es st2 => if ds.length = n ∧ es.length = nk then m (g ds es) st2 else .fail
variable {x : Str} {p pos apos : Pos} {e o : Expr} {es : List Expr} {ma mk : EM (List D)} {n : Nat} {ks : List Str} {g : List D → List D → List D} {kws : List Keyword}
theorem s_call (F : FnSem X.prog X.w X.K X.mg X.base S k f fd ps m) (hr : Room k X.A) (hgd : X.A.guards = some []) (tk : Takes X W) (hm : X.mg x = some (.ref f)) (hk : PySem.W.keepIn X.K (.ref f) = true) (hb : Bnd X.K S fd ps n [] g) (ha : SA X S W O (e :: es) ma) (hg : Gl X x := by rfl)
    (hdb : (x == ("__debug__" : Str)) = false := by decide) (he : starEach (e :: es) X.env = (false, eval e X.env) :: starEach es X.env := by rfl) (hpl : (backTo pos (starEach es X.env)).any (·.1) = false := by rfl) :
    SE X S W O (.Call (.Name x p) (e :: es) [] pos) (callM m n ps.length g ma) := by
  refine ⟨fun pins s σ H Q I ⟨Z, μ, ρ, st, L, R, pp⟩ => ?_⟩
  refine wpAny_Call_Name_kw (ld_glob I hg hm ?_ hdb)
  have t := tG_bind (rel := rDs X.K S) (k := fun xs H1 => ∃ Z1 μ1 st1 ds, Rep X.K S Z1 μ1 H1 st1 ∧ isDs X.K S Z1 μ1 ds xs ∧ Po X.K S W σ Z1 μ1 H1 (rD X.K S) (if ds.length = n then m (g ds []) st1 else .fail) Q) L R pp fun ds xs st1 Z1 μ1 H1 s1 L1 R1 i1 p1 => ⟨Z1, μ1, st1, ds, R1, i1, p1⟩
  refine PySem.W.callWith_K (h₀ := X.base) I.ok.mod.kin hk (thn (ha.run pos pins s σ H _ I t) fun us s1 ⟨xs, H1, I1, r1, Z1, μ1, st1, ds, R1, hd, p1⟩ => ⟨I1.kIn, ?_⟩) he hpl
  by_cases hn : ds.length = n
  · rw [if_pos hn] at p1
    obtain ⟨bs, ys, b1, b2, b3, b4⟩ := hb.to s1 us [] xs [] ds [] Z1 μ1 I1.kIn r1 .nil hd rfl hn rfl
    exact run_sem F hr hgd tk I1 b1 b2 b3 b4 R1 p1
  · rw [if_neg hn] at p1
    exact p1.elim
/-- f() -/
def call0M (m : DM) : EM D := fun _ st => m [] st
theorem s_call0 (F : FnSem X.prog X.w X.K X.mg X.base S k f fd [] m) (hr : Room k X.A) (hgd : X.A.guards = some []) (tk : Takes X W) (hm : X.mg x = some (.ref f)) (hk : PySem.W.keepIn X.K (.ref f) = true) (hb : Bnd X.K S fd [] 0 [] (fun ds _ => ds)) (hg : Gl X x := by rfl)
    (hdb : (x == ("__debug__" : Str)) = false := by decide) : SE X S W O (.Call (.Name x p) [] [] pos) (call0M m) := by
  refine ⟨fun pins s σ H Q I ⟨Z, μ, ρ, st, L, R, pp⟩ => ?_⟩
  refine wpAny_Call_Name_kw (ld_glob I hg hm ?_ hdb)
  obtain ⟨bs, ys, b1, b2, b3, b4⟩ := hb.to s [] [] [] [] [] [] Z μ I.kIn .nil .nil rfl rfl rfl rfl
  exact PySem.W.callWith_K0 I.kIn hk (run_sem F hr hgd tk I b1 b2 b3 b4 R pp)
/-- keywords' values -/
abbrev SK (X : Cx) (S : Sta) (W : WX) (O : Or) (kws : List Keyword) (m : EM (List D)) : Prop := PK X kws (tG X S W O (rDs X.K S) m)
theorem pk_imp {kws : List Keyword} {t t' : TA} (h : PK X kws t) (i : ∀ σ H Q, t' σ H Q → t σ H Q) : PK X kws t' := ⟨fun pos pins s σ H Q I q => h.run pos pins s σ H Q I (i _ _ _ q)⟩
theorem k_nil : SK X S W O [] nilM := pk_imp pk_nil fun σ H Q ⟨Z, μ, ρ, st, L, R, p⟩ => p [] Z μ H Stp.refl R rfl
theorem k_cons {nm : Option Str} {kpos : Pos} {md : EM D} {r : EM (List D)} (ha : SE X S W O e md) (hr : SK X S W O kws r) : SK X S W O (⟨nm, e, kpos⟩ :: kws) (consM md r) :=
  pk_imp (pk_cons ha hr) fun σ H Q ⟨Z, μ, ρ, st, L, R, p⟩ => by
    refine tG_bind L R p fun d x st1 Z1 μ1 H1 s1 L1 R1 i1 p1 => ?_
    refine tG_bind L1 R1 p1 fun ds xs st2 Z2 μ2 H2 s2 L2 R2 i2 p2 => ?_
    exact p2 (x :: xs) Z2 μ2 H2 Stp.refl R2 (isDs_cons (s2.isD i1) i2)
theorem s_callK (F : FnSem X.prog X.w X.K X.mg X.base S k f fd ps m) (hr : Room k X.A) (hgd : X.A.guards = some []) (tk : Takes X W) (hm : X.mg x = some (.ref f)) (hk : PySem.W.keepIn X.K (.ref f) = true) (hb : Bnd X.K S fd ps n ks g) (ha : SA X S W O (e :: es) ma) (hkw : SK X S W O kws mk) (hg : Gl X x := by rfl)
    (hall : (backToKw pos (keywordEach kws X.env)).all (·.1.isSome) = true := by rfl) (hks : (backToKw pos (keywordEach kws X.env)).filterMap (·.1) = ks := by rfl)
    (hdb : (x == ("__debug__" : Str)) = false := by decide) (he : starEach (e :: es) X.env = (false, eval e X.env) :: starEach es X.env := by rfl)
    (hpl : ((backTo pos (starEach (e :: es) X.env)).any (·.1) || (backToKw pos (keywordEach kws X.env)).any (·.1.isNone)) = false := by rfl) :
    SE X S W O (.Call (.Name x p) (e :: es) kws pos) (callKM m n ks.length g ma mk) := by
  refine ⟨fun pins s σ H Q I ⟨Z, μ, ρ, st, L, R, pp⟩ => ?_⟩
  refine wpAny_Call_Name_kw (ld_glob I hg hm ?_ hdb)
  have t := tG_bind (rel := rDs X.K S) (k := fun xs H1 => ∃ Z1 μ1 st1 ds, RepL X.K S O Z1 μ1 H1 σ ρ ∧ Rep X.K S Z1 μ1 H1 st1 ∧ isDs X.K S Z1 μ1 ds xs ∧ Po X.K S W σ Z1 μ1 H1 (rD X.K S) ((mk ρ st1).bind fun es st2 => if ds.length = n ∧ es.length = ks.length then m (g ds es) st2 else .fail) Q) L R pp
    fun ds xs st1 Z1 μ1 H1 s1 L1 R1 i1 p1 => ⟨Z1, μ1, st1, ds, L1, R1, i1, p1⟩
  refine PySem.W.callWith_KW (h₀ := X.base) I.ok.mod.kin hk hall (thn (ha.run pos pins s σ H _ I t) fun us s1 ⟨xs, H1, I1, r1, Z1, μ1, st1, ds, L1, R1, hd, p1⟩ => ?_) hpl he
  have t2 := tG_bind (rel := rDs X.K S) (k := fun ys H2 => ∃ Z2 μ2 st2 es, Rep X.K S Z2 μ2 H2 st2 ∧ isDs X.K S Z2 μ2 ds xs ∧ isDs X.K S Z2 μ2 es ys ∧ Po X.K S W σ Z2 μ2 H2 (rD X.K S) (if ds.length = n ∧ es.length = ks.length then m (g ds es) st2 else .fail) Q) L1 R1 p1
    fun es ys st2 Z2 μ2 H2 s2 L2 R2 i2 p2 => ⟨Z2, μ2, st2, es, R2, s2.isDs hd, i2, p2⟩
  refine thn (hkw.run pos pins s1 σ H1 _ I1 t2) fun ws s2 ⟨ys, H2, I2, r2, Z2, μ2, st2, es', R2, hd2, he2, p2⟩ => ⟨I2.kIn, ?_⟩
  rw [hks]
  by_cases hn : ds.length = n ∧ es'.length = ks.length
  · rw [if_pos hn] at p2
    obtain ⟨bs, zs, b1, b2, b3, b4⟩ := hb.to s2 us ws xs ys ds es' Z2 μ2 I2.kIn r1 r2 hd2 he2 hn.1 hn.2
    exact run_sem F hr hgd tk I2 b1 b2 b3 b4 R2 p2
  · rw [if_neg hn] at p2
    exact p2.elim
theorem s_callK0 (F : FnSem X.prog X.w X.K X.mg X.base S k f fd ps m) (hr : Room k X.A) (hgd : X.A.guards = some []) (tk : Takes X W) (hm : X.mg x = some (.ref f)) (hk : PySem.W.keepIn X.K (.ref f) = true) (hb : Bnd X.K S fd ps 0 ks g) (hkw : SK X S W O kws mk) (hg : Gl X x := by rfl)
    (hall : (backToKw pos (keywordEach kws X.env)).all (·.1.isSome) = true := by rfl) (hks : (backToKw pos (keywordEach kws X.env)).filterMap (·.1) = ks := by rfl)
    (hdb : (x == ("__debug__" : Str)) = false := by decide) (hpl : ((backTo pos (starEach [] X.env)).any (·.1) || (backToKw pos (keywordEach kws X.env)).any (·.1.isNone)) = false := by rfl) :
    SE X S W O (.Call (.Name x p) [] kws pos) (callKM m 0 ks.length g nilM mk) := by
  refine ⟨fun pins s σ H Q I ⟨Z, μ, ρ, st, L, R, pp⟩ => ?_⟩
  refine wpAny_Call_Name_kw (ld_glob I hg hm ?_ hdb)
  have pp : Po X.K S W σ Z μ H (rD X.K S) ((mk ρ st).bind fun es st2 => if ([] : List D).length = 0 ∧ es.length = ks.length then m (g [] es) st2 else .fail) Q := pp
  refine PySem.W.callWith_KW0 (h₀ := X.base) I.ok.mod.kin hk hall ?_ hpl
  have t2 := tG_bind (rel := rDs X.K S) (k := fun ys H2 => ∃ Z2 μ2 st2 es, Rep X.K S Z2 μ2 H2 st2 ∧ isDs X.K S Z2 μ2 es ys ∧ Po X.K S W σ Z2 μ2 H2 (rD X.K S) (if ([] : List D).length = 0 ∧ es.length = ks.length then m (g [] es) st2 else .fail) Q) L R pp
    fun es ys st2 Z2 μ2 H2 s2 L2 R2 i2 p2 => ⟨Z2, μ2, st2, es, R2, i2, p2⟩
  refine thn (hkw.run pos pins s σ H _ I t2) fun ws s2 ⟨ys, H2, I2, r2, Z2, μ2, st2, es', R2, he2, p2⟩ => ⟨I2.kIn, ?_⟩
  rw [hks]
  by_cases hn : ([] : List D).length = 0 ∧ es'.length = ks.length
  · rw [if_pos hn] at p2
    obtain ⟨bs, zs, b1, b2, b3, b4⟩ := hb.to s2 [] ws [] ys [] es' Z2 μ2 I2.kIn .nil r2 rfl he2 rfl hn.2
    exact run_sem F hr hgd tk I2 b1 b2 b3 b4 R2 p2
  · rw [if_neg hn] at p2
    exact p2.elim
/-- o.m(e, ..) of an instance of the class c -/
def methM (c : Nat) (m : DM) (n : Nat) (mo : EM D) (ma : EM (List D)) : EM D := fun ρ st => (mo ρ st).bind fun d st1 => match d with
  | .ins c' fs => if c' = c then (ma ρ st1).bind fun ds st2 => if ds.length + 1 = n then m (.ins c' fs :: ds) st2 else .fail else .fail
  | _ => .fail
theorem zip_none {α : Type} {f : Str} : ∀ {names : List Str} {xs : List α}, f ∉ names → (names.zip xs).lookup f = none
  | [], xs, h => by simp
  | n :: ns, [], h => by simp
  | n :: ns, x :: xs, h => by
    rw [List.zip_cons_cons, List.lookup_cons]
    have e2 : (f == n) = false := beq_eq_false_iff_ne.mpr fun z => h (z ▸ List.mem_cons_self)
    rw [e2]
    exact zip_none fun z => h (List.mem_cons_of_mem _ z)
/-- all parameters given by place -/
def PosB (K : Frg) (fd : FuncData) (ps : List Str) : Prop := Binds K fd ps []
theorem PosB.bnd {K : Frg} {fd : FuncData} {ps : List Str} (h : PosB K fd ps) : Bnd K S fd ps ps.length [] (fun ds _ => ds) :=
  ⟨fun s us ws vs zs ds es Z μ X r1 r2 h1 h2 h3 h4 => by
    have hu : us.length = ps.length := by rw [← r1.length, isDs_len h1, h3]
    refine ⟨us, vs, ?_, r1, h1, h3⟩
    have b := h s us X (by rw [List.append_nil]; exact hu)
    rw [List.append_nil] at b
    cases es with
    | nil =>
      rw [show zs = [] from h2] at r2
      cases r2
      exact b
    | cons _ _ => cases h4⟩
theorem s_meth (c : Nat) {name : Str} {mo : EM D} {pl : Sem Bool} (tk : Takes X W) (F : FnSem X.prog X.w X.K X.mg X.base S k f fd ps m) (hr : Room k X.A) (hgd : X.A.guards = some []) (hc : Cls X.K (He.ga X.K (S.cn c))) (hM : Meth X.K (He.ga X.K (S.cn c)) name f) (hno : name ∉ S.cf c) (hb : PosB X.K fd ps)
    (ho : SE X S W O o mo) (ha : SA X S W O (e :: es) ma)
    (hst : starEach (e :: es) X.env = (false, eval e X.env) :: starEach es X.env := by rfl) (hpl : (backTo pos (starEach es X.env)).any (·.1) = false := by rfl)
    (ht : eval (.Call (.Attribute o name apos) (e :: es) [] pos) X.env = (do
      let ov ← eval o X.env
      standAt apos.atName
      let (f, first) ← holding [ov] (getMethod ov name pl)
      callWith pos f first (backTo pos (starEach (e :: es) X.env)) (backToKw pos (keywordEach [] X.env))) := by rfl) :
    SE X S W O (.Call (.Attribute o name apos) (e :: es) [] pos) (methM c m ps.length mo ma) := by
  refine ⟨fun pins s σ H Q I ⟨Z, μ, ρ, st, L, R, pp⟩ => ?_⟩
  have t := tG_bind (rel := rD X.K S) (k := fun x H1 => ∃ Z1 μ1 st1 fs, RepL X.K S O Z1 μ1 H1 σ ρ ∧ Rep X.K S Z1 μ1 H1 st1 ∧ isD X.K S Z1 μ1 (.ins c fs) x ∧ Po X.K S W σ Z1 μ1 H1 (rD X.K S) ((ma ρ st1).bind fun ds st2 => if ds.length + 1 = ps.length then m (.ins c fs :: ds) st2 else .fail) Q) L R pp
    fun d x st1 Z1 μ1 H1 s1 L1 R1 i1 p1 => by
      cases d with
      | ins c' fs =>
        have p1 : Po X.K S W σ Z1 μ1 H1 (rD X.K S) (if c' = c then (ma ρ st1).bind fun ds st2 => if ds.length + 1 = ps.length then m (.ins c' fs :: ds) st2 else .fail else .fail) Q := p1
        by_cases hcc : c' = c
        · subst hcc
          rw [if_pos rfl] at p1
          exact ⟨Z1, μ1, st1, fs, L1, R1, i1, p1⟩
        · rw [if_neg hcc] at p1
          exact p1.elim
      | _ => exact p1.elim
  refine PySem.W.methodCall_KW (pl := pl) (thn (ho.run pins s σ H _ I t) fun u s1 ⟨x, H1, I1, rx, Z1, μ1, st1, fs, L1, R1, i1, p1⟩ => ?_) ht
  have i1' := i1
  obtain ⟨a, dx, xs, e1, q1, q2, q3⟩ := i1
  subst e1
  obtain rfl : u = Value.ref a := rx
  refine getmeth_ok I1 (R1.le _ _ q1) hc hM (zip_none hno) ?_
  have t2 := tG_bind (rel := rDs X.K S) (k := fun ys H2 => ∃ Z2 μ2 st2 ds, Rep X.K S Z2 μ2 H2 st2 ∧ isD X.K S Z2 μ2 (.ins c fs) (.ref a) ∧ isDs X.K S Z2 μ2 ds ys ∧ Po X.K S W σ Z2 μ2 H2 (rD X.K S) (if ds.length + 1 = ps.length then m (.ins c fs :: ds) st2 else .fail) Q) L1 R1 p1
    fun ds ys st2 Z2 μ2 H2 s2 L2 R2 i2 p2 => ⟨Z2, μ2, st2, ds, R2, s2.isD i1', i2, p2⟩
  refine PySem.W.callWith_K (first := [.ref a]) (h₀ := X.base) I.ok.mod.kin hM.kp (thn (ha.run pos pins s1 σ H1 _ I1 t2) fun us s2 ⟨ys, H2, I2, r2, Z2, μ2, st2, ds, R2, hi2, hd2, p2⟩ => ⟨I2.kIn, ?_⟩) hst hpl
  by_cases hn : ds.length + 1 = ps.length
  · rw [if_pos hn] at p2
    have hl : (D.ins c fs :: ds).length = ps.length := by rw [List.length_cons]; exact hn
    obtain ⟨bs, zs, b1, b2, b3, b4⟩ := hb.bnd.to s2 (.ref a :: us) [] (.ref a :: ys) [] (.ins c fs :: ds) [] Z2 μ2 I2.kIn (.cons rfl r2) .nil (isDs_cons hi2 hd2) rfl hl rfl
    exact run_sem F hr hgd tk I2 b1 b2 b3 b4 R2 p2
  · rw [if_neg hn] at p2
    exact p2.elim
/-- o.m() -/
def meth0M (c : Nat) (m : DM) (mo : EM D) : EM D := fun ρ st => (mo ρ st).bind fun d st1 => match d with
  | .ins c' fs => if c' = c then m [.ins c' fs] st1 else .fail
  | _ => .fail
theorem s_meth0 (c : Nat) {name sn : Str} {mo : EM D} {pl : Sem Bool} (tk : Takes X W) (F : FnSem X.prog X.w X.K X.mg X.base S k f fd [sn] m) (hr : Room k X.A) (hgd : X.A.guards = some []) (hc : Cls X.K (He.ga X.K (S.cn c))) (hM : Meth X.K (He.ga X.K (S.cn c)) name f) (hno : name ∉ S.cf c) (hb : PosB X.K fd [sn])
    (ho : SE X S W O o mo)
    (ht : eval (.Call (.Attribute o name apos) [] [] pos) X.env = (do
      let ov ← eval o X.env
      standAt apos.atName
      let (f, first) ← holding [ov] (getMethod ov name pl)
      callWith pos f first (backTo pos (starEach [] X.env)) (backToKw pos (keywordEach [] X.env))) := by rfl) :
    SE X S W O (.Call (.Attribute o name apos) [] [] pos) (meth0M c m mo) := by
  refine ⟨fun pins s σ H Q I ⟨Z, μ, ρ, st, L, R, pp⟩ => ?_⟩
  have t := tG_bind (rel := rD X.K S) (k := fun x H1 => ∃ Z1 μ1 st1 fs, Rep X.K S Z1 μ1 H1 st1 ∧ isD X.K S Z1 μ1 (.ins c fs) x ∧ Po X.K S W σ Z1 μ1 H1 (rD X.K S) (m [.ins c fs] st1) Q) L R pp
    fun d x st1 Z1 μ1 H1 s1 L1 R1 i1 p1 => by
      cases d with
      | ins c' fs =>
        have p1 : Po X.K S W σ Z1 μ1 H1 (rD X.K S) (if c' = c then m [.ins c' fs] st1 else .fail) Q := p1
        by_cases hcc : c' = c
        · subst hcc
          rw [if_pos rfl] at p1
          exact ⟨Z1, μ1, st1, fs, R1, i1, p1⟩
        · rw [if_neg hcc] at p1
          exact p1.elim
      | _ => exact p1.elim
  refine PySem.W.methodCall_KW (pl := pl) (thn (ho.run pins s σ H _ I t) fun u s1 ⟨x, H1, I1, rx, Z1, μ1, st1, fs, R1, i1, p1⟩ => ?_) ht
  have i1' := i1
  obtain ⟨a, dx, xs, e1, q1, q2, q3⟩ := i1
  subst e1
  obtain rfl : u = Value.ref a := rx
  refine getmeth_ok I1 (R1.le _ _ q1) hc hM (zip_none hno) ?_
  obtain ⟨bs, zs, b1, b2, b3, b4⟩ := hb.bnd.to s1 [.ref a] [] [.ref a] [] [.ins c fs] [] Z1 μ1 I1.kIn (.cons rfl .nil) .nil (isDs_cons i1' rfl) rfl rfl rfl
  exact PySem.W.callWith_K0 (first := [.ref a]) I1.kIn hM.kp (run_sem F hr hgd tk I1 b1 b2 b3 b4 R1 p1)
theorem make_guards {A : Around} {C : Addr} {us : List Value} {kw : List (Str × Value)} (h : A.guards = some []) : (A.under (.builtin "type.__call__" ⟨.ref C :: us, kw⟩)).guards = some [] := by
  have e : (Code.builtin "type.__call__" ⟨.ref C :: us, kw⟩).guards = [] := by
    unfold Code.guards
    rw [if_neg (by simp [Code.isGuard, guardIds])]
  show pushGuards (Code.builtin "type.__call__" ⟨.ref C :: us, kw⟩).guards A.guards = some []
  rw [e, h]
  rfl
theorem run_make {mi : List D → Store → Res (List D)} {c : Nat} {pins : List (Addr × Obj)} {σ : L2.St} {H : Hp} {s : Shared} {Q : VK} {us : List Value} {kw : List (Str × Value)} {xs : List V} {Z : Hp} {μ : List Addr} {st : Store} {ds : List D} {bs : Value → List Value}
    (F : FnSemI X.prog X.w X.K X.mg X.base S k c f fd ps mi) (M : Mk X.K (He.ga X.K (S.cn c)) f) (hr : Room (k + 1) X.A) (hg : X.A.guards = some []) (tk : Takes X W) (I : Inv X pins σ H s)
    (hb : ∀ s' self, X.K.In s'.heap → BindsTo s' fd ⟨self :: us, kw⟩ (ps.zip (bs self))) (rb : ∀ a, Vals (.ref a :: xs) (bs (.ref a))) (hd : isDs X.K S Z μ ds xs) (hl : ds.length + 1 = ps.length)
    (R : Rep X.K S Z μ H st) (p : Po X.K S W σ Z μ H (rD X.K S) ((mi ds st).bind fun es st1 => .ok (.ins c es) st1) Q) : wpAny (model X.prog X.w) X.A (call (.ref (He.ga X.K (S.cn c))) us kw) (EP X pins σ Q) X.xe s := by
  have na := I.hok.fresh (Nat.le_succ s.heap.objs.size)
  have nd := I.hok.fresh (Nat.le_refl s.heap.objs.size)
  have nne : s.heap.objs.size ≠ s.heap.objs.size + 1 := Nat.ne_of_lt (Nat.lt_succ_self _)
  have I2 := Inv.made (C := He.ga X.K (S.cn c)) I
  obtain ⟨s1, R1⟩ := R.lay (o := .own (s.heap.objs.size + 1)) nd
  have na1 : upd H s.heap.objs.size (.own (s.heap.objs.size + 1)) (s.heap.objs.size + 1) = none := by rw [upd_ne nne.symm]; exact na
  obtain ⟨s2, R2⟩ := R1.lay (o := .ins (He.ga X.K (S.cn c)) s.heap.objs.size []) na1
  have s12 := s1.trans s2
  have pI : PoI X.K S c (WE W σ) (s.heap.objs.size + 1) Z μ H (mi ds st) (fun v H2 => v = .non ∧ Q (.ref (s.heap.objs.size + 1)) H2) := by
    cases e : mi ds st with
    | ok es st1 =>
      rw [e] at p
      intro dx ys Z' μ' H' s' R' h1 h2 h3 h4 h5
      refine ⟨rfl, ?_⟩
      obtain ⟨s3, R3⟩ := Rep.freeze s' R' na h1 h4 h5 (fun ps z => by cases z)
      exact p _ _ μ' H' s3 R3 ⟨_, dx, ys, rfl, upd_same, h2, isDs_mono (fun b o z => by rw [upd_ne (ne_of_none z h4)]; exact z) (fun _ _ z => z) _ _ h3⟩
    | exc c st1 =>
      rw [e] at p
      exact fun Z' μ' H' s' R' => p Z' μ' H' s' R'
    | fail =>
      rw [e] at p
      exact p.elim
  have cc := F.run (X.A.under (.builtin "type.__call__" ⟨.ref (He.ga X.K (S.cn c)) :: us, kw⟩)) X.stack _ _ H ⟨Value.ref (s.heap.objs.size + 1) :: us, kw⟩ (bs (.ref (s.heap.objs.size + 1))) xs _ (WE W σ) Z μ st ds (s.heap.objs.size + 1) s.heap.objs.size
    (hr.make _ us kw) (make_guards hg) (I2.env0.make _ us kw) (hb _ _ I2.kIn) (rb _) hl hd R2 upd_same s12 na (R.nne na).1 (R.nne na).2 pI
  refine wpAny_call (make_map (f := f) I.kIn M.makes M.init (beq_iff_eq.mp M.fn) (codeAny_mono cc fun res s' q => ?_))
  cases res with
  | error e => exact passAt tk σ pins _ _ e s' I2 q
  | ok fl =>
    cases fl with
    | ret u =>
      obtain ⟨v, H', I3, rv, ev, q3⟩ := I2.after q
      subst ev
      exact ⟨rv, ⟨V.ref (s.heap.objs.size + 1), H', I3, rfl, q3⟩⟩
    | next => exact q.elim
    | brk => exact q.elim
    | cont => exact q.elim
/-- how the making of an instance binds -/
structure BndI (K : Frg) (S : Sta) (fd : FuncData) (ps : List Str) (n : Nat) (ks : List Str) (g : List D → List D → List D) : Prop where
  to : ∀ (us ws : List Value) (vs zs : List V) (ds es : List D) (Z : Hp) (μ : List Addr), Vals vs us → Vals zs ws → isDs K S Z μ ds vs → isDs K S Z μ es zs → ds.length = n → es.length = ks.length →
    ∃ (bs : Value → List Value) (xs : List V), (∀ (s : Shared) (self : Value), K.In s.heap → BindsTo s fd ⟨self :: us, ks.zip ws⟩ (ps.zip (bs self))) ∧ (∀ a, Vals (.ref a :: xs) (bs (.ref a))) ∧ isDs K S Z μ (g ds es) xs ∧ (g ds es).length + 1 = ps.length
def makeM (c : Nat) (mi : List D → Store → Res (List D)) (n : Nat) (g : List D → List D → List D) (ma : EM (List D)) : EM D := fun ρ st => (ma ρ st).bind fun ds st1 => if ds.length = n then (mi (g ds []) st1).bind fun es st2 => .ok (.ins c es) st2 else .fail
def makeKM (c : Nat) (mi : List D → Store → Res (List D)) (n nk : Nat) (g : List D → List D → List D) (ma mk : EM (List D)) : EM D := fun ρ st => (ma ρ st).bind fun ds st1 => (mk ρ st1).bind fun es st2 => if ds.length = n ∧ es.length = nk then (mi (g ds es) st2).bind fun es st3 => .ok (.ins c es) st3 else .fail
theorem s_make (c : Nat) {mi : List D → Store → Res (List D)} (tk : Takes X W) (F : FnSemI X.prog X.w X.K X.mg X.base S k c f fd ps mi) (M : Mk X.K (He.ga X.K (S.cn c)) f) (hr : Room (k + 1) X.A) (hgd : X.A.guards = some []) (hm : X.mg x = some (.ref (He.ga X.K (S.cn c)))) (hb : BndI X.K S fd ps n [] g) (ha : SA X S W O (e :: es) ma) (hg : Gl X x := by rfl)
    (hdb : (x == ("__debug__" : Str)) = false := by decide) (he : starEach (e :: es) X.env = (false, eval e X.env) :: starEach es X.env := by rfl) (hpl : (backTo pos (starEach es X.env)).any (·.1) = false := by rfl) :
    SE X S W O (.Call (.Name x p) (e :: es) [] pos) (makeM c mi n g ma) := by
  refine ⟨fun pins s σ H Q I ⟨Z, μ, ρ, st, L, R, pp⟩ => ?_⟩
  refine wpAny_Call_Name_kw (ld_glob I hg hm ?_ hdb)
  have t := tG_bind (rel := rDs X.K S) (k := fun xs H1 => ∃ Z1 μ1 st1 ds, Rep X.K S Z1 μ1 H1 st1 ∧ isDs X.K S Z1 μ1 ds xs ∧ Po X.K S W σ Z1 μ1 H1 (rD X.K S) (if ds.length = n then (mi (g ds []) st1).bind fun es st2 => .ok (.ins c es) st2 else .fail) Q) L R pp fun ds xs st1 Z1 μ1 H1 s1 L1 R1 i1 p1 => ⟨Z1, μ1, st1, ds, R1, i1, p1⟩
  refine PySem.W.callWith_K (h₀ := X.base) I.ok.mod.kin M.kp (thn (ha.run pos pins s σ H _ I t) fun us s1 ⟨xs, H1, I1, r1, Z1, μ1, st1, ds, R1, hd, p1⟩ => ⟨I1.kIn, ?_⟩) he hpl
  by_cases hn : ds.length = n
  · rw [if_pos hn] at p1
    obtain ⟨bs, ys, b1, b2, b3, b4⟩ := hb.to us [] xs [] ds [] Z1 μ1 r1 .nil hd rfl hn rfl
    exact run_make F M hr hgd tk I1 b1 b2 b3 b4 R1 p1
  · rw [if_neg hn] at p1
    exact p1.elim
theorem s_makeK (c : Nat) {mi : List D → Store → Res (List D)} (tk : Takes X W) (F : FnSemI X.prog X.w X.K X.mg X.base S k c f fd ps mi) (M : Mk X.K (He.ga X.K (S.cn c)) f) (hr : Room (k + 1) X.A) (hgd : X.A.guards = some []) (hm : X.mg x = some (.ref (He.ga X.K (S.cn c)))) (hb : BndI X.K S fd ps n ks g) (ha : SA X S W O (e :: es) ma) (hkw : SK X S W O kws mk) (hg : Gl X x := by rfl)
    (hall : (backToKw pos (keywordEach kws X.env)).all (·.1.isSome) = true := by rfl) (hks : (backToKw pos (keywordEach kws X.env)).filterMap (·.1) = ks := by rfl)
    (hdb : (x == ("__debug__" : Str)) = false := by decide) (he : starEach (e :: es) X.env = (false, eval e X.env) :: starEach es X.env := by rfl)
    (hpl : ((backTo pos (starEach (e :: es) X.env)).any (·.1) || (backToKw pos (keywordEach kws X.env)).any (·.1.isNone)) = false := by rfl) :
    SE X S W O (.Call (.Name x p) (e :: es) kws pos) (makeKM c mi n ks.length g ma mk) := by
  refine ⟨fun pins s σ H Q I ⟨Z, μ, ρ, st, L, R, pp⟩ => ?_⟩
  refine wpAny_Call_Name_kw (ld_glob I hg hm ?_ hdb)
  have t := tG_bind (rel := rDs X.K S) (k := fun xs H1 => ∃ Z1 μ1 st1 ds, RepL X.K S O Z1 μ1 H1 σ ρ ∧ Rep X.K S Z1 μ1 H1 st1 ∧ isDs X.K S Z1 μ1 ds xs ∧ Po X.K S W σ Z1 μ1 H1 (rD X.K S) ((mk ρ st1).bind fun es st2 => if ds.length = n ∧ es.length = ks.length then (mi (g ds es) st2).bind fun es st3 => .ok (.ins c es) st3 else .fail) Q) L R pp
    fun ds xs st1 Z1 μ1 H1 s1 L1 R1 i1 p1 => ⟨Z1, μ1, st1, ds, L1, R1, i1, p1⟩
  refine PySem.W.callWith_KW (h₀ := X.base) I.ok.mod.kin M.kp hall (thn (ha.run pos pins s σ H _ I t) fun us s1 ⟨xs, H1, I1, r1, Z1, μ1, st1, ds, L1, R1, hd, p1⟩ => ?_) hpl he
  have t2 := tG_bind (rel := rDs X.K S) (k := fun ys H2 => ∃ Z2 μ2 st2 es, Rep X.K S Z2 μ2 H2 st2 ∧ isDs X.K S Z2 μ2 ds xs ∧ isDs X.K S Z2 μ2 es ys ∧ Po X.K S W σ Z2 μ2 H2 (rD X.K S) (if ds.length = n ∧ es.length = ks.length then (mi (g ds es) st2).bind fun es st3 => .ok (.ins c es) st3 else .fail) Q) L1 R1 p1
    fun es ys st2 Z2 μ2 H2 s2 L2 R2 i2 p2 => ⟨Z2, μ2, st2, es, R2, s2.isDs hd, i2, p2⟩
  refine thn (hkw.run pos pins s1 σ H1 _ I1 t2) fun ws s2 ⟨ys, H2, I2, r2, Z2, μ2, st2, es', R2, hd2, he2, p2⟩ => ⟨I2.kIn, ?_⟩
  rw [hks]
  by_cases hn : ds.length = n ∧ es'.length = ks.length
  · rw [if_pos hn] at p2
    obtain ⟨bs, zs, b1, b2, b3, b4⟩ := hb.to us ws xs ys ds es' Z2 μ2 r1 r2 hd2 he2 hn.1 hn.2
    exact run_make F M hr hgd tk I2 b1 b2 b3 b4 R2 p2
  · rw [if_neg hn] at p2
    exact p2.elim
end
end Sm
set_option Elab.async false
set_option linter.all false
set_option maxRecDepth 100000
set_option maxHeartbeats 4000000
set_option autoImplicit false
namespace Sm
open PySem PySem.Spec PyProof.Rows L2
section
variable {X : Cx} {S : Sta} {W : WX} {O : Or} {k : Nat}
theorem s_glo {x : Str} {pos : Pos} (hm : X.mg x = some (.ref (He.ga X.K x))) (hg : Gl X x := by rfl) (hd : (x == ("__debug__" : Str)) = false := by decide) : SE X S W O (.Name x pos) (cM (.glo x)) := s_c (pe_glob (v := .ref (He.ga X.K x)) hg hm rfl hd) fun _ _ => rfl
theorem s_ty {x : Str} {T : String} {pos : Pos} (hm : X.mg x = none) (hv : bootBuiltins x = some (.type T)) (hg : Gl X x := by rfl) (hn : x ≠ "__name__" := by decide) (hd : (x == ("__debug__" : Str)) = false := by decide) : SE X S W O (.Name x pos) (cM (.ty T)) :=
  s_c (pe_bltn (v := .ty T) hg hm hv rfl hn hd) fun _ _ => rfl
inductive Ki where
  | non | bl | int | str | tup | lst | dic
  deriving DecidableEq
def Ki.name : Ki → String
  | .non => "NoneType"
  | .bl => "bool"
  | .int => "int"
  | .str => "str"
  | .tup => "tuple"
  | .lst => "list"
  | .dic => "dict"
def kiOf (d : D) (st : Store) : Option Ki := match d with
  | .non => some .non
  | .bl _ => some .bl
  | .int _ => some .int
  | .str _ => some .str
  | .tup _ => some .tup
  | .lst _ => some .lst
  | .ref n => (match st[n]? with
    | some (.lst _) => some .lst
    | some (.dic _) => some .dic
    | none => none)
  | _ => none
/-- whether a built-in kind is of a built-in type -/
def isaK (k : Ki) (T : String) : Option Bool :=
  if T = "int" then some (k == .int || k == .bl) else if T = "bool" then some (k == .bl) else if T = "str" then some (k == .str) else if T = "tuple" then some (k == .tup) else if T = "list" then some (k == .lst) else if T = "dict" then some (k == .dic) else none
theorem isaK_ok {k : Ki} {T : String} {b : Bool} (h : isaK k T = some b) : kitB k.name T = some b := by
  unfold isaK at h
  split at h
  · rename_i e; subst e; cases h; cases k <;> decide +kernel
  · split at h
    · rename_i e; subst e; cases h; cases k <;> decide +kernel
    · split at h
      · rename_i e; subst e; cases h; cases k <;> decide +kernel
      · split at h
        · rename_i e; subst e; cases h; cases k <;> decide +kernel
        · split at h
          · rename_i e; subst e; cases h; cases k <;> decide +kernel
          · split at h
            · rename_i e; subst e; cases h; cases k <;> decide +kernel
            · cases h
/-- the built-in types that are asked for -/
def tys : List String := ["int", "bool", "str", "tuple", "list", "dict"]
/-- what isinstance asks of the own classes cs -/
def isaB (K : Frg) (S : Sta) (cs : List Nat) : Bool :=
  (PySem.W.takesIn K (.builtin "object.__class__") == some true) && (decide (PySem.W.specialIn K (.builtin "object.__class__") "__get__" = some (some (.builtin "getset_descriptor.__get__")))) && cs.all fun c =>
    decide (PySem.W.findIn K (.ref (He.ga K (S.cn c))) "__class__" = some (some (.builtin "object.__class__"))) && (PySem.W.mroIn K (He.ga K (S.cn c)) (.type "object") == some true) &&
    (cs.all fun c' => PySem.W.kitOne K (.ref (He.ga K (S.cn c))) (.ref (He.ga K (S.cn c'))) == some (c == c')) && (tys.all fun T => PySem.W.kitOne K (.ref (He.ga K (S.cn c))) (.type T) == some false) &&
    ([Ki.non, .bl, .int, .str, .tup, .lst, .dic].all fun k => PySem.W.kitOne K (.type k.name) (.ref (He.ga K (S.cn c))) == some false)
structure IsaF (K : Frg) (S : Sta) (cs : List Nat) : Prop where
  cl : ∀ c ∈ cs, Cls K (He.ga K (S.cn c))
  ok : isaB K S cs = true
/-- one class -/
def isa1 (S : Sta) (cs : List Nat) (d t : D) (st : Store) : Option Bool := match d with
  | .ins c _ => if c ∈ cs then (match t with
    | .ty T => if T ∈ tys then some false else none
    | .glo x => (cs.find? fun c' => S.cn c' = x).map fun c' => c == c'
    | _ => none) else none
  | d => (match kiOf d st with
    | some k => (match t with
      | .ty T => isaK k T
      | .glo x => (cs.find? fun c' => S.cn c' = x).map fun _ => false
      | _ => none)
    | none => none)
def isaAny (S : Sta) (cs : List Nat) (d : D) (st : Store) : List D → Option Bool
  | [] => some false
  | t :: ts => match isa1 S cs d t st with
    | some true => some true
    | some false => isaAny S cs d st ts
    | none => none
theorem IsaF.parts {K : Frg} {S : Sta} {cs : List Nat} (F : IsaF K S cs) : (PySem.W.takesIn K (.builtin "object.__class__") = some true) ∧ (PySem.W.specialIn K (.builtin "object.__class__") "__get__" = some (some (.builtin "getset_descriptor.__get__"))) ∧ ∀ c ∈ cs,
    PySem.W.findIn K (.ref (He.ga K (S.cn c))) "__class__" = some (some (.builtin "object.__class__")) ∧ PySem.W.mroIn K (He.ga K (S.cn c)) (.type "object") = some true ∧
    (∀ c' ∈ cs, PySem.W.kitOne K (.ref (He.ga K (S.cn c))) (.ref (He.ga K (S.cn c'))) = some (c == c')) ∧ (∀ T ∈ tys, PySem.W.kitOne K (.ref (He.ga K (S.cn c))) (.type T) = some false) ∧
    (∀ k : Ki, PySem.W.kitOne K (.type k.name) (.ref (He.ga K (S.cn c))) = some false) := by
  have h := F.ok
  unfold isaB at h
  simp only [Bool.and_eq_true, List.all_eq_true, beq_iff_eq, decide_eq_true_eq] at h
  obtain ⟨⟨h1, h2⟩, h3⟩ := h
  refine ⟨h1, h2, fun c hc => ?_⟩
  obtain ⟨⟨⟨⟨a1, a2⟩, a3⟩, a4⟩, a5⟩ := h3 c hc
  exact ⟨a1, a2, fun c' hc' => a3 c' hc', a4, fun k => a5 k (by cases k <;> simp)⟩
/-- the type of a value -/
theorem ty_of {K : Frg} {H0 Z : Hp} {μ : List Addr} {H : Hp} {st : Store} {d : D} {v : V} {k : Ki} (R : Rep K S Z μ H st) (h : rB K S H0 Z μ H d v) (e : kiOf d st = some k) : TyX K H v (.type k.name) := by
  have lst : ∀ {a : Addr} {xs : List V}, SqL K H a xs → TyX K H (.ref a) (.type "list") := fun {a xs} q => by
    rcases q with (q | ⟨o, q⟩) | ⟨o, its, n, q, c, _⟩
    · exact .base (.lst q)
    · exact .base (.frz q)
    · exact .kList q c
  rcases h with h | ⟨es, a, xs, rfl, rfl, h1, _⟩
  · cases d with
    | non => cases e; rw [show v = .non from h]; exact .base .non
    | bl b => cases e; rw [show v = .bl b from h]; exact .base (.bl b)
    | int b => cases e; rw [show v = .int b from h]; exact .base (.int b)
    | str b => cases e; rw [show v = .str b from h]; exact .base (.str b)
    | tup ds =>
      cases e
      obtain ⟨a, xs, rfl, q, _⟩ := h
      rcases sqt_mono R.le q with (q | ⟨o, q⟩) | ⟨o, its, n, q, c, _⟩
      · exact .base (.tup q)
      · exact .fTuple q
      · exact .kTuple q c
    | lst ds =>
      cases e
      obtain ⟨a, xs, rfl, q, _⟩ := h
      exact lst (sql_mono R.le q)
    | ref n =>
      obtain ⟨a, rfl, q⟩ := h
      have e : (match st[n]? with
        | some (MO.lst _) => some Ki.lst
        | some (MO.dic _) => some .dic
        | none => none) = some k := e
      cases hm : st[n]? with
      | none => rw [hm] at e; cases e
      | some m =>
        rw [hm] at e
        have z := R.ob n a m q hm
        cases m with
        | lst ds =>
          cases e
          obtain ⟨xs, z1, _⟩ := z
          exact .base (.lst z1)
        | dic kvs =>
          cases e
          obtain ⟨xs, z1, _⟩ := z
          exact .base (.dK z1)
    | ins c ds => cases e
    | glo x => cases e
    | ty n => cases e
  · cases e
    exact .base (.lst h1)
/-- a class as a value -/
theorem cls_of {K : Frg} {Z : Hp} {μ : List Addr} {t : D} {v : V} (h : isD K S Z μ t v) : (∀ T, t = .ty T → ClsV v (.type T)) ∧ ∀ x, t = .glo x → ClsV v (.ref (He.ga K x)) := by
  refine ⟨fun T e => ?_, fun x e => ?_⟩
  · subst e
    rw [show v = .ty T from h]
    exact .ty T
  · subst e
    rw [show v = .ref _ from h]
    exact .own _
theorem isa1_ok {K : Frg} {cs : List Nat} {H0 Z : Hp} {μ : List Addr} {H : Hp} {st : Store} {d t0 : D} {v : V} {b0 : Bool} (F : IsaF K S cs) (R : Rep K S Z μ H st) (h : rB K S H0 Z μ H d v) (e0 : isa1 S cs d t0 st = some b0) :
    ∃ ty, TyX K H v ty ∧ ∀ (t : D) (w : V) (b : Bool), isD K S Z μ t w → isa1 S cs d t st = some b → ∃ u, ClsV w u ∧ PySem.W.kitOne K ty u = some b := by
  obtain ⟨f1, f2, f3⟩ := F.parts
  have fnd : ∀ {x : Str} {c' : Nat}, cs.find? (fun c' => S.cn c' = x) = some c' → c' ∈ cs ∧ S.cn c' = x := fun {x c'} q => ⟨List.mem_of_find?_eq_some q, by simpa using List.find?_some q⟩
  by_cases hins : ∃ c ds, d = .ins c ds
  · obtain ⟨c, ds, rfl⟩ := hins
    have un : ∀ t, isa1 S cs (.ins c ds) t st = if c ∈ cs then (match t with
      | .ty T => if T ∈ tys then some false else none
      | .glo x => (cs.find? fun c' => S.cn c' = x).map fun c' => c == c'
      | _ => none) else none := fun t => by unfold isa1; rfl
    by_cases hc : c ∈ cs
    · obtain ⟨a1, a2, a3, a4, a5⟩ := f3 c hc
      obtain ⟨a, dx, xs, rfl, q, _⟩ := rB_D h (fun _ z => by cases z)
      refine ⟨_, .base (.ins (R.le _ _ q) (F.cl c hc) a1 f2 f1 a2), fun t w b ht e => ?_⟩
      rw [un, if_pos hc] at e
      cases t with
      | ty T =>
        have e : (if T ∈ tys then some false else none) = some b := e
        split at e
        · rename_i hT
          cases e
          exact ⟨_, (cls_of ht).1 T rfl, a4 T hT⟩
        · cases e
      | glo x =>
        have e : ((cs.find? fun c' => S.cn c' = x).map fun c' => c == c') = some b := e
        cases q : cs.find? (fun c' => S.cn c' = x) with
        | none => rw [q] at e; cases e
        | some c' =>
          rw [q] at e
          cases e
          obtain ⟨m1, m2⟩ := fnd q
          have z := a3 c' m1
          rw [m2] at z
          exact ⟨_, (cls_of ht).2 x rfl, z⟩
      | _ => cases e
    · rw [un, if_neg hc] at e0
      cases e0
  · have un : ∀ t, isa1 S cs d t st = (match kiOf d st with
      | some k => (match t with
        | .ty T => isaK k T
        | .glo x => (cs.find? fun c' => S.cn c' = x).map fun _ => false
        | _ => none)
      | none => none) := fun t => by
      cases d <;> first | (unfold isa1; rfl) | exact absurd ⟨_, _, rfl⟩ hins
    cases hk : kiOf d st with
    | none => rw [un, hk] at e0; cases e0
    | some k =>
      refine ⟨_, ty_of R h hk, fun t w b ht e => ?_⟩
      rw [un, hk] at e
      cases t with
      | ty T => exact ⟨_, (cls_of ht).1 T rfl, kit_ty (isaK_ok e)⟩
      | glo x =>
        have e : ((cs.find? fun c' => S.cn c' = x).map fun _ => false) = some b := e
        cases q : cs.find? (fun c' => S.cn c' = x) with
        | none => rw [q] at e; cases e
        | some c' =>
          rw [q] at e
          cases e
          obtain ⟨m1, m2⟩ := fnd q
          have z := (f3 c' m1).2.2.2.2 k
          rw [m2] at z
          exact ⟨_, (cls_of ht).2 x rfl, z⟩
      | _ => cases e
theorem isaAny_ok {K : Frg} {cs : List Nat} {Z : Hp} {μ : List Addr} {st : Store} {d : D} {ty : Value} (hty : ∀ (t : D) (w : V) (b : Bool), isD K S Z μ t w → isa1 S cs d t st = some b → ∃ u, ClsV w u ∧ PySem.W.kitOne K ty u = some b) :
    ∀ {ts : List D} {ws : List V} {b : Bool}, isDs K S Z μ ts ws → isaAny S cs d st ts = some b → (∀ t ∈ ts, ∃ b, isa1 S cs d t st = some b) → ∃ us, Paired ClsV ws us ∧ PySem.W.kitAny K ty us = some b
  | [], ws, b, h, e, _ => by
    cases e
    rw [show ws = [] from h]
    exact ⟨[], .nil, kitAny_nil⟩
  | t :: ts, ws, b, h, e, ha => by
    obtain ⟨w, r, rfl, hw, hr⟩ := h
    unfold isaAny at e
    obtain ⟨b1, e1⟩ := ha t List.mem_cons_self
    rw [e1] at e
    obtain ⟨u, c1, k1⟩ := hty t w b1 hw e1
    cases b1 with
    | true =>
      cases e
      have all : ∀ {ts : List D} {ws : List V}, isDs K S Z μ ts ws → (∀ t ∈ ts, ∃ b, isa1 S cs d t st = some b) → ∃ us, Paired ClsV ws us := by
        intro ts
        induction ts with
        | nil => intro ws h _; rw [show ws = [] from h]; exact ⟨[], .nil⟩
        | cons t ts ih =>
          intro ws h ha
          obtain ⟨w, r, rfl, hw, hr⟩ := h
          obtain ⟨b1, e1⟩ := ha t List.mem_cons_self
          obtain ⟨u, c1, _⟩ := hty t w b1 hw e1
          obtain ⟨us, c2⟩ := ih hr fun t ht => ha t (List.mem_cons_of_mem _ ht)
          exact ⟨u :: us, .cons c1 c2⟩
      obtain ⟨us, c2⟩ := all hr fun t ht => ha t (List.mem_cons_of_mem _ ht)
      exact ⟨u :: us, .cons c1 c2, kitAny_cons k1 (fun z => by cases z) fun _ => rfl⟩
    | false =>
      obtain ⟨us, c2, k2⟩ := isaAny_ok hty hr e fun t ht => ha t (List.mem_cons_of_mem _ ht)
      exact ⟨u :: us, .cons c1 c2, kitAny_cons k1 (fun _ => k2) fun z => by cases z⟩
/-- isinstance: with a class, with a tuple of classes -/
def isiB (S : Sta) (cs : List Nat) : List D → Store → Option D := fun ds st => match ds with
  | [d, .tup ts] => if (ts.all fun t => (isa1 S cs d t st).isSome) = true ∧ ts ≠ [] then (isaAny S cs d st ts).map .bl else none
  | [d, t] => (isa1 S cs d t st).map .bl
  | _ => none
theorem call_isiA : CallR X (.builtin "isinstance") (fun xs H Q => rIsi X.K xs H Q ∨ (rIsiT X.K xs H Q ∨ rIsiK X.K xs H Q)) := call_isi.or (call_isiT.or call_isiK)
theorem cIsi {K : Frg} {cs : List Nat} (F : IsaF K S cs) : CalF K S (isiB S cs) (fun xs H Q => rIsi K xs H Q ∨ (rIsiT K xs H Q ∨ rIsiK K xs H Q)) := by
  intro ds c xs H0 Z μ H st Q R h hf k
  unfold isiB at hf
  split at hf
  · rename_i d ts
    split at hf
    · rename_i hc
      obtain ⟨v, w, rfl, q1, q2⟩ := bs2 h
      obtain ⟨a, ys, rfl, hs, hd⟩ := rB_D q2 (fun _ z => by cases z)
      have ha : ∀ t ∈ ts, ∃ b, isa1 S cs d t st = some b := fun t ht => Option.isSome_iff_exists.mp (List.all_eq_true.mp hc.1 t ht)
      obtain ⟨t0, ht0⟩ := List.exists_mem_of_ne_nil ts hc.2
      obtain ⟨b0, e0⟩ := ha t0 ht0
      obtain ⟨ty, T1, hty⟩ := isa1_ok F R q1 e0
      cases e : isaAny S cs d st ts with
      | none => rw [e] at hf; cases hf
      | some b =>
        rw [e] at hf
        cases hf
        obtain ⟨us, c1, k1⟩ := isaAny_ok hty hd e ha
        rcases hs with hs | ⟨o, its, n, l1, l2, l3, l4, l5⟩
        · exact .inr (.inl ⟨v, a, ys, ty, us, b, rfl, R.le _ _ hs, c1, T1, k1, k _ Z μ H Stp.refl R rfl⟩)
        · have e3 := ClsV.all c1 l5
          obtain ⟨oc, od, dt, sl⟩ := o
          simp only at l2 l3
          subst l2 l3
          refine .inr (.inr ⟨v, a, od, us, n, sl, ty, b, rfl, ?_, T1, k1, k _ Z μ H Stp.refl R rfl⟩)
          rw [l1, ← e3]
    · cases hf
  · rename_i d t hx
    obtain ⟨v, w, rfl, q1, q2⟩ := bs2 h
    cases e : isa1 S cs d t st with
    | none => rw [e] at hf; cases hf
    | some b =>
      rw [e] at hf
      cases hf
      obtain ⟨ty, T1, hty⟩ := isa1_ok F R q1 e
      have ht : isD K S Z μ t w := rB_D q2 (fun ds z => by
        subst z
        unfold isa1 at e
        cases d <;> first | (cases e; done) | skip
        all_goals (first | (split at e <;> (first | (cases e; done) | (split at e <;> cases e))) | skip))
      obtain ⟨u, c1, k1⟩ := hty t w b ht e
      exact .inl ⟨v, w, ty, u, b, rfl, c1, T1, k1, k _ Z μ H Stp.refl R rfl⟩
  · cases hf
/-- only the classes' names matter -/
theorem isa1_T {cn : Nat → Str} {cf : Nat → List Str} {T : List (Addr × Str)} (cs : List Nat) (d t : D) (st : Store) : isa1 ⟨cn, cf, T⟩ cs d t st = isa1 ⟨cn, cf, []⟩ cs d t st := rfl
theorem isaAny_T {cn : Nat → Str} {cf : Nat → List Str} {T : List (Addr × Str)} (cs : List Nat) (d : D) (st : Store) : ∀ ts : List D, isaAny ⟨cn, cf, T⟩ cs d st ts = isaAny ⟨cn, cf, []⟩ cs d st ts
  | [] => rfl
  | t :: ts => by
    unfold isaAny
    rw [isa1_T, isaAny_T cs d st ts]
theorem isiB_T {cn : Nat → Str} {cf : Nat → List Str} {T : List (Addr × Str)} (cs : List Nat) : isiB ⟨cn, cf, T⟩ cs = isiB ⟨cn, cf, []⟩ cs := by
  funext ds st
  unfold isiB
  simp only [isaAny_T, isa1_T]
theorem cIsiT {K : Frg} {cn : Nat → Str} {cf : Nat → List Str} {T : List (Addr × Str)} {cs : List Nat} (F : IsaF K ⟨cn, cf, T⟩ cs) : CalF K ⟨cn, cf, T⟩ (isiB ⟨cn, cf, []⟩ cs) (fun xs H Q => rIsi K xs H Q ∨ (rIsiT K xs H Q ∨ rIsiK K xs H Q)) := by
  rw [← isiB_T (T := T)]
  exact cIsi F
def reprOk (p : PyData) : Bool := p.showable && !p.hasDict && decide (p.depth ≤ 60) && decide (p.shown.length ≤ sizeLine)
theorem call_reprD0 {k : Nat} (hr : Room k X.A) (hg : X.A.guards = some []) : CallR X (.builtin "repr") (fun xs H Q => ∃ a p, xs = [.ref a] ∧ Dp X.K H (.ref a) p ∧ reprOk p = true ∧ Q (.str p.shown) H) := by
  intro pins s σ H xs us Q I r h
  obtain ⟨a, p, rfl, hd, ok, q⟩ := h
  obtain ⟨u, rfl, ru⟩ := vals1 r
  obtain rfl : u = Value.ref a := ru
  unfold reprOk at ok
  simp only [Bool.and_eq_true, Bool.not_eq_true', decide_eq_true_eq] at ok
  obtain ⟨⟨⟨o1, o2⟩, o3⟩, o4⟩ := ok
  obtain ⟨as, rd⟩ := Dp.reads I p _ _ hd rfl
  have hu := hr.units
  exact repr_of_reads' rd o1 (fun z => by rw [o2] at z; cases z) hg (by omega) (fun _ _ e => e) (fun h' u tk kp => ⟨.str p.shown, H, I.kept (h' := h') (t' := tk) kp, ⟨u, rfl⟩, q⟩) o4
theorem call_reprS : CallR X (.builtin "repr") (fun xs H Q => ∃ x, xs = [.str x] ∧ (reprText x).length ≤ sizeLine ∧ Q (.str (reprText x)) H) := by
  intro pins s σ H xs us Q I r h
  obtain ⟨x, rfl, ok, q⟩ := h
  obtain ⟨u, rfl, ru⟩ := vals1 r
  obtain ⟨t, rfl⟩ := ru
  exact PySem.P.repr_of_str ⟨.str _, H, I.tok _, ⟨_, rfl⟩, q⟩ ok
def rReprD (K : Frg) (xs : List V) (H : Hp) (Q : VK) : Prop := (∃ a p, xs = [.ref a] ∧ Dp K H (.ref a) p ∧ reprOk p = true ∧ Q (.str p.shown) H) ∨ ∃ x, xs = [.str x] ∧ (reprText x).length ≤ sizeLine ∧ Q (.str (reprText x)) H
theorem call_reprD {k : Nat} (hr : Room k X.A) (hg : X.A.guards = some []) : CallR X (.builtin "repr") (rReprD X.K) := fun pins s σ H xs us Q I r h => h.elim (fun z => call_reprD0 hr hg pins s σ H xs us Q I r z) fun z => call_reprS pins s σ H xs us Q I r z
def reprB : List D → Store → Option D := fun ds st => match ds with
  | [d] => (match d with
    | .str x => if (reprText x).length ≤ sizeLine then some (.str (reprText x)) else none
    | d => if (kiOf d st == some .tup || kiOf d st == some .lst) = true then (match pyB d st with
    | some p => if reprOk p = true then some (.str p.shown) else none
    | none => none) else none)
  | _ => none
theorem cRepr {K : Frg} : CalF K S reprB (rReprD K) := by
  intro ds c xs H0 Z μ H st Q R h hf k
  unfold reprB at hf
  split at hf
  · rename_i d
    obtain ⟨v, rfl, q1⟩ := bs1 h
    split at hf
    · rename_i x
      split at hf
      · rename_i hl
        cases hf
        have e : v = .str x := by
          rcases q1 with q1 | ⟨es, a, xs, e1, _, _⟩
          · exact q1
          · cases e1
        subst e
        exact .inr ⟨x, rfl, hl, k _ Z μ H Stp.refl R rfl⟩
      · cases hf
    · split at hf
      · rename_i hk
        cases e : pyB d st with
        | none => rw [e] at hf; cases hf
        | some p =>
          rw [e] at hf
          have hf : (if reprOk p = true then some (D.str p.shown) else none) = some c := hf
          split at hf
          · rename_i ho
            cases hf
            have hd := dp_rB R q1 e
            have hv : ∃ a, v = .ref a := by
              rcases q1 with q1 | ⟨es, a, xs, _, e2, _⟩
              · cases d with
                | tup _ => obtain ⟨a, _, e2, _⟩ := q1; exact ⟨a, e2⟩
                | lst _ => obtain ⟨a, _, e2, _⟩ := q1; exact ⟨a, e2⟩
                | ref n => obtain ⟨a, e2, _⟩ := q1; exact ⟨a, e2⟩
                | _ => cases hk
              · exact ⟨a, e2⟩
            obtain ⟨a, rfl⟩ := hv
            exact .inl ⟨a, p, rfl, hd, ho, k _ Z μ H Stp.refl R rfl⟩
          · cases hf
      · cases hf
  · cases hf
def bitsM (m : EM D) : EM D := fun ρ st => (m ρ st).bind fun d st1 => match d with
  | .int i => .ok (.int (Builtin.Int.intBits i : Nat)) st1
  | _ => .fail
theorem s_bits {o : Expr} {apos pos : Pos} {m : EM D} (ho : SE X S W O o m) (hbase : attributeBase o "bit_length" X.env (eval o X.env) = eval o X.env := by rfl) (hline : (apos.endLine == pos.line) = true := by rfl) : SE X S W O (.Call (.Attribute o "bit_length" apos) [] [] pos) (bitsM m) :=
  pe_imp (pe_bits ho hbase hline) fun σ H Q ⟨Z, μ, ρ, st, L, R, p⟩ => by
    refine tG_bind L R p fun d x st1 Z1 μ1 H1 s1 L1 R1 i1 p1 => ?_
    cases d with
    | int i => exact ⟨i, i1, p1 _ Z1 μ1 H1 Stp.refl R1 rfl⟩
    | _ => exact p1.elim
end
end Sm
set_option Elab.async false
set_option linter.all false
set_option maxRecDepth 100000
set_option maxHeartbeats 4000000
set_option autoImplicit false
namespace Sm
open PySem PySem.Spec PyProof.Rows L2
section
variable {X : Cx} {S : Sta} {W : WX} {O : Or} {k : Nat} {pos : Pos}
def nilS : SM := fun ρ st => .nx ρ st
def RS.andThen (r : RS) (f : Env1 → Store → RS) : RS := match r with
  | .nx ρ st => f ρ st
  | r => r
def seqS (a b : SM) : SM := fun ρ st => (a ρ st).andThen b
theorem ss_nil : SSs X S W O [] nilS := pss_imp pss_nil fun Dn σ H ⟨Z, μ, ρ, st, s, L, R, p⟩ => p σ Z μ H s L R
theorem ss_cons {a : Stmt} {b : List Stmt} {ma mb : SM} (ha : SS X S W O a ma) (hb : SSs X S W O b mb) : SSs X S W O (a :: b) (seqS ma mb) :=
  pss_imp (pss_cons ha hb) fun Dn σ H ⟨Z, μ, ρ, st, s, L, R, p⟩ => by
    refine ⟨Z, μ, ρ, st, s, L, R, ?_⟩
    unfold seqS at p
    cases e : ma ρ st with
    | nx ρ1 st1 =>
      rw [e] at p
      exact fun σ' Z' μ' H' s' L' R' => ⟨Z', μ', ρ1, st1, s', L', R', p⟩
    | _ =>
      rw [e] at p
      exact p
theorem ss_one {a : Stmt} {ma : SM} (ha : SS X S W O a ma) : SSs X S W O [a] ma := pss_one ha
theorem st_pass : SS X S W O (.Pass pos) nilS := ps_imp ps_pass fun Dn σ H ⟨Z, μ, ρ, st, s, L, R, p⟩ => p σ Z μ H s L R
def brkS : SM := fun ρ st => .bk ρ st
def ctS : SM := fun ρ st => .ct ρ st
theorem st_break : SS X S W O (.Break pos) brkS := ps_imp ps_break fun Dn σ H ⟨Z, μ, ρ, st, s, L, R, p⟩ => p σ Z μ H s L R
theorem st_cont : SS X S W O (.Continue pos) ctS := ps_imp ps_continue fun Dn σ H ⟨Z, μ, ρ, st, s, L, R, p⟩ => p σ Z μ H s L R
theorem st_doc {x : Str} {j : Nat} {pos' : Pos} : SS X S W O (.Expr (.Constant (.str x) j pos) pos') nilS := ps_imp ps_doc fun Dn σ H ⟨Z, μ, ρ, st, s, L, R, p⟩ => p σ Z μ H s L R
def retS (m : EM D) : SM := fun ρ st => (m ρ st).toS ρ fun d st1 => .ret d st1
theorem st_ret {e : Expr} {m : EM D} (h : SE X S W O e m) : SS X S W O (.Return (some e) pos) (retS m) :=
  ps_imp (ps_ret h) fun Dn σ H ⟨Z, μ, ρ, st, s, L, R, p⟩ => tS_bind s L R p fun d v st1 Z1 μ1 H1 s1 s2 L1 R1 i1 p1 => p1 v Z1 μ1 H1 s1 R1 i1
def retN : SM := fun _ st => .ret .non st
theorem st_retN : SS X S W O (.Return none pos) retN := ps_imp ps_retN fun Dn σ H ⟨Z, μ, ρ, st, s, L, R, p⟩ => p .non Z μ H s R rfl
def dropS (m : EM D) : SM := fun ρ st => (m ρ st).toS ρ fun _ st1 => .nx ρ st1
theorem st_expr {e : Expr} {m : EM D} (h : SE X S W O e m) (hs : swapsWith e none pos.line X.env = pure false := by rfl) : SS X S W O (.Expr e pos) (dropS m) :=
  ps_imp (ps_expr h hs) fun Dn σ H ⟨Z, μ, ρ, st, s, L, R, p⟩ => tS_bind s L R p fun d v st1 Z1 μ1 H1 s1 s2 L1 R1 i1 p1 => p1 σ Z1 μ1 H1 s1 L1 R1
def ifS (c : EM Bool) (a b : SM) : SM := fun ρ st => (c ρ st).toS ρ fun t st1 => if t = true then a ρ st1 else b ρ st1
theorem st_if {c : Expr} {a b : List Stmt} {mc : EM Bool} {ma mb : SM} (hc : ST X S W O c mc) (ha : SSs X S W O a ma) (hb : SSs X S W O b mb) : SS X S W O (.If c a b pos) (ifS mc ma mb) :=
  ps_imp (ps_if hc ha hb) fun Dn σ H ⟨Z, μ, ρ, st, s, L, R, p⟩ => tS_bind s L R p fun t t' st1 Z1 μ1 H1 s1 s2 L1 R1 i1 p1 => by
    obtain rfl : t = t' := i1
    cases t with
    | true => exact iteT ⟨Z1, μ1, ρ, st1, s1, L1, R1, p1⟩
    | false => exact iteF ⟨Z1, μ1, ρ, st1, s1, L1, R1, p1⟩
/-- a target: what it does with data -/
abbrev GM := D → Env1 → Store → RS
def tgG (X : Cx) (S : Sta) (W : WX) (O : Or) (g : GM) : TG := fun v σ H Q => ∃ d Z μ ρ st, Stp O.Z O.μ O.H Z μ H ∧ RepL X.K S O Z μ H σ ρ ∧ Rep X.K S Z μ H st ∧ isD X.K S Z μ d v ∧ PoS X.K S W O (g d ρ st) { nx := Q, rt := fun _ _ => False }
abbrev SG (X : Cx) (S : Sta) (W : WX) (O : Or) (e : Expr) (g : GM) : Prop := PG X e (tgG X S W O g)
theorem pg_imp {e : Expr} {t t' : TG} (h : PG X e t) (i : ∀ v σ H Q, t' v σ H Q → t v σ H Q) : PG X e t' := ⟨fun pins s σ H v u Q I r q => h.run pins s σ H v u Q I r (i _ _ _ _ q)⟩
def setG (i : Nat) : GM := fun d ρ st => .nx (ρ.set i (.val d)) st
theorem g_name (i : Nat) {x : Str} (hN : X.N.Nodup) (hi : X.N[i]? = some x := by rfl) (hx : Loc X.env.scope x := by first | exact Or.inl rfl | exact Or.inr rfl) (hf : X.fn x = true ∨ X.env.scope.names.lookup x = some .local := by first | exact .inl rfl | exact .inr rfl) : SG X S W O (.Name x pos) (setG i) :=
  pg_imp (pg_name hN hi hx hf) fun v σ H Q ⟨d, Z, μ, ρ, st, s, L, R, q, p⟩ => p _ Z μ H s (L.set q) R
/-- (a, b, ..): one by one -/
abbrev GMs := List D → Env1 → Store → RS
def tgGs (X : Cx) (S : Sta) (W : WX) (O : Or) (g : GMs) : TGs := fun vs σ H Q => ∃ ds Z μ ρ st, Stp O.Z O.μ O.H Z μ H ∧ RepL X.K S O Z μ H σ ρ ∧ Rep X.K S Z μ H st ∧ isDs X.K S Z μ ds vs ∧ PoS X.K S W O (g ds ρ st) { nx := Q, rt := fun _ _ => False }
abbrev SGs (X : Cx) (S : Sta) (W : WX) (O : Or) (e : List Expr) (g : GMs) : Prop := PGs X e (tgGs X S W O g)
theorem pgs_imp {e : List Expr} {t t' : TGs} (h : PGs X e t) (i : ∀ v σ H Q, t' v σ H Q → t v σ H Q) : PGs X e t' := ⟨fun pins s σ H v u Q I r q => h.run pins s σ H v u Q I r (i _ _ _ _ q)⟩
def nilG : GMs := fun ds ρ st => match ds with
  | [] => .nx ρ st
  | _ => .fail
/-- the rest's data stays as the first is stored: no store of shared objects among targets -/
def consG (a : GM) (r : GMs) : GMs := fun ds ρ st => match ds with
  | d :: ds => (a d ρ st).andThen (r ds)
  | [] => .fail
theorem gs_nil : SGs X S W O [] nilG := pgs_imp pgs_nil fun vs σ H Q ⟨ds, Z, μ, ρ, st, s, L, R, q, p⟩ => by
  cases ds with
  | nil => exact ⟨q, p σ Z μ H s L R⟩
  | cons d ds => exact p.elim
end
/-- a target that stores to slots or fields: what was data stays so -/
def Mild (X : Cx) (S : Sta) (W : WX) (O : Or) (e : Expr) (g : GM) : Prop := PG X e fun v σ H Q => ∃ d Z μ ρ st, Stp O.Z O.μ O.H Z μ H ∧ RepL X.K S O Z μ H σ ρ ∧ Rep X.K S Z μ H st ∧ isD X.K S Z μ d v ∧ ∃ ρ', g d ρ st = .nx ρ' st ∧
  ∀ σ' H', Stp O.Z O.μ O.H Z μ H' → RepL X.K S O Z μ H' σ' ρ' → Rep X.K S Z μ H' st → Q σ' H'
section
variable {X : Cx} {S : Sta} {W : WX} {O : Or} {k : Nat} {pos : Pos}
theorem ml_name (i : Nat) {x : Str} (hN : X.N.Nodup) (hi : X.N[i]? = some x := by rfl) (hx : Loc X.env.scope x := by first | exact Or.inl rfl | exact Or.inr rfl) (hf : X.fn x = true ∨ X.env.scope.names.lookup x = some .local := by first | exact .inl rfl | exact .inr rfl) : Mild X S W O (.Name x pos) (setG i) :=
  pg_imp (pg_name hN hi hx hf) fun v σ H Q ⟨d, Z, μ, ρ, st, s, L, R, q, ρ', e, p⟩ => by
    cases e
    exact p _ H s (L.set q) R
theorem gs_cons {e : Expr} {es : List Expr} {a : GM} {r : GMs} (h1 : Mild X S W O e a) (hm : ∀ d ρ st, ∃ ρ', a d ρ st = .nx ρ' st ∨ a d ρ st = .fail) (h2 : SGs X S W O es r)
    (hs : (assignEach (e :: es) X.env).map (·.2) = assign e X.env :: (assignEach es X.env).map (·.2) := by rfl) : SGs X S W O (e :: es) (consG a r) :=
  pgs_imp (pgs_cons h1 h2 hs) fun vs σ H Q ⟨ds, Z, μ, ρ, st, s, L, R, q, p⟩ => by
    cases ds with
    | nil => exact p.elim
    | cons d ds =>
      obtain ⟨v, vr, rfl, q1, q2⟩ := q
      have p : PoS X.K S W O ((a d ρ st).andThen (r ds)) { nx := Q, rt := fun _ _ => False } := p
      obtain ⟨ρ', e | e⟩ := hm d ρ st
      · rw [e] at p
        exact ⟨v, vr, rfl, d, Z, μ, ρ, st, s, L, R, q1, ρ', e, fun σ' H' s' L' R' => ⟨ds, Z, μ, ρ', st, s', L', R', q2, p⟩⟩
      · rw [e] at p
        exact p.elim
theorem mild_set (i : Nat) : ∀ d ρ st, ∃ ρ', setG i d ρ st = .nx ρ' st ∨ setG i d ρ st = .fail := fun d ρ st => ⟨_, .inl rfl⟩
def tupG (n : Nat) (g : GMs) : GM := fun d ρ st => match d with
  | .tup ds => if ds.length = n then g ds ρ st else .fail
  | _ => .fail
def lstG (n : Nat) (g : GMs) : GM := fun d ρ st => match lstOf d st with
  | some ds => if ds.length = n then g ds ρ st else .fail
  | none => .fail
theorem g_tup {es : List Expr} {kk : Nat} {g : GMs} {n : Nat} (h : SGs X S W O es g) (hc : X.calm = true := by rfl) (hn : (assignEach es X.env).length = n := by rfl) (hst : (assignEach es X.env).findIdx? (·.1) = none := by rfl) : SG X S W O (.Tuple es kk pos) (tupG n g) :=
  pg_imp (pg_tup hc h hn hst) fun v σ H Q ⟨d, Z, μ, ρ, st, s, L, R, q, p⟩ => by
    cases d with
    | tup ds =>
      have p : PoS X.K S W O (if ds.length = n then g ds ρ st else .fail) { nx := Q, rt := fun _ _ => False } := p
      by_cases hl : ds.length = n
      · rw [if_pos hl] at p
        obtain ⟨a, xs, rfl, hs, hd⟩ := q
        exact ⟨a, xs, rfl, sqt_mono R.le hs, by rw [isDs_len hd]; exact hl, ds, Z, μ, ρ, st, s, L, R, hd, p⟩
      · rw [if_neg hl] at p
        exact p.elim
    | _ => exact p.elim
theorem g_lst {es : List Expr} {kk : Nat} {g : GMs} {n : Nat} (h : SGs X S W O es g) (hc : X.calm = true := by rfl) (hn : (assignEach es X.env).length = n := by rfl) (hst : (assignEach es X.env).findIdx? (·.1) = none := by rfl) : SG X S W O (.Tuple es kk pos) (lstG n g) :=
  pg_imp (pg_lst hc h hn hst) fun v σ H Q ⟨d, Z, μ, ρ, st, s, L, R, q, p⟩ => by
    unfold lstG at p
    cases e : lstOf d st with
    | none => rw [e] at p; exact p.elim
    | some ds =>
      rw [e] at p
      have p : PoS X.K S W O (if ds.length = n then g ds ρ st else .fail) { nx := Q, rt := fun _ _ => False } := p
      by_cases hl : ds.length = n
      · rw [if_pos hl] at p
        obtain ⟨a, xs, rfl, hs, hd⟩ := lstOf_at (H0 := H) R (.inl q) e
        exact ⟨a, xs, rfl, hs, by rw [isDs_len hd]; exact hl, ds, Z, μ, ρ, st, s, L, R, hd, p⟩
      · rw [if_neg hl] at p
        exact p.elim
/-- the end of a target is the statement's -/
def toEnd (r : RS) : RS := match r with
  | .nx ρ st => .nx ρ st
  | _ => .fail
def asgS (m : EM D) (g : GM) : SM := fun ρ st => (m ρ st).toS ρ fun d st1 => toEnd (g d ρ st1)
theorem po_toEnd {K : Frg} {r : RS} {Dn : Ends} (h : PoS K S W O (toEnd r) Dn) : PoS K S W O r { nx := Dn.nx, rt := fun _ _ => False } := by
  cases r with
  | nx ρ st => exact h
  | _ => exact h.elim
theorem st_asg {tg e : Expr} {m : EM D} {g : GM} (he : SE X S W O e m) (hg : SG X S W O tg g) (hs : swapsWithSole [tg] e pos.line X.env = pure false := by rfl) (hw : swappedStores [tg] e X.env = pure none := by rfl)
    (h1 : (assignEach [tg] X.env).map (·.2) = [assign tg X.env] := by rfl) : SS X S W O (.Assign [tg] e pos) (asgS m g) :=
  ps_imp (ps_asg he hg hs hw h1) fun Dn σ H ⟨Z, μ, ρ, st, s, L, R, p⟩ => tS_bind s L R p fun d v st1 Z1 μ1 H1 s1 s2 L1 R1 i1 p1 => ⟨d, Z1, μ1, ρ, st1, s1, L1, R1, i1, po_toEnd p1⟩
def setS (i : Nat) (m : EM D) : SM := fun ρ st => (m ρ st).toS ρ fun d st1 => .nx (ρ.set i (.val d)) st1
/-- name = e -/
theorem st_set (i : Nat) {x : Str} {e : Expr} {pos' : Pos} {m : EM D} (hN : X.N.Nodup) (he : SE X S W O e m) (hi : X.N[i]? = some x := by rfl) (hx : Loc X.env.scope x := by first | exact Or.inl rfl | exact Or.inr rfl) (hs : swapsWith e (some (.Name x pos')) pos.line X.env = pure false := by rfl)
    (hf : X.fn x = true ∨ X.env.scope.names.lookup x = some .local := by first | exact .inl rfl | exact .inr rfl) : SS X S W O (.Assign [.Name x pos'] e pos) (setS i m) :=
  ps_imp (ps_set hN hi hx he hs hf) fun Dn σ H ⟨Z, μ, ρ, st, s, L, R, p⟩ => tS_bind s L R p fun d v st1 Z1 μ1 H1 s1 s2 L1 R1 i1 p1 => p1 _ Z1 μ1 H1 s1 (L1.set i1) R1
/-- name = a new list, the name's own -/
def setF (i : Nat) (m : EM (List D)) : SM := fun ρ st => (m ρ st).toS ρ fun d st1 => .nx (ρ.set i (.own d)) st1
theorem own_new {Z Z1 : Hp} {μ μ1 : List Addr} {H H1 : Hp} {σ : L2.St} {ρ : Env1} {ds : List D} {v : V} {i : Nat} (s0 : Stp O.Z O.μ O.H Z μ H) (L : RepL X.K S O Z μ H σ ρ) (L1 : RepL X.K S O Z1 μ1 H1 σ ρ) (q : rF X.K S H Z1 μ1 H1 ds v) : RepL X.K S O Z1 μ1 H1 (σ.set i (some v)) (ρ.set i (.own ds)) := by
  obtain ⟨a, xs, rfl, h0, h1, h2, h3, h4⟩ := q
  exact L1.setOwn (fun j o e => L.ownHp o e h0) h1 h2 h3 h4 (s0.th a h0)
theorem st_setF (i : Nat) {x : Str} {e : Expr} {pos' : Pos} {m : EM (List D)} (hN : X.N.Nodup) (he : SF X S W O e m) (hi : X.N[i]? = some x := by rfl) (hx : Loc X.env.scope x := by first | exact Or.inl rfl | exact Or.inr rfl) (hs : swapsWith e (some (.Name x pos')) pos.line X.env = pure false := by rfl)
    (hf : X.fn x = true ∨ X.env.scope.names.lookup x = some .local := by first | exact .inl rfl | exact .inr rfl) : SS X S W O (.Assign [.Name x pos'] e pos) (setF i m) :=
  ps_imp (ps_set hN hi hx he hs hf) fun Dn σ H ⟨Z, μ, ρ, st, s, L, R, p⟩ => tS_bind s L R p fun d v st1 Z1 μ1 H1 s1 s2 L1 R1 i1 p1 => p1 _ Z1 μ1 H1 s1 (own_new s L L1 i1) R1
/-- a, b = e1, e2 -/
def parS (i j : Nat) (m : EM (List D)) : SM := fun ρ st => (m ρ st).toS ρ fun ds st1 => match ds with
  | [a, b] => .nx ((ρ.set i (.val a)).set j (.val b)) st1
  | _ => .fail
theorem st_par {i j : Nat} {x y : Str} {a b : Expr} {m : EM (List D)} {px py pt : Pos} {kt k2 : Nat} {pt2 : Pos} (hN : X.N.Nodup) (ha : SA X S W O [a, b] m) (hi : X.N[i]? = some x := by rfl) (hj : X.N[j]? = some y := by rfl) (hij : i ≠ j := by decide)
    (hx : X.env.scope.names.lookup x = some .local := by rfl) (hy : X.env.scope.names.lookup y = some .local := by rfl) (hc : X.calm = true := by rfl)
    (hw : swappedStores [.Tuple [.Name x px, .Name y py] kt pt] (.Tuple [a, b] k2 pt2) X.env = pure (some [x, y]) := by rfl)
    (hs : swapsWithSole [.Tuple [.Name x px, .Name y py] kt pt] (.Tuple [a, b] k2 pt2) pos.line X.env = pure false := by rfl) :
    SS X S W O (.Assign [.Tuple [.Name x px, .Name y py] kt pt] (.Tuple [a, b] k2 pt2) pos) (parS i j m) :=
  ps_imp (ps_par hc hN hi hj hij hx hy ha hw hs) fun Dn σ H ⟨Z, μ, ρ, st, s, L, R, p⟩ => tS_bind s L R p fun ds vs st1 Z1 μ1 H1 s1 s2 L1 R1 i1 p1 => by
    match ds, p1, i1 with
    | [a, b], p1, ⟨v, r, e1, q1, v2, r2, e2, q2, e3⟩ =>
      subst e3
      subst e2
      subst e1
      exact ⟨v, v2, rfl, p1 _ Z1 μ1 H1 s1 ((L1.set q1).set q2) R1⟩
    | [], p1, _ => exact p1.elim
    | [_], p1, _ => exact p1.elim
    | _ :: _ :: _ :: _, p1, _ => exact p1.elim
/-- what a slot has of its own is changed in place -/
theorem own_updG {Z : Hp} {μ : List Addr} {H : Hp} {σ : L2.St} {ρ : Env1} {st : Store} {i : Nat} {sl0 sl : Sl} {a : Addr} {u o : HO} (s : Stp O.Z O.μ O.H Z μ H) (L : RepL X.K S O Z μ H σ ρ) (R : Rep X.K S Z μ H st) (hi : ρ[i]? = some sl0) (hio : isOwn (some sl0)) (ha : σ[i]? = some (some (.ref a)))
    (h1 : H a = some u) (hu : (∃ l, u = .lst l) ∨ ∃ C dx fs, u = .ins C dx fs) (h3 : Z a = none) (h4 : a ∉ μ) (h5 : O.H a = none) (hso : isOwn (some sl)) (hsl : slOk X.K S O Z μ (upd H a o) sl σ[i]?) :
    Stp O.Z O.μ O.H Z μ (upd H a o) ∧ RepL X.K S O Z μ (upd H a o) σ (ρ.set i sl) ∧ Rep X.K S Z μ (upd H a o) st := by
  have hother : ∀ b, b ≠ a → upd H a o b = H b := fun b hb => upd_ne hb
  have hm : ∀ b ∈ μ, b ≠ a := fun b hb z => h4 (z ▸ hb)
  have hz : ∀ b o, Z b = some o → b ≠ a := fun b o e z => by rw [z, h3] at e; cases e
  have htb : ∀ b ps, H b = some (.tbl ps) → b ≠ a := fun b ps e z => by
    rw [z, h1] at e
    rcases hu with ⟨l, rfl⟩ | ⟨C, dx, fs, rfl⟩ <;> cases e
  have hex : ∀ b φ, H b = some (.ext φ) → b ≠ a := fun b ps e z => by
    rw [z, h1] at e
    rcases hu with ⟨l, rfl⟩ | ⟨C, dx, fs, rfl⟩ <;> cases e
  have sN : Stp O.Z O.μ O.H Z μ (upd H a o) := by
    refine ⟨s.zz, s.mm, fun b o' e n q => ?_, fun b e => ?_, s.zn, s.mn⟩
    · have hb : b ≠ a := fun z => by rw [z, h5] at e; cases e
      rw [hother b hb]
      exact s.fr b o' e n q
    · by_cases hb : b = a
      · rw [hb]; exact h5
      · rw [hother b hb] at e
        exact s.th b e
  refine ⟨sN, ⟨by rw [List.length_set]; exact L.len, fun j sl' e => ?_, fun j l hn o1 o2 => ?_⟩, ⟨fun b o' e => ?_, R.nt, R.len, R.nd, R.zm, fun n b m e1 e2 => ?_, ?_⟩⟩
  · by_cases hj : i = j
    · subst hj
      have hl : i < ρ.length := (List.getElem?_eq_some_iff.mp hi).1
      rw [List.getElem?_set_self hl] at e
      cases e
      exact hsl
    · rw [List.getElem?_set_ne hj] at e
      have q := L.ok j sl' e
      have ne : ∀ b : Addr, isOwn (some sl') → σ[j]? = some (some (.ref b)) → b ≠ a := fun b ho e1 z => by
        subst z
        exact L.ap i j hj (by rw [hi]; exact hio) (by rw [e]; exact ho) (by rw [ha, e1])
      cases sl' with
      | un => trivial
      | val d => exact q
      | own fs =>
        obtain ⟨b, zs, e1, g1, g2, g3, g4, g5⟩ := q
        exact ⟨b, zs, e1, by rw [hother b (ne b trivial e1)]; exact g1, g2, g3, g4, g5⟩
      | obj c fs =>
        obtain ⟨b, dx, zs, e1, g1, g2, g3, g4, g5⟩ := q
        exact ⟨b, dx, zs, e1, by rw [hother b (ne b trivial e1)]; exact g1, g2, g3, g4, g5⟩
      | lam => exact ⟨q.1, sN⟩
      | adr b => exact q
  · have no : ∀ l, isOwn (ρ.set i sl)[l]? → isOwn ρ[l]? := fun l h => by
      by_cases hl : i = l
      · subst hl
        rw [hi]
        exact hio
      · rw [List.getElem?_set_ne hl] at h
        exact h
    exact L.ap j l hn (no j o1) (no l o2)
  · rw [hother b (hz b o' e)]
    exact R.le b o' e
  · have q := R.ob n b m e1 e2
    have hb := hm b (List.mem_of_getElem? e1)
    cases m with
    | lst fs =>
      obtain ⟨zs, g1, g2⟩ := q
      exact ⟨zs, by rw [hother b hb]; exact g1, g2⟩
    | dic kvs =>
      obtain ⟨zs, g1, g2⟩ := q
      exact ⟨zs, by rw [hother b hb]; exact g1, g2⟩
  · intro p hp
    obtain ⟨ps, t1, t2, t3⟩ := R.tb p hp
    refine ⟨ps, by rw [hother _ (htb _ _ t1)]; exact t1, t2, fun q cv hc => ?_⟩
    obtain ⟨c, c1, c2⟩ := t3 q cv hc
    exact ⟨c, c1, by rw [hother _ (hex _ _ c2)]; exact c2⟩
theorem own_upd {Z : Hp} {μ : List Addr} {H : Hp} {σ : L2.St} {ρ : Env1} {st : Store} {i : Nat} {ds es : List D} {a : Addr} {ys : List V} (s : Stp O.Z O.μ O.H Z μ H) (L : RepL X.K S O Z μ H σ ρ) (R : Rep X.K S Z μ H st) (hi : ρ[i]? = some (.own ds)) (ha : σ[i]? = some (some (.ref a)))
    (hy : isDs X.K S Z μ es ys) : Stp O.Z O.μ O.H Z μ (upd H a (.lst ys)) ∧ RepL X.K S O Z μ (upd H a (.lst ys)) σ (ρ.set i (.own es)) ∧ Rep X.K S Z μ (upd H a (.lst ys)) st := by
  obtain ⟨a', xs', e1, h1, h2, h3, h4, h5⟩ := L.ok i _ hi
  rw [ha] at e1
  cases e1
  exact own_updG s L R hi trivial ha h1 (.inl ⟨_, rfl⟩) h3 h4 h5 trivial ⟨a, ys, ha, upd_same, hy, h3, h4, h5⟩
/-- an object of the store is changed in place -/
theorem Rep.wr {K : Frg} {Z : Hp} {μ : List Addr} {H : Hp} {st : Store} {n : Nat} {a : Addr} {o : HO} {m' : MO} (R : Rep K S Z μ H st) (hn : μ[n]? = some a) (ho : MOk K S Z μ (upd H a o) a m') :
    Stp Z μ H Z μ (upd H a o) ∧ Rep K S Z μ (upd H a o) (st.set n m') := by
  have ha := List.mem_of_getElem? hn
  have hz : ∀ b o, Z b = some o → b ≠ a := fun b o e z => by rw [z, R.zm a ha] at e; cases e
  have hl : n < st.length := by rw [← R.len]; exact (List.getElem?_eq_some_iff.mp hn).1
  have hk := R.ob n a _ hn (List.getElem?_eq_getElem hl)
  have htb : ∀ b u, H b = some u → ((∃ ps, u = .tbl ps) ∨ ∃ φ, u = .ext φ) → b ≠ a := fun b u e q z => by
    rw [z] at e
    cases hm : st[n] with
    | lst ds =>
      rw [hm] at hk
      obtain ⟨xs, g, _⟩ := hk
      rw [g] at e
      cases e
      rcases q with ⟨_, q⟩ | ⟨_, q⟩ <;> cases q
    | dic ds =>
      rw [hm] at hk
      obtain ⟨xs, g, _⟩ := hk
      rw [g] at e
      cases e
      rcases q with ⟨_, q⟩ | ⟨_, q⟩ <;> cases q
  refine ⟨⟨fun _ _ e => e, ⟨[], by simp⟩, fun b o' e nb _ => ?_, fun b e => ?_, fun _ e _ => e, fun _ e => .inl e⟩, ⟨fun b o' e => ?_, R.nt, by rw [List.length_set]; exact R.len, R.nd, R.zm, fun j b m e1 e2 => ?_, ?_⟩⟩
  · rw [upd_ne (fun z => by rw [z] at nb; exact nb ha)]
    exact e
  · by_cases hb : b = a
    · rw [hb, upd_same] at e; cases e
    · rw [upd_ne hb] at e; exact e
  · rw [upd_ne (hz b o' e)]
    exact R.le b o' e
  · by_cases hj : n = j
    · subst hj
      rw [hn] at e1
      cases e1
      rw [List.getElem?_set_self hl] at e2
      cases e2
      exact ho
    · rw [List.getElem?_set_ne hj] at e2
      have hb : b ≠ a := fun z => by
        subst z
        obtain ⟨l1, g1⟩ := List.getElem?_eq_some_iff.mp hn
        obtain ⟨l2, g2⟩ := List.getElem?_eq_some_iff.mp e1
        exact hj ((List.getElem_inj R.nd).mp (g1.trans g2.symm))
      have q := R.ob j b m e1 e2
      cases m with
      | lst fs =>
        obtain ⟨zs, g1, g2⟩ := q
        exact ⟨zs, by rw [upd_ne hb]; exact g1, g2⟩
      | dic kvs =>
        obtain ⟨zs, g1, g2⟩ := q
        exact ⟨zs, by rw [upd_ne hb]; exact g1, g2⟩
  · intro p hp
    obtain ⟨ps, t1, t2, t3⟩ := R.tb p hp
    refine ⟨ps, by rw [upd_ne (htb _ _ t1 (.inl ⟨_, rfl⟩))]; exact t1, t2, fun q cv hc => ?_⟩
    obtain ⟨c, c1, c2⟩ := t3 q cv hc
    exact ⟨c, c1, by rw [upd_ne (htb _ _ c2 (.inr ⟨_, rfl⟩))]; exact c2⟩
end
end Sm
set_option Elab.async false
set_option linter.all false
set_option maxRecDepth 100000
set_option maxHeartbeats 4000000
set_option autoImplicit false
namespace Sm
open PySem PySem.Spec PyProof.Rows L2
section
variable {X : Cx} {S : Sta} {W : WX} {O : Or} {k : Nat} {pos apos cpos npos : Pos}
/-- x.m(e, ..): args are data -/
def mutS (i : Nat) (f : List D → List D → Option (List D)) (ma : EM (List D)) : SM := fun ρ st => match ρ[i]? with
  | some (.own ds) => (ma ρ st).toS ρ fun as st1 => (match f ds as with
    | some es => .nx (ρ.set i (.own es)) st1
    | none => .fail)
  | _ => .fail
def MutF (f : List D → List D → Option (List D)) (r : V → List V → Hp → VK → Prop) : Prop := ∀ (K : Frg) (S : Sta) (ds as es : List D) (a : Addr) (xs vs : List V) (Z : Hp) (μ : List Addr) (H : Hp) (Q : VK), H a = some (.lst xs) → isDs K S Z μ ds xs → isDs K S Z μ as vs → f ds as = some es →
  (∀ ys v, isDs K S Z μ es ys → Q v (upd H a (.lst ys))) → r (.ref a) vs H Q
theorem mut_of {i : Nat} {f : List D → List D → Option (List D)} {r : V → List V → Hp → VK → Prop} {ma : EM (List D)} (hf : MutF f r) (Dn : Ends) (σ : L2.St) (H : Hp) (h : tS X S W O (mutS i f ma) Dn σ H) :
    tDrop (tBM X.K "list" r (tVar i) (tG X S W O (rDs X.K S) ma)) Dn σ H := by
  obtain ⟨Z, μ, ρ, st, s, L, R, p⟩ := h
  unfold mutS at p
  cases e : ρ[i]? with
  | none => rw [e] at p; exact p.elim
  | some sl =>
    rw [e] at p
    cases sl with
    | own ds =>
      obtain ⟨a, xs, e1, h1, _⟩ := L.ok i _ e
      refine ⟨_, e1, .inl ⟨rfl, xs, .of h1⟩, ?_⟩
      refine tS_bind (f := fun as st1 => (match f ds as with
        | some es => RS.nx (ρ.set i (.own es)) st1
        | none => .fail)) s L R p fun as vs st1 Z1 μ1 H1 s1 s2 L1 R1 i1 p1 => ?_
      cases e2 : f ds as with
      | none => rw [e2] at p1; exact p1.elim
      | some es =>
        rw [e2] at p1
        obtain ⟨a', xs', e1', h1', h2', _⟩ := L1.ok i _ e
        rw [e1] at e1'
        cases e1'
        refine hf X.K S ds as es a xs' vs Z1 μ1 H1 _ h1' h2' i1 e2 fun ys v hy => ?_
        obtain ⟨s3, L3, R3⟩ := own_upd s1 L1 R1 e e1 hy
        exact p1 σ Z1 μ1 _ s3 L3 R3
    | _ => exact p.elim
def appF : List D → List D → Option (List D) := fun ds as => match as with
  | [d] => if ds.length < 1000000 then some (ds ++ [d]) else none
  | _ => none
theorem line_m {n : Nat} (h : n < 1000000) : n < sizeLine := by rw [sizeLine_eq]; omega
theorem m_append : MutF appF rAppend := by
  intro K S ds as es a xs vs Z μ H Q h1 h2 h3 hf k
  unfold appF at hf
  split at hf
  · split at hf
    · rename_i d hl
      cases hf
      obtain ⟨v, r, rfl, q, rfl⟩ := h3
      exact ⟨a, xs, v, rfl, rfl, h1, by rw [isDs_len h2]; exact line_m hl, k _ _ (isDs_app h2 (isDs_cons q rfl))⟩
    · cases hf
  · cases hf
theorem st_mut {i : Nat} {f : List D → List D → Option (List D)} {r : V → List V → Hp → VK → Prop} {ma : EM (List D)} {e : Expr} (hf : MutF f r) (hp : PE X e (tBM X.K "list" r (tVar i) (tG X S W O (rDs X.K S) ma))) (hs : swapsWith e none pos.line X.env = pure false := by rfl) : SS X S W O (.Expr e pos) (mutS i f ma) :=
  ps_imp (ps_expr hp hs) (mut_of hf)
def insF : List D → List D → Option (List D) := fun ds as => match as with
  | [.int i, d] => if 0 ≤ i ∧ i < 1000000 ∧ ds.length < 1000000 then some (ds.take i.toNat ++ d :: ds.drop i.toNat) else none
  | _ => none
def rInsert : V → List V → Hp → VK → Prop := fun x vs H Q => ∃ (l : Addr) (xs : List V) (i : Int) (y : V), x = .ref l ∧ vs = [.int i, y] ∧ H l = some (.lst xs) ∧ xs.length < sizeLine ∧ 0 ≤ i ∧ i < 2 ^ 63 ∧ Q .non (upd H l (.lst (xs.take i.toNat ++ y :: xs.drop i.toNat)))
/-- x.m(): no arguments -/
def mut0S (i : Nat) (f : List D → Option (List D)) : SM := fun ρ st => match ρ[i]? with
  | some (.own ds) => (match f ds with
    | some es => .nx (ρ.set i (.own es)) st
    | none => .fail)
  | _ => .fail
def Mut0F (f : List D → Option (List D)) (r : V → List V → Hp → VK → Prop) : Prop := ∀ (K : Frg) (S : Sta) (ds es : List D) (a : Addr) (xs : List V) (Z : Hp) (μ : List Addr) (H : Hp) (Q : VK), H a = some (.lst xs) → isDs K S Z μ ds xs → f ds = some es →
  (∀ ys v, isDs K S Z μ es ys → Q v (upd H a (.lst ys))) → r (.ref a) [] H Q
theorem st_mut0 {i : Nat} {f : List D → Option (List D)} {r : V → List V → Hp → VK → Prop} {e : Expr} (hf : Mut0F f r) (hp : PE X e (tBM0 X.K "list" r (tVar i))) (hs : swapsWith e none pos.line X.env = pure false := by rfl) : SS X S W O (.Expr e pos) (mut0S i f) :=
  ps_imp (ps_expr hp hs) fun Dn σ H ⟨Z, μ, ρ, st, s, L, R, p⟩ => by
    unfold mut0S at p
    cases e : ρ[i]? with
    | none => rw [e] at p; exact p.elim
    | some sl =>
      rw [e] at p
      cases sl with
      | own ds =>
        obtain ⟨a, xs, e1, h1, h2, _⟩ := L.ok i _ e
        have p : PoS X.K S W O (match f ds with
          | some es => RS.nx (ρ.set i (.own es)) st
          | none => .fail) Dn := p
        refine ⟨_, e1, .inl ⟨rfl, xs, .of h1⟩, ?_⟩
        cases e2 : f ds with
        | none => rw [e2] at p; exact p.elim
        | some es =>
          rw [e2] at p
          refine hf X.K S ds es a xs Z μ H _ h1 h2 e2 fun ys v hy => ?_
          obtain ⟨s3, L3, R3⟩ := own_upd s L R e e1 hy
          exact p σ Z μ _ s3 L3 R3
      | _ => exact p.elim
theorem getLast_ix {α : Type} (xs : List α) : xs[xs.length - 1]? = xs.getLast? := (List.getLast?_eq_getElem? (l := xs)).symm
def popF : List D → Option (List D) := fun ds => if ds = [] then none else some ds.dropLast
instance : DecidablePred fun ds : List D => ds = [] := fun ds => by cases ds with
  | nil => exact .isTrue rfl
  | cons _ _ => exact .isFalse (by intro z; cases z)
theorem m_pop : Mut0F (fun ds => match ds with | [] => none | d :: r => some (d :: r).dropLast) rPop := by
  intro K S ds es a xs Z μ H Q h1 h2 hf k
  cases ds with
  | nil => cases hf
  | cons d r =>
    cases hf
    have hl := isDs_len h2
    have hx : xs ≠ [] := fun z => by rw [z] at hl; cases hl
    obtain ⟨y, hy⟩ : ∃ y, xs.getLast? = some y := ⟨_, List.getLast?_eq_some_getLast hx⟩
    exact ⟨a, xs, y, rfl, rfl, h1, by rw [getLast_ix]; exact hy, k _ _ (isDs_dropLast h2)⟩
/-- x[i] = e of a slot's own list -/
def putAt (i : Nat) (ρ : Env1) (ds : List D) (d ix : D) (st : Store) : RS := match ix with
  | .int j => (match ixN ds.length j with
    | some n => .nx (ρ.set i (.own (ds.set n d))) st
    | none => .fail)
  | _ => .fail
def setIxS (i : Nat) (mi me : EM D) : SM := fun ρ st => match ρ[i]? with
  | some (.own ds) => (me ρ st).toS ρ fun d st1 => (mi ρ st1).toS ρ fun ix st2 => putAt i ρ ds d ix st2
  | _ => .fail
theorem st_setIx (i : Nat) {x : Str} {ix e : Expr} {mi me : EM D} {spos : Pos} (hi : SE X S W O ix mi) (he : SE X S W O e me) (hN : X.N[i]? = some x := by rfl) (hv : Vis X.env.scope x := by first | exact Or.inl rfl | exact Or.inr (Or.inl rfl) | exact Or.inr (Or.inr rfl))
    (hd : (x == ("__debug__" : Str)) = false := by decide) (hcd : (x == ("__classdict__" : Str)) = false := by decide)
    (ha : ∀ v, assign (.Subscript (.Name x npos) ix spos) X.env v = (do
      let ov ← holding [v] (eval (.Name x npos) X.env)
      let iv ← holding [v, ov] (eval ix X.env)
      standAt spos
      holding [v, ov, iv] (setItem ov iv v)
      release [v, ov, iv] []) := by intro _; rfl)
    (hs : swapsWithSole [.Subscript (.Name x npos) ix spos] e pos.line X.env = pure false := by rfl) (hw : swappedStores [.Subscript (.Name x npos) ix spos] e X.env = pure none := by rfl)
    (h1 : (assignEach [.Subscript (.Name x npos) ix spos] X.env).map (·.2) = [assign (.Subscript (.Name x npos) ix spos) X.env] := by rfl) :
    SS X S W O (.Assign [.Subscript (.Name x npos) ix spos] e pos) (setIxS i mi me) :=
  ps_imp (ps_asg he (pg_sub (pe_var hN hv hd hcd) hi set_list ha) hs hw h1) fun Dn σ H ⟨Z, μ, ρ, st, s, L, R, p⟩ => by
    unfold setIxS at p
    cases e1 : ρ[i]? with
    | none => rw [e1] at p; exact p.elim
    | some sl =>
      rw [e1] at p
      cases sl with
      | own ds =>
        refine tS_bind (f := fun d st1 => (mi ρ st1).toS ρ fun ix st2 => putAt i ρ ds d ix st2) s L R p fun d v st1 Z1 μ1 H1 s1 s1' L1 R1 i1 p1 => ?_
        obtain ⟨a, xs, ea, h1, _⟩ := L1.ok i _ e1
        refine ⟨_, ea, ?_⟩
        refine tS_bind (f := fun ix st2 => putAt i ρ ds d ix st2) s1 L1 R1 p1 fun j y st3 Z2 μ2 H2 s2 s2' L2 R2 i2 p2 => ?_
        cases j with
        | int jj =>
          have p2 : PoS X.K S W O (match ixN ds.length jj with
            | some n => RS.nx (ρ.set i (.own (ds.set n d))) st3
            | none => .fail) Dn := p2
          cases e3 : ixN ds.length jj with
          | none => rw [e3] at p2; exact p2.elim
          | some n =>
            rw [e3] at p2
            obtain ⟨a', xs', ea', h1', h2', _⟩ := L2.ok i _ e1
            rw [ea] at ea'
            cases ea'
            obtain ⟨s3, L3, R3⟩ := own_upd s2 L2 R2 e1 ea (isDs_set (i := n) h2' (s2'.isD i1))
            exact ⟨a, xs', jj, n, rfl, i2, h1', by rw [isDs_len h2']; exact e3, p2 σ Z2 μ2 _ s3 L3 R3⟩
        | _ => exact p2.elim
      | _ => exact p.elim
/-- a slot's own list is data from now on: no statement of the text -/
def fzS (i : Nat) : SM := fun ρ st => match ρ[i]? with
  | some (.own ds) => .nx (ρ.set i (.val (.lst ds))) st
  | some (.val d) => .nx ρ st
  | _ => .fail
theorem own_frz {Z : Hp} {μ : List Addr} {H : Hp} {σ : L2.St} {ρ : Env1} {st : Store} {i : Nat} {ds : List D} (s : Stp O.Z O.μ O.H Z μ H) (L : RepL X.K S O Z μ H σ ρ) (R : Rep X.K S Z μ H st) (hi : ρ[i]? = some (.own ds)) :
    ∃ Z', Stp O.Z O.μ O.H Z' μ H ∧ RepL X.K S O Z' μ H σ (ρ.set i (.val (.lst ds))) ∧ Rep X.K S Z' μ H st := by
  obtain ⟨a, xs, ea, h1, h2, h3, h4, h5⟩ := L.ok i _ hi
  obtain ⟨s2, R2⟩ := Rep.freeze s R h5 h1 h3 h4 (fun ps z => by cases z)
  have hz : ∀ b o, Z b = some o → upd Z a (.lst xs) b = some o := fun b o e => by rw [upd_ne (ne_of_none e h3)]; exact e
  refine ⟨_, s2, ⟨by rw [List.length_set]; exact L.len, fun j sl e => ?_, fun j l hn o1 o2 => ?_⟩, R2⟩
  · by_cases hj : i = j
    · subst hj
      have hl : i < ρ.length := (List.getElem?_eq_some_iff.mp hi).1
      rw [List.getElem?_set_self hl] at e
      cases e
      exact ⟨_, ea, a, xs, rfl, .inl (.inl upd_same), isDs_mono hz (fun _ _ z => z) _ _ h2⟩
    · rw [List.getElem?_set_ne hj] at e
      have q := L.ok j sl e
      have ne : ∀ b : Addr, isOwn (some sl) → σ[j]? = some (some (.ref b)) → b ≠ a := fun b ho e1 z => by
        subst z
        exact L.ap i j hj (by rw [hi]; trivial) (by rw [e]; exact ho) (by rw [ea, e1])
      cases sl with
      | un => trivial
      | val d =>
        obtain ⟨v, e1, q⟩ := q
        exact ⟨v, e1, isD_mono hz (fun _ _ z => z) _ _ q⟩
      | own fs =>
        obtain ⟨b, zs, e1, g1, g2, g3, g4, g5⟩ := q
        exact ⟨b, zs, e1, g1, isDs_mono hz (fun _ _ z => z) _ _ g2, by rw [upd_ne (ne b trivial e1)]; exact g3, g4, g5⟩
      | obj c fs =>
        obtain ⟨b, dx, zs, e1, g1, g2, g3, g4, g5⟩ := q
        exact ⟨b, dx, zs, e1, g1, isDs_mono hz (fun _ _ z => z) _ _ g2, by rw [upd_ne (ne b trivial e1)]; exact g3, g4, g5⟩
      | lam => exact ⟨q.1, s2⟩
      | adr b => exact q
  · have no : ∀ l, isOwn (ρ.set i (.val (.lst ds)))[l]? → isOwn ρ[l]? := fun l h => by
      by_cases hl : i = l
      · subst hl
        rw [List.getElem?_set_self (List.getElem?_eq_some_iff.mp hi).1] at h
        exact h.elim
      · rw [List.getElem?_set_ne hl] at h
        exact h
    exact L.ap j l hn (no j o1) (no l o2)
theorem ss_fz (i : Nat) {b : List Stmt} {mb : SM} (hb : SSs X S W O b mb) : SSs X S W O b (seqS (fzS i) mb) :=
  pss_imp hb fun Dn σ H ⟨Z, μ, ρ, st, s, L, R, p⟩ => by
    unfold seqS fzS at p
    cases e : ρ[i]? with
    | none => rw [e] at p; exact p.elim
    | some sl =>
      rw [e] at p
      cases sl with
      | own ds =>
        obtain ⟨Z', s', L', R'⟩ := own_frz s L R e
        exact ⟨Z', μ, _, st, s', L', R', p⟩
      | val d => exact ⟨Z, μ, ρ, st, s, L, R, p⟩
      | _ => exact p.elim
/-- d[k] = e of a shared dict -/
def putDic (n : Nat) (k : Key) (d : D) (st : Store) : Option Store := match st[n]? with
  | some (.dic kvs) => if (kvs.map (·.1)).Nodup ∧ kvs.length < 1000 then some (st.set n (.dic (putD kvs k d))) else none
  | _ => none
def dputS (md mk me : EM D) : SM := fun ρ st => (me ρ st).toS ρ fun d st1 => (md ρ st1).toS ρ fun o st2 => (mk ρ st2).toS ρ fun kd st3 => match o, keyD kd with
  | .ref n, some k => (match putDic n k d st3 with
    | some st4 => .nx ρ st4
    | none => .fail)
  | _, _ => .fail
theorem st_dput {o ix e : Expr} {mo mi me : EM D} {pos' : Pos} {kk : Nat} (hr : Room kk X.A) (ho : SE X S W O o mo) (hi : SE X S W O ix mi) (he : SE X S W O e me) (hs : swapsWith e (some (.Subscript o ix pos')) pos.line X.env = pure false := by rfl) : SS X S W O (.Assign [.Subscript o ix pos'] e pos) (dputS mo mi me) :=
  ps_imp (ps_dput (hu_of hr) ho hi he hs) fun Dn σ H ⟨Z, μ, ρ, st, s, L, R, p⟩ => by
    refine tS_bind s L R p fun d v st1 Z1 μ1 H1 s1 s1' L1 R1 i1 p1 => ?_
    refine tS_bind s1 L1 R1 p1 fun od x st2 Z2 μ2 H2 s2 s2' L2 R2 i2 p2 => ?_
    refine tS_bind s2 L2 R2 p2 fun kd y st3 Z3 μ3 H3 s3 s3' L3 R3 i3 p3 => ?_
    cases od with
    | ref n =>
      cases ek : keyD kd with
      | none => rw [ek] at p3; exact p3.elim
      | some k =>
        rw [ek] at p3
        have p3 : PoS X.K S W O (match putDic n k d st3 with
          | some st4 => RS.nx ρ st4
          | none => .fail) Dn := p3
        cases e4 : putDic n k d st3 with
        | none => rw [e4] at p3; exact p3.elim
        | some st4 =>
          rw [e4] at p3
          obtain ⟨a, rfl, ha⟩ := s3'.isD i2
          unfold putDic at e4
          cases em : st3[n]? with
          | none => rw [em] at e4; cases e4
          | some m =>
            rw [em] at e4
            cases m with
            | lst ds => cases e4
            | dic kvs =>
              have e4 : (if (kvs.map (·.1)).Nodup ∧ kvs.length < 1000 then some (st3.set n (.dic (putD kvs k d))) else none) = some st4 := e4
              split at e4
              · rename_i hc
                cases e4
                obtain ⟨vs, g1, g2⟩ := R3.ob n a _ ha em
                have g3 := isKs_put (k := k) g2 hc.1 (s3'.isD (s2'.isD i1))
                obtain ⟨s4, R4⟩ := R3.wr (o := .dK (putK vs k v)) (m' := .dic (putD kvs k d)) ha ⟨_, upd_same, g3⟩
                refine ⟨a, _, rfl, ?_, p3 σ Z3 μ3 _ (s3.trans s4) (L3.step s4) R4⟩
                rw [keyD_of i3 ek]
                exact DPut.k g1 (by rw [isKs_len g2]; exact line_m (by omega))
              · cases e4
    | _ => exact p3.elim
/-- xs.append(e) of a shared list -/
def appAt (ρ : Env1) (o d : D) (st2 : Store) : RS := match o with
  | .ref n => (match st2[n]? with
    | some (.lst ds) => if ds.length < 1000000 then .nx ρ (st2.set n (.lst (ds ++ [d]))) else .fail
    | _ => .fail)
  | _ => .fail
def appRS (mo : EM D) (me : EM D) : SM := fun ρ st => (mo ρ st).toS ρ fun o st1 => (me ρ st1).toS ρ fun d st2 => appAt ρ o d st2
/-- the receiver is a shared list when it is asked, and behind the arguments -/
def isRef (m : EM D) (ρ : Env1) (st : Store) : Bool := match m ρ st with
  | .ok (.ref n) st1 => (match st1[n]? with
    | some (.lst _) => true
    | _ => false)
  | .ok _ _ => false
  | _ => true
def guardS (b : Env1 → Store → Bool) (m : SM) : SM := fun ρ st => if b ρ st = true then m ρ st else .fail
theorem st_appR {c : Expr} {mo me : EM D} (hp : PE X c (tBM X.K "list" rAppend (tE X S W O mo) (tG X S W O (rDs X.K S) (consM me nilM)))) (hs : swapsWith c none pos.line X.env = pure false := by rfl) : SS X S W O (.Expr c pos) (guardS (isRef mo) (appRS mo me)) :=
  ps_imp (ps_expr hp hs) fun Dn σ H ⟨Z, μ, ρ, st, s, L, R, p⟩ => by
    unfold guardS at p
    by_cases hg : isRef mo ρ st = true
    · rw [if_pos hg] at p
      refine ⟨Z, μ, ρ, st, L, R, ?_⟩
      unfold isRef at hg
      unfold appRS at p
      cases eo : mo ρ st with
      | ok od st1 =>
        rw [eo] at hg p
        have p : PoS X.K S W O ((me ρ st1).toS ρ fun d st2 => appAt ρ od d st2) Dn := p
        intro x Z1 μ1 H1 s1 R1 i1
        cases od with
        | ref n =>
          obtain ⟨a, rfl, ha⟩ := i1
          have hg : (match st1[n]? with
            | some (MO.lst _) => true
            | _ => false) = true := hg
          cases em : st1[n]? with
          | none => rw [em] at hg; cases hg
          | some m =>
            rw [em] at hg
            cases m with
            | dic _ => cases hg
            | lst ds1 =>
              obtain ⟨xs1, z1, z2⟩ := R1.ob n a _ ha em
              refine ⟨.inl ⟨rfl, xs1, .of z1⟩, ?_⟩
              refine ⟨Z1, μ1, ρ, st1, L.step s1, R1, ?_⟩
              have sO := s.trans s1
              cases ee : me ρ st1 with
              | ok d st2 =>
                have e2 : consM me nilM ρ st1 = .ok [d] st2 := by
                  unfold consM
                  rw [ee]
                  rfl
                rw [e2]
                rw [ee] at p
                intro vs Z2 μ2 H2 s2 R2 i2
                obtain ⟨v, r, rfl, q, rfl⟩ := i2
                have p : PoS X.K S W O (match st2[n]? with
                  | some (MO.lst ds) => if ds.length < 1000000 then RS.nx ρ (st2.set n (.lst (ds ++ [d]))) else .fail
                  | _ => .fail) Dn := p
                cases em2 : st2[n]? with
                | none => rw [em2] at p; exact p.elim
                | some m2 =>
                  rw [em2] at p
                  cases m2 with
                  | dic _ => exact p.elim
                  | lst ds =>
                    have p : PoS X.K S W O (if ds.length < 1000000 then RS.nx ρ (st2.set n (.lst (ds ++ [d]))) else .fail) Dn := p
                    by_cases hl : ds.length < 1000000
                    · rw [if_pos hl] at p
                      have ha2 := s2.mu n a ha
                      obtain ⟨xs, g1, g2⟩ := R2.ob n a _ ha2 em2
                      obtain ⟨s3, R3⟩ := R2.wr (o := .lst (xs ++ [v])) (m' := .lst (ds ++ [d])) ha2 ⟨_, upd_same, isDs_app g2 (isDs_cons q rfl)⟩
                      exact ⟨a, xs, v, rfl, rfl, g1, by rw [isDs_len g2]; exact line_m hl, p σ Z2 μ2 _ ((sO.trans s2).trans s3) (L.step ((s1.trans s2).trans s3)) R3⟩
                    · rw [if_neg hl] at p
                      exact p.elim
              | exc c st2 =>
                have e2 : consM me nilM ρ st1 = .exc c st2 := by
                  unfold consM
                  rw [ee]
                  rfl
                rw [e2]
                rw [ee] at p
                exact fun Z2 μ2 H2 s2 R2 => p σ Z2 μ2 H2 (sO.trans s2) (L.step (s1.trans s2)) R2
              | fail =>
                rw [ee] at p
                exact p.elim
        | _ => cases hg
      | exc c st1 =>
        rw [eo] at p
        exact fun Z1 μ1 H1 s1 R1 => p σ Z1 μ1 H1 (s.trans s1) (L.step s1) R1
      | fail =>
        rw [eo] at p
        exact p.elim
    · rw [if_neg hg] at p
      exact p.elim
/-- xs.pop() of a shared list -/
def popM (m : EM D) : EM D := fun ρ st => (m ρ st).bind fun o st1 => match o with
  | .ref n => (match st1[n]? with
    | some (.lst ds) => (match ds.getLast? with
      | some d => .ok d (st1.set n (.lst ds.dropLast))
      | none => .fail)
    | _ => .fail)
  | _ => .fail
theorem s_pop {c : Expr} {mo : EM D} (hp : PE X c (tBM0 X.K "list" rPop (tE X S W O mo))) : SE X S W O c (popM mo) :=
  pe_imp hp fun σ H Q ⟨Z, μ, ρ, st, L, R, p⟩ => by
    refine tG_bind L R p fun od x st1 Z1 μ1 H1 s1 L1 R1 i1 p1 => ?_
    cases od with
    | ref n =>
      obtain ⟨a, rfl, ha⟩ := i1
      have p1 : Po X.K S W σ Z1 μ1 H1 (rD X.K S) (match st1[n]? with
        | some (MO.lst ds) => (match ds.getLast? with
          | some d => Res.ok d (st1.set n (.lst ds.dropLast))
          | none => .fail)
        | _ => .fail) Q := p1
      cases em : st1[n]? with
      | none => rw [em] at p1; exact p1.elim
      | some m =>
        rw [em] at p1
        cases m with
        | dic _ => exact p1.elim
        | lst ds =>
          have p1 : Po X.K S W σ Z1 μ1 H1 (rD X.K S) (match ds.getLast? with
            | some d => Res.ok d (st1.set n (.lst ds.dropLast))
            | none => .fail) Q := p1
          cases ed : ds.getLast? with
          | none => rw [ed] at p1; exact p1.elim
          | some d =>
            rw [ed] at p1
            obtain ⟨xs, g1, g2⟩ := R1.ob n a _ ha em
            have hx : ds[ds.length - 1]? = some d := by rw [getLast_ix]; exact ed
            obtain ⟨v, hv, hd⟩ := isDs_get g2 hx
            obtain ⟨s2, R2⟩ := R1.wr (o := .lst xs.dropLast) (m' := .lst ds.dropLast) ha ⟨_, upd_same, isDs_dropLast g2⟩
            refine ⟨.inl ⟨rfl, xs, .of g1⟩, a, xs, v, rfl, rfl, g1, by rw [isDs_len g2]; exact hv, p1 v Z1 μ1 _ s2 R2 hd⟩
    | _ => exact p1.elim
end
end Sm
set_option Elab.async false
set_option linter.all false
set_option maxRecDepth 100000
set_option maxHeartbeats 4000000
set_option autoImplicit false
namespace Sm
open PySem PySem.Spec PyProof.Rows L2
section
variable {X : Cx} {S : Sta} {W : WX} {O : Or} {k : Nat} {pos apos cpos npos : Pos}
/-- one more field -/
def putObj (i c : Nat) (f : Str) : GM := fun d ρ st => match ρ[i]? with
  | some (.obj c' fs) => if c' = c ∧ f ∉ fs.map (·.1) ∧ fs.length < 500 then .nx (ρ.set i (.obj c' (fs ++ [(f, d)]))) st else .fail
  | _ => .fail
theorem putF_new {f : Str} {v : V} : ∀ {fs : List (Str × V)}, f ∉ fs.map (·.1) → putF f v fs = fs ++ [(f, v)]
  | [], _ => rfl
  | (g, x) :: r, h => by
    rw [List.map_cons] at h
    have h1 : ¬ g = f := fun e => h (e ▸ List.mem_cons_self)
    unfold putF
    rw [if_neg h1, putF_new (fs := r) fun z => h (List.mem_cons_of_mem _ z)]
    rfl
theorem obj_put {Z : Hp} {μ : List Addr} {H : Hp} {σ : L2.St} {ρ : Env1} {st : Store} {i c : Nat} {f : Str} {fs : List (Str × D)} {d : D} {v : V} (s : Stp O.Z O.μ O.H Z μ H) (L : RepL X.K S O Z μ H σ ρ) (R : Rep X.K S Z μ H st) (hi : ρ[i]? = some (.obj c fs)) (hf : f ∉ fs.map (·.1)) (hd : isD X.K S Z μ d v) :
    ∃ a dx gs, σ[i]? = some (some (.ref a)) ∧ H a = some (.ins (He.ga X.K (S.cn c)) dx gs) ∧ gs.length = fs.length ∧ Stp O.Z O.μ O.H Z μ (upd H a (.ins (He.ga X.K (S.cn c)) dx (putF f v gs))) ∧
      RepL X.K S O Z μ (upd H a (.ins (He.ga X.K (S.cn c)) dx (putF f v gs))) σ (ρ.set i (.obj c (fs ++ [(f, d)]))) ∧ Rep X.K S Z μ (upd H a (.ins (He.ga X.K (S.cn c)) dx (putF f v gs))) st := by
  obtain ⟨a, dx, xs, ea, h1, h2, h3, h4, h5, h6⟩ := L.ok i _ hi
  have hl : xs.length = fs.length := by rw [isDs_len h2, List.length_map]
  have hk : ((fs.map (·.1)).zip xs).map (·.1) = fs.map (·.1) := by
    rw [List.map_fst_zip]
    rw [List.length_map, hl]
    exact Nat.le_refl _
  refine ⟨a, dx, (fs.map (·.1)).zip xs, ea, h1, by rw [List.length_zip, List.length_map, hl, Nat.min_self], ?_⟩
  have e : putF f v ((fs.map (·.1)).zip xs) = ((fs ++ [(f, d)]).map (·.1)).zip (xs ++ [v]) := by
    rw [putF_new (by rw [hk]; exact hf), List.map_append, List.zip_append (by rw [List.length_map, hl])]
    rfl
  refine own_updG s L R hi trivial ea h1 (.inr ⟨_, _, _, rfl⟩) h3 h4 h5 trivial ⟨a, dx, xs ++ [v], ea, ?_, ?_, h3, h4, h5, h6⟩
  · rw [upd_same, e]
  · rw [List.map_append]
    exact isDs_app h2 (isDs_cons hd rfl)
/-- self.f = e -/
def fldS (i c : Nat) (f : Str) (m : EM D) : SM := fun ρ st => (m ρ st).toS ρ fun d st1 => putObj i c f d ρ st1
theorem putObj_cases {i c : Nat} {f : Str} {d : D} {ρ : Env1} {st : Store} : putObj i c f d ρ st = .fail ∨ ∃ fs, ρ[i]? = some (.obj c fs) ∧ f ∉ fs.map (·.1) ∧ fs.length < 500 ∧ putObj i c f d ρ st = .nx (ρ.set i (.obj c (fs ++ [(f, d)]))) st := by
  unfold putObj
  cases e : ρ[i]? with
  | none => exact .inl rfl
  | some sl =>
    cases sl with
    | obj c' fs =>
      by_cases h : c' = c ∧ f ∉ fs.map (·.1) ∧ fs.length < 500
      · obtain ⟨rfl, h2, h3⟩ := h
        exact .inr ⟨fs, rfl, h2, h3, if_pos ⟨rfl, h2, h3⟩⟩
      · exact .inl (if_neg h)
    | _ => exact .inl rfl
theorem st_fld (i c : Nat) {x f : Str} {e : Expr} {pos' : Pos} {m : EM D} (hc : Cls X.K (He.ga X.K (S.cn c))) (hn : NoAttr X.K (He.ga X.K (S.cn c)) f) (he : SE X S W O e m) (hN : X.N[i]? = some x := by rfl) (hv : Vis X.env.scope x := by first | exact Or.inl rfl | exact Or.inr (Or.inl rfl) | exact Or.inr (Or.inr rfl))
    (hd : (x == ("__debug__" : Str)) = false := by decide) (hcd : (x == ("__classdict__" : Str)) = false := by decide) (hs : swapsWith e (some (.Attribute (.Name x npos) f pos')) pos.line X.env = pure false := by rfl) : SS X S W O (.Assign [.Attribute (.Name x npos) f pos'] e pos) (fldS i c f m) :=
  ps_imp (ps_fld (pe_var hN hv hd hcd) he hs) fun Dn σ H ⟨Z, μ, ρ, st, s, L, R, p⟩ => by
    refine tS_bind s L R p fun d v st1 Z1 μ1 H1 s1 s1' L1 R1 i1 p1 => ?_
    rcases putObj_cases (i := i) (c := c) (f := f) (d := d) (ρ := ρ) (st := st1) with z | ⟨fs, e1, e2, e3, z⟩
    · rw [z] at p1; exact p1.elim
    · rw [z] at p1
      obtain ⟨a, dx, gs, ea, h1, hl, s2, L2, R2⟩ := obj_put s1 L1 R1 e1 e2 i1
      exact ⟨_, ea, a, _, dx, gs, rfl, h1, hc, hn, by omega, p1 σ Z1 μ1 _ s2 L2 R2⟩
/-- self.f as a target among others -/
theorem pg_self {i : Nat} {x f : Str} {C : Addr} (hc : Cls X.K C) (hn : NoAttr X.K C f) (hN : X.N[i]? = some x) (hv : Vis X.env.scope x) (hd : (x == ("__debug__" : Str)) = false) (hcd : (x == ("__classdict__" : Str)) = false) :
    PG X (.Attribute (.Name x npos) f pos) (fun v σ H Q => ∃ a dx fs, σ[i]? = some (some (.ref a)) ∧ H a = some (.ins C dx fs) ∧ fs.length < 1000 ∧ Q σ (upd H a (.ins C dx (putF f v fs)))) := by
  refine ⟨fun pins s σ H v u Q I r hh => ?_⟩
  obtain ⟨a, dx, fs, e1, e2, e3, q⟩ := hh
  have hx : PE X (.Name x npos) (tVar i) := pe_var hN hv hd hcd
  rw [assign_Attribute]
  have w1 := hx.run pins s σ H (fun z H1 => z = .ref a ∧ H1 = H) I ⟨.ref a, e1, rfl, rfl⟩
  refine wpAny_bind (wpAny_holding (thn w1 fun ov s1 hz => ?_))
  obtain ⟨z, H1, I1, r1, rfl, rfl⟩ := hz
  obtain rfl : ov = Value.ref a := r1
  refine wpAny_bind (wpAny_standAt (wpAny_bind (wpAny_holding ?_)))
  exact setattr_ok I1 e2 hc hn e3 r fun s2 I2 => wpAny_release ⟨σ, _, I2, q⟩
theorem ml_fld (i c : Nat) {x f : Str} (hc : Cls X.K (He.ga X.K (S.cn c))) (hn : NoAttr X.K (He.ga X.K (S.cn c)) f) (hN : X.N[i]? = some x := by rfl) (hv : Vis X.env.scope x := by first | exact Or.inl rfl | exact Or.inr (Or.inl rfl) | exact Or.inr (Or.inr rfl)) (hd : (x == ("__debug__" : Str)) = false := by decide) (hcd : (x == ("__classdict__" : Str)) = false := by decide) :
    Mild X S W O (.Attribute (.Name x npos) f pos) (putObj i c f) :=
  pg_imp (pg_self hc hn hN hv hd hcd) fun v σ H Q ⟨d, Z, μ, ρ, st, s, L, R, q, ρ', e, p⟩ => by
    rcases putObj_cases (i := i) (c := c) (f := f) (d := d) (ρ := ρ) (st := st) with z | ⟨fs, e1, e2, e3, z⟩
    · rw [z] at e; cases e
    · rw [z] at e
      cases e
      obtain ⟨a, dx, gs, ea, h1, hl, s2, L2, R2⟩ := obj_put s L R e1 e2 q
      exact ⟨a, dx, gs, ea, h1, by omega, p σ _ s2 L2 R2⟩
theorem mild_fld (i c : Nat) (f : Str) : ∀ d ρ st, ∃ ρ', putObj i c f d ρ st = .nx ρ' st ∨ putObj i c f d ρ st = .fail := fun d ρ st => by
  rcases putObj_cases (i := i) (c := c) (f := f) (d := d) (ρ := ρ) (st := st) with z | ⟨fs, _, _, _, z⟩
  · exact ⟨ρ, .inr z⟩
  · exact ⟨_, .inl z⟩
def iterW (c : EM Bool) (b : SM) : Nat → Env1 → Store → Option RS
  | 0, _, _ => none
  | n + 1, ρ, st => match c ρ st with
    | .ok true st1 => (match b ρ st1 with
      | .nx ρ2 st2 => iterW c b n ρ2 st2
      | .ct ρ2 st2 => iterW c b n ρ2 st2
      | .bk ρ2 st2 => some (.nx ρ2 st2)
      | r => some r)
    | .ok false st1 => some (.nx ρ st1)
    | .exc e st1 => some (.exc e ρ st1)
    | .fail => some .fail
theorem iterW_up {c : EM Bool} {b : SM} : ∀ {n : Nat} {ρ : Env1} {st : Store} {r : RS}, iterW c b n ρ st = some r → iterW c b (n + 1) ρ st = some r
  | 0, ρ, st, r, h => by cases h
  | n + 1, ρ, st, r, h => by
    unfold iterW at h ⊢
    cases e : c ρ st with
    | ok t st1 =>
      rw [e] at h
      cases t with
      | true =>
        dsimp only at h ⊢
        cases e2 : b ρ st1 with
        | nx ρ2 st2 => rw [e2] at h; exact iterW_up h
        | ct ρ2 st2 => rw [e2] at h; exact iterW_up h
        | _ => rw [e2] at h; exact h
      | false => exact h
    | exc c st1 => rw [e] at h; exact h
    | fail => rw [e] at h; exact h
theorem iterW_le {c : EM Bool} {b : SM} {n m : Nat} {ρ : Env1} {st : Store} {r : RS} (h : iterW c b n ρ st = some r) (hm : n ≤ m) : iterW c b m ρ st = some r := by
  induction hm with
  | refl => exact h
  | step _ ih => exact iterW_up ih
theorem iterW_uniq {c : EM Bool} {b : SM} {n m : Nat} {ρ : Env1} {st : Store} {r r' : RS} (h : iterW c b n ρ st = some r) (h' : iterW c b m ρ st = some r') : r = r' := by
  have a := iterW_le h (Nat.le_max_left n m)
  have b := iterW_le h' (Nat.le_max_right n m)
  rw [a] at b
  exact Option.some.inj b
open Classical in
noncomputable def whileS (c : EM Bool) (b : SM) : SM := fun ρ st => if h : ∃ r, ∃ n, iterW c b n ρ st = some r then h.choose else .fail
theorem whileS_is {c : EM Bool} {b : SM} {n : Nat} {ρ : Env1} {st : Store} {r : RS} (h : iterW c b n ρ st = some r) : whileS c b ρ st = r := by
  have hx : ∃ r, ∃ n, iterW c b n ρ st = some r := ⟨r, n, h⟩
  unfold whileS
  rw [dif_pos hx]
  obtain ⟨m, hm⟩ := hx.choose_spec
  exact iterW_uniq hm h
/-- one turn -/
theorem whileS_eq {c : EM Bool} {b : SM} {ρ : Env1} {st : Store} : whileS c b ρ st = match c ρ st with
    | .ok true st1 => (match b ρ st1 with
      | .nx ρ2 st2 => whileS c b ρ2 st2
      | .ct ρ2 st2 => whileS c b ρ2 st2
      | .bk ρ2 st2 => .nx ρ2 st2
      | r => r)
    | .ok false st1 => .nx ρ st1
    | .exc e st1 => .exc e ρ st1
    | .fail => .fail := by
  cases e : c ρ st with
  | ok t st1 =>
    cases t with
    | true =>
      have tail : ∀ ρ2 st2, (∀ n, iterW c b (n + 1) ρ st = iterW c b n ρ2 st2) → whileS c b ρ st = whileS c b ρ2 st2 := fun ρ2 st2 hh => by
        by_cases hx : ∃ r, ∃ n, iterW c b n ρ2 st2 = some r
        · obtain ⟨r, n, hn⟩ := hx
          rw [whileS_is hn, whileS_is (n := n + 1) ((hh n).trans hn)]
        · have hy : ¬ ∃ r, ∃ n, iterW c b n ρ st = some r := fun ⟨r, n, hn⟩ => by
            cases n with
            | zero => cases hn
            | succ n => exact hx ⟨r, n, (hh n).symm.trans hn⟩
          unfold whileS
          rw [dif_neg hx, dif_neg hy]
      dsimp only
      cases e2 : b ρ st1 with
      | nx ρ2 st2 => exact tail ρ2 st2 fun n => by rw [iterW, e]; dsimp only; rw [e2]
      | ct ρ2 st2 => exact tail ρ2 st2 fun n => by rw [iterW, e]; dsimp only; rw [e2]
      | bk ρ2 st2 => exact whileS_is (n := 1) (by rw [iterW, e]; dsimp only; rw [e2])
      | ret d st2 => exact whileS_is (n := 1) (by rw [iterW, e]; dsimp only; rw [e2])
      | exc c ρ2 st2 => exact whileS_is (n := 1) (by rw [iterW, e]; dsimp only; rw [e2])
      | fail => exact whileS_is (n := 1) (by rw [iterW, e]; dsimp only; rw [e2])
    | false => exact whileS_is (n := 1) (by rw [iterW, e])
  | exc c st1 => exact whileS_is (n := 1) (by rw [iterW, e])
  | fail => exact whileS_is (n := 1) (by rw [iterW, e])
theorem st_while {c : Expr} {body : List Stmt} {mc : EM Bool} {mb : SM} (hp : PassesOwn (model X.prog X.w) X.A X.env X.xe) (hc : ST X S W O c mc) (hb : SSs X S W O body mb) : SS X S W O (.While c body [] pos) (whileS mc mb) :=
  ps_imp (ps_while hp hc hb) fun Dn σ H ⟨Z, μ, ρ, st, s, L, R, p⟩ => by
    have hx : ∃ r, ∃ n, iterW mc mb n ρ st = some r := by
      by_cases hx : ∃ r, ∃ n, iterW mc mb n ρ st = some r
      · exact hx
      · unfold whileS at p
        rw [dif_neg hx] at p
        exact p.elim
    obtain ⟨r, n, hn⟩ := hx
    rw [whileS_is hn] at p
    refine ⟨fun m σ H => ∃ Z μ ρ st, Stp O.Z O.μ O.H Z μ H ∧ RepL X.K S O Z μ H σ ρ ∧ Rep X.K S Z μ H st ∧ iterW mc mb m ρ st = some r, ⟨n, Z, μ, ρ, st, s, L, R, hn⟩, ?_⟩
    rintro m σ H ⟨Z, μ, ρ, st, s, L, R, hm⟩
    cases m with
    | zero => cases hm
    | succ m =>
      refine ⟨Z, μ, ρ, st, L, R, ?_⟩
      unfold iterW at hm
      cases e : mc ρ st with
      | ok t st1 =>
        rw [e] at hm
        intro t' Z1 μ1 H1 s1 R1 i1
        obtain rfl : t = t' := i1
        cases t with
        | true =>
          refine iteT ⟨fun σ' H' => ∃ Z μ ρ st, Stp O.Z O.μ O.H Z μ H' ∧ RepL X.K S O Z μ H' σ' ρ ∧ Rep X.K S Z μ H' st ∧ iterW mc mb m ρ st = some r, fun σ' H' h' => ⟨m, Nat.lt_succ_self _, h'⟩, ?_⟩
          refine ⟨Z1, μ1, ρ, st1, s.trans s1, L.step s1, R1, ?_⟩
          dsimp only at hm
          cases e2 : mb ρ st1 with
          | nx ρ2 st2 => rw [e2] at hm; exact fun σ' Z' μ' H' s' L' R' => ⟨Z', μ', ρ2, st2, s', L', R', hm⟩
          | ct ρ2 st2 => rw [e2] at hm; exact fun σ' Z' μ' H' s' L' R' => ⟨Z', μ', ρ2, st2, s', L', R', hm⟩
          | bk ρ2 st2 => rw [e2] at hm; cases hm; exact p
          | ret d st2 => rw [e2] at hm; cases hm; exact p
          | exc c ρ2 st2 => rw [e2] at hm; cases hm; exact p
          | fail => rw [e2] at hm; cases hm; exact p
        | false =>
          cases hm
          exact iteF (p σ Z1 μ1 H1 (s.trans s1) (L.step s1) R1)
      | exc c st1 =>
        rw [e] at hm
        cases hm
        exact fun Z1 μ1 H1 s1 R1 => p σ Z1 μ1 H1 (s.trans s1) (L.step s1) R1
      | fail =>
        rw [e] at hm
        cases hm
        exact p.elim
end
end Sm
set_option Elab.async false
set_option linter.all false
set_option maxRecDepth 100000
set_option maxHeartbeats 4000000
set_option autoImplicit false
namespace Sm
open PySem PySem.Spec PyProof.Rows L2
/-- J gives the data ds, one by one, while what was frozen stands -/
def Walks (K : Frg) (S : Sta) (J : It) (ds : List D) (Z : Hp) (μ : List Addr) : Prop := ∀ (Z2 : Hp) (μ2 : List Addr) (H2 : Hp) (st2 : Store), (∀ a o, Z a = some o → Z2 a = some o) → (∀ (n : Nat) (a : Addr), μ[n]? = some a → μ2[n]? = some a) → Rep K S Z2 μ2 H2 st2 →
  (∀ (i : Nat) (d : D), ds[i]? = some d → J.go i H2 ∧ ∀ x H3, J.yld i H2 x H3 → ∃ Z3, Stp Z2 μ2 H2 Z3 μ2 H3 ∧ Rep K S Z3 μ2 H3 st2 ∧ isD K S Z3 μ2 d x) ∧ J.stop ds.length H2
abbrev rW (K : Frg) (S : Sta) : Rl (List D) It := fun _ Z μ _ ds J => Walks K S J ds Z μ
instance {K : Frg} {S : Sta} : Mn (rW K S) := ⟨fun _ h => h⟩
abbrev SI (X : Cx) (S : Sta) (W : WX) (O : Or) (tg iter : Expr) (m : EM (List D)) : Prop := PI X tg iter (tG X S W O (rW X.K S) m)
section
variable {X : Cx} {S : Sta} {W : WX} {O : Or} {k : Nat} {pos apos cpos npos : Pos} {tg : Expr}
theorem pi_imp {iter : Expr} {t t' : TI} (h : PI X tg iter t) (i : ∀ σ H Q, t' σ H Q → t σ H Q) : PI X tg iter t' := ⟨fun pins s σ H Q I q => h.run pins s σ H Q I (i _ _ _ q)⟩
theorem walks_list {K : Frg} {Z : Hp} {μ : List Addr} {a : Addr} {xs : List V} {ds : List D} (h : SqL K Z a xs) (hd : isDs K S Z μ ds xs) : Walks K S (Itl K a) ds Z μ := fun Z2 μ2 H2 st2 hz hm R => by
  have hs : SqL K H2 a xs := sql_mono (fun b o e => R.le b o (hz b o e)) h
  refine ⟨fun i d e => ?_, xs, hs, by rw [isDs_len hd]; exact Nat.le_refl _⟩
  obtain ⟨v, hv, q⟩ := isDs_get hd e
  refine ⟨⟨xs, v, hs, hv⟩, fun x H3 hy => ?_⟩
  obtain ⟨rfl, hy⟩ := hy
  have hx := hy xs hs
  rw [hv] at hx
  cases hx
  exact ⟨Z2, Stp.refl, R, isD_mono hz hm _ _ q⟩
theorem walks_tup {K : Frg} {Z : Hp} {μ : List Addr} {a : Addr} {xs : List V} {ds : List D} (h : TpL K Z a xs) (hd : isDs K S Z μ ds xs) : Walks K S (Itt K a) ds Z μ := fun Z2 μ2 H2 st2 hz hm R => by
  have hs : SqT K H2 a xs := sqt_mono (fun b o e => R.le b o (hz b o e)) h
  refine ⟨fun i d e => ?_, xs, hs, by rw [isDs_len hd]; exact Nat.le_refl _⟩
  obtain ⟨v, hv, q⟩ := isDs_get hd e
  refine ⟨⟨xs, v, hs, hv⟩, fun x H3 hy => ?_⟩
  obtain ⟨rfl, hy⟩ := hy
  have hx := hy xs hs
  rw [hv] at hx
  cases hx
  exact ⟨Z2, Stp.refl, R, isD_mono hz hm _ _ q⟩
/-- a list or a tuple that stands as it is -/
def seqW (m : EM D) : EM (List D) := fun ρ st => (m ρ st).bind fun d st1 => match d with
  | .lst ds => .ok ds st1
  | .tup ds => .ok ds st1
  | _ => .fail
theorem i_seq {l : Expr} {m : EM D} (hl : SE X S W O l m) : SI X S W O tg l (seqW m) := by
  refine ⟨fun pins s σ H RR I ⟨Z, μ, ρ, st, L, R, p⟩ => ?_⟩
  have t := tG_bind (rel := rD X.K S) (k := fun x H1 => ∃ Z1 μ1 st1 d ds, Rep X.K S Z1 μ1 H1 st1 ∧ isD X.K S Z1 μ1 d x ∧ (d = .lst ds ∨ d = .tup ds) ∧ Po X.K S W σ Z1 μ1 H1 (rW X.K S) (.ok ds st1) RR) L R p fun d x st1 Z1 μ1 H1 s1 L1 R1 i1 p1 => by
    cases d with
    | lst ds => exact ⟨Z1, μ1, st1, _, ds, R1, i1, .inl rfl, p1⟩
    | tup ds => exact ⟨Z1, μ1, st1, _, ds, R1, i1, .inr rfl, p1⟩
    | _ => exact p1.elim
  refine thn (hl.run pins s σ H _ I t) fun v s1 hv => ?_
  obtain ⟨x, H1, I1, r1, Z1, μ1, st1, d, ds, R1, i1, hd, p1⟩ := hv
  have new : ∀ {it : Obj}, Inv X pins σ H1 { s1 with heap := s1.heap.push it } := I1.kept (t' := s1.toks) fun b o e => Heap.get?_push_of_some _ e
  have fp : ∀ b ∈ [s1.heap.objs.size], FpOk X pins H1 b := fun b hb => by
    obtain rfl : b = s1.heap.objs.size := List.mem_singleton.mp hb
    exact I1.fpOk (Nat.le_refl _) (I1.hok.fresh (Nat.le_refl _))
  rcases hd with rfl | rfl
  · obtain ⟨a, xs, rfl, hs, hx⟩ := i1
    cases r1
    obtain ⟨its, rv, pl, hz⟩ := I1.list (sql_mono R1.le hs)
    refine wpAny_pyIter_list pl.isList ⟨_, [s1.heap.objs.size], _, _, H1, rfl, new, turn_list a _, ⟨_, Heap.get?_push_size _ rfl, rfl, rfl⟩, fp, ?_⟩
    exact p1 (Itl X.K a) Z1 μ1 H1 Stp.refl R1 (walks_list hs hx)
  · obtain ⟨a, xs, rfl, hs, hx⟩ := i1
    cases r1
    obtain ⟨its, rv, pl, hz⟩ := I1.tuple (sqt_mono R1.le hs)
    refine wpAny_pyIter_tuple (show s1.heap.IsTuple a its.toArray from pl) ⟨_, [s1.heap.objs.size], _, _, H1, rfl, new, turn_tuple a _, ⟨_, Heap.get?_push_size _ rfl, rfl, rfl⟩, fp, ?_⟩
    exact p1 (Itt X.K a) Z1 μ1 H1 Stp.refl R1 (walks_tup hs hx)
/-- lo, lo + 1, .. -/
def rngD (lo : Int) (n : Nat) : List D := (List.range n).map fun (i : Nat) => .int (lo + i)
theorem walks_rng {K : Frg} {Z : Hp} {μ : List Addr} {lo : Int} {n : Nat} : Walks K S (Itr lo n) (rngD lo n) Z μ := fun Z2 μ2 H2 st2 hz hm R => by
  have hl : (rngD lo n).length = n := by unfold rngD; rw [List.length_map, List.length_range]
  refine ⟨fun i d e => ?_, by rw [hl]; exact Nat.le_refl _⟩
  have hi : i < n := by rw [← hl]; exact (List.getElem?_eq_some_iff.mp e).1
  refine ⟨hi, fun x H3 hy => ?_⟩
  obtain ⟨rfl, rfl⟩ := hy
  refine ⟨Z2, Stp.refl, R, ?_⟩
  unfold rngD at e
  rw [List.getElem?_map, List.getElem?_range hi] at e
  cases e
  exact rfl
def rng1W (m : EM (List D)) : EM (List D) := fun ρ st => (m ρ st).bind fun ds st1 => match ds with
  | [.int j] => if -(2 ^ 62) ≤ j ∧ j < 2 ^ 62 then .ok (rngD 0 j.toNat) st1 else .fail
  | _ => .fail
def rng2W (m : EM (List D)) : EM (List D) := fun ρ st => (m ρ st).bind fun ds st1 => match ds with
  | [.int i, .int j] => if -(2 ^ 62) ≤ i ∧ i < 2 ^ 62 ∧ -(2 ^ 62) ≤ j ∧ j < 2 ^ 62 then .ok (rngD i (j - i).toNat) st1 else .fail
  | _ => .fail
theorem i_range1 {a : Expr} {p pos : Pos} {m : EM (List D)} (hm : X.mg "range" = none) (ha : SA X S W O [a] m) (hg : Gl X "range" := by rfl) (hs : starEach [a] X.env = [(false, eval a X.env)] := by rfl) : SI X S W O tg (.Call (.Name "range" p) [a] [] pos) (rng1W m) :=
  pi_imp (pi_range1 hg hm ha hs) fun σ H Q ⟨Z, μ, ρ, st, L, R, p⟩ => by
    refine tG_bind L R p fun ds vs st1 Z1 μ1 H1 s1 L1 R1 i1 p1 => ?_
    match ds, i1, p1 with
    | [.int j], ⟨v, r, e1, e2, e3⟩, p1 =>
      subst e3
      subst e2
      subst e1
      have p1 : Po X.K S W σ Z1 μ1 H1 (rW X.K S) (if -(2 ^ 62) ≤ j ∧ j < 2 ^ 62 then .ok (rngD 0 j.toNat) st1 else .fail) Q := p1
      by_cases hj : -(2 ^ 62) ≤ j ∧ j < 2 ^ 62
      · rw [if_pos hj] at p1
        exact ⟨j, rfl, hj.1, hj.2, p1 _ Z1 μ1 H1 Stp.refl R1 walks_rng⟩
      · rw [if_neg hj] at p1
        exact p1.elim
    | [], _, p1 => exact p1.elim
    | .int _ :: _ :: _, _, p1 => exact p1.elim
    | .non :: _, _, p1 => exact p1.elim
    | .bl _ :: _, _, p1 => exact p1.elim
    | .str _ :: _, _, p1 => exact p1.elim
    | .tup _ :: _, _, p1 => exact p1.elim
    | .lst _ :: _, _, p1 => exact p1.elim
    | .ins _ _ :: _, _, p1 => exact p1.elim
    | .ref _ :: _, _, p1 => exact p1.elim
    | .glo _ :: _, _, p1 => exact p1.elim
    | .ty _ :: _, _, p1 => exact p1.elim
theorem i_range2 {a b : Expr} {p pos : Pos} {m : EM (List D)} (hm : X.mg "range" = none) (ha : SA X S W O [a, b] m) (hg : Gl X "range" := by rfl) (hs : starEach [a, b] X.env = [(false, eval a X.env), (false, eval b X.env)] := by rfl) (hs2 : starEach [b] X.env = [(false, eval b X.env)] := by rfl) :
    SI X S W O tg (.Call (.Name "range" p) [a, b] [] pos) (rng2W m) :=
  pi_imp (pi_range2 hg hm ha hs hs2) fun σ H Q ⟨Z, μ, ρ, st, L, R, p⟩ => by
    refine tG_bind L R p fun ds vs st1 Z1 μ1 H1 s1 L1 R1 i1 p1 => ?_
    split at p1
    · rename_i i j
      obtain ⟨v, r, rfl, rfl, w, r2, rfl, rfl, rfl⟩ := i1
      split at p1
      · rename_i hj
        exact ⟨i, j, rfl, hj, p1 _ Z1 μ1 H1 Stp.refl R1 walks_rng⟩
      · exact p1.elim
    · exact p1.elim
def forL (g : GM) (b : SM) : List D → SM
  | [], ρ, st => .nx ρ st
  | d :: ds, ρ, st => match g d ρ st with
    | .nx ρ1 st1 => (match b ρ1 st1 with
      | .nx ρ2 st2 => forL g b ds ρ2 st2
      | .ct ρ2 st2 => forL g b ds ρ2 st2
      | .bk ρ2 st2 => .nx ρ2 st2
      | r => r)
    | _ => .fail
def forS (m : EM (List D)) (g : GM) (b : SM) : SM := fun ρ st => (m ρ st).toS ρ fun ds st1 => forL g b ds ρ st1
theorem Stp.rebase {Z1 : Hp} {μ1 : List Addr} {H1 : Hp} {Z : Hp} {μ : List Addr} {H : Hp} (a : Stp O.Z O.μ O.H Z1 μ1 H1) (b : Stp Z1 μ1 O.H Z μ H) : Stp O.Z O.μ O.H Z μ H where
  zz := fun c o h => b.zz c o (a.zz c o h)
  mm := by
    obtain ⟨t, e⟩ := a.mm
    obtain ⟨u, f⟩ := b.mm
    exact ⟨t ++ u, by rw [f, e, List.append_assoc]⟩
  fr := fun c o h n q => b.fr c o h (fun z => (a.mn c z).elim n fun e => by rw [h] at e; cases e) q
  th := b.th
  zn := fun c h n => b.zn c (a.zn c h n) n
  mn := fun c h => by
    rcases b.mn c h with z | z
    · exact a.mn c z
    · exact .inr z
/-- at a later base, from an earlier one -/
theorem Stp.base {Z1 : Hp} {μ1 : List Addr} {H1 : Hp} {Z : Hp} {μ : List Addr} {H : Hp} (a : Stp O.Z O.μ O.H Z1 μ1 H1) (s : Stp Z1 μ1 H1 Z μ H) : Stp Z1 μ1 O.H Z μ H where
  zz := s.zz
  mm := s.mm
  fr := fun c o h n q => s.fr c o (a.fr c o h (fun z => by
    obtain ⟨t, e⟩ := a.mm
    exact n (by rw [e]; exact List.mem_append_left _ z)) q) n q
  th := fun c h => a.th c (s.th c h)
  zn := fun c h n => s.zn c h fun e => n (a.th c e)
  mn := fun c h => by
    rcases s.mn c h with z | z
    · exact .inl z
    · exact .inr (a.th c z)
theorem pss_ex {body : List Stmt} {mb : SM} (hb : ∀ O, SSs X S W O body mb) : PSs X body (fun Dn σ H => ∃ O, tS X S W O mb Dn σ H) := ⟨fun pins s σ H Dn I ⟨O, q⟩ => (hb O).run pins s σ H Dn I q⟩
theorem pg_ex {g : GM} (hg : ∀ O, SG X S W O tg g) : PG X tg (fun v σ H Q => ∃ O, tgG X S W O g v σ H Q) := ⟨fun pins s σ H v u Q I r ⟨O, q⟩ => (hg O).run pins s σ H v u Q I r q⟩
theorem RepL.re {K : Frg} {O O' : Or} {Z : Hp} {μ : List Addr} {H : Hp} {σ : L2.St} {ρ : Env1} (L : RepL K S O Z μ H σ ρ) (h1 : O'.H = O.H) (h2 : O'.self = O.self) (h3 : Stp O'.Z O'.μ O'.H Z μ H) : RepL K S O' Z μ H σ ρ := by
  refine ⟨L.len, fun i sl e => ?_, L.ap⟩
  have q := L.ok i sl e
  cases sl with
  | un => trivial
  | val d => exact q
  | own fs =>
    obtain ⟨b, zs, e1, g1, g2, g3, g4, g5⟩ := q
    exact ⟨b, zs, e1, g1, g2, g3, g4, by rw [h1]; exact g5⟩
  | obj c fs =>
    obtain ⟨b, dx, zs, e1, g1, g2, g3, g4, g5, g6⟩ := q
    exact ⟨b, dx, zs, e1, g1, g2, g3, g4, by rw [h1]; exact g5, by rw [h2]; exact g6⟩
  | lam => exact ⟨by rw [h2]; exact q.1, h3⟩
  | adr b => exact q
theorem st_for {iter : Expr} {body : List Stmt} {m : EM (List D)} {g : GM} {mb : SM} (hp : PassesOwn (model X.prog X.w) X.A X.env X.xe) (hi : SI X S W O tg iter m) (hg : ∀ O, SG X S W O tg g) (hb : ∀ O, SSs X S W O body mb) (hc : X.calm = true := by rfl)
    (hs : ∀ x, foldedSetIterable iter X.env x = pure x := by intro _; rfl) : SS X S W O (.For tg iter body [] pos) (forS m g mb) :=
  ps_imp (ps_for hp hc hi (pg_ex hg) (pss_ex hb) hs) fun Dn σ H ⟨Z, μ, ρ, st, s, L, R, p⟩ => by
    refine tS_bind s L R p fun ds J st1 Z1 μ1 H1 s1 s1' L1 R1 wk p1 => ?_
    refine ⟨fun i n σ H => n = ds.length - i ∧ i ≤ ds.length ∧ ∃ Z μ ρ st, Stp Z1 μ1 O.H Z μ H ∧ RepL X.K S O Z μ H σ ρ ∧ Rep X.K S Z μ H st ∧ PoS X.K S W O (forL g mb (ds.drop i) ρ st) Dn,
      ⟨ds.length, by simp, Nat.zero_le _, Z1, μ1, ρ, st1, s1.base Stp.refl, L1, R1, p1⟩, ?_⟩
    rintro i n σ H ⟨rfl, hi, Z, μ, ρ, st, s, L, R, p⟩
    obtain ⟨w1, w2⟩ := wk Z μ H st s.zz s.mu R
    by_cases hl : i < ds.length
    · have hd : ds.drop i = ds[i] :: ds.drop (i + 1) := List.drop_eq_getElem_cons hl
      rw [hd] at p
      obtain ⟨go, yl⟩ := w1 i ds[i] (List.getElem?_eq_getElem hl)
      refine .inr ⟨go, fun σ H => ∃ Z μ ρ st, Stp Z1 μ1 O.H Z μ H ∧ RepL X.K S O Z μ H σ ρ ∧ Rep X.K S Z μ H st ∧ PoS X.K S W O (forL g mb (ds.drop (i + 1)) ρ st) Dn,
        fun σ' H' h' => ⟨ds.length - (i + 1), by omega, rfl, hl, h'⟩, fun x H3 hy => ?_⟩
      obtain ⟨Z3, s3, R3, i3⟩ := yl x H3 hy
      have sO : Stp O.Z O.μ O.H Z3 μ H3 := (s1.rebase s).trans s3
      refine ⟨⟨Z1, μ1, O.H, O.self⟩, ds[i], Z3, μ, ρ, st, s.trans s3, (L.step s3).re rfl rfl (s.trans s3), R3, i3, ?_⟩
      unfold forL at p
      cases eg : g ds[i] ρ st with
      | nx ρ2 st2 =>
        rw [eg] at p
        have p : PoS X.K S W O (match mb ρ2 st2 with
          | .nx ρ2 st2 => forL g mb (ds.drop (i + 1)) ρ2 st2
          | .ct ρ2 st2 => forL g mb (ds.drop (i + 1)) ρ2 st2
          | .bk ρ2 st2 => .nx ρ2 st2
          | r => r) Dn := p
        intro σ4 Z4 μ4 H4 s4 L4 R4
        refine ⟨⟨Z1, μ1, O.H, O.self⟩, Z4, μ4, ρ2, st2, s4, L4, R4, ?_⟩
        cases eb : mb ρ2 st2 with
        | nx ρ3 st3 => rw [eb] at p; exact fun σ Z μ H s L R => ⟨Z, μ, ρ3, st3, s, L.re rfl rfl (s1.rebase s), R, p⟩
        | ct ρ3 st3 => rw [eb] at p; exact fun σ Z μ H s L R => ⟨Z, μ, ρ3, st3, s, L.re rfl rfl (s1.rebase s), R, p⟩
        | bk ρ3 st3 => rw [eb] at p; exact fun σ Z μ H s L R => p σ Z μ H (s1.rebase s) (L.re rfl rfl (s1.rebase s)) R
        | ret d st3 => rw [eb] at p; exact fun v Z μ H s R q => p v Z μ H (s1.rebase s) R q
        | exc c ρ3 st3 => rw [eb] at p; exact fun σ Z μ H s L R => p σ Z μ H (s1.rebase s) (L.re rfl rfl (s1.rebase s)) R
        | fail => rw [eb] at p; exact p
      | _ => rw [eg] at p; exact p.elim
    · have e : i = ds.length := by omega
      subst e
      rw [List.drop_length] at p
      exact .inl ⟨w2, p σ Z μ H (s1.rebase s) L R⟩
abbrev W0 : WX := fun _ _ _ _ => False
def wipeD (ρ : Env1) : List Nat → Env1
  | [] => ρ
  | v :: vs => (wipeD ρ vs).set v .un
theorem RepL.wipe {K : Frg} {Z : Hp} {μ : List Addr} {H : Hp} {σ : L2.St} {ρ : Env1} (L : RepL K S O Z μ H σ ρ) : ∀ vs, RepL K S O Z μ H (L2.wipe σ vs) (wipeD ρ vs)
  | [] => L
  | v :: vs => (L.wipe vs).un
def compL (g : GM) (tt : EM Bool) (te : EM D) : List D → Env1 → Store → List D → Res (List D)
  | [], _, st, acc => .ok acc st
  | d :: ds, ρ, st, acc => match g d ρ st with
    | .nx ρ1 st1 => (match tt ρ1 st1 with
      | .ok true st2 => (match te ρ1 st2 with
        | .ok e st3 => if acc.length < 1000000 then compL g tt te ds ρ st3 (acc ++ [e]) else .fail
        | _ => .fail)
      | .ok false st2 => compL g tt te ds ρ st2 acc
      | _ => .fail)
    | _ => .fail
def compM (vs : List Nat) (m : EM (List D)) (g : GM) (tt : EM Bool) (te : EM D) : EM (List D) := fun ρ st => (m ρ st).bind fun ds st1 => compL g tt te ds (wipeD ρ vs) st1 []
/-- a comprehension's target, by its reading -/
def Tgt (K : Frg) (S : Sta) (vs : List Nat) (gr : TG) (g : GM) : Prop := ∀ (d : D) (x : V) (O : Or) (Z : Hp) (μ : List Addr) (H : Hp) (σ : L2.St) (ρ ρ1 : Env1) (st st1 : Store) (Q : L2.St → Hp → Prop), RepL K S O Z μ H σ ρ → Rep K S Z μ H st → isD K S Z μ d x → g d ρ st = .nx ρ1 st1 →
  (∀ σ2, st1 = st → RepL K S O Z μ H σ2 ρ1 → L2.wipe σ2 vs = L2.wipe σ vs → Q σ2 H) → gr x σ H Q
theorem tgt_name {K : Frg} (i : Nat) : Tgt K S [i] (gName i) (setG i) := fun d x O Z μ H σ ρ ρ1 st st1 Q L R hd e k => by
  cases e
  refine k _ rfl (L.set hd) ?_
  show (σ.set i (some x)).set i none = σ.set i none
  rw [List.set_set]
theorem wipe_set {σ : L2.St} {i : Nat} {o : Option V} : ∀ {vs : List Nat}, i ∈ vs → L2.wipe (σ.set i o) vs = L2.wipe σ vs
  | [], h => by cases h
  | v :: vs, h => by
    show (L2.wipe (σ.set i o) vs).set v none = (L2.wipe σ vs).set v none
    by_cases hi : i ∈ vs
    · rw [wipe_set hi]
    · have hv : i = v := by
        rcases List.mem_cons.mp h with e | e
        · exact e
        · exact absurd e hi
      subst hv
      have aux : ∀ (vs : List Nat) (σ : L2.St), i ∉ vs → L2.wipe (σ.set i o) vs = (L2.wipe σ vs).set i o := by
        intro vs
        induction vs with
        | nil => intro σ _; rfl
        | cons w vs ih =>
          intro σ hn
          have h1 : i ≠ w := fun e => hn (e ▸ List.mem_cons_self)
          show (L2.wipe (σ.set i o) vs).set w none = ((L2.wipe σ vs).set w none).set i o
          rw [ih σ fun z => hn (List.mem_cons_of_mem _ z), List.set_comm _ _ h1]
      rw [aux vs σ hi, List.set_set]
theorem wipe_wipe {σ : L2.St} {vs : List Nat} : ∀ {ws : List Nat}, (∀ i ∈ ws, i ∈ vs) → L2.wipe (L2.wipe σ ws) vs = L2.wipe σ vs
  | [], _ => rfl
  | w :: ws, h => by
    show L2.wipe ((L2.wipe σ ws).set w none) vs = _
    rw [wipe_set (h w List.mem_cons_self), wipe_wipe fun i hi => h i (List.mem_cons_of_mem _ hi)]
/-- a, b, .. in a comprehension -/
def gNames : List Nat → TGs
  | [] => gNil
  | i :: r => gCons (gName i) (gNames r)
def setGs : List Nat → List D → Env1 → Option Env1
  | [], [], ρ => some ρ
  | i :: is, d :: ds, ρ => setGs is ds (ρ.set i (.val d))
  | _, _, _ => none
def tupN (is : List Nat) : GM := fun d ρ st => match d with
  | .tup ds => (match setGs is ds ρ with
    | some ρ1 => .nx ρ1 st
    | none => .fail)
  | _ => .fail
theorem gNames_of {K : Frg} {vs : List Nat} {Q : L2.St → Hp → Prop} {O : Or} {Z : Hp} {μ : List Addr} {H : Hp} : ∀ {is : List Nat} {ds : List D} {xs : List V} {σ : L2.St} {ρ ρ1 : Env1}, (∀ i ∈ is, i ∈ vs) → RepL K S O Z μ H σ ρ → isDs K S Z μ ds xs → setGs is ds ρ = some ρ1 →
    (∀ σ2, RepL K S O Z μ H σ2 ρ1 → L2.wipe σ2 vs = L2.wipe σ vs → Q σ2 H) → gNames is xs σ H Q ∧ ds.length = is.length
  | [], [], xs, σ, ρ, ρ1, hv, L, hd, e, k => by
    cases e
    exact ⟨⟨hd, k σ L rfl⟩, rfl⟩
  | i :: is, d :: ds, xs, σ, ρ, ρ1, hv, L, hd, e, k => by
    obtain ⟨v, r, rfl, q, t⟩ := hd
    have h := gNames_of (is := is) (ds := ds) (Q := Q) (fun j hj => hv j (List.mem_cons_of_mem _ hj)) (L.set (i := i) q) t e fun σ2 L2 w => k σ2 L2 (w.trans (wipe_set (hv i List.mem_cons_self)))
    exact ⟨⟨v, r, rfl, h.1⟩, by rw [List.length_cons, List.length_cons, h.2]⟩
  | [], _ :: _, xs, σ, ρ, ρ1, hv, L, hd, e, k => by cases e
  | _ :: _, [], xs, σ, ρ, ρ1, hv, L, hd, e, k => by cases e
theorem tgt_tup {K : Frg} {vs : List Nat} (is : List Nat) {n : Nat} (hn : is.length = n) (hv : ∀ i ∈ is, i ∈ vs) : Tgt K S vs (gTup K n (gNames is)) (tupN is) := fun d x O Z μ H σ ρ ρ1 st st1 Q L R hd e k => by
  cases d with
  | tup ds =>
    have e : (match setGs is ds ρ with
      | some ρ1 => RS.nx ρ1 st
      | none => .fail) = .nx ρ1 st1 := e
    cases es : setGs is ds ρ with
    | none => rw [es] at e; cases e
    | some ρ2 =>
      rw [es] at e
      cases e
      obtain ⟨a, xs, rfl, hs, hx⟩ := hd
      obtain ⟨h1, h2⟩ := gNames_of (Q := Q) hv L hx es fun σ2 L2 w => k σ2 rfl L2 w
      exact ⟨a, xs, rfl, sqt_mono R.le hs, by rw [isDs_len hx, h2, hn], h1⟩
  | _ => cases e
/-- a list that is being filled, of which nothing else is told -/
theorem wrD {K : Frg} {Z1 Z : Hp} {μ1 μ : List Addr} {H1 H : Hp} {σ : L2.St} {ρ : Env1} {st : Store} {a : Addr} {xs ys : List V} (L1 : RepL K S O Z1 μ1 H1 σ ρ) (s : Stp Z1 μ1 H1 Z μ H) (R : Rep K S Z μ H st) (h0 : H1 a = none) (h1 : H a = some (.lst xs)) (h2 : Z a = none) (h3 : a ∉ μ) :
    Stp Z1 μ1 H1 Z μ (upd H a (.lst ys)) ∧ RepL K S O Z μ (upd H a (.lst ys)) σ ρ ∧ Rep K S Z μ (upd H a (.lst ys)) st := by
  have hother : ∀ b, b ≠ a → upd H a (.lst ys) b = H b := fun b hb => upd_ne hb
  have L := L1.step s
  have s' : Stp Z1 μ1 H1 Z μ (upd H a (.lst ys)) := by
    refine ⟨s.zz, s.mm, fun b o e n q => ?_, fun b e => ?_, s.zn, s.mn⟩
    · have hb : b ≠ a := fun z => by rw [z, h0] at e; cases e
      rw [hother b hb]
      exact s.fr b o e n q
    · by_cases hb : b = a
      · rw [hb]; exact h0
      · rw [hother b hb] at e
        exact s.th b e
  refine ⟨s', L1.step s', ⟨fun b o e => ?_, R.nt, R.len, R.nd, R.zm, fun n b m e1 e2 => ?_, ?_⟩⟩
  · have hb : b ≠ a := fun z => by rw [z, h2] at e; cases e
    rw [hother b hb]
    exact R.le b o e
  · have q := R.ob n b m e1 e2
    have hb : b ≠ a := fun z => h3 (z ▸ List.mem_of_getElem? e1)
    cases m with
    | lst fs =>
      obtain ⟨zs, g1, g2⟩ := q
      exact ⟨zs, by rw [hother b hb]; exact g1, g2⟩
    | dic kvs =>
      obtain ⟨zs, g1, g2⟩ := q
      exact ⟨zs, by rw [hother b hb]; exact g1, g2⟩
  · intro p hp
    obtain ⟨ps, t1, t2, t3⟩ := R.tb p hp
    refine ⟨ps, by rw [hother _ (fun z => by rw [z, h1] at t1; cases t1)]; exact t1, t2, fun q cv hc => ?_⟩
    obtain ⟨c, c1, c2⟩ := t3 q cv hc
    exact ⟨c, c1, by rw [hother _ (fun z => by rw [z, h1] at c2; cases c2)]; exact c2⟩
theorem tLc_of {vs : List Nat} {m : EM (List D)} {g : GM} {gr : TG} {tt : EM Bool} {te : EM D} (hg : Tgt X.K S vs gr g) (σ : L2.St) (H : Hp) (Q : VK) (h : tG X S W O (rF X.K S) (compM vs m g tt te) σ H Q) :
    tLc (tG X S W O (rW X.K S) m) gr (tG X S W0 O rT tt) (tG X S W0 O (rD X.K S) te) vs σ H Q := by
  obtain ⟨Z, μ, ρ, st, L, R, p⟩ := h
  refine tG_bind L R p fun ds J st1 Z1 μ1 H1 s1 L1 R1 wk p1 => ?_
  intro a ha
  obtain ⟨sa, Ra⟩ := R1.lay (o := .lst []) ha
  have LW := L1.wipe (O := O) vs
  refine ⟨fun i n H => n = ds.length - i ∧ i ≤ ds.length ∧ ∃ Z2 μ2 st2 acc xs, Stp Z1 μ1 H1 Z2 μ2 H ∧ Rep X.K S Z2 μ2 H st2 ∧ H a = some (.lst xs) ∧ isDs X.K S Z2 μ2 acc xs ∧ Z2 a = none ∧ a ∉ μ2 ∧
      Po X.K S W σ Z1 μ1 H1 (rF X.K S) (compL g tt te (ds.drop i) (wipeD ρ vs) st2 acc) Q,
    ⟨ds.length, by simp, Nat.zero_le _, Z1, μ1, st1, [], [], sa, Ra, upd_same, rfl, (R1.nne ha).1, (R1.nne ha).2, p1⟩, ?_⟩
  rintro i n H ⟨rfl, hi, Z2, μ2, st2, acc, xs, s2, R2, h1, h2, h3, h4, p2⟩
  obtain ⟨w1, w2⟩ := wk Z2 μ2 H st2 s2.zz s2.mu R2
  by_cases hl : i < ds.length
  · have hd : ds.drop i = ds[i] :: ds.drop (i + 1) := List.drop_eq_getElem_cons hl
    rw [hd] at p2
    obtain ⟨go, yl⟩ := w1 i ds[i] (List.getElem?_eq_getElem hl)
    refine .inr ⟨go, fun H => ∃ Z2 μ2 st2 acc xs, Stp Z1 μ1 H1 Z2 μ2 H ∧ Rep X.K S Z2 μ2 H st2 ∧ H a = some (.lst xs) ∧ isDs X.K S Z2 μ2 acc xs ∧ Z2 a = none ∧ a ∉ μ2 ∧
      Po X.K S W σ Z1 μ1 H1 (rF X.K S) (compL g tt te (ds.drop (i + 1)) (wipeD ρ vs) st2 acc) Q, fun H' h' => ⟨ds.length - (i + 1), by omega, rfl, hl, h'⟩, fun x H3 hy => ?_⟩
    obtain ⟨Z3, s3, R3, i3⟩ := yl x H3 hy
    have s13 := s2.trans s3
    have L3 := LW.step s13
    unfold compL at p2
    -- the list stands while other things are done
    have stays : ∀ {Z4 : Hp} {μ4 : List Addr} {H4 : Hp}, Stp Z2 μ2 H Z4 μ4 H4 → H4 a = some (.lst xs) ∧ isDs X.K S Z4 μ4 acc xs ∧ Z4 a = none ∧ a ∉ μ4 := fun {Z4 μ4 H4} s4 =>
      ⟨s4.fr a _ h1 h4 (fun ps z => by cases z), s4.isDs h2, s4.zn a h3 (by rw [h1]; intro z; cases z), fun z => (s4.mn a z).elim h4 fun e => by rw [h1] at e; cases e⟩
    cases eg : g ds[i] (wipeD ρ vs) st2 with
    | nx ρ1 st1' =>
      rw [eg] at p2
      refine hg ds[i] x O Z3 μ2 H3 _ _ ρ1 st2 st1' _ L3 R3 i3 eg fun σ2 hst Lt hw => ⟨hw.trans (wipe_wipe fun _ h => h), ?_⟩
      subst hst
      refine ⟨Z3, μ2, ρ1, st1', Lt, R3, ?_⟩
      have p2 : Po X.K S W σ Z1 μ1 H1 (rF X.K S) (match tt ρ1 st1' with
        | .ok true st2 => (match te ρ1 st2 with
          | .ok e st3 => if acc.length < 1000000 then compL g tt te (ds.drop (i + 1)) (wipeD ρ vs) st3 (acc ++ [e]) else .fail
          | _ => .fail)
        | .ok false st2 => compL g tt te (ds.drop (i + 1)) (wipeD ρ vs) st2 acc
        | _ => .fail) Q := p2
      cases et : tt ρ1 st1' with
      | ok t st4 =>
        rw [et] at p2
        intro t' Z4 μ4 H4 s4 R4 i4
        obtain rfl : t = t' := i4
        have s24 := s3.trans s4
        cases t with
        | true =>
          refine iteT ⟨Z4, μ4, ρ1, st4, Lt.step s4, R4, ?_⟩
          have p2 : Po X.K S W σ Z1 μ1 H1 (rF X.K S) (match te ρ1 st4 with
            | .ok e st3 => if acc.length < 1000000 then compL g tt te (ds.drop (i + 1)) (wipeD ρ vs) st3 (acc ++ [e]) else .fail
            | _ => .fail) Q := p2
          cases ee : te ρ1 st4 with
          | ok e st5 =>
            rw [ee] at p2
            intro y Z5 μ5 H5 s5 R5 i5
            have s25 := s24.trans s5
            obtain ⟨g1, g2, g3, g4⟩ := stays s25
            have p2 : Po X.K S W σ Z1 μ1 H1 (rF X.K S) (if acc.length < 1000000 then compL g tt te (ds.drop (i + 1)) (wipeD ρ vs) st5 (acc ++ [e]) else .fail) Q := p2
            by_cases hc : acc.length < 1000000
            · rw [if_pos hc] at p2
              obtain ⟨s6, _, R6⟩ := wrD (O := O) (ys := xs ++ [y]) L1 (s2.trans s25) R5 ha g1 g3 g4
              exact ⟨xs, g1, by rw [isDs_len h2]; exact line_m hc, Z5, μ5, st5, acc ++ [e], xs ++ [y], s6, R6, upd_same, isDs_app g2 (isDs_cons i5 rfl), g3, g4, p2⟩
            · rw [if_neg hc] at p2
              exact p2.elim
          | exc c st5 => rw [ee] at p2; exact p2.elim
          | fail => rw [ee] at p2; exact p2.elim
        | false =>
          obtain ⟨g1, g2, g3, g4⟩ := stays s24
          exact iteF ⟨Z4, μ4, st4, acc, xs, s2.trans s24, R4, g1, g2, g3, g4, p2⟩
      | exc c st4 => rw [et] at p2; exact p2.elim
      | fail => rw [et] at p2; exact p2.elim
    | _ => rw [eg] at p2; exact p2.elim
  · have e : i = ds.length := by omega
    subst e
    rw [List.drop_length] at p2
    exact .inl ⟨w2, p2 (.ref a) Z2 μ2 H s2 R2 ⟨a, xs, rfl, ha, h1, h2, h3, h4⟩⟩
abbrev SPt (X : Cx) (S : Sta) (O : Or) (ifs : List Expr) (tt : EM Bool) : Prop := PTs X ifs (tG X S W0 O rT tt)
theorem pts_imp {ifs : List Expr} {t t' : TT} (h : PTs X ifs t) (i : ∀ σ H Q, t' σ H Q → t σ H Q) : PTs X ifs t' := ⟨fun pins s σ H Q I q => h.run pins s σ H Q I (i _ _ _ q)⟩
theorem pt_nil : SPt X S O [] (cM true) := pts_imp pts_nil fun σ H Q ⟨Z, μ, ρ, st, L, R, p⟩ => p true Z μ H Stp.refl R rfl
theorem pt_one {c : Expr} {tt : EM Bool} (h : ST X S W0 O c tt) : SPt X S O [c] tt := pts_one h
theorem f_comp (own : List (Str × Nat)) {elt iter : Expr} {ifs : List Expr} {scope : Scope} {m : EM (List D)} {g : GM} {gr : TG} {tt : EM Bool} {te : EM D} (hT : Tgt X.K S (own.map (·.2)) gr g) (hN : X.N.Nodup) (hi : SI X S W O tg iter m) (ok : BlkOk X.N X.env.scope scope own)
    (hg : ∀ (s : Shared) (H : Hp) (C : Addr) (cl : List (Str × Addr)) (fp : List Addr), PG (X.blk s H scope (compEnvC scope cl C X.env) fp) tg gr) (ht : ∀ (s : Shared) (H : Hp) (C : Addr) (cl : List (Str × Addr)) (fp : List Addr), SPt (X.blk s H scope (compEnvC scope cl C X.env) fp) S O ifs tt)
    (he : ∀ (s : Shared) (H : Hp) (C : Addr) (cl : List (Str × Addr)) (fp : List Addr), SE (X.blk s H scope (compEnvC scope cl C X.env) fp) S W0 O elt te) (hc : X.calm = true := by rfl) (hs : ∀ x, foldedSetIterable iter X.env x = pure x := by intro _; rfl) :
    SF X S W O (.ListComp elt [⟨tg, iter, ifs, 0⟩] scope pos) (compM (own.map (·.2)) m g tt te) :=
  pe_imp (pe_lc hc hN hi ok hg ht he hs) (tLc_of hT)
theorem st_setLc (own : List (Str × Nat)) {i : Nat} {y : Str} {py spos : Pos} {elt iter : Expr} {ifs : List Expr} {scope : Scope} {m : EM (List D)} {g : GM} {gr : TG} {tt : EM Bool} {te : EM D} (hT : Tgt X.K S (own.map (·.2)) gr g) (hN : X.N.Nodup) (hi : SI X S W O tg iter m) (ok : BlkOk X.N X.env.scope scope own)
    (hg : ∀ (s : Shared) (H : Hp) (C : Addr) (cl : List (Str × Addr)) (fp : List Addr), PG (X.blk s H scope (compEnvC scope cl C X.env) fp) tg gr) (ht : ∀ (s : Shared) (H : Hp) (C : Addr) (cl : List (Str × Addr)) (fp : List Addr), SPt (X.blk s H scope (compEnvC scope cl C X.env) fp) S O ifs tt)
    (he : ∀ (s : Shared) (H : Hp) (C : Addr) (cl : List (Str × Addr)) (fp : List Addr), SE (X.blk s H scope (compEnvC scope cl C X.env) fp) S W0 O elt te) (hsw : swapsWith (.ListComp elt [⟨tg, iter, ifs, 0⟩] scope pos) (some (.Name y py)) spos.line X.env = pure true)
    (hy : X.N[i]? = some y := by rfl) (hyl : X.env.scope.names.lookup y = some .local := by rfl) (hc : X.calm = true := by rfl) (hs : ∀ x, foldedSetIterable iter X.env x = pure x := by intro _; rfl) :
    SS X S W O (.Assign [.Name y py] (.ListComp elt [⟨tg, iter, ifs, 0⟩] scope pos) spos) (setF i (compM (own.map (·.2)) m g tt te)) :=
  ps_imp (ps_setLc hc hN hy hyl hsw hi ok hg ht he hs) fun Dn σ H ⟨Z, μ, ρ, st, s, L, R, p⟩ => by
    have t := tS_bind (k := fun v H1 => Dn.nx (σ.set i (some v)) H1) s L R p fun d v st1 Z1 μ1 H1 s1 s2 L1 R1 i1 p1 => p1 _ Z1 μ1 H1 s1 (own_new s L L1 i1) R1
    exact tLc_of hT σ H _ t
end
theorem takes_blkD {P : Program} {w : World} {K : Frg} {mg : Str → Option Value} {base : Heap} {N : List Str} {qual : Str} {scope : Scope} {f : Addr} {cdv : Value} {A : Around} {outer : List Env} {s s' : Shared} {H H' : Hp} {E : XK} {sc : Scope} {cenv : Env} {fp : List Addr} :
    Takes ((cxOf (L2.CX P w) P w K mg base N qual scope f cdv A outer s H E).blk s' H' sc cenv fp) W0 := fun _ _ x => by
  obtain ⟨_, _, _, _, _, _, _, _, _, _, _, _, _, _, _, _, z⟩ := x
  exact z.elim
end Sm
set_option Elab.async false
set_option linter.all false
set_option maxRecDepth 100000
set_option maxHeartbeats 4000000
set_option autoImplicit false
namespace Sm
open PySem PySem.Spec PyProof.Rows L2
section
variable {X : Cx} {S : Sta} {W : WX} {O : Or} {pos : Pos}
theorem Rep.alloc {K : Frg} {Z Z1 : Hp} {μ μ1 : List Addr} {H H1 : Hp} {st : Store} {a : Addr} {m : MO} (s : Stp Z μ H Z1 μ1 H1) (R : Rep K S Z1 μ1 H1 st) (h0 : H a = none) (h2 : Z1 a = none) (h3 : a ∉ μ1) (h1 : MOk K S Z1 μ1 H1 a m) :
    Stp Z μ H Z1 (μ1 ++ [a]) H1 ∧ Rep K S Z1 (μ1 ++ [a]) H1 (st ++ [m]) := by
  have hm : ∀ (n : Nat) (b : Addr), μ1[n]? = some b → (μ1 ++ [a])[n]? = some b := fun n b e => by
    rw [List.getElem?_append_left (List.getElem?_eq_some_iff.mp e).1]
    exact e
  have mk : ∀ (b : Addr) (x : MO), MOk K S Z1 μ1 H1 b x → MOk K S Z1 (μ1 ++ [a]) H1 b x := fun b x q => by
    cases x with
    | lst ds =>
      obtain ⟨ys, q1, q2⟩ := q
      exact ⟨ys, q1, isDs_mono (fun _ _ z => z) hm _ _ q2⟩
    | dic kvs =>
      obtain ⟨ys, q1, q2⟩ := q
      exact ⟨ys, q1, isKs_mono (fun _ _ z => z) hm _ _ q2⟩
  refine ⟨⟨s.zz, ?_, s.fr, s.th, s.zn, fun b h => ?_⟩, ⟨R.le, R.nt, ?_, ?_, fun b h => ?_, fun n b x e1 e2 => ?_, R.tb⟩⟩
  · obtain ⟨t, e⟩ := s.mm
    exact ⟨t ++ [a], by rw [e, List.append_assoc]⟩
  · rcases List.mem_append.mp h with z | z
    · exact s.mn b z
    · rw [List.mem_singleton.mp z]
      exact .inr h0
  · rw [List.length_append, List.length_append, R.len]
    rfl
  · refine List.nodup_append.mpr ⟨R.nd, by simp, fun b hb c hc e => ?_⟩
    rw [List.mem_singleton.mp hc] at e
    exact h3 (e ▸ hb)
  · rcases List.mem_append.mp h with z | z
    · exact R.zm b z
    · rw [List.mem_singleton.mp z]
      exact h2
  · by_cases hn : n < μ1.length
    · rw [List.getElem?_append_left hn] at e1
      rw [List.getElem?_append_left (by rw [← R.len]; exact hn)] at e2
      exact mk b x (R.ob n b x e1 e2)
    · rw [List.getElem?_append_right (Nat.le_of_not_lt hn)] at e1
      rw [List.getElem?_append_right (by rw [← R.len]; exact Nat.le_of_not_lt hn)] at e2
      rw [R.len] at e1
      cases hk : n - st.length with
      | zero =>
        rw [hk] at e1 e2
        cases e1
        cases e2
        exact mk _ _ h1
      | succ k =>
        rw [hk] at e2
        cases e2
/-- a new list, shared from now on -/
def allocM (m : EM (List D)) : EM D := fun ρ st => (m ρ st).bind fun ds st1 => .ok (.ref st1.length) (st1 ++ [.lst ds])
theorem isD_new {K : Frg} {Z : Hp} {μ : List Addr} {st : Store} {a : Addr} (e : μ.length = st.length) : isD K S Z (μ ++ [a]) (.ref st.length) (.ref a) :=
  ⟨a, rfl, by rw [List.getElem?_append_right (by omega), e]; simp⟩
theorem s_alloc {e : Expr} {m : EM (List D)} (h : SF X S W O e m) : SE X S W O e (allocM m) :=
  pe_imp h fun σ H Q ⟨Z, μ, ρ, st, L, R, p⟩ => by
    refine ⟨Z, μ, ρ, st, L, R, ?_⟩
    unfold allocM at p
    cases e : m ρ st with
    | ok ds st1 =>
      rw [e] at p
      intro v Z1 μ1 H1 s1 R1 q
      obtain ⟨a, xs, rfl, h0, h1, h2, h3, h4⟩ := q
      obtain ⟨s2, R2⟩ := Rep.alloc (m := .lst ds) s1 R1 h0 h3 h4 ⟨xs, h1, h2⟩
      exact p _ _ _ H1 s2 R2 (isD_new R1.len)
    | exc c st1 =>
      rw [e] at p
      exact p
    | fail =>
      rw [e] at p
      exact p.elim
theorem mergeK_nil : ∀ (kvs acc : List (Key × V)), ((acc ++ kvs).map (·.1)).Nodup → mergeK acc kvs = acc ++ kvs
  | [], acc, _ => (List.append_nil _).symm
  | p :: r, acc, h => by
    have hp : p.1 ∉ acc.map (·.1) := fun z => by
      rw [List.map_append, List.nodup_append] at h
      exact h.2.2 p.1 z p.1 (List.mem_map_of_mem List.mem_cons_self) rfl
    have e : putK acc p.1 p.2 = acc ++ [p] := by
      unfold putK
      have ha : (acc.any fun q => decide (q.1 = p.1)) = false := by
        rw [List.any_eq_false]
        intro q hq z
        exact hp (of_decide_eq_true z ▸ List.mem_map_of_mem hq)
      rw [ha]
      rfl
    show mergeK (putK acc p.1 p.2) r = _
    rw [e, mergeK_nil r (acc ++ [p]) (by rw [List.append_assoc]; exact h), List.append_assoc]
    rfl
abbrev kS : Str → Key := Sum.inr
/-- the values of a display, with their keys -/
def dictM (ks : List Str) (ma : EM (List D)) : EM D := fun ρ st => (ma ρ st).bind fun ds st1 => if ds.length = ks.length ∧ ks.Nodup ∧ ks.length ≤ 15 then .ok (.ref st1.length) (st1 ++ [.dic ((ks.map kS).zip ds)]) else .fail
/-- pairs of a display: they walk as their values do -/
inductive Prs (X : Cx) (S : Sta) (W : WX) (O : Or) (pos : Pos) : List (Option Expr) → List Expr → List Str → EM (List D) → Prop
  | nil : Prs X S W O pos [] [] [] nilM
  | cons {k : Str} {j : Nat} {p : Pos} {v : Expr} {ks : List (Option Expr)} {vs : List Expr} {ss : List Str} {m : EM D} {r : EM (List D)} (hv : SE X S W O v m) (hr : Prs X S W O pos ks vs ss r) :
      Prs X S W O pos (some (.Constant (.str k) j p) :: ks) (v :: vs) (k :: ss) (consM m r)
theorem Prs.pps {ks : List (Option Expr)} {vs : List Expr} {ss : List Str} {m : EM (List D)} (h : Prs X S W O pos ks vs ss m) : ∃ trs, PPs X pos ks vs trs ∧ ks.all (·.isSome) = true ∧ ks.length = vs.length ∧ ks.length = ss.length ∧
    ∀ (σ : L2.St) (H : Hp) (Z : Hp) (μ : List Addr) (ρ : Env1) (st : Store) (Q : List (V × V) → Hp → Prop), RepL X.K S O Z μ H σ ρ → Rep X.K S Z μ H st → Po X.K S W σ Z μ H (rDs X.K S) (m ρ st) (fun ys H' => Q (((ss.map kS).zip ys).map fun kv => (kV kv.1, kv.2)) H') → tPairs trs σ H Q := by
  induction h with
  | nil => exact ⟨[], pps_nil, rfl, rfl, rfl, fun σ H Z μ ρ st Q L R p => p [] Z μ H Stp.refl R rfl⟩
  | @cons k j p v ks vs ss m r hv hr ih =>
    obtain ⟨trs, h1, h2, h3, h4, h5⟩ := ih
    refine ⟨_, pps_cons pe_str hv h1, ?_, by rw [List.length_cons, List.length_cons, h3], by rw [List.length_cons, List.length_cons, h4], fun σ H Z μ ρ st Q L R p => ?_⟩
    · rw [List.all_cons, h2]; rfl
    · show tC (.str k) σ H _
      refine tG_bind L R p fun d x st1 Z1 μ1 H1 s1 L1 R1 i1 p1 => ?_
      refine h5 σ H1 Z1 μ1 ρ st1 _ L1 R1 ?_
      have p1 : Po X.K S W σ Z1 μ1 H1 (rDs X.K S) ((r ρ st1).bind fun ds st2 => .ok (d :: ds) st2) (fun ys H' => Q ((((k :: ss).map kS).zip ys).map fun kv => (kV kv.1, kv.2)) H') := p1
      cases e : r ρ st1 with
      | ok ds st2 =>
        rw [e] at p1
        exact fun ys Z2 μ2 H2 s2 R2 i2 => p1 (x :: ys) Z2 μ2 H2 s2 R2 (isDs_cons (s2.isD i1) i2)
      | exc c st2 => rw [e] at p1; exact p1
      | fail => rw [e] at p1; exact p1
theorem isKs_zip {K : Frg} {Z : Hp} {μ : List Addr} : ∀ {ks : List Key} {ds : List D} {vs : List V}, isDs K S Z μ ds vs → ks.length = ds.length → isKs K S Z μ (ks.zip ds) (ks.zip vs)
  | [], ds, vs, h, e => by rw [List.zip_nil_left, List.zip_nil_left]; exact rfl
  | k :: ks, [], vs, h, e => by cases e
  | k :: ks, d :: ds, vs, h, e => by
    obtain ⟨v, r, rfl, q, t⟩ := h
    exact ⟨v, ks.zip r, rfl, q, isKs_zip t (by simpa using e)⟩
theorem zip_fst {α β : Type} : ∀ {ks : List α} {vs : List β}, ks.length = vs.length → (ks.zip vs).map (·.1) = ks
  | [], vs, _ => by rw [List.zip_nil_left]; rfl
  | k :: ks, [], e => by cases e
  | k :: ks, v :: vs, e => by rw [List.zip_cons_cons, List.map_cons, zip_fst (by simpa using e)]
theorem nodup_map_str : ∀ {ks : List Str}, ks.Nodup → (ks.map kS).Nodup
  | [], _ => List.nodup_nil
  | k :: ks, h => by
    rw [List.nodup_cons] at h
    rw [List.map_cons, List.nodup_cons]
    refine ⟨fun z => ?_, nodup_map_str h.2⟩
    obtain ⟨j, hj, e⟩ := List.mem_map.mp z
    cases e
    exact h.1 hj
theorem s_dict {ks : List (Option Expr)} {vs : List Expr} {ss : List Str} {m : EM (List D)} (h : Prs X S W O pos ks vs ss m) (h0 : ks ≠ [] := by intro q; cases q) (h15 : ks.length ≤ 15 := by decide) : SE X S W O (.Dict ks vs pos) (dictM ss m) := by
  obtain ⟨trs, h1, h2, h3, h4, h5⟩ := h.pps
  refine pe_imp (pe_disp h1 h2 h3 h0 h15) fun σ H Q ⟨Z, μ, ρ, st, L, R, p⟩ => ?_
  intro a ha
  obtain ⟨s1, R1⟩ := R.lay (o := .dK []) ha
  have L1 := L.step s1
  unfold dictM at p
  refine h5 σ _ Z μ ρ st _ L1 R1 ?_
  have nz := R.nne ha
  cases e : m ρ st with
  | ok ds st1 =>
    rw [e] at p
    have p : Po X.K S W σ Z μ H (rD X.K S) (if ds.length = ss.length ∧ ss.Nodup ∧ ss.length ≤ 15 then Res.ok (D.ref st1.length) (st1 ++ [.dic ((ss.map kS).zip ds)]) else .fail) Q := p
    by_cases hc : ds.length = ss.length ∧ ss.Nodup ∧ ss.length ≤ 15
    · rw [if_pos hc] at p
      intro ys Z2 μ2 H2 s2 R2 i2
      have lz : ys.length = ss.length := by rw [isDs_len i2]; exact hc.1
      have e2 : H2 a = some (.dK []) := s2.fr a _ upd_same nz.2 (fun ps z => by cases z)
      refine ⟨e2, (ss.map kS).zip ys, rfl, ?_, ?_⟩
      · rw [List.length_zip, List.length_map, lz]
        omega
      · have em : mergeK [] ((ss.map kS).zip ys) = (ss.map kS).zip ys := by
          rw [mergeK_nil _ [] (by rw [List.nil_append, zip_fst (by rw [List.length_map, lz])]; exact nodup_map_str hc.2.1), List.nil_append]
        rw [em]
        have Zn : Z2 a = none := s2.zn a nz.1 (by rw [upd_same]; intro z; cases z)
        have mn : a ∉ μ2 := fun q => by
          rcases s2.mn a q with z | z
          · exact nz.2 z
          · rw [upd_same] at z
            cases z
        have s3 := s1.trans s2
        have ne : ∀ (b : Addr) (o : HO), H2 b = some o → o ≠ HO.dK [] → b ≠ a := fun b o q n z => by
          rw [z, e2] at q
          exact n (Option.some.inj q).symm
        obtain ⟨s4, R4⟩ : Stp Z μ H Z2 μ2 (upd H2 a (.dK ((ss.map kS).zip ys))) ∧ Rep X.K S Z2 μ2 (upd H2 a (.dK ((ss.map kS).zip ys))) st1 := by
          refine ⟨⟨s3.zz, s3.mm, fun b o q n t => ?_, fun b q => ?_, s3.zn, s3.mn⟩, ⟨fun b o q => ?_, R2.nt, R2.len, R2.nd, R2.zm, fun n b x q1 q2 => ?_, ?_⟩⟩
          · rw [upd_ne (ne_of_none q ha)]
            exact s3.fr b o q n t
          · by_cases hb : b = a
            · rw [hb, upd_same] at q
              cases q
            · rw [upd_ne hb] at q
              exact s3.th b q
          · rw [upd_ne (ne_of_none q Zn)]
            exact R2.le b o q
          · have hb : b ≠ a := fun z => mn (z ▸ List.mem_of_getElem? q1)
            have q := R2.ob n b x q1 q2
            cases x with
            | lst es =>
              obtain ⟨ys, q1, q2⟩ := q
              exact ⟨ys, by rw [upd_ne hb]; exact q1, q2⟩
            | dic es =>
              obtain ⟨ys, q1, q2⟩ := q
              exact ⟨ys, by rw [upd_ne hb]; exact q1, q2⟩
          · intro q hq
            obtain ⟨ps, t1, t2, t3⟩ := R2.tb q hq
            refine ⟨ps, by rw [upd_ne (ne _ _ t1 (fun z => by cases z))]; exact t1, t2, fun pos cv hcv => ?_⟩
            obtain ⟨c, u1, u2⟩ := t3 pos cv hcv
            exact ⟨c, u1, by rw [upd_ne (ne _ _ u2 (fun z => by unfold LamX.CodeO at z; cases z))]; exact u2⟩
        obtain ⟨s5, R5⟩ := Rep.alloc (m := .dic ((ss.map kS).zip ds)) s4 R4 ha Zn mn ⟨_, upd_same, isKs_zip i2 (by rw [List.length_map, hc.1])⟩
        exact p _ _ _ _ s5 R5 (isD_new R2.len)
    · rw [if_neg hc] at p
      exact p.elim
  | exc c st1 =>
    rw [e] at p
    exact fun Z2 μ2 H2 s2 R2 => p Z2 μ2 H2 (s1.trans s2) R2
  | fail =>
    rw [e] at p
    exact p.elim
end
end Sm
set_option Elab.async false
set_option linter.all false
set_option maxRecDepth 100000
set_option maxHeartbeats 4000000
set_option autoImplicit false
namespace Sm
open PySem PySem.Spec PyProof.Rows L2
section
variable {X : Cx} {S : Sta} {W : WX} {O : Or} {pos : Pos}
/-- what the class at C must say -/
structure ExcF (K : Frg) (C : Addr) : Prop where
  q : PySem.W.excIn K C He.veBase "ValueError.__new__" = true
  k : PySem.W.keepIn K (.ref C) = true
  b : PySem.W.subIn K (.ref C) (.type "BaseException") = some true
  t : PySem.W.typeIn K (.ref C) = some (.type "type")
def excS (c : Nat) : SM := fun ρ st => .exc c ρ st
theorem st_raise {x m : Str} {j c : Nat} {p p2 pos' : Pos} (tk : Takes X W) (F : ExcF X.K (He.ga X.K (S.cn c))) (hm : X.mg x = some (.ref (He.ga X.K (S.cn c)))) (hc : X.calm = true := by rfl) (hg : Gl X x := by rfl) (hdb : (x == ("__debug__" : Str)) = false := by decide) :
    SS X S W O (.Raise (some (.Call (.Name x p) [.Constant (.str m) j p2] [] pos')) none pos) (excS c) :=
  ps_imp (ps_raise hc tk (pmk_own PySem.F.excBase_ValueError F.q hm F.k (raises_own F.b F.t) hg hdb)) fun Dn σ H ⟨Z, μ, ρ, st, s, L, R, p⟩ => p σ Z μ H s L R
/-- a statement that is never come to -/
def failS : SM := fun _ _ => .fail
theorem st_never {e : Stmt} : SS X S W O e failS := ps_imp ps_never fun Dn σ H ⟨Z, μ, ρ, st, s, L, R, p⟩ => p.elim
theorem RepL.adr {K : Frg} {Z : Hp} {μ : List Addr} {H : Hp} {σ : L2.St} {ρ : Env1} (L : RepL K S O Z μ H σ ρ) {i : Nat} {a : Addr} : RepL K S O Z μ H (σ.set i (some (.ref a))) (ρ.set i (.adr a)) := by
  refine ⟨by rw [List.length_set, List.length_set]; exact L.len, fun j sl e => ?_, fun j k hn h1 h2 => ?_⟩
  · by_cases hj : i = j
    · subst hj
      by_cases hl : i < ρ.length
      · rw [List.getElem?_set_self hl] at e
        cases e
        show (σ.set i _)[i]? = _
        rw [List.getElem?_set_self (by rw [L.len]; exact hl)]
      · rw [List.getElem?_eq_none (by rw [List.length_set]; omega)] at e
        cases e
    · rw [List.getElem?_set_ne hj] at e ⊢
      exact L.ok j sl e
  · have no : ∀ k, isOwn (ρ.set i (.adr a))[k]? → i ≠ k ∧ isOwn ρ[k]? := fun k h => by
      by_cases hk : i = k
      · subst hk
        by_cases hl : i < ρ.length
        · rw [List.getElem?_set_self hl] at h; exact h.elim
        · rw [List.getElem?_eq_none (by rw [List.length_set]; omega)] at h; exact h.elim
      · rw [List.getElem?_set_ne hk] at h
        exact ⟨hk, h⟩
    obtain ⟨n1, o1⟩ := no j h1
    obtain ⟨n2, o2⟩ := no k h2
    rw [List.getElem?_set_ne n1, List.getElem?_set_ne n2]
    exact L.ap j k hn o1 o2
/-- the slot i goes behind the suite -/
def unS (i : Nat) : RS → RS
  | .nx ρ st => .nx (ρ.set i .un) st
  | .bk ρ st => .bk (ρ.set i .un) st
  | .ct ρ st => .ct (ρ.set i .un) st
  | .ret d st => .ret d st
  | _ => .fail
abbrev wNo : WX := fun _ _ _ _ => False
theorem pos_un {i : Nat} {r : RS} {Dn : Ends} (h : PoS X.K S W O (unS i r) Dn) : PoS X.K S wNo O r { nx := fun σ' H' => Dn.nx (σ'.set i none) H', rt := Dn.rt, bk := fun σ' H' => Dn.bk (σ'.set i none) H', ct := fun σ' H' => Dn.ct (σ'.set i none) H' } := by
  cases r with
  | nx ρ st => exact fun σ Z μ H s L R => h _ Z μ H s L.un R
  | bk ρ st => exact fun σ Z μ H s L R => h _ Z μ H s L.un R
  | ct ρ st => exact fun σ Z μ H s L R => h _ Z μ H s L.un R
  | ret d st => exact h
  | exc c ρ st => exact h.elim
  | fail => exact h.elim
/-- hx: which classes the clause takes; rs: what its suite then does -/
def tryS (i : Nat) (hx : Nat → Option Bool) (mb : SM) (rs : Nat → SM) : SM := fun ρ st => match mb ρ st with
  | .exc c ρ' st' => (match hx c with
    | some true => if i < ρ'.length then rs c ρ' st' else .fail
    | some false => .exc c ρ' st'
    | none => .fail)
  | r => r
theorem st_try (su : Addr → Nat → SM) {x n : Str} {C : Value} {i : Nat} {body suite : List Stmt} {b₀ : Stmt} {np pos' : Pos} {mb : SM} {hx : Nat → Option Bool} {rs : Nat → SM} (tk : Takes X W) (hN : X.N.Nodup) (hi : X.N[i]? = some n) (hc : Names X x C)
    (hm : ∀ c b, hx c = some b → PySem.W.exmOne X.K (.ref (He.ga X.K (S.cn c))) C = some b)
    (hb : ∀ (W : WX) (pn : List (Addr × Obj)) (xe : Value → Shared → Prop), Takes (X.tr pn xe) W → PassesOwn (model X.prog X.w) X.A X.env xe → SSs (X.tr pn xe) S W O body mb)
    (hsu : ∀ (c : Nat), hx c = some true → ∀ (a : Addr) (oe : Obj) (pn : List (Addr × Obj)), Zc (.ref (He.ga X.K (S.cn c))) none oe → (∃ vs, oe.data = .fields vs) → SSs (X.suite a ((a, oe) :: pn)) S wNo O (b₀ :: suite) (su a c))
    (hrs : ∀ (a : Addr) (c : Nat) (ρ : Env1) (st : Store), hx c = some true → i < ρ.length → unS i (su a c (ρ.set i (.adr a)) st) = rs c ρ st)
    (hs : X.stack = X.env :: X.outer := by rfl) (hf : X.env.frame = some X.env.locals := by rfl) (hln : X.env.kindOf n = some .local := by rfl) :
    SS X S W O (.Try body [.ExceptHandler (some (.Name x np)) (some n) (b₀ :: suite) pos'] [] [] pos) (tryS i hx mb rs) := by
  refine ps_imp (ps_try_as (ts := fun a cls d Dn σ H => ∃ c, cls = .ref (He.ga X.K (S.cn c)) ∧ d = none ∧ hx c = some true ∧ tS X S wNo O (su a c) Dn σ H) (tb := fun W => tS X S W O mb) hs hf hN hi hln hc tk hb fun a oe cls d pn hz hv => ?_) fun Dn σ H ⟨Z, μ, ρ, st, s, L, R, p⟩ => ?_
  · refine ⟨fun pins s σ H Dn I ⟨c, e1, e2, e3, q⟩ => ?_⟩
    subst e1 e2
    exact (hsu c e3 a oe pn hz hv).run pins s σ H Dn I q
  · refine ⟨Z, μ, ρ, st, s, L, R, ?_⟩
    unfold tryS at p
    cases e : mb ρ st with
    | exc c ρ' st' =>
      rw [e] at p
      have p : PoS X.K S W O (match hx c with
        | some true => if i < ρ'.length then rs c ρ' st' else .fail
        | some false => .exc c ρ' st'
        | none => .fail) Dn := p
      intro σ1 Z1 μ1 H1 s1 L1 R1
      cases e2 : hx c with
      | none => rw [e2] at p; exact p.elim
      | some b =>
        rw [e2] at p
        refine ⟨b, hm c b e2, fun hbt a ha => ?_, fun hbf => ?_⟩
        · subst hbt
          have p : PoS X.K S W O (if i < ρ'.length then rs c ρ' st' else .fail) Dn := p
          by_cases hl : i < ρ'.length
          · rw [if_pos hl] at p
            refine ⟨c, rfl, rfl, e2, Z1, μ1, ρ'.set i (.adr a), st', s1, L1.adr, R1, ?_⟩
            exact pos_un (i := i) (by rw [hrs a c ρ' st' e2 hl]; exact p)
          · rw [if_neg hl] at p
            exact p.elim
        · subst hbf
          exact p σ1 Z1 μ1 H1 s1 L1 R1
    | nx ρ' st' => rw [e] at p; exact p
    | bk ρ' st' => rw [e] at p; exact p
    | ct ρ' st' => rw [e] at p; exact p
    | ret d st' => rw [e] at p; exact p
    | fail => rw [e] at p; exact p
/-- isinstance(e, P) in the suite, e the exception, of the class c -/
def isEM (a : Addr) (i : Nat) (b : Bool) : EM D := fun ρ st => match ρ[i]? with
  | some (.adr a') => if a' = a then .ok (.bl b) st else .fail
  | _ => .fail
theorem s_isE {y P : Str} {a : Addr} {oe : Obj} {pn : List (Addr × Obj)} {i c : Nat} {b : Bool} {C : Addr} {p1 p2 p3 p4 : Pos} (hz : Zc (.ref (He.ga X.K (S.cn c))) none oe) (hf : ∃ vs, oe.data = .fields vs) (F : ExcC X.K (He.ga X.K (S.cn c))) (hk : PySem.W.kitOne X.K (.ref (He.ga X.K (S.cn c))) (.ref C) = some b)
    (hN : X.N[i]? = some y) (hm : X.mg "isinstance" = none) (hP : X.mg P = some (.ref C)) (hv : Vis X.env.scope y := by first | exact Or.inl rfl | exact Or.inr (Or.inl rfl) | exact Or.inr (Or.inr rfl)) (hg : Gl X "isinstance" := by rfl) (hg2 : Gl X P := by rfl)
    (hd : (y == ("__debug__" : Str)) = false := by decide) (hcd : (y == ("__classdict__" : Str)) = false := by decide) (hd2 : (P == ("__debug__" : Str)) = false := by decide) :
    SE (X.suite a ((a, oe) :: pn)) S W O (.Call (.Name "isinstance" p1) [.Name y p2, .Name P p3] [] p4) (isEM a i b) := by
  refine pe_imp (pe_callB (X := X.suite a ((a, oe) :: pn)) (call_isE F hz hf) hg hm rfl (pa_cons (pe_var (X := X.suite a ((a, oe) :: pn)) hN hv hd hcd) (pa_cons (pe_glob (v := .ref C) (X := X.suite a ((a, oe) :: pn)) hg2 hP rfl hd2) pa_nil)) (by decide) (by decide) rfl rfl) fun σ H Q ⟨Z, μ, ρ, st, L, R, p⟩ => ?_
  unfold isEM at p
  split at p
  · rename_i a' h
    split at p
    · rename_i e
      subst e
      refine ⟨.ref a', L.ok i _ h, ?_⟩
      exact ⟨.ref C, .ref C, b, rfl, fun u z => z, hk, p _ Z μ H Stp.refl R rfl⟩
    · exact p.elim
  · exact p.elim
end
end Sm
set_option Elab.async false
set_option linter.all false
set_option maxRecDepth 100000
set_option maxHeartbeats 4000000
set_option autoImplicit false
namespace Sm
open PySem PySem.Spec PyProof.Rows L2
section
variable {X : Cx} {S : Sta} {W : WX} {O : Or} {pins : List (Addr × Obj)} {σ : L2.St} {Z : Hp} {μ : List Addr} {H : Hp} {st : Store} {s : Shared}
theorem codeO_lst {c : Addr} {q : Str} (xs : List V) : LamX.CodeO c q ≠ .lst xs := fun z => by
  unfold LamX.CodeO at z
  cases z
theorem codeO_dK {c : Addr} {q : Str} (xs : List (Key × V)) : LamX.CodeO c q ≠ .dK xs := fun z => by
  unfold LamX.CodeO at z
  cases z
theorem Rep.notMu (R : Rep X.K S Z μ H st) {a : Addr} {o : HO} (h : H a = some o) (h1 : ∀ xs, o ≠ .lst xs) (h2 : ∀ xs, o ≠ .dK xs) : a ∉ μ := fun ha => by
  obtain ⟨n, hn⟩ := List.getElem?_of_mem ha
  have hl : n < st.length := by rw [← R.len]; exact (List.getElem?_eq_some_iff.mp hn).1
  have q := R.ob n a _ hn (List.getElem?_eq_getElem hl)
  cases hm : st[n] with
  | lst ds =>
    rw [hm] at q
    obtain ⟨xs, q, _⟩ := q
    rw [h] at q
    exact h1 _ (Option.some.inj q)
  | dic kvs =>
    rw [hm] at q
    obtain ⟨xs, q, _⟩ := q
    rw [h] at q
    exact h2 _ (Option.some.inj q)
/-- a lambda, made: what is known then -/
structure Lamd (X : Cx) (S : Sta) (pins : List (Addr × Obj)) (σ : L2.St) (Z : Hp) (μ : List Addr) (H : Hp) (st : Store) (params : Arguments) (body : Expr) (scope : Scope) (f c' : Addr) (pm ctv : Value) (H1 : Hp) (s' : Shared) : Prop where
  I : Inv X pins σ H1 s'
  s : Stp Z μ H Z μ H1
  R : Rep X.K S Z μ H1 st
  hf : s'.heap.get? f = some (PySem.W.kla_obj "<lambda>" (X.env.qual ++ "<lambda>") params body scope (cloFrom X.env.cells scope.names []) pm c' ctv)
  hn : H1 f = none
  fr : f ∉ frs X.stack
  co : H1 c' = some (LamX.CodeO c' (X.env.qual ++ "<lambda>"))
theorem lam_made {c P : Addr} {params : Arguments} {body : Expr} {scope : Scope} {pos : Pos} {E : Value → Shared → Prop} {Q : Value → Shared → Prop} (I : Inv X pins σ H s) (R : Rep X.K S Z μ H st) (TB : LamX.TabB X.base X.mg c P) (hcode : X.env.code = .ref c)
    (hm : (P, X.env.qual ++ "<lambda>") ∈ S.T) (hu : ∀ p ∈ S.T, p.1 = P → p.2 = X.env.qual ++ "<lambda>") (hdef : defaultsOf params X.env = ([], [])) (hfree : ∀ y ∈ scope.names, y.2 = .free → ∃ c, X.env.cells.lookup y.1 = some c)
    (h : ∀ (f c' : Addr) (pm ctv : Value) (H1 : Hp) (s' : Shared), Lamd X S pins σ Z μ H st params body scope f c' pm ctv H1 s' → Q (.ref f) s') : wpAny (model X.prog X.w) X.A (eval (.Lambda params body scope pos) X.env) Q E s := by
  obtain ⟨ps, hP, ht, ha⟩ := R.tb _ hm
  have nofr : ∀ f, s.heap.objs.size ≤ f → f ∉ frs X.stack := fun f hf z => by
    rcases List.mem_cons.mp (I.stkSub _ z) with e | e
    · exact Nat.lt_irrefl _ (Nat.lt_of_lt_of_le (e ▸ I.lt) hf)
    · exact I.nofs hf e
  have hP' := I.hok P _ hP
  have bP := TB.bm.keeps I.bk
  refine PySem.W.kla_eval hdef ?_
  cases hc : codeAmong pos ps.toList with
  | some cv =>
    obtain ⟨c', e, hco⟩ := ha pos cv hc
    subst e
    refine PySem.W.kla_makeFunctionHit (mg := X.mg) (c := c) (P := P) (ps := ps) (closure_ok hfree) I.ok.glob (I.mod.glob.keeps I.bk) hcode (TB.code.keeps I.bk) hP' ht hc bP fun ctv h' tk hx hsz => ?_
    exact h h'.objs.size c' ((X.mg "__name__").getD .none) ctv H _ ⟨I.kept fun b o e => Heap.get?_push_of_some _ (hx b o e), Stp.refl, R, Heap.get?_push_size _ rfl, I.hok.fresh hsz, nofr _ hsz, hco⟩
  | none =>
    refine PySem.W.kla_makeFunction (mg := X.mg) (c := c) (P := P) (ps := ps) (closure_ok hfree) I.ok.glob (I.mod.glob.keeps I.bk) hcode (TB.code.keeps I.bk) hP' ht hc TB.gP bP fun c' ctv h' tk hx hge hlt hrec htb => ?_
    obtain ⟨c2, oc, vs, t, e2, hoc, hd, hv⟩ := hrec
    cases e2
    have hsz : s.heap.objs.size ≤ h'.objs.size := Nat.le_trans hge (Nat.le_of_lt hlt)
    have nC : H c' = none := I.hok.fresh hge
    have nPc : P ≠ c' := ne_of_none hP nC
    have I1 := LamX.inv_table (t' := tk) (more := #[rawInt pos.line, rawInt pos.col, .ref c']) (h' := h'.push (PySem.W.kla_obj "<lambda>" (X.env.qual ++ "<lambda>") params body scope (cloFrom X.env.cells scope.names []) ((X.mg "__name__").getD .none) c' ctv)) I hP
      (fun b o hb e => Heap.get?_push_of_some _ (hx b o hb e)) (Heap.get?_push_of_some _ htb) hge ⟨oc, vs, t, Heap.get?_push_of_some _ hoc, hd, hv⟩
    have eL : (ps ++ #[rawInt pos.line, rawInt pos.col, .ref c']).toList = ps.toList ++ [rawInt pos.line, rawInt pos.col, .ref c'] := by simp
    have old : ∀ (b : Addr) (o : HO), H b = some o → (∀ qs, o ≠ .tbl qs) → upd (upd H P (.tbl (ps ++ #[rawInt pos.line, rawInt pos.col, .ref c']))) c' (LamX.CodeO c' (X.env.qual ++ "<lambda>")) b = some o := fun b o e n => by
      have hb : b ≠ P := fun z => by
        rw [z, hP] at e
        exact n ps (Option.some.inj e).symm
      rw [upd_ne (ne_of_none e nC), upd_ne hb]
      exact e
    have n1 : h'.objs.size ≠ c' := Nat.ne_of_gt hlt
    have n2 : h'.objs.size ≠ P := Nat.ne_of_gt (Nat.lt_of_lt_of_le (Heap.lt_size hP') hsz)
    have sZ : ∀ b o, Z b = some o → upd (upd H P (.tbl (ps ++ #[rawInt pos.line, rawInt pos.col, .ref c']))) c' (LamX.CodeO c' (X.env.qual ++ "<lambda>")) b = some o := fun b o e => old b o (R.le b o e) fun qs z => R.nt b qs (z ▸ e)
    refine h h'.objs.size c' ((X.mg "__name__").getD .none) ctv _ _ ⟨I1, ⟨fun _ _ z => z, ⟨[], by simp⟩, fun b o e _ n => old b o e n, fun b e => ?_, fun _ z _ => z, fun _ z => .inl z⟩, ⟨sZ, R.nt, R.len, R.nd, R.zm, fun n b x e1 e2 => ?_, fun p hp => ?_⟩, Heap.get?_push_size _ rfl, ?_, nofr _ hsz, upd_same⟩
    · have b1 : b ≠ c' := fun z => by rw [z, upd_same] at e; cases e
      rw [upd_ne b1] at e
      have b2 : b ≠ P := fun z => by rw [z, upd_same] at e; cases e
      rw [upd_ne b2] at e
      exact e
    · have q := R.ob n b x e1 e2
      cases x with
      | lst es =>
        obtain ⟨ys, q1, q2⟩ := q
        exact ⟨ys, old b _ q1 (fun qs z => by cases z), q2⟩
      | dic es =>
        obtain ⟨ys, q1, q2⟩ := q
        exact ⟨ys, old b _ q1 (fun qs z => by cases z), q2⟩
    · by_cases hb : p.1 = P
      · rw [hu p hp hb, hb]
        refine ⟨_, by rw [upd_ne nPc, upd_same], by rw [eL]; exact PySem.TriplesOk_snoc _ _ _ _ ht, fun p' cv hcv => ?_⟩
        rw [eL] at hcv
        rcases LamX.among_app _ ht hcv with z | z
        · obtain ⟨c0, u1, u2⟩ := ha p' cv z
          exact ⟨c0, u1, old _ _ u2 LamX.codeO_ne⟩
        · exact ⟨c', z, upd_same⟩
      · obtain ⟨qs, a1, a2, a3⟩ := R.tb p hp
        refine ⟨qs, by rw [upd_ne (ne_of_none a1 nC), upd_ne hb]; exact a1, a2, fun p' cv hcv => ?_⟩
        obtain ⟨c0, u1, u2⟩ := a3 p' cv hcv
        exact ⟨c0, u1, old _ _ u2 LamX.codeO_ne⟩
    · rw [upd_ne n1, upd_ne n2]
      exact I.hok.fresh hsz
/-- call(), t what the lambda does -/
def lamAct (t : Store → Res D) : EM D := fun ρ st => match ρ[(0 : Nat)]? with
  | some .lam => t st
  | _ => .fail
/-- x(lambda: body); bm: what x's body does with it -/
def lamM (n : Nat) (bm : (Store → Res D) → SM) (t : EM D) : EM D := fun ρ st => fin (bm (fun st' => t ρ st') (Sl.lam :: List.replicate (n - 1) Sl.un) st)
theorem takes_lam {A : Around} {outer : List Env} {E : XK} {scope : Scope} {f c' : Addr} : Takes (LamX.lamCx X A outer s H E scope f c') (wD E) := takes_of (E := E) rfl rfl rfl rfl
theorem s_lam {x a : Str} {g c P : Addr} {k : Nat} {pg : Arguments} {bg : List Stmt} {sg : Scope} {dV kV doc pm cdv ct oc : Value} {an od : Option Addr} {osl : Array (Option Value)} {Ng : List Str} {params : Arguments} {body : Expr} {scope : Scope} {t : EM D} {bm : (Store → Res D) → SM} {p lpos pos : Pos}
    (tk : Takes X W) (hm : X.mg x = some (.ref g)) (hk : PySem.W.keepIn X.K (.ref g) = true) (lk : X.K.lookup g = some ⟨oc, od, .func (PySem.W.fnOf x x pg bg sg dV kV doc pm an cdv ct), osl⟩) (hcg : PySem.W.codeIn X.K cdv x = true) (hb : L2.Binds X.K (PySem.W.fnOf x x pg bg sg dV kV doc pm an cdv ct) [a] []) (Sg : FnScope Ng [a] sg) (hNg : Ng[0]? = some a) (hva : Vis sg a)
    (hG : ∀ (A : Around) (outer : List Env) (s : Shared) (H : Hp) (E : XK) (O : Or) (t : Store → Res D), Room (k + 1) (A.deeper (envOfC x sg s.heap.objs.size g cdv)) → A.guards = some [] →
      (∀ (W : WX) (pn : List (Addr × Obj)) (xe : Value → Shared → Prop) (p1 p2 : Pos), Takes ((cxOf (L2.CX X.prog X.w) X.prog X.w X.K X.mg X.base Ng x sg g cdv A outer s H E).tr pn xe) W → SE ((cxOf (L2.CX X.prog X.w) X.prog X.w X.K X.mg X.base Ng x sg g cdv A outer s H E).tr pn xe) S W O (.Call (.Name a p1) [] [] p2) (lamAct t)) →
      SSs (cxOf (L2.CX X.prog X.w) X.prog X.w X.K X.mg X.base Ng x sg g cdv A outer s H E) S (wD E) O bg (bm t))
    (TB : LamX.TabB X.base X.mg c P) (hcode : X.env.code = .ref c) (hmT : (P, X.env.qual ++ "<lambda>") ∈ S.T) (hu : ∀ p ∈ S.T, p.1 = P → p.2 = X.env.qual ++ "<lambda>") (hr : Room (k + 2) X.A) (hgd : X.A.guards = some []) (L : LamX.LamS X.env.scope scope)
    (hbody : ∀ (A : Around) (outer : List Env) (s : Shared) (H : Hp) (E : XK) (f c' : Addr) (O : Or), Room k (A.deeper (LamX.lamEnv X scope s.heap.objs.size f c')) → A.guards = some [] → Takes (LamX.lamCx X A outer s H E scope f c') (wD E) → SE (LamX.lamCx X A outer s H E scope f c') S (wD E) O body t)
    (hg : Gl X x := by rfl) (hdef : defaultsOf params X.env = ([], []) := by rfl) (hbind : ∀ (q : Str) (cl : List (Str × Addr)) (pm cv ctv : Value), bindArgs (PySem.W.kla_fn "<lambda>" q params body scope cl pm cv ctv) ⟨[], []⟩ = pure [] := by intros; rfl)
    (hdb : (x == ("__debug__" : Str)) = false := by decide) (hd : (a == ("__debug__" : Str)) = false := by decide) (hcd : (a == ("__classdict__" : Str)) = false := by decide) :
    SE X S W O (.Call (.Name x p) [.Lambda params body scope lpos] [] pos) (lamM Ng.length bm t) := by
  refine ⟨fun pins s σ H Q I ⟨Z, μ, ρ, st, L0, R, pp⟩ => ?_⟩
  refine wpAny_Call_Name_kw (ld_glob I hg hm ?_ hdb)
  refine PySem.W.callWith_K (h₀ := X.base) I.ok.mod.kin hk ?_ (by rfl) (by rfl)
  show wpAny _ _ (spliced ((false, eval (.Lambda params body scope lpos) X.env) :: backTo pos (starEach [] X.env))) _ _ s
  refine Calls.spliced_cons (lam_made I R TB hcode hmT hu hdef (L.has I.ok) fun f c' pm' ctv H1 s' D => ?_)
  refine Calls.spliced_nil ⟨D.I.kIn, ?_⟩
  have L1 := L0.step D.s
  have cM : c' ∉ μ := D.R.notMu D.co codeO_lst codeO_dK
  -- the promise of x
  have rc : codeAny (model X.prog X.w) X.A (.call (.ref g) ⟨[.ref f], []⟩) (CR (L2.CX X.prog X.w) X.stack X.prog X.w H1 s' Q (WE W σ)) s' := by
    refine LamX.run_ofS (k := k + 1) (N := Ng) (ps := [a]) (us := [.ref f]) (vs := [.ref f]) lk hcg Sg hr D.I.env0 (hb s' [.ref f] D.I.kIn rfl) (.cons rfl .nil) rfl fun hr' => ?_
    refine ⟨_, hG X.A X.stack s' H1 (WE W σ) ⟨Z, μ, H1, f⟩ (fun st' => t ρ st') hr' hgd ?_, ?_⟩
    · -- call()
      intro W' pn xe p1 p2 tk'
      refine ⟨fun pinsZ sZ σZ HZ Q' IZ ⟨Zz, μz, ρz, stz, Lz, Rz, pz⟩ => ?_⟩
      unfold lamAct at pz
      cases e0 : ρz[(0 : Nat)]? with
      | none => rw [e0] at pz; exact pz.elim
      | some sl =>
        rw [e0] at pz
        cases sl with
        | lam =>
          have pz : Po X.K S W' σZ Zz μz HZ (rD X.K S) (t ρ stz) Q' := pz
          obtain ⟨q0, q1⟩ := Lz.ok 0 _ e0
          have q0 : σZ[(0 : Nat)]? = some (some (.ref f)) := q0
          have q1 : Stp Z μ H1 Zz μz HZ := q1
          refine wpAny_Call_Name_kw (thn ((pe_var (X := (cxOf (L2.CX X.prog X.w) X.prog X.w X.K X.mg X.base Ng x sg g cdv X.A X.stack s' H1 (WE W σ)).tr pn xe) (pos := p1) (i := 0) hNg hva hd hcd).run pinsZ sZ σZ HZ (fun v H2 => v = .ref f ∧ H2 = HZ) IZ ⟨.ref f, q0, rfl, rfl⟩) fun u s1 ⟨v, H2, I1, r1, ev, eH⟩ => ?_)
          subst ev eH
          obtain rfl : u = Value.ref f := r1
          have of1 : s1.heap.get? f = some (PySem.W.kla_obj "<lambda>" (X.env.qual ++ "<lambda>") params body scope (cloFrom X.env.cells scope.names []) pm' c' ctv) := I1.base.keep f _ D.hf D.hn D.fr (fun z => nomatch (show f ∈ ([] : List Addr) from z))
          refine PySem.W.callWith_F0 ⟨_, _, _, _, of1⟩ ?_
          have un : Un (frs X.stack) [] H1 H2 s'.heap s1.heap := I1.base
          have hcz : H2 c' = some (LamX.CodeO c' (X.env.qual ++ "<lambda>")) := q1.fr c' _ D.co cM LamX.codeO_ne
          obtain ⟨⟨oc', vs, tt, hoc, hdc, hvc⟩, _, _⟩ := I1.hok c' _ hcz
          have rc2 : codeAny (model X.prog X.w) (X.A.deeper (envOfC x sg s'.heap.objs.size g cdv)) (.call (.ref f) ⟨[], []⟩) (CR (L2.CX X.prog X.w) (envOfC x sg s'.heap.objs.size g cdv :: X.stack) X.prog X.w H2 s1 Q' (WE W' σZ)) s1 := by
            refine PySem.W.kla_callFunE hr'.depth of1 rfl L.co L.gen rfl ⟨c', oc', vs, tt, rfl, hoc, hdc, hvc⟩ ?_
            rw [hbind]
            refine wpAny_pure (wpAny_newFunctionEnv (fun y hy => (L.own y hy).2) (fun y hy => absurd hy (by simp)) (fun h₁ hns hsb => ⟨I1.nolimit.fresh _ hsb, ?_⟩) L.kind)
            show codeAny _ _ (.expr body (LamX.lamEnv X scope s1.heap.objs.size f c')) _ _
            have kp : ∀ b o, s1.heap.get? b = some o → h₁.get? b = some o := fun b o e => hsb.extBut b o (Nat.ne_of_lt (Heap.lt_size e)) (Heap.get?_push_of_some _ e)
            have J := LamX.lam_start2 (E := WE W' σZ) (f := f) (c' := c') (tk := s1.toks + ([] : List (Str × Value)).length) D.I L I1.env0 hr'.hd un hns kp
            refine PySem.W.kla_codeExpr (wpAny_mono ((hbody _ _ s1 H2 (WE W' σZ) f c' O (hr'.deeper _) hgd takes_lam).run [] _ _ H2 Q' J ⟨Zz, μz, ρ, stz, L1.step q1, Rz, ?_⟩) (fun v s2 hq => ?_) fun e s2 hq => hq)
            · show Po X.K S (wD (WE W' σZ)) σ Zz μz H2 (rD X.K S) (t ρ stz) Q'
              cases e : t ρ stz with
              | ok d st' => rw [e] at pz; exact pz
              | exc c st' => rw [e] at pz; exact pz
              | fail => rw [e] at pz; exact pz
            · obtain ⟨w', H', J', rv, q⟩ := hq
              exact ⟨w', H', J'.os, J'.bare, J'.base, J'.hok, rv, q⟩
          refine wpAny_call (codeAny_mono rc2 fun r s2 hq => ?_)
          cases r with
          | error e => exact passAt tk' σZ pinsZ H2 s1 e s2 I1 hq
          | ok fl =>
            cases fl with
            | ret u => exact I1.after hq
            | next => exact hq.elim
            | brk => exact hq.elim
            | cont => exact hq.elim
        | _ => exact pz.elim
    · refine ⟨Z, μ, Sl.lam :: List.replicate (Ng.length - 1) Sl.un, st, Stp.refl, ?_, D.R, ?_⟩
      · have hNl : Ng ≠ [] := fun z => by rw [z] at hNg; cases hNg
        refine ⟨?_, fun i sl e => ?_, fun i j hn h1 h2 => ?_⟩
        · unfold L2.start
          simp
        · cases i with
          | zero => cases e; exact ⟨rfl, Stp.refl⟩
          | succ i =>
            rw [List.getElem?_cons_succ, List.getElem?_replicate] at e
            split at e
            · cases e; exact True.intro
            · cases e
        · cases i with
          | zero => exact h1.elim
          | succ i =>
            rw [List.getElem?_cons_succ, List.getElem?_replicate] at h1
            split at h1
            · exact h1.elim
            · exact h1.elim
      · have pp : Po X.K S W σ Z μ H (rD X.K S) (fin (bm (fun st' => t ρ st') (Sl.lam :: List.replicate (Ng.length - 1) Sl.un) st)) Q := pp
        show PoS X.K S (wD (WE W σ)) ⟨Z, μ, H1, f⟩ (bm (fun st' => t ρ st') (Sl.lam :: List.replicate (Ng.length - 1) Sl.un) st) _
        cases e : bm (fun st' => t ρ st') (Sl.lam :: List.replicate (Ng.length - 1) Sl.un) st with
        | nx ρ' st' =>
          rw [e] at pp
          exact fun σ' Z' μ' H' s'' _ R' => pp .non Z' μ' H' (D.s.trans s'') R' rfl
        | ret d st' =>
          rw [e] at pp
          exact fun v Z' μ' H' s'' R' q => pp v Z' μ' H' (D.s.trans s'') R' q
        | exc c ρ' st' =>
          rw [e] at pp
          exact fun σ' Z' μ' H' s'' _ R' => pp Z' μ' H' (D.s.trans s'') R'
        | bk ρ' st' => rw [e] at pp; exact pp.elim
        | ct ρ' st' => rw [e] at pp; exact pp.elim
        | fail => rw [e] at pp; exact pp.elim
  refine wpAny_call (codeAny_mono rc fun r s2 hq => ?_)
  cases r with
  | error e => exact passAt tk σ pins H1 s' e s2 D.I hq
  | ok fl =>
    cases fl with
    | ret u => exact D.I.after hq
    | next => exact hq.elim
    | brk => exact hq.elim
    | cont => exact hq.elim
/-- the same, x by what is known of its def -/
theorem s_lamF (k : Nat) {x a : Str} {g c P : Addr} {pg : Arguments} {bg : List Stmt} {sg : Scope} {fdh : FuncData} {Ng : List Str} {params : Arguments} {body : Expr} {scope : Scope} {t : EM D} {bm : (Store → Res D) → SM} {p lpos pos : Pos}
    (Fh : FunD X.K x x pg bg sg [] [] g fdh) (tk : Takes X W) (hm : X.mg x = some (.ref g)) (hb : PosB X.K fdh [a]) (Sg : FnScope Ng [a] sg) (hNg : Ng[0]? = some a) (hva : Vis sg a)
    (hG : ∀ (A : Around) (outer : List Env) (s : Shared) (H : Hp) (E : XK) (O : Or) (t : Store → Res D), Room (k + 1) (A.deeper (envOfC x sg s.heap.objs.size g fdh.code)) → A.guards = some [] →
      (∀ (W : WX) (pn : List (Addr × Obj)) (xe : Value → Shared → Prop) (p1 p2 : Pos), Takes ((cxOf (L2.CX X.prog X.w) X.prog X.w X.K X.mg X.base Ng x sg g fdh.code A outer s H E).tr pn xe) W → SE ((cxOf (L2.CX X.prog X.w) X.prog X.w X.K X.mg X.base Ng x sg g fdh.code A outer s H E).tr pn xe) S W O (.Call (.Name a p1) [] [] p2) (lamAct t)) →
      SSs (cxOf (L2.CX X.prog X.w) X.prog X.w X.K X.mg X.base Ng x sg g fdh.code A outer s H E) S (wD E) O bg (bm t))
    (TB : LamX.TabB X.base X.mg c P) (hcode : X.env.code = .ref c) (hmT : (P, X.env.qual ++ "<lambda>") ∈ S.T) (hu : ∀ p ∈ S.T, p.1 = P → p.2 = X.env.qual ++ "<lambda>") (hr : Room (k + 2) X.A) (hgd : X.A.guards = some []) (L : LamX.LamS X.env.scope scope)
    (hbody : ∀ (A : Around) (outer : List Env) (s : Shared) (H : Hp) (E : XK) (f c' : Addr) (O : Or), Room k (A.deeper (LamX.lamEnv X scope s.heap.objs.size f c')) → A.guards = some [] → Takes (LamX.lamCx X A outer s H E scope f c') (wD E) → SE (LamX.lamCx X A outer s H E scope f c') S (wD E) O body t)
    (hg : Gl X x := by rfl) (hdef : defaultsOf params X.env = ([], []) := by rfl) (hbind : ∀ (q : Str) (cl : List (Str × Addr)) (pm cv ctv : Value), bindArgs (PySem.W.kla_fn "<lambda>" q params body scope cl pm cv ctv) ⟨[], []⟩ = pure [] := by intros; rfl)
    (hdb : (x == ("__debug__" : Str)) = false := by decide) (hd : (a == ("__debug__" : Str)) = false := by decide) (hcd : (a == ("__classdict__" : Str)) = false := by decide) :
    SE X S W O (.Call (.Name x p) [.Lambda params body scope lpos] [] pos) (lamM Ng.length bm t) := by
  have hk := Fh.kp
  obtain ⟨oc, od, dV, kV, doc, pm, an, cdv, ct, osl, rfl, lk, hcode2, hD, hK⟩ := Fh.ex
  exact s_lam tk hm hk lk hcode2 hb Sg hNg hva hG TB hcode hmT hu hr hgd L hbody hg hdef hbind hdb hd hcd
end
end Sm
set_option Elab.async false
set_option linter.all false
set_option maxRecDepth 100000
set_option maxHeartbeats 4000000
set_option autoImplicit false
namespace Sm
open PySem PySem.Spec PyProof.Rows L2
section
variable {K : Frg} {S : Sta} {x qual : Str} {params : Arguments} {body : List Stmt} {scope : Scope} {dvs : List V} {kws : List (Str × V)} {f : Addr} {fd : FuncData} {ps ks : List Str} {n : Nat}
/-- the parameters' data: the j-th of all that is given -/
def pick (idx : List Nat) (l : List D) : List D := idx.map fun j => l.getD j .non
theorem vals_pick {vs : List V} {us : List Value} (r : Vals vs us) : ∀ {idx : List Nat}, (∀ j ∈ idx, j < vs.length) → Vals (idx.map fun j => vs.getD j .non) (idx.map fun j => us.getD j .none)
  | [], _ => .nil
  | j :: idx, h => by
    have hj := h j List.mem_cons_self
    obtain ⟨u, hu, ru⟩ := r.get (List.getElem?_eq_getElem hj)
    refine .cons ?_ (vals_pick r fun i hi => h i (List.mem_cons_of_mem _ hi))
    show L2.RelV (vs.getD j .non) (us.getD j .none)
    rw [List.getD_eq_getElem?_getD, List.getD_eq_getElem?_getD, List.getElem?_eq_getElem hj, hu]
    exact ru
theorem isDs_pick {Z : Hp} {μ : List Addr} {ds : List D} {vs : List V} (r : isDs K S Z μ ds vs) : ∀ {idx : List Nat}, (∀ j ∈ idx, j < ds.length) → isDs K S Z μ (pick idx ds) (idx.map fun j => vs.getD j .non)
  | [], _ => rfl
  | j :: idx, h => by
    have hj := h j List.mem_cons_self
    obtain ⟨v, hv, q⟩ := isDs_get r (List.getElem?_eq_getElem hj)
    refine ⟨_, _, rfl, ?_, isDs_pick r fun i hi => h i (List.mem_cons_of_mem _ hi)⟩
    show isD K S Z μ (ds.getD j .non) (vs.getD j .non)
    rw [List.getD_eq_getElem?_getD, List.getD_eq_getElem?_getD, List.getElem?_eq_getElem hj, hv]
    exact q
/-- a def without defaults, n places and the keywords ks -/
theorem Bnd.kw (F : FunD K x qual params body scope [] [] f fd) (idx : List Nat)
    (h : ∀ (kV doc pm : Value) (an : Option Addr) (cdv ct : Value) (us ws : List Value), us.length = n → ws.length = ks.length → bindArgs (PySem.W.fnOf x qual params body scope .none kV doc pm an cdv ct) ⟨us, ks.zip ws⟩ = pure (ps.zip (idx.map fun j => (us ++ ws).getD j .none)))
    (hl : idx.length = ps.length := by rfl) (hi : ∀ j ∈ idx, j < n + ks.length := by decide) : Bnd K S fd ps n ks (fun ds es => pick idx (ds ++ es)) := by
  obtain ⟨oc, od, dV, kV, doc, pm, an, cdv, ct, osl, rfl, lk, hcd, hD, hK⟩ := F.ex
  rcases hD with ⟨_, rfl⟩ | ⟨e, _⟩
  · refine ⟨fun s us ws vs zs ds es Z μ X r1 r2 h1 h2 h3 h4 => ?_⟩
    have l1 : vs.length = n := by rw [isDs_len h1, h3]
    have l2 : zs.length = ks.length := by rw [isDs_len h2, h4]
    have hv : ∀ j ∈ idx, j < (vs ++ zs).length := fun j hj => by rw [List.length_append, l1, l2]; exact hi j hj
    refine ⟨idx.map fun j => (us ++ ws).getD j .none, idx.map fun j => (vs ++ zs).getD j .non, ?_, vals_pick (r1.append r2) hv, isDs_pick (isDs_app h1 h2) (fun j hj => by rw [List.length_append, h3, h4]; exact hi j hj), by unfold pick; rw [List.length_map]; exact hl⟩
    exact BindsTo.of_eq (h kV doc pm an cdv ct us ws (by rw [← r1.length]; exact l1) (by rw [← r2.length]; exact l2))
  · exact absurd rfl e
/-- defaults fill up -/
theorem Bnd.dfl {dd : List D} {vs : List V} {m : Nat} (hb : ∃ ds, Vals vs ds ∧ L2.Binds K fd ps ds) (hV : ∀ (Z : Hp) (μ : List Addr), isDs K S Z μ dd vs) (hl : n + dd.length = ps.length := by rfl) : Bnd K S fd ps n [] (fun ds _ => ds ++ dd) := by
  obtain ⟨bs, r, b⟩ := hb
  refine ⟨fun s us ws ws' zs ds es Z μ X r1 r2 h1 h2 h3 h4 => ?_⟩
  have e : es = [] := List.length_eq_zero_iff.mp h4
  subst e
  rw [show zs = [] from h2] at r2
  cases r2
  have l0 : bs.length = dd.length := by rw [← r.length, isDs_len (hV Z μ)]
  refine ⟨us ++ bs, ws' ++ vs, b s us X (by rw [List.length_append, ← r1.length, isDs_len h1, h3, l0, hl]), r1.append r, isDs_app h1 (hV Z μ), by rw [List.length_append, h3, hl]⟩
/-- with keywords, by KBn -/
theorem Bnd.kbn {g : List Value → List Value → List Value} {gV : List V → List V → List V} {gD : List D → List D → List D} (hb : KBn K fd ps n ks g gV) (hV : ∀ (Z : Hp) (μ : List Addr) (ds es : List D) (vs zs : List V), isDs K S Z μ ds vs → isDs K S Z μ es zs → isDs K S Z μ (gD ds es) (gV vs zs))
    (hl : ∀ ds es : List D, ds.length = n → es.length = ks.length → (gD ds es).length = ps.length) : Bnd K S fd ps n ks gD :=
  ⟨fun s us ws vs zs ds es Z μ X r1 r2 h1 h2 h3 h4 => ⟨g us ws, gV vs zs, hb.to s us ws X (by rw [← r1.length, isDs_len h1, h3]) (by rw [← r2.length, isDs_len h2, h4]), hb.rel r1 r2, hV Z μ ds es vs zs h1 h2, hl ds es h3 h4⟩⟩
/-- a new instance, defaults fill up; n: without self -/
theorem BndI.dfl {dd : List D} {vs : List V} (hb : ∃ ds, Vals vs ds ∧ L2.Binds K fd ps ds) (hV : ∀ (Z : Hp) (μ : List Addr), isDs K S Z μ dd vs) (hl : n + dd.length + 1 = ps.length := by rfl) : BndI K S fd ps n [] (fun ds _ => ds ++ dd) := by
  obtain ⟨bs, r, b⟩ := hb
  refine ⟨fun us ws vs' zs ds es Z μ r1 r2 h1 h2 h3 h4 => ?_⟩
  have e : es = [] := List.length_eq_zero_iff.mp h4
  subst e
  rw [show zs = [] from h2] at r2
  cases r2
  have l0 : bs.length = dd.length := by rw [← r.length, isDs_len (hV Z μ)]
  have lu : us.length = n := by rw [← r1.length, isDs_len h1, h3]
  refine ⟨fun self => (self :: us) ++ bs, vs' ++ vs, fun s self X => ?_, fun a => .cons rfl (r1.append r), isDs_app h1 (hV Z μ), by rw [List.length_append, h3, hl]⟩
  exact b s (self :: us) X (by rw [List.length_append, List.length_cons, lu, l0]; omega)
/-- a new instance with keywords, by KBn -/
theorem BndI.kbn {g : List Value → List Value → List Value} {gV : List V → List V → List V} {gD : List D → List D → List D} {gT : List Value → List Value → List Value} {gU : List V → List V → List V} (hb : KBn K fd ps (n + 1) ks g gV) (hg : ∀ self us ws, g (self :: us) ws = self :: gT us ws) (hgV : ∀ a vs zs, gV (.ref a :: vs) zs = .ref a :: gU vs zs)
    (hV : ∀ (Z : Hp) (μ : List Addr) (ds es : List D) (vs zs : List V), isDs K S Z μ ds vs → isDs K S Z μ es zs → isDs K S Z μ (gD ds es) (gU vs zs)) (hl : ∀ ds es : List D, ds.length = n → es.length = ks.length → (gD ds es).length + 1 = ps.length) : BndI K S fd ps n ks gD :=
  ⟨fun us ws vs zs ds es Z μ r1 r2 h1 h2 h3 h4 => ⟨fun self => g (self :: us) ws, gU vs zs, fun s self X => hb.to s (self :: us) ws X (by rw [List.length_cons, ← r1.length, isDs_len h1, h3]) (by rw [← r2.length, isDs_len h2, h4]), fun a => by
    rw [← hgV a vs zs]
    exact hb.rel (.cons rfl r1) r2, hV Z μ ds es vs zs h1 h2, hl ds es h3 h4⟩⟩
end
section
variable {X : Cx} {S : Sta} {W : WX} {O : Or} {pos : Pos}
theorem tCh_of {f g : D → D → Store → Option D} {r r' : R2} {ma mb mc : EM D} (hf : OpF X.K S f r) (hg : OpF X.K S g r') (σ : L2.St) (H : Hp) (Q : VK) (h : tE X S W O (chn f g ma mb mc) σ H Q) :
    tChain r r' (tG X S W O (rD X.K S) ma) (tG X S W O (rD X.K S) mb) (tG X S W O (rD X.K S) mc) σ H Q := by
  obtain ⟨Z, μ, ρ, st, L, R, p⟩ := h
  refine tG_bind L R p fun a x st1 Z1 μ1 H1 s1 L1 R1 i1 p1 => ?_
  refine tG_bind L1 R1 p1 fun b y st2 Z2 μ2 H2 s2 L2 R2 i2 p2 => ?_
  cases e : f a b st2 with
  | none => rw [e] at p2; exact p2.elim
  | some c =>
    rw [e] at p2
    refine hf a b c x y Z2 μ2 H2 st2 _ R2 (fun _ => .inl (s2.isD i1)) (fun _ => .inl i2) e fun v Z3 μ3 H3 s3 R3 q => ?_
    cases c with
    | bl k =>
      refine ⟨k, q, ?_⟩
      have p3 := Po.later p2 s3
      cases k with
      | false => exact p3 _ Z3 μ3 H3 Stp.refl R3 rfl
      | true =>
        refine tG_bind (L2.step s3) R3 p3 fun c w st4 Z4 μ4 H4 s4 L4 R4 i4 p4 => ?_
        cases e2 : g b c st4 with
        | none => rw [e2] at p4; exact p4.elim
        | some d =>
          rw [e2] at p4
          exact hg b c d y w Z4 μ4 H4 st4 Q R4 (fun _ => .inl (s4.isD (s3.isD i2))) (fun _ => .inl i4) e2 fun v Z' μ' H' s R' q => p4 v Z' μ' H' s R' q
    | _ => exact p2.elim
theorem s_chain {op op' : CmpOp} {f g : D → D → Store → Option D} {r r' : R2} {a b c : Expr} {ma mb mc : EM D} (ho : OpR X (compareOp op) r) (hf : OpF X.K S f r) (ho' : OpR X (compareOp op') r') (hg : OpF X.K S g r') (ha : SE X S W O a ma) (hb : SE X S W O b mb) (hc : SE X S W O c mc)
    (hm : lastMarks [op, op'] [b, c] = false := by with_unfolding_all rfl) : SE X S W O (.Compare a [op, op'] [b, c] pos) (chn f g ma mb mc) := pe_imp (pe_chain ho ho' ha hb hc hm) (tCh_of hf hg)
/-- -a -/
def negM (m : EM D) : EM D := fun ρ st => (m ρ st).bind fun d st1 => match d with
  | .int i => .ok (.int (-i)) st1
  | _ => .fail
theorem s_neg {a : Expr} {ma : EM D} (ha : SE X S W O a ma) : SE X S W O (.UnaryOp .USub a pos) (negM ma) :=
  pe_imp (pe_un un_neg ha) fun σ H Q ⟨Z, μ, ρ, st, L, R, p⟩ => by
    refine tG_bind L R p fun d v st1 Z1 μ1 H1 s1 L1 R1 i1 p1 => ?_
    cases d with
    | int i => exact ⟨i, i1, p1 _ Z1 μ1 H1 Stp.refl R1 rfl⟩
    | _ => exact p1.elim
variable {e o : Expr} {es : List Expr} {apos cpos : Pos}
theorem pe_app1 {i : Nat} {x : Str} {p : Pos} {m : EM (List D)} (ha : SA X S W O (e :: es) m) (hN : X.N[i]? = some x := by rfl) (hv : Vis X.env.scope x := by first | exact Or.inl rfl | exact Or.inr (Or.inl rfl) | exact Or.inr (Or.inr rfl))
    (hd : (x == ("__debug__" : Str)) = false := by decide) (hcd : (x == ("__classdict__" : Str)) = false := by decide)
    (hbase : attributeBase (.Name x p) "append" X.env (eval (.Name x p) X.env) = eval (.Name x p) X.env := by rfl)
    (hfew : ((backTo cpos (starEach (e :: es) X.env)).all (fun x => !x.1) && (backToKw cpos (keywordEach [] X.env)).all (fun x => x.1.isSome)
      && decide ((e :: es).length + ([] : List Keyword).length + (if ([] : List Keyword).isEmpty then 0 else 1) < 30)) = true := by rfl)
    (hline : (apos.endLine == cpos.line) = true := by rfl) (hs : starEach (e :: es) X.env = (false, eval e X.env) :: starEach es X.env := by rfl) (hplain : (backTo cpos (starEach es X.env)).any (·.1) = false := by rfl) :
    PE X (.Call (.Attribute (.Name x p) "append" apos) (e :: es) [] cpos) (tBM X.K "list" rAppend (tVar i) (tG X S W O (rDs X.K S) m)) :=
  pe_bm PySem.F.plainAttrs_list PySem.F.slot_list_append PySem.F.type_list_append mt_append (pe_var hN hv hd hcd) ha hbase hfew hline hs hplain
theorem pe_appR {mo me : EM D} (ho : SE X S W O o mo) (he : SE X S W O e me)
    (hbase : attributeBase o "append" X.env (eval o X.env) = eval o X.env := by rfl)
    (hfew : ((backTo cpos (starEach [e] X.env)).all (fun x => !x.1) && (backToKw cpos (keywordEach [] X.env)).all (fun x => x.1.isSome)
      && decide (([e] : List Expr).length + ([] : List Keyword).length + (if ([] : List Keyword).isEmpty then 0 else 1) < 30)) = true := by rfl)
    (hline : (apos.endLine == cpos.line) = true := by rfl) (hs : starEach [e] X.env = (false, eval e X.env) :: starEach [] X.env := by rfl) (hplain : (backTo cpos (starEach [] X.env)).any (·.1) = false := by rfl) :
    PE X (.Call (.Attribute o "append" apos) [e] [] cpos) (tBM X.K "list" rAppend (tE X S W O mo) (tG X S W O (rDs X.K S) (consM me nilM))) :=
  pe_bm PySem.F.plainAttrs_list PySem.F.slot_list_append PySem.F.type_list_append mt_append ho (a_cons he a_nil hs) hbase hfew hline hs hplain
theorem pe_popR {mo : EM D} (ho : SE X S W O o mo) (hbase : attributeBase o "pop" X.env (eval o X.env) = eval o X.env := by rfl) (hline : (apos.endLine == cpos.line) = true := by rfl) :
    PE X (.Call (.Attribute o "pop" apos) [] [] cpos) (tBM0 X.K "list" rPop (tE X S W O mo)) := pe_bm0 PySem.F.plainAttrs_list PySem.F.slot_list_pop PySem.F.type_list_pop mt_pop ho hbase hline
def eqsD : D → D → Store → Option D := fun d e _ => match d, e with
  | .str a, .str b => some (.bl (decide (a = b)))
  | _, _ => none
theorem fEqs {K : Frg} : OpF K S eqsD rEq := by
  intro d e c x y Z μ H st Q R h1 h2 hf k
  cases d <;> first | (cases hf; done) | skip
  cases e <;> first | (cases hf; done) | skip
  rename_i a b
  have hf : some (D.bl (decide (a = b))) = some c := hf
  cases hf
  have e1 : x = .str a := rB_D (h1 H) (fun _ z => by cases z)
  have e2 : y = .str b := rB_D (h2 H) (fun _ z => by cases z)
  subst e1 e2
  refine ⟨rfl, ?_⟩
  have e3 : decide (V.str a = V.str b) = decide (a = b) := by
    by_cases h : a = b
    · subst h; simp
    · simp [h]
  rw [e3]
  exact k _ Z μ H Stp.refl R rfl
end
end Sm
set_option Elab.async false
set_option linter.all false
set_option maxRecDepth 100000
set_option maxHeartbeats 4000000
set_option autoImplicit false
namespace GQ2
open PySem PySem.SeqAt
open AutoSeq1 (wpAny_loadPart')
open MeetsSeq MeetsSeq2 MeetsSeq3 SeqRoads2
section
variable {prog : Program} {w : World} {A : Around} {R : Result → Shared → Prop}
/-- I i b: the first i pairs are gone through; b: none of them differed -/
theorem tup_eqB (l b : Addr) (items items2 : Array Value) (n n2 : Nat) (dd dd2 : Option Addr) (sl sl2 : Array (Option Value)) (I : Nat → Shared → Prop)
    (turn : ∀ i (h1 : i < items.size) (h2 : i < items2.size) s, I i s → wpAny (model prog w) A.in1 (eqBool items[i] items2[i]) (fun r s' => (r = true → I (i + 1) s') ∧ (r = false → R (.ok (.ret (.bool false))) s')) (fun e s' => R (.error e) s') s)
    (fin : ∀ s, I (min items.size items2.size) s → R (.ok (.ret (.bool (items.size == items2.size)))) s) {s : Shared} (hl1 : s.heap.get? l = some { cls := .type "tuple", dict := dd, data := .seq items n, slots := sl }) (hb1 : s.heap.get? b = some { cls := .type "tuple", dict := dd2, data := .seq items2 n2, slots := sl2 }) (h : I 0 s) :
    wpAny (model prog w) A.in1 (Builtin.«tuple.__eq__» ⟨[.ref l, .ref b], []⟩) (GQ.FinOf prog w A R) (fun e s' => R (.error e) s') s := by
  have f2 := AutoSeq1.sub_tuple_tuple
  have hZ : (items.toList.zip items2.toList).length = min items.size items2.size := by simp
  have h0 := h
  obtain ⟨hp, g, d, tk, os⟩ := s
  wp_walk using wpAny_loadPart' hl1, wpAny_loadPart' hb1, wpAny_forIn_list _ (fun rest b s' => b.1 = none ∧ ∃ i, rest = (items.toList.zip items2.toList).drop i ∧ i ≤ min items.size items2.size ∧ I i s') _
  case turn =>
    rintro ⟨y, x⟩ rest b s' ⟨hb', i, hz, hi, hI⟩
    have hlt : i < (items.toList.zip items2.toList).length := by
      rcases Nat.lt_or_ge i (items.toList.zip items2.toList).length with h' | h'
      · exact h'
      · rw [List.drop_of_length_le h'] at hz; cases hz
    have h12 : i < min items.size items2.size := hZ ▸ hlt
    have h1 : i < items.size := by omega
    have h2 : i < items2.size := by omega
    rw [List.drop_eq_getElem_cons hlt] at hz
    injection hz with hyx hrest
    have hy : y = items[i] := by simpa using congrArg Prod.fst hyx
    have hx : x = items2[i] := by simpa using congrArg Prod.snd hyx
    subst hy hx
    refine wpAny_bind (wpAny_mono (turn i h1 h2 s' hI) (fun r s2 q2 => ?_) fun _ _ x => x)
    cases r with
    | true =>
      wp_walk
      exact ⟨rfl, i + 1, hrest, h12, q2.1 rfl⟩
    | false =>
      have hR := q2.2 rfl
      wp_walk
      exact hR
  case fin =>
    rintro ⟨b1, b2⟩ s' ⟨hb', i, hz, hi, hI⟩
    simp only at hb'
    subst hb'
    have hge : min items.size items2.size ≤ i := by
      rcases Nat.lt_or_ge i (items.toList.zip items2.toList).length with h' | h'
      · rw [List.drop_eq_getElem_cons h'] at hz; cases hz
      · exact hZ ▸ h'
    have hi' : i = min items.size items2.size := by omega
    have hR := fin s' (hi' ▸ hI)
    wp_walk
    simpa [Builtin.Tuple.tupleCompareSizes] using hR
  case h =>
    exact ⟨rfl, 0, rfl, Nat.zero_le _, h0⟩
end
end GQ2
namespace Sm
open PySem PySem.Spec PyProof.Rows L2
def intsOf : List D → Option (List Int)
  | [] => some []
  | .int i :: r => (intsOf r).map (i :: ·)
  | _ => none
theorem intsOf_eq : ∀ {ds : List D} {is : List Int}, intsOf ds = some is → ds = is.map D.int
  | [], is, h => by cases h; rfl
  | d :: r, is, h => by
    cases d with
    | int i =>
      have h : (intsOf r).map (i :: ·) = some is := h
      cases e : intsOf r with
      | none => rw [e] at h; cases h
      | some js =>
        rw [e] at h
        cases h
        rw [List.map_cons, intsOf_eq e]
    | _ => cases h
def eqXs (f : D → D → Option Bool) : List D → List D → Option Bool
  | [], [] => some true
  | [], _ :: _ => some false
  | _ :: _, [] => some false
  | d :: ds, e :: es => match f d e with
    | some true => eqXs f ds es
    | some false => some false
    | none => none
def insEq (c l a a' : Nat) (fs gs : List D) : Option Bool := match intsOf fs, intsOf gs with
  | some is, some js => if a = c ∧ a' = c ∧ is.length = l ∧ js.length = l then some (decide (is = js)) else none
  | _, _ => none
theorem insEq_some {c l a a' : Nat} {fs gs : List D} {b : Bool} (h : insEq c l a a' fs gs = some b) : a = c ∧ a' = c ∧ ∃ is js : List Int, fs = is.map D.int ∧ gs = js.map D.int ∧ is.length = l ∧ js.length = l ∧ b = decide (is = js) := by
  unfold insEq at h
  split at h
  · rename_i is js e1 e2
    split at h
    · rename_i hc
      cases h
      exact ⟨hc.1, hc.2.1, is, js, intsOf_eq e1, intsOf_eq e2, hc.2.2.1, hc.2.2.2, rfl⟩
    · cases h
  · cases h
/-- instances of the class c have l whole numbers -/
def eqX (c l : Nat) : Nat → D → D → Option Bool
  | n + 1, .tup ds, .tup es => eqXs (eqX c l n) ds es
  | _, .ins a fs, .ins b gs => insEq c l a b fs gs
  | _, .int i, .int j => some (decide (i = j))
  | _, _, _ => none
/-- what the class's own == must do -/
def EqOk (c l : Nat) (m : DM) : Prop := ∀ (is js : List Int) (st : Store), is.length = l → js.length = l → m [.ins c (is.map D.int), .ins c (js.map D.int)] st = .ok (.bl (decide (is = js))) st
section
variable {X : Cx} {S : Sta}
/-- behind the comparison -/
def EqEnd (X : Cx) (S : Sta) (pins : List (Addr × Obj)) (σ : L2.St) (Z : Hp) (μ : List Addr) (H : Hp) (st : Store) (s' : Shared) : Prop := ∃ H' Z' μ', Inv X pins σ H' s' ∧ Stp Z μ H Z' μ' H' ∧ Rep X.K S Z' μ' H' st
def EqS (X : Cx) (S : Sta) (n : Nat) (f : D → D → Option Bool) : Prop :=
  ∀ (A : Around) (pins : List (Addr × Obj)) (s : Shared) (σ : L2.St) (Z : Hp) (μ : List Addr) (H : Hp) (st : Store) (d e : D) (b : Bool) (x y : V) (u v : Value), Sub X n A → A.guards = some [] → Inv X pins σ H s → RelV x u → RelV y v → Rep X.K S Z μ H st → isD X.K S Z μ d x → isD X.K S Z μ e y → f d e = some b →
    wpAny (model X.prog X.w) A (eqBool u v) (fun r s' => r = b ∧ EqEnd X S pins σ Z μ H st s') X.xe s
/-- the same object: True -/
theorem eqX_same {c l : Nat} {pins : List (Addr × Obj)} {σ : L2.St} {Z : Hp} {μ : List Addr} {H : Hp} {st : Store} {s : Shared} (I : Inv X pins σ H s) (R : Rep X.K S Z μ H st) :
    ∀ (n : Nat) (d e : D) (b : Bool) (v : V), isD X.K S Z μ d v → isD X.K S Z μ e v → eqX c l n d e = some b → b = true := by
  have flat : ∀ (n : Nat) (a a' : Nat) (fs gs : List D) (b : Bool) (v : V), isD X.K S Z μ (.ins a fs) v → isD X.K S Z μ (.ins a' gs) v → eqX c l n (.ins a fs) (.ins a' gs) = some b → b = true := by
    intro n a a' fs gs b v h1 h2 h
    have h3 : insEq c l a a' fs gs = some b := by cases n <;> exact h
    obtain ⟨rfl, rfl, is, js, rfl, rfl, _, _, rfl⟩ := insEq_some h3
    refine decide_eq_true ?_
    obtain ⟨p, dx, xs, rfl, q1, q2, q3⟩ := h1
    obtain ⟨p', dy, ys, ep, r1, r2, r3⟩ := h2
    cases ep
    rw [q1] at r1
    have ez : (S.cf a').zip xs = (S.cf a').zip ys := by
      injection r1 with r1
      injection r1
    have exy : xs = ys := by
      have e3 := congrArg (List.map Prod.snd) ez
      rw [List.map_snd_zip (by omega), List.map_snd_zip (by omega)] at e3
      exact e3
    rw [isDs_ints.mp q3, isDs_ints.mp r3] at exy
    have inj : ∀ {as bs : List Int}, as.map V.int = bs.map V.int → as = bs := by
      intro as
      induction as with
      | nil => intro bs h; cases bs with
        | nil => rfl
        | cons _ _ => cases h
      | cons a as ih => intro bs h; cases bs with
        | nil => cases h
        | cons b bs =>
          rw [List.map_cons, List.map_cons] at h
          injection h with h1 h2
          injection h1 with h1
          rw [h1, ih h2]
    exact inj exy
  intro n
  induction n with
  | zero =>
    intro d e b v h1 h2 h
    cases d with
    | int i =>
      cases e with
      | int j =>
        cases h
        have e1 : v = .int i := h1
        have e2 : v = .int j := h2
        rw [e1] at e2
        cases e2
        exact decide_eq_true rfl
      | _ => cases h
    | ins a fs =>
      cases e with
      | ins a' gs => exact flat 0 a a' fs gs b v h1 h2 h
      | _ => cases h
    | _ => cases e <;> cases h
  | succ n ih =>
    intro d e b v h1 h2 h
    cases d with
    | int i =>
      cases e with
      | int j =>
        cases h
        have e1 : v = .int i := h1
        have e2 : v = .int j := h2
        rw [e1] at e2
        cases e2
        exact decide_eq_true rfl
      | _ => cases h
    | ins a fs =>
      cases e with
      | ins a' gs => exact flat (n + 1) a a' fs gs b v h1 h2 h
      | _ => cases h
    | tup ds =>
      cases e with
      | tup es =>
        obtain ⟨p, xs, rfl, q1, q2⟩ := h1
        obtain ⟨p', ys, ep, r1, r2⟩ := h2
        cases ep
        have exy := I.tuple_inj (sqt_mono R.le q1) (sqt_mono R.le r1)
        subst exy
        replace h : eqXs (eqX c l n) ds es = some b := h
        clear q1 r1
        induction ds generalizing es xs with
        | nil =>
          cases es with
          | nil => cases h; rfl
          | cons e es =>
            rw [show xs = [] from q2] at r2
            obtain ⟨_, _, z, _⟩ := r2
            cases z
        | cons d ds ihd =>
          obtain ⟨w, r, rfl, t1, t2⟩ := q2
          cases es with
          | nil => cases (show w :: r = [] from r2)
          | cons e es =>
            obtain ⟨w', r', ew, u1, u2⟩ := r2
            cases ew
            have h : (match eqX c l n d e with
              | some true => eqXs (eqX c l n) ds es
              | some false => some false
              | none => none) = some b := h
            cases e3 : eqX c l n d e with
            | none => rw [e3] at h; cases h
            | some b3 =>
              have := ih d e b3 w t1 u1 e3
              subst this
              rw [e3] at h
              exact ihd es r t2 u2 h
      | _ => cases h
    | _ => cases e <;> cases h
theorem eqS_ins {k c l : Nat} {f : Addr} {fd : FuncData} {ps : List Str} {m : DM} (F : FnSem X.prog X.w X.K X.mg X.base S k f fd ps m) (hm : EqOk c l m) (h2 : ps.length = 2) (tk : Takes X W0) (hs : PySem.W.findIn X.K (.ref (He.ga X.K (S.cn c))) "__eq__" = some (some (.ref f))) (hf : PySem.W.isFn X.K (.ref f) = true) (hb : PosB X.K fd ps)
    {A : Around} {pins : List (Addr × Obj)} {s : Shared} {σ : L2.St} {Z : Hp} {μ : List Addr} {H : Hp} {st : Store} {is js : List Int} {x y : V} {u v : Value} (sb : Sub X k A) (hg : A.guards = some []) (I : Inv X pins σ H s) (rx : RelV x u) (ry : RelV y v) (R : Rep X.K S Z μ H st)
    (dx : isD X.K S Z μ (.ins c (is.map D.int)) x) (dy : isD X.K S Z μ (.ins c (js.map D.int)) y) (hi : is.length = l) (hj : js.length = l) (hne : u ≠ v) :
    wpAny (model X.prog X.w) A (eqBool u v) (fun r s' => r = decide (is = js) ∧ EqEnd X S pins σ Z μ H st s') X.xe s := by
  have dxy := isDs_cons dx (isDs_cons dy (show isDs X.K S Z μ [] [] from rfl))
  obtain ⟨a, dx, xs, rfl, q1, q2, q3⟩ := dx
  obtain ⟨b, dy, ys, rfl, r1, r2, r3⟩ := dy
  cases rx
  cases ry
  refine GQ.eqBool_refG (fun e => hne (by rw [e])) ?_
  obtain ⟨mA, J, _⟩ := ins_get I.hok (R.le _ _ q1)
  obtain ⟨mB, J', _⟩ := ins_get I.hok (R.le _ _ r1)
  obtain ⟨od, J, _⟩ := J.look
  obtain ⟨od', J', _⟩ := J'.look
  obtain ⟨m0, hF⟩ := I.fr
  refine PySem.W.cmp_K (op := .Eq) (tb := .ref (He.ga X.K (S.cn c))) sb.room.units0 hF I.ok.mod.kin J J'.type (by simp [PySem.W.notFirst]) hs hf ?_
  have e0 : Env0 X.prog X.w X.K X.mg X.base A X.stack s H := by
    have e := I.env0
    exact ⟨by rw [sb.fr]; exact e.frames, e.mod, e.bs, e.bsz, e.funs, e.frf, e.hok, e.bare⟩
  have rr : Vals [V.ref a, V.ref b] [Value.ref a, Value.ref b] := .cons rfl (.cons rfl .nil)
  have bb : BindsTo s fd ⟨[.ref a, .ref b], []⟩ (ps.zip [.ref a, .ref b]) := by
    have := hb s [.ref a, .ref b] I.kIn (by rw [h2]; rfl)
    rw [List.append_nil] at this
    exact this
  have cc := F.run A X.stack s H ⟨[.ref a, .ref b], []⟩ [.ref a, .ref b] [.ref a, .ref b] (fun w H' => w = .bl (decide (is = js)) ∧ ∃ Z' μ', Stp Z μ H Z' μ' H' ∧ Rep X.K S Z' μ' H' st) (WE W0 σ) Z μ st [.ins c (is.map D.int), .ins c (js.map D.int)] sb.room hg e0 bb rr (by rw [h2]; rfl) dxy R (by
    rw [hm is js st hi hj]
    exact fun w Z' μ' H' s' R' q => ⟨q, Z', μ', s', R'⟩)
  refine wpAny_call (codeAny_mono cc fun r s' hq => ?_)
  cases r with
  | error e => exact passAt tk σ pins H s e s' I hq
  | ok fl =>
    cases fl with
    | ret w =>
      obtain ⟨z, H', I', rz, ez, Z', μ', s2, R'⟩ := I.after hq
      subst ez
      cases rz
      exact ⟨_, rfl, rfl, H', Z', μ', I', s2, R'⟩
    | next => exact hq.elim
    | brk => exact hq.elim
    | cont => exact hq.elim
theorem rc_tup {k c l n : Nat} (ih : EqS X S (k + n) (eqX c l n)) {A : Around} {pins : List (Addr × Obj)} {s : Shared} {σ : L2.St} {Z : Hp} {μ : List Addr} {H : Hp} {st : Store} {ds es : List D} {b : Bool} {p p' : Addr} (sb : Sub X (k + (n + 1)) A) (hg : A.guards = some []) (I : Inv X pins σ H s) (R : Rep X.K S Z μ H st)
    (dx : isD X.K S Z μ (.tup ds) (.ref p)) (dy : isD X.K S Z μ (.tup es) (.ref p')) (h : eqX c l (n + 1) (.tup ds) (.tup es) = some b) :
    wpAny (model X.prog X.w) A (richCompare .Eq (.ref p) (.ref p')) (fun v s' => ∃ r, v = .bool r ∧ (r = b ∧ EqEnd X S pins σ Z μ H st s')) X.xe s := by
  obtain ⟨a, xs, ea, q1, q2⟩ := dx
  obtain ⟨a', ys, ea', r1, r2⟩ := dy
  cases ea
  cases ea'
  obtain ⟨its, rv, t1, z1⟩ := I.tuple (sqt_mono R.le q1)
  obtain ⟨its2, rv2, t2, z2⟩ := I.tuple (sqt_mono R.le r1)
  obtain ⟨⟨cls, dd, data, sl⟩, ho, hc, n1, hd⟩ := id t1
  obtain ⟨⟨cls2, dd2, data2, sl2⟩, ho2, hc2, n2, hd2⟩ := id t2
  simp only at hc hd hc2 hd2
  subst hc hd hc2 hd2
  have hbb : eqXs (eqX c l n) ds es = some b := h
  refine wpAny_richCompare_same_room (op := .Eq) ⟨_, ho, rfl⟩ ⟨_, ho2, rfl⟩ PySem.F.slot_tuple_eq (GQ.call_here PySem.F.slot_tuple_eq ⟨_, ho, rfl⟩ PySem.F.entry_tuple_eq (PySem.F.args_tuple_eq_2 _ _) ?_) sb.room.units0
  have l1 : its.length = ds.length := by rw [← rv.length, isDs_len q2]
  have l2 : its2.length = es.length := by rw [← rv2.length, isDs_len r2]
  refine GQ2.tup_eqB (R := wants (fun v s' => v ≠ .notImplemented ∧ ∃ r, v = .bool r ∧ (r = b ∧ EqEnd X S pins σ Z μ H st s')) X.xe) p p' its.toArray its2.toArray n1 n2 dd dd2 sl sl2 (fun i s' => EqEnd X S pins σ Z μ H st s' ∧ eqXs (eqX c l n) (ds.drop i) (es.drop i) = some b) (fun i h1 h2 s' hI => ?_) (fun s' hI => ?_) ho ho2 ⟨⟨H, Z, μ, I, Stp.refl, R⟩, hbb⟩
  · obtain ⟨⟨H1, Z1, μ1, I1, s1, R1⟩, hx⟩ := hI
    have k1 : i < ds.length := by rw [← l1]; simpa using h1
    have k2 : i < es.length := by rw [← l2]; simpa using h2
    rw [List.drop_eq_getElem_cons k1, List.drop_eq_getElem_cons k2] at hx
    obtain ⟨w1, g1, j1⟩ := isDs_get q2 (List.getElem?_eq_getElem k1)
    obtain ⟨w2, g2, j2⟩ := isDs_get r2 (List.getElem?_eq_getElem k2)
    obtain ⟨u1, hu1, ru1⟩ := rv.get g1
    obtain ⟨u2, hu2, ru2⟩ := rv2.get g2
    have eu1 : its.toArray[i] = u1 := by
      have : its[i]? = some its.toArray[i] := by
        have h1' : i < its.length := by simpa using h1
        rw [List.getElem?_eq_getElem h1'] <;> simp
      rw [this] at hu1
      exact Option.some.inj hu1
    have eu2 : its2.toArray[i] = u2 := by
      have : its2[i]? = some its2.toArray[i] := by
        have h2' : i < its2.length := by simpa using h2
        rw [List.getElem?_eq_getElem h2'] <;> simp
      rw [this] at hu2
      exact Option.some.inj hu2
    rw [eu1, eu2]
    have hx : (match eqX c l n ds[i] es[i] with
      | some true => eqXs (eqX c l n) (ds.drop (i + 1)) (es.drop (i + 1))
      | some false => some false
      | none => none) = some b := hx
    cases e3 : eqX c l n ds[i] es[i] with
    | none => rw [e3] at hx; cases hx
    | some b3 =>
      rw [e3] at hx
      refine wpAny_mono (ih A.in1 pins s' σ Z1 μ1 H1 st _ _ b3 w1 w2 u1 u2 sb.in1 hg I1 ru1 ru2 R1 (s1.isD j1) (s1.isD j2) e3) (fun r s2 q => ?_) fun _ _ x => x
      obtain ⟨rfl, H2, Z2, μ2, I2, s2, R2⟩ := q
      refine ⟨fun hr => ?_, fun hr => ?_⟩
      · subst hr
        exact ⟨⟨H2, Z2, μ2, I2, s1.trans s2, R2⟩, hx⟩
      · subst hr
        cases hx
        exact ⟨(fun x => nomatch x), false, rfl, rfl, H2, Z2, μ2, I2, s1.trans s2, R2⟩
  · obtain ⟨en, hx⟩ := hI
    refine ⟨(fun x => nomatch x), _, rfl, ?_, en⟩
    have e1 : min its.toArray.size its2.toArray.size = min ds.length es.length := by simp [l1, l2]
    rw [e1] at hx
    have e2 : (its.toArray.size == its2.toArray.size) = (ds.length == es.length) := by simp [l1, l2]
    rw [e2]
    rcases Nat.lt_trichotomy ds.length es.length with z | z | z
    · rw [Nat.min_eq_left (Nat.le_of_lt z), List.drop_length, List.drop_eq_getElem_cons z] at hx
      cases hx
      simp
      omega
    · rw [z, Nat.min_self, List.drop_length, ← z, List.drop_length] at hx
      cases hx
      simp [z]
    · rw [Nat.min_eq_right (Nat.le_of_lt z), List.drop_length, List.drop_eq_getElem_cons z] at hx
      cases hx
      simp
      omega
theorem eqS_X {k c l : Nat} {f : Addr} {fd : FuncData} {ps : List Str} {m : DM} (F : FnSem X.prog X.w X.K X.mg X.base S k f fd ps m) (hm : EqOk c l m) (h2 : ps.length = 2) (tk : Takes X W0) (hs : PySem.W.findIn X.K (.ref (He.ga X.K (S.cn c))) "__eq__" = some (some (.ref f))) (hf : PySem.W.isFn X.K (.ref f) = true) (hb : PosB X.K fd ps) :
    ∀ n, EqS X S (k + n) (eqX c l n) := by
  have base : ∀ (n : Nat) (A : Around) (pins : List (Addr × Obj)) (s : Shared) (σ : L2.St) (Z : Hp) (μ : List Addr) (H : Hp) (st : Store) (d e : D) (b : Bool) (x y : V) (u v : Value), Sub X (k + n) A → A.guards = some [] → Inv X pins σ H s → RelV x u → RelV y v → Rep X.K S Z μ H st → isD X.K S Z μ d x → isD X.K S Z μ e y → eqX c l n d e = some b → (∀ ds, d ≠ .tup ds) →
      wpAny (model X.prog X.w) A (eqBool u v) (fun r s' => r = b ∧ EqEnd X S pins σ Z μ H st s') X.xe s := by
    intro n A pins s σ Z μ H st d e b x y u v sb hg I rx ry R dx dy h hnt
    cases d with
    | tup ds => exact absurd rfl (hnt ds)
    | int i =>
      cases e with
      | int j =>
        have h : some (decide (i = j)) = some b := by cases n <;> exact h
        cases h
        have e1 : x = .int i := dx
        have e2 : y = .int j := dy
        subst e1 e2
        have q := eqAt_V (A := A) (s := s) rx ry rfl rfl
        refine q X.prog X.w X.xe _ ⟨?_, H, Z, μ, I, Stp.refl, R⟩
        show (i == j) = decide (i = j)
        by_cases hij : i = j
        · subst hij; simp
        · simp [hij]
      | _ => cases n <;> cases h
    | ins a fs =>
      cases e with
      | ins a' gs =>
        have h3 : insEq c l a a' fs gs = some b := by cases n <;> exact h
        obtain ⟨rfl, rfl, is, js, rfl, rfl, l1, l2, hb3⟩ := insEq_some h3
        by_cases huv : u = v
        · subst huv
          have hb2 : b = true := by
            obtain ⟨p, dx', xs, rfl, _⟩ := id dx
            obtain ⟨p', dy', ys, rfl, _⟩ := id dy
            cases rx
            cases ry
            exact eqX_same I R n _ _ b _ dx dy h
          subst hb2
          exact SeqAt.EqAt.same (A := A) (s := s) u X.prog X.w X.xe _ ⟨rfl, H, Z, μ, I, Stp.refl, R⟩
        · rw [hb3]
          exact eqS_ins F hm h2 tk hs hf hb (sb.mono (by omega)) hg I rx ry R dx dy l1 l2 huv
      | _ => cases n <;> cases h
    | _ => cases n <;> cases e <;> cases h
  intro n
  induction n with
  | zero =>
    intro A pins s σ Z μ H st d e b x y u v sb hg I rx ry R dx dy h
    refine base 0 A pins s σ Z μ H st d e b x y u v sb hg I rx ry R dx dy h fun ds q => ?_
    subst q
    cases e <;> cases h
  | succ n ih =>
    intro A pins s σ Z μ H st d e b x y u v sb hg I rx ry R dx dy h
    cases d with
    | tup ds =>
      cases e with
      | tup es =>
        by_cases huv : u = v
        · subst huv
          have hb2 : b = true := by
            obtain ⟨p, xs, rfl, _⟩ := id dx
            obtain ⟨p', ys, rfl, _⟩ := id dy
            cases rx
            cases ry
            exact eqX_same I R (n + 1) _ _ b _ dx dy h
          subst hb2
          exact SeqAt.EqAt.same (A := A) (s := s) u X.prog X.w X.xe _ ⟨rfl, H, Z, μ, I, Stp.refl, R⟩
        · obtain ⟨p, xs, rfl, _⟩ := id dx
          obtain ⟨p', ys, rfl, _⟩ := id dy
          cases rx
          cases ry
          exact GQ.eqBool_refG (fun e => huv (by rw [e])) (rc_tup ih sb hg I R dx dy h)
      | _ => cases h
    | _ => exact base (n + 1) A pins s σ Z μ H st _ e b x y u v sb hg I rx ry R dx dy h (fun ds q => by cases q)
theorem eqS_tup {k c l : Nat} {f : Addr} {fd : FuncData} {ps : List Str} {m : DM} (F : FnSem X.prog X.w X.K X.mg X.base S k f fd ps m) (hm : EqOk c l m) (h2 : ps.length = 2) (tk : Takes X W0) (hs : PySem.W.findIn X.K (.ref (He.ga X.K (S.cn c))) "__eq__" = some (some (.ref f))) (hf : PySem.W.isFn X.K (.ref f) = true) (hb : PosB X.K fd ps) (n : Nat)
    (A : Around) (pins : List (Addr × Obj)) (s : Shared) (σ : L2.St) (Z : Hp) (μ : List Addr) (H : Hp) (st : Store) (ds es : List D) (b : Bool) (p p' : Addr) (sb : Sub X (k + (n + 1)) A) (hg : A.guards = some []) (I : Inv X pins σ H s) (R : Rep X.K S Z μ H st)
    (dx : isD X.K S Z μ (.tup ds) (.ref p)) (dy : isD X.K S Z μ (.tup es) (.ref p')) (h : eqX c l (n + 1) (.tup ds) (.tup es) = some b) :
    wpAny (model X.prog X.w) A (richCompare .Eq (.ref p) (.ref p')) (fun v s' => ∃ r, v = .bool r ∧ EqEnd X S pins σ Z μ H st s' ∧ r = b) X.xe s :=
  wpAny_mono (rc_tup (eqS_X F hm h2 tk hs hf hb n) sb hg I R dx dy h) (fun v s' ⟨r, e, q1, q2⟩ => ⟨r, e, q2, q1⟩) fun _ _ x => x
/-- x == y of two tuples -/
def eqXD (c l n : Nat) : D → D → Store → Option D := fun d e _ => match d with
  | .tup ds => (eqX c l (n + 1) (.tup ds) e).map D.bl
  | _ => none
def rEqX (X : Cx) (S : Sta) (c l n : Nat) : R2 := fun x y H Q => ∃ Z μ st ds es b, Rep X.K S Z μ H st ∧ isD X.K S Z μ (.tup ds) x ∧ isD X.K S Z μ (.tup es) y ∧ eqX c l (n + 1) (.tup ds) (.tup es) = some b ∧ ∀ H' Z' μ', Stp Z μ H Z' μ' H' → Rep X.K S Z' μ' H' st → Q (.bl b) H'
theorem op_eqX (n : Nat) {k c l : Nat} {f : Addr} {fd : FuncData} {ps : List Str} {m : DM} (F : FnSem X.prog X.w X.K X.mg X.base S k f fd ps m) (hr : Room (k + (n + 1)) X.A) (hg : X.A.guards = some []) (hm : EqOk c l m) (tk : Takes X W0) (hs : Meth X.K (He.ga X.K (S.cn c)) "__eq__" f) (hb : PosB X.K fd ps) (h2 : ps.length = 2 := by rfl) :
    OpR X (compareOp .Eq) (rEqX X S c l n) := by
  intro pins s σ H x y v u Q I rx ry hq
  obtain ⟨Z, μ, st, ds, es, b, R, dx, dy, e, q⟩ := hq
  show wpAny (model X.prog X.w) X.A (richCompare .Eq v u) (EP X pins σ Q) X.xe s
  obtain ⟨p, xs, rfl, q1, q2⟩ := id dx
  obtain ⟨p', ys, rfl, r1, r2⟩ := id dy
  cases rx
  cases ry
  have g := eqS_tup F hm h2 tk hs.at_ hs.fn hb n X.A pins s σ Z μ H st ds es b p p' ⟨hr, rfl⟩ hg I R dx dy e
  refine wpAny_mono g (fun r s' z => ?_) fun _ _ x => x
  obtain ⟨_, rfl, ⟨H', Z', μ', I', s1, R'⟩, rfl⟩ := z
  exact ⟨.bl _, H', I', rfl, q H' Z' μ' s1 R'⟩
theorem fEqX {c l n : Nat} : OpF X.K S (eqXD c l n) (rEqX X S c l n) := by
  intro d e r x y Z μ H st Q R h1 h2 hf k
  cases d with
  | tup ds =>
    cases e with
    | tup es =>
      have hf : (eqX c l (n + 1) (.tup ds) (.tup es)).map D.bl = some r := hf
      cases e1 : eqX c l (n + 1) (.tup ds) (.tup es) with
      | none => rw [e1] at hf; cases hf
      | some b =>
        rw [e1] at hf
        cases hf
        exact ⟨Z, μ, st, ds, es, b, R, rB_D (h1 H) (fun _ z => by cases z), rB_D (h2 H) (fun _ z => by cases z), e1, fun H' Z' μ' s' R' => k (.bl b) Z' μ' H' s' R' rfl⟩
    | _ => cases hf
  | _ => cases hf
end
end Sm
set_option Elab.async false
set_option linter.all false
set_option maxRecDepth 100000
set_option maxHeartbeats 4000000
set_option autoImplicit false
namespace Sm
open PySem PySem.Spec PyProof.Rows L2
def begH (tabs : List Addr) (a : Addr) (u : Option HO) : Hp := fun b => if b ∈ tabs then some (.tbl #[]) else if b = a then u else none
theorem begH_tab {tabs : List Addr} {a b : Addr} {u : Option HO} (h : b ∈ tabs) : begH tabs a u b = some (.tbl #[]) := if_pos h
theorem begH_self {tabs : List Addr} {a : Addr} {u : Option HO} (h : a ∉ tabs) : begH tabs a u a = u := (if_neg h).trans (if_pos rfl)
theorem begH_cases {tabs : List Addr} {a b : Addr} {u : Option HO} {x : HO} (h : begH tabs a u b = some x) : (b ∈ tabs ∧ x = .tbl #[]) ∨ (b ∉ tabs ∧ b = a ∧ u = some x) := by
  unfold begH at h
  split at h
  · rename_i q
    exact .inl ⟨q, (Option.some.inj h).symm⟩
  · rename_i q
    split at h
    · rename_i z
      exact .inr ⟨q, z, h⟩
    · cases h
theorem cx_no {P : Program} {w : World} {outer : List Env} {H : Hp} {s : Shared} {e : Value} {s' : Shared} (h : L2.CX P w outer H s (fun _ _ _ => False) e s') : False := by
  obtain ⟨_, _, _, _, _, _, _, _, _, _, _, _, z⟩ := h
  exact z
theorem law_callG {P : Program} {w : World} {K : Frg} {mg mb : Str → Option Value} {S : Sta} {k : Nat} {fa a : Addr} {cs : List (Addr × Addr)} {fd : FuncData} {x : Str} {m : DM} {s₁ : Shared} {vs : List Value} {ns : List Int}
    (KX : K.In s₁.heap) (hns : s₁.heap.Ns mainGlobals mg) (hb : s₁.heap.Ns builtinsNs mb) (hbb : ∀ x : Str, x ≠ "__name__" → mb x = bootBuiltins x) (hlim : s₁.heap.NoLimit) (hgens : s₁.gens = #[])
    (hT : ∀ p ∈ cs, s₁.heap.get? p.2 = some { cls := .none, data := .fields #[] }) (nT : ∀ p ∈ cs, K.lookup p.2 = none) (C : ∀ p ∈ cs, PySem.W.CodeHd s₁.heap p.1 p.2)
    (hbm : ∃ (bm : Addr) (ob : Obj), mg "__builtins__" = some (.ref bm) ∧ bm ≠ builtinsNs ∧ s₁.heap.get? bm = some ob ∧ ob.cls = .type "module" ∧ ob.dict = some builtinsNs ∧ ob.data = .plain)
    (ha : s₁.heap.get? a = some { cls := .type "list", data := .seq vs.toArray }) (hi : IntsAre vs ns) (hl : ns.length ≤ sizeLine) (hr : Room k callerA) (hST : ∀ p ∈ S.T, p.1 ∈ cs.map (·.2))
    (F : ∀ base : Heap, K.In base → base.Ns mainGlobals mg → (∀ p ∈ cs, LamX.TabB base mg p.1 p.2) → FnSem P w K mg base S k fa fd [x] m) (hbind : ∀ (s : Shared) (u : Value), BindsTo s fd ⟨[u], []⟩ [(x, u)])
    (hm : ∃ st, m [.lst (ns.map D.int)] [] = .ok (.bl true) st) :
    codeAny (model P w) callerA (.call (.ref fa) ⟨[.ref a], []⟩) (fun r s' => r = .ok (.ret (.bool true)) ∧ OldK s₁.heap s'.heap ∧ s'.os = s₁.os ∧ AllBare s'.gens) s₁ := by
  have rv := vals_ints hi
  have lenV := hi.length
  -- the script, told by K or frozen
  obtain ⟨u, hu, hK, hS⟩ : ∃ u : Option HO, (∀ o, u = some o → o = .frz { cls := .type "list", data := .seq vs.toArray } (.lst (ns.map V.int))) ∧ (u ≠ none → K.lookup a = none) ∧ (u = none → ∃ o, K.lookup a = some o) := by
    cases hk : K.lookup a with
    | none => exact ⟨_, fun o e => (Option.some.inj e).symm, fun _ => rfl, fun e => by cases e⟩
    | some o => exact ⟨none, (fun o e => by cases e), fun e => absurd rfl e, fun _ => ⟨o, rfl⟩⟩
  have isT : ∀ b : Addr, b ∈ cs.map (·.2) → s₁.heap.get? b = some { cls := .none, data := .fields #[] } ∧ K.lookup b = none := fun b hb => by
    obtain ⟨p, hp, e⟩ := List.mem_map.mp hb
    subst e
    exact ⟨hT p hp, nT p hp⟩
  have aT : a ∉ cs.map (·.2) := fun z => by
    have q := (isT a z).1.symm.trans ha
    have z' : Data.fields #[] = Data.seq vs.toArray _ := congrArg Obj.data (Option.some.inj q)
    cases z'
  generalize hH : begH (cs.map (·.2)) a u = H
  have hA : ∀ (b : Addr) (y : HO), H b = some y → (b ∈ cs.map (·.2) ∧ y = .tbl #[]) ∨ (b = a ∧ y = .frz { cls := .type "list", data := .seq vs.toArray } (.lst (ns.map V.int)) ∧ u = some y) := fun b y e => by
    rw [← hH] at e
    rcases begH_cases e with z | ⟨_, z1, z2⟩
    · exact .inl z
    · exact .inr ⟨z1, hu _ z2, z2⟩
  have tabH : ∀ b ∈ cs.map (·.2), H b = some (.tbl #[]) := fun b hb => by rw [← hH]; exact begH_tab hb
  have ok : HOk P w H s₁.heap := fun b y e => by
    rcases hA b y e with ⟨z1, z2⟩ | ⟨z1, z2, _⟩
    · subst z2
      exact (isT b z1).1
    · subst z1 z2
      exact ⟨ha, by rw [List.length_map]; exact hl, vs, _, rv, ha⟩
  have keptB : ∀ {b : Addr} {o : Obj}, s₁.heap.get? b = some o → (∀ q n, o.data ≠ .seq q n) → o.data ≠ .fields #[] → H b = none := fun {b o} e h1 h2 => by
    cases q : H b with
    | none => rfl
    | some y =>
      rcases hA b y q with ⟨z1, _⟩ | ⟨z1, _, _⟩
      · rw [(isT b z1).1] at e
        cases e
        exact absurd rfl h2
      · subst z1
        rw [ha] at e
        cases e
        exact absurd rfl (h1 _ _)
  have nsB : ∀ {b : Addr} {f : Str → Option Value}, s₁.heap.Ns b f → (hidT s₁.heap H).Ns b f := fun {b f} ⟨o, es, ep, e, d, r⟩ =>
    ⟨o, es, ep, hidT_get e (keptB e (fun q n z => by rw [d] at z; cases z) (fun z => by rw [d] at z; cases z)), d, r⟩
  have inK : K.In (hidT s₁.heap H) := fun b o e => hidT_get (KX b o e) (by
    cases q : H b with
    | none => rfl
    | some y =>
      rcases hA b y q with ⟨z1, _⟩ | ⟨z1, _, z3⟩
      · rw [(isT b z1).2] at e
        cases e
      · subst z1
        rw [hK (by rw [z3]; intro z; cases z)] at e
        cases e)
  have hMod : L2.Mod K mg (hidT s₁.heap H) := ⟨inK, nsB hns, ⟨mb, nsB hb, hbb⟩, let ⟨mc, h1, h2⟩ := hlim; ⟨mc, nsB h1, h2⟩⟩
  have TB : ∀ p ∈ cs, LamX.TabB (hidT s₁.heap H) mg p.1 p.2 := fun p hp => by
    refine ⟨?_, ?_, fun z => ?_⟩
    · obtain ⟨o, us, file, tf, flags, tg, inF, text, tt, e1, r1, r2, r3, rr⟩ := C p hp
      refine ⟨o, us, file, tf, flags, tg, inF, text, tt, hidT_get e1 (keptB e1 (fun q n z => by rw [r2] at z; cases z) fun z => ?_), r1, r2, r3, rr⟩
      rw [r2] at z
      cases z
      simp at r3
    · obtain ⟨bm, ob, b1, b2, b3, b4, b5, b6⟩ := hbm
      refine ⟨bm, ob, b1, b2, fun q => ?_, fun q => ?_, hidT_get b3 (keptB b3 (fun q n z => by rw [b6] at z; cases z) (fun z => by rw [b6] at z; cases z)), b4, b5, b6⟩
      · obtain ⟨o, es, ep, e, hd, _⟩ := hns
        rw [q, e] at b3
        cases b3
        rw [hd] at b6
        cases b6
      · rw [q, hT p hp] at b3
        cases b3
        cases b6
    · obtain ⟨o, es, ep, e, hd, _⟩ := hns
      rw [z, hT p hp] at e
      cases e
      cases hd
  have e0 : Env0 P w K mg (hidT s₁.heap H) callerA [] s₁ H := ⟨rfl, hMod, fun b o e => of_hidT e, Nat.le_of_eq (hidT_size _ _), trivial, fun b hb => absurd (show b ∈ ([] : List Addr) from hb) (by simp), ok, .of_eq hgens⟩
  -- what is frozen
  generalize hZ : (fun b => if b ∈ cs.map (·.2) then none else H b) = Z
  have zH : ∀ b y, Z b = some y → H b = some y ∧ b ∉ cs.map (·.2) := fun b y e => by
    rw [← hZ] at e
    have e : (if b ∈ cs.map (·.2) then none else H b) = some y := e
    split at e
    · cases e
    · rename_i q
      exact ⟨e, q⟩
  have R : Rep K S Z [] H [] := by
    refine ⟨fun b y e => (zH b y e).1, fun b ps e => ?_, rfl, List.nodup_nil, fun b hb => absurd hb (by simp), fun n b y e => by simp at e, fun p hp => LamX.TabS.nil (tabH _ (hST p hp))⟩
    obtain ⟨z1, z2⟩ := zH b _ e
    rcases hA b _ z1 with ⟨z, _⟩ | ⟨_, z, _⟩
    · exact z2 z
    · cases z
  have dS : isD K S Z [] (.lst (ns.map D.int)) (.ref a) := by
    refine ⟨a, ns.map V.int, rfl, ?_, isDs_ints.mpr rfl⟩
    cases hu2 : u with
    | none =>
      obtain ⟨o, ho⟩ := hS hu2
      have e := KX a o ho
      rw [ha] at e
      cases e
      exact .inr ⟨_, vs.toArray, _, ho, rfl, rfl, rfl, by rw [List.size_toArray, lenV]; exact hl, by simpa using rv⟩
    | some y =>
      have ey := hu y hu2
      subst ey
      refine .inl (.inr ⟨{ cls := .type "list", data := .seq vs.toArray }, ?_⟩)
      rw [← hZ]
      show (if a ∈ cs.map (·.2) then none else H a) = _
      rw [if_neg aT, ← hH, begH_self aT, hu2]
  obtain ⟨st1, em⟩ := hm
  have hf := F _ inK (nsB hns) TB
  have cc := hf.run callerA [] s₁ H ⟨[.ref a], []⟩ [.ref a] [.ref a] (fun v _ => v = .bl true) (fun _ _ _ => False) Z [] [] [.lst (ns.map D.int)] hr rfl e0 (hbind s₁ (.ref a)) (.cons rfl .nil) rfl (isDs_cons dS rfl) R (by
    rw [em]
    exact fun b Z' μ' H' s' R' q => q)
  refine codeAny_mono cc fun r s' h => ?_
  cases r with
  | error e =>
    obtain ⟨_, _, _, _, _, _, _, _, _, _, _, _, z⟩ := h
    exact z.elim
  | ok fl =>
    cases fl with
    | next => exact h.elim
    | brk => exact h.elim
    | cont => exact h.elim
    | ret q =>
      obtain ⟨v, H', os, bare, un, hok', r', e⟩ := h
      subst e
      obtain rfl : q = Value.bool true := r'
      have old : ∀ b o, b ∉ cs.map (·.2) → s₁.heap.get? b = some o → s'.heap.get? b = some o := fun b o nb e => by
        cases q : H b with
        | none => exact un.keep b o e q (by intro z; exact absurd (show b ∈ ([] : List Addr) from z) (by simp)) (by simp)
        | some y =>
          rcases hA b y q with ⟨z, _⟩ | ⟨_, z, _⟩
          · exact absurd z nb
          · subst z
            obtain ⟨e1, _⟩ := ok b _ q
            obtain ⟨e2, _⟩ := hok' b _ (un.frzs b _ _ q)
            rw [e] at e1
            cases e1
            exact e2
      have grown : ∀ p ∈ cs, ∃ more : Array Value, s'.heap.get? p.2 = some { cls := .none, data := .fields more } := fun p hp => by
        obtain ⟨more, z⟩ := un.tbls p.2 #[] (tabH _ (List.mem_map.mpr ⟨p, hp, rfl⟩))
        exact ⟨_, hok' p.2 _ z⟩
      have both : ∀ b o, s₁.heap.get? b = some o → (b ∉ cs.map (·.2) ∧ s'.heap.get? b = some o) ∨ ∃ p ∈ cs, b = p.2 := fun b o e => by
        by_cases hb : b ∈ cs.map (·.2)
        · obtain ⟨p, hp, ep⟩ := List.mem_map.mp hb
          exact .inr ⟨p, hp, ep.symm⟩
        · exact .inl ⟨hb, old b o hb e⟩
      refine ⟨rfl, ⟨fun b o e => ?_, fun b o e => ?_⟩, os, bare⟩
      · rcases both b o e with ⟨_, z⟩ | ⟨p, hp, ep⟩
        · exact .inl z
        · subst ep
          obtain ⟨more, hmore⟩ := grown p hp
          rw [hT p hp] at e
          cases e
          exact .inr (.inl ⟨((C p hp).tab (hT p hp)).isCodeTable, rfl, #[], more, rfl, by rw [Array.empty_append]; exact hmore⟩)
      · rcases both b o e with ⟨_, z⟩ | ⟨p, hp, ep⟩
        · exact ⟨o, z⟩
        · subst ep
          obtain ⟨more, hmore⟩ := grown p hp
          exact ⟨_, hmore⟩
/-- the code object, the table of the def at p -/
def tabAt (K : Frg) (p : Str × Option Str) : Addr × Addr := match K.lookup (He.fAd K p) with
  | some ⟨_, _, .func fd, _⟩ => (match fd.code with
    | .ref c => (match K.lookup c with
      | some ⟨_, _, .fields vs, _⟩ => (match (vs[11]? : Option Value) with
        | some (.ref P) => (c, P)
        | _ => (0, 0))
      | _ => (0, 0))
    | _ => (0, 0))
  | _ => (0, 0)
def codeAtB (K : Frg) (p : Str × Option Str) (c : Addr) : Bool := match K.lookup (He.fAd K p) with
  | some ⟨_, _, .func fd, _⟩ => (match fd.code with
    | .ref c' => Nat.beq c' c
    | _ => false)
  | _ => false
def emptyTab : Option Obj → Bool
  | some ⟨.none, none, .fields vs, sl⟩ => vs.isEmpty && sl.isEmpty
  | _ => false
theorem emptyTab_ok {o : Option Obj} (h : emptyTab o = true) : o = some { cls := .none, data := .fields #[] } := by
  unfold emptyTab at h
  split at h
  · rename_i vs sl
    obtain ⟨h1, h2⟩ := He.ba h
    rw [Array.isEmpty_iff.mp h1, Array.isEmpty_iff.mp h2]
  · cases h
def cutK (K : Frg) (ts : List Addr) : Frg := K.filter fun p => !(ts.contains p.1)
theorem cutK_lookup {ts : List Addr} {a : Addr} : ∀ {K : Frg}, (cutK K ts).lookup a = if ts.contains a then none else K.lookup a
  | [] => by
    unfold cutK
    simp
  | (b, o) :: K => by
    have ih := cutK_lookup (ts := ts) (a := a) (K := K)
    unfold cutK at ih ⊢
    rw [List.filter_cons]
    by_cases hb : ts.contains b = true
    · rw [if_neg (by rw [hb]; simp), ih]
      by_cases ha : ts.contains a = true
      · rw [if_pos ha, if_pos ha]
      · rw [if_neg ha, if_neg ha, List.lookup_cons]
        have : (a == b) = false := beq_eq_false_iff_ne.mpr fun e => ha (e ▸ hb)
        rw [this]
    · rw [if_pos (by simpa using hb), List.lookup_cons, List.lookup_cons, ih]
      have na : (a == b) = true → ¬ ts.contains a = true := fun e => by rw [beq_iff_eq.mp e]; exact hb
      cases hab : (a == b) with
      | true =>
        exact (if_neg (na hab)).symm
      | false => rfl
/-- mk: the defs that make lambdas; ex: what else K must say -/
def headK (n : List Addr) (mk : List (Str × Option Str)) (g : Addr → Option Obj) : Frg := cutK (He.frG g n) (mk.map fun p => (tabAt (He.frG g n) p).2)
def nodupB : List Addr → Bool
  | [] => true
  | a :: r => r.all (fun b => !(Nat.beq a b)) && nodupB r
theorem nodupB_ok : ∀ {l : List Addr}, nodupB l = true → l.Nodup
  | [], _ => List.nodup_nil
  | a :: r, h => by
    obtain ⟨h1, h2⟩ := He.ba h
    refine List.nodup_cons.mpr ⟨fun z => ?_, nodupB_ok h2⟩
    have := List.all_eq_true.mp h1 a z
    rw [Nat.beq_refl] at this
    cases this
abbrev AlM : Type := Bool × List He.FnW
def obsM (n : List Addr) (fa : List He.Fa) (fn : List He.DefD) (mk : List (Str × Option Str)) (ex : Frg → Bool) (g : Addr → Option Obj) : AlM :=
  (nodupB (mk.map fun p => (tabAt (He.frG g n) p).2) && ((He.obsD fa fn (headK n mk g)).1 && ex (headK n mk g)) && mk.all fun p => PySem.W.codeHdIn (headK n mk g) (tabAt (He.frG g n) p).1 (tabAt (He.frG g n) p).2 && (emptyTab (g (tabAt (He.frG g n) p).2) && codeAtB (headK n mk g) p (tabAt (He.frG g n) p).1),
    (He.obsD fa fn (headK n mk g)).2)
/-- what is known at the heap h -/
structure SaysM (fa : List He.Fa) (fn : List He.DefD) (mk : List (Str × Option Str)) (ex : Frg → Bool) (K : Frg) (cs : List (Addr × Addr)) (h : Heap) : Prop where
  kin : K.In h
  d : He.SaysD fa fn K
  e : ex K = true
  t : ∀ p ∈ cs, h.get? p.2 = some { cls := .none, data := .fields #[] } ∧ K.lookup p.2 = none ∧ PySem.W.CodeHd h p.1 p.2
  c : ∃ f : Str × Option Str → Addr × Addr, cs = mk.map f ∧ ∀ p ∈ mk, codeAtB K p (f p).1 = true
  nd : (cs.map (·.2)).Nodup
theorem saysM_of {n : List Addr} {fa : List He.Fa} {fn : List He.DefD} {mk : List (Str × Option Str)} {ex : Frg → Bool} {h : Heap} (e : obsM n fa fn mk ex h.get? = He.valD fn) : ∃ K cs, SaysM fa fn mk ex K cs h := by
  have e1 := congrArg (fun z : AlM => z.1) e
  have e2 := congrArg (fun z : AlM => z.2) e
  have e1 : ((nodupB (mk.map fun p => (tabAt (He.frG h.get? n) p).2) && ((He.obsD fa fn (headK n mk h.get?)).1 && ex (headK n mk h.get?))) && mk.all fun p => PySem.W.codeHdIn (headK n mk h.get?) (tabAt (He.frG h.get? n) p).1 (tabAt (He.frG h.get? n) p).2 && (emptyTab (h.get? (tabAt (He.frG h.get? n) p).2) && codeAtB (headK n mk h.get?) p (tabAt (He.frG h.get? n) p).1)) = true := e1
  obtain ⟨a1, a2⟩ := He.ba e1
  obtain ⟨a0, a1⟩ := He.ba a1
  obtain ⟨a1, a3⟩ := He.ba a1
  have hin : (headK n mk h.get?).In h := fun a o q => by
    unfold headK at q
    rw [cutK_lookup] at q
    split at q
    · cases q
    · exact He.frG_in _ _ q
  have al : ∀ p ∈ mk, _ := List.all_eq_true.mp a2
  refine ⟨headK n mk h.get?, mk.map (tabAt (He.frG h.get? n)), hin, ?_, a3, fun q hq => ?_, ⟨_, rfl, fun p hp => (He.ba (He.ba (al p hp)).2).2⟩, by rw [List.map_map]; exact nodupB_ok a0⟩
  · exact Prod.ext a1 e2
  · obtain ⟨p, hp, ep⟩ := List.mem_map.mp hq
    subst ep
    obtain ⟨b1, b2⟩ := He.ba (al p hp)
    refine ⟨emptyTab_ok (He.ba b2).1, ?_, PySem.W.codeHd_of_K hin b1⟩
    unfold headK
    rw [cutK_lookup, if_pos]
    exact List.contains_iff_mem.mpr (List.mem_map.mpr ⟨p, hp, rfl⟩)
theorem SaysM.keeps {fa : List He.Fa} {fn : List He.DefD} {mk : List (Str × Option Str)} {ex : Frg → Bool} {K : Frg} {cs : List (Addr × Addr)} {h h' : Heap} (x : SaysM fa fn mk ex K cs h) (k : ∀ b o, h.get? b = some o → h'.get? b = some o) : SaysM fa fn mk ex K cs h' :=
  ⟨x.kin.keeps k, x.d, x.e, fun p hp => ⟨k _ _ (x.t p hp).1, (x.t p hp).2.1, (x.t p hp).2.2.keeps k⟩, x.c, x.nd⟩
def hookM (n : List Addr) (fa : List He.Fa) (fn : List He.DefD) (mk : List (Str × Option Str)) (ex : Frg → Bool) : PySem.W.Hook where
  α := AlM
  obs := fun s => obsM n fa fn mk ex s.heap.get?
  val := fun _ => He.valD fn
  says := fun _ h => ∃ K cs, SaysM fa fn mk ex K cs h
  of := fun _ _ e => saysM_of e
  keeps := fun _ _ _ ⟨K, cs, x⟩ k => ⟨K, cs, x.keeps k⟩
theorem obsM_eq {n : List Addr} {fa : List He.Fa} {fn : List He.DefD} {mk : List (Str × Option Str)} {ex : Frg → Bool} {g : Addr → Option Obj} {s : Shared} (h : ∀ a, g a = s.heap.get? a) : obsM n fa fn mk ex g = (hookM n fa fn mk ex).obs s := by
  have e : g = s.heap.get? := funext h
  rw [e] <;> rfl
/-- the end: F gives the law's promise, hm the answer -/
theorem walk_ofM {l : PySem.W.OpenLaw} {n k : Nat} {n0 : List Addr} {q : Program} {loose : List Str} {XP : (Str → Option Value) → Heap → Prop} {fa : List He.Fa} {fn : List He.DefD} {mk : List (Str × Option Str)} {ex : Frg → Bool} {d : DefRec} {x : Str} {m : DM}
    (hn : l.most = some n) (hn2 : n ≤ sizeLine) (hdf : d.params.defaults = []) (hr : Room k callerA)
    (F : ∀ (w : World) (mg : Str → Option Value) (f : Addr) (h : Heap) (K : Frg) (cs : List (Addr × Addr)), SaysM fa fn mk ex K cs h → h.Ns mainGlobals mg → mg d.name = some (.ref f) →
      ∃ (fd : FuncData) (S : Sta), (∀ p ∈ S.T, p.1 ∈ cs.map (·.2)) ∧ (∀ (s : Shared) (u : Value), BindsTo s fd ⟨[u], []⟩ [(x, u)]) ∧
        ∀ base : Heap, K.In base → base.Ns mainGlobals mg → (∀ p ∈ cs, LamX.TabB base mg p.1 p.2) → FnSem l.prog w K mg base S k f fd [x] m)
    (hm : ∀ ns : List Int, ns.length ≤ n → (∀ z ∈ ns, Builtin.Int.intBits z ≤ 1048576) → ∃ st, m [.lst (ns.map D.int)] [] = .ok (.bl true) st) :
    PySem.W.WalkO q loose XP (hookM n0 fa fn mk ex).says l.row.toRowW d [] (fun f vs => PySem.call f vs) := by
  refine Att.attach_callB hn hdf fun w s₀ s₁ mg mb f o pm cd doc a vs ns G Y ho hd hcd hmg hobj hints hlen hbits hg => ?_
  obtain ⟨K, cs, says⟩ := Y
  obtain ⟨fd, S, hST, hb, hF⟩ := F w mg f _ K cs says G.T.g hmg
  exact law_callG says.kin G.T.g G.T.b G.T.builtins G.T.nolimit hg (fun p hp => (says.t p hp).1) (fun p hp => (says.t p hp).2.1) (fun p hp => (says.t p hp).2.2) G.T.bmain hobj hints (Nat.le_trans hlen hn2) hr hST hF hb (hm ns hlen hbits)
end Sm
set_option Elab.async false
set_option linter.all false
set_option maxRecDepth 100000
set_option maxHeartbeats 4000000
set_option autoImplicit false
namespace Sm
open PySem PySem.Spec PyProof.Rows L2
section
variable {α β : Type} {ρ : Env1} {st st' : Store} {d d' : D} {c : Nat}
@[simp] theorem bind_ok {a : α} {f : α → Store → Res β} : (Res.ok a st).bind f = f a st := rfl
@[simp] theorem bind_exc {f : α → Store → Res β} : (Res.exc c st).bind f = .exc c st := rfl
@[simp] theorem toS_ok {a : α} {f : α → Store → RS} : (Res.ok a st).toS ρ f = f a st := rfl
@[simp] theorem toS_exc {f : α → Store → RS} : (Res.exc c st).toS ρ f = .exc c ρ st := rfl
@[simp] theorem then_nx {f : Env1 → Store → RS} : (RS.nx ρ st).andThen f = f ρ st := rfl
@[simp] theorem then_ret {f : Env1 → Store → RS} : (RS.ret d st).andThen f = .ret d st := rfl
@[simp] theorem then_exc {f : Env1 → Store → RS} : (RS.exc c ρ st).andThen f = .exc c ρ st := rfl
@[simp] theorem then_ct {f : Env1 → Store → RS} : (RS.ct ρ st).andThen f = .ct ρ st := rfl
@[simp] theorem then_bk {f : Env1 → Store → RS} : (RS.bk ρ st).andThen f = .bk ρ st := rfl
@[simp] theorem fin_nx : fin (.nx ρ st) = .ok .non st := rfl
@[simp] theorem fin_ret : fin (.ret d st) = .ok d st := rfl
@[simp] theorem fin_exc : fin (.exc c ρ st) = .exc c st := rfl
/-- what an operator gives -/
def optR (o : Option D) (st : Store) : Res D := match o with
  | some d => .ok d st
  | none => .fail
@[simp] theorem optR_some : optR (some d) st = .ok d st := rfl
@[simp] theorem cM_ap {a : α} : cM a ρ st = .ok a st := rfl
@[simp] theorem varM_zero : varM 0 (.val d :: ρ) st = .ok d st := rfl
@[simp] theorem varM_succ {i : Nat} {sl : Sl} : varM (i + 1) (sl :: ρ) st = varM i ρ st := rfl
@[simp] theorem varB_zero : varB 0 (.val d :: ρ) st = .ok d st := rfl
@[simp] theorem varB_own {ds : List D} : varB 0 (.own ds :: ρ) st = .ok (.lst ds) st := rfl
@[simp] theorem varB_succ {i : Nat} {sl : Sl} : varB (i + 1) (sl :: ρ) st = varB i ρ st := rfl
@[simp] theorem op2_ap {f : D → D → Store → Option D} {ma mb : EM D} : op2 f ma mb ρ st = (ma ρ st).bind fun a st1 => (mb ρ st1).bind fun b st2 => optR (f a b st2) st2 := rfl
/-- a truth -/
def blR (d : D) (st : Store) : Res Bool := match d with
  | .bl b => .ok b st
  | _ => .fail
@[simp] theorem blR_bl {b : Bool} : blR (.bl b) st = .ok b st := rfl
@[simp] theorem tst_ap {m : EM D} : tst m ρ st = (m ρ st).bind blR := rfl
@[simp] theorem andM_ap {a b : EM Bool} : andM a b ρ st = (a ρ st).bind fun c st1 => if c = true then b ρ st1 else .ok false st1 := rfl
@[simp] theorem orM_ap {a b : EM Bool} : orM a b ρ st = (a ρ st).bind fun c st1 => if c = true then .ok true st1 else b ρ st1 := rfl
@[simp] theorem notM_ap {a : EM Bool} : notM a ρ st = (a ρ st).bind fun c st1 => .ok (!c) st1 := rfl
@[simp] theorem andV_ap {a b : EM D} : andV a b ρ st = (tst a ρ st).bind fun c st1 => if c = true then b ρ st1 else .ok (.bl false) st1 := rfl
@[simp] theorem orV_ap {a b : EM D} : orV a b ρ st = (tst a ρ st).bind fun c st1 => if c = true then .ok (.bl true) st1 else b ρ st1 := rfl
@[simp] theorem notV_ap {a : EM D} : notV a ρ st = (tst a ρ st).bind fun c st1 => .ok (.bl (!c)) st1 := rfl
@[simp] theorem ifM_ap {t : EM Bool} {a b : EM α} : ifM t a b ρ st = (t ρ st).bind fun c st1 => if c = true then a ρ st1 else b ρ st1 := rfl
@[simp] theorem nilM_ap : nilM ρ st = .ok [] st := rfl
@[simp] theorem consM_ap {a : EM D} {r : EM (List D)} : consM a r ρ st = (a ρ st).bind fun d st1 => (r ρ st1).bind fun ds st2 => .ok (d :: ds) st2 := rfl
@[simp] theorem tupM_ap {m : EM (List D)} : tupM m ρ st = (m ρ st).bind fun ds st1 => if ds.length ≤ 1000 then .ok (.tup ds) st1 else .fail := rfl
@[simp] theorem lstM_ap {m : EM (List D)} : lstM m ρ st = (m ρ st).bind fun ds st1 => if ds.length ≤ 1000 then .ok ds st1 else .fail := rfl
@[simp] theorem frzM_ap {m : EM (List D)} : frzM m ρ st = (m ρ st).bind fun ds st1 => .ok (.lst ds) st1 := rfl
@[simp] theorem allocM_ap {m : EM (List D)} : allocM m ρ st = (m ρ st).bind fun ds st1 => .ok (.ref st1.length) (st1 ++ [.lst ds]) := rfl
/-- minus -/
def negR (d : D) (st : Store) : Res D := match d with
  | .int i => .ok (.int (-i)) st
  | _ => .fail
@[simp] theorem negR_int {i : Int} : negR (.int i) st = .ok (.int (-i)) st := rfl
@[simp] theorem negM_ap {m : EM D} : negM m ρ st = (m ρ st).bind negR := rfl
@[simp] theorem callB_ap {f : List D → Store → Option D} {m : EM (List D)} : callB f m ρ st = (m ρ st).bind fun ds st1 => optR (f ds st1) st1 := rfl
@[simp] theorem callM_ap {m : DM} {n np : Nat} {g : List D → List D → List D} {ma : EM (List D)} : callM m n np g ma ρ st = (ma ρ st).bind fun ds st1 => if ds.length = n then m (g ds []) st1 else .fail := rfl
@[simp] theorem callKM_ap {m : DM} {n nk : Nat} {g : List D → List D → List D} {ma mk : EM (List D)} : callKM m n nk g ma mk ρ st = (ma ρ st).bind fun ds st1 => (mk ρ st1).bind fun es st2 => if ds.length = n ∧ es.length = nk then m (g ds es) st2 else .fail := rfl
@[simp] theorem makeM_ap {k n : Nat} {m : List D → Store → Res (List D)} {g : List D → List D → List D} {ma : EM (List D)} : makeM k m n g ma ρ st = (ma ρ st).bind fun ds st1 => if ds.length = n then (m (g ds []) st1).bind fun es st2 => .ok (.ins k es) st2 else .fail := rfl
@[simp] theorem makeKM_ap {k n nk : Nat} {m : List D → Store → Res (List D)} {g : List D → List D → List D} {ma mk : EM (List D)} : makeKM k m n nk g ma mk ρ st = (ma ρ st).bind fun ds st1 => (mk ρ st1).bind fun es st2 => if ds.length = n ∧ es.length = nk then (m (g ds es) st2).bind fun es st3 => .ok (.ins k es) st3 else .fail := rfl
/-- a field -/
def fldR (c i : Nat) (d : D) (st : Store) : Res D := match d with
  | .ins c' fs => if c' = c then optR (fs[i]?) st else .fail
  | _ => .fail
@[simp] theorem fldM_ap {k i : Nat} {m : EM D} : fldM k i m ρ st = (m ρ st).bind (fldR k i) := rfl
@[simp] theorem fldR_ins {k i : Nat} {fs : List D} : fldR k i (.ins k fs) st = optR (fs[i]?) st := if_pos rfl
/-- a method of an instance -/
def methR (c : Nat) (m : DM) (n : Nat) (ma : EM (List D)) (ρ : Env1) (d : D) (st : Store) : Res D := match d with
  | .ins c' fs => if c' = c then (ma ρ st).bind fun ds st2 => if ds.length + 1 = n then m (.ins c' fs :: ds) st2 else .fail else .fail
  | _ => .fail
@[simp] theorem methM_ap {k n : Nat} {m : DM} {mo : EM D} {ma : EM (List D)} : methM k m n mo ma ρ st = (mo ρ st).bind (methR k m n ma ρ) := rfl
@[simp] theorem methR_ins {k n : Nat} {m : DM} {ma : EM (List D)} {fs : List D} : methR k m n ma ρ (.ins k fs) st = (ma ρ st).bind fun ds st2 => if ds.length + 1 = n then m (.ins k fs :: ds) st2 else .fail := if_pos rfl
def meth0R (c : Nat) (m : DM) (d : D) (st : Store) : Res D := match d with
  | .ins c' fs => if c' = c then m [.ins c' fs] st else .fail
  | _ => .fail
@[simp] theorem meth0M_ap {k : Nat} {m : DM} {mo : EM D} : meth0M k m mo ρ st = (mo ρ st).bind (meth0R k m) := rfl
@[simp] theorem meth0R_ins {k : Nat} {m : DM} {fs : List D} : meth0R k m (.ins k fs) st = m [.ins k fs] st := if_pos rfl
@[simp] theorem nilS_ap : nilS ρ st = .nx ρ st := rfl
@[simp] theorem seqS_ap {a b : SM} : seqS a b ρ st = (a ρ st).andThen b := rfl
@[simp] theorem brkS_ap : brkS ρ st = .bk ρ st := rfl
@[simp] theorem ctS_ap : ctS ρ st = .ct ρ st := rfl
@[simp] theorem retS_ap {m : EM D} : retS m ρ st = (m ρ st).toS ρ fun d st1 => .ret d st1 := rfl
@[simp] theorem retN_ap : retN ρ st = .ret .non st := rfl
@[simp] theorem excS_ap {k : Nat} : excS k ρ st = .exc k ρ st := rfl
@[simp] theorem dropS_ap {m : EM D} : dropS m ρ st = (m ρ st).toS ρ fun _ st1 => .nx ρ st1 := rfl
@[simp] theorem ifS_ap {t : EM Bool} {a b : SM} : ifS t a b ρ st = (t ρ st).toS ρ fun t st1 => if t = true then a ρ st1 else b ρ st1 := rfl
@[simp] theorem setS_ap {i : Nat} {m : EM D} : setS i m ρ st = (m ρ st).toS ρ fun d st1 => .nx (ρ.set i (.val d)) st1 := rfl
@[simp] theorem setF_ap {i : Nat} {m : EM (List D)} : setF i m ρ st = (m ρ st).toS ρ fun d st1 => .nx (ρ.set i (.own d)) st1 := rfl
def parR (i j : Nat) (ρ : Env1) (ds : List D) (st : Store) : RS := match ds with
  | [a, b] => .nx ((ρ.set i (.val a)).set j (.val b)) st
  | _ => .fail
@[simp] theorem parS_ap {i j : Nat} {m : EM (List D)} : parS i j m ρ st = (m ρ st).toS ρ (parR i j ρ) := rfl
@[simp] theorem parR_two {i j : Nat} {a b : D} : parR i j ρ [a, b] st = .nx ((ρ.set i (.val a)).set j (.val b)) st := rfl
@[simp] theorem asgS_ap {m : EM D} {g : GM} : asgS m g ρ st = (m ρ st).toS ρ fun d st1 => toEnd (g d ρ st1) := rfl
@[simp] theorem toEnd_nx : toEnd (.nx ρ st) = .nx ρ st := rfl
@[simp] theorem tupG_ap {n : Nat} {g : GMs} {ds : List D} : tupG n g (.tup ds) ρ st = if ds.length = n then g ds ρ st else .fail := rfl
@[simp] theorem nilG_ap : nilG [] ρ st = .nx ρ st := rfl
@[simp] theorem consG_ap {a : GM} {r : GMs} {ds : List D} : consG a r (d :: ds) ρ st = (a d ρ st).andThen (r ds) := rfl
@[simp] theorem setG_ap {i : Nat} : setG i d ρ st = .nx (ρ.set i (.val d)) st := rfl
variable {i j : Int}
@[simp] theorem sub_int : subD (.int i) (.int j) st = some (.int (i - j)) := rfl
@[simp] theorem add_int' : addD (.int i) (.int j) st = some (.int (i + j)) := rfl
theorem mul_int' (h : mulOk i j = true) : mulD (.int i) (.int j) st = some (.int (i * j)) := if_pos h
theorem div_int' (h : divOk i j = true) : divD (.int i) (.int j) st = some (.int (i.fdiv j)) := if_pos h
theorem mod_int'' (h : j ≠ 0) : modD (.int i) (.int j) st = some (.int (i.fmod j)) := if_pos (decide_eq_true h)
@[simp] theorem lt_int' : ltD (.int i) (.int j) st = some (.bl (decide (i < j))) := rfl
@[simp] theorem le_int' : leD (.int i) (.int j) st = some (.bl (decide (i ≤ j))) := rfl
@[simp] theorem gt_int' : gtD (.int i) (.int j) st = some (.bl (decide (j < i))) := rfl
@[simp] theorem ge_int' : geD (.int i) (.int j) st = some (.bl (decide (j ≤ i))) := rfl
@[simp] theorem eq_int' : eqD (.int i) (.int j) st = some (.bl (decide (i = j))) := by
  simp [eqD, pyB, pyOf, SeqAt.shaped, PyData.canLay0, PyData.depth, PyData.eqv]
  rfl
@[simp] theorem ne_int' : neD (.int i) (.int j) st = some (.bl (!decide (i = j))) := by
  simp [neD, pyB, pyOf, SeqAt.shaped, PyData.canLay0, PyData.depth, PyData.eqv]
  rfl
@[simp] theorem isN_ap : isD_ d .non st = some (.bl (isNon d)) := rfl
@[simp] theorem isNotN_ap : isNotD d .non st = some (.bl (!isNon d)) := rfl
@[simp] theorem ix_tup {ds : List D} : ixD (.tup ds) (.int i) st = atI ds i := rfl
@[simp] theorem ix_lst {ds : List D} : ixD (.lst ds) (.int i) st = atI ds i := rfl
theorem at_nat {ds : List D} {j : Nat} (h : ds[j]? = some d) : atI ds (j : Int) = some d := by
  obtain ⟨hl, _⟩ := List.getElem?_eq_some_iff.mp h
  unfold atI ixN
  rw [if_pos (by omega), if_pos (by omega)]
  exact h
@[simp] theorem at_0 {x0 : D} {r : List D} : atI (x0 :: r) 0 = some x0 := at_nat (j := 0) rfl
@[simp] theorem at_1 {x0 x1 : D} {r : List D} : atI (x0 :: x1 :: r) 1 = some x1 := at_nat (j := 1) rfl
@[simp] theorem at_2 {x0 x1 x2 : D} {r : List D} : atI (x0 :: x1 :: x2 :: r) 2 = some x2 := at_nat (j := 2) rfl
@[simp] theorem at_3 {x0 x1 x2 x3 : D} {r : List D} : atI (x0 :: x1 :: x2 :: x3 :: r) 3 = some x3 := at_nat (j := 3) rfl
@[simp] theorem at_4 {x0 x1 x2 x3 x4 : D} {r : List D} : atI (x0 :: x1 :: x2 :: x3 :: x4 :: r) 4 = some x4 := at_nat (j := 4) rfl
@[simp] theorem at_5 {x0 x1 x2 x3 x4 x5 : D} {r : List D} : atI (x0 :: x1 :: x2 :: x3 :: x4 :: x5 :: r) 5 = some x5 := at_nat (j := 5) rfl
@[simp] theorem at_6 {x0 x1 x2 x3 x4 x5 x6 : D} {r : List D} : atI (x0 :: x1 :: x2 :: x3 :: x4 :: x5 :: x6 :: r) 6 = some x6 := at_nat (j := 6) rfl
@[simp] theorem abs_ap : absB [.int i] st = some (.int (i.natAbs : Int)) := by
  show some (D.int (if i < 0 then -i else i)) = _
  congr 2
  split <;> omega
@[simp] theorem int_ap : intB [.int i] st = some (.int i) := rfl
@[simp] theorem int_bl {b : Bool} : intB [.bl b] st = some (.int (if b then 1 else 0)) := rfl
@[simp] theorem isNon_tup {ds : List D} : isNon (.tup ds) = false := rfl
@[simp] theorem isNon_non : isNon .non = true := rfl
@[simp] theorem isNon_int : isNon (.int i) = false := rfl
@[simp] theorem isNon_ins {k : Nat} {ds : List D} : isNon (.ins k ds) = false := rfl
@[simp] theorem fldS_ap {i k : Nat} {f : Str} {m : EM D} : fldS i k f m ρ st = (m ρ st).toS ρ fun d st1 => putObj i k f d ρ st1 := rfl
@[simp] theorem putObj_ap {k : Nat} {f : Str} {fs : List (Str × D)} : putObj 0 k f d (.obj k fs :: ρ) st = if f ∉ fs.map (·.1) ∧ fs.length < 500 then .nx (.obj k (fs ++ [(f, d)]) :: ρ) st else .fail := by
  show (if k = k ∧ f ∉ fs.map (·.1) ∧ fs.length < 500 then RS.nx _ st else .fail) = _
  by_cases h : f ∉ fs.map (·.1) ∧ fs.length < 500
  · rw [if_pos ⟨rfl, h⟩, if_pos h]
    rfl
  · rw [if_neg fun q => h q.2, if_neg h]
@[simp] theorem finI_nx {S : Sta} {k : Nat} {fs : List (Str × D)} : finI S k (.nx (.obj k fs :: ρ) st) = if fs.map (·.1) = S.cf k then .ok (fs.map (·.2)) st else .fail := by
  show (if k = k ∧ fs.map (·.1) = S.cf k then Res.ok _ st else .fail) = _
  by_cases h : fs.map (·.1) = S.cf k
  · rw [if_pos ⟨rfl, h⟩, if_pos h]
  · rw [if_neg fun q => h q.2, if_neg h]
/-- a <= b <= c, behind a <= b -/
def chR (g : D → D → Store → Option D) (mc : EM D) (ρ : Env1) (b : D) (st : Store) (o : Option D) : Res D := match o with
  | some (.bl true) => (mc ρ st).bind fun c st3 => optR (g b c st3) st3
  | some (.bl false) => .ok (.bl false) st
  | _ => .fail
@[simp] theorem chn_ap {f g : D → D → Store → Option D} {ma mb mc : EM D} : chn f g ma mb mc ρ st = (ma ρ st).bind fun a st1 => (mb ρ st1).bind fun b st2 => chR g mc ρ b st2 (f a b st2) := rfl
@[simp] theorem chR_bl {g : D → D → Store → Option D} {mc : EM D} {x : D} {k : Bool} : chR g mc ρ x st (some (.bl k)) = if k = true then (mc ρ st).bind fun c st3 => optR (g x c st3) st3 else .ok (.bl false) st := by
  cases k <;> rfl
@[simp] theorem if_bl {p : Prop} [Decidable p] {k : Bool} : (if p then Res.ok (D.bl k) st else Res.ok (D.bl false) st) = .ok (.bl (decide p && k)) st := by
  by_cases h : p <;> simp [h]
theorem whileT {k : EM Bool} {b : SM} {ρ2 : Env1} {st1 st2 : Store} (h1 : k ρ st = .ok true st1) (h2 : b ρ st1 = .nx ρ2 st2) : whileS k b ρ st = whileS k b ρ2 st2 := by
  rw [whileS_eq, h1]
  show (match b ρ st1 with
    | .nx ρ2 st2 => whileS k b ρ2 st2
    | .ct ρ2 st2 => whileS k b ρ2 st2
    | .bk ρ2 st2 => RS.nx ρ2 st2
    | r => r) = _
  rw [h2]
theorem whileF {k : EM Bool} {b : SM} {st1 : Store} (h1 : k ρ st = .ok false st1) : whileS k b ρ st = .nx ρ st1 := by
  rw [whileS_eq, h1]
theorem mulOk_of {m n : Nat} (h1 : i.natAbs < 2 ^ m) (h2 : j.natAbs < 2 ^ n) (h : m + n ≤ 900000) : mulOk i j = true := by
  have l : ∀ {k a : Nat}, a < 2 ^ k → a.log2 ≤ k := fun {k a} h => by
    by_cases ha : a = 0
    · subst ha; simp
    · exact Nat.le_of_lt ((Nat.log2_lt ha).mpr h)
  have := l h1
  have := l h2
  exact decide_eq_true (by omega)
theorem divOk_of {n : Nat} (h0 : j ≠ 0) (h2 : j.natAbs < 2 ^ n) (h : n ≤ 9000) : divOk i j = true := by
  refine decide_eq_true ⟨h0, ?_⟩
  have := (Nat.log2_lt (n := j.natAbs) (k := n) (by omega)).mpr h2
  omega
end
end Sm
set_option Elab.async false
set_option linter.all false
set_option maxRecDepth 100000
set_option maxHeartbeats 4000000
set_option autoImplicit false
namespace Sm
open PySem
/-- a quotient as a pair -/
def qD (x : Rat) : D := .tup [.int x.num, .int (x.den : Int)]
/-- what both numbers are divided by -/
def byN (a b : Int) : Int := if 0 < b then ((Nat.gcd a.natAbs b.natAbs : Nat) : Int) else -((Nat.gcd a.natAbs b.natAbs : Nat) : Int)
theorem low_num {a b : Int} (hb : b ≠ 0) : a.fdiv (byN a b) = (Rat.divInt a b).num ∧ b.fdiv (byN a b) = ((Rat.divInt a b).den : Int) := by
  have hg : (b.gcd a : Nat) = Nat.gcd a.natAbs b.natAbs := by rw [Int.gcd_comm]; rfl
  have h1 : ((Nat.gcd a.natAbs b.natAbs : Nat) : Int) ∣ a := Int.gcd_dvd_left ..
  have h2 : ((Nat.gcd a.natAbs b.natAbs : Nat) : Int) ∣ b := Int.gcd_dvd_right ..
  have hp : 0 < Nat.gcd a.natAbs b.natAbs := Nat.gcd_pos_of_pos_right _ (by omega)
  rw [Rat.num_divInt, Rat.den_divInt, if_neg hb, hg]
  unfold byN
  generalize Nat.gcd a.natAbs b.natAbs = G at *
  have hz : (G : Int) ≠ 0 := by omega
  by_cases h : 0 < b
  · rw [if_pos h, Int.fdiv_eq_ediv_of_dvd h1, Int.fdiv_eq_ediv_of_dvd h2, Int.sign_eq_one_of_pos h, Int.one_mul]
    refine ⟨rfl, ?_⟩
    rw [Int.natCast_ediv]
    congr 1
    omega
  · have hn : b < 0 := by omega
    rw [if_neg h, Int.fdiv_eq_ediv_of_dvd (Int.neg_dvd.mpr h1), Int.fdiv_eq_ediv_of_dvd (Int.neg_dvd.mpr h2), Int.sign_eq_neg_one_of_neg hn, Int.ediv_neg, Int.ediv_neg]
    obtain ⟨c, hc⟩ := h1
    obtain ⟨e, he⟩ := h2
    refine ⟨?_, ?_⟩
    · rw [hc, Int.mul_ediv_cancel_left _ hz, show -1 * ((G : Int) * c) = (G : Int) * (-c) by grind, Int.mul_ediv_cancel_left _ hz]
    · rw [Int.natCast_ediv]
      have e1 : ((b.natAbs : Nat) : Int) = -b := by omega
      rw [e1, he, Int.mul_ediv_cancel_left _ hz, show -((G : Int) * e) = (G : Int) * (-e) by grind, Int.mul_ediv_cancel_left _ hz]
theorem byN_ne {a b : Int} (hb : b ≠ 0) : byN a b ≠ 0 := by
  have hp : 0 < Nat.gcd a.natAbs b.natAbs := Nat.gcd_pos_of_pos_right _ (by omega)
  unfold byN
  split <;> omega
theorem byN_le {a b : Int} (hb : b ≠ 0) : (byN a b).natAbs ≤ b.natAbs := by
  have hp : Nat.gcd a.natAbs b.natAbs ≤ b.natAbs := Nat.gcd_le_right _ (by omega)
  unfold byN
  split <;> omega
/-- sizes: the top below 2^n, the bottom below 2^d -/
structure Bq (n d : Nat) (x : Rat) : Prop where
  num : x.num.natAbs < 2 ^ n
  den : x.den < 2 ^ d
theorem Bq.divInt {a b : Int} {n d : Nat} (hb : b ≠ 0) (h1 : a.natAbs < 2 ^ n) (h2 : b.natAbs < 2 ^ d) : Bq n d (Rat.divInt a b) := by
  constructor
  · refine Nat.lt_of_le_of_lt ?_ h1
    rw [Rat.num_divInt]
    have e : (b.sign * a).natAbs = a.natAbs := by
      rw [Int.natAbs_mul, Int.natAbs_sign_of_ne_zero hb, Nat.one_mul]
    have hd : ((b.gcd a : Nat) : Int) ∣ b.sign * a := Int.dvd_trans (Int.gcd_dvd_right ..) ⟨b.sign, Int.mul_comm ..⟩
    have hp : 0 < b.gcd a := Nat.pos_of_ne_zero fun q => hb (Int.gcd_eq_zero_iff.mp q).1
    rw [← e]
    generalize b.sign * a = t at *
    generalize b.gcd a = G at *
    obtain ⟨c, rfl⟩ := hd
    rw [Int.mul_ediv_cancel_left _ (by omega), Int.natAbs_mul, Int.natAbs_natCast]
    exact Nat.le_mul_of_pos_left _ hp
  · refine Nat.lt_of_le_of_lt ?_ h2
    rw [Rat.den_divInt, if_neg hb]
    exact Nat.div_le_self _ _
theorem Bq.mono {n d n' d' : Nat} {x : Rat} (h : Bq n d x) (hn : n ≤ n') (hd : d ≤ d') : Bq n' d' x := ⟨Nat.lt_of_lt_of_le h.num (Nat.pow_le_pow_right (by decide) hn), Nat.lt_of_lt_of_le h.den (Nat.pow_le_pow_right (by decide) hd)⟩
theorem mul_lt {a b m n : Nat} (h1 : a < 2 ^ m) (h2 : b < 2 ^ n) : a * b < 2 ^ (m + n) := by
  rw [Nat.pow_add]
  have p1 := Nat.two_pow_pos n
  calc a * b ≤ a * 2 ^ n := Nat.mul_le_mul_left _ (Nat.le_of_lt h2)
    _ < 2 ^ m * 2 ^ n := Nat.mul_lt_mul_of_pos_right h1 p1
theorem imul_lt {a b : Int} {m n : Nat} (h1 : a.natAbs < 2 ^ m) (h2 : b.natAbs < 2 ^ n) : (a * b).natAbs < 2 ^ (m + n) := by
  rw [Int.natAbs_mul]
  exact mul_lt h1 h2
theorem iadd_lt {a b : Int} {m n k : Nat} (h1 : a.natAbs < 2 ^ m) (h2 : b.natAbs < 2 ^ n) (hm : m < k) (hn : n < k) : (a + b).natAbs < 2 ^ k := by
  obtain ⟨j, rfl⟩ : ∃ j, k = j + 1 := ⟨k - 1, by omega⟩
  have q1 : 2 ^ m ≤ 2 ^ j := Nat.pow_le_pow_right (by decide) (by omega)
  have q2 : 2 ^ n ≤ 2 ^ j := Nat.pow_le_pow_right (by decide) (by omega)
  rw [Nat.pow_succ]
  omega
theorem den_ne (x : Rat) : (x.den : Int) ≠ 0 := by have := x.den_nz; omega
theorem add_eq (x y : Rat) : x + y = Rat.divInt (x.num * y.den + y.num * x.den) ((x.den : Int) * y.den) := by
  rw [← Rat.divInt_add_divInt _ _ (den_ne x) (den_ne y), Rat.num_divInt_den, Rat.num_divInt_den]
theorem mul_eq (x y : Rat) : x * y = Rat.divInt (x.num * y.num) ((x.den : Int) * y.den) := by
  rw [← Rat.divInt_mul_divInt, Rat.num_divInt_den, Rat.num_divInt_den]
theorem Bq.add {n d m e k : Nat} {x y : Rat} (h1 : Bq n d x) (h2 : Bq m e y) (hk : n + e < k) (hk2 : m + d < k) : Bq k (d + e) (x + y) := by
  rw [add_eq]
  refine Bq.divInt (Int.mul_ne_zero (den_ne x) (den_ne y)) (iadd_lt (imul_lt h1.num (n := e) ?_) (imul_lt h2.num (n := d) ?_) hk hk2) (imul_lt ?_ ?_)
  · rw [Int.natAbs_natCast]; exact h2.den
  · rw [Int.natAbs_natCast]; exact h1.den
  · rw [Int.natAbs_natCast]; exact h1.den
  · rw [Int.natAbs_natCast]; exact h2.den
theorem Bq.mul {n d m e : Nat} {x y : Rat} (h1 : Bq n d x) (h2 : Bq m e y) : Bq (n + m) (d + e) (x * y) := by
  rw [mul_eq]
  refine Bq.divInt (Int.mul_ne_zero (den_ne x) (den_ne y)) (imul_lt h1.num h2.num) (imul_lt ?_ ?_)
  · rw [Int.natAbs_natCast]; exact h1.den
  · rw [Int.natAbs_natCast]; exact h2.den
theorem Bq.neg {n d : Nat} {x : Rat} (h : Bq n d x) : Bq n d (-x) := ⟨by rw [Rat.neg_num, Int.natAbs_neg]; exact h.num, by rw [Rat.neg_den]; exact h.den⟩
theorem Bq.sub {n d m e k : Nat} {x y : Rat} (h1 : Bq n d x) (h2 : Bq m e y) (hk : n + e < k) (hk2 : m + d < k) : Bq k (d + e) (x - y) := by
  rw [Rat.sub_eq_add_neg]
  exact h1.add h2.neg hk hk2
theorem inv_eq (x : Rat) : x⁻¹ = Rat.divInt x.den x.num := by
  rw [← Rat.inv_divInt, Rat.num_divInt_den]
theorem Bq.inv {n d : Nat} {x : Rat} (h : Bq n d x) (h0 : x ≠ 0) : Bq d n x⁻¹ := by
  rw [inv_eq]
  refine Bq.divInt (fun q => h0 (Rat.num_eq_zero.mp q)) ?_ h.num
  rw [Int.natAbs_natCast]; exact h.den
theorem Bq.div {n d m e : Nat} {x y : Rat} (h1 : Bq n d x) (h2 : Bq m e y) (h0 : y ≠ 0) : Bq (n + e) (d + m) (x / y) := by
  rw [Rat.div_def]
  exact h1.mul (h2.inv h0)
theorem num_pos' {x : Rat} : 0 < x.num ↔ 0 < x := by
  have h1 := Rat.num_nonneg (q := x)
  have h2 := Rat.num_eq_zero (q := x)
  constructor
  · intro h
    have a : 0 ≤ x := h1.mp (by omega)
    have b : x ≠ 0 := fun q => by
      have := h2.mpr q
      omega
    grind
  · intro h
    have a : 0 ≤ x.num := h1.mpr (by grind)
    have b : x.num ≠ 0 := fun q => by
      have := h2.mp q
      grind
    omega
/-- a quotient as an Exact -/
def eD (x : Rat) : D := .ins 0 [.int x.num, .int (x.den : Int), .int 0, .int 0, .int 1]
section
variable {x : Rat} {ρ : Env1} {st : Store}
@[simp] theorem ix_q0 : ixD (qD x) (.int 0) st = some (.int x.num) := at_0
@[simp] theorem ix_q1 : ixD (qD x) (.int 1) st = some (.int (x.den : Int)) := at_1
@[simp] theorem tupG_q {g : GMs} : tupG 2 g (qD x) ρ st = g [.int x.num, .int (x.den : Int)] ρ st := rfl
@[simp] theorem non_q : isNon (qD x) = false := rfl
@[simp] theorem non_e : isNon (eD x) = false := rfl
@[simp] theorem fld_e0 : fldR 0 0 (eD x) st = .ok (.int x.num) st := rfl
@[simp] theorem fld_e1 : fldR 0 1 (eD x) st = .ok (.int (x.den : Int)) st := rfl
@[simp] theorem fld_e2 : fldR 0 2 (eD x) st = .ok (.int 0) st := rfl
@[simp] theorem fld_e3 : fldR 0 3 (eD x) st = .ok (.int 0) st := rfl
@[simp] theorem fld_e4 : fldR 0 4 (eD x) st = .ok (.int 1) st := rfl
@[simp] theorem meth_e {m : DM} {n : Nat} {ma : EM (List D)} : methR 0 m n ma ρ (eD x) st = (ma ρ st).bind fun ds st2 => if ds.length + 1 = n then m (eD x :: ds) st2 else .fail := rfl
@[simp] theorem meth0_e {m : DM} : meth0R 0 m (eD x) st = m [eD x] st := rfl
theorem mk_e {t b : Int} (h : Rat.divInt t b = x) : D.ins 0 [.int (Rat.divInt t b).num, .int ((Rat.divInt t b).den : Int), .int 0, .int 0, .int 1] = eD x := by rw [h]; rfl
end
end Sm
set_option Elab.async false
set_option linter.all false
set_option maxRecDepth 100000
set_option maxHeartbeats 4000000
set_option autoImplicit false
set_option exponentiation.threshold 3000
namespace Sm
open PySem PySem.Spec PyProof.Rows L2
def Shw (n k : Nat) (d : D) : Prop := ∃ p, pyOf d = some p ∧ p.showable = true ∧ p.hasDict = false ∧ p.depth ≤ k ∧ p.shown.length ≤ n
def ShwL (n k : Nat) (ds : List D) : Prop := ∃ ps, pyOfs ds = some ps ∧ PyData.showableAll ps = true ∧ PyData.hasDictAll ps = false ∧ PyData.depthAll ps ≤ k ∧ ((PyData.shownAll ps).map (·.length)).sum + 2 * (PyData.shownAll ps).length ≤ n
theorem pow_big : (2 : Nat) ^ 1900 < 10 ^ 590 := by decide +kernel
theorem shw_int {i : Int} {k : Nat} (h : i.natAbs < 2 ^ 1900) : Shw 600 k (.int i) := by
  refine ⟨.int i, rfl, ?_, rfl, Nat.zero_le _, ?_⟩
  · show decide (i.natAbs.log2 < 1920) = true
    refine decide_eq_true ?_
    by_cases h0 : i.natAbs = 0
    · rw [h0]; decide
    · have := (Nat.log2_lt h0).mpr h
      omega
  · show (Str.ofString (toString i)).length ≤ 600
    have hb := pow_big
    have big : ∀ v : Int, 0 ≤ v → v.natAbs < 2 ^ 1900 → (Str.ofString (toString v)).length ≤ 590 := fun v h0 hv => by
      refine toString_length_le h0 (by decide) ?_
      have : v = (v.natAbs : Int) := by omega
      rw [this]
      exact_mod_cast Nat.lt_trans hv hb
    by_cases h0 : 0 ≤ i
    · have := big i h0 h
      omega
    · have e := len_text_neg (n := i) (by omega)
      have := big (0 - i) (by omega) (by omega)
      omega
theorem shw_bl {b : Bool} {k : Nat} : Shw 600 k (.bl b) := ⟨.bool b, rfl, rfl, rfl, Nat.zero_le _, by cases b <;> decide⟩
theorem shw_non {k : Nat} : Shw 600 k .non := ⟨.none, rfl, rfl, rfl, Nat.zero_le _, by decide⟩
theorem shw_str {x : Str} {k : Nat} (h : (reprText x).length ≤ 600) : Shw 600 k (.str x) := ⟨.str x, rfl, rfl, rfl, Nat.zero_le _, h⟩
theorem shw_nil {k : Nat} : ShwL 0 k [] := ⟨[], rfl, rfl, rfl, Nat.zero_le _, Nat.le_refl _⟩
theorem shw_cons {n m k : Nat} {d : D} {ds : List D} (h : Shw n k d) (t : ShwL m k ds) : ShwL (n + m + 2) k (d :: ds) := by
  obtain ⟨p, e1, h1, h2, h3, h4⟩ := h
  obtain ⟨ps, e2, t1, t2, t3, t4⟩ := t
  refine ⟨p :: ps, ?_, ?_, ?_, ?_, ?_⟩
  · show (match pyOf d, pyOfs ds with
      | some p, some ps => some (p :: ps)
      | _, _ => none) = _
    rw [e1, e2]
  · show (p.showable && PyData.showableAll ps) = true
    rw [h1, t1]; rfl
  · show (p.hasDict || PyData.hasDictAll ps) = false
    rw [h2, t2]; rfl
  · show max p.depth (PyData.depthAll ps) ≤ k
    omega
  · show ((p.shown :: PyData.shownAll ps).map (·.length)).sum + 2 * (p.shown :: PyData.shownAll ps).length ≤ _
    rw [List.map_cons, List.sum_cons, List.length_cons]
    omega
theorem shw_tup {n k : Nat} {ds : List D} (t : ShwL n k ds) : Shw (n + 3) (k + 1) (.tup ds) := by
  obtain ⟨ps, e2, t1, t2, t3, t4⟩ := t
  refine ⟨.tuple ps, ?_, t1, t2, ?_, ?_⟩
  · show (pyOfs ds).map PyData.tuple = _
    rw [e2]; rfl
  · show PyData.depthAll ps + 1 ≤ k + 1
    omega
  · show (tupleText (PyData.shownAll ps)).length ≤ _
    have := tupleText_len_le (PyData.shownAll ps)
    omega
theorem shw_lst {n k : Nat} {ds : List D} (t : ShwL n k ds) : Shw (n + 3) (k + 1) (.lst ds) := by
  obtain ⟨ps, e2, t1, t2, t3, t4⟩ := t
  refine ⟨.list ps, ?_, t1, t2, ?_, ?_⟩
  · show (pyOfs ds).map PyData.list = _
    rw [e2]; rfl
  · show PyData.depthAll ps + 1 ≤ k + 1
    omega
  · show (listText (PyData.shownAll ps)).length ≤ _
    have := listText_len_le (PyData.shownAll ps)
    omega
theorem shw_mono {n k n' k' : Nat} {d : D} (h : Shw n k d) (h1 : n ≤ n') (h2 : k ≤ k') : Shw n' k' d := by
  obtain ⟨p, e1, q1, q2, q3, q4⟩ := h
  exact ⟨p, e1, q1, q2, Nat.le_trans q3 h2, Nat.le_trans q4 h1⟩
theorem repr_str {x : Str} {st : Store} (h : (reprText x).length ≤ 600) : reprB [.str x] st = some (.str (reprText x)) := by
  show (if (reprText x).length ≤ sizeLine then some (D.str (reprText x)) else none) = _
  rw [if_pos (by rw [sizeLine_eq]; omega)]
/-- the text of a list or a tuple -/
theorem repr_ev {n k : Nat} {d : D} {st : Store} (hd : (∃ ds, d = .lst ds) ∨ ∃ ds, d = .tup ds) (h : Shw n k d) (hn : n ≤ 16000000) (hk : k ≤ 60) : ∃ x, reprB [d] st = some (.str x) := by
  obtain ⟨p, e1, q1, q2, q3, q4⟩ := h
  have ok : reprOk p = true := by
    unfold reprOk
    rw [q1, q2, decide_eq_true (p := p.depth ≤ 60) (by omega), decide_eq_true (p := p.shown.length ≤ sizeLine) (by rw [sizeLine_eq]; omega)]
    rfl
  refine ⟨p.shown, ?_⟩
  rcases hd with ⟨ds, rfl⟩ | ⟨ds, rfl⟩
  · show (match pyOf (.lst ds) with
      | some p => if reprOk p = true then some (D.str p.shown) else none
      | none => none) = _
    rw [e1]
    exact if_pos ok
  · show (match pyOf (.tup ds) with
      | some p => if reprOk p = true then some (D.str p.shown) else none
      | none => none) = _
    rw [e1]
    exact if_pos ok
end Sm
set_option Elab.async false
set_option linter.all false
set_option maxRecDepth 100000
set_option maxHeartbeats 4000000
set_option autoImplicit false
namespace Sm
open PySem PySem.Spec PyProof.Rows L2
section
variable {ρ : Env1} {st : Store}
/-- the deck's store -/
def dkS (cells : List Int) (m c : Int) : Store := [.lst (cells.map D.int), .dic [(kS "rest", .ref 0), (kS "mixed", .int m), (kS "draws", .int c)]]
variable {cells : List Int} {m c : Int}
@[simp] theorem dk_rest : dgetD (.ref 1) (.str "rest") (dkS cells m c) = some (.ref 0) := by
  show getD [(kS "rest", D.ref 0), (kS "mixed", .int m), (kS "draws", .int c)] (kS "rest") = _
  simp [getD]
@[simp] theorem dk_mixed : dgetD (.ref 1) (.str "mixed") (dkS cells m c) = some (.int m) := by
  show getD [(kS "rest", D.ref 0), (kS "mixed", .int m), (kS "draws", .int c)] (kS "mixed") = _
  have h : (kS "rest") ≠ (kS "mixed") := by decide
  simp [getD, h]
@[simp] theorem dk_draws : dgetD (.ref 1) (.str "draws") (dkS cells m c) = some (.int c) := by
  show getD [(kS "rest", D.ref 0), (kS "mixed", .int m), (kS "draws", .int c)] (kS "draws") = _
  have h : (kS "rest") ≠ (kS "draws") := by decide
  have h2 : (kS "mixed") ≠ (kS "draws") := by decide
  simp [getD, h, h2]
/-- deck['k'] = e -/
def dputR (ρ : Env1) (mo mk : EM D) (d : D) (st1 : Store) : RS := (mo ρ st1).toS ρ fun o st2 => (mk ρ st2).toS ρ fun kd st3 => match o, keyD kd with
  | .ref n, some k => (match putDic n k d st3 with
    | some st4 => .nx ρ st4
    | none => .fail)
  | _, _ => .fail
theorem dputS_ap {mo mk me : EM D} : dputS mo mk me ρ st = (me ρ st).toS ρ (dputR ρ mo mk) := rfl
theorem put_draws {c' : Int} : putDic 1 (kS "draws") (.int c') (dkS cells m c) = some (dkS cells m c') := by
  have h : (kS "rest") ≠ (kS "draws") := by decide
  have h2 : (kS "mixed") ≠ (kS "draws") := by decide
  have h3 : (kS "rest") ≠ (kS "mixed") := by decide
  show (if (([(kS "rest", D.ref 0), (kS "mixed", .int m), (kS "draws", .int c)] : List (Key × D)).map (·.1)).Nodup ∧ ([(kS "rest", D.ref 0), (kS "mixed", .int m), (kS "draws", .int c)] : List (Key × D)).length < 1000 then some ((dkS cells m c).set 1 (.dic (putD [(kS "rest", D.ref 0), (kS "mixed", .int m), (kS "draws", .int c)] (kS "draws") (.int c')))) else none) = _
  rw [if_pos]
  · simp [putD, h, h2, dkS]
  · simp [h, h2, h3]
theorem ne_rest : neD (.ref 0) (.lst []) (dkS cells m c) = some (.bl (!decide (cells = []))) := by
  have hp : ∀ l : List Int, pyOfs (l.map D.int) = some (l.map PyData.int) := by
    intro l
    induction l with
    | nil => rfl
    | cons a l ih =>
      show (match pyOf (.int a), pyOfs (l.map D.int) with
        | some p, some ps => some (p :: ps)
        | _, _ => none) = _
      rw [ih]
      rfl
  have e : pyB (.ref 0) (dkS cells m c) = some (.list (cells.map PyData.int)) := by
    show (pyOfs (cells.map D.int)).map PyData.list = _
    rw [hp]
    rfl
  have hc : ∀ l : List Int, PyData.canLayAll0 (l.map PyData.int) = true := by
    intro l
    induction l with
    | nil => rfl
    | cons a l ih =>
      show (PyData.canLay0 (.int a) && PyData.canLayAll0 (l.map PyData.int)) = true
      rw [ih]
      rfl
  have hd : ∀ l : List Int, PyData.depthAll (l.map PyData.int) = 0 := by
    intro l
    induction l with
    | nil => rfl
    | cons a l ih =>
      show max 0 (PyData.depthAll (l.map PyData.int)) = 0
      rw [ih]
      rfl
  have sh : SeqAt.shaped (.list (cells.map PyData.int)) = true := by
    show (PyData.canLayAll0 (cells.map PyData.int) && decide (PyData.depthAll (cells.map PyData.int) + 1 ≤ 64)) = true
    rw [hc, hd]
    rfl
  unfold neD
  rw [e]
  show (if (SeqAt.shaped (.list (cells.map PyData.int)) && SeqAt.shaped (.list [])) = true then some (D.bl (!PyData.eqv (.list (cells.map PyData.int)) (.list []))) else none) = _
  rw [sh]
  cases cells with
  | nil => rfl
  | cons a l => rfl
/-- pop -/
def popR (o : D) (st1 : Store) : Res D := match o with
  | .ref n => (match st1[n]? with
    | some (.lst ds) => (match ds.getLast? with
      | some d => .ok d (st1.set n (.lst ds.dropLast))
      | none => .fail)
    | _ => .fail)
  | _ => .fail
@[simp] theorem popM_ap {k : EM D} : popM k ρ st = (k ρ st).bind popR := rfl
theorem pop_rest {a : Int} (h : cells.getLast? = some a) : popR (.ref 0) (dkS cells m c) = .ok (.int a) (dkS cells.dropLast m c) := by
  show (match (cells.map D.int).getLast? with
    | some d => Res.ok d ((dkS cells m c).set 0 (.lst (cells.map D.int).dropLast))
    | none => .fail) = _
  rw [List.getLast?_map, h]
  show Res.ok (D.int a) _ = _
  rw [← List.map_dropLast]
  rfl
@[simp] theorem appRS_ap {mo me : EM D} : appRS mo me ρ st = (mo ρ st).toS ρ fun o st1 => (me ρ st1).toS ρ fun d st2 => appAt ρ o d st2 := rfl
@[simp] theorem guardS_ap {b : Env1 → Store → Bool} {k : SM} : guardS b k ρ st = if b ρ st = true then k ρ st else .fail := rfl
theorem app_rest {a : Int} (h : cells.length < 1000000) : appAt ρ (.ref 0) (.int a) (dkS cells m c) = .nx ρ (dkS (cells ++ [a]) m c) := by
  show (if (cells.map D.int).length < 1000000 then RS.nx ρ ((dkS cells m c).set 0 (.lst (cells.map D.int ++ [.int a]))) else .fail) = _
  rw [List.length_map, if_pos h]
  show RS.nx ρ [_, _] = _
  rw [show cells.map D.int ++ [D.int a] = (cells ++ [a]).map D.int by simp]
  rfl
theorem isRef_rest {k : EM D} (h : k ρ (dkS cells m c) = .ok (.ref 0) (dkS cells m c)) : isRef k ρ (dkS cells m c) = true := by
  unfold isRef
  rw [h]
  rfl
/-- what is known of the deck -/
def Dk (k : Nat) (st : Store) : Prop := ∃ cells m c, st = dkS cells m c ∧ 0 ≤ m ∧ m < 2 ^ 31 ∧ 0 ≤ c ∧ c ≤ k ∧ cells.length ≤ 64
theorem Dk.mono {j k : Nat} (h : Dk j st) (hk : j ≤ k) : Dk k st := by
  obtain ⟨cells, m, c, e, h1, h2, h3, h4, h5⟩ := h
  exact ⟨cells, m, c, e, h1, h2, h3, by omega, h5⟩
end
end Sm
set_option Elab.async false
set_option linter.all false
set_option maxRecDepth 100000
set_option maxHeartbeats 4000000
set_option autoImplicit false
namespace Sm
open PySem PySem.Spec PyProof.Rows L2
section
variable {ρ : Env1} {st st' : Store} {d : D} {ds : List D}
def mutE (i : Nat) (ρ : Env1) (st : Store) (o : Option (List D)) : RS := match o with
  | some es => .nx (ρ.set i (.own es)) st
  | none => .fail
def mutR (i : Nat) (f : List D → List D → Option (List D)) (ma : EM (List D)) (ρ : Env1) (st : Store) (o : Option Sl) : RS := match o with
  | some (.own ds) => (ma ρ st).toS ρ fun as st1 => mutE i ρ st1 (f ds as)
  | _ => .fail
@[simp] theorem mutS_ap {i : Nat} {f : List D → List D → Option (List D)} {ma : EM (List D)} : mutS i f ma ρ st = mutR i f ma ρ st ρ[i]? := rfl
@[simp] theorem mutR_own {i : Nat} {f : List D → List D → Option (List D)} {ma : EM (List D)} : mutR i f ma ρ st (some (.own ds)) = (ma ρ st).toS ρ fun as st1 => mutE i ρ st1 (f ds as) := rfl
@[simp] theorem mutE_some {i : Nat} : mutE i ρ st (some ds) = .nx (ρ.set i (.own ds)) st := rfl
@[simp] theorem appF_one : appF ds [d] = if ds.length < 1000000 then some (ds ++ [d]) else none := rfl
def fzR (i : Nat) (ρ : Env1) (st : Store) (o : Option Sl) : RS := match o with
  | some (.own ds) => .nx (ρ.set i (.val (.lst ds))) st
  | some (.val _) => .nx ρ st
  | _ => .fail
@[simp] theorem fzS_ap {i : Nat} : fzS i ρ st = fzR i ρ st ρ[i]? := rfl
@[simp] theorem fzR_own {i : Nat} : fzR i ρ st (some (.own ds)) = .nx (ρ.set i (.val (.lst ds))) st := rfl
@[simp] theorem fzR_val {i : Nat} : fzR i ρ st (some (.val d)) = .nx ρ st := rfl
def sixR (i : Nat) (mi me : EM D) (ρ : Env1) (st : Store) (o : Option Sl) : RS := match o with
  | some (.own ds) => (me ρ st).toS ρ fun d st1 => (mi ρ st1).toS ρ fun ix st2 => putAt i ρ ds d ix st2
  | _ => .fail
@[simp] theorem setIxS_ap {i : Nat} {mi me : EM D} : setIxS i mi me ρ st = sixR i mi me ρ st ρ[i]? := rfl
@[simp] theorem sixR_own {i : Nat} {mi me : EM D} : sixR i mi me ρ st (some (.own ds)) = (me ρ st).toS ρ fun d st1 => (mi ρ st1).toS ρ fun ix st2 => putAt i ρ ds d ix st2 := rfl
theorem putAt_ap {i n : Nat} (h : n < ds.length) : putAt i ρ ds d (.int (n : Int)) st = .nx (ρ.set i (.own (ds.set n d))) st := by
  show (match ixN ds.length (n : Int) with
    | some n => RS.nx (ρ.set i (.own (ds.set n d))) st
    | none => .fail) = _
  unfold ixN
  rw [if_pos (by omega), if_pos (by omega)]
  rfl
@[simp] theorem lstG_ap {n : Nat} {g : GMs} : lstG n g (.lst ds) ρ st = if ds.length = n then g ds ρ st else .fail := rfl
/-- what is walked -/
def seqR (d : D) (st : Store) : Res (List D) := match d with
  | .lst ds => .ok ds st
  | .tup ds => .ok ds st
  | _ => .fail
@[simp] theorem seqW_ap {m : EM D} : seqW m ρ st = (m ρ st).bind seqR := rfl
@[simp] theorem seqR_lst : seqR (.lst ds) st = .ok ds st := rfl
@[simp] theorem seqR_tup : seqR (.tup ds) st = .ok ds st := rfl
@[simp] theorem forS_ap {m : EM (List D)} {g : GM} {b : SM} : forS m g b ρ st = (m ρ st).toS ρ fun ds st1 => forL g b ds ρ st1 := rfl
@[simp] theorem forL_nil {g : GM} {b : SM} : forL g b [] ρ st = .nx ρ st := rfl
theorem forL_nx {g : GM} {b : SM} {ρ1 ρ2 : Env1} {st1 st2 : Store} (h1 : g d ρ st = .nx ρ1 st1) (h2 : b ρ1 st1 = .nx ρ2 st2) : forL g b (d :: ds) ρ st = forL g b ds ρ2 st2 := by
  show (match g d ρ st with
    | .nx ρ1 st1 => (match b ρ1 st1 with
      | .nx ρ2 st2 => forL g b ds ρ2 st2
      | .ct ρ2 st2 => forL g b ds ρ2 st2
      | .bk ρ2 st2 => RS.nx ρ2 st2
      | r => r)
    | _ => .fail) = _
  rw [h1]
  show (match b ρ1 st1 with
      | .nx ρ2 st2 => forL g b ds ρ2 st2
      | .ct ρ2 st2 => forL g b ds ρ2 st2
      | .bk ρ2 st2 => RS.nx ρ2 st2
      | r => r) = _
  rw [h2]
/-- each turn keeps what is said -/
theorem forL_inv {g : GM} {b : SM} {N : Nat} {P : Nat → Env1 → Store → Prop} (hs : ∀ (i : Nat) (d : D) (ρ : Env1) (st : Store), i < N → P i ρ st → ∃ ρ1 st1 ρ2 st2, g d ρ st = .nx ρ1 st1 ∧ b ρ1 st1 = .nx ρ2 st2 ∧ P (i + 1) ρ2 st2) : ∀ (ds : List D) (i : Nat) (ρ : Env1) (st : Store), i + ds.length ≤ N → P i ρ st → ∃ ρ2 st2, forL g b ds ρ st = .nx ρ2 st2 ∧ P (i + ds.length) ρ2 st2
  | [], i, ρ, st, hn, h => ⟨ρ, st, rfl, h⟩
  | d :: ds, i, ρ, st, hn, h => by
    rw [List.length_cons] at hn
    obtain ⟨ρ1, st1, ρ2, st2, e1, e2, h2⟩ := hs i d ρ st (by omega) h
    rw [forL_nx e1 e2]
    obtain ⟨ρ3, st3, e3, h3⟩ := forL_inv hs ds (i + 1) ρ2 st2 (by omega) h2
    refine ⟨ρ3, st3, e3, ?_⟩
    rw [List.length_cons, show i + (ds.length + 1) = i + 1 + ds.length by omega]
    exact h3
theorem lamM_ap {n : Nat} {bm : (Store → Res D) → SM} {t : EM D} : lamM n bm t ρ st = fin (bm (fun st' => t ρ st') (Sl.lam :: List.replicate (n - 1) Sl.un) st) := rfl
end
end Sm
set_option Elab.async false
set_option linter.all false
set_option maxRecDepth 100000
set_option maxHeartbeats 4000000
set_option autoImplicit false
namespace Sm
open PySem PySem.Spec PyProof.Rows L2
def Milds (X : Cx) (S : Sta) (W : WX) (O : Or) (es : List Expr) (g : GMs) : Prop := PGs X es fun vs σ H Q => ∃ ds Z μ ρ st, Stp O.Z O.μ O.H Z μ H ∧ RepL X.K S O Z μ H σ ρ ∧ Rep X.K S Z μ H st ∧ isDs X.K S Z μ ds vs ∧ ∃ ρ', g ds ρ st = .nx ρ' st ∧
  ∀ σ' H', Stp O.Z O.μ O.H Z μ H' → RepL X.K S O Z μ H' σ' ρ' → Rep X.K S Z μ H' st → Q σ' H'
section
variable {X : Cx} {S : Sta} {W : WX} {O : Or} {k : Nat} {pos : Pos}
theorem mls_nil : Milds X S W O [] nilG := pgs_imp pgs_nil fun vs σ H Q ⟨ds, Z, μ, ρ, st, s, L, R, q, ρ', e, p⟩ => by
  cases ds with
  | nil =>
    have e : RS.nx ρ st = .nx ρ' st := e
    cases e
    exact ⟨q, p σ H s L R⟩
  | cons d ds => cases e
theorem mls_cons {e : Expr} {es : List Expr} {a : GM} {r : GMs} (h1 : Mild X S W O e a) (hm : ∀ d ρ st, ∃ ρ', a d ρ st = .nx ρ' st ∨ a d ρ st = .fail) (h2 : Milds X S W O es r)
    (hs : (assignEach (e :: es) X.env).map (·.2) = assign e X.env :: (assignEach es X.env).map (·.2) := by rfl) : Milds X S W O (e :: es) (consG a r) :=
  pgs_imp (pgs_cons h1 h2 hs) fun vs σ H Q ⟨ds, Z, μ, ρ, st, s, L, R, q, ρ', e, p⟩ => by
    cases ds with
    | nil => cases e
    | cons d ds =>
      obtain ⟨v, vr, rfl, q1, q2⟩ := q
      have e : (a d ρ st).andThen (r ds) = .nx ρ' st := e
      obtain ⟨ρ1, e1 | e1⟩ := hm d ρ st
      · rw [e1] at e
        exact ⟨v, vr, rfl, d, Z, μ, ρ, st, s, L, R, q1, ρ1, e1, fun σ' H' s' L' R' => ⟨ds, Z, μ, ρ1, st, s', L', R', q2, ρ', e, p⟩⟩
      · rw [e1] at e
        cases e
theorem ml_tup {es : List Expr} {kk : Nat} {g : GMs} {n : Nat} (h : Milds X S W O es g) (hc : X.calm = true := by rfl) (hn : (assignEach es X.env).length = n := by rfl) (hst : (assignEach es X.env).findIdx? (·.1) = none := by rfl) : Mild X S W O (.Tuple es kk pos) (tupG n g) :=
  pg_imp (pg_tup hc h hn hst) fun v σ H Q ⟨d, Z, μ, ρ, st, s, L, R, q, ρ', e, p⟩ => by
    cases d with
    | tup ds =>
      have e : (if ds.length = n then g ds ρ st else .fail) = .nx ρ' st := e
      by_cases hl : ds.length = n
      · rw [if_pos hl] at e
        obtain ⟨a, xs, rfl, hs, hd⟩ := q
        exact ⟨a, xs, rfl, sqt_mono R.le hs, by rw [isDs_len hd]; exact hl, ds, Z, μ, ρ, st, s, L, R, hd, ρ', e, p⟩
      · rw [if_neg hl] at e
        cases e
    | _ => cases e
theorem mild_nil : ∀ ds ρ st, ∃ ρ', nilG ds ρ st = .nx ρ' st ∨ nilG ds ρ st = .fail := fun ds ρ st => by
  cases ds with
  | nil => exact ⟨ρ, .inl rfl⟩
  | cons d ds => exact ⟨ρ, .inr rfl⟩
theorem mild_cons {a : GM} {r : GMs} (h1 : ∀ d ρ st, ∃ ρ', a d ρ st = .nx ρ' st ∨ a d ρ st = .fail) (h2 : ∀ ds ρ st, ∃ ρ', r ds ρ st = .nx ρ' st ∨ r ds ρ st = .fail) : ∀ ds ρ st, ∃ ρ', consG a r ds ρ st = .nx ρ' st ∨ consG a r ds ρ st = .fail := fun ds ρ st => by
  cases ds with
  | nil => exact ⟨ρ, .inr rfl⟩
  | cons d ds =>
    show ∃ ρ', (a d ρ st).andThen (r ds) = .nx ρ' st ∨ (a d ρ st).andThen (r ds) = .fail
    obtain ⟨ρ1, e | e⟩ := h1 d ρ st
    · rw [e]
      exact h2 ds ρ1 st
    · rw [e]
      exact ⟨ρ, .inr rfl⟩
theorem mild_tup {n : Nat} {g : GMs} (h : ∀ ds ρ st, ∃ ρ', g ds ρ st = .nx ρ' st ∨ g ds ρ st = .fail) : ∀ d ρ st, ∃ ρ', tupG n g d ρ st = .nx ρ' st ∨ tupG n g d ρ st = .fail := fun d ρ st => by
  cases d with
  | tup ds =>
    show ∃ ρ', (if ds.length = n then g ds ρ st else .fail) = .nx ρ' st ∨ (if ds.length = n then g ds ρ st else .fail) = .fail
    by_cases hl : ds.length = n
    · rw [if_pos hl]
      exact h ds ρ st
    · rw [if_neg hl]
      exact ⟨ρ, .inr rfl⟩
  | _ => exact ⟨ρ, .inr rfl⟩
def unstar : List Expr → List Expr
  | [] => []
  | .Starred t _ :: r => t :: unstar r
  | e :: r => e :: unstar r
/-- the first n, and a list of the rest -/
def starD (n : Nat) (ds : List D) : List D := ds.take n ++ [.lst (ds.drop n)]
def starG (n : Nat) (g : GMs) : GM := fun d ρ st => match d with
  | .lst ds => if n ≤ ds.length ∧ ds.length ≤ 10000 then g (starD n ds) ρ st else .fail
  | .tup ds => if n ≤ ds.length ∧ ds.length ≤ 10000 then g (starD n ds) ρ st else .fail
  | _ => .fail
end
end Sm
namespace PySem.W
open PySem PySem.Spec PySem.Calls PyProof.Rows
section
variable {prog : Program} {w : World} {A : Around} {E : Value → Shared → Prop} {s : Shared}
/-- the first of them, and a new list of the rest, of a list -/
theorem starL_of {l : Addr} {items : Array Value} {i : Nat} {Q : List Value → Shared → Prop} (hl : s.heap.IsList l items) (hh : A.handled = none) (hn : i ≤ items.size) (hz : items.size ≤ 16384)
    (h : ∀ (h' : Heap) (tk : Nat), (∀ b o, b ≠ s.heap.objs.size → s.heap.get? b = some o → h'.get? b = some o) → Q (items.toList.take i ++ [.ref h'.objs.size]) { s with heap := h'.push { cls := .type "list", data := .seq (items.toList.drop i).toArray }, toks := tk }) :
    wpAny (model prog w) A (unpackItems (.ref l) (i + 1) (some i)) Q E s := by
  have hlt : l ≠ s.heap.objs.size := by
    obtain ⟨o, ho, _⟩ := hl
    exact Nat.ne_of_lt (Heap.lt_size ho)
  unfold unpackItems notIterableAtAll
  refine wpAny_bind (wpAny_bind (wpAny_specialOf hl.typeIs slot_list_iter.lookup (wpAny_pure ?_)))
  rw [if_neg (by simp)]
  refine wpAny_bind (wpAny_holding (wpAny_pyIter_list hl (wpAny_bind (wpAny_holding (kun_draw hlt i 0 _ _ ⟨_, Heap.get?_push_size _ rfl, rfl, rfl⟩ (hl.push _) (by omega) fun h₁ it₁ hs₁ => ?_)))))
  have hl₁ : h₁.IsList l items := (hl.push _).extBut hs₁.extBut hlt
  rw [Nat.zero_add] at it₁
  obtain ⟨oi, hoi, _⟩ := id it₁
  obtain ⟨ol, hol, _⟩ := id hl₁
  rw [List.drop_zero]
  have hfl : (items.toList.take i).length = i := by rw [List.length_take, Array.length_toList]; omega
  have hrl : (items.toList.drop i).length = items.size - i := by rw [List.length_drop, Array.length_toList]
  rw [if_neg (by rw [hfl]; exact Nat.lt_irrefl _)]
  refine wpAny_bind (wpAny_holding (kun_collect (s := { s with heap := h₁ }) (T := "list_iterator") (.inr (.inr (.inl rfl))) (Walks.list (A := A.in1) hh s.heap.objs.size l hlt items) (fun j u st => st.1.typeIs) (k := i) hn ⟨it₁, hl₁⟩ (Heap.lt_size hoi) (Heap.lt_size hol) (fun h₂ tk hk => ?_) (by rw [sizeLine_eq]; omega)))
  have m0 : (items.toList.drop i).length - (i + 1 - 1 - i) = (items.toList.drop i).length := by omega
  show wpAny _ _ (if (items.toList.drop i).length < i + 1 - 1 - i then _ else _) _ _ _
  rw [if_neg (by omega)]
  show wpAny _ _ (newList ((items.toList.drop i).take ((items.toList.drop i).length - (i + 1 - 1 - i))) >>= fun d => pure (items.toList.take i ++ [d] ++ (items.toList.drop i).drop ((items.toList.drop i).length - (i + 1 - 1 - i)))) _ _ _
  rw [m0, List.take_length, List.drop_length]
  have he : ∀ b o, b ≠ s.heap.objs.size → s.heap.get? b = some o → h₂.get? b = some o := fun b o hb e => hk b o hb (hs₁.extBut b o hb (Heap.get?_push_of_some _ e))
  refine wpAny_bind (wpAny_newList ?_ (by rw [hrl, sizeLine_eq]; omega))
  refine wpAny_pure ?_
  rw [List.append_nil]
  exact h h₂ tk he
theorem starT_of {l : Addr} {items : Array Value} {i : Nat} {Q : List Value → Shared → Prop} (hl : IsTup s.heap l items) (hh : A.handled = none) (hn : i ≤ items.size) (hz : items.size ≤ 16384)
    (h : ∀ (h' : Heap) (tk : Nat), (∀ b o, b ≠ s.heap.objs.size → s.heap.get? b = some o → h'.get? b = some o) → Q (items.toList.take i ++ [.ref h'.objs.size]) { s with heap := h'.push { cls := .type "list", data := .seq (items.toList.drop i).toArray }, toks := tk }) :
    wpAny (model prog w) A (unpackItems (.ref l) (i + 1) (some i)) Q E s := by
  have hlt : l ≠ s.heap.objs.size := by
    obtain ⟨o, ho, _⟩ := hl
    exact Nat.ne_of_lt (Heap.lt_size ho)
  unfold unpackItems notIterableAtAll
  refine wpAny_bind (wpAny_bind (wpAny_specialOf hl.typeIs slot_tuple_iter.lookup (wpAny_pure ?_)))
  rw [if_neg (by simp)]
  refine wpAny_bind (wpAny_holding (iter_tuple hl (wpAny_bind (wpAny_holding (draw_tuple hlt i 0 _ _ ⟨_, Heap.get?_push_size _ rfl, rfl, rfl⟩ (hl.push _) (by omega) fun h₁ it₁ hs₁ => ?_)))))
  have hl₁ : IsTup h₁ l items := (hl.push _).extBut hs₁.extBut hlt
  rw [Nat.zero_add] at it₁
  obtain ⟨oi, hoi, _⟩ := id it₁
  obtain ⟨ol, hol, _⟩ := id hl₁
  rw [List.drop_zero]
  have hfl : (items.toList.take i).length = i := by rw [List.length_take, Array.length_toList]; omega
  have hrl : (items.toList.drop i).length = items.size - i := by rw [List.length_drop, Array.length_toList]
  rw [if_neg (by rw [hfl]; exact Nat.lt_irrefl _)]
  refine wpAny_bind (wpAny_holding (kun_collect (s := { s with heap := h₁ }) (T := "tuple_iterator") (.inr (.inr (.inr rfl))) (Walks.tuple (A := A.in1) hh s.heap.objs.size l hlt items) (fun j u st => st.1.typeIs) (k := i) hn ⟨it₁, hl₁⟩ (Heap.lt_size hoi) (Heap.lt_size hol) (fun h₂ tk hk => ?_) (by rw [sizeLine_eq]; omega)))
  have m0 : (items.toList.drop i).length - (i + 1 - 1 - i) = (items.toList.drop i).length := by omega
  show wpAny _ _ (if (items.toList.drop i).length < i + 1 - 1 - i then _ else _) _ _ _
  rw [if_neg (by omega)]
  show wpAny _ _ (newList ((items.toList.drop i).take ((items.toList.drop i).length - (i + 1 - 1 - i))) >>= fun d => pure (items.toList.take i ++ [d] ++ (items.toList.drop i).drop ((items.toList.drop i).length - (i + 1 - 1 - i)))) _ _ _
  rw [m0, List.take_length, List.drop_length]
  have he : ∀ b o, b ≠ s.heap.objs.size → s.heap.get? b = some o → h₂.get? b = some o := fun b o hb e => hk b o hb (hs₁.extBut b o hb (Heap.get?_push_of_some _ e))
  refine wpAny_bind (wpAny_newList ?_ (by rw [hrl, sizeLine_eq]; omega))
  refine wpAny_pure ?_
  rw [List.append_nil]
  exact h h₂ tk he
end
end PySem.W
namespace Sm
open PySem PySem.Spec PyProof.Rows L2
section
variable {X : Cx} {S : Sta} {W : WX} {O : Or} {k : Nat} {pos p : Pos}
theorem g_star {es : List Expr} {kk n : Nat} {g : GMs} (h : SGs X S W O (unstar es) g) (hc : X.calm = true := by rfl) (hn : (assignEach es X.env).length = n + 1 := by rfl) (hst : (assignEach es X.env).findIdx? (·.1) = some n := by rfl)
    (hm : (assignEach es X.env).map (·.2) = (assignEach (unstar es) X.env).map (·.2) := by rfl) : SG X S W O (.Tuple es kk pos) (starG n g) := by
  refine ⟨fun pins s σ H v u Q I r hw => ?_⟩
  obtain ⟨d, Z, μ, ρ, st, s1, L, R, q, pp⟩ := hw
  -- what is common
  have go : ∀ (ds : List D) (xs : List V) (its : List Value) (h' : Heap) (tk : Nat), (∀ b o, b ≠ s.heap.objs.size → s.heap.get? b = some o → h'.get? b = some o) → isDs X.K S Z μ ds xs → Vals xs its → xs.length ≤ sizeLine → PoS X.K S W O (g (starD n ds) ρ st) { nx := Q, rt := fun _ _ => False } →
      wpAny (model X.prog X.w) X.A (assignInOrder ((assignEach es X.env).map (·.2)) (its.take n ++ [.ref h'.objs.size])) (fun _ s' => ∃ σ' H', Inv X pins σ' H' s' ∧ Q σ' H') X.xe { s with heap := h'.push { cls := .type "list", data := .seq (its.drop n).toArray }, toks := tk } := by
    intro ds xs its h' tk hx hd rv hz pp
    have I1 : Inv X pins σ H { s with heap := h', toks := tk } := I.kept (t' := tk) fun b o e => hx b o (Nat.ne_of_lt (Heap.lt_size e)) e
    have hp : H h'.objs.size = none := I1.hok.fresh (Nat.le_refl _)
    have hz' : (xs.drop n).length ≤ sizeLine := by rw [List.length_drop]; omega
    have I2 : Inv X pins σ (upd H h'.objs.size (.lst (xs.drop n))) { s with heap := h'.push { cls := .type "list", data := .seq (its.drop n).toArray }, toks := tk } :=
      I1.laid (t' := tk) (fun b o e => Heap.get?_push_of_some _ e) (Nat.le_refl _) ⟨hz', its.drop n, _, rv.drop n, Heap.get?_push_size _ rfl⟩
    obtain ⟨s2, R2⟩ := R.put (o := .lst (xs.drop n)) hp (fun ps z => by cases z)
    rw [hm]
    refine h.run pins _ σ _ (xs.take n ++ [.ref h'.objs.size]) _ Q I2 ((rv.take n).append (show Vals [V.ref h'.objs.size] [Value.ref h'.objs.size] from .cons rfl .nil)) ⟨starD n ds, _, μ, ρ, st, s1.trans s2, L.step s2, R2, ?_, pp⟩
    exact isDs_app (s2.isDs (isDs_take n hd)) (isDs_cons ⟨h'.objs.size, xs.drop n, rfl, .inl (.inl upd_same), s2.isDs (isDs_drop n hd)⟩ rfl)
  cases d with
  | lst ds =>
    have pp : PoS X.K S W O (if n ≤ ds.length ∧ ds.length ≤ 10000 then g (starD n ds) ρ st else .fail) { nx := Q, rt := fun _ _ => False } := pp
    by_cases hl : n ≤ ds.length ∧ ds.length ≤ 10000
    · rw [if_pos hl] at pp
      obtain ⟨a, xs, rfl, hs, hd⟩ := q
      cases r
      obtain ⟨its, rv, pl, hz⟩ := I.list (sql_mono R.le hs)
      have el : its.length = ds.length := by rw [← rv.length, isDs_len hd]
      rw [PyProof.Rows.assign_Tuple]
      refine wpAny_bind (wpAny_standAt ?_)
      unfold unpack
      rw [hn, hst]
      refine wpAny_bind (wpAny_holding (PySem.W.starL_of pl.isList (I.ok.hd hc) (by simp; omega) (by simp; omega) fun h' tk hx => ?_))
      simpa using go ds xs its h' tk hx hd rv hz pp
    · rw [if_neg hl] at pp
      exact pp.elim
  | tup ds =>
    have pp : PoS X.K S W O (if n ≤ ds.length ∧ ds.length ≤ 10000 then g (starD n ds) ρ st else .fail) { nx := Q, rt := fun _ _ => False } := pp
    by_cases hl : n ≤ ds.length ∧ ds.length ≤ 10000
    · rw [if_pos hl] at pp
      obtain ⟨a, xs, rfl, hs, hd⟩ := q
      cases r
      obtain ⟨its, rv, pl, hz⟩ := I.tuple (sqt_mono R.le hs)
      have el : its.length = ds.length := by rw [← rv.length, isDs_len hd]
      rw [PyProof.Rows.assign_Tuple]
      refine wpAny_bind (wpAny_standAt ?_)
      unfold unpack
      rw [hn, hst]
      refine wpAny_bind (wpAny_holding (PySem.W.starT_of pl (I.ok.hd hc) (by simp; omega) (by simp; omega) fun h' tk hx => ?_))
      simpa using go ds xs its h' tk hx hd rv hz pp
    · rw [if_neg hl] at pp
      exact pp.elim
  | _ => exact pp.elim
theorem tgt_nm {K : Frg} {vs : List Nat} (i : Nat) (hi : i ∈ vs) : Tgt K S vs (gName i) (setG i) := fun d x O Z μ H σ ρ ρ1 st st1 Q L R hd e k => by
  cases e
  exact k _ rfl (L.set hd) (wipe_set hi)
def Tgts (K : Frg) (S : Sta) (vs : List Nat) (gr : TGs) (g : GMs) : Prop := ∀ (ds : List D) (xs : List V) (O : Or) (Z : Hp) (μ : List Addr) (H : Hp) (σ : L2.St) (ρ ρ1 : Env1) (st st1 : Store) (Q : L2.St → Hp → Prop), RepL K S O Z μ H σ ρ → Rep K S Z μ H st → isDs K S Z μ ds xs → g ds ρ st = .nx ρ1 st1 →
  (∀ σ2, st1 = st → RepL K S O Z μ H σ2 ρ1 → L2.wipe σ2 vs = L2.wipe σ vs → Q σ2 H) → gr xs σ H Q
theorem tgts_nil {K : Frg} {vs : List Nat} : Tgts K S vs gNil nilG := fun ds xs O Z μ H σ ρ ρ1 st st1 Q L R hd e k => by
  cases ds with
  | nil =>
    have e : RS.nx ρ st = .nx ρ1 st1 := e
    cases e
    exact ⟨hd, k σ rfl L rfl⟩
  | cons d ds => cases e
theorem tgts_cons {K : Frg} {vs : List Nat} {ga : TG} {gr : TGs} {a : GM} {r : GMs} (h1 : Tgt K S vs ga a) (hm : ∀ d ρ st, ∃ ρ', a d ρ st = .nx ρ' st ∨ a d ρ st = .fail) (h2 : Tgts K S vs gr r) : Tgts K S vs (gCons ga gr) (consG a r) := fun ds xs O Z μ H σ ρ ρ1 st st1 Q L R hd e k => by
  cases ds with
  | nil => cases e
  | cons d ds =>
    obtain ⟨v, vr, rfl, q1, q2⟩ := hd
    have e : (a d ρ st).andThen (r ds) = .nx ρ1 st1 := e
    obtain ⟨ρ2, e2 | e2⟩ := hm d ρ st
    · rw [e2] at e
      refine ⟨v, vr, rfl, h1 d v O Z μ H σ ρ ρ2 st st _ L R q1 e2 fun σ2 _ L2 w2 => h2 ds vr O Z μ H σ2 ρ2 ρ1 st st1 Q L2 R q2 e fun σ3 z L3 w3 => k σ3 z L3 (w3.trans w2)⟩
    · rw [e2] at e
      cases e
theorem tgt_tupG {K : Frg} {vs : List Nat} {n : Nat} {gr : TGs} {g : GMs} (h : Tgts K S vs gr g) : Tgt K S vs (gTup K n gr) (tupG n g) := fun d x O Z μ H σ ρ ρ1 st st1 Q L R hd e k => by
  cases d with
  | tup ds =>
    have e : (if ds.length = n then g ds ρ st else .fail) = .nx ρ1 st1 := e
    by_cases hl : ds.length = n
    · rw [if_pos hl] at e
      obtain ⟨a, xs, rfl, hs, hx⟩ := hd
      exact ⟨a, xs, rfl, sqt_mono R.le hs, by rw [isDs_len hx]; exact hl, h ds xs O Z μ H σ ρ ρ1 st st1 Q L R hx e k⟩
    · rw [if_neg hl] at e
      cases e
  | _ => cases e
def zipD (as bs : List D) : List D := List.zipWith (fun a b => .tup [a, b]) as bs
def zipW (ma : EM (List D)) : EM (List D) := fun ρ st => (ma ρ st).bind fun ds st1 => match ds with
  | [.lst a, .lst b] => .ok (zipD a b) st1
  | [.tup a, .tup b] => .ok (zipD a b) st1
  | _ => .fail
theorem zip_at {as bs : List D} {i : Nat} {d : D} (h : (zipD as bs)[i]? = some d) : ∃ a b, as[i]? = some a ∧ bs[i]? = some b ∧ d = .tup [a, b] := by
  unfold zipD at h
  rw [List.getElem?_zipWith] at h
  cases e1 : as[i]? with
  | none => rw [e1] at h; cases h
  | some a =>
    cases e2 : bs[i]? with
    | none => rw [e1, e2] at h; cases h
    | some b =>
      rw [e1, e2] at h
      exact ⟨a, b, rfl, rfl, (Option.some.inj h).symm⟩
theorem zip_end {K : Frg} {Z : Hp} {μ : List Addr} {as bs : List D} {xs ys : List V} (h1 : isDs K S Z μ as xs) (h2 : isDs K S Z μ bs ys) : xs.length ≤ (zipD as bs).length ∨ ys.length ≤ (zipD as bs).length := by
  unfold zipD
  rw [List.length_zipWith, isDs_len h1, isDs_len h2]
  omega
theorem walks_zipL {K : Frg} {Z : Hp} {μ : List Addr} {a b : Addr} {xs ys : List V} {as bs : List D} (h1 : SqL K Z a xs) (h2 : SqL K Z b ys) (d1 : isDs K S Z μ as xs) (d2 : isDs K S Z μ bs ys) : Walks K S (Itz K a b) (zipD as bs) Z μ := fun Z2 μ2 H2 st2 hz hm R => by
  have g1 : SqL K H2 a xs := sql_mono (fun b o e => R.le b o (hz b o e)) h1
  have g2 : SqL K H2 b ys := sql_mono (fun b o e => R.le b o (hz b o e)) h2
  refine ⟨fun i d e => ?_, xs, ys, g1, g2, zip_end d1 d2⟩
  obtain ⟨da, db, ea, eb, rfl⟩ := zip_at e
  obtain ⟨va, ha, qa⟩ := isDs_get d1 ea
  obtain ⟨vb, hb, qb⟩ := isDs_get d2 eb
  refine ⟨⟨xs, ys, va, vb, g1, g2, ha, hb⟩, fun x H3 hy => ?_⟩
  obtain ⟨T, u, v, rfl, hT, rfl, z1, z2⟩ := hy
  obtain rfl : va = u := Option.some.inj (ha.symm.trans (z1 xs g1))
  obtain rfl : vb = v := Option.some.inj (hb.symm.trans (z2 ys g2))
  obtain ⟨s2, R2⟩ := R.put (o := .tup [va, vb]) hT (fun ps z => by cases z)
  exact ⟨_, s2, R2, T, [va, vb], rfl, .inl upd_same, s2.isDs (isDs_cons (isD_mono hz hm _ _ qa) (isDs_cons (isD_mono hz hm _ _ qb) rfl))⟩
theorem walks_zipT {K : Frg} {Z : Hp} {μ : List Addr} {a b : Addr} {xs ys : List V} {as bs : List D} (h1 : TpL K Z a xs) (h2 : TpL K Z b ys) (d1 : isDs K S Z μ as xs) (d2 : isDs K S Z μ bs ys) : Walks K S (RZ.ItzT K a b) (zipD as bs) Z μ := fun Z2 μ2 H2 st2 hz hm R => by
  have g1 : SqT K H2 a xs := sqt_mono (fun b o e => R.le b o (hz b o e)) h1
  have g2 : SqT K H2 b ys := sqt_mono (fun b o e => R.le b o (hz b o e)) h2
  refine ⟨fun i d e => ?_, xs, ys, g1, g2, zip_end d1 d2⟩
  obtain ⟨da, db, ea, eb, rfl⟩ := zip_at e
  obtain ⟨va, ha, qa⟩ := isDs_get d1 ea
  obtain ⟨vb, hb, qb⟩ := isDs_get d2 eb
  refine ⟨⟨xs, ys, va, vb, g1, g2, ha, hb⟩, fun x H3 hy => ?_⟩
  obtain ⟨T, u, v, rfl, hT, rfl, z1, z2⟩ := hy
  obtain rfl : va = u := Option.some.inj (ha.symm.trans (z1 xs g1))
  obtain rfl : vb = v := Option.some.inj (hb.symm.trans (z2 ys g2))
  obtain ⟨s2, R2⟩ := R.put (o := .tup [va, vb]) hT (fun ps z => by cases z)
  exact ⟨_, s2, R2, T, [va, vb], rfl, .inl upd_same, s2.isDs (isDs_cons (isD_mono hz hm _ _ qa) (isDs_cons (isD_mono hz hm _ _ qb) rfl))⟩
theorem i_zip {e e2 : Expr} {tpos : Pos} {elts : List Expr} {kk : Nat} {m : EM (List D)} (hm : X.mg "zip" = none) (ha : SA X S W O [e, e2] m) (hg : Gl X "zip" := by rfl) (hs : starEach [e, e2] X.env = (false, eval e X.env) :: starEach [e2] X.env := by rfl) (hpl : (backTo pos (starEach [e2] X.env)).any (·.1) = false := by rfl) :
    SI X S W O (.Tuple elts kk tpos) (.Call (.Name "zip" p) [e, e2] [] pos) (zipW m) :=
  pi_imp (RZ.pi_zipA hg hm ha hs hpl) fun σ H Q ⟨Z, μ, ρ, st, L, R, pp⟩ => by
    refine tG_bind L R pp fun ds vs st1 Z1 μ1 H1 s1 L1 R1 i1 p1 => ?_
    split at p1
    · rename_i a b
      obtain ⟨v, r, rfl, ⟨pa, xs, rfl, ha, da⟩, w, r2, rfl, ⟨pb, ys, rfl, hb, db⟩, rfl⟩ := i1
      exact ⟨pa, pb, xs, ys, rfl, .inl ⟨sql_mono R1.le ha, sql_mono R1.le hb, p1 _ Z1 μ1 H1 Stp.refl R1 (walks_zipL ha hb da db)⟩⟩
    · rename_i a b
      obtain ⟨v, r, rfl, ⟨pa, xs, rfl, ha, da⟩, w, r2, rfl, ⟨pb, ys, rfl, hb, db⟩, rfl⟩ := i1
      exact ⟨pa, pb, xs, ys, rfl, .inr ⟨sqt_mono R1.le ha, sqt_mono R1.le hb, p1 _ Z1 μ1 H1 Stp.refl R1 (walks_zipT ha hb da db)⟩⟩
    · exact p1.elim
def truD (d : D) : Option Bool := match d with
  | .non => some false
  | .bl b => some b
  | .int i => some (i != 0)
  | .tup ds => some (!ds.isEmpty)
  | .lst ds => some (!ds.isEmpty)
  | _ => none
def orT (a b : EM D) : EM D := fun ρ st => (a ρ st).bind fun d st1 => match truD d with
  | some true => .ok d st1
  | some false => b ρ st1
  | none => .fail
theorem truD_ok {K : Frg} {Z : Hp} {μ : List Addr} {H : Hp} {d : D} {v : V} {b : Bool} (hz : ∀ a o, Z a = some o → H a = some o) (h : isD K S Z μ d v) (e : truD d = some b) : TruV K v H b := by
  cases d with
  | non => rw [show v = .non from h]; cases e; rfl
  | bl c => rw [show v = .bl c from h]; cases e; rfl
  | int i => rw [show v = .int i from h]; cases e; rfl
  | tup ds =>
    obtain ⟨a, xs, rfl, q, r⟩ := h
    cases e
    refine .inr (.inl ⟨xs, sqt_mono hz q, ?_⟩)
    have := isDs_len r
    cases ds <;> cases xs <;> simp at this ⊢
  | lst ds =>
    obtain ⟨a, xs, rfl, q, r⟩ := h
    cases e
    refine .inl ⟨xs, sql_mono hz q, ?_⟩
    have := isDs_len r
    cases ds <;> cases xs <;> simp at this ⊢
  | _ => cases e
theorem s_orT {a b : Expr} {rest : List Expr} {ma mb : EM D} (ha : SE X S W O a ma) (hb : SE X S W O (.BoolOp .Or (b :: rest) pos) mb) : SE X S W O (.BoolOp .Or (a :: b :: rest) pos) (orT ma mb) :=
  pe_imp (pe_orT ha hb) fun σ H Q ⟨Z, μ, ρ, st, L, R, pp⟩ => by
    refine tG_bind L R pp fun d v st1 Z1 μ1 H1 s1 L1 R1 i1 p1 => ?_
    cases e : truD d with
    | none => rw [e] at p1; exact p1.elim
    | some c =>
      rw [e] at p1
      refine ⟨c, truD_ok R1.le i1 e, ?_⟩
      cases c with
      | true => exact p1 v Z1 μ1 H1 Stp.refl R1 i1
      | false => exact ⟨Z1, μ1, ρ, st1, L1, R1, p1⟩
def repF (m : EM (List D)) (mk : EM D) : EM (List D) := fun ρ st => (m ρ st).bind fun ds st1 => (mk ρ st1).bind fun k st2 => match k with
  | .int i => if 0 ≤ i ∧ i ≤ 1000 ∧ ds.length ≤ 1000 then .ok (List.replicate i.toNat ds).flatten st2 else .fail
  | _ => .fail
theorem isDs_rep {K : Frg} {Z : Hp} {μ : List Addr} {ds : List D} {xs : List V} (h : isDs K S Z μ ds xs) : ∀ n : Nat, isDs K S Z μ (List.replicate n ds).flatten (List.replicate n xs).flatten
  | 0 => rfl
  | n + 1 => by
    rw [List.replicate_succ, List.replicate_succ, List.flatten_cons, List.flatten_cons]
    exact isDs_app h (isDs_rep h n)
theorem f_rep {a b : Expr} {m : EM (List D)} {mk : EM D} (ha : SF X S W O a m) (hb : SE X S W O b mk) : SF X S W O (.BinOp a .Mult b pos) (repF m mk) :=
  pe_imp (pe_op op_rep ha hb) fun σ H Q ⟨Z, μ, ρ, st, L, R, pp⟩ => by
    refine tG_bind L R pp fun ds v st1 Z1 μ1 H1 s1 L1 R1 i1 p1 => ?_
    obtain ⟨a, xs, rfl, h0, h1, h2, h3, h4⟩ := i1
    refine tG_bind L1 R1 p1 fun d w st2 Z2 μ2 H2 s2 L2 R2 i2 p2 => ?_
    cases d with
    | int i =>
      have e2 : w = .int i := i2
      subst e2
      have p2 : Po X.K S W σ Z2 μ2 H2 (rF X.K S) (if 0 ≤ i ∧ i ≤ 1000 ∧ ds.length ≤ 1000 then .ok (List.replicate i.toNat ds).flatten st2 else .fail) Q := p2
      by_cases hh : 0 ≤ i ∧ i ≤ 1000 ∧ ds.length ≤ 1000
      · rw [if_pos hh] at p2
        have hl : xs.length * i.toNat ≤ sizeLine := by
          rw [isDs_len h2, sizeLine_eq]
          have : ds.length * i.toNat ≤ 1000 * 1000 := Nat.mul_le_mul hh.2.2 (by omega)
          omega
        refine ⟨a, i, xs, rfl, rfl, s2.fr a _ h1 h4 (fun ps z => by cases z), by omega, by omega, hl, fun q hq => ?_⟩
        obtain ⟨s3, R3⟩ := R2.lay (o := .lst (List.replicate i.toNat xs).flatten) hq
        exact p2 _ _ μ2 _ s3 R3 ⟨q, _, rfl, hq, upd_same, isDs_rep (s2.isDs h2) _, (R2.nne hq).1, (R2.nne hq).2⟩
      · rw [if_neg hh] at p2
        exact p2.elim
    | _ => exact p2.elim
end
end Sm
set_option Elab.async false
set_option linter.all false
set_option maxRecDepth 100000
set_option maxHeartbeats 4000000
set_option autoImplicit false
namespace Sm
open PySem PySem.Spec PyProof.Rows L2
/-- a dict just made -/
abbrev rK (K : Frg) (S : Sta) : Rl (List (Key × D)) V := fun H0 Z μ H kvs v => ∃ a vs, v = .ref a ∧ H0 a = none ∧ H a = some (.dK vs) ∧ isKs K S Z μ kvs vs ∧ Z a = none ∧ a ∉ μ
instance {K : Frg} {S : Sta} : Mn (rK K S) := ⟨fun k ⟨a, vs, e, h, r⟩ => ⟨a, vs, e, k a h, r⟩⟩
abbrev SDk (X : Cx) (S : Sta) (W : WX) (O : Or) (e : Expr) (m : EM (List (Key × D))) : Prop := PE X e (tG X S W O (rK X.K S) m)
section
variable {X : Cx} {S : Sta} {W : WX} {O : Or} {pos apos cpos : Pos}
/-- a written key -/
def KeyE (X : Cx) (e : Expr) (k : Key) : Prop := ∃ t : TE, PE X e t ∧ ∀ (σ : L2.St) (H : Hp) (Q : VK), Q (kV k) H → t σ H Q
theorem kk_str {x : Str} {j : Nat} {p : Pos} : KeyE X (.Constant (.str x) j p) (.inr x) := ⟨_, pe_str, fun _ _ _ q => q⟩
theorem kk_int {i : Int} {j : Nat} {p : Pos} : KeyE X (.Constant (.int i) j p) (.inl i) := ⟨_, pe_int, fun _ _ _ q => q⟩
theorem kk_neg {i : Int} {j : Nat} {p p2 : Pos} : KeyE X (.UnaryOp .USub (.Constant (.int i) j p) p2) (.inl (-i)) := ⟨_, pe_un un_neg pe_int, fun _ _ _ q => ⟨i, rfl, q⟩⟩
inductive Prk (X : Cx) (S : Sta) (W : WX) (O : Or) (pos : Pos) : List (Option Expr) → List Expr → List Key → EM (List D) → Prop
  | nil : Prk X S W O pos [] [] [] nilM
  | cons {k : Key} {ek v : Expr} {ks : List (Option Expr)} {vs : List Expr} {ss : List Key} {m : EM D} {r : EM (List D)} (hk : KeyE X ek k) (hv : SE X S W O v m) (hr : Prk X S W O pos ks vs ss r) : Prk X S W O pos (some ek :: ks) (v :: vs) (k :: ss) (consM m r)
theorem Prk.pps {ks : List (Option Expr)} {vs : List Expr} {ss : List Key} {m : EM (List D)} (h : Prk X S W O pos ks vs ss m) : ∃ trs, PPs X pos ks vs trs ∧ ks.all (·.isSome) = true ∧ ks.length = vs.length ∧ ks.length = ss.length ∧
    ∀ (σ : L2.St) (H : Hp) (Z : Hp) (μ : List Addr) (ρ : Env1) (st : Store) (Q : List (V × V) → Hp → Prop), RepL X.K S O Z μ H σ ρ → Rep X.K S Z μ H st → Po X.K S W σ Z μ H (rDs X.K S) (m ρ st) (fun ys H' => Q ((ss.zip ys).map fun kv => (kV kv.1, kv.2)) H') → tPairs trs σ H Q := by
  induction h with
  | nil => exact ⟨[], pps_nil, rfl, rfl, rfl, fun σ H Z μ ρ st Q L R p => p [] Z μ H Stp.refl R rfl⟩
  | @cons k ek v ks vs ss m r hk hv hr ih =>
    obtain ⟨trs, h1, h2, h3, h4, h5⟩ := ih
    obtain ⟨tk, hk1, hk2⟩ := hk
    refine ⟨_, pps_cons hk1 hv h1, ?_, by rw [List.length_cons, List.length_cons, h3], by rw [List.length_cons, List.length_cons, h4], fun σ H Z μ ρ st Q L R p => ?_⟩
    · rw [List.all_cons, h2]; rfl
    · refine hk2 σ H _ ?_
      refine tG_bind L R p fun d x st1 Z1 μ1 H1 s1 L1 R1 i1 p1 => ?_
      refine h5 σ H1 Z1 μ1 ρ st1 _ L1 R1 ?_
      have p1 : Po X.K S W σ Z1 μ1 H1 (rDs X.K S) ((r ρ st1).bind fun ds st2 => .ok (d :: ds) st2) (fun ys H' => Q (((k :: ss).zip ys).map fun kv => (kV kv.1, kv.2)) H') := p1
      cases e : r ρ st1 with
      | ok ds st2 =>
        rw [e] at p1
        exact fun ys Z2 μ2 H2 s2 R2 i2 => p1 (x :: ys) Z2 μ2 H2 s2 R2 (isDs_cons (s2.isD i1) i2)
      | exc c st2 => rw [e] at p1; exact p1
      | fail => rw [e] at p1; exact p1
/-- the pairs of a display -/
def dispK (ks : List Key) (ma : EM (List D)) : EM (List (Key × D)) := fun ρ st => (ma ρ st).bind fun ds st1 => if ds.length = ks.length ∧ ks.Nodup ∧ ks.length ≤ 15 then .ok (ks.zip ds) st1 else .fail
theorem k_disp {ks : List (Option Expr)} {vs : List Expr} {ss : List Key} {m : EM (List D)} (h : Prk X S W O pos ks vs ss m) (h0 : ks ≠ [] := by intro q; cases q) (h15 : ks.length ≤ 15 := by decide) : SDk X S W O (.Dict ks vs pos) (dispK ss m) := by
  obtain ⟨trs, h1, h2, h3, h4, h5⟩ := h.pps
  refine pe_imp (pe_disp h1 h2 h3 h0 h15) fun σ H Q ⟨Z, μ, ρ, st, L, R, p⟩ => ?_
  intro a ha
  obtain ⟨s1, R1⟩ := R.lay (o := .dK []) ha
  have L1 := L.step s1
  unfold dispK at p
  refine h5 σ _ Z μ ρ st _ L1 R1 ?_
  have nz := R.nne ha
  cases e : m ρ st with
  | ok ds st1 =>
    rw [e] at p
    have p : Po X.K S W σ Z μ H (rK X.K S) (if ds.length = ss.length ∧ ss.Nodup ∧ ss.length ≤ 15 then Res.ok (ss.zip ds) st1 else .fail) Q := p
    by_cases hc : ds.length = ss.length ∧ ss.Nodup ∧ ss.length ≤ 15
    · rw [if_pos hc] at p
      intro ys Z2 μ2 H2 s2 R2 i2
      have lz : ys.length = ss.length := by rw [isDs_len i2]; exact hc.1
      have e2 : H2 a = some (.dK []) := s2.fr a _ upd_same nz.2 (fun ps z => by cases z)
      refine ⟨e2, ss.zip ys, rfl, ?_, ?_⟩
      · rw [List.length_zip, lz]
        omega
      · have em : mergeK [] (ss.zip ys) = ss.zip ys := by
          rw [mergeK_nil _ [] (by rw [List.nil_append, zip_fst lz.symm]; exact hc.2.1), List.nil_append]
        rw [em]
        have Zn : Z2 a = none := s2.zn a nz.1 (by rw [upd_same]; intro z; cases z)
        have mn : a ∉ μ2 := fun q => by
          rcases s2.mn a q with z | z
          · exact nz.2 z
          · rw [upd_same] at z
            cases z
        have s3 := s1.trans s2
        have ne : ∀ (b : Addr) (o : HO), H2 b = some o → o ≠ HO.dK [] → b ≠ a := fun b o q n z => by
          rw [z, e2] at q
          exact n (Option.some.inj q).symm
        obtain ⟨s4, R4⟩ : Stp Z μ H Z2 μ2 (upd H2 a (.dK (ss.zip ys))) ∧ Rep X.K S Z2 μ2 (upd H2 a (.dK (ss.zip ys))) st1 := by
          refine ⟨⟨s3.zz, s3.mm, fun b o q n t => ?_, fun b q => ?_, s3.zn, s3.mn⟩, ⟨fun b o q => ?_, R2.nt, R2.len, R2.nd, R2.zm, fun n b x q1 q2 => ?_, ?_⟩⟩
          · rw [upd_ne (ne_of_none q ha)]
            exact s3.fr b o q n t
          · by_cases hb : b = a
            · rw [hb, upd_same] at q
              cases q
            · rw [upd_ne hb] at q
              exact s3.th b q
          · rw [upd_ne (ne_of_none q Zn)]
            exact R2.le b o q
          · have hb : b ≠ a := fun z => mn (z ▸ List.mem_of_getElem? q1)
            have q := R2.ob n b x q1 q2
            cases x with
            | lst es =>
              obtain ⟨ys, q1, q2⟩ := q
              exact ⟨ys, by rw [upd_ne hb]; exact q1, q2⟩
            | dic es =>
              obtain ⟨ys, q1, q2⟩ := q
              exact ⟨ys, by rw [upd_ne hb]; exact q1, q2⟩
          · intro q hq
            obtain ⟨ps, t1, t2, t3⟩ := R2.tb q hq
            refine ⟨ps, by rw [upd_ne (ne _ _ t1 (fun z => by cases z))]; exact t1, t2, fun pos cv hcv => ?_⟩
            obtain ⟨c, u1, u2⟩ := t3 pos cv hcv
            exact ⟨c, u1, by rw [upd_ne (ne _ _ u2 (fun z => by unfold LamX.CodeO at z; cases z))]; exact u2⟩
        exact p (.ref a) _ _ _ s4 R4 ⟨a, ss.zip ys, rfl, ha, upd_same, isKs_zip i2 hc.1.symm, Zn, mn⟩
    · rw [if_neg hc] at p
      exact p.elim
  | exc c st1 =>
    rw [e] at p
    exact fun Z2 μ2 H2 s2 R2 => p Z2 μ2 H2 (s1.trans s2) R2
  | fail =>
    rw [e] at p
    exact p.elim
/-- what a new dict has at a key -/
def getKM (md : EM (List (Key × D))) (mk : EM D) : EM D := fun ρ st => (md ρ st).bind fun kvs st1 => (mk ρ st1).bind fun d st2 => match keyD d with
  | some k => (match getD kvs k with
    | some c => .ok c st2
    | none => .fail)
  | none => .fail
theorem s_dgetK {a b : Expr} {k : Nat} {md : EM (List (Key × D))} {mk : EM D} (hr : Room k X.A) (ha : SDk X S W O a md) (hb : SE X S W O b mk) (hs : NoSl b := by exact fun _ _ => rfl) : SE X S W O (.Subscript a b pos) (getKM md mk) :=
  pe_imp (pe_dget (hu_of hr) ha hb hs) fun σ H Q ⟨Z, μ, ρ, st, L, R, p⟩ => by
    refine tG_bind L R p fun kvs x st1 Z1 μ1 H1 s1 L1 R1 i1 p1 => ?_
    obtain ⟨a, vs, rfl, h0, h1, h2, h3, h4⟩ := i1
    refine tG_bind L1 R1 p1 fun d y st2 Z2 μ2 H2 s2 L2 R2 i2 p2 => ?_
    cases hk : keyD d with
    | none => rw [hk] at p2; exact p2.elim
    | some k =>
      rw [hk] at p2
      have p2 : Po X.K S W σ Z2 μ2 H2 (rD X.K S) (match getD kvs k with
        | some c => .ok c st2
        | none => .fail) Q := p2
      cases hg : getD kvs k with
      | none => rw [hg] at p2; exact p2.elim
      | some c =>
        rw [hg] at p2
        obtain ⟨v, hv, hd⟩ := isKs_get (s2.isKs h2) hg
        rw [keyD_of i2 hk]
        have g : DGet H2 a (kV k) (valV vs k) := DGet.k (s2.fr a _ h1 h4 (fun ps z => by cases z))
        rw [hv] at g
        exact ⟨a, v, rfl, g, p2 v Z2 μ2 H2 Stp.refl R2 hd⟩
/-- .get(k, x) of a new dict -/
def get2KM (md : EM (List (Key × D))) (mk mx : EM D) : EM D := fun ρ st => (md ρ st).bind fun kvs st1 => (mk ρ st1).bind fun d st2 => (mx ρ st2).bind fun x st3 => match keyD d with
  | some k => .ok ((getD kvs k).getD x) st3
  | none => .fail
theorem s_dget2K {a b c : Expr} {k : Nat} {md : EM (List (Key × D))} {mk mx : EM D} (hr : Room k X.A) (ha : SDk X S W O a md) (hb : SE X S W O b mk) (hx : SE X S W O c mx)
    (hbase : attributeBase a "get" X.env (eval a X.env) = eval a X.env := by rfl)
    (hfew : ((backTo cpos (starEach [b, c] X.env)).all (fun x => !x.1) && (backToKw cpos (keywordEach [] X.env)).all (fun x => x.1.isSome) && decide (([b, c] : List Expr).length + ([] : List Keyword).length + (if ([] : List Keyword).isEmpty then 0 else 1) < 30)) = true := by rfl)
    (hline : (apos.endLine == cpos.line) = true := by rfl) (ht : backTo cpos (starEach [b, c] X.env) = [(false, eval b X.env), (false, eval c X.env)] := by rfl) :
    SE X S W O (.Call (.Attribute a "get" apos) [b, c] [] cpos) (get2KM md mk mx) :=
  pe_imp (pe_dget2 (hu_of hr) ha hb hx ⟨hbase, hfew, hline, ht⟩) fun σ H Q ⟨Z, μ, ρ, st, L, R, p⟩ => by
    refine tG_bind L R p fun kvs x st1 Z1 μ1 H1 s1 L1 R1 i1 p1 => ?_
    obtain ⟨a, vs, rfl, h0, h1, h2, h3, h4⟩ := i1
    refine ⟨a, rfl, .inl ⟨vs, .inl h1⟩, ?_⟩
    refine tG_bind L1 R1 p1 fun d y st2 Z2 μ2 H2 s2 L2 R2 i2 p2 => ?_
    refine tG_bind L2 R2 p2 fun x z st3 Z3 μ3 H3 s3 L3 R3 i3 p3 => ?_
    cases hk : keyD d with
    | none => rw [hk] at p3; exact p3.elim
    | some k =>
      rw [hk] at p3
      have p3 : Po X.K S W σ Z3 μ3 H3 (rD X.K S) (.ok ((getD kvs k).getD x) st3) Q := p3
      have s23 := s2.trans s3
      have g : DGet H3 a (kV k) (valV vs k) := DGet.k (s23.fr a _ h1 h4 (fun ps z => by cases z))
      refine ⟨valV vs k, ?_, ?_⟩
      · rw [keyD_of i2 hk]
        exact g
      · cases hg : getD kvs k with
        | none =>
          rw [hg] at p3
          rw [isKs_none (s23.isKs h2) hg]
          exact p3 z Z3 μ3 H3 Stp.refl R3 i3
        | some c =>
          rw [hg] at p3
          obtain ⟨v, hv, hd⟩ := isKs_get (s23.isKs h2) hg
          rw [hv]
          exact p3 v Z3 μ3 H3 Stp.refl R3 hd
/-- slots that hold data alone -/
def plainE (ρ : Env1) : Bool := ρ.all fun sl => match sl with
  | .un => true
  | .val _ => true
  | .adr _ => true
  | _ => false
theorem RepL.plain {K : Frg} {Z Z' : Hp} {μ μ' : List Addr} {H H' : Hp} {σ : L2.St} {ρ : Env1} (L : RepL K S O Z μ H σ ρ) (h : plainE ρ = true) (hz : ∀ a o, Z a = some o → Z' a = some o) (hm : ∀ (n : Nat) (a : Addr), μ[n]? = some a → μ'[n]? = some a) : RepL K S O Z' μ' H' σ ρ := by
  refine ⟨L.len, fun i sl e => ?_, fun i j hn h1 h2 => L.ap i j hn h1 h2⟩
  have q := L.ok i sl e
  have hp := List.all_eq_true.mp h sl (List.mem_of_getElem? e)
  cases sl with
  | un => trivial
  | val d =>
    obtain ⟨v, e1, q1⟩ := q
    exact ⟨v, e1, isD_mono hz hm _ _ q1⟩
  | adr b => exact q
  | own fs => cases hp
  | obj c fs => cases hp
  | lam => cases hp
def compL2 (g : GM) (vs1 : List Nat) (m1 : EM (List D)) (g1 : GM) (te : EM D) : List D → Env1 → Store → List D → Res (List D)
  | [], _, st, acc => .ok acc st
  | d :: ds, ρ, st, acc => match g d ρ st with
    | .nx ρ1 st1 => (match m1 ρ1 st1 with
      | .ok es st2 => if plainE (wipeD ρ1 vs1) = true then (match compL g1 (cM true) te es (wipeD ρ1 vs1) st2 acc with
        | .ok acc' st3 => compL2 g vs1 m1 g1 te ds ρ st3 acc'
        | _ => .fail) else .fail
      | _ => .fail)
    | _ => .fail
def compM2 (vs vs1 : List Nat) (m : EM (List D)) (g : GM) (m1 : EM (List D)) (g1 : GM) (te : EM D) : EM (List D) := fun ρ st => (m ρ st).bind fun ds st1 => compL2 g vs1 m1 g1 te ds (wipeD ρ vs) st1 []
theorem compL_cons {g : GM} {te : EM D} {d : D} {ds : List D} {ρ : Env1} {st : Store} {acc r : List D} {st' : Store} (h : compL g (cM true) te (d :: ds) ρ st acc = .ok r st') : ∃ ρ1 st1 e st2, g d ρ st = .nx ρ1 st1 ∧ te ρ1 st1 = .ok e st2 ∧ acc.length < 1000000 ∧ compL g (cM true) te ds ρ st2 (acc ++ [e]) = .ok r st' := by
  unfold compL at h
  cases e1 : g d ρ st with
  | nx ρ1 st1 =>
    rw [e1] at h
    have h : (match te ρ1 st1 with
      | .ok e st3 => if acc.length < 1000000 then compL g (cM true) te ds ρ st3 (acc ++ [e]) else .fail
      | _ => .fail) = .ok r st' := h
    cases e2 : te ρ1 st1 with
    | ok e st2 =>
      rw [e2] at h
      have h : (if acc.length < 1000000 then compL g (cM true) te ds ρ st2 (acc ++ [e]) else .fail) = .ok r st' := h
      by_cases hl : acc.length < 1000000
      · rw [if_pos hl] at h
        exact ⟨ρ1, st1, e, st2, rfl, e2, hl, h⟩
      · rw [if_neg hl] at h
        cases h
    | exc c st2 => rw [e2] at h; cases h
    | fail => rw [e2] at h; cases h
  | _ => rw [e1] at h; cases h
theorem tLc2_of {vs vs1 : List Nat} {m m1 : EM (List D)} {g g1 : GM} {gr gr1 : TG} {te : EM D} (hg : Tgt X.K S vs gr g) (hg1 : Tgt X.K S vs1 gr1 g1) (σ : L2.St) (H : Hp) (Q : VK) (h : tG X S W O (rF X.K S) (compM2 vs vs1 m g m1 g1 te) σ H Q) :
    tLc2 (tG X S W O (rW X.K S) m) gr (tG X S W0 O rT (cM true)) (tG X S W0 O (rW X.K S) m1) gr1 (tG X S W0 O rT (cM true)) (tG X S W0 O (rD X.K S) te) vs vs1 σ H Q := by
  obtain ⟨Z, μ, ρ, st, L, R, p⟩ := h
  refine tG_bind L R p fun ds J st1 Z1 μ1 H1 s1 L1 R1 wk p1 => ?_
  intro a ha
  obtain ⟨sa, Ra⟩ := R1.lay (o := .lst []) ha
  have LW := L1.wipe (O := O) vs
  -- where the list a stands, filled so far
  let St1 : Hp → List D → Hp → List Addr → Store → List V → Prop := fun H acc Z2 μ2 st2 xs => Stp Z1 μ1 H1 Z2 μ2 H ∧ Rep X.K S Z2 μ2 H st2 ∧ H a = some (.lst xs) ∧ isDs X.K S Z2 μ2 acc xs ∧ Z2 a = none ∧ a ∉ μ2
  refine ⟨fun i n H => n = ds.length - i ∧ i ≤ ds.length ∧ ∃ Z2 μ2 st2 acc xs, St1 H acc Z2 μ2 st2 xs ∧ Po X.K S W σ Z1 μ1 H1 (rF X.K S) (compL2 g vs1 m1 g1 te (ds.drop i) (wipeD ρ vs) st2 acc) Q,
    ⟨ds.length, by simp, Nat.zero_le _, Z1, μ1, st1, [], [], ⟨sa, Ra, upd_same, rfl, (R1.nne ha).1, (R1.nne ha).2⟩, p1⟩, ?_⟩
  rintro i n H ⟨rfl, hi, Z2, μ2, st2, acc, xs, ⟨s2, R2, h1, h2, h3, h4⟩, p2⟩
  obtain ⟨w1, w2⟩ := wk Z2 μ2 H st2 s2.zz s2.mu R2
  by_cases hl : i < ds.length
  · have hd : ds.drop i = ds[i] :: ds.drop (i + 1) := List.drop_eq_getElem_cons hl
    rw [hd] at p2
    obtain ⟨go, yl⟩ := w1 i ds[i] (List.getElem?_eq_getElem hl)
    refine .inr ⟨go, fun H => ∃ Z2 μ2 st2 acc xs, St1 H acc Z2 μ2 st2 xs ∧ Po X.K S W σ Z1 μ1 H1 (rF X.K S) (compL2 g vs1 m1 g1 te (ds.drop (i + 1)) (wipeD ρ vs) st2 acc) Q, fun H' h' => ⟨ds.length - (i + 1), by omega, rfl, hl, h'⟩, fun x H3 hy => ?_⟩
    obtain ⟨Z3, s3, R3, i3⟩ := yl x H3 hy
    have s13 := s2.trans s3
    have L3 := LW.step s13
    unfold compL2 at p2
    cases eg : g ds[i] (wipeD ρ vs) st2 with
    | nx ρ1 st1' =>
      rw [eg] at p2
      refine hg ds[i] x O Z3 μ2 H3 _ _ ρ1 st2 st1' _ L3 R3 i3 eg fun σ2 hst Lt hw => ⟨hw.trans (wipe_wipe fun _ h => h), ?_⟩
      subst hst
      refine ⟨Z3, μ2, ρ1, st1', Lt, R3, ?_⟩
      intro t' Z4 μ4 H4 s4 R4 i4
      have i4 : true = t' := i4
      subst i4
      refine iteT ?_
      have p2 : Po X.K S W σ Z1 μ1 H1 (rF X.K S) (match m1 ρ1 st1' with
        | .ok es st2 => if plainE (wipeD ρ1 vs1) = true then (match compL g1 (cM true) te es (wipeD ρ1 vs1) st2 acc with
          | .ok acc' st3 => compL2 g vs1 m1 g1 te (ds.drop (i + 1)) (wipeD ρ vs) st3 acc'
          | _ => .fail) else .fail
        | _ => .fail) Q := p2
      refine ⟨Z4, μ4, ρ1, st1', Lt.step s4, R4, ?_⟩
      have s24 := s3.trans s4
      cases em : m1 ρ1 st1' with
      | ok es st5 =>
        rw [em] at p2
        intro J1 Z5 μ5 H5 s5 R5 wk1
        have s25 := s24.trans s5
        have L5 := (Lt.step s4).step s5
        have LW1 := L5.wipe (O := O) vs1
        have p2 : Po X.K S W σ Z1 μ1 H1 (rF X.K S) (if plainE (wipeD ρ1 vs1) = true then (match compL g1 (cM true) te es (wipeD ρ1 vs1) st5 acc with
          | .ok acc' st3 => compL2 g vs1 m1 g1 te (ds.drop (i + 1)) (wipeD ρ vs) st3 acc'
          | _ => .fail) else .fail) Q := p2
        have hpl : plainE (wipeD ρ1 vs1) = true := by
          by_cases z : plainE (wipeD ρ1 vs1) = true
          · exact z
          · rw [if_neg z] at p2
            exact p2.elim
        rw [if_pos hpl] at p2
        cases ec : compL g1 (cM true) te es (wipeD ρ1 vs1) st5 acc with
        | ok acc' st6 =>
          rw [ec] at p2
          have p2 : Po X.K S W σ Z1 μ1 H1 (rF X.K S) (compL2 g vs1 m1 g1 te (ds.drop (i + 1)) (wipeD ρ vs) st6 acc') Q := p2
          -- the inner turns: from H5 on
          refine ⟨fun j k H => k = es.length - j ∧ j ≤ es.length ∧ ∃ Z6 μ6 st7 acc2 xs2, St1 H acc2 Z6 μ6 st7 xs2 ∧ RepL X.K S O Z6 μ6 H (L2.wipe σ2 vs1) (wipeD ρ1 vs1) ∧ (∀ a o, Z5 a = some o → Z6 a = some o) ∧ (∀ (n : Nat) (a : Addr), μ5[n]? = some a → μ6[n]? = some a) ∧ compL g1 (cM true) te (es.drop j) (wipeD ρ1 vs1) st7 acc2 = .ok acc' st6,
            ⟨es.length, by simp, Nat.zero_le _, Z5, μ5, st5, acc, xs, ?_, LW1, fun _ _ z => z, fun _ _ z => z, by rw [List.drop_zero]; exact ec⟩, ?_⟩
          · exact ⟨s2.trans s25, R5, s25.fr a _ h1 h4 (fun ps z => by cases z), s25.isDs h2, s25.zn a h3 (by rw [h1]; intro z; cases z), fun z => (s25.mn a z).elim h4 fun e => by rw [h1] at e; cases e⟩
          rintro j k H ⟨rfl, hj, Z6, μ6, st7, acc2, xs2, ⟨t2, T2, g1', g2, g3, g4⟩, L6, hz6, hm6, ec6⟩
          obtain ⟨v1, v2⟩ := wk1 Z6 μ6 H st7 hz6 hm6 T2
          by_cases hj2 : j < es.length
          · have hd1 : es.drop j = es[j] :: es.drop (j + 1) := List.drop_eq_getElem_cons hj2
            rw [hd1] at ec6
            obtain ⟨ρ2, st8, e9, st9, q1, q2, q3, q4⟩ := compL_cons ec6
            obtain ⟨go1, yl1⟩ := v1 j es[j] (List.getElem?_eq_getElem hj2)
            refine .inr ⟨go1, fun H => ∃ Z6 μ6 st7 acc2 xs2, St1 H acc2 Z6 μ6 st7 xs2 ∧ RepL X.K S O Z6 μ6 H (L2.wipe σ2 vs1) (wipeD ρ1 vs1) ∧ (∀ a o, Z5 a = some o → Z6 a = some o) ∧ (∀ (n : Nat) (a : Addr), μ5[n]? = some a → μ6[n]? = some a) ∧ compL g1 (cM true) te (es.drop (j + 1)) (wipeD ρ1 vs1) st7 acc2 = .ok acc' st6,
              fun H' h' => ⟨es.length - (j + 1), by omega, rfl, hj2, h'⟩, fun x1 H7 hy1 => ?_⟩
            obtain ⟨Z7, s7, R7, i7⟩ := yl1 x1 H7 hy1
            refine hg1 es[j] x1 O Z7 μ6 H7 _ _ ρ2 st7 st8 _ (L6.step s7) R7 i7 q1 fun σ3 hst3 Lt3 hw3 => ⟨hw3.trans (wipe_wipe fun _ h => h), ?_⟩
            subst hst3
            refine ⟨Z7, μ6, ρ2, st8, Lt3, R7, ?_⟩
            intro t7 Z8 μ8 H8 s8 R8 i8
            have i8 : true = t7 := i8
            subst i8
            refine iteT ⟨Z8, μ8, ρ2, st8, Lt3.step s8, R8, ?_⟩
            rw [q2]
            intro y Z9 μ9 H9 s9 R9 i9
            have s69 := (s7.trans s8).trans s9
            have k1 : H9 a = some (.lst xs2) := s69.fr a _ g1' g4 (fun ps z => by cases z)
            have k3 : Z9 a = none := s69.zn a g3 (by rw [g1']; intro z; cases z)
            have k4 : a ∉ μ9 := fun z => (s69.mn a z).elim g4 fun e => by rw [g1'] at e; cases e
            refine ⟨xs2, k1, by rw [isDs_len g2]; exact line_m q3, ?_⟩
            obtain ⟨u1, u2, u3⟩ := wrD (a := a) (xs := xs2) (ys := xs2 ++ [y]) L1 (t2.trans s69) R9 ha k1 k3 k4
            have L9 : RepL X.K S O Z9 μ9 (upd H9 a (.lst (xs2 ++ [y]))) (L2.wipe σ2 vs1) (wipeD ρ1 vs1) := L6.plain hpl s69.zz s69.mu
            exact ⟨Z9, μ9, st9, acc2 ++ [e9], xs2 ++ [y], ⟨u1, u3, upd_same, isDs_app (s69.isDs g2) (isDs_cons i9 rfl), k3, k4⟩, L9, fun a o z => s69.zz a o (hz6 a o z), fun n a z => s69.mu n a (hm6 n a z), q4⟩
          · have e : j = es.length := by omega
            subst e
            rw [List.drop_length] at ec6
            cases ec6
            exact .inl ⟨v2, Z6, μ6, _, _, xs2, ⟨t2, T2, g1', g2, g3, g4⟩, p2⟩
        | exc c st6 => rw [ec] at p2; exact p2.elim
        | fail => rw [ec] at p2; exact p2.elim
      | exc c st5 => rw [em] at p2; exact p2.elim
      | fail => rw [em] at p2; exact p2.elim
    | _ => rw [eg] at p2; exact p2.elim
  · have e : i = ds.length := by omega
    subst e
    rw [List.drop_length] at p2
    exact .inl ⟨w2, p2 (.ref a) Z2 μ2 H s2 R2 ⟨a, xs, rfl, ha, h1, h2, h3, h4⟩⟩
theorem f_comp2 (own : List (Str × Nat)) (vs1 : List Nat) {tg tg1 elt iter iter1 : Expr} {scope : Scope} {m m1 : EM (List D)} {g g1 : GM} {gr gr1 : TG} {te : EM D} (hT : Tgt X.K S (own.map (·.2)) gr g) (hT1 : Tgt X.K S vs1 gr1 g1) (hN : X.N.Nodup) (hi : SI X S W O tg iter m) (ok : BlkOk X.N X.env.scope scope own) (hv : ∀ i ∈ vs1, i ∈ own.map (·.2))
    (hg : ∀ (s : Shared) (H : Hp) (C : Addr) (cl : List (Str × Addr)) (fp : List Addr), PG (X.blk s H scope (compEnvC scope cl C X.env) fp) tg gr)
    (hi1 : ∀ (s : Shared) (H : Hp) (C : Addr) (cl : List (Str × Addr)) (fp : List Addr), SI (X.blk s H scope (compEnvC scope cl C X.env) fp) S W0 O tg1 iter1 m1)
    (hg1 : ∀ (s : Shared) (H : Hp) (C : Addr) (cl : List (Str × Addr)) (fp : List Addr), PG (X.blk s H scope (compEnvC scope cl C X.env) fp) tg1 gr1)
    (he : ∀ (s : Shared) (H : Hp) (C : Addr) (cl : List (Str × Addr)) (fp : List Addr), SE (X.blk s H scope (compEnvC scope cl C X.env) fp) S W0 O elt te) (hc : X.calm = true := by rfl) (hs : ∀ x, foldedSetIterable iter X.env x = pure x := by intro _; rfl) (hs1 : ∀ env x, foldedSetIterable iter1 env x = pure x := by intro _ _; rfl) :
    SF X S W O (.ListComp elt [⟨tg, iter, [], 0⟩, ⟨tg1, iter1, [], 0⟩] scope pos) (compM2 (own.map (·.2)) vs1 m g m1 g1 te) :=
  pe_imp (pe_lc2 hc hN hi ok hv hg (fun _ _ _ _ _ => pt_nil) hi1 hg1 (fun _ _ _ _ _ => pt_nil) he hs hs1) (tLc2_of hT hT1)
end
end Sm
set_option Elab.async false
set_option linter.all false
set_option maxRecDepth 100000
set_option maxHeartbeats 4000000
set_option autoImplicit false
namespace Sm
open PySem PySem.Spec PyProof.Rows L2
section
variable {X : Cx} {S : Sta} {W : WX} {O : Or} {pos : Pos}
def rCatL (K : Frg) : R2 := fun x y H Q => ∃ l b xs zs, x = .ref l ∧ y = .ref b ∧ SqL K H l xs ∧ SqL K H b zs ∧ xs.length + zs.length ≤ sizeLine ∧ ∀ p, H p = none → Q (.ref p) (upd H p (.lst (xs ++ zs)))
theorem op_catL : OpR X (binaryOp .Add) (rCatL X.K) := by
  intro pins s σ H x y v u Q I rx ry h
  obtain ⟨l, b, xs, zs, rfl, rfl, hH, hB, hz, q⟩ := h
  cases rx
  cases ry
  obtain ⟨its, r, pl, z⟩ := I.list hH
  obtain ⟨its2, r2, pl2, z2⟩ := I.list hB
  obtain ⟨⟨cls, dd, data, sl⟩, ho, hc, n, hd⟩ := pl.isList
  obtain ⟨⟨cls2, dd2, data2, sl2⟩, ho2, hc2, n2, hd2⟩ := pl2.isList
  simp only at hc hd hc2 hd2
  subst hc hd hc2 hd2
  refine PySem.concat_meets ⟨_, ho, rfl⟩ ⟨_, ho2, rfl⟩ noFill_list_add seq_list_add PySem.F.slot_list_add PySem.F.entry_list_add (PySem.F.args_list_add_2 _ _) (list_addW l b its.toArray its2.toArray n n2 dd dd2 sl sl2 (by rw [List.size_toArray, List.size_toArray, ← r.length, ← r2.length]; exact hz)) ⟨ho, ho2, ?_⟩
  rw [show its.toArray ++ its2.toArray = (its ++ its2).toArray by simp]
  exact ⟨.ref _, _, I.lnew (t' := s.toks) (r.append r2) (by rw [List.length_append]; exact hz), rfl, q _ I.fresh⟩
/-- list + list: a new one -/
def catM (ma mb : EM D) : EM (List D) := fun ρ st => (ma ρ st).bind fun d st1 => (mb ρ st1).bind fun e st2 => match d, e with
  | .lst xs, .lst ys => if xs.length + ys.length ≤ 1000000 then .ok (xs ++ ys) st2 else .fail
  | _, _ => .fail
theorem f_cat {a b : Expr} {ma mb : EM D} (ha : SE X S W O a ma) (hb : SE X S W O b mb) : SF X S W O (.BinOp a .Add b pos) (catM ma mb) :=
  pe_imp (pe_op op_catL ha hb) fun σ H Q ⟨Z, μ, ρ, st, L, R, pp⟩ => by
    refine tG_bind L R pp fun d v st1 Z1 μ1 H1 s1 L1 R1 i1 p1 => ?_
    refine tG_bind L1 R1 p1 fun e w st2 Z2 μ2 H2 s2 L2 R2 i2 p2 => ?_
    split at p2
    · rename_i xs ys
      by_cases hl : xs.length + ys.length ≤ 1000000
      · rw [if_pos hl] at p2
        obtain ⟨pa, vs, rfl, q1, d1⟩ := s2.isD i1
        obtain ⟨pb, ws, rfl, q2, d2⟩ := i2
        refine ⟨pa, pb, vs, ws, rfl, rfl, sql_mono R2.le q1, sql_mono R2.le q2, ?_, fun q hq => ?_⟩
        · rw [isDs_len d1, isDs_len d2, sizeLine_eq]
          omega
        · obtain ⟨s3, R3⟩ := R2.lay (o := .lst (vs ++ ws)) hq
          exact p2 _ _ μ2 _ s3 R3 ⟨q, _, rfl, hq, upd_same, isDs_app d1 d2, (R2.nne hq).1, (R2.nne hq).2⟩
      · rw [if_neg hl] at p2
        exact p2.elim
    · exact p2.elim
def flatD : D → Option V
  | .non => some .non
  | .bl b => some (.bl b)
  | .int i => some (.int i)
  | .str x => some (.str x)
  | _ => none
def flatDs : List D → Option (List V)
  | [] => some []
  | d :: ds => match flatD d, flatDs ds with
    | some v, some vs => some (v :: vs)
    | _, _ => none
theorem flatD_ok {K : Frg} {Z : Hp} {μ : List Addr} {d : D} {v u : V} (h : isD K S Z μ d v) (e : flatD d = some u) : v = u ∧ flatV u = true := by
  cases d <;> first | (cases e; done) | skip
  · cases e; exact ⟨h, rfl⟩
  · cases e; exact ⟨h, rfl⟩
  · cases e; exact ⟨h, rfl⟩
  · cases e; exact ⟨h, rfl⟩
theorem flatDs_ok {K : Frg} {Z : Hp} {μ : List Addr} : ∀ {ds : List D} {vs us : List V}, isDs K S Z μ ds vs → flatDs ds = some us → vs = us ∧ us.all flatV = true
  | [], vs, us, h, e => by
    cases e
    exact ⟨h, rfl⟩
  | d :: ds, vs, us, h, e => by
    obtain ⟨v, r, rfl, q, t⟩ := h
    unfold flatDs at e
    cases e1 : flatD d with
    | none => rw [e1] at e; cases e
    | some u =>
      cases e2 : flatDs ds with
      | none => rw [e1, e2] at e; cases e
      | some us2 =>
        rw [e1, e2] at e
        cases e
        obtain ⟨rfl, f1⟩ := flatD_ok q e1
        obtain ⟨rfl, f2⟩ := flatDs_ok t e2
        exact ⟨rfl, by rw [List.all_cons, f1, f2]; rfl⟩
/-- the items of a list, a tuple -/
def inG (neg : Bool) : D → D → Store → Option D := fun d e st => match flatD d, seqOf e st with
  | some x, some ds => (match flatDs ds with
    | some xs => some (.bl (if neg then !inV x xs else inV x xs))
    | none => none)
  | _, _ => none
abbrev inD := inG false
abbrev notInD := inG true
theorem fInG {K : Frg} {neg : Bool} : OpF K S (inG neg) (rIn K neg) := by
  intro d e c x y Z μ H st Q R h1 h2 hf k
  unfold inG at hf
  cases e1 : flatD d with
  | none => rw [e1] at hf; cases hf
  | some u =>
    cases e2 : seqOf e st with
    | none => rw [e1, e2] at hf; cases hf
    | some ds =>
      rw [e1, e2] at hf
      have hf : (match flatDs ds with
        | some xs => some (D.bl (if neg then !inV u xs else inV u xs))
        | none => none) = some c := hf
      cases e3 : flatDs ds with
      | none => rw [e3] at hf; cases hf
      | some us =>
        rw [e3] at hf
        cases hf
        obtain ⟨a, xs, rfl, hs, hd⟩ := seqOf_at R (h2 H) e2
        obtain ⟨rfl, f2⟩ := flatDs_ok hd e3
        have hx : x = u ∧ flatV u = true := by
          rcases h1 H with q | ⟨es, a, zs, rfl, _⟩
          · exact flatD_ok q e1
          · cases e1
        obtain ⟨rfl, f1⟩ := hx
        refine ⟨a, xs, rfl, ?_, f1, f2, k _ Z μ H Stp.refl R rfl⟩
        rcases hs with hs | hs
        · exact .inl hs
        · exact .inr hs
end
end Sm
set_option Elab.async false
set_option linter.all false
set_option maxRecDepth 100000
set_option maxHeartbeats 4000000
set_option autoImplicit false
namespace Sm
open PySem PySem.Spec PyProof.Rows L2
/-- the wishes of clauses one behind the other, each binds the slot i -/
def wAsM (K : PySem.W.Frag) (i : Nat) (Wo : WX) (D : Ends) : List (Value × (Addr → Value → Option Addr → TS)) → WX
  | [] => Wo
  | (c, ts) :: r => wAs K c i ts (wAsM K i Wo D r) D
/-- clauses `except x as n` -/
inductive Clauses (X : Cx) (n : Str) : List ExceptHandler → List (Value × (Addr → Value → Option Addr → TS)) → Prop
  | nil : Clauses X n [] []
  | cons {x : Str} {c : Value} {ts : Addr → Value → Option Addr → TS} {b₀ : Stmt} {ss : List Stmt} {p q : Pos} {es : List ExceptHandler} {l : List (Value × (Addr → Value → Option Addr → TS))} (hc : Names X x c)
      (hsu : ∀ (a : Addr) (oe : Obj) (cls : Value) (d : Option Addr) (pn : List (Addr × Obj)), Zc cls d oe → (∃ vs, oe.data = .fields vs) → PSs (X.suite a ((a, oe) :: pn)) (b₀ :: ss) (ts a cls d)) (r : Clauses X n es l) :
      Clauses X n (.ExceptHandler (some (.Name x p)) (some n) (b₀ :: ss) q :: es) ((c, ts) :: l)
section
variable {X : Cx} {n : Str} {i : Nat} {body : List Stmt} {e₀ : ExceptHandler} {es : List ExceptHandler} {l : List (Value × (Addr → Value → Option Addr → TS))} {pos : Pos} {tb : WX → TS} {Wo : WX}
theorem ps_try_asM (hs : X.stack = X.env :: X.outer) (hf : X.env.frame = some X.env.locals) (hN : X.N.Nodup) (hi : X.N[i]? = some n) (hln : X.env.kindOf n = some .local) (tk : Takes X Wo)
    (hb : ∀ (W : WX) (pn : List (Addr × Obj)) (xe : Value → Shared → Prop), Takes (X.tr pn xe) W → PassesOwn (model X.prog X.w) X.A X.env xe → PSs (X.tr pn xe) body (tb W))
    (hh : Clauses X n (e₀ :: es) l) : PS X (.Try body (e₀ :: es) [] [] pos) (fun D σ H => tb (wAsM X.K i Wo D l) D σ H) := by
  refine ⟨fun pins s σ H D I h => ?_⟩
  have ok := I.ok
  have hfr : X.A.frames = some (X.env :: X.outer) := by rw [ok.frames, hs]
  refine wpAny_Try_except (wpAny_mono ((hb (wAsM X.K i Wo D l) (X.pn ++ pins) (fun e s₁ => wpAny (model X.prog X.w) X.A (noteFrame e X.env) (fun _ s₂ => wpAny (model X.prog X.w) X.A (setFlight e none) (fun _ s₃ => wpAny (model X.prog X.w) X.A (handleBy e X.env (e₀ :: es)) (SP X pins D) X.xe s₃) X.xe s₂) X.xe s₁) (fun u s' xx => ?_) PassesOwn.looking).run [] s σ H D (I.toTry _) h) (fun f s1 sp => ?_) fun e s1 he => he)
  · obtain ⟨a, B, sI, pins', σ', H', cls, d, rfl, J', nb, up, sky, na, os, ag, w⟩ := xx
    have J : Inv X pins σ' H' sI := J'.ofTry ok
    refine Sky.land Zc.steady hfr hf (by rw [← hs]; exact sky : Sky B (X.env :: X.outer) a (Zc cls d) X.env.locals s'.heap) fun h3 fl up3 => ?_
    have J3 : Inv X pins σ' H' { s' with heap := h3 } := J.landed nb fl.1 (up.trans up3) os ag
    obtain ⟨o3, v3, g3, z3, f3⟩ := fl.there
    have far : a ∉ frs (X.env :: X.outer) := fun hm => by
      obtain ⟨_, o', g', no⟩ := fl.2.2.1.mem hm
      cases g3.symm.trans g'
      exact no _ f3
    have nL : a ≠ X.env.locals := fun z => far (List.mem_filterMap.mpr ⟨X.env, List.mem_cons_self, by rw [hf, z]⟩)
    have nF : a ∉ X.fs := fun hm => by
      obtain ⟨v, hv, q⟩ := List.mem_filterMap.mp hm
      exact far (List.mem_filterMap.mpr ⟨v, List.mem_cons_of_mem _ hv, q⟩)
    have S3 := J3.suite g3 f3 na nL nF
    suffices go : ∀ {hs' : List ExceptHandler} {l' : List (Value × (Addr → Value → Option Addr → TS))}, Clauses X n hs' l' → wAsM X.K i Wo D l' cls d σ' H' → wpAny (model X.prog X.w) X.A (handleBy (.ref a) X.env hs') (SP X pins D) X.xe { s' with heap := h3 } from go hh w
    intro hs' l' hk
    induction hk with
    | nil =>
      intro w
      obtain ⟨k1, k2, k3, oe, vs, T, oT, ts', he, hz, hd, h1, hr⟩ := id fl
      have fin : wpAny (model X.prog X.w) X.A (setFlight (.ref a) X.env.frame) (fun _ s4 => wpAny (model X.prog X.w) X.A (throw (.ref a) : Sem Flow) (SP X pins D) X.xe s4) X.xe { s' with heap := h3 } := by
        rw [hf]
        exact HandSPX.setFlight_upZ fl fun h4 hh4 up4 => wpAny_throw (tk _ _ ⟨a, B, sI, pins, σ', H', cls, d, rfl, J, nb, (up.trans up3).trans up4, .inr (.inr (by rw [hs]; exact hh4)), na, os, ag, w⟩)
      refine wpAny_handleBy_nil ?_
      unfold PySem.passOn
      refine wpAny_bind (wpAny_field he hd h1 ?_)
      rw [if_neg (show ¬ ((Value.ref T == Value.none) = true) from by simp)]
      first
        | exact wpAny_bind (wpAny_pure (wpAny_bind fin))
        | exact wpAny_bind fin
    | @cons x c ts b₀ ss p q es2 l2 hc hsu r ih =>
      intro w
      obtain ⟨b, hb1, hy, hn⟩ := w
      have LM := PySem.W.exm_one (M := model X.prog X.w) J3.kIn (fun A Q E s k q => wpAny_typeOf_ref (k _ _ g3) (by rw [z3.1]; exact q) : PySem.W.Looks (model X.prog X.w) h3 (typeOf (.ref a)) cls) hb1
      have test : ∀ {Q : Value → Shared → Prop} {E : Value → Shared → Prop}, Q c { s' with heap := h3 } → wpAny (model X.prog X.w) (X.A.mark (some (.ref a))) (eval (.Name x p) X.env) Q E { s' with heap := h3 } := fun {Q E} q => by
        obtain ⟨hg, hdb, hm | ⟨hm, hv, hnn⟩⟩ := hc
        · exact ld_glob (X := X.suite a ((a, o3) :: (X.pn ++ pins))) S3 hg hm q hdb
        · exact ld_blt (X := X.suite a ((a, o3) :: (X.pn ++ pins))) S3 hg hm hv q hnn hdb
      refine wpAny_handleBy_cons (codeAny_handlers_test (test (LM.here ?_))) (by intro q; cases q)
      cases b with
      | true =>
        refine codeAny_handlers_suite_as (HandSPX.lands_againZ fl fun h4 f4 up4 => ?_)
        have J4 : Inv X pins σ' H' { s' with heap := h4 } := J.landed nb f4.1 ((up.trans up3).trans up4) os ag
        obtain ⟨o4, v4, g4, z4, d4⟩ := f4.there
        refine store_ok (X := X.suite a ((a, o4) :: (X.pn ++ pins))) (v := .ref a) (J4.suite g4 d4 na nL nF) hN hi (.inl hln) rfl (fun s5 S5 => ?_) (.inr hln)
        refine wpAny_mono ((hsu a o4 cls d (X.pn ++ pins) z4 ⟨_, d4⟩).run [] s5 _ H' _ S5 (hy rfl a na)) (fun f s6 sp => ?_) fun _ _ z => False.elim z
        have off : ∀ {σ6 : L2.St} {H6 : Hp} {Q : Shared → Prop}, Inv (X.suite a ((a, o4) :: (X.pn ++ pins))) [] σ6 H6 s6 → (∀ s7, Inv X pins (σ6.set i none) H6 s7 → Q s7) → wpAny (model X.prog X.w) X.A (do bindName X.env n .none; unbindBehindTheSuite X.env n q) (fun _ s7 => Q s7) X.xe s6 := fun {σ6 H6 Q} S6 hq => gone_ok (S6.unsuite ok) hN hi hln hq
        cases f with
        | ret u => obtain ⟨v6, σ6, H6, S6, r6, q6⟩ := sp; exact off S6 fun s7 J7 => ⟨_, _, _, J7, r6, q6⟩
        | next => obtain ⟨σ6, H6, S6, q6⟩ := sp; exact off S6 fun s7 J7 => ⟨_, _, J7, q6⟩
        | brk => obtain ⟨σ6, H6, S6, q6⟩ := sp; exact off S6 fun s7 J7 => ⟨_, _, J7, q6⟩
        | cont => obtain ⟨σ6, H6, S6, q6⟩ := sp; exact off S6 fun s7 J7 => ⟨_, _, J7, q6⟩
      | false => exact ih (hn rfl)
  · cases f with
    | ret u => obtain ⟨v, σ', H', J', r, q⟩ := sp; exact ⟨v, σ', H', J'.ofTry ok, r, q⟩
    | next => obtain ⟨σ', H', J', q⟩ := sp; exact wpAny_execs_nil ⟨σ', H', J'.ofTry ok, q⟩
    | brk => obtain ⟨σ', H', J', q⟩ := sp; exact ⟨σ', H', J'.ofTry ok, q⟩
    | cont => obtain ⟨σ', H', J', q⟩ := sp; exact ⟨σ', H', J'.ofTry ok, q⟩
end
end Sm
set_option Elab.async false
set_option linter.all false
set_option maxRecDepth 100000
set_option maxHeartbeats 4000000
set_option autoImplicit false
namespace Sm
open PySem PySem.Spec PyProof.Rows L2
/-- hx: which classes the clause takes; rs: what its suite then does -/
def pickC (i : Nat) : List ((Nat → Option Bool) × (Nat → SM)) → Nat → SM
  | [], c => fun ρ st => .exc c ρ st
  | (hx, rs) :: r, c => fun ρ st => match hx c with
    | some true => if i < ρ.length then rs c ρ st else .fail
    | some false => pickC i r c ρ st
    | none => .fail
def tryMS (i : Nat) (l : List ((Nat → Option Bool) × (Nat → SM))) (mb : SM) : SM := fun ρ st => match mb ρ st with
  | .exc c ρ' st' => pickC i l c ρ' st'
  | r => r
abbrev clT (X : Cx) (S : Sta) (O : Or) (hx : Nat → Option Bool) (su : Addr → Nat → SM) : Addr → Value → Option Addr → TS := fun a cls d Dn σ H => ∃ c, cls = .ref (He.ga X.K (S.cn c)) ∧ d = none ∧ hx c = some true ∧ tS X S wNo O (su a c) Dn σ H
inductive ClsM (X : Cx) (S : Sta) (O : Or) (i : Nat) (n : Str) : List ExceptHandler → List (Value × (Addr → Value → Option Addr → TS)) → List ((Nat → Option Bool) × (Nat → SM)) → Prop
  | nil : ClsM X S O i n [] [] []
  | cons (su : Addr → Nat → SM) {x : Str} {C : Value} {suite : List Stmt} {b₀ : Stmt} {np pos' : Pos} {hx : Nat → Option Bool} {rs : Nat → SM} {es : List ExceptHandler} {l : List (Value × (Addr → Value → Option Addr → TS))} {m : List ((Nat → Option Bool) × (Nat → SM))} (hc : Names X x C)
    (hm : ∀ c b, hx c = some b → PySem.W.exmOne X.K (.ref (He.ga X.K (S.cn c))) C = some b)
    (hsu : ∀ (c : Nat), hx c = some true → ∀ (a : Addr) (oe : Obj) (pn : List (Addr × Obj)), Zc (.ref (He.ga X.K (S.cn c))) none oe → (∃ vs, oe.data = .fields vs) → SSs (X.suite a ((a, oe) :: pn)) S wNo O (b₀ :: suite) (su a c))
    (hrs : ∀ (a : Addr) (c : Nat) (ρ : Env1) (st : Store), hx c = some true → i < ρ.length → unS i (su a c (ρ.set i (.adr a)) st) = rs c ρ st) (r : ClsM X S O i n es l m) :
    ClsM X S O i n (.ExceptHandler (some (.Name x np)) (some n) (b₀ :: suite) pos' :: es) ((C, clT X S O hx su) :: l) ((hx, rs) :: m)
section
variable {X : Cx} {S : Sta} {W : WX} {O : Or} {pos : Pos} {i : Nat} {n : Str}
theorem ClsM.ok {es : List ExceptHandler} {l : List (Value × (Addr → Value → Option Addr → TS))} {m : List ((Nat → Option Bool) × (Nat → SM))} (h : ClsM X S O i n es l m) : Clauses X n es l := by
  induction h with
  | nil => exact .nil
  | cons su hc hm hsu hrs r ih =>
    refine .cons hc (fun a oe cls d pn hz hv => ⟨fun pins s σ H Dn I ⟨c, e1, e2, e3, q⟩ => ?_⟩) ih
    subst e1 e2
    exact (hsu c e3 a oe pn hz hv).run pins s σ H Dn I q
theorem ClsM.wish {es : List ExceptHandler} {l : List (Value × (Addr → Value → Option Addr → TS))} {m : List ((Nat → Option Bool) × (Nat → SM))} (h : ClsM X S O i n es l m) {c : Nat} {ρ : Env1} {st : Store} {Dn : Ends} (p : PoS X.K S W O (pickC i m c ρ st) Dn) :
    PoS X.K S (wAsM X.K i W Dn l) O (.exc c ρ st) Dn := by
  induction h with
  | nil => exact p
  | @cons su x C suite b₀ np pos' hx rs es l m hc hm hsu hrs r ih =>
    have p : PoS X.K S W O (match hx c with
      | some true => if i < ρ.length then rs c ρ st else .fail
      | some false => pickC i m c ρ st
      | none => .fail) Dn := p
    intro σ1 Z1 μ1 H1 s1 L1 R1
    cases e2 : hx c with
    | none => rw [e2] at p; exact p.elim
    | some b =>
      rw [e2] at p
      refine ⟨b, hm c b e2, fun hbt a ha => ?_, fun hbf => ?_⟩
      · subst hbt
        have p : PoS X.K S W O (if i < ρ.length then rs c ρ st else .fail) Dn := p
        by_cases hl : i < ρ.length
        · rw [if_pos hl] at p
          refine ⟨c, rfl, rfl, e2, Z1, μ1, ρ.set i (.adr a), st, s1, L1.adr, R1, ?_⟩
          exact pos_un (i := i) (by rw [hrs a c ρ st e2 hl]; exact p)
        · rw [if_neg hl] at p
          exact p.elim
      · subst hbf
        exact ih p σ1 Z1 μ1 H1 s1 L1 R1
theorem st_tryM {e₀ : ExceptHandler} {es : List ExceptHandler} {l : List (Value × (Addr → Value → Option Addr → TS))} {m : List ((Nat → Option Bool) × (Nat → SM))} {body : List Stmt} {mb : SM} (tk : Takes X W) (hN : X.N.Nodup) (hi : X.N[i]? = some n) (hcl : ClsM X S O i n (e₀ :: es) l m)
    (hb : ∀ (W : WX) (pn : List (Addr × Obj)) (xe : Value → Shared → Prop), Takes (X.tr pn xe) W → PassesOwn (model X.prog X.w) X.A X.env xe → SSs (X.tr pn xe) S W O body mb)
    (hs : X.stack = X.env :: X.outer := by rfl) (hf : X.env.frame = some X.env.locals := by rfl) (hln : X.env.kindOf n = some .local := by rfl) :
    SS X S W O (.Try body (e₀ :: es) [] [] pos) (tryMS i m mb) := by
  refine ps_imp (ps_try_asM (tb := fun W => tS X S W O mb) hs hf hN hi hln tk hb hcl.ok) fun Dn σ H ⟨Z, μ, ρ, st, s, L, R, p⟩ => ⟨Z, μ, ρ, st, s, L, R, ?_⟩
  unfold tryMS at p
  cases e : mb ρ st with
  | exc c ρ' st' => rw [e] at p; exact hcl.wish p
  | nx ρ' st' => rw [e] at p; exact p
  | bk ρ' st' => rw [e] at p; exact p
  | ct ρ' st' => rw [e] at p; exact p
  | ret d st' => rw [e] at p; exact p
  | fail => rw [e] at p; exact p
end
end Sm
set_option Elab.async false
set_option linter.all false
set_option maxRecDepth 100000
set_option maxHeartbeats 4000000
set_option autoImplicit false
namespace Sm
open PySem PySem.Spec PyProof.Rows L2
def par3R (i j l : Nat) (ρ : Env1) (ds : List D) (st : Store) : RS := match ds with
  | [a, b, c] => .nx (((ρ.set i (.val a)).set j (.val b)).set l (.val c)) st
  | _ => .fail
def par3S (i j l : Nat) (m : EM (List D)) : SM := fun ρ st => (m ρ st).toS ρ (par3R i j l ρ)
section
variable {X : Cx} {S : Sta} {W : WX} {O : Or} {pos : Pos}
theorem st_par3 {i j l : Nat} {x y z : Str} {a b c : Expr} {m : EM (List D)} {px py pz pt : Pos} {kt k2 : Nat} {pt2 : Pos} (hN : X.N.Nodup) (ha : SA X S W O [a, b, c] m) (hi : X.N[i]? = some x := by rfl) (hj : X.N[j]? = some y := by rfl) (hl : X.N[l]? = some z := by rfl) (hij : i ≠ j := by decide) (hil : i ≠ l := by decide) (hjl : j ≠ l := by decide)
    (hx : X.env.scope.names.lookup x = some .local := by rfl) (hy : X.env.scope.names.lookup y = some .local := by rfl) (hz : X.env.scope.names.lookup z = some .local := by rfl) (hc : X.calm = true := by rfl)
    (hw : swappedStores [.Tuple [.Name x px, .Name y py, .Name z pz] kt pt] (.Tuple [a, b, c] k2 pt2) X.env = pure (some [x, y, z]) := by rfl)
    (hs : swapsWithSole [.Tuple [.Name x px, .Name y py, .Name z pz] kt pt] (.Tuple [a, b, c] k2 pt2) pos.line X.env = pure false := by rfl) :
    SS X S W O (.Assign [.Tuple [.Name x px, .Name y py, .Name z pz] kt pt] (.Tuple [a, b, c] k2 pt2) pos) (par3S i j l m) :=
  ps_imp (ps_par3 hc hN hi hj hl hij hil hjl hx hy hz ha hw hs) fun Dn σ H ⟨Z, μ, ρ, st, s, L, R, p⟩ => tS_bind s L R p fun ds vs st1 Z1 μ1 H1 s1 s2 L1 R1 i1 p1 => by
    match ds, p1, i1 with
    | [a, b, c], p1, ⟨v, r, e1, q1, v2, r2, e2, q2, v3, r3, e3, q3, e4⟩ =>
      subst e4 e3 e2 e1
      exact ⟨v, v2, v3, rfl, p1 _ Z1 μ1 H1 s1 (((L1.set q1).set q2).set q3) R1⟩
    | [], p1, _ => exact p1.elim
    | [_], p1, _ => exact p1.elim
    | [_, _], p1, _ => exact p1.elim
    | _ :: _ :: _ :: _ :: _, p1, _ => exact p1.elim
end
section
variable {ρ : Env1} {st : Store}
@[simp] theorem par3S_ap {i j l : Nat} {m : EM (List D)} : par3S i j l m ρ st = (m ρ st).toS ρ (par3R i j l ρ) := rfl
@[simp] theorem par3R_three {i j l : Nat} {a b c : D} : par3R i j l ρ [a, b, c] st = .nx (((ρ.set i (.val a)).set j (.val b)).set l (.val c)) st := rfl
end
end Sm
set_option Elab.async false
set_option linter.all false
set_option maxRecDepth 100000
set_option maxHeartbeats 4000000
set_option autoImplicit false
namespace Sm
open PySem
class BQ (n d : outParam Nat) (x : Rat) : Prop where
  num : x.num.natAbs < 2 ^ n
  den : x.den < 2 ^ d
section
variable {n d m e : Nat} {x y : Rat}
theorem BQ.bq (h : BQ n d x) : Bq n d x := ⟨h.num, h.den⟩
theorem Bq.bQ (h : Bq n d x) : BQ n d x := ⟨h.num, h.den⟩
theorem Bq.dpos (h : Bq n d x) : 0 < d := by
  by_cases z : d = 0
  · have := h.den
    have := x.den_pos
    subst z
    omega
  · omega
theorem Bq.add' (h1 : Bq n d x) (h2 : Bq m e y) : Bq (max (n + e) (m + d) + 1) (d + e) (x + y) := h1.add h2 (by omega) (by omega)
theorem Bq.sub' (h1 : Bq n d x) (h2 : Bq m e y) : Bq (max (n + e) (m + d) + 1) (d + e) (x - y) := h1.sub h2 (by omega) (by omega)
theorem Bq.zero (h : 0 < d) : Bq n d 0 := ⟨Nat.two_pow_pos _, Nat.one_lt_two_pow (by omega)⟩
theorem Bq.div' (h1 : Bq n d x) (h2 : Bq m e y) : Bq (n + e) (d + m) (x / y) := by
  by_cases h0 : y = 0
  · subst h0
    rw [Rat.div_def, Rat.inv_zero, Rat.mul_zero]
    exact Bq.zero (by have := h1.dpos; omega)
  · exact h1.div h2 h0
instance [h1 : BQ n d x] [h2 : BQ m e y] : BQ (max (n + e) (m + d) + 1) (d + e) (x + y) := (h1.bq.add' h2.bq).bQ
instance [h1 : BQ n d x] [h2 : BQ m e y] : BQ (max (n + e) (m + d) + 1) (d + e) (x - y) := (h1.bq.sub' h2.bq).bQ
instance [h1 : BQ n d x] [h2 : BQ m e y] : BQ (n + m) (d + e) (x * y) := (h1.bq.mul h2.bq).bQ
instance [h1 : BQ n d x] [h2 : BQ m e y] : BQ (n + e) (d + m) (x / y) := (h1.bq.div' h2.bq).bQ
instance [h1 : BQ n d x] : BQ n d (-x) := h1.bq.neg.bQ
instance : BQ 1 1 (0 : Rat) := ⟨by decide, by decide⟩
instance : BQ 1 1 (1 : Rat) := ⟨by decide, by decide⟩
instance : BQ 2 1 (2 : Rat) := ⟨by decide, by decide⟩
instance : BQ 3 1 (4 : Rat) := ⟨by decide, by decide⟩
/-- what may be reckoned with -/
structure K (x : Rat) : Prop where
  bq : Bq 4499 4499 x
theorem K_of [h : BQ n d x] (h1 : n ≤ 4499) (h2 : d ≤ 4499) : K x := ⟨h.bq.mono h1 h2⟩
/-- what may be printed -/
structure Kp (x : Rat) : Prop where
  bq : Bq 1900 1900 x
theorem Kp_of [h : BQ n d x] (h1 : n ≤ 1900) (h2 : d ≤ 1900) : Kp x := ⟨h.bq.mono h1 h2⟩
theorem bq_eq {z : Rat} (h : BQ n d x) (e : z = x) : BQ n d z := e ▸ h
theorem bq_up (h : Bq n d x) (h1 : n ≤ m) (h2 : d ≤ e) : BQ m e x := (h.mono h1 h2).bQ
end
abbrev Pt := Rat × Rat
class BP (n d : outParam Nat) (p : Pt) : Prop where
  x : BQ n d p.1
  y : BQ n d p.2
section
variable {n d m e k l : Nat} {p q : Pt}
instance [h : BP n d p] : BQ n d p.1 := h.x
instance [h : BP n d p] : BQ n d p.2 := h.y
def wayR (p q : Pt) : Pt := (q.1 - p.1, q.2 - p.2)
def dotR (a b : Pt) : Rat := a.1 * b.1 + a.2 * b.2
def crossR (a b : Pt) : Rat := a.1 * b.2 - a.2 * b.1
def goneR (p w : Pt) (t : Rat) : Pt := (p.1 + w.1 * t, p.2 + w.2 * t)
def sqR (p q : Pt) : Rat := dotR (wayR p q) (wayR p q)
instance [h1 : BP n d p] [h2 : BP m e q] : BP (max (m + d) (n + e) + 1) (e + d) (wayR p q) := ⟨(h2.x.bq.sub' h1.x.bq).bQ, (h2.y.bq.sub' h1.y.bq).bQ⟩
instance [h1 : BP n d p] [h2 : BP m e q] : BQ (max (n + m + (d + e)) (n + m + (d + e)) + 1) (d + e + (d + e)) (dotR p q) := ((h1.x.bq.mul h2.x.bq).add' (h1.y.bq.mul h2.y.bq)).bQ
instance [h1 : BP n d p] [h2 : BP m e q] : BQ (max (n + m + (d + e)) (n + m + (d + e)) + 1) (d + e + (d + e)) (crossR p q) := ((h1.x.bq.mul h2.y.bq).sub' (h1.y.bq.mul h2.x.bq)).bQ
instance {t : Rat} [h1 : BP n d p] [h2 : BP m e q] [h3 : BQ k l t] : BP (max (n + (e + l)) (m + k + d) + 1) (d + (e + l)) (goneR p q t) := ⟨(h1.x.bq.add' (h2.x.bq.mul h3.bq)).bQ, (h1.y.bq.add' (h2.y.bq.mul h3.bq)).bQ⟩
end
theorem dot_zero {a : Pt} : dotR a a = 0 ↔ a = (0, 0) := by
  constructor
  · intro h
    obtain ⟨x, y⟩ := a
    have h : x * x + y * y = 0 := h
    have hx : 0 ≤ x * x := by
      rcases Rat.le_total (a := 0) (b := x) with z | z
      · exact Rat.mul_nonneg z z
      · have := Rat.mul_nonneg (a := -x) (b := -x) (by grind) (by grind)
        grind
    have hy : 0 ≤ y * y := by
      rcases Rat.le_total (a := 0) (b := y) with z | z
      · exact Rat.mul_nonneg z z
      · have := Rat.mul_nonneg (a := -y) (b := -y) (by grind) (by grind)
        grind
    have x0 : x * x = 0 := by grind
    have y0 : y * y = 0 := by grind
    have : x = 0 := by grind
    have : y = 0 := by grind
    simp [*]
  · intro h
    rw [h]
    show (0 : Rat) * 0 + 0 * 0 = 0
    grind
theorem sq_nonneg (x : Rat) : 0 ≤ x * x := by
  rcases Rat.le_total (a := 0) (b := x) with z | z
  · exact Rat.mul_nonneg z z
  · have := Rat.mul_nonneg (a := -x) (b := -x) (by grind) (by grind)
    grind
theorem dot_nonneg {a : Pt} : 0 ≤ dotR a a := by
  have h1 := sq_nonneg a.1
  have h2 := sq_nonneg a.2
  unfold dotR
  grind
theorem way_zero {p q : Pt} : wayR p q = (0, 0) ↔ p = q := by
  obtain ⟨a, b⟩ := p
  obtain ⟨c, d⟩ := q
  constructor
  · intro h
    have h1 : c - a = 0 := congrArg Prod.fst h
    have h2 : d - b = 0 := congrArg Prod.snd h
    have : a = c := by grind
    have : b = d := by grind
    simp [*]
  · intro h
    cases h
    show (a - a, b - b) = _
    have : a - a = 0 := by grind
    have : b - b = 0 := by grind
    simp [*]
theorem sq_zero {p q : Pt} : sqR p q = 0 ↔ p = q := dot_zero.trans way_zero
structure Ln where
  a : Rat
  b : Rat
  c : Rat
structure Ci where
  m : Pt
  s : Rat
class BL (n d : outParam Nat) (l : Ln) : Prop where
  a : BQ n d l.a
  b : BQ n d l.b
  c : BQ n d l.c
class BC (n d k l : outParam Nat) (c : Ci) : Prop where
  m : BP n d c.m
  s : BQ k l c.s
instance {n d : Nat} {l : Ln} [h : BL n d l] : BQ n d l.a := h.a
instance {n d : Nat} {l : Ln} [h : BL n d l] : BQ n d l.b := h.b
instance {n d : Nat} {l : Ln} [h : BL n d l] : BQ n d l.c := h.c
instance {n d m e : Nat} {c : Ci} [h : BC n d m e c] : BP n d c.m := h.m
instance {n d m e : Nat} {c : Ci} [h : BC n d m e c] : BQ m e c.s := h.s
def abR (l : Ln) : Pt := (l.a, l.b)
instance {n d : Nat} {l : Ln} [h : BL n d l] : BP n d (abR l) := ⟨h.a, h.b⟩
/-- the first of a, b that is not nought is 1 -/
def lineR (a b c : Rat) : Ln := if a ≠ 0 then ⟨a / a, b / a, c / a⟩ else ⟨a / b, b / b, c / b⟩
/-- a x + b y - c -/
def overR (l : Ln) (p : Pt) : Rat := l.a * p.1 + l.b * p.2 - l.c
end Sm
set_option Elab.async false
set_option linter.all false
set_option maxRecDepth 100000
set_option maxHeartbeats 4000000
set_option autoImplicit false
namespace Sm
open PySem PySem.Spec PyProof.Rows L2
theorem forL_mem {g : GM} {b : SM} {N : Nat} {D0 : D → Prop} {P : Nat → Env1 → Store → Prop} (hs : ∀ (i : Nat) (d : D) (ρ : Env1) (st : Store), i < N → D0 d → P i ρ st → ∃ ρ1 st1 ρ2 st2, g d ρ st = .nx ρ1 st1 ∧ b ρ1 st1 = .nx ρ2 st2 ∧ P (i + 1) ρ2 st2) : ∀ (ds : List D) (i : Nat) (ρ : Env1) (st : Store), (∀ d ∈ ds, D0 d) → i + ds.length ≤ N → P i ρ st → ∃ ρ2 st2, forL g b ds ρ st = .nx ρ2 st2 ∧ P (i + ds.length) ρ2 st2
  | [], i, ρ, st, hd, hn, h => ⟨ρ, st, rfl, h⟩
  | d :: ds, i, ρ, st, hd, hn, h => by
    rw [List.length_cons] at hn
    obtain ⟨ρ1, st1, ρ2, st2, e1, e2, h2⟩ := hs i d ρ st (by omega) (hd d List.mem_cons_self) h
    rw [forL_nx e1 e2]
    obtain ⟨ρ3, st3, e3, h3⟩ := forL_mem hs ds (i + 1) ρ2 st2 (fun x hx => hd x (List.mem_cons_of_mem _ hx)) (by omega) h2
    refine ⟨ρ3, st3, e3, ?_⟩
    rw [List.length_cons, show i + (ds.length + 1) = i + 1 + ds.length by omega]
    exact h3
theorem rngD_mem {lo : Int} {n : Nat} {d : D} (h : d ∈ rngD lo n) : ∃ i : Int, d = .int i ∧ lo ≤ i ∧ i < lo + n := by
  unfold rngD at h
  obtain ⟨j, hj, rfl⟩ := List.mem_map.mp h
  have := List.mem_range.mp hj
  exact ⟨lo + j, rfl, by omega, by omega⟩
theorem rngD_len {lo : Int} {n : Nat} : (rngD lo n).length = n := by
  unfold rngD
  rw [List.length_map, List.length_range]
theorem bp_up {n d m e : Nat} {p : Pt} (h : BP n d p) (h1 : n ≤ m) (h2 : d ≤ e) : BP m e p := ⟨bq_up h.x.bq h1 h2, bq_up h.y.bq h1 h2⟩
/-- a normal line: its first number that is not nought is 1; its sizes -/
structure NL (l : Ln) : Prop where
  n : l.a = 1 ∨ (l.a = 0 ∧ l.b = 1)
  ab : BP 118 118 (abR l)
  c : BQ 256 152 l.c
/-- the square of its numbers a, b -/
theorem NL.sq {l : Ln} (h : NL l) : dotR (abR l) (abR l) ≠ 0 := fun z => by
  have h0 : abR l = (0, 0) := dot_zero.mp z
  have h1 : l.a = 0 := congrArg Prod.fst h0
  have h2 : l.b = 0 := congrArg Prod.snd h0
  rcases h.n with q | ⟨_, q⟩
  · rw [h1] at q; exact absurd q (by decide)
  · rw [h2] at q; exact absurd q (by decide)
/-- a drawn circle -/
structure NC (c : Ci) : Prop where
  m : BP 104 3 c.m
  s : BQ 230 24 c.s
  p : 0 < c.s
end Sm
set_option Elab.async false
set_option linter.all false
set_option maxRecDepth 100000
set_option maxHeartbeats 8000000
set_option autoImplicit false
namespace G76
open PySem PySem.Spec PyProof.Rows L2 Sm
abbrev rw := PySem.Challenge.rw_pointhalls_k76_circles_by_points
def top (i : Nat) : Stmt := PySem.Challenge.pw_pointhalls_k76_circles_by_points.main.body.getD i (.Pass ⟨0, 0, 0, 0⟩)
def cn : Nat → Str
  | 0 => "Exact"
  | 1 => "PointError"
  | 2 => "NoExact"
  | 3 => "NoLine"
  | 4 => "TwoRoots"
  | 5 => "NoCircle"
  | 6 => "NoBottom"
  | _ => ""
def cf : Nat → List Str
  | 0 => ["top", "bottom", "sign", "over", "under"]
  | _ => []
abbrev Sx (T : List (Addr × Str)) : Sta := ⟨cn, cf, T⟩
abbrev S0 : Sta := Sx []
def dd_ldeck : He.DefD := ⟨("_law_deck", none), "_law_deck", "_law_deck", defArgs (top 48), defBody (top 48), defScope (top 48), [], []⟩
def ps_ldeck : List Str := ["script"]
abbrev FD_ldeck (K : Frg) (fd : FuncData) : Prop := FunD K "_law_deck" "_law_deck" (defArgs (top 48)) (defBody (top 48)) (defScope (top 48)) [] [] (He.ga K "_law_deck") fd
def dd_ldraw : He.DefD := ⟨("_law_draw", none), "_law_draw", "_law_draw", defArgs (top 49), defBody (top 49), defScope (top 49), [], []⟩
def ps_ldraw : List Str := ["deck", "below"]
abbrev FD_ldraw (K : Frg) (fd : FuncData) : Prop := FunD K "_law_draw" "_law_draw" (defArgs (top 49)) (defBody (top 49)) (defScope (top 49)) [] [] (He.ga K "_law_draw") fd
def dd_with_roots : He.DefD := ⟨("with_roots", none), "with_roots", "with_roots", defArgs (top 37), defBody (top 37), defScope (top 37), [], []⟩
def ps_with_roots : List Str := ["thing"]
abbrev FD_with_roots (K : Frg) (fd : FuncData) : Prop := FunD K "with_roots" "with_roots" (defArgs (top 37)) (defBody (top 37)) (defScope (top 37)) [] [] (He.ga K "with_roots") fd
def dd_lowest : He.DefD := ⟨("lowest", none), "lowest", "lowest", defArgs (top 10), defBody (top 10), defScope (top 10), [], []⟩
def ps_lowest : List Str := ["top", "bottom"]
abbrev FD_lowest (K : Frg) (fd : FuncData) : Prop := FunD K "lowest" "lowest" (defArgs (top 10)) (defBody (top 10)) (defScope (top 10)) [] [] (He.ga K "lowest") fd
def dd_whole_root : He.DefD := ⟨("whole_root", none), "whole_root", "whole_root", defArgs (top 11), defBody (top 11), defScope (top 11), [], []⟩
def ps_whole_root : List Str := ["number"]
abbrev FD_whole_root (K : Frg) (fd : FuncData) : Prop := FunD K "whole_root" "whole_root" (defArgs (top 11)) (defBody (top 11)) (defScope (top 11)) [] [] (He.ga K "whole_root") fd
def dd_root_of_exacts : He.DefD := ⟨("root_of_exacts", none), "root_of", "root_of", defArgs (top 12), defBody (top 12), defScope (top 12), [], []⟩
def ps_root_of_exacts : List Str := ["top", "bottom"]
abbrev FD_root_of_exacts (K : Frg) (fd : FuncData) : Prop := FunD K "root_of" "root_of" (defArgs (top 12)) (defBody (top 12)) (defScope (top 12)) [] [] (He.ga K "root_of_exacts") fd
def dd_shared_radix : He.DefD := ⟨("shared_radix", none), "shared_radix", "shared_radix", defArgs (top 22), defBody (top 22), defScope (top 22), [], []⟩
def ps_shared_radix : List Str := ["one", "other"]
abbrev FD_shared_radix (K : Frg) (fd : FuncData) : Prop := FunD K "shared_radix" "shared_radix" (defArgs (top 22)) (defBody (top 22)) (defScope (top 22)) [] [] (He.ga K "shared_radix") fd
def dd_is_whole : He.DefD := ⟨("is_whole", none), "is_whole", "is_whole", defArgs (top 9), defBody (top 9), defScope (top 9), [], []⟩
def ps_is_whole : List Str := ["thing"]
abbrev FD_is_whole (K : Frg) (fd : FuncData) : Prop := FunD K "is_whole" "is_whole" (defArgs (top 9)) (defBody (top 9)) (defScope (top 9)) [] [] (He.ga K "is_whole") fd
def dd_are_right : He.DefD := ⟨("are_right", none), "are_right", "are_right", defArgs (top 17), defBody (top 17), defScope (top 17), [], []⟩
def ps_are_right : List Str := ["top", "bottom", "sign", "over", "under"]
abbrev FD_are_right (K : Frg) (fd : FuncData) : Prop := FunD K "are_right" "are_right" (defArgs (top 17)) (defBody (top 17)) (defScope (top 17)) [] [] (He.ga K "are_right") fd
def dd_sum_of : He.DefD := ⟨("sum_of", none), "sum_of", "sum_of", defArgs (top 15), defBody (top 15), defScope (top 15), [], []⟩
def ps_sum_of : List Str := ["one", "other"]
abbrev FD_sum_of (K : Frg) (fd : FuncData) : Prop := FunD K "sum_of" "sum_of" (defArgs (top 15)) (defBody (top 15)) (defScope (top 15)) [] [] (He.ga K "sum_of") fd
def dd_Exact_initD : He.DefD := ⟨("Exact", some "__init__"), "__init__", "Exact.__init__", defArgs (inClass (top 18) 0), defBody (inClass (top 18) 0), defScope (inClass (top 18) 0), [.int 1], [("sign", .int 0), ("over", .int 0), ("under", .int 1)]⟩
def ps_Exact_initD : List Str := ["self", "top", "bottom", "sign", "over", "under"]
abbrev FD_Exact_initD (K : Frg) (fd : FuncData) : Prop := FunD K "__init__" "Exact.__init__" (defArgs (inClass (top 18) 0)) (defBody (inClass (top 18) 0)) (defScope (inClass (top 18) 0)) [V.int 1] [("sign", V.int 0), ("over", V.int 0), ("under", V.int 1)] (He.ma K (He.ga K "Exact") "__init__") fd
def dd_sign_in : He.DefD := ⟨("sign_in", none), "sign_in", "sign_in", defArgs (top 14), defBody (top 14), defScope (top 14), [], []⟩
def ps_sign_in : List Str := ["number"]
abbrev FD_sign_in (K : Frg) (fd : FuncData) : Prop := FunD K "sign_in" "sign_in" (defArgs (top 14)) (defBody (top 14)) (defScope (top 14)) [] [] (He.ga K "sign_in") fd
def dd_made_of : He.DefD := ⟨("made_of", none), "made_of", "made_of", defArgs (top 23), defBody (top 23), defScope (top 23), [], []⟩
def ps_made_of : List Str := ["part", "many", "radix"]
abbrev FD_made_of (K : Frg) (fd : FuncData) : Prop := FunD K "made_of" "made_of" (defArgs (top 23)) (defBody (top 23)) (defScope (top 23)) [] [] (He.ga K "made_of") fd
def dd_quotient : He.DefD := ⟨("quotient", none), "quotient", "quotient", defArgs (top 20), defBody (top 20), defScope (top 20), [], []⟩
def ps_quotient : List Str := ["number"]
abbrev FD_quotient (K : Frg) (fd : FuncData) : Prop := FunD K "quotient" "quotient" (defArgs (top 20)) (defBody (top 20)) (defScope (top 20)) [] [] (He.ga K "quotient") fd
def dd_Exact_plus : He.DefD := ⟨("Exact", some "plus"), "plus", "Exact.plus", defArgs (inClass (top 18) 4), defBody (inClass (top 18) 4), defScope (inClass (top 18) 4), [], []⟩
def ps_Exact_plus : List Str := ["self", "other"]
abbrev FD_Exact_plus (K : Frg) (fd : FuncData) : Prop := FunD K "plus" "Exact.plus" (defArgs (inClass (top 18) 4)) (defBody (inClass (top 18) 4)) (defScope (inClass (top 18) 4)) [] [] (He.ma K (He.ga K "Exact") "plus") fd
def dd_must_agree : He.DefD := ⟨("must_agree", none), "must_agree", "must_agree", defArgs (top 38), defBody (top 38), defScope (top 38), [], []⟩
def ps_must_agree : List Str := ["things"]
abbrev FD_must_agree (K : Frg) (fd : FuncData) : Prop := FunD K "must_agree" "must_agree" (defArgs (top 38)) (defBody (top 38)) (defScope (top 38)) [] [] (He.ga K "must_agree") fd
def dd_opposite : He.DefD := ⟨("opposite", none), "opposite", "opposite", defArgs (top 21), defBody (top 21), defScope (top 21), [], []⟩
def ps_opposite : List Str := ["number"]
abbrev FD_opposite (K : Frg) (fd : FuncData) : Prop := FunD K "opposite" "opposite" (defArgs (top 21)) (defBody (top 21)) (defScope (top 21)) [] [] (He.ga K "opposite") fd
def dd_Exact_minus : He.DefD := ⟨("Exact", some "minus"), "minus", "Exact.minus", defArgs (inClass (top 18) 5), defBody (inClass (top 18) 5), defScope (inClass (top 18) 5), [], []⟩
def ps_Exact_minus : List Str := ["self", "other"]
abbrev FD_Exact_minus (K : Frg) (fd : FuncData) : Prop := FunD K "minus" "Exact.minus" (defArgs (inClass (top 18) 5)) (defBody (inClass (top 18) 5)) (defScope (inClass (top 18) 5)) [] [] (He.ma K (He.ga K "Exact") "minus") fd
def dd_product_of : He.DefD := ⟨("product_of", none), "product_of", "product_of", defArgs (top 16), defBody (top 16), defScope (top 16), [], []⟩
def ps_product_of : List Str := ["one", "other"]
abbrev FD_product_of (K : Frg) (fd : FuncData) : Prop := FunD K "product_of" "product_of" (defArgs (top 16)) (defBody (top 16)) (defScope (top 16)) [] [] (He.ga K "product_of") fd
def dd_Exact_times : He.DefD := ⟨("Exact", some "times"), "times", "Exact.times", defArgs (inClass (top 18) 6), defBody (inClass (top 18) 6), defScope (inClass (top 18) 6), [], []⟩
def ps_Exact_times : List Str := ["self", "other"]
abbrev FD_Exact_times (K : Frg) (fd : FuncData) : Prop := FunD K "times" "Exact.times" (defArgs (inClass (top 18) 6)) (defBody (inClass (top 18) 6)) (defScope (inClass (top 18) 6)) [] [] (He.ma K (He.ga K "Exact") "times") fd
def dd_cross : He.DefD := ⟨("cross", none), "cross", "cross", defArgs (top 29), defBody (top 29), defScope (top 29), [], []⟩
def ps_cross : List Str := ["one", "other"]
abbrev FD_cross (K : Frg) (fd : FuncData) : Prop := FunD K "cross" "cross" (defArgs (top 29)) (defBody (top 29)) (defScope (top 29)) [] [] (He.ga K "cross") fd
def dd_Exact_sign_of : He.DefD := ⟨("Exact", some "sign_of"), "sign_of", "Exact.sign_of", defArgs (inClass (top 18) 8), defBody (inClass (top 18) 8), defScope (inClass (top 18) 8), [], []⟩
def ps_Exact_sign_of : List Str := ["self"]
abbrev FD_Exact_sign_of (K : Frg) (fd : FuncData) : Prop := FunD K "sign_of" "Exact.sign_of" (defArgs (inClass (top 18) 8)) (defBody (inClass (top 18) 8)) (defScope (inClass (top 18) 8)) [] [] (He.ma K (He.ga K "Exact") "sign_of") fd
def dd_Exact_by : He.DefD := ⟨("Exact", some "by"), "by", "Exact.by", defArgs (inClass (top 18) 7), defBody (inClass (top 18) 7), defScope (inClass (top 18) 7), [], []⟩
def ps_Exact_by : List Str := ["self", "other"]
abbrev FD_Exact_by (K : Frg) (fd : FuncData) : Prop := FunD K "by" "Exact.by" (defArgs (inClass (top 18) 7)) (defBody (inClass (top 18) 7)) (defScope (inClass (top 18) 7)) [] [] (He.ma K (He.ga K "Exact") "by") fd
def dd_lines_meet : He.DefD := ⟨("lines_meet", none), "lines_meet", "lines_meet", defArgs (top 33), defBody (top 33), defScope (top 33), [], []⟩
def ps_lines_meet : List Str := ["one", "other"]
abbrev FD_lines_meet (K : Frg) (fd : FuncData) : Prop := FunD K "lines_meet" "lines_meet" (defArgs (top 33)) (defBody (top 33)) (defScope (top 33)) [] [] (He.ga K "lines_meet") fd
def dd_scaled_line : He.DefD := ⟨("scaled_line", none), "scaled_line", "scaled_line", defArgs (top 31), defBody (top 31), defScope (top 31), [], []⟩
def ps_scaled_line : List Str := ["a", "b", "c"]
abbrev FD_scaled_line (K : Frg) (fd : FuncData) : Prop := FunD K "scaled_line" "scaled_line" (defArgs (top 31)) (defBody (top 31)) (defScope (top 31)) [] [] (He.ga K "scaled_line") fd
def dd_dot : He.DefD := ⟨("dot", none), "dot", "dot", defArgs (top 28), defBody (top 28), defScope (top 28), [], []⟩
def ps_dot : List Str := ["one", "other"]
abbrev FD_dot (K : Frg) (fd : FuncData) : Prop := FunD K "dot" "dot" (defArgs (top 28)) (defBody (top 28)) (defScope (top 28)) [] [] (He.ga K "dot") fd
def dd_line_by : He.DefD := ⟨("line_by", none), "line_by", "line_by", defArgs (top 32), defBody (top 32), defScope (top 32), [], []⟩
def ps_line_by : List Str := ["p", "upright_way"]
abbrev FD_line_by (K : Frg) (fd : FuncData) : Prop := FunD K "line_by" "line_by" (defArgs (top 32)) (defBody (top 32)) (defScope (top 32)) [] [] (He.ga K "line_by") fd
def dd_gone : He.DefD := ⟨("gone", none), "gone", "gone", defArgs (top 30), defBody (top 30), defScope (top 30), [], []⟩
def ps_gone : List Str := ["p", "way", "often"]
abbrev FD_gone (K : Frg) (fd : FuncData) : Prop := FunD K "gone" "gone" (defArgs (top 30)) (defBody (top 30)) (defScope (top 30)) [] [] (He.ga K "gone") fd
def dd_way_between : He.DefD := ⟨("way_between", none), "way_between", "way_between", defArgs (top 27), defBody (top 27), defScope (top 27), [], []⟩
def ps_way_between : List Str := ["p", "q"]
abbrev FD_way_between (K : Frg) (fd : FuncData) : Prop := FunD K "way_between" "way_between" (defArgs (top 27)) (defBody (top 27)) (defScope (top 27)) [] [] (He.ga K "way_between") fd
def dd_middle_of : He.DefD := ⟨("middle_of", none), "middle_of", "middle_of", defArgs (top 34), defBody (top 34), defScope (top 34), [], []⟩
def ps_middle_of : List Str := ["p", "q"]
abbrev FD_middle_of (K : Frg) (fd : FuncData) : Prop := FunD K "middle_of" "middle_of" (defArgs (top 34)) (defBody (top 34)) (defScope (top 34)) [] [] (He.ga K "middle_of") fd
def dd_upright_middle : He.DefD := ⟨("upright_middle", none), "upright_middle", "upright_middle", defArgs (top 41), defBody (top 41), defScope (top 41), [], []⟩
def ps_upright_middle : List Str := ["p", "q"]
abbrev FD_upright_middle (K : Frg) (fd : FuncData) : Prop := FunD K "upright_middle" "upright_middle" (defArgs (top 41)) (defBody (top 41)) (defScope (top 41)) [] [] (He.ga K "upright_middle") fd
def dd_square_of : He.DefD := ⟨("square_of", none), "square_of", "square_of", defArgs (top 40), defBody (top 40), defScope (top 40), [], []⟩
def ps_square_of : List Str := ["p", "q"]
abbrev FD_square_of (K : Frg) (fd : FuncData) : Prop := FunD K "square_of" "square_of" (defArgs (top 40)) (defBody (top 40)) (defScope (top 40)) [] [] (He.ga K "square_of") fd
def dd_circle_by : He.DefD := ⟨("circle_by", none), "circle_by", "circle_by", defArgs (top 42), defBody (top 42), defScope (top 42), [], []⟩
def ps_circle_by : List Str := ["p", "q", "r"]
abbrev FD_circle_by (K : Frg) (fd : FuncData) : Prop := FunD K "circle_by" "circle_by" (defArgs (top 42)) (defBody (top 42)) (defScope (top 42)) [] [] (He.ga K "circle_by") fd
def dd_lnumber : He.DefD := ⟨("_law_number", none), "_law_number", "_law_number", defArgs (top 53), defBody (top 53), defScope (top 53), [], []⟩
def ps_lnumber : List Str := ["above", "below"]
abbrev FD_lnumber (K : Frg) (fd : FuncData) : Prop := FunD K "_law_number" "_law_number" (defArgs (top 53)) (defBody (top 53)) (defScope (top 53)) [] [] (He.ga K "_law_number") fd
def dd_lpick : He.DefD := ⟨("_law_pick", none), "_law_pick", "_law_pick", defArgs (top 50), defBody (top 50), defScope (top 50), [], []⟩
def ps_lpick : List Str := ["deck", "some"]
abbrev FD_lpick (K : Frg) (fd : FuncData) : Prop := FunD K "_law_pick" "_law_pick" (defArgs (top 50)) (defBody (top 50)) (defScope (top 50)) [] [] (He.ga K "_law_pick") fd
def dd_lcoordinate : He.DefD := ⟨("_law_coordinate", none), "_law_coordinate", "_law_coordinate", defArgs (top 68), defBody (top 68), defScope (top 68), [], []⟩
def ps_lcoordinate : List Str := ["deck"]
abbrev FD_lcoordinate (K : Frg) (fd : FuncData) : Prop := FunD K "_law_coordinate" "_law_coordinate" (defArgs (top 68)) (defBody (top 68)) (defScope (top 68)) [] [] (He.ga K "_law_coordinate") fd
def dd_lpoint : He.DefD := ⟨("_law_point", none), "_law_point", "_law_point", defArgs (top 69), defBody (top 69), defScope (top 69), [], []⟩
def ps_lpoint : List Str := ["deck"]
abbrev FD_lpoint (K : Frg) (fd : FuncData) : Prop := FunD K "_law_point" "_law_point" (defArgs (top 69)) (defBody (top 69)) (defScope (top 69)) [] [] (He.ga K "_law_point") fd
def dd_lsign : He.DefD := ⟨("_law_sign", none), "_law_sign", "_law_sign", defArgs (top 58), defBody (top 58), defScope (top 58), [], []⟩
def ps_lsign : List Str := ["number"]
abbrev FD_lsign (K : Frg) (fd : FuncData) : Prop := FunD K "_law_sign" "_law_sign" (defArgs (top 58)) (defBody (top 58)) (defScope (top 58)) [] [] (He.ga K "_law_sign") fd
def dd_lby : He.DefD := ⟨("_law_by", none), "_law_by", "_law_by", defArgs (top 57), defBody (top 57), defScope (top 57), [], []⟩
def ps_lby : List Str := ["one", "other"]
abbrev FD_lby (K : Frg) (fd : FuncData) : Prop := FunD K "_law_by" "_law_by" (defArgs (top 57)) (defBody (top 57)) (defScope (top 57)) [] [] (He.ga K "_law_by") fd
def dd_lminus : He.DefD := ⟨("_law_minus", none), "_law_minus", "_law_minus", defArgs (top 56), defBody (top 56), defScope (top 56), [], []⟩
def ps_lminus : List Str := ["one", "other"]
abbrev FD_lminus (K : Frg) (fd : FuncData) : Prop := FunD K "_law_minus" "_law_minus" (defArgs (top 56)) (defBody (top 56)) (defScope (top 56)) [] [] (He.ga K "_law_minus") fd
def dd_ltimes : He.DefD := ⟨("_law_times", none), "_law_times", "_law_times", defArgs (top 55), defBody (top 55), defScope (top 55), [], []⟩
def ps_ltimes : List Str := ["one", "other"]
abbrev FD_ltimes (K : Frg) (fd : FuncData) : Prop := FunD K "_law_times" "_law_times" (defArgs (top 55)) (defBody (top 55)) (defScope (top 55)) [] [] (He.ga K "_law_times") fd
def dd_lon : He.DefD := ⟨("_law_on", none), "_law_on", "_law_on", defArgs (top 74), defBody (top 74), defScope (top 74), [], []⟩
def ps_lon : List Str := ["deck", "line"]
abbrev FD_lon (K : Frg) (fd : FuncData) : Prop := FunD K "_law_on" "_law_on" (defArgs (top 74)) (defBody (top 74)) (defScope (top 74)) [] [] (He.ga K "_law_on") fd
def dd_lexact : He.DefD := ⟨("_law_exact", none), "_law_exact", "_law_exact", defArgs (top 64), defBody (top 64), defScope (top 64), [], []⟩
def ps_lexact : List Str := ["number"]
abbrev FD_lexact (K : Frg) (fd : FuncData) : Prop := FunD K "_law_exact" "_law_exact" (defArgs (top 64)) (defBody (top 64)) (defScope (top 64)) [] [] (He.ga K "_law_exact") fd
def dd_lspot : He.DefD := ⟨("_law_spot", none), "_law_spot", "_law_spot", defArgs (top 65), defBody (top 65), defScope (top 65), [], []⟩
def ps_lspot : List Str := ["point"]
abbrev FD_lspot (K : Frg) (fd : FuncData) : Prop := FunD K "_law_spot" "_law_spot" (defArgs (top 65)) (defBody (top 65)) (defScope (top 65)) [] [] (He.ga K "_law_spot") fd
def dd_lread : He.DefD := ⟨("_law_read", none), "_law_read", "_law_read", defArgs (top 61), defBody (top 61), defScope (top 61), [], []⟩
def ps_lread : List Str := ["thing"]
abbrev FD_lread (K : Frg) (fd : FuncData) : Prop := FunD K "_law_read" "_law_read" (defArgs (top 61)) (defBody (top 61)) (defScope (top 61)) [] [] (He.ga K "_law_read") fd
def dd_ltold : He.DefD := ⟨("_law_told", none), "_law_told", "_law_told", defArgs (top 62), defBody (top 62), defScope (top 62), [], []⟩
def ps_ltold : List Str := ["thing"]
abbrev FD_ltold (K : Frg) (fd : FuncData) : Prop := FunD K "_law_told" "_law_told" (defArgs (top 62)) (defBody (top 62)) (defScope (top 62)) [] [] (He.ga K "_law_told") fd
def dd_lheard : He.DefD := ⟨("_law_heard", none), "_law_heard", "_law_heard", defArgs (top 77), defBody (top 77), defScope (top 77), [], []⟩
def ps_lheard : List Str := ["call"]
abbrev FD_lheard (K : Frg) (fd : FuncData) : Prop := FunD K "_law_heard" "_law_heard" (defArgs (top 77)) (defBody (top 77)) (defScope (top 77)) [] [] (He.ga K "_law_heard") fd
def dd_lsame : He.DefD := ⟨("_law_same", none), "_law_same", "_law_same", defArgs (top 51), defBody (top 51), defScope (top 51), [], []⟩
def ps_lsame : List Str := ["told", "due"]
abbrev FD_lsame (K : Frg) (fd : FuncData) : Prop := FunD K "_law_same" "_law_same" (defArgs (top 51)) (defBody (top 51)) (defScope (top 51)) [] [] (He.ga K "_law_same") fd
def dd_lline : He.DefD := ⟨("_law_line", none), "_law_line", "_law_line", defArgs (top 71), defBody (top 71), defScope (top 71), [], []⟩
def ps_lline : List Str := ["a", "b", "c"]
abbrev FD_lline (K : Frg) (fd : FuncData) : Prop := FunD K "_law_line" "_law_line" (defArgs (top 71)) (defBody (top 71)) (defScope (top 71)) [] [] (He.ga K "_law_line") fd
def dd_lplus : He.DefD := ⟨("_law_plus", none), "_law_plus", "_law_plus", defArgs (top 54), defBody (top 54), defScope (top 54), [], []⟩
def ps_lplus : List Str := ["one", "other"]
abbrev FD_lplus (K : Frg) (fd : FuncData) : Prop := FunD K "_law_plus" "_law_plus" (defArgs (top 54)) (defBody (top 54)) (defScope (top 54)) [] [] (He.ga K "_law_plus") fd
def dd_lthrough : He.DefD := ⟨("_law_through", none), "_law_through", "_law_through", defArgs (top 72), defBody (top 72), defScope (top 72), [], []⟩
def ps_lthrough : List Str := ["p", "q"]
abbrev FD_lthrough (K : Frg) (fd : FuncData) : Prop := FunD K "_law_through" "_law_through" (defArgs (top 72)) (defBody (top 72)) (defScope (top 72)) [] [] (He.ga K "_law_through") fd
def dd_lturns : He.DefD := ⟨("_law_turns", none), "_law_turns", "_law_turns", defArgs (top 73), defBody (top 73), defScope (top 73), [], []⟩
def ps_lturns : List Str := ["p", "q", "r"]
abbrev FD_lturns (K : Frg) (fd : FuncData) : Prop := FunD K "_law_turns" "_law_turns" (defArgs (top 73)) (defBody (top 73)) (defScope (top 73)) [] [] (He.ga K "_law_turns") fd
def dd_lroot_of : He.DefD := ⟨("_law_root_of", none), "_law_root_of", "_law_root_of", defArgs (top 59), defBody (top 59), defScope (top 59), [], []⟩
def ps_lroot_of : List Str := ["whole"]
abbrev FD_lroot_of (K : Frg) (fd : FuncData) : Prop := FunD K "_law_root_of" "_law_root_of" (defArgs (top 59)) (defBody (top 59)) (defScope (top 59)) [] [] (He.ga K "_law_root_of") fd
def dd_lfive : He.DefD := ⟨("_law_five", none), "_law_five", "_law_five", defArgs (top 60), defBody (top 60), defScope (top 60), [], []⟩
def ps_lfive : List Str := ["number", "sign", "square"]
abbrev FD_lfive (K : Frg) (fd : FuncData) : Prop := FunD K "_law_five" "_law_five" (defArgs (top 60)) (defBody (top 60)) (defScope (top 60)) [] [] (He.ga K "_law_five") fd
def dd_ldue : He.DefD := ⟨("_law_due", none), "_law_due", "_law_due", defArgs (top 63), defBody (top 63), defScope (top 63), [], []⟩
def ps_ldue : List Str := ["thing"]
abbrev FD_ldue (K : Frg) (fd : FuncData) : Prop := FunD K "_law_due" "_law_due" (defArgs (top 63)) (defBody (top 63)) (defScope (top 63)) [] [] (He.ga K "_law_due") fd
def dd_lis_whole : He.DefD := ⟨("_law_is_whole", none), "_law_is_whole", "_law_is_whole", defArgs (top 52), defBody (top 52), defScope (top 52), [], []⟩
def ps_lis_whole : List Str := ["thing"]
abbrev FD_lis_whole (K : Frg) (fd : FuncData) : Prop := FunD K "_law_is_whole" "_law_is_whole" (defArgs (top 52)) (defBody (top 52)) (defScope (top 52)) [] [] (He.ga K "_law_is_whole") fd
def dd_llisted : He.DefD := ⟨("_law_listed", none), "_law_listed", "_law_listed", defArgs (top 67), defBody (top 67), defScope (top 67), [], []⟩
def ps_llisted : List Str := ["thing"]
abbrev FD_llisted (K : Frg) (fd : FuncData) : Prop := FunD K "_law_listed" "_law_listed" (defArgs (top 67)) (defBody (top 67)) (defScope (top 67)) [] [] (He.ga K "_law_listed") fd
def dd_lsquare_way : He.DefD := ⟨("_law_square_way", none), "_law_square_way", "_law_square_way", defArgs (top 70), defBody (top 70), defScope (top 70), [], []⟩
def ps_lsquare_way : List Str := ["p", "q"]
abbrev FD_lsquare_way (K : Frg) (fd : FuncData) : Prop := FunD K "_law_square_way" "_law_square_way" (defArgs (top 70)) (defBody (top 70)) (defScope (top 70)) [] [] (He.ga K "_law_square_way") fd
def dd_lby_three : He.DefD := ⟨("_law_by_three", none), "_law_by_three", "_law_by_three", defArgs (top 78), defBody (top 78), defScope (top 78), [], []⟩
def ps_lby_three : List Str := ["p", "q", "r"]
abbrev FD_lby_three (K : Frg) (fd : FuncData) : Prop := FunD K "_law_by_three" "_law_by_three" (defArgs (top 78)) (defBody (top 78)) (defScope (top 78)) [] [] (He.ga K "_law_by_three") fd
def dd_power_of : He.DefD := ⟨("power_of", none), "power_of", "power_of", defArgs (top 43), defBody (top 43), defScope (top 43), [], []⟩
def ps_power_of : List Str := ["point", "circle"]
abbrev FD_power_of (K : Frg) (fd : FuncData) : Prop := FunD K "power_of" "power_of" (defArgs (top 43)) (defBody (top 43)) (defScope (top 43)) [] [] (He.ga K "power_of") fd
def dd_lis_by_three : He.DefD := ⟨("_law_is_by_three", none), "_law_is_by_three", "_law_is_by_three", defArgs (top 80), defBody (top 80), defScope (top 80), [], []⟩
def ps_lis_by_three : List Str := ["deck"]
abbrev FD_lis_by_three (K : Frg) (fd : FuncData) : Prop := FunD K "_law_is_by_three" "_law_is_by_three" (defArgs (top 80)) (defBody (top 80)) (defScope (top 80)) [] [] (He.ga K "_law_is_by_three") fd
def dd_ldrawn_circle : He.DefD := ⟨("_law_drawn_circle", none), "_law_drawn_circle", "_law_drawn_circle", defArgs (top 75), defBody (top 75), defScope (top 75), [], []⟩
def ps_ldrawn_circle : List Str := ["deck"]
abbrev FD_ldrawn_circle (K : Frg) (fd : FuncData) : Prop := FunD K "_law_drawn_circle" "_law_drawn_circle" (defArgs (top 75)) (defBody (top 75)) (defScope (top 75)) [] [] (He.ga K "_law_drawn_circle") fd
def dd_lpower : He.DefD := ⟨("_law_power", none), "_law_power", "_law_power", defArgs (top 79), defBody (top 79), defScope (top 79), [], []⟩
def ps_lpower : List Str := ["point", "circle"]
abbrev FD_lpower (K : Frg) (fd : FuncData) : Prop := FunD K "_law_power" "_law_power" (defArgs (top 79)) (defBody (top 79)) (defScope (top 79)) [] [] (He.ga K "_law_power") fd
def dd_lring : He.DefD := ⟨("_law_ring", none), "_law_ring", "_law_ring", defArgs (top 66), defBody (top 66), defScope (top 66), [], []⟩
def ps_lring : List Str := ["circle"]
abbrev FD_lring (K : Frg) (fd : FuncData) : Prop := FunD K "_law_ring" "_law_ring" (defArgs (top 66)) (defBody (top 66)) (defScope (top 66)) [] [] (He.ga K "_law_ring") fd
def dd_laround : He.DefD := ⟨("_law_around", none), "_law_around", "_law_around", defArgs (top 76), defBody (top 76), defScope (top 76), [], []⟩
def ps_laround : List Str := ["deck", "circle"]
abbrev FD_laround (K : Frg) (fd : FuncData) : Prop := FunD K "_law_around" "_law_around" (defArgs (top 76)) (defBody (top 76)) (defScope (top 76)) [] [] (He.ga K "_law_around") fd
def dd_axis_of : He.DefD := ⟨("axis_of", none), "axis_of", "axis_of", defArgs (top 44), defBody (top 44), defScope (top 44), [], []⟩
def ps_axis_of : List Str := ["circle", "other"]
abbrev FD_axis_of (K : Frg) (fd : FuncData) : Prop := FunD K "axis_of" "axis_of" (defArgs (top 44)) (defBody (top 44)) (defScope (top 44)) [] [] (He.ga K "axis_of") fd
def dd_lis_axis : He.DefD := ⟨("_law_is_axis", none), "_law_is_axis", "_law_is_axis", defArgs (top 81), defBody (top 81), defScope (top 81), [], []⟩
def ps_lis_axis : List Str := ["deck"]
abbrev FD_lis_axis (K : Frg) (fd : FuncData) : Prop := FunD K "_law_is_axis" "_law_is_axis" (defArgs (top 81)) (defBody (top 81)) (defScope (top 81)) [] [] (He.ga K "_law_is_axis") fd
def dd_root_of_plane : He.DefD := ⟨("root_of_plane", none), "root_of", "root_of", defArgs (top 35), defBody (top 35), defScope (top 35), [], []⟩
def ps_root_of_plane : List Str := ["square"]
abbrev FD_root_of_plane (K : Frg) (fd : FuncData) : Prop := FunD K "root_of" "root_of" (defArgs (top 35)) (defBody (top 35)) (defScope (top 35)) [] [] (He.ga K "root_of_plane") fd
def dd_root_number : He.DefD := ⟨("root_number", none), "root_number", "root_number", defArgs (top 46), defBody (top 46), defScope (top 46), [], []⟩
def ps_root_number : List Str := ["square"]
abbrev FD_root_number (K : Frg) (fd : FuncData) : Prop := FunD K "root_number" "root_number" (defArgs (top 46)) (defBody (top 46)) (defScope (top 46)) [] [] (He.ga K "root_number") fd
def dd_far_root : He.DefD := ⟨("far_root", none), "far_root", "far_root", defArgs (top 45), defBody (top 45), defScope (top 45), [], []⟩
def ps_far_root : List Str := ["p", "q"]
abbrev FD_far_root (K : Frg) (fd : FuncData) : Prop := FunD K "far_root" "far_root" (defArgs (top 45)) (defBody (top 45)) (defScope (top 45)) [] [] (He.ga K "far_root") fd
def dd_lis_far : He.DefD := ⟨("_law_is_far", none), "_law_is_far", "_law_is_far", defArgs (top 82), defBody (top 82), defScope (top 82), [], []⟩
def ps_lis_far : List Str := ["deck"]
abbrev FD_lis_far (K : Frg) (fd : FuncData) : Prop := FunD K "_law_is_far" "_law_is_far" (defArgs (top 82)) (defBody (top 82)) (defScope (top 82)) [] [] (He.ga K "_law_is_far") fd
def dd_law : He.DefD := ⟨("law", none), "law", "law", defArgs (top 83), defBody (top 83), defScope (top 83), [], []⟩
def ps_law : List Str := ["script"]
abbrev FD_law (K : Frg) (fd : FuncData) : Prop := FunD K "law" "law" (defArgs (top 83)) (defBody (top 83)) (defScope (top 83)) [] [] (He.ga K "law") fd
def fn : List He.DefD := [dd_ldeck, dd_ldraw, dd_with_roots, dd_lowest, dd_whole_root, dd_root_of_exacts, dd_shared_radix, dd_is_whole, dd_are_right, dd_sum_of, dd_Exact_initD, dd_sign_in, dd_made_of, dd_quotient, dd_Exact_plus, dd_must_agree, dd_opposite, dd_Exact_minus, dd_product_of, dd_Exact_times, dd_cross, dd_Exact_sign_of, dd_Exact_by, dd_lines_meet, dd_scaled_line, dd_dot, dd_line_by, dd_gone, dd_way_between, dd_middle_of, dd_upright_middle, dd_square_of, dd_circle_by, dd_lnumber, dd_lpick, dd_lcoordinate, dd_lpoint, dd_lsign, dd_lby, dd_lminus, dd_ltimes, dd_lon, dd_lexact, dd_lspot, dd_lread, dd_ltold, dd_lheard, dd_lsame, dd_lline, dd_lplus, dd_lthrough, dd_lturns, dd_lroot_of, dd_lfive, dd_ldue, dd_lis_whole, dd_llisted, dd_lsquare_way, dd_lby_three, dd_power_of, dd_lis_by_three, dd_ldrawn_circle, dd_lpower, dd_lring, dd_laround, dd_axis_of, dd_lis_axis, dd_root_of_plane, dd_root_number, dd_far_root, dd_lis_far, dd_law]
def fa : List He.Fa := [.glo "Exact", .glo "with_roots", .glo "whole_root", .glo "lowest", .glo "root_of_exacts", .glo "is_whole", .glo "are_right", .glo "sum_of", .glo "sign_in", .glo "shared_radix", .glo "made_of", .glo "quotient", .glo "opposite", .glo "product_of", .glo "must_agree", .glo "cross", .glo "NoLine", .glo "scaled_line", .glo "dot", .glo "gone", .glo "way_between", .glo "line_by", .glo "middle_of", .glo "NoCircle", .glo "lines_meet", .glo "upright_middle", .glo "square_of", .glo "_law_draw", .glo "_law_pick", .glo "_law_number", .glo "_law_coordinate", .glo "_law_sign", .glo "_law_by", .glo "_law_minus", .glo "_law_times", .glo "_law_exact", .glo "_law_told", .glo "_law_read", .glo "PointError", .glo "_law_line", .glo "_law_plus", .glo "_law_root_of", .glo "_law_five", .glo "_law_due", .glo "_law_is_whole", .glo "_law_listed", .glo "_law_square_way", .glo "_law_point", .glo "_law_on", .glo "_law_through", .glo "_law_turns", .glo "_law_by_three", .glo "_law_spot", .glo "_law_heard", .glo "circle_by", .glo "_law_same", .glo "power_of", .glo "_law_drawn_circle", .glo "_law_around", .glo "_law_power", .glo "_law_ring", .glo "axis_of", .glo "root_of_plane", .glo "root_number", .glo "far_root", .glo "_law_deck", .glo "_law_is_by_three", .glo "_law_is_axis", .glo "_law_is_far", .glo "law", .free "list", .free "int", .free "isinstance", .free "abs", .free "bool", .free "all", .free "len", .free "tuple", .free "repr", .free "range", .cls "Exact", .noat "Exact" "sign", .noat "Exact" "under", .noat "Exact" "over", .noat "Exact" "bottom", .noat "Exact" "top", .meth "Exact" "plus", .meth "Exact" "minus", .meth "Exact" "times", .meth "Exact" "sign_of", .meth "Exact" "by", .mkr "Exact", .exc "NoLine", .exc "NoCircle", .exm "NoCircle" "NoCircle" true, .exm "NoLine" "NoCircle" false, .exm "NoLine" "NoLine" true]
def mk : List (Str × Option Str) := [("_law_is_by_three", none), ("_law_is_axis", none)]
def excB (K : Frg) (C : Addr) : Bool := decide (PySem.W.findIn K (.ref C) "__getattribute__" = some (some (.builtin "BaseException.__getattribute__"))) && (decide (PySem.W.findIn K (.ref C) "__getattr__" = some none) && (decide (PySem.W.subIn K (.ref C) (.type "BaseException") = some true) && (PySem.W.hasDictIn K C && (decide (PySem.W.findIn K (.ref C) "__class__" = some (some (.builtin "object.__class__"))) && (decide (PySem.W.specialIn K (.builtin "object.__class__") "__get__" = some (some (.builtin "getset_descriptor.__get__"))) && (decide (PySem.W.takesIn K (.builtin "object.__class__") = some true) && decide (PySem.W.mroIn K C (.type "object") = some true)))))))
theorem excB_ok {K : Frg} {C : Addr} (h : excB K C = true) : ExcC K C := by
  obtain ⟨h1, h⟩ := He.ba h
  obtain ⟨h2, h⟩ := He.ba h
  obtain ⟨h3, h⟩ := He.ba h
  obtain ⟨h4, h⟩ := He.ba h
  obtain ⟨h5, h⟩ := He.ba h
  obtain ⟨h6, h⟩ := He.ba h
  obtain ⟨h7, h8⟩ := He.ba h
  exact ⟨of_decide_eq_true h1, of_decide_eq_true h2, of_decide_eq_true h3, h4, of_decide_eq_true h5, of_decide_eq_true h6, of_decide_eq_true h7, of_decide_eq_true h8⟩
def exB (K : Frg) : Bool := (isaB K S0 [0] && (excB K (He.ga K "NoCircle") && (excB K (He.ga K "NoLine") && (decide (PySem.W.kitOne K (.ref (He.ga K "NoCircle")) (.ref (He.ga K "PointError")) = some true) && (decide (PySem.W.kitOne K (.ref (He.ga K "NoLine")) (.ref (He.ga K "PointError")) = some true) && true)))))
/-- what is known of the heap behind the module's text -/
structure Kn (K : Frg) (mg : Str → Option Value) : Prop where
  ex : ∃ (h : Heap) (cs : List (Addr × Addr)), h.Ns mainGlobals mg ∧ SaysM fa fn mk exB K cs h
theorem g_Exact {K : Frg} {mg : Str → Option Value} (kn : Kn K mg) : mg "Exact" = some (.ref (He.ga K "Exact")) := let ⟨⟨_, _, G, c⟩⟩ := kn; He.glo_ok c.kin G (c.d.fact 0 (f := .glo "Exact") rfl)
theorem g_with_roots {K : Frg} {mg : Str → Option Value} (kn : Kn K mg) : mg "with_roots" = some (.ref (He.ga K "with_roots")) := let ⟨⟨_, _, G, c⟩⟩ := kn; He.glo_ok c.kin G (c.d.fact 1 (f := .glo "with_roots") rfl)
theorem g_whole_root {K : Frg} {mg : Str → Option Value} (kn : Kn K mg) : mg "whole_root" = some (.ref (He.ga K "whole_root")) := let ⟨⟨_, _, G, c⟩⟩ := kn; He.glo_ok c.kin G (c.d.fact 2 (f := .glo "whole_root") rfl)
theorem g_lowest {K : Frg} {mg : Str → Option Value} (kn : Kn K mg) : mg "lowest" = some (.ref (He.ga K "lowest")) := let ⟨⟨_, _, G, c⟩⟩ := kn; He.glo_ok c.kin G (c.d.fact 3 (f := .glo "lowest") rfl)
theorem g_root_of_exacts {K : Frg} {mg : Str → Option Value} (kn : Kn K mg) : mg "root_of_exacts" = some (.ref (He.ga K "root_of_exacts")) := let ⟨⟨_, _, G, c⟩⟩ := kn; He.glo_ok c.kin G (c.d.fact 4 (f := .glo "root_of_exacts") rfl)
theorem g_is_whole {K : Frg} {mg : Str → Option Value} (kn : Kn K mg) : mg "is_whole" = some (.ref (He.ga K "is_whole")) := let ⟨⟨_, _, G, c⟩⟩ := kn; He.glo_ok c.kin G (c.d.fact 5 (f := .glo "is_whole") rfl)
theorem g_are_right {K : Frg} {mg : Str → Option Value} (kn : Kn K mg) : mg "are_right" = some (.ref (He.ga K "are_right")) := let ⟨⟨_, _, G, c⟩⟩ := kn; He.glo_ok c.kin G (c.d.fact 6 (f := .glo "are_right") rfl)
theorem g_sum_of {K : Frg} {mg : Str → Option Value} (kn : Kn K mg) : mg "sum_of" = some (.ref (He.ga K "sum_of")) := let ⟨⟨_, _, G, c⟩⟩ := kn; He.glo_ok c.kin G (c.d.fact 7 (f := .glo "sum_of") rfl)
theorem g_sign_in {K : Frg} {mg : Str → Option Value} (kn : Kn K mg) : mg "sign_in" = some (.ref (He.ga K "sign_in")) := let ⟨⟨_, _, G, c⟩⟩ := kn; He.glo_ok c.kin G (c.d.fact 8 (f := .glo "sign_in") rfl)
theorem g_shared_radix {K : Frg} {mg : Str → Option Value} (kn : Kn K mg) : mg "shared_radix" = some (.ref (He.ga K "shared_radix")) := let ⟨⟨_, _, G, c⟩⟩ := kn; He.glo_ok c.kin G (c.d.fact 9 (f := .glo "shared_radix") rfl)
theorem g_made_of {K : Frg} {mg : Str → Option Value} (kn : Kn K mg) : mg "made_of" = some (.ref (He.ga K "made_of")) := let ⟨⟨_, _, G, c⟩⟩ := kn; He.glo_ok c.kin G (c.d.fact 10 (f := .glo "made_of") rfl)
theorem g_quotient {K : Frg} {mg : Str → Option Value} (kn : Kn K mg) : mg "quotient" = some (.ref (He.ga K "quotient")) := let ⟨⟨_, _, G, c⟩⟩ := kn; He.glo_ok c.kin G (c.d.fact 11 (f := .glo "quotient") rfl)
theorem g_opposite {K : Frg} {mg : Str → Option Value} (kn : Kn K mg) : mg "opposite" = some (.ref (He.ga K "opposite")) := let ⟨⟨_, _, G, c⟩⟩ := kn; He.glo_ok c.kin G (c.d.fact 12 (f := .glo "opposite") rfl)
theorem g_product_of {K : Frg} {mg : Str → Option Value} (kn : Kn K mg) : mg "product_of" = some (.ref (He.ga K "product_of")) := let ⟨⟨_, _, G, c⟩⟩ := kn; He.glo_ok c.kin G (c.d.fact 13 (f := .glo "product_of") rfl)
theorem g_must_agree {K : Frg} {mg : Str → Option Value} (kn : Kn K mg) : mg "must_agree" = some (.ref (He.ga K "must_agree")) := let ⟨⟨_, _, G, c⟩⟩ := kn; He.glo_ok c.kin G (c.d.fact 14 (f := .glo "must_agree") rfl)
theorem g_cross {K : Frg} {mg : Str → Option Value} (kn : Kn K mg) : mg "cross" = some (.ref (He.ga K "cross")) := let ⟨⟨_, _, G, c⟩⟩ := kn; He.glo_ok c.kin G (c.d.fact 15 (f := .glo "cross") rfl)
theorem g_NoLine {K : Frg} {mg : Str → Option Value} (kn : Kn K mg) : mg "NoLine" = some (.ref (He.ga K "NoLine")) := let ⟨⟨_, _, G, c⟩⟩ := kn; He.glo_ok c.kin G (c.d.fact 16 (f := .glo "NoLine") rfl)
theorem g_scaled_line {K : Frg} {mg : Str → Option Value} (kn : Kn K mg) : mg "scaled_line" = some (.ref (He.ga K "scaled_line")) := let ⟨⟨_, _, G, c⟩⟩ := kn; He.glo_ok c.kin G (c.d.fact 17 (f := .glo "scaled_line") rfl)
theorem g_dot {K : Frg} {mg : Str → Option Value} (kn : Kn K mg) : mg "dot" = some (.ref (He.ga K "dot")) := let ⟨⟨_, _, G, c⟩⟩ := kn; He.glo_ok c.kin G (c.d.fact 18 (f := .glo "dot") rfl)
theorem g_gone {K : Frg} {mg : Str → Option Value} (kn : Kn K mg) : mg "gone" = some (.ref (He.ga K "gone")) := let ⟨⟨_, _, G, c⟩⟩ := kn; He.glo_ok c.kin G (c.d.fact 19 (f := .glo "gone") rfl)
theorem g_way_between {K : Frg} {mg : Str → Option Value} (kn : Kn K mg) : mg "way_between" = some (.ref (He.ga K "way_between")) := let ⟨⟨_, _, G, c⟩⟩ := kn; He.glo_ok c.kin G (c.d.fact 20 (f := .glo "way_between") rfl)
theorem g_line_by {K : Frg} {mg : Str → Option Value} (kn : Kn K mg) : mg "line_by" = some (.ref (He.ga K "line_by")) := let ⟨⟨_, _, G, c⟩⟩ := kn; He.glo_ok c.kin G (c.d.fact 21 (f := .glo "line_by") rfl)
theorem g_middle_of {K : Frg} {mg : Str → Option Value} (kn : Kn K mg) : mg "middle_of" = some (.ref (He.ga K "middle_of")) := let ⟨⟨_, _, G, c⟩⟩ := kn; He.glo_ok c.kin G (c.d.fact 22 (f := .glo "middle_of") rfl)
theorem g_NoCircle {K : Frg} {mg : Str → Option Value} (kn : Kn K mg) : mg "NoCircle" = some (.ref (He.ga K "NoCircle")) := let ⟨⟨_, _, G, c⟩⟩ := kn; He.glo_ok c.kin G (c.d.fact 23 (f := .glo "NoCircle") rfl)
theorem g_lines_meet {K : Frg} {mg : Str → Option Value} (kn : Kn K mg) : mg "lines_meet" = some (.ref (He.ga K "lines_meet")) := let ⟨⟨_, _, G, c⟩⟩ := kn; He.glo_ok c.kin G (c.d.fact 24 (f := .glo "lines_meet") rfl)
theorem g_upright_middle {K : Frg} {mg : Str → Option Value} (kn : Kn K mg) : mg "upright_middle" = some (.ref (He.ga K "upright_middle")) := let ⟨⟨_, _, G, c⟩⟩ := kn; He.glo_ok c.kin G (c.d.fact 25 (f := .glo "upright_middle") rfl)
theorem g_square_of {K : Frg} {mg : Str → Option Value} (kn : Kn K mg) : mg "square_of" = some (.ref (He.ga K "square_of")) := let ⟨⟨_, _, G, c⟩⟩ := kn; He.glo_ok c.kin G (c.d.fact 26 (f := .glo "square_of") rfl)
theorem g__law_draw {K : Frg} {mg : Str → Option Value} (kn : Kn K mg) : mg "_law_draw" = some (.ref (He.ga K "_law_draw")) := let ⟨⟨_, _, G, c⟩⟩ := kn; He.glo_ok c.kin G (c.d.fact 27 (f := .glo "_law_draw") rfl)
theorem g__law_pick {K : Frg} {mg : Str → Option Value} (kn : Kn K mg) : mg "_law_pick" = some (.ref (He.ga K "_law_pick")) := let ⟨⟨_, _, G, c⟩⟩ := kn; He.glo_ok c.kin G (c.d.fact 28 (f := .glo "_law_pick") rfl)
theorem g__law_number {K : Frg} {mg : Str → Option Value} (kn : Kn K mg) : mg "_law_number" = some (.ref (He.ga K "_law_number")) := let ⟨⟨_, _, G, c⟩⟩ := kn; He.glo_ok c.kin G (c.d.fact 29 (f := .glo "_law_number") rfl)
theorem g__law_coordinate {K : Frg} {mg : Str → Option Value} (kn : Kn K mg) : mg "_law_coordinate" = some (.ref (He.ga K "_law_coordinate")) := let ⟨⟨_, _, G, c⟩⟩ := kn; He.glo_ok c.kin G (c.d.fact 30 (f := .glo "_law_coordinate") rfl)
theorem g__law_sign {K : Frg} {mg : Str → Option Value} (kn : Kn K mg) : mg "_law_sign" = some (.ref (He.ga K "_law_sign")) := let ⟨⟨_, _, G, c⟩⟩ := kn; He.glo_ok c.kin G (c.d.fact 31 (f := .glo "_law_sign") rfl)
theorem g__law_by {K : Frg} {mg : Str → Option Value} (kn : Kn K mg) : mg "_law_by" = some (.ref (He.ga K "_law_by")) := let ⟨⟨_, _, G, c⟩⟩ := kn; He.glo_ok c.kin G (c.d.fact 32 (f := .glo "_law_by") rfl)
theorem g__law_minus {K : Frg} {mg : Str → Option Value} (kn : Kn K mg) : mg "_law_minus" = some (.ref (He.ga K "_law_minus")) := let ⟨⟨_, _, G, c⟩⟩ := kn; He.glo_ok c.kin G (c.d.fact 33 (f := .glo "_law_minus") rfl)
theorem g__law_times {K : Frg} {mg : Str → Option Value} (kn : Kn K mg) : mg "_law_times" = some (.ref (He.ga K "_law_times")) := let ⟨⟨_, _, G, c⟩⟩ := kn; He.glo_ok c.kin G (c.d.fact 34 (f := .glo "_law_times") rfl)
theorem g__law_exact {K : Frg} {mg : Str → Option Value} (kn : Kn K mg) : mg "_law_exact" = some (.ref (He.ga K "_law_exact")) := let ⟨⟨_, _, G, c⟩⟩ := kn; He.glo_ok c.kin G (c.d.fact 35 (f := .glo "_law_exact") rfl)
theorem g__law_told {K : Frg} {mg : Str → Option Value} (kn : Kn K mg) : mg "_law_told" = some (.ref (He.ga K "_law_told")) := let ⟨⟨_, _, G, c⟩⟩ := kn; He.glo_ok c.kin G (c.d.fact 36 (f := .glo "_law_told") rfl)
theorem g__law_read {K : Frg} {mg : Str → Option Value} (kn : Kn K mg) : mg "_law_read" = some (.ref (He.ga K "_law_read")) := let ⟨⟨_, _, G, c⟩⟩ := kn; He.glo_ok c.kin G (c.d.fact 37 (f := .glo "_law_read") rfl)
theorem g_PointError {K : Frg} {mg : Str → Option Value} (kn : Kn K mg) : mg "PointError" = some (.ref (He.ga K "PointError")) := let ⟨⟨_, _, G, c⟩⟩ := kn; He.glo_ok c.kin G (c.d.fact 38 (f := .glo "PointError") rfl)
theorem g__law_line {K : Frg} {mg : Str → Option Value} (kn : Kn K mg) : mg "_law_line" = some (.ref (He.ga K "_law_line")) := let ⟨⟨_, _, G, c⟩⟩ := kn; He.glo_ok c.kin G (c.d.fact 39 (f := .glo "_law_line") rfl)
theorem g__law_plus {K : Frg} {mg : Str → Option Value} (kn : Kn K mg) : mg "_law_plus" = some (.ref (He.ga K "_law_plus")) := let ⟨⟨_, _, G, c⟩⟩ := kn; He.glo_ok c.kin G (c.d.fact 40 (f := .glo "_law_plus") rfl)
theorem g__law_root_of {K : Frg} {mg : Str → Option Value} (kn : Kn K mg) : mg "_law_root_of" = some (.ref (He.ga K "_law_root_of")) := let ⟨⟨_, _, G, c⟩⟩ := kn; He.glo_ok c.kin G (c.d.fact 41 (f := .glo "_law_root_of") rfl)
theorem g__law_five {K : Frg} {mg : Str → Option Value} (kn : Kn K mg) : mg "_law_five" = some (.ref (He.ga K "_law_five")) := let ⟨⟨_, _, G, c⟩⟩ := kn; He.glo_ok c.kin G (c.d.fact 42 (f := .glo "_law_five") rfl)
theorem g__law_due {K : Frg} {mg : Str → Option Value} (kn : Kn K mg) : mg "_law_due" = some (.ref (He.ga K "_law_due")) := let ⟨⟨_, _, G, c⟩⟩ := kn; He.glo_ok c.kin G (c.d.fact 43 (f := .glo "_law_due") rfl)
theorem g__law_is_whole {K : Frg} {mg : Str → Option Value} (kn : Kn K mg) : mg "_law_is_whole" = some (.ref (He.ga K "_law_is_whole")) := let ⟨⟨_, _, G, c⟩⟩ := kn; He.glo_ok c.kin G (c.d.fact 44 (f := .glo "_law_is_whole") rfl)
theorem g__law_listed {K : Frg} {mg : Str → Option Value} (kn : Kn K mg) : mg "_law_listed" = some (.ref (He.ga K "_law_listed")) := let ⟨⟨_, _, G, c⟩⟩ := kn; He.glo_ok c.kin G (c.d.fact 45 (f := .glo "_law_listed") rfl)
theorem g__law_square_way {K : Frg} {mg : Str → Option Value} (kn : Kn K mg) : mg "_law_square_way" = some (.ref (He.ga K "_law_square_way")) := let ⟨⟨_, _, G, c⟩⟩ := kn; He.glo_ok c.kin G (c.d.fact 46 (f := .glo "_law_square_way") rfl)
theorem g__law_point {K : Frg} {mg : Str → Option Value} (kn : Kn K mg) : mg "_law_point" = some (.ref (He.ga K "_law_point")) := let ⟨⟨_, _, G, c⟩⟩ := kn; He.glo_ok c.kin G (c.d.fact 47 (f := .glo "_law_point") rfl)
theorem g__law_on {K : Frg} {mg : Str → Option Value} (kn : Kn K mg) : mg "_law_on" = some (.ref (He.ga K "_law_on")) := let ⟨⟨_, _, G, c⟩⟩ := kn; He.glo_ok c.kin G (c.d.fact 48 (f := .glo "_law_on") rfl)
theorem g__law_through {K : Frg} {mg : Str → Option Value} (kn : Kn K mg) : mg "_law_through" = some (.ref (He.ga K "_law_through")) := let ⟨⟨_, _, G, c⟩⟩ := kn; He.glo_ok c.kin G (c.d.fact 49 (f := .glo "_law_through") rfl)
theorem g__law_turns {K : Frg} {mg : Str → Option Value} (kn : Kn K mg) : mg "_law_turns" = some (.ref (He.ga K "_law_turns")) := let ⟨⟨_, _, G, c⟩⟩ := kn; He.glo_ok c.kin G (c.d.fact 50 (f := .glo "_law_turns") rfl)
theorem g__law_by_three {K : Frg} {mg : Str → Option Value} (kn : Kn K mg) : mg "_law_by_three" = some (.ref (He.ga K "_law_by_three")) := let ⟨⟨_, _, G, c⟩⟩ := kn; He.glo_ok c.kin G (c.d.fact 51 (f := .glo "_law_by_three") rfl)
theorem g__law_spot {K : Frg} {mg : Str → Option Value} (kn : Kn K mg) : mg "_law_spot" = some (.ref (He.ga K "_law_spot")) := let ⟨⟨_, _, G, c⟩⟩ := kn; He.glo_ok c.kin G (c.d.fact 52 (f := .glo "_law_spot") rfl)
theorem g__law_heard {K : Frg} {mg : Str → Option Value} (kn : Kn K mg) : mg "_law_heard" = some (.ref (He.ga K "_law_heard")) := let ⟨⟨_, _, G, c⟩⟩ := kn; He.glo_ok c.kin G (c.d.fact 53 (f := .glo "_law_heard") rfl)
theorem g_circle_by {K : Frg} {mg : Str → Option Value} (kn : Kn K mg) : mg "circle_by" = some (.ref (He.ga K "circle_by")) := let ⟨⟨_, _, G, c⟩⟩ := kn; He.glo_ok c.kin G (c.d.fact 54 (f := .glo "circle_by") rfl)
theorem g__law_same {K : Frg} {mg : Str → Option Value} (kn : Kn K mg) : mg "_law_same" = some (.ref (He.ga K "_law_same")) := let ⟨⟨_, _, G, c⟩⟩ := kn; He.glo_ok c.kin G (c.d.fact 55 (f := .glo "_law_same") rfl)
theorem g_power_of {K : Frg} {mg : Str → Option Value} (kn : Kn K mg) : mg "power_of" = some (.ref (He.ga K "power_of")) := let ⟨⟨_, _, G, c⟩⟩ := kn; He.glo_ok c.kin G (c.d.fact 56 (f := .glo "power_of") rfl)
theorem g__law_drawn_circle {K : Frg} {mg : Str → Option Value} (kn : Kn K mg) : mg "_law_drawn_circle" = some (.ref (He.ga K "_law_drawn_circle")) := let ⟨⟨_, _, G, c⟩⟩ := kn; He.glo_ok c.kin G (c.d.fact 57 (f := .glo "_law_drawn_circle") rfl)
theorem g__law_around {K : Frg} {mg : Str → Option Value} (kn : Kn K mg) : mg "_law_around" = some (.ref (He.ga K "_law_around")) := let ⟨⟨_, _, G, c⟩⟩ := kn; He.glo_ok c.kin G (c.d.fact 58 (f := .glo "_law_around") rfl)
theorem g__law_power {K : Frg} {mg : Str → Option Value} (kn : Kn K mg) : mg "_law_power" = some (.ref (He.ga K "_law_power")) := let ⟨⟨_, _, G, c⟩⟩ := kn; He.glo_ok c.kin G (c.d.fact 59 (f := .glo "_law_power") rfl)
theorem g__law_ring {K : Frg} {mg : Str → Option Value} (kn : Kn K mg) : mg "_law_ring" = some (.ref (He.ga K "_law_ring")) := let ⟨⟨_, _, G, c⟩⟩ := kn; He.glo_ok c.kin G (c.d.fact 60 (f := .glo "_law_ring") rfl)
theorem g_axis_of {K : Frg} {mg : Str → Option Value} (kn : Kn K mg) : mg "axis_of" = some (.ref (He.ga K "axis_of")) := let ⟨⟨_, _, G, c⟩⟩ := kn; He.glo_ok c.kin G (c.d.fact 61 (f := .glo "axis_of") rfl)
theorem g_root_of_plane {K : Frg} {mg : Str → Option Value} (kn : Kn K mg) : mg "root_of_plane" = some (.ref (He.ga K "root_of_plane")) := let ⟨⟨_, _, G, c⟩⟩ := kn; He.glo_ok c.kin G (c.d.fact 62 (f := .glo "root_of_plane") rfl)
theorem g_root_number {K : Frg} {mg : Str → Option Value} (kn : Kn K mg) : mg "root_number" = some (.ref (He.ga K "root_number")) := let ⟨⟨_, _, G, c⟩⟩ := kn; He.glo_ok c.kin G (c.d.fact 63 (f := .glo "root_number") rfl)
theorem g_far_root {K : Frg} {mg : Str → Option Value} (kn : Kn K mg) : mg "far_root" = some (.ref (He.ga K "far_root")) := let ⟨⟨_, _, G, c⟩⟩ := kn; He.glo_ok c.kin G (c.d.fact 64 (f := .glo "far_root") rfl)
theorem g__law_deck {K : Frg} {mg : Str → Option Value} (kn : Kn K mg) : mg "_law_deck" = some (.ref (He.ga K "_law_deck")) := let ⟨⟨_, _, G, c⟩⟩ := kn; He.glo_ok c.kin G (c.d.fact 65 (f := .glo "_law_deck") rfl)
theorem g__law_is_by_three {K : Frg} {mg : Str → Option Value} (kn : Kn K mg) : mg "_law_is_by_three" = some (.ref (He.ga K "_law_is_by_three")) := let ⟨⟨_, _, G, c⟩⟩ := kn; He.glo_ok c.kin G (c.d.fact 66 (f := .glo "_law_is_by_three") rfl)
theorem g__law_is_axis {K : Frg} {mg : Str → Option Value} (kn : Kn K mg) : mg "_law_is_axis" = some (.ref (He.ga K "_law_is_axis")) := let ⟨⟨_, _, G, c⟩⟩ := kn; He.glo_ok c.kin G (c.d.fact 67 (f := .glo "_law_is_axis") rfl)
theorem g__law_is_far {K : Frg} {mg : Str → Option Value} (kn : Kn K mg) : mg "_law_is_far" = some (.ref (He.ga K "_law_is_far")) := let ⟨⟨_, _, G, c⟩⟩ := kn; He.glo_ok c.kin G (c.d.fact 68 (f := .glo "_law_is_far") rfl)
theorem g_law {K : Frg} {mg : Str → Option Value} (kn : Kn K mg) : mg "law" = some (.ref (He.ga K "law")) := let ⟨⟨_, _, G, c⟩⟩ := kn; He.glo_ok c.kin G (c.d.fact 69 (f := .glo "law") rfl)
theorem fr_list {K : Frg} {mg : Str → Option Value} (kn : Kn K mg) : mg "list" = none := let ⟨⟨_, _, G, c⟩⟩ := kn; He.free_ok c.kin G (c.d.fact 70 (f := .free "list") rfl)
theorem fr_int {K : Frg} {mg : Str → Option Value} (kn : Kn K mg) : mg "int" = none := let ⟨⟨_, _, G, c⟩⟩ := kn; He.free_ok c.kin G (c.d.fact 71 (f := .free "int") rfl)
theorem fr_isinstance {K : Frg} {mg : Str → Option Value} (kn : Kn K mg) : mg "isinstance" = none := let ⟨⟨_, _, G, c⟩⟩ := kn; He.free_ok c.kin G (c.d.fact 72 (f := .free "isinstance") rfl)
theorem fr_abs {K : Frg} {mg : Str → Option Value} (kn : Kn K mg) : mg "abs" = none := let ⟨⟨_, _, G, c⟩⟩ := kn; He.free_ok c.kin G (c.d.fact 73 (f := .free "abs") rfl)
theorem fr_bool {K : Frg} {mg : Str → Option Value} (kn : Kn K mg) : mg "bool" = none := let ⟨⟨_, _, G, c⟩⟩ := kn; He.free_ok c.kin G (c.d.fact 74 (f := .free "bool") rfl)
theorem fr_all {K : Frg} {mg : Str → Option Value} (kn : Kn K mg) : mg "all" = none := let ⟨⟨_, _, G, c⟩⟩ := kn; He.free_ok c.kin G (c.d.fact 75 (f := .free "all") rfl)
theorem fr_len {K : Frg} {mg : Str → Option Value} (kn : Kn K mg) : mg "len" = none := let ⟨⟨_, _, G, c⟩⟩ := kn; He.free_ok c.kin G (c.d.fact 76 (f := .free "len") rfl)
theorem fr_tuple {K : Frg} {mg : Str → Option Value} (kn : Kn K mg) : mg "tuple" = none := let ⟨⟨_, _, G, c⟩⟩ := kn; He.free_ok c.kin G (c.d.fact 77 (f := .free "tuple") rfl)
theorem fr_repr {K : Frg} {mg : Str → Option Value} (kn : Kn K mg) : mg "repr" = none := let ⟨⟨_, _, G, c⟩⟩ := kn; He.free_ok c.kin G (c.d.fact 78 (f := .free "repr") rfl)
theorem fr_range {K : Frg} {mg : Str → Option Value} (kn : Kn K mg) : mg "range" = none := let ⟨⟨_, _, G, c⟩⟩ := kn; He.free_ok c.kin G (c.d.fact 79 (f := .free "range") rfl)
theorem hc_Exact {K : Frg} {mg : Str → Option Value} (kn : Kn K mg) : Cls K (He.ga K "Exact") := let ⟨⟨_, _, _, c⟩⟩ := kn; He.cls_ok (c.d.fact 80 (f := .cls "Exact") rfl)
theorem na_Exact_sign {K : Frg} {mg : Str → Option Value} (kn : Kn K mg) : NoAttr K (He.ga K "Exact") "sign" := let ⟨⟨_, _, _, c⟩⟩ := kn; He.noat_ok (c.d.fact 81 (f := .noat "Exact" "sign") rfl)
theorem na_Exact_under {K : Frg} {mg : Str → Option Value} (kn : Kn K mg) : NoAttr K (He.ga K "Exact") "under" := let ⟨⟨_, _, _, c⟩⟩ := kn; He.noat_ok (c.d.fact 82 (f := .noat "Exact" "under") rfl)
theorem na_Exact_over {K : Frg} {mg : Str → Option Value} (kn : Kn K mg) : NoAttr K (He.ga K "Exact") "over" := let ⟨⟨_, _, _, c⟩⟩ := kn; He.noat_ok (c.d.fact 83 (f := .noat "Exact" "over") rfl)
theorem na_Exact_bottom {K : Frg} {mg : Str → Option Value} (kn : Kn K mg) : NoAttr K (He.ga K "Exact") "bottom" := let ⟨⟨_, _, _, c⟩⟩ := kn; He.noat_ok (c.d.fact 84 (f := .noat "Exact" "bottom") rfl)
theorem na_Exact_top {K : Frg} {mg : Str → Option Value} (kn : Kn K mg) : NoAttr K (He.ga K "Exact") "top" := let ⟨⟨_, _, _, c⟩⟩ := kn; He.noat_ok (c.d.fact 85 (f := .noat "Exact" "top") rfl)
theorem me_Exact_plus {K : Frg} {mg : Str → Option Value} (kn : Kn K mg) : Meth K (He.ga K "Exact") "plus" (He.ma K (He.ga K "Exact") "plus") := let ⟨⟨_, _, _, c⟩⟩ := kn; He.meth_ok (c.d.fact 86 (f := .meth "Exact" "plus") rfl)
theorem me_Exact_minus {K : Frg} {mg : Str → Option Value} (kn : Kn K mg) : Meth K (He.ga K "Exact") "minus" (He.ma K (He.ga K "Exact") "minus") := let ⟨⟨_, _, _, c⟩⟩ := kn; He.meth_ok (c.d.fact 87 (f := .meth "Exact" "minus") rfl)
theorem me_Exact_times {K : Frg} {mg : Str → Option Value} (kn : Kn K mg) : Meth K (He.ga K "Exact") "times" (He.ma K (He.ga K "Exact") "times") := let ⟨⟨_, _, _, c⟩⟩ := kn; He.meth_ok (c.d.fact 88 (f := .meth "Exact" "times") rfl)
theorem me_Exact_sign_of {K : Frg} {mg : Str → Option Value} (kn : Kn K mg) : Meth K (He.ga K "Exact") "sign_of" (He.ma K (He.ga K "Exact") "sign_of") := let ⟨⟨_, _, _, c⟩⟩ := kn; He.meth_ok (c.d.fact 89 (f := .meth "Exact" "sign_of") rfl)
theorem me_Exact_by {K : Frg} {mg : Str → Option Value} (kn : Kn K mg) : Meth K (He.ga K "Exact") "by" (He.ma K (He.ga K "Exact") "by") := let ⟨⟨_, _, _, c⟩⟩ := kn; He.meth_ok (c.d.fact 90 (f := .meth "Exact" "by") rfl)
theorem mk_Exact {K : Frg} {mg : Str → Option Value} (kn : Kn K mg) : Mk K (He.ga K "Exact") (He.ma K (He.ga K "Exact") "__init__") := let ⟨⟨_, _, _, c⟩⟩ := kn; He.mkr_ok (c.d.fact 91 (f := .mkr "Exact") rfl)
theorem xf_NoLine {K : Frg} {mg : Str → Option Value} (kn : Kn K mg) : ExcF K (He.ga K "NoLine") := let ⟨⟨_, _, _, c⟩⟩ := kn; let z := He.exc_ok (c.d.fact 92 (f := .exc "NoLine") rfl); ⟨z.1, z.2.1, z.2.2.1, z.2.2.2⟩
theorem xf_NoCircle {K : Frg} {mg : Str → Option Value} (kn : Kn K mg) : ExcF K (He.ga K "NoCircle") := let ⟨⟨_, _, _, c⟩⟩ := kn; let z := He.exc_ok (c.d.fact 93 (f := .exc "NoCircle") rfl); ⟨z.1, z.2.1, z.2.2.1, z.2.2.2⟩
theorem xm_NoCircle {K : Frg} {mg : Str → Option Value} (kn : Kn K mg) : PySem.W.exmOne K (.ref (He.ga K "NoCircle")) (.ref (He.ga K "NoCircle")) = some true := let ⟨⟨_, _, _, c⟩⟩ := kn; He.exm_ok (c.d.fact 94 (f := .exm "NoCircle" "NoCircle" true) rfl)
theorem xm_NoLine_NoCircle {K : Frg} {mg : Str → Option Value} (kn : Kn K mg) : PySem.W.exmOne K (.ref (He.ga K "NoLine")) (.ref (He.ga K "NoCircle")) = some false := let ⟨⟨_, _, _, c⟩⟩ := kn; He.exm_ok (c.d.fact 95 (f := .exm "NoLine" "NoCircle" false) rfl)
theorem xm_NoLine {K : Frg} {mg : Str → Option Value} (kn : Kn K mg) : PySem.W.exmOne K (.ref (He.ga K "NoLine")) (.ref (He.ga K "NoLine")) = some true := let ⟨⟨_, _, _, c⟩⟩ := kn; He.exm_ok (c.d.fact 96 (f := .exm "NoLine" "NoLine" true) rfl)
theorem isF {K : Frg} {mg : Str → Option Value} (kn : Kn K mg) {T : List (Addr × Str)} : IsaF K (Sx T) [0] := by
  refine ⟨fun c hc => ?_, ?_⟩
  · simp only [List.mem_cons, List.not_mem_nil, or_false] at hc
    rcases hc with rfl
    exact hc_Exact kn
  · obtain ⟨⟨_, _, _, c⟩⟩ := kn
    have e := c.e
    exact (He.ba e).1
theorem ec_NoCircle {K : Frg} {mg : Str → Option Value} (kn : Kn K mg) : ExcC K (He.ga K "NoCircle") := by
  obtain ⟨⟨_, _, _, c⟩⟩ := kn
  have e := c.e
  exact excB_ok (He.ba (He.ba e).2).1
theorem ec_NoLine {K : Frg} {mg : Str → Option Value} (kn : Kn K mg) : ExcC K (He.ga K "NoLine") := by
  obtain ⟨⟨_, _, _, c⟩⟩ := kn
  have e := c.e
  exact excB_ok (He.ba (He.ba (He.ba e).2).2).1
theorem ki_NoCircle_PointError {K : Frg} {mg : Str → Option Value} (kn : Kn K mg) : PySem.W.kitOne K (.ref (He.ga K "NoCircle")) (.ref (He.ga K "PointError")) = some true := by
  obtain ⟨⟨_, _, _, c⟩⟩ := kn
  have e := c.e
  exact of_decide_eq_true (He.ba (He.ba (He.ba (He.ba e).2).2).2).1
theorem ki_NoLine_PointError {K : Frg} {mg : Str → Option Value} (kn : Kn K mg) : PySem.W.kitOne K (.ref (He.ga K "NoLine")) (.ref (He.ga K "PointError")) = some true := by
  obtain ⟨⟨_, _, _, c⟩⟩ := kn
  have e := c.e
  exact of_decide_eq_true (He.ba (He.ba (He.ba (He.ba (He.ba e).2).2).2).2).1
theorem d_ldeck {K : Frg} {mg : Str → Option Value} (kn : Kn K mg) : ∃ fd, FD_ldeck K fd := let ⟨⟨_, _, _, c⟩⟩ := kn; c.d.def_ 0 (d := dd_ldeck) rfl
theorem pb_ldeck {K : Frg} {fd : FuncData} (D : FD_ldeck K fd) : PosB K fd ps_ldeck := D.bindsN fun _ _ _ _ _ _ us hl => match us, hl with | [_], _ => rfl
theorem d_ldraw {K : Frg} {mg : Str → Option Value} (kn : Kn K mg) : ∃ fd, FD_ldraw K fd := let ⟨⟨_, _, _, c⟩⟩ := kn; c.d.def_ 1 (d := dd_ldraw) rfl
theorem pb_ldraw {K : Frg} {fd : FuncData} (D : FD_ldraw K fd) : PosB K fd ps_ldraw := D.bindsN fun _ _ _ _ _ _ us hl => match us, hl with | [_, _], _ => rfl
theorem d_with_roots {K : Frg} {mg : Str → Option Value} (kn : Kn K mg) : ∃ fd, FD_with_roots K fd := let ⟨⟨_, _, _, c⟩⟩ := kn; c.d.def_ 2 (d := dd_with_roots) rfl
theorem pb_with_roots {K : Frg} {fd : FuncData} (D : FD_with_roots K fd) : PosB K fd ps_with_roots := D.bindsN fun _ _ _ _ _ _ us hl => match us, hl with | [_], _ => rfl
theorem d_lowest {K : Frg} {mg : Str → Option Value} (kn : Kn K mg) : ∃ fd, FD_lowest K fd := let ⟨⟨_, _, _, c⟩⟩ := kn; c.d.def_ 3 (d := dd_lowest) rfl
theorem pb_lowest {K : Frg} {fd : FuncData} (D : FD_lowest K fd) : PosB K fd ps_lowest := D.bindsN fun _ _ _ _ _ _ us hl => match us, hl with | [_, _], _ => rfl
theorem d_whole_root {K : Frg} {mg : Str → Option Value} (kn : Kn K mg) : ∃ fd, FD_whole_root K fd := let ⟨⟨_, _, _, c⟩⟩ := kn; c.d.def_ 4 (d := dd_whole_root) rfl
theorem pb_whole_root {K : Frg} {fd : FuncData} (D : FD_whole_root K fd) : PosB K fd ps_whole_root := D.bindsN fun _ _ _ _ _ _ us hl => match us, hl with | [_], _ => rfl
theorem d_root_of_exacts {K : Frg} {mg : Str → Option Value} (kn : Kn K mg) : ∃ fd, FD_root_of_exacts K fd := let ⟨⟨_, _, _, c⟩⟩ := kn; c.d.def_ 5 (d := dd_root_of_exacts) rfl
theorem pb_root_of_exacts {K : Frg} {fd : FuncData} (D : FD_root_of_exacts K fd) : PosB K fd ps_root_of_exacts := D.bindsN fun _ _ _ _ _ _ us hl => match us, hl with | [_, _], _ => rfl
theorem d_shared_radix {K : Frg} {mg : Str → Option Value} (kn : Kn K mg) : ∃ fd, FD_shared_radix K fd := let ⟨⟨_, _, _, c⟩⟩ := kn; c.d.def_ 6 (d := dd_shared_radix) rfl
theorem pb_shared_radix {K : Frg} {fd : FuncData} (D : FD_shared_radix K fd) : PosB K fd ps_shared_radix := D.bindsN fun _ _ _ _ _ _ us hl => match us, hl with | [_, _], _ => rfl
theorem d_is_whole {K : Frg} {mg : Str → Option Value} (kn : Kn K mg) : ∃ fd, FD_is_whole K fd := let ⟨⟨_, _, _, c⟩⟩ := kn; c.d.def_ 7 (d := dd_is_whole) rfl
theorem pb_is_whole {K : Frg} {fd : FuncData} (D : FD_is_whole K fd) : PosB K fd ps_is_whole := D.bindsN fun _ _ _ _ _ _ us hl => match us, hl with | [_], _ => rfl
theorem d_are_right {K : Frg} {mg : Str → Option Value} (kn : Kn K mg) : ∃ fd, FD_are_right K fd := let ⟨⟨_, _, _, c⟩⟩ := kn; c.d.def_ 8 (d := dd_are_right) rfl
theorem pb_are_right {K : Frg} {fd : FuncData} (D : FD_are_right K fd) : PosB K fd ps_are_right := D.bindsN fun _ _ _ _ _ _ us hl => match us, hl with | [_, _, _, _, _], _ => rfl
theorem d_sum_of {K : Frg} {mg : Str → Option Value} (kn : Kn K mg) : ∃ fd, FD_sum_of K fd := let ⟨⟨_, _, _, c⟩⟩ := kn; c.d.def_ 9 (d := dd_sum_of) rfl
theorem pb_sum_of {K : Frg} {fd : FuncData} (D : FD_sum_of K fd) : PosB K fd ps_sum_of := D.bindsN fun _ _ _ _ _ _ us hl => match us, hl with | [_, _], _ => rfl
theorem d_Exact_initD {K : Frg} {mg : Str → Option Value} (kn : Kn K mg) : ∃ fd, FD_Exact_initD K fd := let ⟨⟨_, _, _, c⟩⟩ := kn; c.d.def_ 10 (d := dd_Exact_initD) rfl
theorem d_sign_in {K : Frg} {mg : Str → Option Value} (kn : Kn K mg) : ∃ fd, FD_sign_in K fd := let ⟨⟨_, _, _, c⟩⟩ := kn; c.d.def_ 11 (d := dd_sign_in) rfl
theorem pb_sign_in {K : Frg} {fd : FuncData} (D : FD_sign_in K fd) : PosB K fd ps_sign_in := D.bindsN fun _ _ _ _ _ _ us hl => match us, hl with | [_], _ => rfl
theorem d_made_of {K : Frg} {mg : Str → Option Value} (kn : Kn K mg) : ∃ fd, FD_made_of K fd := let ⟨⟨_, _, _, c⟩⟩ := kn; c.d.def_ 12 (d := dd_made_of) rfl
theorem pb_made_of {K : Frg} {fd : FuncData} (D : FD_made_of K fd) : PosB K fd ps_made_of := D.bindsN fun _ _ _ _ _ _ us hl => match us, hl with | [_, _, _], _ => rfl
theorem d_quotient {K : Frg} {mg : Str → Option Value} (kn : Kn K mg) : ∃ fd, FD_quotient K fd := let ⟨⟨_, _, _, c⟩⟩ := kn; c.d.def_ 13 (d := dd_quotient) rfl
theorem pb_quotient {K : Frg} {fd : FuncData} (D : FD_quotient K fd) : PosB K fd ps_quotient := D.bindsN fun _ _ _ _ _ _ us hl => match us, hl with | [_], _ => rfl
theorem d_Exact_plus {K : Frg} {mg : Str → Option Value} (kn : Kn K mg) : ∃ fd, FD_Exact_plus K fd := let ⟨⟨_, _, _, c⟩⟩ := kn; c.d.def_ 14 (d := dd_Exact_plus) rfl
theorem pb_Exact_plus {K : Frg} {fd : FuncData} (D : FD_Exact_plus K fd) : PosB K fd ps_Exact_plus := D.bindsN fun _ _ _ _ _ _ us hl => match us, hl with | [_, _], _ => rfl
theorem d_must_agree {K : Frg} {mg : Str → Option Value} (kn : Kn K mg) : ∃ fd, FD_must_agree K fd := let ⟨⟨_, _, _, c⟩⟩ := kn; c.d.def_ 15 (d := dd_must_agree) rfl
theorem pb_must_agree {K : Frg} {fd : FuncData} (D : FD_must_agree K fd) : PosB K fd ps_must_agree := D.bindsN fun _ _ _ _ _ _ us hl => match us, hl with | [_], _ => rfl
theorem d_opposite {K : Frg} {mg : Str → Option Value} (kn : Kn K mg) : ∃ fd, FD_opposite K fd := let ⟨⟨_, _, _, c⟩⟩ := kn; c.d.def_ 16 (d := dd_opposite) rfl
theorem pb_opposite {K : Frg} {fd : FuncData} (D : FD_opposite K fd) : PosB K fd ps_opposite := D.bindsN fun _ _ _ _ _ _ us hl => match us, hl with | [_], _ => rfl
theorem d_Exact_minus {K : Frg} {mg : Str → Option Value} (kn : Kn K mg) : ∃ fd, FD_Exact_minus K fd := let ⟨⟨_, _, _, c⟩⟩ := kn; c.d.def_ 17 (d := dd_Exact_minus) rfl
theorem pb_Exact_minus {K : Frg} {fd : FuncData} (D : FD_Exact_minus K fd) : PosB K fd ps_Exact_minus := D.bindsN fun _ _ _ _ _ _ us hl => match us, hl with | [_, _], _ => rfl
theorem d_product_of {K : Frg} {mg : Str → Option Value} (kn : Kn K mg) : ∃ fd, FD_product_of K fd := let ⟨⟨_, _, _, c⟩⟩ := kn; c.d.def_ 18 (d := dd_product_of) rfl
theorem pb_product_of {K : Frg} {fd : FuncData} (D : FD_product_of K fd) : PosB K fd ps_product_of := D.bindsN fun _ _ _ _ _ _ us hl => match us, hl with | [_, _], _ => rfl
theorem d_Exact_times {K : Frg} {mg : Str → Option Value} (kn : Kn K mg) : ∃ fd, FD_Exact_times K fd := let ⟨⟨_, _, _, c⟩⟩ := kn; c.d.def_ 19 (d := dd_Exact_times) rfl
theorem pb_Exact_times {K : Frg} {fd : FuncData} (D : FD_Exact_times K fd) : PosB K fd ps_Exact_times := D.bindsN fun _ _ _ _ _ _ us hl => match us, hl with | [_, _], _ => rfl
theorem d_cross {K : Frg} {mg : Str → Option Value} (kn : Kn K mg) : ∃ fd, FD_cross K fd := let ⟨⟨_, _, _, c⟩⟩ := kn; c.d.def_ 20 (d := dd_cross) rfl
theorem pb_cross {K : Frg} {fd : FuncData} (D : FD_cross K fd) : PosB K fd ps_cross := D.bindsN fun _ _ _ _ _ _ us hl => match us, hl with | [_, _], _ => rfl
theorem d_Exact_sign_of {K : Frg} {mg : Str → Option Value} (kn : Kn K mg) : ∃ fd, FD_Exact_sign_of K fd := let ⟨⟨_, _, _, c⟩⟩ := kn; c.d.def_ 21 (d := dd_Exact_sign_of) rfl
theorem pb_Exact_sign_of {K : Frg} {fd : FuncData} (D : FD_Exact_sign_of K fd) : PosB K fd ps_Exact_sign_of := D.bindsN fun _ _ _ _ _ _ us hl => match us, hl with | [_], _ => rfl
theorem d_Exact_by {K : Frg} {mg : Str → Option Value} (kn : Kn K mg) : ∃ fd, FD_Exact_by K fd := let ⟨⟨_, _, _, c⟩⟩ := kn; c.d.def_ 22 (d := dd_Exact_by) rfl
theorem pb_Exact_by {K : Frg} {fd : FuncData} (D : FD_Exact_by K fd) : PosB K fd ps_Exact_by := D.bindsN fun _ _ _ _ _ _ us hl => match us, hl with | [_, _], _ => rfl
theorem d_lines_meet {K : Frg} {mg : Str → Option Value} (kn : Kn K mg) : ∃ fd, FD_lines_meet K fd := let ⟨⟨_, _, _, c⟩⟩ := kn; c.d.def_ 23 (d := dd_lines_meet) rfl
theorem pb_lines_meet {K : Frg} {fd : FuncData} (D : FD_lines_meet K fd) : PosB K fd ps_lines_meet := D.bindsN fun _ _ _ _ _ _ us hl => match us, hl with | [_, _], _ => rfl
theorem d_scaled_line {K : Frg} {mg : Str → Option Value} (kn : Kn K mg) : ∃ fd, FD_scaled_line K fd := let ⟨⟨_, _, _, c⟩⟩ := kn; c.d.def_ 24 (d := dd_scaled_line) rfl
theorem pb_scaled_line {K : Frg} {fd : FuncData} (D : FD_scaled_line K fd) : PosB K fd ps_scaled_line := D.bindsN fun _ _ _ _ _ _ us hl => match us, hl with | [_, _, _], _ => rfl
theorem d_dot {K : Frg} {mg : Str → Option Value} (kn : Kn K mg) : ∃ fd, FD_dot K fd := let ⟨⟨_, _, _, c⟩⟩ := kn; c.d.def_ 25 (d := dd_dot) rfl
theorem pb_dot {K : Frg} {fd : FuncData} (D : FD_dot K fd) : PosB K fd ps_dot := D.bindsN fun _ _ _ _ _ _ us hl => match us, hl with | [_, _], _ => rfl
theorem d_line_by {K : Frg} {mg : Str → Option Value} (kn : Kn K mg) : ∃ fd, FD_line_by K fd := let ⟨⟨_, _, _, c⟩⟩ := kn; c.d.def_ 26 (d := dd_line_by) rfl
theorem pb_line_by {K : Frg} {fd : FuncData} (D : FD_line_by K fd) : PosB K fd ps_line_by := D.bindsN fun _ _ _ _ _ _ us hl => match us, hl with | [_, _], _ => rfl
theorem d_gone {K : Frg} {mg : Str → Option Value} (kn : Kn K mg) : ∃ fd, FD_gone K fd := let ⟨⟨_, _, _, c⟩⟩ := kn; c.d.def_ 27 (d := dd_gone) rfl
theorem pb_gone {K : Frg} {fd : FuncData} (D : FD_gone K fd) : PosB K fd ps_gone := D.bindsN fun _ _ _ _ _ _ us hl => match us, hl with | [_, _, _], _ => rfl
theorem d_way_between {K : Frg} {mg : Str → Option Value} (kn : Kn K mg) : ∃ fd, FD_way_between K fd := let ⟨⟨_, _, _, c⟩⟩ := kn; c.d.def_ 28 (d := dd_way_between) rfl
theorem pb_way_between {K : Frg} {fd : FuncData} (D : FD_way_between K fd) : PosB K fd ps_way_between := D.bindsN fun _ _ _ _ _ _ us hl => match us, hl with | [_, _], _ => rfl
theorem d_middle_of {K : Frg} {mg : Str → Option Value} (kn : Kn K mg) : ∃ fd, FD_middle_of K fd := let ⟨⟨_, _, _, c⟩⟩ := kn; c.d.def_ 29 (d := dd_middle_of) rfl
theorem pb_middle_of {K : Frg} {fd : FuncData} (D : FD_middle_of K fd) : PosB K fd ps_middle_of := D.bindsN fun _ _ _ _ _ _ us hl => match us, hl with | [_, _], _ => rfl
theorem d_upright_middle {K : Frg} {mg : Str → Option Value} (kn : Kn K mg) : ∃ fd, FD_upright_middle K fd := let ⟨⟨_, _, _, c⟩⟩ := kn; c.d.def_ 30 (d := dd_upright_middle) rfl
theorem pb_upright_middle {K : Frg} {fd : FuncData} (D : FD_upright_middle K fd) : PosB K fd ps_upright_middle := D.bindsN fun _ _ _ _ _ _ us hl => match us, hl with | [_, _], _ => rfl
theorem d_square_of {K : Frg} {mg : Str → Option Value} (kn : Kn K mg) : ∃ fd, FD_square_of K fd := let ⟨⟨_, _, _, c⟩⟩ := kn; c.d.def_ 31 (d := dd_square_of) rfl
theorem pb_square_of {K : Frg} {fd : FuncData} (D : FD_square_of K fd) : PosB K fd ps_square_of := D.bindsN fun _ _ _ _ _ _ us hl => match us, hl with | [_, _], _ => rfl
theorem d_circle_by {K : Frg} {mg : Str → Option Value} (kn : Kn K mg) : ∃ fd, FD_circle_by K fd := let ⟨⟨_, _, _, c⟩⟩ := kn; c.d.def_ 32 (d := dd_circle_by) rfl
theorem pb_circle_by {K : Frg} {fd : FuncData} (D : FD_circle_by K fd) : PosB K fd ps_circle_by := D.bindsN fun _ _ _ _ _ _ us hl => match us, hl with | [_, _, _], _ => rfl
theorem d_lnumber {K : Frg} {mg : Str → Option Value} (kn : Kn K mg) : ∃ fd, FD_lnumber K fd := let ⟨⟨_, _, _, c⟩⟩ := kn; c.d.def_ 33 (d := dd_lnumber) rfl
theorem pb_lnumber {K : Frg} {fd : FuncData} (D : FD_lnumber K fd) : PosB K fd ps_lnumber := D.bindsN fun _ _ _ _ _ _ us hl => match us, hl with | [_, _], _ => rfl
theorem d_lpick {K : Frg} {mg : Str → Option Value} (kn : Kn K mg) : ∃ fd, FD_lpick K fd := let ⟨⟨_, _, _, c⟩⟩ := kn; c.d.def_ 34 (d := dd_lpick) rfl
theorem pb_lpick {K : Frg} {fd : FuncData} (D : FD_lpick K fd) : PosB K fd ps_lpick := D.bindsN fun _ _ _ _ _ _ us hl => match us, hl with | [_, _], _ => rfl
theorem d_lcoordinate {K : Frg} {mg : Str → Option Value} (kn : Kn K mg) : ∃ fd, FD_lcoordinate K fd := let ⟨⟨_, _, _, c⟩⟩ := kn; c.d.def_ 35 (d := dd_lcoordinate) rfl
theorem pb_lcoordinate {K : Frg} {fd : FuncData} (D : FD_lcoordinate K fd) : PosB K fd ps_lcoordinate := D.bindsN fun _ _ _ _ _ _ us hl => match us, hl with | [_], _ => rfl
theorem d_lpoint {K : Frg} {mg : Str → Option Value} (kn : Kn K mg) : ∃ fd, FD_lpoint K fd := let ⟨⟨_, _, _, c⟩⟩ := kn; c.d.def_ 36 (d := dd_lpoint) rfl
theorem pb_lpoint {K : Frg} {fd : FuncData} (D : FD_lpoint K fd) : PosB K fd ps_lpoint := D.bindsN fun _ _ _ _ _ _ us hl => match us, hl with | [_], _ => rfl
theorem d_lsign {K : Frg} {mg : Str → Option Value} (kn : Kn K mg) : ∃ fd, FD_lsign K fd := let ⟨⟨_, _, _, c⟩⟩ := kn; c.d.def_ 37 (d := dd_lsign) rfl
theorem pb_lsign {K : Frg} {fd : FuncData} (D : FD_lsign K fd) : PosB K fd ps_lsign := D.bindsN fun _ _ _ _ _ _ us hl => match us, hl with | [_], _ => rfl
theorem d_lby {K : Frg} {mg : Str → Option Value} (kn : Kn K mg) : ∃ fd, FD_lby K fd := let ⟨⟨_, _, _, c⟩⟩ := kn; c.d.def_ 38 (d := dd_lby) rfl
theorem pb_lby {K : Frg} {fd : FuncData} (D : FD_lby K fd) : PosB K fd ps_lby := D.bindsN fun _ _ _ _ _ _ us hl => match us, hl with | [_, _], _ => rfl
theorem d_lminus {K : Frg} {mg : Str → Option Value} (kn : Kn K mg) : ∃ fd, FD_lminus K fd := let ⟨⟨_, _, _, c⟩⟩ := kn; c.d.def_ 39 (d := dd_lminus) rfl
theorem pb_lminus {K : Frg} {fd : FuncData} (D : FD_lminus K fd) : PosB K fd ps_lminus := D.bindsN fun _ _ _ _ _ _ us hl => match us, hl with | [_, _], _ => rfl
theorem d_ltimes {K : Frg} {mg : Str → Option Value} (kn : Kn K mg) : ∃ fd, FD_ltimes K fd := let ⟨⟨_, _, _, c⟩⟩ := kn; c.d.def_ 40 (d := dd_ltimes) rfl
theorem pb_ltimes {K : Frg} {fd : FuncData} (D : FD_ltimes K fd) : PosB K fd ps_ltimes := D.bindsN fun _ _ _ _ _ _ us hl => match us, hl with | [_, _], _ => rfl
theorem d_lon {K : Frg} {mg : Str → Option Value} (kn : Kn K mg) : ∃ fd, FD_lon K fd := let ⟨⟨_, _, _, c⟩⟩ := kn; c.d.def_ 41 (d := dd_lon) rfl
theorem pb_lon {K : Frg} {fd : FuncData} (D : FD_lon K fd) : PosB K fd ps_lon := D.bindsN fun _ _ _ _ _ _ us hl => match us, hl with | [_, _], _ => rfl
theorem d_lexact {K : Frg} {mg : Str → Option Value} (kn : Kn K mg) : ∃ fd, FD_lexact K fd := let ⟨⟨_, _, _, c⟩⟩ := kn; c.d.def_ 42 (d := dd_lexact) rfl
theorem pb_lexact {K : Frg} {fd : FuncData} (D : FD_lexact K fd) : PosB K fd ps_lexact := D.bindsN fun _ _ _ _ _ _ us hl => match us, hl with | [_], _ => rfl
theorem d_lspot {K : Frg} {mg : Str → Option Value} (kn : Kn K mg) : ∃ fd, FD_lspot K fd := let ⟨⟨_, _, _, c⟩⟩ := kn; c.d.def_ 43 (d := dd_lspot) rfl
theorem pb_lspot {K : Frg} {fd : FuncData} (D : FD_lspot K fd) : PosB K fd ps_lspot := D.bindsN fun _ _ _ _ _ _ us hl => match us, hl with | [_], _ => rfl
theorem d_lread {K : Frg} {mg : Str → Option Value} (kn : Kn K mg) : ∃ fd, FD_lread K fd := let ⟨⟨_, _, _, c⟩⟩ := kn; c.d.def_ 44 (d := dd_lread) rfl
theorem pb_lread {K : Frg} {fd : FuncData} (D : FD_lread K fd) : PosB K fd ps_lread := D.bindsN fun _ _ _ _ _ _ us hl => match us, hl with | [_], _ => rfl
theorem d_ltold {K : Frg} {mg : Str → Option Value} (kn : Kn K mg) : ∃ fd, FD_ltold K fd := let ⟨⟨_, _, _, c⟩⟩ := kn; c.d.def_ 45 (d := dd_ltold) rfl
theorem pb_ltold {K : Frg} {fd : FuncData} (D : FD_ltold K fd) : PosB K fd ps_ltold := D.bindsN fun _ _ _ _ _ _ us hl => match us, hl with | [_], _ => rfl
theorem d_lheard {K : Frg} {mg : Str → Option Value} (kn : Kn K mg) : ∃ fd, FD_lheard K fd := let ⟨⟨_, _, _, c⟩⟩ := kn; c.d.def_ 46 (d := dd_lheard) rfl
theorem pb_lheard {K : Frg} {fd : FuncData} (D : FD_lheard K fd) : PosB K fd ps_lheard := D.bindsN fun _ _ _ _ _ _ us hl => match us, hl with | [_], _ => rfl
theorem d_lsame {K : Frg} {mg : Str → Option Value} (kn : Kn K mg) : ∃ fd, FD_lsame K fd := let ⟨⟨_, _, _, c⟩⟩ := kn; c.d.def_ 47 (d := dd_lsame) rfl
theorem pb_lsame {K : Frg} {fd : FuncData} (D : FD_lsame K fd) : PosB K fd ps_lsame := D.bindsN fun _ _ _ _ _ _ us hl => match us, hl with | [_, _], _ => rfl
theorem d_lline {K : Frg} {mg : Str → Option Value} (kn : Kn K mg) : ∃ fd, FD_lline K fd := let ⟨⟨_, _, _, c⟩⟩ := kn; c.d.def_ 48 (d := dd_lline) rfl
theorem pb_lline {K : Frg} {fd : FuncData} (D : FD_lline K fd) : PosB K fd ps_lline := D.bindsN fun _ _ _ _ _ _ us hl => match us, hl with | [_, _, _], _ => rfl
theorem d_lplus {K : Frg} {mg : Str → Option Value} (kn : Kn K mg) : ∃ fd, FD_lplus K fd := let ⟨⟨_, _, _, c⟩⟩ := kn; c.d.def_ 49 (d := dd_lplus) rfl
theorem pb_lplus {K : Frg} {fd : FuncData} (D : FD_lplus K fd) : PosB K fd ps_lplus := D.bindsN fun _ _ _ _ _ _ us hl => match us, hl with | [_, _], _ => rfl
theorem d_lthrough {K : Frg} {mg : Str → Option Value} (kn : Kn K mg) : ∃ fd, FD_lthrough K fd := let ⟨⟨_, _, _, c⟩⟩ := kn; c.d.def_ 50 (d := dd_lthrough) rfl
theorem pb_lthrough {K : Frg} {fd : FuncData} (D : FD_lthrough K fd) : PosB K fd ps_lthrough := D.bindsN fun _ _ _ _ _ _ us hl => match us, hl with | [_, _], _ => rfl
theorem d_lturns {K : Frg} {mg : Str → Option Value} (kn : Kn K mg) : ∃ fd, FD_lturns K fd := let ⟨⟨_, _, _, c⟩⟩ := kn; c.d.def_ 51 (d := dd_lturns) rfl
theorem pb_lturns {K : Frg} {fd : FuncData} (D : FD_lturns K fd) : PosB K fd ps_lturns := D.bindsN fun _ _ _ _ _ _ us hl => match us, hl with | [_, _, _], _ => rfl
theorem d_lroot_of {K : Frg} {mg : Str → Option Value} (kn : Kn K mg) : ∃ fd, FD_lroot_of K fd := let ⟨⟨_, _, _, c⟩⟩ := kn; c.d.def_ 52 (d := dd_lroot_of) rfl
theorem pb_lroot_of {K : Frg} {fd : FuncData} (D : FD_lroot_of K fd) : PosB K fd ps_lroot_of := D.bindsN fun _ _ _ _ _ _ us hl => match us, hl with | [_], _ => rfl
theorem d_lfive {K : Frg} {mg : Str → Option Value} (kn : Kn K mg) : ∃ fd, FD_lfive K fd := let ⟨⟨_, _, _, c⟩⟩ := kn; c.d.def_ 53 (d := dd_lfive) rfl
theorem pb_lfive {K : Frg} {fd : FuncData} (D : FD_lfive K fd) : PosB K fd ps_lfive := D.bindsN fun _ _ _ _ _ _ us hl => match us, hl with | [_, _, _], _ => rfl
theorem d_ldue {K : Frg} {mg : Str → Option Value} (kn : Kn K mg) : ∃ fd, FD_ldue K fd := let ⟨⟨_, _, _, c⟩⟩ := kn; c.d.def_ 54 (d := dd_ldue) rfl
theorem pb_ldue {K : Frg} {fd : FuncData} (D : FD_ldue K fd) : PosB K fd ps_ldue := D.bindsN fun _ _ _ _ _ _ us hl => match us, hl with | [_], _ => rfl
theorem d_lis_whole {K : Frg} {mg : Str → Option Value} (kn : Kn K mg) : ∃ fd, FD_lis_whole K fd := let ⟨⟨_, _, _, c⟩⟩ := kn; c.d.def_ 55 (d := dd_lis_whole) rfl
theorem pb_lis_whole {K : Frg} {fd : FuncData} (D : FD_lis_whole K fd) : PosB K fd ps_lis_whole := D.bindsN fun _ _ _ _ _ _ us hl => match us, hl with | [_], _ => rfl
theorem d_llisted {K : Frg} {mg : Str → Option Value} (kn : Kn K mg) : ∃ fd, FD_llisted K fd := let ⟨⟨_, _, _, c⟩⟩ := kn; c.d.def_ 56 (d := dd_llisted) rfl
theorem pb_llisted {K : Frg} {fd : FuncData} (D : FD_llisted K fd) : PosB K fd ps_llisted := D.bindsN fun _ _ _ _ _ _ us hl => match us, hl with | [_], _ => rfl
theorem d_lsquare_way {K : Frg} {mg : Str → Option Value} (kn : Kn K mg) : ∃ fd, FD_lsquare_way K fd := let ⟨⟨_, _, _, c⟩⟩ := kn; c.d.def_ 57 (d := dd_lsquare_way) rfl
theorem pb_lsquare_way {K : Frg} {fd : FuncData} (D : FD_lsquare_way K fd) : PosB K fd ps_lsquare_way := D.bindsN fun _ _ _ _ _ _ us hl => match us, hl with | [_, _], _ => rfl
theorem d_lby_three {K : Frg} {mg : Str → Option Value} (kn : Kn K mg) : ∃ fd, FD_lby_three K fd := let ⟨⟨_, _, _, c⟩⟩ := kn; c.d.def_ 58 (d := dd_lby_three) rfl
theorem pb_lby_three {K : Frg} {fd : FuncData} (D : FD_lby_three K fd) : PosB K fd ps_lby_three := D.bindsN fun _ _ _ _ _ _ us hl => match us, hl with | [_, _, _], _ => rfl
theorem d_power_of {K : Frg} {mg : Str → Option Value} (kn : Kn K mg) : ∃ fd, FD_power_of K fd := let ⟨⟨_, _, _, c⟩⟩ := kn; c.d.def_ 59 (d := dd_power_of) rfl
theorem pb_power_of {K : Frg} {fd : FuncData} (D : FD_power_of K fd) : PosB K fd ps_power_of := D.bindsN fun _ _ _ _ _ _ us hl => match us, hl with | [_, _], _ => rfl
theorem d_lis_by_three {K : Frg} {mg : Str → Option Value} (kn : Kn K mg) : ∃ fd, FD_lis_by_three K fd := let ⟨⟨_, _, _, c⟩⟩ := kn; c.d.def_ 60 (d := dd_lis_by_three) rfl
theorem pb_lis_by_three {K : Frg} {fd : FuncData} (D : FD_lis_by_three K fd) : PosB K fd ps_lis_by_three := D.bindsN fun _ _ _ _ _ _ us hl => match us, hl with | [_], _ => rfl
theorem d_ldrawn_circle {K : Frg} {mg : Str → Option Value} (kn : Kn K mg) : ∃ fd, FD_ldrawn_circle K fd := let ⟨⟨_, _, _, c⟩⟩ := kn; c.d.def_ 61 (d := dd_ldrawn_circle) rfl
theorem pb_ldrawn_circle {K : Frg} {fd : FuncData} (D : FD_ldrawn_circle K fd) : PosB K fd ps_ldrawn_circle := D.bindsN fun _ _ _ _ _ _ us hl => match us, hl with | [_], _ => rfl
theorem d_lpower {K : Frg} {mg : Str → Option Value} (kn : Kn K mg) : ∃ fd, FD_lpower K fd := let ⟨⟨_, _, _, c⟩⟩ := kn; c.d.def_ 62 (d := dd_lpower) rfl
theorem pb_lpower {K : Frg} {fd : FuncData} (D : FD_lpower K fd) : PosB K fd ps_lpower := D.bindsN fun _ _ _ _ _ _ us hl => match us, hl with | [_, _], _ => rfl
theorem d_lring {K : Frg} {mg : Str → Option Value} (kn : Kn K mg) : ∃ fd, FD_lring K fd := let ⟨⟨_, _, _, c⟩⟩ := kn; c.d.def_ 63 (d := dd_lring) rfl
theorem pb_lring {K : Frg} {fd : FuncData} (D : FD_lring K fd) : PosB K fd ps_lring := D.bindsN fun _ _ _ _ _ _ us hl => match us, hl with | [_], _ => rfl
theorem d_laround {K : Frg} {mg : Str → Option Value} (kn : Kn K mg) : ∃ fd, FD_laround K fd := let ⟨⟨_, _, _, c⟩⟩ := kn; c.d.def_ 64 (d := dd_laround) rfl
theorem pb_laround {K : Frg} {fd : FuncData} (D : FD_laround K fd) : PosB K fd ps_laround := D.bindsN fun _ _ _ _ _ _ us hl => match us, hl with | [_, _], _ => rfl
theorem d_axis_of {K : Frg} {mg : Str → Option Value} (kn : Kn K mg) : ∃ fd, FD_axis_of K fd := let ⟨⟨_, _, _, c⟩⟩ := kn; c.d.def_ 65 (d := dd_axis_of) rfl
theorem pb_axis_of {K : Frg} {fd : FuncData} (D : FD_axis_of K fd) : PosB K fd ps_axis_of := D.bindsN fun _ _ _ _ _ _ us hl => match us, hl with | [_, _], _ => rfl
theorem d_lis_axis {K : Frg} {mg : Str → Option Value} (kn : Kn K mg) : ∃ fd, FD_lis_axis K fd := let ⟨⟨_, _, _, c⟩⟩ := kn; c.d.def_ 66 (d := dd_lis_axis) rfl
theorem pb_lis_axis {K : Frg} {fd : FuncData} (D : FD_lis_axis K fd) : PosB K fd ps_lis_axis := D.bindsN fun _ _ _ _ _ _ us hl => match us, hl with | [_], _ => rfl
theorem d_root_of_plane {K : Frg} {mg : Str → Option Value} (kn : Kn K mg) : ∃ fd, FD_root_of_plane K fd := let ⟨⟨_, _, _, c⟩⟩ := kn; c.d.def_ 67 (d := dd_root_of_plane) rfl
theorem pb_root_of_plane {K : Frg} {fd : FuncData} (D : FD_root_of_plane K fd) : PosB K fd ps_root_of_plane := D.bindsN fun _ _ _ _ _ _ us hl => match us, hl with | [_], _ => rfl
theorem d_root_number {K : Frg} {mg : Str → Option Value} (kn : Kn K mg) : ∃ fd, FD_root_number K fd := let ⟨⟨_, _, _, c⟩⟩ := kn; c.d.def_ 68 (d := dd_root_number) rfl
theorem pb_root_number {K : Frg} {fd : FuncData} (D : FD_root_number K fd) : PosB K fd ps_root_number := D.bindsN fun _ _ _ _ _ _ us hl => match us, hl with | [_], _ => rfl
theorem d_far_root {K : Frg} {mg : Str → Option Value} (kn : Kn K mg) : ∃ fd, FD_far_root K fd := let ⟨⟨_, _, _, c⟩⟩ := kn; c.d.def_ 69 (d := dd_far_root) rfl
theorem pb_far_root {K : Frg} {fd : FuncData} (D : FD_far_root K fd) : PosB K fd ps_far_root := D.bindsN fun _ _ _ _ _ _ us hl => match us, hl with | [_, _], _ => rfl
theorem d_lis_far {K : Frg} {mg : Str → Option Value} (kn : Kn K mg) : ∃ fd, FD_lis_far K fd := let ⟨⟨_, _, _, c⟩⟩ := kn; c.d.def_ 70 (d := dd_lis_far) rfl
theorem pb_lis_far {K : Frg} {fd : FuncData} (D : FD_lis_far K fd) : PosB K fd ps_lis_far := D.bindsN fun _ _ _ _ _ _ us hl => match us, hl with | [_], _ => rfl
theorem d_law {K : Frg} {mg : Str → Option Value} (kn : Kn K mg) : ∃ fd, FD_law K fd := let ⟨⟨_, _, _, c⟩⟩ := kn; c.d.def_ 71 (d := dd_law) rfl
theorem pb_law {K : Frg} {fd : FuncData} (D : FD_law K fd) : PosB K fd ps_law := D.bindsN fun _ _ _ _ _ _ us hl => match us, hl with | [_], _ => rfl
theorem bi_Exact_2_sign_over_under {K : Frg} {S : Sta} {fd : FuncData} (F : FD_Exact_initD K fd) : BndI K S fd ps_Exact_initD 2 ["sign", "over", "under"] (fun ds es => ds ++ es) := by
  obtain ⟨its, mv, hb⟩ := F.kbinds 3 ["sign", "over", "under"] [] (fun us _ _ ws => us ++ ws) (by intro q; cases q) (by intro q; cases q) (by simp) (fun r1 r2 r3 r4 => r1.append r4)
    (fun T D doc pm an cdv ct us its mv ws h1 h2 h3 h4 => match us, its, mv, ws, h1, h2, h3, h4 with | [_, _, _], [_], [], [_, _, _], _, _, _, _ => ⟨_, rfl, (by show _ = pure _; kernel_rfl)⟩)
  exact BndI.kbn (gT := fun us ws => us ++ ws) (gU := fun vs zs => vs ++ zs) hb (fun _ _ _ => rfl) (fun _ _ _ => rfl) (fun Z μ ds es vs zs h1 h2 => isDs_app h1 h2) (fun ds es h1 h2 => by rw [List.length_append, h1, h2]; rfl)
theorem bi_Exact_1 {K : Frg} {S : Sta} {fd : FuncData} (F : FD_Exact_initD K fd) : BndI K S fd ps_Exact_initD 1 [] (fun ds _ => ds ++ [.int 1, .int 0, .int 0, .int 1]) :=
  BndI.dfl (F.binds 2 0 (by intro q; cases q) rfl (fun T D doc pm an cdv ct us its ks h1 h2 h3 => match us, its, ks, h1, h2, h3 with | [_, _], [_], [_, _, _], _, _, _ => ⟨_, rfl, ⟨_, _, _, _, _, _, rfl, rfl, ⟨_, _, _, _, _, _, rfl, rfl, ⟨_, _, _, _, _, _, rfl, rfl, rfl⟩⟩⟩⟩) (by intro q; cases q)) (fun Z μ => isDs_ints (ns := [1, 0, 0, 1]).mpr rfl)
theorem bi_Exact_2 {K : Frg} {S : Sta} {fd : FuncData} (F : FD_Exact_initD K fd) : BndI K S fd ps_Exact_initD 2 [] (fun ds _ => ds ++ [.int 0, .int 0, .int 1]) :=
  BndI.dfl (F.binds 3 1 (by intro q; cases q) rfl (fun T D doc pm an cdv ct us its ks h1 h2 h3 => match us, its, ks, h1, h2, h3 with | [_, _, _], [_], [_, _, _], _, _, _ => ⟨_, rfl, ⟨_, _, _, _, _, _, rfl, rfl, ⟨_, _, _, _, _, _, rfl, rfl, ⟨_, _, _, _, _, _, rfl, rfl, rfl⟩⟩⟩⟩) (by intro q; cases q)) (fun Z μ => isDs_ints (ns := [0, 0, 1]).mpr rfl)
theorem bi_Exact_1_sign_over_under {K : Frg} {S : Sta} {fd : FuncData} (F : FD_Exact_initD K fd) : BndI K S fd ps_Exact_initD 1 ["sign", "over", "under"] (fun ds es => ds ++ ([.int 1] ++ es)) := by
  obtain ⟨its, mv, hb⟩ := F.kbinds 2 ["sign", "over", "under"] [] (fun us ds _ ws => us ++ (ds ++ ws)) (by intro q; cases q) (by intro q; cases q) (by simp) (fun r1 r2 r3 r4 => r1.append (r2.append r4))
    (fun T D doc pm an cdv ct us its mv ws h1 h2 h3 h4 => match us, its, mv, ws, h1, h2, h3, h4 with | [_, _], [_], [], [_, _, _], _, _, _, _ => ⟨_, rfl, (by show _ = pure _; kernel_rfl)⟩)
  exact BndI.kbn (gT := fun us ws => us ++ (its ++ ws)) (gU := fun vs zs => vs ++ ([.int 1] ++ zs)) hb (fun _ _ _ => rfl) (fun _ _ _ => rfl) (fun Z μ ds es vs zs h1 h2 => isDs_app h1 (isDs_app (isDs_ints (ns := [1]).mpr rfl) h2)) (fun ds es h1 h2 => by simp [h1, h2]; rfl)
theorem bt_list : bootBuiltins "list" = some (.type "list") := by decide +kernel
theorem bt_int : bootBuiltins "int" = some (.type "int") := by decide +kernel
theorem bt_isinstance : bootBuiltins "isinstance" = some (.builtin "isinstance") := by decide +kernel
theorem bt_abs : bootBuiltins "abs" = some (.builtin "abs") := by decide +kernel
theorem bt_bool : bootBuiltins "bool" = some (.type "bool") := by decide +kernel
theorem bt_all : bootBuiltins "all" = some (.builtin "all") := by decide +kernel
theorem bt_len : bootBuiltins "len" = some (.builtin "len") := by decide +kernel
theorem bt_tuple : bootBuiltins "tuple" = some (.type "tuple") := by decide +kernel
theorem bt_repr : bootBuiltins "repr" = some (.builtin "repr") := by decide +kernel
theorem u64 {k : Nat} {A : Around} (h : Room k A) : A.units + 64 < cLine := by
  have := h.un
  omega
/-- the clause for the one class -/
def hx1 (C : Nat) : Nat → Option Bool := fun c => if c = C then some true else none
theorem hx1_eq {C c : Nat} (h : hx1 C c = some true) : c = C := by
  unfold hx1 at h
  split at h
  · assumption
  · cases h
def hx2 (C C' : Nat) : Nat → Option Bool := fun c => if c = C then some true else if c = C' then some false else none
theorem hx2_eq {C C' c : Nat} (h : hx2 C C' c = some true) : c = C := by
  unfold hx2 at h
  split at h
  · assumption
  · split at h <;> cases h
theorem hx2_ok {K : Frg} {T : List (Addr × Str)} {C C' : Nat} {v : Value} (h : PySem.W.exmOne K (.ref (He.ga K (cn C))) v = some true) (h2 : PySem.W.exmOne K (.ref (He.ga K (cn C'))) v = some false) : ∀ c b, hx2 C C' c = some b → PySem.W.exmOne K (.ref (He.ga K ((Sx T).cn c))) v = some b := fun c b e => by
  unfold hx2 at e
  split at e
  · rename_i q
    cases e
    subst q
    exact h
  · split at e
    · rename_i q
      cases e
      subst q
      exact h2
    · cases e
theorem hx1_ok {K : Frg} {T : List (Addr × Str)} {C : Nat} {v : Value} (h : PySem.W.exmOne K (.ref (He.ga K (cn C))) v = some true) : ∀ c b, hx1 C c = some b → PySem.W.exmOne K (.ref (He.ga K ((Sx T).cn c))) v = some b := fun c b e => by
  unfold hx1 at e
  split at e
  · rename_i q
    cases e
    subst q
    exact h
  · cases e
abbrev lamQ_lis_by_three : Str := (envOfC "_law_is_by_three" (defScope (top 80)) 0 0 Value.none).qual ++ ("<lambda>" : Str)
abbrev lamQ_lis_axis : Str := (envOfC "_law_is_axis" (defScope (top 81)) 0 0 Value.none).qual ++ ("<lambda>" : Str)
/-- the tables of the defs that make lambdas -/
structure MkOk (K : Frg) (mg : Str → Option Value) (base : Heap) (T : List (Addr × Str)) : Prop where
  m_lis_by_three : ∃ (fd : FuncData) (c Q : Addr), FD_lis_by_three K fd ∧ LamX.TabB base mg c Q ∧ fd.code = .ref c ∧ (Q, lamQ_lis_by_three) ∈ T ∧ ∀ p ∈ T, p.1 = Q → p.2 = lamQ_lis_by_three
  m_lis_axis : ∃ (fd : FuncData) (c Q : Addr), FD_lis_axis K fd ∧ LamX.TabB base mg c Q ∧ fd.code = .ref c ∧ (Q, lamQ_lis_axis) ∈ T ∧ ∀ p ∈ T, p.1 = Q → p.2 = lamQ_lis_axis
end G76
set_option Elab.async false
set_option linter.all false
set_option maxRecDepth 100000
set_option maxHeartbeats 8000000
set_option autoImplicit false
namespace G76
noncomputable section
open PySem PySem.Spec PyProof.Rows L2 Sm
def n_ldeck : List Str := ["script", "rest", "mixed", "cell"]
theorem sc_ldeck : FnScope n_ldeck ps_ldeck (defScope (top 48)) := ⟨rfl, rfl, rfl, by decide +kernel, rfl, by decide +kernel, by decide +kernel⟩
def b_ldeck : SM :=
 (seqS (parS 1 2 (consM (frzM (callBF listB (consM (frzM (slM (varB 0) (cM none) (partM (cM (.int 63))))) nilM))) (consM (cM (.int 20137076)) nilM)))
 (seqS (forS (seqW (varM 1)) (setG 3)
 (setS 2 (op2 modD (callB intB (consM (op2 addD (op2 addD (op2 mulD (varB 2) (cM (.int 39373))) (op2 modD (callB intB (consM (varB 3) nilM)) (cM (.int 2147483629)))) (cM (.int 127))) nilM)) (cM (.int 2147483587)))))
 (retS (dictM ["rest", "mixed", "draws"] (consM (allocM (revM (varB 1))) (consM (varM 2) (consM (cM (.int 0)) nilM)))))))
def m_ldeck : DM := fun ds st => fin (b_ldeck (startD n_ldeck ds) st)
theorem ok_ldeck {P : Program} {w : World} {K : Frg} {mg : Str → Option Value} {base : Heap} {T : List (Addr × Str)} (kn : Kn K mg) : ∃ fd, FD_ldeck K fd ∧ PosB K fd ps_ldeck ∧ FnSem P w K mg base (Sx T) 1 (He.ga K "_law_deck") fd ps_ldeck m_ldeck := by
  obtain ⟨fd, D⟩ := d_ldeck kn
  refine ⟨fd, D, pb_ldeck D, FnSem.of (sm := b_ldeck) D sc_ldeck fun cdv A outer s H E O hr hg => ?_⟩
  exact (ss_cons (st_par sc_ldeck.nd (a_cons (s_frz (f_callT call_list_of cList (fr_list kn) bt_list (b_cons (sb (s_frz (f_slice (s_vb 0) o_none (o_some s_int)))) b_nil))) (a_cons s_int a_nil)))
 (ss_cons (st_for (passes_of rfl) (i_seq (s_v 1)) (fun O => (g_name 3 sc_ldeck.nd))
 (fun O => (ss_one (st_set 2 sc_ldeck.nd (s_op op_modN fMod (sb (s_callT call_int1 cInt (fr_int kn) bt_int (b_cons (sb (s_op op_addA fAdd (sb (s_op op_addA fAdd (sb (s_op op_mulW fMul (s_vb 2) (sb s_int))) (sb (s_op op_modN fMod (sb (s_callT call_int1 cInt (fr_int kn) bt_int (b_cons (s_vb 3) b_nil))) (sb s_int))))) (sb s_int))) b_nil))) (sb s_int))))))
 (ss_one (st_ret (s_dict (.cons (s_alloc (f_rev (s_vb 1))) (.cons (s_v 2) (.cons s_int .nil))))))))
def n_ldraw : List Str := ["deck", "below", "number", "count", "cell"]
theorem sc_ldraw : FnScope n_ldraw ps_ldraw (defScope (top 49)) := ⟨rfl, rfl, rfl, by decide +kernel, rfl, by decide +kernel, by decide +kernel⟩
def b_ldraw : SM :=
 (seqS (dputS (varM 0) (cM (.str "draws")) (op2 addD (op2 dgetD (varM 0) (cM (.str "draws"))) (cM (.int 1))))
 (seqS (parS 2 3 (consM (op2 dgetD (varM 0) (cM (.str "mixed"))) (consM (op2 dgetD (varM 0) (cM (.str "draws"))) nilM)))
 (seqS (ifS (tst (op2 neD (op2 dgetD (varM 0) (cM (.str "rest"))) (frzM (lstM nilM))))
 (seqS (setS 4 (popM (op2 dgetD (varM 0) (cM (.str "rest")))))
 (seqS (ifS (tst (op2 geD (varB 4) (op2 powD (cM (.int 10)) (cM (.int 18)))))
 (seqS (guardS (isRef (op2 dgetD (varM 0) (cM (.str "rest")))) (appRS (op2 dgetD (varM 0) (cM (.str "rest"))) (op2 divD (varB 4) (ifM (tst (op2 gtD (varB 1) (cM (.int 1)))) (varM 1) (cM (.int 2))))))
 (retS (op2 modD (callB intB (consM (varB 4) nilM)) (varB 1))))
 nilS)
 (setS 2 (op2 addD (varB 2) (op2 modD (callB intB (consM (varB 4) nilM)) (cM (.int 2147483629)))))))
 nilS)
 (seqS (setS 2 (op2 mulD (callB intB (consM (op2 addD (op2 addD (op2 modD (callB intB (consM (varB 2) nilM)) (cM (.int 2147483563))) (op2 mulD (op2 mulD (cM (.int 60821)) (varB 3)) (varB 3))) (cM (.int 90073))) nilM)) (cM (.int 40692))))
 (seqS (setS 2 (op2 modD (callB intB (consM (varB 2) nilM)) (cM (.int 2147483647))))
 (seqS (setS 2 (op2 modD (callB intB (consM (op2 addD (op2 addD (op2 mulD (varB 2) (varB 2)) (op2 mulD (cM (.int 40692)) (varB 3))) (cM (.int 97))) nilM)) (cM (.int 2147483579))))
 (retS (op2 modD (op2 divD (op2 modD (callB intB (consM (op2 mulD (varB 2) (cM (.int 48271))) nilM)) (cM (.int 2147483549))) (cM (.int 64))) (varB 1)))))))))
def m_ldraw : DM := fun ds st => fin (b_ldraw (startD n_ldraw ds) st)
theorem ok_ldraw {P : Program} {w : World} {K : Frg} {mg : Str → Option Value} {base : Heap} {T : List (Addr × Str)} (kn : Kn K mg) : ∃ fd, FD_ldraw K fd ∧ PosB K fd ps_ldraw ∧ FnSem P w K mg base (Sx T) 1 (He.ga K "_law_draw") fd ps_ldraw m_ldraw := by
  obtain ⟨fd, D⟩ := d_ldraw kn
  refine ⟨fd, D, pb_ldraw D, FnSem.of (sm := b_ldraw) D sc_ldraw fun cdv A outer s H E O hr hg => ?_⟩
  exact (ss_cons (st_dput hr (s_v 0) s_str (s_op op_addA fAdd (sb (s_dget hr (s_v 0) s_str)) (sb s_int)))
 (ss_cons (st_par sc_ldraw.nd (a_cons (s_dget hr (s_v 0) s_str) (a_cons (s_dget hr (s_v 0) s_str) a_nil)))
 (ss_cons (st_if (t_cmp (op_neD (u64 hr)) fNe (sb (s_dget hr (s_v 0) s_str)) (sb (s_frz (f_lst a_nil))))
 (ss_cons (st_set 4 sc_ldraw.nd (s_pop (pe_popR (s_dget hr (s_v 0) s_str))))
 (ss_cons (st_if (t_cmp op_ge fGe (s_vb 4) (sb (s_op op_pow fPow (sb s_int) (sb s_int))))
 (ss_cons (st_appR (pe_appR (s_dget hr (s_v 0) s_str) (s_op op_fdivZ fDiv (s_vb 4) (sb (s_if (t_cmp op_gt fGt (s_vb 1) (sb s_int)) (s_v 1) s_int)))))
 (ss_one (st_ret (s_op op_modN fMod (sb (s_callT call_int1 cInt (fr_int kn) bt_int (b_cons (s_vb 4) b_nil))) (s_vb 1)))))
 ss_nil)
 (ss_one (st_set 2 sc_ldraw.nd (s_op op_addA fAdd (s_vb 2) (sb (s_op op_modN fMod (sb (s_callT call_int1 cInt (fr_int kn) bt_int (b_cons (s_vb 4) b_nil))) (sb s_int))))))))
 ss_nil)
 (ss_cons (st_set 2 sc_ldraw.nd (s_op op_mulW fMul (sb (s_callT call_int1 cInt (fr_int kn) bt_int (b_cons (sb (s_op op_addA fAdd (sb (s_op op_addA fAdd (sb (s_op op_modN fMod (sb (s_callT call_int1 cInt (fr_int kn) bt_int (b_cons (s_vb 2) b_nil))) (sb s_int))) (sb (s_op op_mulW fMul (sb (s_op op_mulW fMul (sb s_int) (s_vb 3))) (s_vb 3))))) (sb s_int))) b_nil))) (sb s_int)))
 (ss_cons (st_set 2 sc_ldraw.nd (s_op op_modN fMod (sb (s_callT call_int1 cInt (fr_int kn) bt_int (b_cons (s_vb 2) b_nil))) (sb s_int)))
 (ss_cons (st_set 2 sc_ldraw.nd (s_op op_modN fMod (sb (s_callT call_int1 cInt (fr_int kn) bt_int (b_cons (sb (s_op op_addA fAdd (sb (s_op op_addA fAdd (sb (s_op op_mulW fMul (s_vb 2) (s_vb 2))) (sb (s_op op_mulW fMul (sb s_int) (s_vb 3))))) (sb s_int))) b_nil))) (sb s_int)))
 (ss_one (st_ret (s_op op_modN fMod (sb (s_op op_fdivZ fDiv (sb (s_op op_modN fMod (sb (s_callT call_int1 cInt (fr_int kn) bt_int (b_cons (sb (s_op op_mulW fMul (s_vb 2) (sb s_int))) b_nil))) (sb s_int))) (sb s_int))) (s_vb 1))))))))))
def n_with_roots : List Str := ["thing", "part", "number"]
theorem sc_with_roots : FnScope n_with_roots ps_with_roots (defScope (top 37)) := ⟨rfl, rfl, rfl, by decide +kernel, rfl, by decide +kernel, by decide +kernel⟩
def b_with_roots (r : DM) : SM :=
 (seqS (ifS (tst (callB (isiB S0 [0]) (consM (varB 0) (consM (cM (.glo "Exact")) nilM))))
 (retS (ifM (tst (op2 neD (fldM 0 2 (varM 0)) (cM (.int 0)))) (frzM (lstM (consM (varM 0) nilM))) (frzM (lstM nilM))))
 nilS)
 (retS (frzM (compM2 [1, 2] [2] (seqW (varM 0)) (setG 1) (seqW (callM r 1 1 (fun ds _ => ds) (consM (varM 1) nilM))) (setG 2) (varM 2)))))
def m_with_roots : Nat → DM
  | 0 => fun _ _ => .fail
  | n + 1 => fun ds st => fin (b_with_roots (m_with_roots n) (startD n_with_roots ds) st)
theorem ok_with_roots {P : Program} {w : World} {K : Frg} {mg : Str → Option Value} {base : Heap} {T : List (Addr × Str)} (kn : Kn K mg) (n : Nat) : ∃ fd, FD_with_roots K fd ∧ PosB K fd ps_with_roots ∧ FnSem P w K mg base (Sx T) (0 + n) (He.ga K "with_roots") fd ps_with_roots (m_with_roots n) := by
  obtain ⟨fd, D_with_roots⟩ := d_with_roots kn
  have B_with_roots := pb_with_roots D_with_roots
  refine ⟨fd, D_with_roots, B_with_roots, ?_⟩
  induction n with
  | zero => exact FnSem.none
  | succ n Fr =>
    refine FnSem.of (k := 0 + n) (sm := b_with_roots (m_with_roots n)) D_with_roots sc_with_roots fun cdv A outer s H E O hr hg => ?_
    exact (ss_cons (st_if (t_val (s_callB call_isiA (cIsiT (isF kn)) (fr_isinstance kn) bt_isinstance (b_cons (s_vb 0) (b_cons (sb (s_glo (g_Exact kn))) b_nil))))
 (ss_one (st_ret (s_if (t_cmp (op_neD (u64 hr)) fNe (sb (s_fld 0 2 (hc_Exact kn) (na_Exact_sign kn) rfl (s_v 0))) (sb s_int)) (s_frz (f_lst (a_cons (s_v 0) a_nil))) (s_frz (f_lst a_nil)))))
 ss_nil)
 (ss_one (st_ret (s_frz (f_comp2 [("part", 1), ("number", 2)] [2] (tgt_nm 1 (by decide)) (tgt_nm 2 (by decide)) sc_with_roots.nd (i_seq (s_v 0)) (blkOk_by (by kernel_rfl)) (by decide) (fun _ _ _ _ _ => (pg_name sc_with_roots.nd rfl (by first | exact Or.inl rfl | exact Or.inr rfl) (by first | exact .inl rfl | exact .inr rfl))) (fun _ _ _ _ _ => (i_seq (s_call Fr (hr.mono (by omega)) hg takes_blkD (g_with_roots kn) D_with_roots.kp (PosB.bnd B_with_roots) (a_cons (s_v 1) a_nil)))) (fun _ _ _ _ _ => (pg_name sc_with_roots.nd rfl (by first | exact Or.inl rfl | exact Or.inr rfl) (by first | exact .inl rfl | exact .inr rfl))) (fun _ _ _ _ _ => (s_v 2)))))))
def n_lowest : List Str := ["top", "bottom", "one", "other", "by"]
theorem sc_lowest : FnScope n_lowest ps_lowest (defScope (top 10)) := ⟨rfl, rfl, rfl, by decide +kernel, rfl, by decide +kernel, by decide +kernel⟩
def b_lowest : SM :=
 (seqS (parS 2 3 (consM (callB absB (consM (varB 0) nilM)) (consM (callB absB (consM (varB 1) nilM)) nilM)))
 (seqS (whileS (tst (op2 neD (varB 3) (cM (.int 0))))
 (parS 2 3 (consM (varM 3) (consM (op2 modD (varB 2) (varB 3)) nilM))))
 (seqS (setS 4 (ifM (tst (op2 gtD (varB 1) (cM (.int 0)))) (varM 2) (op2 subD (cM (.int 0)) (varB 2))))
 (retS (tupM (consM (op2 divD (varB 0) (varB 4)) (consM (op2 divD (varB 1) (varB 4)) nilM)))))))
def m_lowest : DM := fun ds st => fin (b_lowest (startD n_lowest ds) st)
theorem ok_lowest {P : Program} {w : World} {K : Frg} {mg : Str → Option Value} {base : Heap} {T : List (Addr × Str)} (kn : Kn K mg) : ∃ fd, FD_lowest K fd ∧ PosB K fd ps_lowest ∧ FnSem P w K mg base (Sx T) 1 (He.ga K "lowest") fd ps_lowest m_lowest := by
  obtain ⟨fd, D⟩ := d_lowest kn
  refine ⟨fd, D, pb_lowest D, FnSem.of (sm := b_lowest) D sc_lowest fun cdv A outer s H E O hr hg => ?_⟩
  exact (ss_cons (st_par sc_lowest.nd (a_cons (s_callB call_abs cAbs (fr_abs kn) bt_abs (b_cons (s_vb 0) b_nil)) (a_cons (s_callB call_abs cAbs (fr_abs kn) bt_abs (b_cons (s_vb 1) b_nil)) a_nil)))
 (ss_cons (st_while (passes_of rfl) (t_cmp (op_neD (u64 hr)) fNe (s_vb 3) (sb s_int))
 (ss_one (st_par sc_lowest.nd (a_cons (s_v 3) (a_cons (s_op op_modN fMod (s_vb 2) (s_vb 3)) a_nil)))))
 (ss_cons (st_set 4 sc_lowest.nd (s_if (t_cmp op_gt fGt (s_vb 1) (sb s_int)) (s_v 2) (s_op op_sub fSub (sb s_int) (s_vb 2))))
 (ss_one (st_ret (s_tup (a_cons (s_op op_fdivZ fDiv (s_vb 0) (s_vb 4)) (a_cons (s_op op_fdivZ fDiv (s_vb 1) (s_vb 4)) a_nil))))))))
def n_whole_root : List Str := ["number", "found", "lesser"]
theorem sc_whole_root : FnScope n_whole_root ps_whole_root (defScope (top 11)) := ⟨rfl, rfl, rfl, by decide +kernel, rfl, by decide +kernel, by decide +kernel⟩
def b_whole_root : SM :=
 (seqS (ifS (tst (op2 ltD (varB 0) (cM (.int 2))))
 (retS (varM 0))
 nilS)
 (seqS (setS 1 (op2 shlD (cM (.int 1)) (op2 divD (op2 addD (bitsM (varM 0)) (cM (.int 1))) (cM (.int 2)))))
 (seqS (setS 2 (op2 divD (op2 addD (varB 1) (op2 divD (varB 0) (varB 1))) (cM (.int 2))))
 (seqS (whileS (tst (op2 ltD (varB 2) (varB 1)))
 (seqS (setS 1 (varM 2))
 (setS 2 (op2 divD (op2 addD (varB 1) (op2 divD (varB 0) (varB 1))) (cM (.int 2))))))
 (retS (varM 1))))))
def m_whole_root : DM := fun ds st => fin (b_whole_root (startD n_whole_root ds) st)
theorem ok_whole_root {P : Program} {w : World} {K : Frg} {mg : Str → Option Value} {base : Heap} {T : List (Addr × Str)} (kn : Kn K mg) : ∃ fd, FD_whole_root K fd ∧ PosB K fd ps_whole_root ∧ FnSem P w K mg base (Sx T) 1 (He.ga K "whole_root") fd ps_whole_root m_whole_root := by
  obtain ⟨fd, D⟩ := d_whole_root kn
  refine ⟨fd, D, pb_whole_root D, FnSem.of (sm := b_whole_root) D sc_whole_root fun cdv A outer s H E O hr hg => ?_⟩
  exact (ss_cons (st_if (t_cmp op_lt fLt (s_vb 0) (sb s_int))
 (ss_one (st_ret (s_v 0)))
 ss_nil)
 (ss_cons (st_set 1 sc_whole_root.nd (s_op op_shlW fShl (sb s_int) (sb (s_op op_fdivZ fDiv (sb (s_op op_addA fAdd (sb (s_bits (s_v 0))) (sb s_int))) (sb s_int)))))
 (ss_cons (st_set 2 sc_whole_root.nd (s_op op_fdivZ fDiv (sb (s_op op_addA fAdd (s_vb 1) (sb (s_op op_fdivZ fDiv (s_vb 0) (s_vb 1))))) (sb s_int)))
 (ss_cons (st_while (passes_of rfl) (t_cmp op_lt fLt (s_vb 2) (s_vb 1))
 (ss_cons (st_set 1 sc_whole_root.nd (s_v 2))
 (ss_one (st_set 2 sc_whole_root.nd (s_op op_fdivZ fDiv (sb (s_op op_addA fAdd (s_vb 1) (sb (s_op op_fdivZ fDiv (s_vb 0) (s_vb 1))))) (sb s_int))))))
 (ss_one (st_ret (s_v 1)))))))
def n_root_of_exacts : List Str := ["top", "bottom", "one", "other"]
theorem sc_root_of_exacts : FnScope n_root_of_exacts ps_root_of_exacts (defScope (top 12)) := ⟨rfl, rfl, rfl, by decide +kernel, rfl, by decide +kernel, by decide +kernel⟩
def b_root_of_exacts : SM :=
 (seqS (parS 2 3 (consM (callM m_whole_root 1 1 (fun ds _ => ds) (consM (varM 0) nilM)) (consM (callM m_whole_root 1 1 (fun ds _ => ds) (consM (varM 1) nilM)) nilM)))
 (seqS (ifS (orM (tst (op2 neD (op2 mulD (varB 2) (varB 2)) (varB 0))) (tst (op2 neD (op2 mulD (varB 3) (varB 3)) (varB 1))))
 (retS (cM .non))
 nilS)
 (retS (tupM (consM (varM 2) (consM (varM 3) nilM))))))
def m_root_of_exacts : DM := fun ds st => fin (b_root_of_exacts (startD n_root_of_exacts ds) st)
theorem ok_root_of_exacts {P : Program} {w : World} {K : Frg} {mg : Str → Option Value} {base : Heap} {T : List (Addr × Str)} (kn : Kn K mg) : ∃ fd, FD_root_of_exacts K fd ∧ PosB K fd ps_root_of_exacts ∧ FnSem P w K mg base (Sx T) 2 (He.ga K "root_of_exacts") fd ps_root_of_exacts m_root_of_exacts := by
  obtain ⟨fd_whole_root, D_whole_root, B_whole_root, F_whole_root⟩ := ok_whole_root (P := P) (w := w) (base := base) (T := T) kn
  obtain ⟨fd, D⟩ := d_root_of_exacts kn
  refine ⟨fd, D, pb_root_of_exacts D, FnSem.of (sm := b_root_of_exacts) D sc_root_of_exacts fun cdv A outer s H E O hr hg => ?_⟩
  exact (ss_cons (st_par sc_root_of_exacts.nd (a_cons (s_call F_whole_root (hr.mono (by omega)) hg takes_def (g_whole_root kn) D_whole_root.kp (PosB.bnd B_whole_root) (a_cons (s_v 0) a_nil)) (a_cons (s_call F_whole_root (hr.mono (by omega)) hg takes_def (g_whole_root kn) D_whole_root.kp (PosB.bnd B_whole_root) (a_cons (s_v 1) a_nil)) a_nil)))
 (ss_cons (st_if (t_w (w_or (t_cmp (op_neD (u64 hr)) fNe (sb (s_op op_mulW fMul (s_vb 2) (s_vb 2))) (s_vb 0)) (w_or1 (t_cmp (op_neD (u64 hr)) fNe (sb (s_op op_mulW fMul (s_vb 3) (s_vb 3))) (s_vb 1)))))
 (ss_one (st_ret s_non))
 ss_nil)
 (ss_one (st_ret (s_tup (a_cons (s_v 2) (a_cons (s_v 3) a_nil)))))))
def n_shared_radix : List Str := ["one", "other", "many", "root"]
theorem sc_shared_radix : FnScope n_shared_radix ps_shared_radix (defScope (top 22)) := ⟨rfl, rfl, rfl, by decide +kernel, rfl, by decide +kernel, by decide +kernel⟩
def b_shared_radix : SM :=
 (seqS (ifS (tst (op2 eqD (fldM 0 2 (varM 0)) (cM (.int 0))))
 (retS (tupM (consM (tupM (consM (fldM 0 3 (varM 1)) (consM (fldM 0 4 (varM 1)) nilM))) (consM (tupM (consM (cM (.int 0)) (consM (cM (.int 1)) nilM))) (consM (tupM (consM (fldM 0 2 (varM 1)) (consM (cM (.int 1)) nilM))) nilM)))))
 nilS)
 (seqS (ifS (tst (op2 eqD (fldM 0 2 (varM 1)) (cM (.int 0))))
 (retS (tupM (consM (tupM (consM (fldM 0 3 (varM 0)) (consM (fldM 0 4 (varM 0)) nilM))) (consM (tupM (consM (fldM 0 2 (varM 0)) (consM (cM (.int 1)) nilM))) (consM (tupM (consM (cM (.int 0)) (consM (cM (.int 1)) nilM))) nilM)))))
 nilS)
 (seqS (setS 2 (callM m_lowest 2 2 (fun ds _ => ds) (consM (op2 mulD (fldM 0 3 (varM 1)) (fldM 0 4 (varM 0))) (consM (op2 mulD (fldM 0 4 (varM 1)) (fldM 0 3 (varM 0))) nilM))))
 (seqS (setS 3 (callM m_root_of_exacts 2 2 (fun ds _ => ds) (consM (op2 ixD (varB 2) (cM (.int 0))) (consM (op2 ixD (varB 2) (cM (.int 1))) nilM))))
 (seqS (ifS (tst (op2 isD_ (varB 3) (cM .non)))
 failS
 nilS)
 (retS (tupM (consM (tupM (consM (fldM 0 3 (varM 0)) (consM (fldM 0 4 (varM 0)) nilM))) (consM (tupM (consM (fldM 0 2 (varM 0)) (consM (cM (.int 1)) nilM))) (consM (tupM (consM (op2 mulD (fldM 0 2 (varM 1)) (op2 ixD (varB 3) (cM (.int 0)))) (consM (op2 ixD (varB 3) (cM (.int 1))) nilM))) nilM))))))))))
def m_shared_radix : DM := fun ds st => fin (b_shared_radix (startD n_shared_radix ds) st)
theorem ok_shared_radix {P : Program} {w : World} {K : Frg} {mg : Str → Option Value} {base : Heap} {T : List (Addr × Str)} (kn : Kn K mg) : ∃ fd, FD_shared_radix K fd ∧ PosB K fd ps_shared_radix ∧ FnSem P w K mg base (Sx T) 3 (He.ga K "shared_radix") fd ps_shared_radix m_shared_radix := by
  obtain ⟨fd_lowest, D_lowest, B_lowest, F_lowest⟩ := ok_lowest (P := P) (w := w) (base := base) (T := T) kn
  obtain ⟨fd_root_of_exacts, D_root_of_exacts, B_root_of_exacts, F_root_of_exacts⟩ := ok_root_of_exacts (P := P) (w := w) (base := base) (T := T) kn
  obtain ⟨fd, D⟩ := d_shared_radix kn
  refine ⟨fd, D, pb_shared_radix D, FnSem.of (sm := b_shared_radix) D sc_shared_radix fun cdv A outer s H E O hr hg => ?_⟩
  exact (ss_cons (st_if (t_cmp (op_eqD (u64 hr)) fEq (sb (s_fld 0 2 (hc_Exact kn) (na_Exact_sign kn) rfl (s_v 0))) (sb s_int))
 (ss_one (st_ret (s_tup (a_cons (s_tup (a_cons (s_fld 0 3 (hc_Exact kn) (na_Exact_over kn) rfl (s_v 1)) (a_cons (s_fld 0 4 (hc_Exact kn) (na_Exact_under kn) rfl (s_v 1)) a_nil))) (a_cons (s_tup (a_cons s_int (a_cons s_int a_nil))) (a_cons (s_tup (a_cons (s_fld 0 2 (hc_Exact kn) (na_Exact_sign kn) rfl (s_v 1)) (a_cons s_int a_nil))) a_nil))))))
 ss_nil)
 (ss_cons (st_if (t_cmp (op_eqD (u64 hr)) fEq (sb (s_fld 0 2 (hc_Exact kn) (na_Exact_sign kn) rfl (s_v 1))) (sb s_int))
 (ss_one (st_ret (s_tup (a_cons (s_tup (a_cons (s_fld 0 3 (hc_Exact kn) (na_Exact_over kn) rfl (s_v 0)) (a_cons (s_fld 0 4 (hc_Exact kn) (na_Exact_under kn) rfl (s_v 0)) a_nil))) (a_cons (s_tup (a_cons (s_fld 0 2 (hc_Exact kn) (na_Exact_sign kn) rfl (s_v 0)) (a_cons s_int a_nil))) (a_cons (s_tup (a_cons s_int (a_cons s_int a_nil))) a_nil))))))
 ss_nil)
 (ss_cons (st_set 2 sc_shared_radix.nd (s_call F_lowest (hr.mono (by omega)) hg takes_def (g_lowest kn) D_lowest.kp (PosB.bnd B_lowest) (a_cons (s_op op_mulW fMul (sb (s_fld 0 3 (hc_Exact kn) (na_Exact_over kn) rfl (s_v 1))) (sb (s_fld 0 4 (hc_Exact kn) (na_Exact_under kn) rfl (s_v 0)))) (a_cons (s_op op_mulW fMul (sb (s_fld 0 4 (hc_Exact kn) (na_Exact_under kn) rfl (s_v 1))) (sb (s_fld 0 3 (hc_Exact kn) (na_Exact_over kn) rfl (s_v 0)))) a_nil))))
 (ss_cons (st_set 3 sc_shared_radix.nd (s_call F_root_of_exacts (hr.mono (by omega)) hg takes_def (g_root_of_exacts kn) D_root_of_exacts.kp (PosB.bnd B_root_of_exacts) (a_cons (s_ix (s_vb 2) (sb s_int)) (a_cons (s_ix (s_vb 2) (sb s_int)) a_nil))))
 (ss_cons (st_if (t_cmp op_isN fIs (s_vb 3) (sb s_non))
 (ss_one st_never)
 ss_nil)
 (ss_one (st_ret (s_tup (a_cons (s_tup (a_cons (s_fld 0 3 (hc_Exact kn) (na_Exact_over kn) rfl (s_v 0)) (a_cons (s_fld 0 4 (hc_Exact kn) (na_Exact_under kn) rfl (s_v 0)) a_nil))) (a_cons (s_tup (a_cons (s_fld 0 2 (hc_Exact kn) (na_Exact_sign kn) rfl (s_v 0)) (a_cons s_int a_nil))) (a_cons (s_tup (a_cons (s_op op_mulW fMul (sb (s_fld 0 2 (hc_Exact kn) (na_Exact_sign kn) rfl (s_v 1))) (sb (s_ix (s_vb 3) (sb s_int)))) (a_cons (s_ix (s_vb 3) (sb s_int)) a_nil))) a_nil)))))))))))
def n_is_whole : List Str := ["thing"]
theorem sc_is_whole : FnScope n_is_whole ps_is_whole (defScope (top 9)) := ⟨rfl, rfl, rfl, by decide +kernel, rfl, by decide +kernel, by decide +kernel⟩
def b_is_whole : SM :=
 (retS (andV (callB (isiB S0 [0]) (consM (varB 0) (consM (cM (.ty "int")) nilM))) (notV (callB (isiB S0 [0]) (consM (varB 0) (consM (cM (.ty "bool")) nilM))))))
def m_is_whole : DM := fun ds st => fin (b_is_whole (startD n_is_whole ds) st)
theorem ok_is_whole {P : Program} {w : World} {K : Frg} {mg : Str → Option Value} {base : Heap} {T : List (Addr × Str)} (kn : Kn K mg) : ∃ fd, FD_is_whole K fd ∧ PosB K fd ps_is_whole ∧ FnSem P w K mg base (Sx T) 1 (He.ga K "is_whole") fd ps_is_whole m_is_whole := by
  obtain ⟨fd, D⟩ := d_is_whole kn
  refine ⟨fd, D, pb_is_whole D, FnSem.of (sm := b_is_whole) D sc_is_whole fun cdv A outer s H E O hr hg => ?_⟩
  exact (ss_one (st_ret (s_and (s_callB call_isiA (cIsiT (isF kn)) (fr_isinstance kn) bt_isinstance (b_cons (s_vb 0) (b_cons (sb (s_ty (fr_int kn) bt_int)) b_nil))) (s_one (s_not (s_callB call_isiA (cIsiT (isF kn)) (fr_isinstance kn) bt_isinstance (b_cons (s_vb 0) (b_cons (sb (s_ty (fr_bool kn) bt_bool)) b_nil))))))))
def n_are_right : List Str := ["top", "bottom", "sign", "over", "under", "one"]
theorem sc_are_right : FnScope n_are_right ps_are_right (defScope (top 17)) := ⟨rfl, rfl, rfl, by decide +kernel, rfl, by decide +kernel, by decide +kernel⟩
def b_are_right : SM :=
 (seqS (ifS (notM (tst (callB allB (consM (frzM (compM [5] (seqW (tupM (consM (varM 0) (consM (varM 1) (consM (varM 2) (consM (varM 3) (consM (varM 4) nilM))))))) (setG 5) (cM true) (callM m_is_whole 1 1 (fun ds _ => ds) (consM (varM 5) nilM)))) nilM))))
 (retS (cM (.bl false)))
 nilS)
 (retS (andV (op2 gtD (varB 1) (cM (.int 0))) (andV (op2 gtD (varB 4) (cM (.int 0))) (andV (op2 geD (varB 3) (cM (.int 0))) (chn leD leD (negM (cM (.int 1))) (varM 2) (cM (.int 1))))))))
def m_are_right : DM := fun ds st => fin (b_are_right (startD n_are_right ds) st)
theorem ok_are_right {P : Program} {w : World} {K : Frg} {mg : Str → Option Value} {base : Heap} {T : List (Addr × Str)} (kn : Kn K mg) : ∃ fd, FD_are_right K fd ∧ PosB K fd ps_are_right ∧ FnSem P w K mg base (Sx T) 2 (He.ga K "are_right") fd ps_are_right m_are_right := by
  obtain ⟨fd_is_whole, D_is_whole, B_is_whole, F_is_whole⟩ := ok_is_whole (P := P) (w := w) (base := base) (T := T) kn
  obtain ⟨fd, D⟩ := d_are_right kn
  refine ⟨fd, D, pb_are_right D, FnSem.of (sm := b_are_right) D sc_are_right fun cdv A outer s H E O hr hg => ?_⟩
  exact (ss_cons (st_if (t_not (t_val (s_callB (cr_all rfl) cAll (fr_all kn) bt_all (b_cons (sb (s_frz (f_comp [("one", 5)] (tgt_name 5) sc_are_right.nd (i_seq (s_tup (a_cons (s_v 0) (a_cons (s_v 1) (a_cons (s_v 2) (a_cons (s_v 3) (a_cons (s_v 4) a_nil))))))) (blkOk_by (by kernel_rfl)) (fun _ _ _ _ _ => pg_name sc_are_right.nd rfl (by first | exact Or.inl rfl | exact Or.inr rfl) (by first | exact .inl rfl | exact .inr rfl)) (fun _ _ _ _ _ => pt_nil) (fun _ _ _ _ _ => (s_call F_is_whole (hr.mono (by omega)) hg takes_blkD (g_is_whole kn) D_is_whole.kp (PosB.bnd B_is_whole) (a_cons (s_v 5) a_nil)))))) b_nil))))
 (ss_one (st_ret s_bl))
 ss_nil)
 (ss_one (st_ret (s_and (s_cmp op_gt fGt (s_vb 1) (sb s_int)) (s_and (s_cmp op_gt fGt (s_vb 4) (sb s_int)) (s_and (s_cmp op_ge fGe (s_vb 3) (sb s_int)) (s_one (s_chain op_le fLe op_le fLe (s_neg s_int) (s_v 2) s_int))))))))
def n_sum_of : List Str := ["one", "other"]
theorem sc_sum_of : FnScope n_sum_of ps_sum_of (defScope (top 15)) := ⟨rfl, rfl, rfl, by decide +kernel, rfl, by decide +kernel, by decide +kernel⟩
def b_sum_of : SM :=
 (retS (callM m_lowest 2 2 (fun ds _ => ds) (consM (op2 addD (op2 mulD (op2 ixD (varB 0) (cM (.int 0))) (op2 ixD (varB 1) (cM (.int 1)))) (op2 mulD (op2 ixD (varB 1) (cM (.int 0))) (op2 ixD (varB 0) (cM (.int 1))))) (consM (op2 mulD (op2 ixD (varB 0) (cM (.int 1))) (op2 ixD (varB 1) (cM (.int 1)))) nilM))))
def m_sum_of : DM := fun ds st => fin (b_sum_of (startD n_sum_of ds) st)
theorem ok_sum_of {P : Program} {w : World} {K : Frg} {mg : Str → Option Value} {base : Heap} {T : List (Addr × Str)} (kn : Kn K mg) : ∃ fd, FD_sum_of K fd ∧ PosB K fd ps_sum_of ∧ FnSem P w K mg base (Sx T) 2 (He.ga K "sum_of") fd ps_sum_of m_sum_of := by
  obtain ⟨fd_lowest, D_lowest, B_lowest, F_lowest⟩ := ok_lowest (P := P) (w := w) (base := base) (T := T) kn
  obtain ⟨fd, D⟩ := d_sum_of kn
  refine ⟨fd, D, pb_sum_of D, FnSem.of (sm := b_sum_of) D sc_sum_of fun cdv A outer s H E O hr hg => ?_⟩
  exact (ss_one (st_ret (s_call F_lowest (hr.mono (by omega)) hg takes_def (g_lowest kn) D_lowest.kp (PosB.bnd B_lowest) (a_cons (s_op op_addA fAdd (sb (s_op op_mulW fMul (sb (s_ix (s_vb 0) (sb s_int))) (sb (s_ix (s_vb 1) (sb s_int))))) (sb (s_op op_mulW fMul (sb (s_ix (s_vb 1) (sb s_int))) (sb (s_ix (s_vb 0) (sb s_int)))))) (a_cons (s_op op_mulW fMul (sb (s_ix (s_vb 0) (sb s_int))) (sb (s_ix (s_vb 1) (sb s_int)))) a_nil)))))
def n_Exact_initD : List Str := ["self", "top", "bottom", "sign", "over", "under", "part", "radix", "root"]
theorem sc_Exact_initD : FnScope n_Exact_initD ps_Exact_initD (defScope (inClass (top 18) 0)) := ⟨rfl, rfl, rfl, by decide +kernel, rfl, by decide +kernel, by decide +kernel⟩
def b_Exact_initD : SM :=
 (seqS (ifS (notM (tst (callM m_are_right 5 5 (fun ds _ => ds) (consM (varM 1) (consM (varM 2) (consM (varM 3) (consM (varM 4) (consM (varM 5) nilM))))))))
 failS
 nilS)
 (seqS (parS 6 7 (consM (tupM (consM (varM 1) (consM (varM 2) nilM))) (consM (callM m_lowest 2 2 (fun ds _ => ds) (consM (varM 4) (consM (varM 5) nilM))) nilM)))
 (seqS (setS 8 (callM m_root_of_exacts 2 2 (fun ds _ => ds) (consM (op2 ixD (varB 7) (cM (.int 0))) (consM (op2 ixD (varB 7) (cM (.int 1))) nilM))))
 (seqS (ifS (tst (op2 isNotD (varB 8) (cM .non)))
 (setS 6 (callM m_sum_of 2 2 (fun ds _ => ds) (consM (varM 6) (consM (tupM (consM (op2 mulD (varB 3) (op2 ixD (varB 8) (cM (.int 0)))) (consM (op2 ixD (varB 8) (cM (.int 1))) nilM))) nilM))))
 nilS)
 (seqS (ifS (orM (tst (op2 isNotD (varB 8) (cM .non))) (tst (op2 eqD (varB 3) (cM (.int 0)))))
 (asgS (tupM (consM (cM (.int 0)) (consM (tupM (consM (cM (.int 0)) (consM (cM (.int 1)) nilM))) nilM))) (tupG 2 (consG (setG 3) (consG (setG 7) nilG))))
 nilS)
 (seqS (asgS (callM m_lowest 2 2 (fun ds _ => ds) (consM (op2 ixD (varB 6) (cM (.int 0))) (consM (op2 ixD (varB 6) (cM (.int 1))) nilM))) (tupG 2 (consG (putObj 0 0 "top") (consG (putObj 0 0 "bottom") nilG))))
 (seqS (fldS 0 0 "sign" (varM 3))
 (asgS (varM 7) (tupG 2 (consG (putObj 0 0 "over") (consG (putObj 0 0 "under") nilG)))))))))))
def m_Exact_initD : List D → Store → Res (List D) := fun ds st => finI S0 0 (b_Exact_initD (Sl.obj 0 [] :: (ds.map Sl.val ++ List.replicate (n_Exact_initD.length - (ds.length + 1)) Sl.un)) st)
theorem ok_Exact_initD {P : Program} {w : World} {K : Frg} {mg : Str → Option Value} {base : Heap} {T : List (Addr × Str)} (kn : Kn K mg) : ∃ fd, FD_Exact_initD K fd ∧ FnSemI P w K mg base (Sx T) 3 0 (He.ma K (He.ga K "Exact") "__init__") fd ps_Exact_initD m_Exact_initD := by
  obtain ⟨fd_are_right, D_are_right, B_are_right, F_are_right⟩ := ok_are_right (P := P) (w := w) (base := base) (T := T) kn
  obtain ⟨fd_lowest, D_lowest, B_lowest, F_lowest⟩ := ok_lowest (P := P) (w := w) (base := base) (T := T) kn
  obtain ⟨fd_root_of_exacts, D_root_of_exacts, B_root_of_exacts, F_root_of_exacts⟩ := ok_root_of_exacts (P := P) (w := w) (base := base) (T := T) kn
  obtain ⟨fd_sum_of, D_sum_of, B_sum_of, F_sum_of⟩ := ok_sum_of (P := P) (w := w) (base := base) (T := T) kn
  obtain ⟨fd, D⟩ := d_Exact_initD kn
  refine ⟨fd, D, FnSemI.of (c := 0) (sm := b_Exact_initD) D sc_Exact_initD fun cdv A outer s H E O hr hg => ?_⟩
  exact (ss_cons (st_if (t_not (t_val (s_call F_are_right (hr.mono (by omega)) hg takes_def (g_are_right kn) D_are_right.kp (PosB.bnd B_are_right) (a_cons (s_v 1) (a_cons (s_v 2) (a_cons (s_v 3) (a_cons (s_v 4) (a_cons (s_v 5) a_nil))))))))
 (ss_one st_never)
 ss_nil)
 (ss_cons (st_par sc_Exact_initD.nd (a_cons (s_tup (a_cons (s_v 1) (a_cons (s_v 2) a_nil))) (a_cons (s_call F_lowest (hr.mono (by omega)) hg takes_def (g_lowest kn) D_lowest.kp (PosB.bnd B_lowest) (a_cons (s_v 4) (a_cons (s_v 5) a_nil))) a_nil)))
 (ss_cons (st_set 8 sc_Exact_initD.nd (s_call F_root_of_exacts (hr.mono (by omega)) hg takes_def (g_root_of_exacts kn) D_root_of_exacts.kp (PosB.bnd B_root_of_exacts) (a_cons (s_ix (s_vb 7) (sb s_int)) (a_cons (s_ix (s_vb 7) (sb s_int)) a_nil))))
 (ss_cons (st_if (t_cmp op_notN fIsNot (s_vb 8) (sb s_non))
 (ss_one (st_set 6 sc_Exact_initD.nd (s_call F_sum_of (hr.mono (by omega)) hg takes_def (g_sum_of kn) D_sum_of.kp (PosB.bnd B_sum_of) (a_cons (s_v 6) (a_cons (s_tup (a_cons (s_op op_mulW fMul (s_vb 3) (sb (s_ix (s_vb 8) (sb s_int)))) (a_cons (s_ix (s_vb 8) (sb s_int)) a_nil))) a_nil)))))
 ss_nil)
 (ss_cons (st_if (t_w (w_or (t_cmp op_notN fIsNot (s_vb 8) (sb s_non)) (w_or1 (t_cmp (op_eqD (u64 hr)) fEq (s_vb 3) (sb s_int)))))
 (ss_one (st_asg (s_tup (a_cons s_int (a_cons (s_tup (a_cons s_int (a_cons s_int a_nil))) a_nil))) (g_tup (gs_cons (ml_name 3 sc_Exact_initD.nd) (mild_set 3) (gs_cons (ml_name 7 sc_Exact_initD.nd) (mild_set 7) gs_nil)))))
 ss_nil)
 (ss_cons (st_asg (s_call F_lowest (hr.mono (by omega)) hg takes_def (g_lowest kn) D_lowest.kp (PosB.bnd B_lowest) (a_cons (s_ix (s_vb 6) (sb s_int)) (a_cons (s_ix (s_vb 6) (sb s_int)) a_nil))) (g_tup (gs_cons (ml_fld 0 0 (hc_Exact kn) (na_Exact_top kn)) (mild_fld 0 0 "top") (gs_cons (ml_fld 0 0 (hc_Exact kn) (na_Exact_bottom kn)) (mild_fld 0 0 "bottom") gs_nil))))
 (ss_cons (st_fld 0 0 (hc_Exact kn) (na_Exact_sign kn) (s_v 3))
 (ss_one (st_asg (s_v 7) (g_tup (gs_cons (ml_fld 0 0 (hc_Exact kn) (na_Exact_over kn)) (mild_fld 0 0 "over") (gs_cons (ml_fld 0 0 (hc_Exact kn) (na_Exact_under kn)) (mild_fld 0 0 "under") gs_nil))))))))))))
def n_sign_in : List Str := ["number"]
theorem sc_sign_in : FnScope n_sign_in ps_sign_in (defScope (top 14)) := ⟨rfl, rfl, rfl, by decide +kernel, rfl, by decide +kernel, by decide +kernel⟩
def b_sign_in : SM :=
 (seqS (ifS (tst (op2 eqD (varB 0) (cM (.int 0))))
 (retS (cM (.int 0)))
 nilS)
 (retS (ifM (tst (op2 gtD (varB 0) (cM (.int 0)))) (cM (.int 1)) (negM (cM (.int 1))))))
def m_sign_in : DM := fun ds st => fin (b_sign_in (startD n_sign_in ds) st)
theorem ok_sign_in {P : Program} {w : World} {K : Frg} {mg : Str → Option Value} {base : Heap} {T : List (Addr × Str)} (kn : Kn K mg) : ∃ fd, FD_sign_in K fd ∧ PosB K fd ps_sign_in ∧ FnSem P w K mg base (Sx T) 1 (He.ga K "sign_in") fd ps_sign_in m_sign_in := by
  obtain ⟨fd, D⟩ := d_sign_in kn
  refine ⟨fd, D, pb_sign_in D, FnSem.of (sm := b_sign_in) D sc_sign_in fun cdv A outer s H E O hr hg => ?_⟩
  exact (ss_cons (st_if (t_cmp (op_eqD (u64 hr)) fEq (s_vb 0) (sb s_int))
 (ss_one (st_ret s_int))
 ss_nil)
 (ss_one (st_ret (s_if (t_cmp op_gt fGt (s_vb 0) (sb s_int)) s_int (s_neg s_int)))))
def n_made_of : List Str := ["part", "many", "radix", "over", "under"]
theorem sc_made_of : FnScope n_made_of ps_made_of (defScope (top 23)) := ⟨rfl, rfl, rfl, by decide +kernel, rfl, by decide +kernel, by decide +kernel⟩
def b_made_of : SM :=
 (seqS (parS 3 4 (consM (op2 mulD (op2 mulD (op2 ixD (varB 1) (cM (.int 0))) (op2 ixD (varB 1) (cM (.int 0)))) (op2 ixD (varB 2) (cM (.int 0)))) (consM (op2 mulD (op2 mulD (op2 ixD (varB 1) (cM (.int 1))) (op2 ixD (varB 1) (cM (.int 1)))) (op2 ixD (varB 2) (cM (.int 1)))) nilM)))
 (retS (makeKM 0 m_Exact_initD 2 3 (fun ds es => ds ++ es) (consM (op2 ixD (varB 0) (cM (.int 0))) (consM (op2 ixD (varB 0) (cM (.int 1))) nilM)) (consM (callM m_sign_in 1 1 (fun ds _ => ds) (consM (op2 ixD (varB 1) (cM (.int 0))) nilM)) (consM (varM 3) (consM (varM 4) nilM))))))
def m_made_of : DM := fun ds st => fin (b_made_of (startD n_made_of ds) st)
theorem ok_made_of {P : Program} {w : World} {K : Frg} {mg : Str → Option Value} {base : Heap} {T : List (Addr × Str)} (kn : Kn K mg) : ∃ fd, FD_made_of K fd ∧ PosB K fd ps_made_of ∧ FnSem P w K mg base (Sx T) 5 (He.ga K "made_of") fd ps_made_of m_made_of := by
  obtain ⟨fd_Exact_initD, D_Exact_initD, F_Exact_initD⟩ := ok_Exact_initD (P := P) (w := w) (base := base) (T := T) kn
  obtain ⟨fd_sign_in, D_sign_in, B_sign_in, F_sign_in⟩ := ok_sign_in (P := P) (w := w) (base := base) (T := T) kn
  obtain ⟨fd, D⟩ := d_made_of kn
  refine ⟨fd, D, pb_made_of D, FnSem.of (sm := b_made_of) D sc_made_of fun cdv A outer s H E O hr hg => ?_⟩
  exact (ss_cons (st_par sc_made_of.nd (a_cons (s_op op_mulW fMul (sb (s_op op_mulW fMul (sb (s_ix (s_vb 1) (sb s_int))) (sb (s_ix (s_vb 1) (sb s_int))))) (sb (s_ix (s_vb 2) (sb s_int)))) (a_cons (s_op op_mulW fMul (sb (s_op op_mulW fMul (sb (s_ix (s_vb 1) (sb s_int))) (sb (s_ix (s_vb 1) (sb s_int))))) (sb (s_ix (s_vb 2) (sb s_int)))) a_nil)))
 (ss_one (st_ret (s_makeK 0 takes_def F_Exact_initD (mk_Exact kn) (hr.mono (by omega)) hg (g_Exact kn) (bi_Exact_2_sign_over_under D_Exact_initD) (a_cons (s_ix (s_vb 0) (sb s_int)) (a_cons (s_ix (s_vb 0) (sb s_int)) a_nil)) (k_cons (s_call F_sign_in (hr.mono (by omega)) hg takes_def (g_sign_in kn) D_sign_in.kp (PosB.bnd B_sign_in) (a_cons (s_ix (s_vb 1) (sb s_int)) a_nil)) (k_cons (s_v 3) (k_cons (s_v 4) k_nil)))))))
def n_quotient : List Str := ["number"]
theorem sc_quotient : FnScope n_quotient ps_quotient (defScope (top 20)) := ⟨rfl, rfl, rfl, by decide +kernel, rfl, by decide +kernel, by decide +kernel⟩
def b_quotient : SM :=
 (retS (tupM (consM (fldM 0 0 (varM 0)) (consM (fldM 0 1 (varM 0)) nilM))))
def m_quotient : DM := fun ds st => fin (b_quotient (startD n_quotient ds) st)
theorem ok_quotient {P : Program} {w : World} {K : Frg} {mg : Str → Option Value} {base : Heap} {T : List (Addr × Str)} (kn : Kn K mg) : ∃ fd, FD_quotient K fd ∧ PosB K fd ps_quotient ∧ FnSem P w K mg base (Sx T) 1 (He.ga K "quotient") fd ps_quotient m_quotient := by
  obtain ⟨fd, D⟩ := d_quotient kn
  refine ⟨fd, D, pb_quotient D, FnSem.of (sm := b_quotient) D sc_quotient fun cdv A outer s H E O hr hg => ?_⟩
  exact (ss_one (st_ret (s_tup (a_cons (s_fld 0 0 (hc_Exact kn) (na_Exact_top kn) rfl (s_v 0)) (a_cons (s_fld 0 1 (hc_Exact kn) (na_Exact_bottom kn) rfl (s_v 0)) a_nil)))))
def n_Exact_plus : List Str := ["self", "other", "radix", "mine", "theirs"]
theorem sc_Exact_plus : FnScope n_Exact_plus ps_Exact_plus (defScope (inClass (top 18) 4)) := ⟨rfl, rfl, rfl, by decide +kernel, rfl, by decide +kernel, by decide +kernel⟩
def b_Exact_plus : SM :=
 (seqS (asgS (callM m_shared_radix 2 2 (fun ds _ => ds) (consM (varM 0) (consM (varM 1) nilM))) (tupG 3 (consG (setG 2) (consG (setG 3) (consG (setG 4) nilG)))))
 (retS (callM m_made_of 3 3 (fun ds _ => ds) (consM (callM m_sum_of 2 2 (fun ds _ => ds) (consM (callM m_quotient 1 1 (fun ds _ => ds) (consM (varM 0) nilM)) (consM (callM m_quotient 1 1 (fun ds _ => ds) (consM (varM 1) nilM)) nilM))) (consM (callM m_sum_of 2 2 (fun ds _ => ds) (consM (varM 3) (consM (varM 4) nilM))) (consM (varM 2) nilM))))))
def m_Exact_plus : DM := fun ds st => fin (b_Exact_plus (startD n_Exact_plus ds) st)
theorem ok_Exact_plus {P : Program} {w : World} {K : Frg} {mg : Str → Option Value} {base : Heap} {T : List (Addr × Str)} (kn : Kn K mg) : ∃ fd, FD_Exact_plus K fd ∧ PosB K fd ps_Exact_plus ∧ FnSem P w K mg base (Sx T) 6 (He.ma K (He.ga K "Exact") "plus") fd ps_Exact_plus m_Exact_plus := by
  obtain ⟨fd_shared_radix, D_shared_radix, B_shared_radix, F_shared_radix⟩ := ok_shared_radix (P := P) (w := w) (base := base) (T := T) kn
  obtain ⟨fd_made_of, D_made_of, B_made_of, F_made_of⟩ := ok_made_of (P := P) (w := w) (base := base) (T := T) kn
  obtain ⟨fd_sum_of, D_sum_of, B_sum_of, F_sum_of⟩ := ok_sum_of (P := P) (w := w) (base := base) (T := T) kn
  obtain ⟨fd_quotient, D_quotient, B_quotient, F_quotient⟩ := ok_quotient (P := P) (w := w) (base := base) (T := T) kn
  obtain ⟨fd, D⟩ := d_Exact_plus kn
  refine ⟨fd, D, pb_Exact_plus D, FnSem.of (sm := b_Exact_plus) D sc_Exact_plus fun cdv A outer s H E O hr hg => ?_⟩
  exact (ss_cons (st_asg (s_call F_shared_radix (hr.mono (by omega)) hg takes_def (g_shared_radix kn) D_shared_radix.kp (PosB.bnd B_shared_radix) (a_cons (s_v 0) (a_cons (s_v 1) a_nil))) (g_tup (gs_cons (ml_name 2 sc_Exact_plus.nd) (mild_set 2) (gs_cons (ml_name 3 sc_Exact_plus.nd) (mild_set 3) (gs_cons (ml_name 4 sc_Exact_plus.nd) (mild_set 4) gs_nil)))))
 (ss_one (st_ret (s_call F_made_of (hr.mono (by omega)) hg takes_def (g_made_of kn) D_made_of.kp (PosB.bnd B_made_of) (a_cons (s_call F_sum_of (hr.mono (by omega)) hg takes_def (g_sum_of kn) D_sum_of.kp (PosB.bnd B_sum_of) (a_cons (s_call F_quotient (hr.mono (by omega)) hg takes_def (g_quotient kn) D_quotient.kp (PosB.bnd B_quotient) (a_cons (s_v 0) a_nil)) (a_cons (s_call F_quotient (hr.mono (by omega)) hg takes_def (g_quotient kn) D_quotient.kp (PosB.bnd B_quotient) (a_cons (s_v 1) a_nil)) a_nil))) (a_cons (s_call F_sum_of (hr.mono (by omega)) hg takes_def (g_sum_of kn) D_sum_of.kp (PosB.bnd B_sum_of) (a_cons (s_v 3) (a_cons (s_v 4) a_nil))) (a_cons (s_v 2) a_nil)))))))
def n_must_agree : List Str := ["things", "first", "others", "number"]
theorem sc_must_agree : FnScope n_must_agree ps_must_agree (defScope (top 38)) := ⟨rfl, rfl, rfl, by decide +kernel, rfl, by decide +kernel, by decide +kernel⟩
def b_must_agree : SM :=
 (seqS (asgS (frzM (catM (callM (m_with_roots 8) 1 1 (fun ds _ => ds) (consM (varM 0) nilM)) (frzM (lstM (consM (makeM 0 m_Exact_initD 1 (fun ds _ => ds ++ [.int 1, .int 0, .int 0, .int 1]) (consM (cM (.int 0)) nilM)) nilM))))) (starG 1 (consG (setG 1) (consG (setG 2) nilG))))
 (forS (seqW (varM 2)) (setG 3)
 (dropS (methM 0 m_Exact_plus 2 (varM 1) (consM (varM 3) nilM)))))
def m_must_agree : DM := fun ds st => fin (b_must_agree (startD n_must_agree ds) st)
theorem ok_must_agree {P : Program} {w : World} {K : Frg} {mg : Str → Option Value} {base : Heap} {T : List (Addr × Str)} (kn : Kn K mg) : ∃ fd, FD_must_agree K fd ∧ PosB K fd ps_must_agree ∧ FnSem P w K mg base (Sx T) 9 (He.ga K "must_agree") fd ps_must_agree m_must_agree := by
  obtain ⟨fd_with_roots, D_with_roots, B_with_roots, F_with_roots⟩ := ok_with_roots (P := P) (w := w) (base := base) (T := T) kn 8
  obtain ⟨fd_Exact_initD, D_Exact_initD, F_Exact_initD⟩ := ok_Exact_initD (P := P) (w := w) (base := base) (T := T) kn
  obtain ⟨fd_Exact_plus, D_Exact_plus, B_Exact_plus, F_Exact_plus⟩ := ok_Exact_plus (P := P) (w := w) (base := base) (T := T) kn
  obtain ⟨fd, D⟩ := d_must_agree kn
  refine ⟨fd, D, pb_must_agree D, FnSem.of (sm := b_must_agree) D sc_must_agree fun cdv A outer s H E O hr hg => ?_⟩
  exact (ss_cons (st_asg (s_frz (f_cat (s_call F_with_roots (hr.mono (by omega)) hg takes_def (g_with_roots kn) D_with_roots.kp (PosB.bnd B_with_roots) (a_cons (s_v 0) a_nil)) (s_frz (f_lst (a_cons (s_make 0 takes_def F_Exact_initD (mk_Exact kn) (hr.mono (by omega)) hg (g_Exact kn) (bi_Exact_1 D_Exact_initD) (a_cons s_int a_nil)) a_nil))))) (g_star (gs_cons (ml_name 1 sc_must_agree.nd) (mild_set 1) (gs_cons (ml_name 2 sc_must_agree.nd) (mild_set 2) gs_nil))))
 (ss_one (st_for (passes_of rfl) (i_seq (s_v 2)) (fun O => (g_name 3 sc_must_agree.nd))
 (fun O => (ss_one (st_expr (s_meth 0 takes_def F_Exact_plus (hr.mono (by omega)) hg (hc_Exact kn) (me_Exact_plus kn) (by have h : ("plus" : Str) ∉ cf 0 := (by decide +kernel); exact h) B_Exact_plus (s_v 1) (a_cons (s_v 3) a_nil))))))))
def n_opposite : List Str := ["number"]
theorem sc_opposite : FnScope n_opposite ps_opposite (defScope (top 21)) := ⟨rfl, rfl, rfl, by decide +kernel, rfl, by decide +kernel, by decide +kernel⟩
def b_opposite : SM :=
 (retS (makeKM 0 m_Exact_initD 2 3 (fun ds es => ds ++ es) (consM (op2 subD (cM (.int 0)) (fldM 0 0 (varM 0))) (consM (fldM 0 1 (varM 0)) nilM)) (consM (op2 subD (cM (.int 0)) (fldM 0 2 (varM 0))) (consM (fldM 0 3 (varM 0)) (consM (fldM 0 4 (varM 0)) nilM)))))
def m_opposite : DM := fun ds st => fin (b_opposite (startD n_opposite ds) st)
theorem ok_opposite {P : Program} {w : World} {K : Frg} {mg : Str → Option Value} {base : Heap} {T : List (Addr × Str)} (kn : Kn K mg) : ∃ fd, FD_opposite K fd ∧ PosB K fd ps_opposite ∧ FnSem P w K mg base (Sx T) 5 (He.ga K "opposite") fd ps_opposite m_opposite := by
  obtain ⟨fd_Exact_initD, D_Exact_initD, F_Exact_initD⟩ := ok_Exact_initD (P := P) (w := w) (base := base) (T := T) kn
  obtain ⟨fd, D⟩ := d_opposite kn
  refine ⟨fd, D, pb_opposite D, FnSem.of (sm := b_opposite) D sc_opposite fun cdv A outer s H E O hr hg => ?_⟩
  exact (ss_one (st_ret (s_makeK 0 takes_def F_Exact_initD (mk_Exact kn) (hr.mono (by omega)) hg (g_Exact kn) (bi_Exact_2_sign_over_under D_Exact_initD) (a_cons (s_op op_sub fSub (sb s_int) (sb (s_fld 0 0 (hc_Exact kn) (na_Exact_top kn) rfl (s_v 0)))) (a_cons (s_fld 0 1 (hc_Exact kn) (na_Exact_bottom kn) rfl (s_v 0)) a_nil)) (k_cons (s_op op_sub fSub (sb s_int) (sb (s_fld 0 2 (hc_Exact kn) (na_Exact_sign kn) rfl (s_v 0)))) (k_cons (s_fld 0 3 (hc_Exact kn) (na_Exact_over kn) rfl (s_v 0)) (k_cons (s_fld 0 4 (hc_Exact kn) (na_Exact_under kn) rfl (s_v 0)) k_nil))))))
def n_Exact_minus : List Str := ["self", "other"]
theorem sc_Exact_minus : FnScope n_Exact_minus ps_Exact_minus (defScope (inClass (top 18) 5)) := ⟨rfl, rfl, rfl, by decide +kernel, rfl, by decide +kernel, by decide +kernel⟩
def b_Exact_minus : SM :=
 (retS (methM 0 m_Exact_plus 2 (varM 0) (consM (callM m_opposite 1 1 (fun ds _ => ds) (consM (varM 1) nilM)) nilM)))
def m_Exact_minus : DM := fun ds st => fin (b_Exact_minus (startD n_Exact_minus ds) st)
theorem ok_Exact_minus {P : Program} {w : World} {K : Frg} {mg : Str → Option Value} {base : Heap} {T : List (Addr × Str)} (kn : Kn K mg) : ∃ fd, FD_Exact_minus K fd ∧ PosB K fd ps_Exact_minus ∧ FnSem P w K mg base (Sx T) 7 (He.ma K (He.ga K "Exact") "minus") fd ps_Exact_minus m_Exact_minus := by
  obtain ⟨fd_Exact_plus, D_Exact_plus, B_Exact_plus, F_Exact_plus⟩ := ok_Exact_plus (P := P) (w := w) (base := base) (T := T) kn
  obtain ⟨fd_opposite, D_opposite, B_opposite, F_opposite⟩ := ok_opposite (P := P) (w := w) (base := base) (T := T) kn
  obtain ⟨fd, D⟩ := d_Exact_minus kn
  refine ⟨fd, D, pb_Exact_minus D, FnSem.of (sm := b_Exact_minus) D sc_Exact_minus fun cdv A outer s H E O hr hg => ?_⟩
  exact (ss_one (st_ret (s_meth 0 takes_def F_Exact_plus (hr.mono (by omega)) hg (hc_Exact kn) (me_Exact_plus kn) (by have h : ("plus" : Str) ∉ cf 0 := (by decide +kernel); exact h) B_Exact_plus (s_v 0) (a_cons (s_call F_opposite (hr.mono (by omega)) hg takes_def (g_opposite kn) D_opposite.kp (PosB.bnd B_opposite) (a_cons (s_v 1) a_nil)) a_nil))))
def n_product_of : List Str := ["one", "other"]
theorem sc_product_of : FnScope n_product_of ps_product_of (defScope (top 16)) := ⟨rfl, rfl, rfl, by decide +kernel, rfl, by decide +kernel, by decide +kernel⟩
def b_product_of : SM :=
 (retS (callM m_lowest 2 2 (fun ds _ => ds) (consM (op2 mulD (op2 ixD (varB 0) (cM (.int 0))) (op2 ixD (varB 1) (cM (.int 0)))) (consM (op2 mulD (op2 ixD (varB 0) (cM (.int 1))) (op2 ixD (varB 1) (cM (.int 1)))) nilM))))
def m_product_of : DM := fun ds st => fin (b_product_of (startD n_product_of ds) st)
theorem ok_product_of {P : Program} {w : World} {K : Frg} {mg : Str → Option Value} {base : Heap} {T : List (Addr × Str)} (kn : Kn K mg) : ∃ fd, FD_product_of K fd ∧ PosB K fd ps_product_of ∧ FnSem P w K mg base (Sx T) 2 (He.ga K "product_of") fd ps_product_of m_product_of := by
  obtain ⟨fd_lowest, D_lowest, B_lowest, F_lowest⟩ := ok_lowest (P := P) (w := w) (base := base) (T := T) kn
  obtain ⟨fd, D⟩ := d_product_of kn
  refine ⟨fd, D, pb_product_of D, FnSem.of (sm := b_product_of) D sc_product_of fun cdv A outer s H E O hr hg => ?_⟩
  exact (ss_one (st_ret (s_call F_lowest (hr.mono (by omega)) hg takes_def (g_lowest kn) D_lowest.kp (PosB.bnd B_lowest) (a_cons (s_op op_mulW fMul (sb (s_ix (s_vb 0) (sb s_int))) (sb (s_ix (s_vb 1) (sb s_int)))) (a_cons (s_op op_mulW fMul (sb (s_ix (s_vb 0) (sb s_int))) (sb (s_ix (s_vb 1) (sb s_int)))) a_nil)))))
def n_Exact_times : List Str := ["self", "other", "radix", "mine", "theirs", "one", "two", "part"]
theorem sc_Exact_times : FnScope n_Exact_times ps_Exact_times (defScope (inClass (top 18) 6)) := ⟨rfl, rfl, rfl, by decide +kernel, rfl, by decide +kernel, by decide +kernel⟩
def b_Exact_times : SM :=
 (seqS (asgS (callM m_shared_radix 2 2 (fun ds _ => ds) (consM (varM 0) (consM (varM 1) nilM))) (tupG 3 (consG (setG 2) (consG (setG 3) (consG (setG 4) nilG)))))
 (seqS (parS 5 6 (consM (callM m_quotient 1 1 (fun ds _ => ds) (consM (varM 0) nilM)) (consM (callM m_quotient 1 1 (fun ds _ => ds) (consM (varM 1) nilM)) nilM)))
 (seqS (setS 7 (callM m_sum_of 2 2 (fun ds _ => ds) (consM (callM m_product_of 2 2 (fun ds _ => ds) (consM (varM 5) (consM (varM 6) nilM))) (consM (callM m_product_of 2 2 (fun ds _ => ds) (consM (callM m_product_of 2 2 (fun ds _ => ds) (consM (varM 3) (consM (varM 4) nilM))) (consM (varM 2) nilM))) nilM))))
 (retS (callM m_made_of 3 3 (fun ds _ => ds) (consM (varM 7) (consM (callM m_sum_of 2 2 (fun ds _ => ds) (consM (callM m_product_of 2 2 (fun ds _ => ds) (consM (varM 5) (consM (varM 4) nilM))) (consM (callM m_product_of 2 2 (fun ds _ => ds) (consM (varM 6) (consM (varM 3) nilM))) nilM))) (consM (varM 2) nilM))))))))
def m_Exact_times : DM := fun ds st => fin (b_Exact_times (startD n_Exact_times ds) st)
theorem ok_Exact_times {P : Program} {w : World} {K : Frg} {mg : Str → Option Value} {base : Heap} {T : List (Addr × Str)} (kn : Kn K mg) : ∃ fd, FD_Exact_times K fd ∧ PosB K fd ps_Exact_times ∧ FnSem P w K mg base (Sx T) 6 (He.ma K (He.ga K "Exact") "times") fd ps_Exact_times m_Exact_times := by
  obtain ⟨fd_shared_radix, D_shared_radix, B_shared_radix, F_shared_radix⟩ := ok_shared_radix (P := P) (w := w) (base := base) (T := T) kn
  obtain ⟨fd_quotient, D_quotient, B_quotient, F_quotient⟩ := ok_quotient (P := P) (w := w) (base := base) (T := T) kn
  obtain ⟨fd_sum_of, D_sum_of, B_sum_of, F_sum_of⟩ := ok_sum_of (P := P) (w := w) (base := base) (T := T) kn
  obtain ⟨fd_product_of, D_product_of, B_product_of, F_product_of⟩ := ok_product_of (P := P) (w := w) (base := base) (T := T) kn
  obtain ⟨fd_made_of, D_made_of, B_made_of, F_made_of⟩ := ok_made_of (P := P) (w := w) (base := base) (T := T) kn
  obtain ⟨fd, D⟩ := d_Exact_times kn
  refine ⟨fd, D, pb_Exact_times D, FnSem.of (sm := b_Exact_times) D sc_Exact_times fun cdv A outer s H E O hr hg => ?_⟩
  exact (ss_cons (st_asg (s_call F_shared_radix (hr.mono (by omega)) hg takes_def (g_shared_radix kn) D_shared_radix.kp (PosB.bnd B_shared_radix) (a_cons (s_v 0) (a_cons (s_v 1) a_nil))) (g_tup (gs_cons (ml_name 2 sc_Exact_times.nd) (mild_set 2) (gs_cons (ml_name 3 sc_Exact_times.nd) (mild_set 3) (gs_cons (ml_name 4 sc_Exact_times.nd) (mild_set 4) gs_nil)))))
 (ss_cons (st_par sc_Exact_times.nd (a_cons (s_call F_quotient (hr.mono (by omega)) hg takes_def (g_quotient kn) D_quotient.kp (PosB.bnd B_quotient) (a_cons (s_v 0) a_nil)) (a_cons (s_call F_quotient (hr.mono (by omega)) hg takes_def (g_quotient kn) D_quotient.kp (PosB.bnd B_quotient) (a_cons (s_v 1) a_nil)) a_nil)))
 (ss_cons (st_set 7 sc_Exact_times.nd (s_call F_sum_of (hr.mono (by omega)) hg takes_def (g_sum_of kn) D_sum_of.kp (PosB.bnd B_sum_of) (a_cons (s_call F_product_of (hr.mono (by omega)) hg takes_def (g_product_of kn) D_product_of.kp (PosB.bnd B_product_of) (a_cons (s_v 5) (a_cons (s_v 6) a_nil))) (a_cons (s_call F_product_of (hr.mono (by omega)) hg takes_def (g_product_of kn) D_product_of.kp (PosB.bnd B_product_of) (a_cons (s_call F_product_of (hr.mono (by omega)) hg takes_def (g_product_of kn) D_product_of.kp (PosB.bnd B_product_of) (a_cons (s_v 3) (a_cons (s_v 4) a_nil))) (a_cons (s_v 2) a_nil))) a_nil))))
 (ss_one (st_ret (s_call F_made_of (hr.mono (by omega)) hg takes_def (g_made_of kn) D_made_of.kp (PosB.bnd B_made_of) (a_cons (s_v 7) (a_cons (s_call F_sum_of (hr.mono (by omega)) hg takes_def (g_sum_of kn) D_sum_of.kp (PosB.bnd B_sum_of) (a_cons (s_call F_product_of (hr.mono (by omega)) hg takes_def (g_product_of kn) D_product_of.kp (PosB.bnd B_product_of) (a_cons (s_v 5) (a_cons (s_v 4) a_nil))) (a_cons (s_call F_product_of (hr.mono (by omega)) hg takes_def (g_product_of kn) D_product_of.kp (PosB.bnd B_product_of) (a_cons (s_v 6) (a_cons (s_v 3) a_nil))) a_nil))) (a_cons (s_v 2) a_nil)))))))))
def n_cross : List Str := ["one", "other"]
theorem sc_cross : FnScope n_cross ps_cross (defScope (top 29)) := ⟨rfl, rfl, rfl, by decide +kernel, rfl, by decide +kernel, by decide +kernel⟩
def b_cross : SM :=
 (retS (methM 0 m_Exact_minus 2 (methM 0 m_Exact_times 2 (op2 ixD (varB 0) (cM (.int 0))) (consM (op2 ixD (varB 1) (cM (.int 1))) nilM)) (consM (methM 0 m_Exact_times 2 (op2 ixD (varB 0) (cM (.int 1))) (consM (op2 ixD (varB 1) (cM (.int 0))) nilM)) nilM)))
def m_cross : DM := fun ds st => fin (b_cross (startD n_cross ds) st)
theorem ok_cross {P : Program} {w : World} {K : Frg} {mg : Str → Option Value} {base : Heap} {T : List (Addr × Str)} (kn : Kn K mg) : ∃ fd, FD_cross K fd ∧ PosB K fd ps_cross ∧ FnSem P w K mg base (Sx T) 8 (He.ga K "cross") fd ps_cross m_cross := by
  obtain ⟨fd_Exact_minus, D_Exact_minus, B_Exact_minus, F_Exact_minus⟩ := ok_Exact_minus (P := P) (w := w) (base := base) (T := T) kn
  obtain ⟨fd_Exact_times, D_Exact_times, B_Exact_times, F_Exact_times⟩ := ok_Exact_times (P := P) (w := w) (base := base) (T := T) kn
  obtain ⟨fd, D⟩ := d_cross kn
  refine ⟨fd, D, pb_cross D, FnSem.of (sm := b_cross) D sc_cross fun cdv A outer s H E O hr hg => ?_⟩
  exact (ss_one (st_ret (s_meth 0 takes_def F_Exact_minus (hr.mono (by omega)) hg (hc_Exact kn) (me_Exact_minus kn) (by have h : ("minus" : Str) ∉ cf 0 := (by decide +kernel); exact h) B_Exact_minus (s_meth 0 takes_def F_Exact_times (hr.mono (by omega)) hg (hc_Exact kn) (me_Exact_times kn) (by have h : ("times" : Str) ∉ cf 0 := (by decide +kernel); exact h) B_Exact_times (s_ix (s_vb 0) (sb s_int)) (a_cons (s_ix (s_vb 1) (sb s_int)) a_nil)) (a_cons (s_meth 0 takes_def F_Exact_times (hr.mono (by omega)) hg (hc_Exact kn) (me_Exact_times kn) (by have h : ("times" : Str) ∉ cf 0 := (by decide +kernel); exact h) B_Exact_times (s_ix (s_vb 0) (sb s_int)) (a_cons (s_ix (s_vb 1) (sb s_int)) a_nil)) a_nil))))
def n_Exact_sign_of : List Str := ["self"]
theorem sc_Exact_sign_of : FnScope n_Exact_sign_of ps_Exact_sign_of (defScope (inClass (top 18) 8)) := ⟨rfl, rfl, rfl, by decide +kernel, rfl, by decide +kernel, by decide +kernel⟩
def b_Exact_sign_of : SM :=
 (seqS (ifS (tst (op2 eqD (fldM 0 2 (varM 0)) (cM (.int 0))))
 (retS (callM m_sign_in 1 1 (fun ds _ => ds) (consM (fldM 0 0 (varM 0)) nilM)))
 nilS)
 (seqS (ifS (tst (op2 geD (op2 mulD (fldM 0 0 (varM 0)) (fldM 0 2 (varM 0))) (cM (.int 0))))
 (retS (fldM 0 2 (varM 0)))
 nilS)
 (seqS (ifS (tst (op2 gtD (op2 mulD (op2 mulD (fldM 0 3 (varM 0)) (fldM 0 1 (varM 0))) (fldM 0 1 (varM 0))) (op2 mulD (op2 mulD (fldM 0 0 (varM 0)) (fldM 0 0 (varM 0))) (fldM 0 4 (varM 0)))))
 (retS (fldM 0 2 (varM 0)))
 nilS)
 (retS (op2 subD (cM (.int 0)) (fldM 0 2 (varM 0)))))))
def m_Exact_sign_of : DM := fun ds st => fin (b_Exact_sign_of (startD n_Exact_sign_of ds) st)
theorem ok_Exact_sign_of {P : Program} {w : World} {K : Frg} {mg : Str → Option Value} {base : Heap} {T : List (Addr × Str)} (kn : Kn K mg) : ∃ fd, FD_Exact_sign_of K fd ∧ PosB K fd ps_Exact_sign_of ∧ FnSem P w K mg base (Sx T) 2 (He.ma K (He.ga K "Exact") "sign_of") fd ps_Exact_sign_of m_Exact_sign_of := by
  obtain ⟨fd_sign_in, D_sign_in, B_sign_in, F_sign_in⟩ := ok_sign_in (P := P) (w := w) (base := base) (T := T) kn
  obtain ⟨fd, D⟩ := d_Exact_sign_of kn
  refine ⟨fd, D, pb_Exact_sign_of D, FnSem.of (sm := b_Exact_sign_of) D sc_Exact_sign_of fun cdv A outer s H E O hr hg => ?_⟩
  exact (ss_cons (st_if (t_cmp (op_eqD (u64 hr)) fEq (sb (s_fld 0 2 (hc_Exact kn) (na_Exact_sign kn) rfl (s_v 0))) (sb s_int))
 (ss_one (st_ret (s_call F_sign_in (hr.mono (by omega)) hg takes_def (g_sign_in kn) D_sign_in.kp (PosB.bnd B_sign_in) (a_cons (s_fld 0 0 (hc_Exact kn) (na_Exact_top kn) rfl (s_v 0)) a_nil))))
 ss_nil)
 (ss_cons (st_if (t_cmp op_ge fGe (sb (s_op op_mulW fMul (sb (s_fld 0 0 (hc_Exact kn) (na_Exact_top kn) rfl (s_v 0))) (sb (s_fld 0 2 (hc_Exact kn) (na_Exact_sign kn) rfl (s_v 0))))) (sb s_int))
 (ss_one (st_ret (s_fld 0 2 (hc_Exact kn) (na_Exact_sign kn) rfl (s_v 0))))
 ss_nil)
 (ss_cons (st_if (t_cmp op_gt fGt (sb (s_op op_mulW fMul (sb (s_op op_mulW fMul (sb (s_fld 0 3 (hc_Exact kn) (na_Exact_over kn) rfl (s_v 0))) (sb (s_fld 0 1 (hc_Exact kn) (na_Exact_bottom kn) rfl (s_v 0))))) (sb (s_fld 0 1 (hc_Exact kn) (na_Exact_bottom kn) rfl (s_v 0))))) (sb (s_op op_mulW fMul (sb (s_op op_mulW fMul (sb (s_fld 0 0 (hc_Exact kn) (na_Exact_top kn) rfl (s_v 0))) (sb (s_fld 0 0 (hc_Exact kn) (na_Exact_top kn) rfl (s_v 0))))) (sb (s_fld 0 4 (hc_Exact kn) (na_Exact_under kn) rfl (s_v 0))))))
 (ss_one (st_ret (s_fld 0 2 (hc_Exact kn) (na_Exact_sign kn) rfl (s_v 0))))
 ss_nil)
 (ss_one (st_ret (s_op op_sub fSub (sb s_int) (sb (s_fld 0 2 (hc_Exact kn) (na_Exact_sign kn) rfl (s_v 0)))))))))
def n_Exact_by : List Str := ["self", "other", "turned", "square"]
theorem sc_Exact_by : FnScope n_Exact_by ps_Exact_by (defScope (inClass (top 18) 7)) := ⟨rfl, rfl, rfl, by decide +kernel, rfl, by decide +kernel, by decide +kernel⟩
def b_Exact_by : SM :=
 (seqS (ifS (andM (tst (op2 eqD (fldM 0 0 (varM 1)) (cM (.int 0)))) (tst (op2 eqD (fldM 0 2 (varM 1)) (cM (.int 0)))))
 failS
 nilS)
 (seqS (setS 2 (makeKM 0 m_Exact_initD 2 3 (fun ds es => ds ++ es) (consM (fldM 0 0 (varM 1)) (consM (fldM 0 1 (varM 1)) nilM)) (consM (op2 subD (cM (.int 0)) (fldM 0 2 (varM 1))) (consM (fldM 0 3 (varM 1)) (consM (fldM 0 4 (varM 1)) nilM)))))
 (seqS (setS 3 (methM 0 m_Exact_times 2 (varM 1) (consM (varM 2) nilM)))
 (retS (methM 0 m_Exact_times 2 (methM 0 m_Exact_times 2 (varM 0) (consM (varM 2) nilM)) (consM (callM m_made_of 3 3 (fun ds _ => ds) (consM (callM m_lowest 2 2 (fun ds _ => ds) (consM (fldM 0 1 (varM 3)) (consM (fldM 0 0 (varM 3)) nilM))) (consM (tupM (consM (cM (.int 0)) (consM (cM (.int 1)) nilM))) (consM (tupM (consM (cM (.int 0)) (consM (cM (.int 1)) nilM))) nilM)))) nilM))))))
def m_Exact_by : DM := fun ds st => fin (b_Exact_by (startD n_Exact_by ds) st)
theorem ok_Exact_by {P : Program} {w : World} {K : Frg} {mg : Str → Option Value} {base : Heap} {T : List (Addr × Str)} (kn : Kn K mg) : ∃ fd, FD_Exact_by K fd ∧ PosB K fd ps_Exact_by ∧ FnSem P w K mg base (Sx T) 7 (He.ma K (He.ga K "Exact") "by") fd ps_Exact_by m_Exact_by := by
  obtain ⟨fd_Exact_initD, D_Exact_initD, F_Exact_initD⟩ := ok_Exact_initD (P := P) (w := w) (base := base) (T := T) kn
  obtain ⟨fd_Exact_times, D_Exact_times, B_Exact_times, F_Exact_times⟩ := ok_Exact_times (P := P) (w := w) (base := base) (T := T) kn
  obtain ⟨fd_made_of, D_made_of, B_made_of, F_made_of⟩ := ok_made_of (P := P) (w := w) (base := base) (T := T) kn
  obtain ⟨fd_lowest, D_lowest, B_lowest, F_lowest⟩ := ok_lowest (P := P) (w := w) (base := base) (T := T) kn
  obtain ⟨fd, D⟩ := d_Exact_by kn
  refine ⟨fd, D, pb_Exact_by D, FnSem.of (sm := b_Exact_by) D sc_Exact_by fun cdv A outer s H E O hr hg => ?_⟩
  exact (ss_cons (st_if (t_w (w_and (t_cmp (op_eqD (u64 hr)) fEq (sb (s_fld 0 0 (hc_Exact kn) (na_Exact_top kn) rfl (s_v 1))) (sb s_int)) (w_and1 (t_cmp (op_eqD (u64 hr)) fEq (sb (s_fld 0 2 (hc_Exact kn) (na_Exact_sign kn) rfl (s_v 1))) (sb s_int)))))
 (ss_one st_never)
 ss_nil)
 (ss_cons (st_set 2 sc_Exact_by.nd (s_makeK 0 takes_def F_Exact_initD (mk_Exact kn) (hr.mono (by omega)) hg (g_Exact kn) (bi_Exact_2_sign_over_under D_Exact_initD) (a_cons (s_fld 0 0 (hc_Exact kn) (na_Exact_top kn) rfl (s_v 1)) (a_cons (s_fld 0 1 (hc_Exact kn) (na_Exact_bottom kn) rfl (s_v 1)) a_nil)) (k_cons (s_op op_sub fSub (sb s_int) (sb (s_fld 0 2 (hc_Exact kn) (na_Exact_sign kn) rfl (s_v 1)))) (k_cons (s_fld 0 3 (hc_Exact kn) (na_Exact_over kn) rfl (s_v 1)) (k_cons (s_fld 0 4 (hc_Exact kn) (na_Exact_under kn) rfl (s_v 1)) k_nil)))))
 (ss_cons (st_set 3 sc_Exact_by.nd (s_meth 0 takes_def F_Exact_times (hr.mono (by omega)) hg (hc_Exact kn) (me_Exact_times kn) (by have h : ("times" : Str) ∉ cf 0 := (by decide +kernel); exact h) B_Exact_times (s_v 1) (a_cons (s_v 2) a_nil)))
 (ss_one (st_ret (s_meth 0 takes_def F_Exact_times (hr.mono (by omega)) hg (hc_Exact kn) (me_Exact_times kn) (by have h : ("times" : Str) ∉ cf 0 := (by decide +kernel); exact h) B_Exact_times (s_meth 0 takes_def F_Exact_times (hr.mono (by omega)) hg (hc_Exact kn) (me_Exact_times kn) (by have h : ("times" : Str) ∉ cf 0 := (by decide +kernel); exact h) B_Exact_times (s_v 0) (a_cons (s_v 2) a_nil)) (a_cons (s_call F_made_of (hr.mono (by omega)) hg takes_def (g_made_of kn) D_made_of.kp (PosB.bnd B_made_of) (a_cons (s_call F_lowest (hr.mono (by omega)) hg takes_def (g_lowest kn) D_lowest.kp (PosB.bnd B_lowest) (a_cons (s_fld 0 1 (hc_Exact kn) (na_Exact_bottom kn) rfl (s_v 3)) (a_cons (s_fld 0 0 (hc_Exact kn) (na_Exact_top kn) rfl (s_v 3)) a_nil))) (a_cons (s_tup (a_cons s_int (a_cons s_int a_nil))) (a_cons (s_tup (a_cons s_int (a_cons s_int a_nil))) a_nil)))) a_nil)))))))
def n_lines_meet : List Str := ["one", "other", "below", "x", "y"]
theorem sc_lines_meet : FnScope n_lines_meet ps_lines_meet (defScope (top 33)) := ⟨rfl, rfl, rfl, by decide +kernel, rfl, by decide +kernel, by decide +kernel⟩
def b_lines_meet : SM :=
 (seqS (dropS (callM m_must_agree 1 1 (fun ds _ => ds) (consM (tupM (consM (varM 0) (consM (varM 1) nilM))) nilM)))
 (seqS (setS 2 (callM m_cross 2 2 (fun ds _ => ds) (consM (slTM (varM 0) (cM none) (partM (cM (.int 2)))) (consM (slTM (varM 1) (cM none) (partM (cM (.int 2)))) nilM))))
 (seqS (ifS (tst (op2 eqD (meth0M 0 m_Exact_sign_of (varM 2)) (cM (.int 0))))
 (retS (cM .non))
 nilS)
 (seqS (setS 3 (methM 0 m_Exact_minus 2 (methM 0 m_Exact_times 2 (op2 ixD (varB 0) (cM (.int 2))) (consM (op2 ixD (varB 1) (cM (.int 1))) nilM)) (consM (methM 0 m_Exact_times 2 (op2 ixD (varB 1) (cM (.int 2))) (consM (op2 ixD (varB 0) (cM (.int 1))) nilM)) nilM)))
 (seqS (setS 4 (methM 0 m_Exact_minus 2 (methM 0 m_Exact_times 2 (op2 ixD (varB 0) (cM (.int 0))) (consM (op2 ixD (varB 1) (cM (.int 2))) nilM)) (consM (methM 0 m_Exact_times 2 (op2 ixD (varB 1) (cM (.int 0))) (consM (op2 ixD (varB 0) (cM (.int 2))) nilM)) nilM)))
 (retS (tupM (consM (methM 0 m_Exact_by 2 (varM 3) (consM (varM 2) nilM)) (consM (methM 0 m_Exact_by 2 (varM 4) (consM (varM 2) nilM)) nilM)))))))))
def m_lines_meet : DM := fun ds st => fin (b_lines_meet (startD n_lines_meet ds) st)
theorem ok_lines_meet {P : Program} {w : World} {K : Frg} {mg : Str → Option Value} {base : Heap} {T : List (Addr × Str)} (kn : Kn K mg) : ∃ fd, FD_lines_meet K fd ∧ PosB K fd ps_lines_meet ∧ FnSem P w K mg base (Sx T) 10 (He.ga K "lines_meet") fd ps_lines_meet m_lines_meet := by
  obtain ⟨fd_must_agree, D_must_agree, B_must_agree, F_must_agree⟩ := ok_must_agree (P := P) (w := w) (base := base) (T := T) kn
  obtain ⟨fd_cross, D_cross, B_cross, F_cross⟩ := ok_cross (P := P) (w := w) (base := base) (T := T) kn
  obtain ⟨fd_Exact_sign_of, D_Exact_sign_of, B_Exact_sign_of, F_Exact_sign_of⟩ := ok_Exact_sign_of (P := P) (w := w) (base := base) (T := T) kn
  obtain ⟨fd_Exact_minus, D_Exact_minus, B_Exact_minus, F_Exact_minus⟩ := ok_Exact_minus (P := P) (w := w) (base := base) (T := T) kn
  obtain ⟨fd_Exact_times, D_Exact_times, B_Exact_times, F_Exact_times⟩ := ok_Exact_times (P := P) (w := w) (base := base) (T := T) kn
  obtain ⟨fd_Exact_by, D_Exact_by, B_Exact_by, F_Exact_by⟩ := ok_Exact_by (P := P) (w := w) (base := base) (T := T) kn
  obtain ⟨fd, D⟩ := d_lines_meet kn
  refine ⟨fd, D, pb_lines_meet D, FnSem.of (sm := b_lines_meet) D sc_lines_meet fun cdv A outer s H E O hr hg => ?_⟩
  exact (ss_cons (st_expr (s_call F_must_agree (hr.mono (by omega)) hg takes_def (g_must_agree kn) D_must_agree.kp (PosB.bnd B_must_agree) (a_cons (s_tup (a_cons (s_v 0) (a_cons (s_v 1) a_nil))) a_nil)))
 (ss_cons (st_set 2 sc_lines_meet.nd (s_call F_cross (hr.mono (by omega)) hg takes_def (g_cross kn) D_cross.kp (PosB.bnd B_cross) (a_cons (s_sliceT (s_v 0) o_none (o_some s_int)) (a_cons (s_sliceT (s_v 1) o_none (o_some s_int)) a_nil))))
 (ss_cons (st_if (t_cmp (op_eqD (u64 hr)) fEq (sb (s_meth0 0 takes_def F_Exact_sign_of (hr.mono (by omega)) hg (hc_Exact kn) (me_Exact_sign_of kn) (by have h : ("sign_of" : Str) ∉ cf 0 := (by decide +kernel); exact h) B_Exact_sign_of (s_v 2))) (sb s_int))
 (ss_one (st_ret s_non))
 ss_nil)
 (ss_cons (st_set 3 sc_lines_meet.nd (s_meth 0 takes_def F_Exact_minus (hr.mono (by omega)) hg (hc_Exact kn) (me_Exact_minus kn) (by have h : ("minus" : Str) ∉ cf 0 := (by decide +kernel); exact h) B_Exact_minus (s_meth 0 takes_def F_Exact_times (hr.mono (by omega)) hg (hc_Exact kn) (me_Exact_times kn) (by have h : ("times" : Str) ∉ cf 0 := (by decide +kernel); exact h) B_Exact_times (s_ix (s_vb 0) (sb s_int)) (a_cons (s_ix (s_vb 1) (sb s_int)) a_nil)) (a_cons (s_meth 0 takes_def F_Exact_times (hr.mono (by omega)) hg (hc_Exact kn) (me_Exact_times kn) (by have h : ("times" : Str) ∉ cf 0 := (by decide +kernel); exact h) B_Exact_times (s_ix (s_vb 1) (sb s_int)) (a_cons (s_ix (s_vb 0) (sb s_int)) a_nil)) a_nil)))
 (ss_cons (st_set 4 sc_lines_meet.nd (s_meth 0 takes_def F_Exact_minus (hr.mono (by omega)) hg (hc_Exact kn) (me_Exact_minus kn) (by have h : ("minus" : Str) ∉ cf 0 := (by decide +kernel); exact h) B_Exact_minus (s_meth 0 takes_def F_Exact_times (hr.mono (by omega)) hg (hc_Exact kn) (me_Exact_times kn) (by have h : ("times" : Str) ∉ cf 0 := (by decide +kernel); exact h) B_Exact_times (s_ix (s_vb 0) (sb s_int)) (a_cons (s_ix (s_vb 1) (sb s_int)) a_nil)) (a_cons (s_meth 0 takes_def F_Exact_times (hr.mono (by omega)) hg (hc_Exact kn) (me_Exact_times kn) (by have h : ("times" : Str) ∉ cf 0 := (by decide +kernel); exact h) B_Exact_times (s_ix (s_vb 1) (sb s_int)) (a_cons (s_ix (s_vb 0) (sb s_int)) a_nil)) a_nil)))
 (ss_one (st_ret (s_tup (a_cons (s_meth 0 takes_def F_Exact_by (hr.mono (by omega)) hg (hc_Exact kn) (me_Exact_by kn) (by have h : ("by" : Str) ∉ cf 0 := (by decide +kernel); exact h) B_Exact_by (s_v 3) (a_cons (s_v 2) a_nil)) (a_cons (s_meth 0 takes_def F_Exact_by (hr.mono (by omega)) hg (hc_Exact kn) (me_Exact_by kn) (by have h : ("by" : Str) ∉ cf 0 := (by decide +kernel); exact h) B_Exact_by (s_v 4) (a_cons (s_v 2) a_nil)) a_nil))))))))))
def n_scaled_line : List Str := ["a", "b", "c", "head"]
theorem sc_scaled_line : FnScope n_scaled_line ps_scaled_line (defScope (top 31)) := ⟨rfl, rfl, rfl, by decide +kernel, rfl, by decide +kernel, by decide +kernel⟩
def b_scaled_line : SM :=
 (seqS (setS 3 (ifM (tst (op2 neD (meth0M 0 m_Exact_sign_of (varM 0)) (cM (.int 0)))) (varM 0) (varM 1)))
 (seqS (ifS (tst (op2 eqD (meth0M 0 m_Exact_sign_of (varM 3)) (cM (.int 0))))
 (excS 3)
 nilS)
 (retS (tupM (consM (methM 0 m_Exact_by 2 (varM 0) (consM (varM 3) nilM)) (consM (methM 0 m_Exact_by 2 (varM 1) (consM (varM 3) nilM)) (consM (methM 0 m_Exact_by 2 (varM 2) (consM (varM 3) nilM)) nilM)))))))
def m_scaled_line : DM := fun ds st => fin (b_scaled_line (startD n_scaled_line ds) st)
theorem ok_scaled_line {P : Program} {w : World} {K : Frg} {mg : Str → Option Value} {base : Heap} {T : List (Addr × Str)} (kn : Kn K mg) : ∃ fd, FD_scaled_line K fd ∧ PosB K fd ps_scaled_line ∧ FnSem P w K mg base (Sx T) 8 (He.ga K "scaled_line") fd ps_scaled_line m_scaled_line := by
  obtain ⟨fd_Exact_sign_of, D_Exact_sign_of, B_Exact_sign_of, F_Exact_sign_of⟩ := ok_Exact_sign_of (P := P) (w := w) (base := base) (T := T) kn
  obtain ⟨fd_Exact_by, D_Exact_by, B_Exact_by, F_Exact_by⟩ := ok_Exact_by (P := P) (w := w) (base := base) (T := T) kn
  obtain ⟨fd, D⟩ := d_scaled_line kn
  refine ⟨fd, D, pb_scaled_line D, FnSem.of (sm := b_scaled_line) D sc_scaled_line fun cdv A outer s H E O hr hg => ?_⟩
  exact (ss_cons (st_set 3 sc_scaled_line.nd (s_if (t_cmp (op_neD (u64 hr)) fNe (sb (s_meth0 0 takes_def F_Exact_sign_of (hr.mono (by omega)) hg (hc_Exact kn) (me_Exact_sign_of kn) (by have h : ("sign_of" : Str) ∉ cf 0 := (by decide +kernel); exact h) B_Exact_sign_of (s_v 0))) (sb s_int)) (s_v 0) (s_v 1)))
 (ss_cons (st_if (t_cmp (op_eqD (u64 hr)) fEq (sb (s_meth0 0 takes_def F_Exact_sign_of (hr.mono (by omega)) hg (hc_Exact kn) (me_Exact_sign_of kn) (by have h : ("sign_of" : Str) ∉ cf 0 := (by decide +kernel); exact h) B_Exact_sign_of (s_v 3))) (sb s_int))
 (ss_one (st_raise takes_def (xf_NoLine kn) (g_NoLine kn)))
 ss_nil)
 (ss_one (st_ret (s_tup (a_cons (s_meth 0 takes_def F_Exact_by (hr.mono (by omega)) hg (hc_Exact kn) (me_Exact_by kn) (by have h : ("by" : Str) ∉ cf 0 := (by decide +kernel); exact h) B_Exact_by (s_v 0) (a_cons (s_v 3) a_nil)) (a_cons (s_meth 0 takes_def F_Exact_by (hr.mono (by omega)) hg (hc_Exact kn) (me_Exact_by kn) (by have h : ("by" : Str) ∉ cf 0 := (by decide +kernel); exact h) B_Exact_by (s_v 1) (a_cons (s_v 3) a_nil)) (a_cons (s_meth 0 takes_def F_Exact_by (hr.mono (by omega)) hg (hc_Exact kn) (me_Exact_by kn) (by have h : ("by" : Str) ∉ cf 0 := (by decide +kernel); exact h) B_Exact_by (s_v 2) (a_cons (s_v 3) a_nil)) a_nil))))))))
def n_dot : List Str := ["one", "other"]
theorem sc_dot : FnScope n_dot ps_dot (defScope (top 28)) := ⟨rfl, rfl, rfl, by decide +kernel, rfl, by decide +kernel, by decide +kernel⟩
def b_dot : SM :=
 (retS (methM 0 m_Exact_plus 2 (methM 0 m_Exact_times 2 (op2 ixD (varB 0) (cM (.int 0))) (consM (op2 ixD (varB 1) (cM (.int 0))) nilM)) (consM (methM 0 m_Exact_times 2 (op2 ixD (varB 0) (cM (.int 1))) (consM (op2 ixD (varB 1) (cM (.int 1))) nilM)) nilM)))
def m_dot : DM := fun ds st => fin (b_dot (startD n_dot ds) st)
theorem ok_dot {P : Program} {w : World} {K : Frg} {mg : Str → Option Value} {base : Heap} {T : List (Addr × Str)} (kn : Kn K mg) : ∃ fd, FD_dot K fd ∧ PosB K fd ps_dot ∧ FnSem P w K mg base (Sx T) 7 (He.ga K "dot") fd ps_dot m_dot := by
  obtain ⟨fd_Exact_plus, D_Exact_plus, B_Exact_plus, F_Exact_plus⟩ := ok_Exact_plus (P := P) (w := w) (base := base) (T := T) kn
  obtain ⟨fd_Exact_times, D_Exact_times, B_Exact_times, F_Exact_times⟩ := ok_Exact_times (P := P) (w := w) (base := base) (T := T) kn
  obtain ⟨fd, D⟩ := d_dot kn
  refine ⟨fd, D, pb_dot D, FnSem.of (sm := b_dot) D sc_dot fun cdv A outer s H E O hr hg => ?_⟩
  exact (ss_one (st_ret (s_meth 0 takes_def F_Exact_plus (hr.mono (by omega)) hg (hc_Exact kn) (me_Exact_plus kn) (by have h : ("plus" : Str) ∉ cf 0 := (by decide +kernel); exact h) B_Exact_plus (s_meth 0 takes_def F_Exact_times (hr.mono (by omega)) hg (hc_Exact kn) (me_Exact_times kn) (by have h : ("times" : Str) ∉ cf 0 := (by decide +kernel); exact h) B_Exact_times (s_ix (s_vb 0) (sb s_int)) (a_cons (s_ix (s_vb 1) (sb s_int)) a_nil)) (a_cons (s_meth 0 takes_def F_Exact_times (hr.mono (by omega)) hg (hc_Exact kn) (me_Exact_times kn) (by have h : ("times" : Str) ∉ cf 0 := (by decide +kernel); exact h) B_Exact_times (s_ix (s_vb 0) (sb s_int)) (a_cons (s_ix (s_vb 1) (sb s_int)) a_nil)) a_nil))))
def n_line_by : List Str := ["p", "upright_way"]
theorem sc_line_by : FnScope n_line_by ps_line_by (defScope (top 32)) := ⟨rfl, rfl, rfl, by decide +kernel, rfl, by decide +kernel, by decide +kernel⟩
def b_line_by : SM :=
 (retS (callM m_scaled_line 3 3 (fun ds _ => ds) (consM (op2 ixD (varB 1) (cM (.int 0))) (consM (op2 ixD (varB 1) (cM (.int 1))) (consM (callM m_dot 2 2 (fun ds _ => ds) (consM (varM 0) (consM (varM 1) nilM))) nilM)))))
def m_line_by : DM := fun ds st => fin (b_line_by (startD n_line_by ds) st)
theorem ok_line_by {P : Program} {w : World} {K : Frg} {mg : Str → Option Value} {base : Heap} {T : List (Addr × Str)} (kn : Kn K mg) : ∃ fd, FD_line_by K fd ∧ PosB K fd ps_line_by ∧ FnSem P w K mg base (Sx T) 9 (He.ga K "line_by") fd ps_line_by m_line_by := by
  obtain ⟨fd_scaled_line, D_scaled_line, B_scaled_line, F_scaled_line⟩ := ok_scaled_line (P := P) (w := w) (base := base) (T := T) kn
  obtain ⟨fd_dot, D_dot, B_dot, F_dot⟩ := ok_dot (P := P) (w := w) (base := base) (T := T) kn
  obtain ⟨fd, D⟩ := d_line_by kn
  refine ⟨fd, D, pb_line_by D, FnSem.of (sm := b_line_by) D sc_line_by fun cdv A outer s H E O hr hg => ?_⟩
  exact (ss_one (st_ret (s_call F_scaled_line (hr.mono (by omega)) hg takes_def (g_scaled_line kn) D_scaled_line.kp (PosB.bnd B_scaled_line) (a_cons (s_ix (s_vb 1) (sb s_int)) (a_cons (s_ix (s_vb 1) (sb s_int)) (a_cons (s_call F_dot (hr.mono (by omega)) hg takes_def (g_dot kn) D_dot.kp (PosB.bnd B_dot) (a_cons (s_v 0) (a_cons (s_v 1) a_nil))) a_nil))))))
def n_gone : List Str := ["p", "way", "often"]
theorem sc_gone : FnScope n_gone ps_gone (defScope (top 30)) := ⟨rfl, rfl, rfl, by decide +kernel, rfl, by decide +kernel, by decide +kernel⟩
def b_gone : SM :=
 (retS (tupM (consM (methM 0 m_Exact_plus 2 (op2 ixD (varB 0) (cM (.int 0))) (consM (methM 0 m_Exact_times 2 (op2 ixD (varB 1) (cM (.int 0))) (consM (varM 2) nilM)) nilM)) (consM (methM 0 m_Exact_plus 2 (op2 ixD (varB 0) (cM (.int 1))) (consM (methM 0 m_Exact_times 2 (op2 ixD (varB 1) (cM (.int 1))) (consM (varM 2) nilM)) nilM)) nilM))))
def m_gone : DM := fun ds st => fin (b_gone (startD n_gone ds) st)
theorem ok_gone {P : Program} {w : World} {K : Frg} {mg : Str → Option Value} {base : Heap} {T : List (Addr × Str)} (kn : Kn K mg) : ∃ fd, FD_gone K fd ∧ PosB K fd ps_gone ∧ FnSem P w K mg base (Sx T) 7 (He.ga K "gone") fd ps_gone m_gone := by
  obtain ⟨fd_Exact_plus, D_Exact_plus, B_Exact_plus, F_Exact_plus⟩ := ok_Exact_plus (P := P) (w := w) (base := base) (T := T) kn
  obtain ⟨fd_Exact_times, D_Exact_times, B_Exact_times, F_Exact_times⟩ := ok_Exact_times (P := P) (w := w) (base := base) (T := T) kn
  obtain ⟨fd, D⟩ := d_gone kn
  refine ⟨fd, D, pb_gone D, FnSem.of (sm := b_gone) D sc_gone fun cdv A outer s H E O hr hg => ?_⟩
  exact (ss_one (st_ret (s_tup (a_cons (s_meth 0 takes_def F_Exact_plus (hr.mono (by omega)) hg (hc_Exact kn) (me_Exact_plus kn) (by have h : ("plus" : Str) ∉ cf 0 := (by decide +kernel); exact h) B_Exact_plus (s_ix (s_vb 0) (sb s_int)) (a_cons (s_meth 0 takes_def F_Exact_times (hr.mono (by omega)) hg (hc_Exact kn) (me_Exact_times kn) (by have h : ("times" : Str) ∉ cf 0 := (by decide +kernel); exact h) B_Exact_times (s_ix (s_vb 1) (sb s_int)) (a_cons (s_v 2) a_nil)) a_nil)) (a_cons (s_meth 0 takes_def F_Exact_plus (hr.mono (by omega)) hg (hc_Exact kn) (me_Exact_plus kn) (by have h : ("plus" : Str) ∉ cf 0 := (by decide +kernel); exact h) B_Exact_plus (s_ix (s_vb 0) (sb s_int)) (a_cons (s_meth 0 takes_def F_Exact_times (hr.mono (by omega)) hg (hc_Exact kn) (me_Exact_times kn) (by have h : ("times" : Str) ∉ cf 0 := (by decide +kernel); exact h) B_Exact_times (s_ix (s_vb 1) (sb s_int)) (a_cons (s_v 2) a_nil)) a_nil)) a_nil)))))
def n_way_between : List Str := ["p", "q"]
theorem sc_way_between : FnScope n_way_between ps_way_between (defScope (top 27)) := ⟨rfl, rfl, rfl, by decide +kernel, rfl, by decide +kernel, by decide +kernel⟩
def b_way_between : SM :=
 (retS (tupM (consM (methM 0 m_Exact_minus 2 (op2 ixD (varB 1) (cM (.int 0))) (consM (op2 ixD (varB 0) (cM (.int 0))) nilM)) (consM (methM 0 m_Exact_minus 2 (op2 ixD (varB 1) (cM (.int 1))) (consM (op2 ixD (varB 0) (cM (.int 1))) nilM)) nilM))))
def m_way_between : DM := fun ds st => fin (b_way_between (startD n_way_between ds) st)
theorem ok_way_between {P : Program} {w : World} {K : Frg} {mg : Str → Option Value} {base : Heap} {T : List (Addr × Str)} (kn : Kn K mg) : ∃ fd, FD_way_between K fd ∧ PosB K fd ps_way_between ∧ FnSem P w K mg base (Sx T) 8 (He.ga K "way_between") fd ps_way_between m_way_between := by
  obtain ⟨fd_Exact_minus, D_Exact_minus, B_Exact_minus, F_Exact_minus⟩ := ok_Exact_minus (P := P) (w := w) (base := base) (T := T) kn
  obtain ⟨fd, D⟩ := d_way_between kn
  refine ⟨fd, D, pb_way_between D, FnSem.of (sm := b_way_between) D sc_way_between fun cdv A outer s H E O hr hg => ?_⟩
  exact (ss_one (st_ret (s_tup (a_cons (s_meth 0 takes_def F_Exact_minus (hr.mono (by omega)) hg (hc_Exact kn) (me_Exact_minus kn) (by have h : ("minus" : Str) ∉ cf 0 := (by decide +kernel); exact h) B_Exact_minus (s_ix (s_vb 1) (sb s_int)) (a_cons (s_ix (s_vb 0) (sb s_int)) a_nil)) (a_cons (s_meth 0 takes_def F_Exact_minus (hr.mono (by omega)) hg (hc_Exact kn) (me_Exact_minus kn) (by have h : ("minus" : Str) ∉ cf 0 := (by decide +kernel); exact h) B_Exact_minus (s_ix (s_vb 1) (sb s_int)) (a_cons (s_ix (s_vb 0) (sb s_int)) a_nil)) a_nil)))))
def n_middle_of : List Str := ["p", "q"]
theorem sc_middle_of : FnScope n_middle_of ps_middle_of (defScope (top 34)) := ⟨rfl, rfl, rfl, by decide +kernel, rfl, by decide +kernel, by decide +kernel⟩
def b_middle_of : SM :=
 (seqS (dropS (callM m_must_agree 1 1 (fun ds _ => ds) (consM (tupM (consM (varM 0) (consM (varM 1) nilM))) nilM)))
 (retS (callM m_gone 3 3 (fun ds _ => ds) (consM (varM 0) (consM (callM m_way_between 2 2 (fun ds _ => ds) (consM (varM 0) (consM (varM 1) nilM))) (consM (makeM 0 m_Exact_initD 2 (fun ds _ => ds ++ [.int 0, .int 0, .int 1]) (consM (cM (.int 1)) (consM (cM (.int 2)) nilM))) nilM))))))
def m_middle_of : DM := fun ds st => fin (b_middle_of (startD n_middle_of ds) st)
theorem ok_middle_of {P : Program} {w : World} {K : Frg} {mg : Str → Option Value} {base : Heap} {T : List (Addr × Str)} (kn : Kn K mg) : ∃ fd, FD_middle_of K fd ∧ PosB K fd ps_middle_of ∧ FnSem P w K mg base (Sx T) 10 (He.ga K "middle_of") fd ps_middle_of m_middle_of := by
  obtain ⟨fd_must_agree, D_must_agree, B_must_agree, F_must_agree⟩ := ok_must_agree (P := P) (w := w) (base := base) (T := T) kn
  obtain ⟨fd_gone, D_gone, B_gone, F_gone⟩ := ok_gone (P := P) (w := w) (base := base) (T := T) kn
  obtain ⟨fd_Exact_initD, D_Exact_initD, F_Exact_initD⟩ := ok_Exact_initD (P := P) (w := w) (base := base) (T := T) kn
  obtain ⟨fd_way_between, D_way_between, B_way_between, F_way_between⟩ := ok_way_between (P := P) (w := w) (base := base) (T := T) kn
  obtain ⟨fd, D⟩ := d_middle_of kn
  refine ⟨fd, D, pb_middle_of D, FnSem.of (sm := b_middle_of) D sc_middle_of fun cdv A outer s H E O hr hg => ?_⟩
  exact (ss_cons (st_expr (s_call F_must_agree (hr.mono (by omega)) hg takes_def (g_must_agree kn) D_must_agree.kp (PosB.bnd B_must_agree) (a_cons (s_tup (a_cons (s_v 0) (a_cons (s_v 1) a_nil))) a_nil)))
 (ss_one (st_ret (s_call F_gone (hr.mono (by omega)) hg takes_def (g_gone kn) D_gone.kp (PosB.bnd B_gone) (a_cons (s_v 0) (a_cons (s_call F_way_between (hr.mono (by omega)) hg takes_def (g_way_between kn) D_way_between.kp (PosB.bnd B_way_between) (a_cons (s_v 0) (a_cons (s_v 1) a_nil))) (a_cons (s_make 0 takes_def F_Exact_initD (mk_Exact kn) (hr.mono (by omega)) hg (g_Exact kn) (bi_Exact_2 D_Exact_initD) (a_cons s_int (a_cons s_int a_nil))) a_nil)))))))
def n_upright_middle : List Str := ["p", "q"]
theorem sc_upright_middle : FnScope n_upright_middle ps_upright_middle (defScope (top 41)) := ⟨rfl, rfl, rfl, by decide +kernel, rfl, by decide +kernel, by decide +kernel⟩
def b_upright_middle : SM :=
 (retS (callM m_line_by 2 2 (fun ds _ => ds) (consM (callM m_middle_of 2 2 (fun ds _ => ds) (consM (varM 0) (consM (varM 1) nilM))) (consM (callM m_way_between 2 2 (fun ds _ => ds) (consM (varM 0) (consM (varM 1) nilM))) nilM))))
def m_upright_middle : DM := fun ds st => fin (b_upright_middle (startD n_upright_middle ds) st)
theorem ok_upright_middle {P : Program} {w : World} {K : Frg} {mg : Str → Option Value} {base : Heap} {T : List (Addr × Str)} (kn : Kn K mg) : ∃ fd, FD_upright_middle K fd ∧ PosB K fd ps_upright_middle ∧ FnSem P w K mg base (Sx T) 11 (He.ga K "upright_middle") fd ps_upright_middle m_upright_middle := by
  obtain ⟨fd_line_by, D_line_by, B_line_by, F_line_by⟩ := ok_line_by (P := P) (w := w) (base := base) (T := T) kn
  obtain ⟨fd_way_between, D_way_between, B_way_between, F_way_between⟩ := ok_way_between (P := P) (w := w) (base := base) (T := T) kn
  obtain ⟨fd_middle_of, D_middle_of, B_middle_of, F_middle_of⟩ := ok_middle_of (P := P) (w := w) (base := base) (T := T) kn
  obtain ⟨fd, D⟩ := d_upright_middle kn
  refine ⟨fd, D, pb_upright_middle D, FnSem.of (sm := b_upright_middle) D sc_upright_middle fun cdv A outer s H E O hr hg => ?_⟩
  exact (ss_one (st_ret (s_call F_line_by (hr.mono (by omega)) hg takes_def (g_line_by kn) D_line_by.kp (PosB.bnd B_line_by) (a_cons (s_call F_middle_of (hr.mono (by omega)) hg takes_def (g_middle_of kn) D_middle_of.kp (PosB.bnd B_middle_of) (a_cons (s_v 0) (a_cons (s_v 1) a_nil))) (a_cons (s_call F_way_between (hr.mono (by omega)) hg takes_def (g_way_between kn) D_way_between.kp (PosB.bnd B_way_between) (a_cons (s_v 0) (a_cons (s_v 1) a_nil))) a_nil)))))
def n_square_of : List Str := ["p", "q", "way"]
theorem sc_square_of : FnScope n_square_of ps_square_of (defScope (top 40)) := ⟨rfl, rfl, rfl, by decide +kernel, rfl, by decide +kernel, by decide +kernel⟩
def b_square_of : SM :=
 (seqS (setS 2 (callM m_way_between 2 2 (fun ds _ => ds) (consM (varM 0) (consM (varM 1) nilM))))
 (retS (callM m_dot 2 2 (fun ds _ => ds) (consM (varM 2) (consM (varM 2) nilM)))))
def m_square_of : DM := fun ds st => fin (b_square_of (startD n_square_of ds) st)
theorem ok_square_of {P : Program} {w : World} {K : Frg} {mg : Str → Option Value} {base : Heap} {T : List (Addr × Str)} (kn : Kn K mg) : ∃ fd, FD_square_of K fd ∧ PosB K fd ps_square_of ∧ FnSem P w K mg base (Sx T) 9 (He.ga K "square_of") fd ps_square_of m_square_of := by
  obtain ⟨fd_way_between, D_way_between, B_way_between, F_way_between⟩ := ok_way_between (P := P) (w := w) (base := base) (T := T) kn
  obtain ⟨fd_dot, D_dot, B_dot, F_dot⟩ := ok_dot (P := P) (w := w) (base := base) (T := T) kn
  obtain ⟨fd, D⟩ := d_square_of kn
  refine ⟨fd, D, pb_square_of D, FnSem.of (sm := b_square_of) D sc_square_of fun cdv A outer s H E O hr hg => ?_⟩
  exact (ss_cons (st_set 2 sc_square_of.nd (s_call F_way_between (hr.mono (by omega)) hg takes_def (g_way_between kn) D_way_between.kp (PosB.bnd B_way_between) (a_cons (s_v 0) (a_cons (s_v 1) a_nil))))
 (ss_one (st_ret (s_call F_dot (hr.mono (by omega)) hg takes_def (g_dot kn) D_dot.kp (PosB.bnd B_dot) (a_cons (s_v 2) (a_cons (s_v 2) a_nil))))))
def n_circle_by : List Str := ["p", "q", "r", "middle"]
theorem sc_circle_by : FnScope n_circle_by ps_circle_by (defScope (top 42)) := ⟨rfl, rfl, rfl, by decide +kernel, rfl, by decide +kernel, by decide +kernel⟩
def b_circle_by : SM :=
 (seqS (ifS (tst (op2 eqD (meth0M 0 m_Exact_sign_of (callM m_cross 2 2 (fun ds _ => ds) (consM (callM m_way_between 2 2 (fun ds _ => ds) (consM (varM 0) (consM (varM 1) nilM))) (consM (callM m_way_between 2 2 (fun ds _ => ds) (consM (varM 0) (consM (varM 2) nilM))) nilM)))) (cM (.int 0))))
 (excS 5)
 nilS)
 (seqS (setS 3 (callM m_lines_meet 2 2 (fun ds _ => ds) (consM (callM m_upright_middle 2 2 (fun ds _ => ds) (consM (varM 0) (consM (varM 1) nilM))) (consM (callM m_upright_middle 2 2 (fun ds _ => ds) (consM (varM 0) (consM (varM 2) nilM))) nilM))))
 (retS (tupM (consM (varM 3) (consM (callM m_square_of 2 2 (fun ds _ => ds) (consM (varM 3) (consM (varM 0) nilM))) nilM))))))
def m_circle_by : DM := fun ds st => fin (b_circle_by (startD n_circle_by ds) st)
theorem ok_circle_by {P : Program} {w : World} {K : Frg} {mg : Str → Option Value} {base : Heap} {T : List (Addr × Str)} (kn : Kn K mg) : ∃ fd, FD_circle_by K fd ∧ PosB K fd ps_circle_by ∧ FnSem P w K mg base (Sx T) 12 (He.ga K "circle_by") fd ps_circle_by m_circle_by := by
  obtain ⟨fd_Exact_sign_of, D_Exact_sign_of, B_Exact_sign_of, F_Exact_sign_of⟩ := ok_Exact_sign_of (P := P) (w := w) (base := base) (T := T) kn
  obtain ⟨fd_cross, D_cross, B_cross, F_cross⟩ := ok_cross (P := P) (w := w) (base := base) (T := T) kn
  obtain ⟨fd_way_between, D_way_between, B_way_between, F_way_between⟩ := ok_way_between (P := P) (w := w) (base := base) (T := T) kn
  obtain ⟨fd_lines_meet, D_lines_meet, B_lines_meet, F_lines_meet⟩ := ok_lines_meet (P := P) (w := w) (base := base) (T := T) kn
  obtain ⟨fd_upright_middle, D_upright_middle, B_upright_middle, F_upright_middle⟩ := ok_upright_middle (P := P) (w := w) (base := base) (T := T) kn
  obtain ⟨fd_square_of, D_square_of, B_square_of, F_square_of⟩ := ok_square_of (P := P) (w := w) (base := base) (T := T) kn
  obtain ⟨fd, D⟩ := d_circle_by kn
  refine ⟨fd, D, pb_circle_by D, FnSem.of (sm := b_circle_by) D sc_circle_by fun cdv A outer s H E O hr hg => ?_⟩
  exact (ss_cons (st_if (t_cmp (op_eqD (u64 hr)) fEq (sb (s_meth0 0 takes_def F_Exact_sign_of (hr.mono (by omega)) hg (hc_Exact kn) (me_Exact_sign_of kn) (by have h : ("sign_of" : Str) ∉ cf 0 := (by decide +kernel); exact h) B_Exact_sign_of (s_call F_cross (hr.mono (by omega)) hg takes_def (g_cross kn) D_cross.kp (PosB.bnd B_cross) (a_cons (s_call F_way_between (hr.mono (by omega)) hg takes_def (g_way_between kn) D_way_between.kp (PosB.bnd B_way_between) (a_cons (s_v 0) (a_cons (s_v 1) a_nil))) (a_cons (s_call F_way_between (hr.mono (by omega)) hg takes_def (g_way_between kn) D_way_between.kp (PosB.bnd B_way_between) (a_cons (s_v 0) (a_cons (s_v 2) a_nil))) a_nil))))) (sb s_int))
 (ss_one (st_raise takes_def (xf_NoCircle kn) (g_NoCircle kn)))
 ss_nil)
 (ss_cons (st_set 3 sc_circle_by.nd (s_call F_lines_meet (hr.mono (by omega)) hg takes_def (g_lines_meet kn) D_lines_meet.kp (PosB.bnd B_lines_meet) (a_cons (s_call F_upright_middle (hr.mono (by omega)) hg takes_def (g_upright_middle kn) D_upright_middle.kp (PosB.bnd B_upright_middle) (a_cons (s_v 0) (a_cons (s_v 1) a_nil))) (a_cons (s_call F_upright_middle (hr.mono (by omega)) hg takes_def (g_upright_middle kn) D_upright_middle.kp (PosB.bnd B_upright_middle) (a_cons (s_v 0) (a_cons (s_v 2) a_nil))) a_nil))))
 (ss_one (st_ret (s_tup (a_cons (s_v 3) (a_cons (s_call F_square_of (hr.mono (by omega)) hg takes_def (g_square_of kn) D_square_of.kp (PosB.bnd B_square_of) (a_cons (s_v 3) (a_cons (s_v 0) a_nil))) a_nil)))))))
def n_lnumber : List Str := ["above", "below", "one", "other"]
theorem sc_lnumber : FnScope n_lnumber ps_lnumber (defScope (top 53)) := ⟨rfl, rfl, rfl, by decide +kernel, rfl, by decide +kernel, by decide +kernel⟩
def b_lnumber : SM :=
 (seqS (parS 2 3 (consM (ifM (tst (op2 gtD (varB 0) (cM (.int 0)))) (varM 0) (negM (varM 0))) (consM (ifM (tst (op2 gtD (varB 1) (cM (.int 0)))) (varM 1) (negM (varM 1))) nilM)))
 (seqS (whileS (tst (op2 neD (varB 3) (cM (.int 0))))
 (parS 2 3 (consM (varM 3) (consM (op2 modD (callB intB (consM (varB 2) nilM)) (varB 3)) nilM))))
 (seqS (setS 2 (ifM (tst (op2 gtD (varB 1) (cM (.int 0)))) (varM 2) (negM (varM 2))))
 (retS (tupM (consM (op2 divD (varB 0) (varB 2)) (consM (op2 divD (varB 1) (varB 2)) nilM)))))))
def m_lnumber : DM := fun ds st => fin (b_lnumber (startD n_lnumber ds) st)
theorem ok_lnumber {P : Program} {w : World} {K : Frg} {mg : Str → Option Value} {base : Heap} {T : List (Addr × Str)} (kn : Kn K mg) : ∃ fd, FD_lnumber K fd ∧ PosB K fd ps_lnumber ∧ FnSem P w K mg base (Sx T) 1 (He.ga K "_law_number") fd ps_lnumber m_lnumber := by
  obtain ⟨fd, D⟩ := d_lnumber kn
  refine ⟨fd, D, pb_lnumber D, FnSem.of (sm := b_lnumber) D sc_lnumber fun cdv A outer s H E O hr hg => ?_⟩
  exact (ss_cons (st_par sc_lnumber.nd (a_cons (s_if (t_cmp op_gt fGt (s_vb 0) (sb s_int)) (s_v 0) (s_neg (s_v 0))) (a_cons (s_if (t_cmp op_gt fGt (s_vb 1) (sb s_int)) (s_v 1) (s_neg (s_v 1))) a_nil)))
 (ss_cons (st_while (passes_of rfl) (t_cmp (op_neD (u64 hr)) fNe (s_vb 3) (sb s_int))
 (ss_one (st_par sc_lnumber.nd (a_cons (s_v 3) (a_cons (s_op op_modN fMod (sb (s_callT call_int1 cInt (fr_int kn) bt_int (b_cons (s_vb 2) b_nil))) (s_vb 3)) a_nil)))))
 (ss_cons (st_set 2 sc_lnumber.nd (s_if (t_cmp op_gt fGt (s_vb 1) (sb s_int)) (s_v 2) (s_neg (s_v 2))))
 (ss_one (st_ret (s_tup (a_cons (s_op op_fdivZ fDiv (s_vb 0) (s_vb 2)) (a_cons (s_op op_fdivZ fDiv (s_vb 1) (s_vb 2)) a_nil))))))))
def n_lpick : List Str := ["deck", "some"]
theorem sc_lpick : FnScope n_lpick ps_lpick (defScope (top 50)) := ⟨rfl, rfl, rfl, by decide +kernel, rfl, by decide +kernel, by decide +kernel⟩
def b_lpick : SM :=
 (retS (op2 ixD (varB 1) (callM m_ldraw 2 2 (fun ds _ => ds) (consM (varM 0) (consM (callB lenB (consM (varB 1) nilM)) nilM)))))
def m_lpick : DM := fun ds st => fin (b_lpick (startD n_lpick ds) st)
theorem ok_lpick {P : Program} {w : World} {K : Frg} {mg : Str → Option Value} {base : Heap} {T : List (Addr × Str)} (kn : Kn K mg) : ∃ fd, FD_lpick K fd ∧ PosB K fd ps_lpick ∧ FnSem P w K mg base (Sx T) 2 (He.ga K "_law_pick") fd ps_lpick m_lpick := by
  obtain ⟨fd_ldraw, D_ldraw, B_ldraw, F_ldraw⟩ := ok_ldraw (P := P) (w := w) (base := base) (T := T) kn
  obtain ⟨fd, D⟩ := d_lpick kn
  refine ⟨fd, D, pb_lpick D, FnSem.of (sm := b_lpick) D sc_lpick fun cdv A outer s H E O hr hg => ?_⟩
  exact (ss_one (st_ret (s_ix (s_vb 1) (sb (s_call F_ldraw (hr.mono (by omega)) hg takes_def (g__law_draw kn) D_ldraw.kp (PosB.bnd B_ldraw) (a_cons (s_v 0) (a_cons (s_callB call_len cLen (fr_len kn) bt_len (b_cons (s_vb 1) b_nil)) a_nil)))))))
def n_lcoordinate : List Str := ["deck", "some", "above", "below"]
theorem sc_lcoordinate : FnScope n_lcoordinate ps_lcoordinate (defScope (top 68)) := ⟨rfl, rfl, rfl, by decide +kernel, rfl, by decide +kernel, by decide +kernel⟩
def b_lcoordinate : SM :=
 (seqS (setS 1 (frzM (lstM (consM (cM (.int 0)) (consM (cM (.int 1)) (consM (cM (.int 2)) (consM (cM (.int 3)) (consM (negM (cM (.int 1))) (consM (negM (cM (.int 2))) (consM (cM (.int 4)) (consM (cM (.int 5)) (consM (negM (cM (.int 3))) (consM (cM (.int 0)) (consM (cM (.int 6)) (consM (cM (.int 1)) nilM)))))))))))))))
 (seqS (parS 2 3 (consM (callM m_lpick 2 2 (fun ds _ => ds) (consM (varM 0) (consM (varM 1) nilM))) (consM (callM m_lpick 2 2 (fun ds _ => ds) (consM (varM 0) (consM (frzM (lstM (consM (cM (.int 1)) (consM (cM (.int 1)) (consM (cM (.int 1)) (consM (cM (.int 1)) (consM (cM (.int 2)) (consM (cM (.int 3)) (consM (cM (.int 1)) (consM (cM (.int 7)) nilM)))))))))) nilM))) nilM)))
 (seqS (ifS (tst (op2 eqD (callM m_ldraw 2 2 (fun ds _ => ds) (consM (varM 0) (consM (cM (.int 60)) nilM))) (cM (.int 0))))
 (setS 2 (op2 addD (op2 mulD (varB 2) (op2 powD (cM (.int 10)) (cM (.int 30)))) (cM (.int 7))))
 nilS)
 (retS (callM m_lnumber 2 2 (fun ds _ => ds) (consM (varM 2) (consM (varM 3) nilM)))))))
def m_lcoordinate : DM := fun ds st => fin (b_lcoordinate (startD n_lcoordinate ds) st)
theorem ok_lcoordinate {P : Program} {w : World} {K : Frg} {mg : Str → Option Value} {base : Heap} {T : List (Addr × Str)} (kn : Kn K mg) : ∃ fd, FD_lcoordinate K fd ∧ PosB K fd ps_lcoordinate ∧ FnSem P w K mg base (Sx T) 3 (He.ga K "_law_coordinate") fd ps_lcoordinate m_lcoordinate := by
  obtain ⟨fd_lpick, D_lpick, B_lpick, F_lpick⟩ := ok_lpick (P := P) (w := w) (base := base) (T := T) kn
  obtain ⟨fd_ldraw, D_ldraw, B_ldraw, F_ldraw⟩ := ok_ldraw (P := P) (w := w) (base := base) (T := T) kn
  obtain ⟨fd_lnumber, D_lnumber, B_lnumber, F_lnumber⟩ := ok_lnumber (P := P) (w := w) (base := base) (T := T) kn
  obtain ⟨fd, D⟩ := d_lcoordinate kn
  refine ⟨fd, D, pb_lcoordinate D, FnSem.of (sm := b_lcoordinate) D sc_lcoordinate fun cdv A outer s H E O hr hg => ?_⟩
  exact (ss_cons (st_set 1 sc_lcoordinate.nd (s_frz (f_lst (a_cons s_int (a_cons s_int (a_cons s_int (a_cons s_int (a_cons (s_neg s_int) (a_cons (s_neg s_int) (a_cons s_int (a_cons s_int (a_cons (s_neg s_int) (a_cons s_int (a_cons s_int (a_cons s_int a_nil)))))))))))))))
 (ss_cons (st_par sc_lcoordinate.nd (a_cons (s_call F_lpick (hr.mono (by omega)) hg takes_def (g__law_pick kn) D_lpick.kp (PosB.bnd B_lpick) (a_cons (s_v 0) (a_cons (s_v 1) a_nil))) (a_cons (s_call F_lpick (hr.mono (by omega)) hg takes_def (g__law_pick kn) D_lpick.kp (PosB.bnd B_lpick) (a_cons (s_v 0) (a_cons (s_frz (f_lst (a_cons s_int (a_cons s_int (a_cons s_int (a_cons s_int (a_cons s_int (a_cons s_int (a_cons s_int (a_cons s_int a_nil)))))))))) a_nil))) a_nil)))
 (ss_cons (st_if (t_cmp (op_eqD (u64 hr)) fEq (sb (s_call F_ldraw (hr.mono (by omega)) hg takes_def (g__law_draw kn) D_ldraw.kp (PosB.bnd B_ldraw) (a_cons (s_v 0) (a_cons s_int a_nil)))) (sb s_int))
 (ss_one (st_set 2 sc_lcoordinate.nd (s_op op_addA fAdd (sb (s_op op_mulW fMul (s_vb 2) (sb (s_op op_pow fPow (sb s_int) (sb s_int))))) (sb s_int))))
 ss_nil)
 (ss_one (st_ret (s_call F_lnumber (hr.mono (by omega)) hg takes_def (g__law_number kn) D_lnumber.kp (PosB.bnd B_lnumber) (a_cons (s_v 2) (a_cons (s_v 3) a_nil))))))))
def n_lpoint : List Str := ["deck"]
theorem sc_lpoint : FnScope n_lpoint ps_lpoint (defScope (top 69)) := ⟨rfl, rfl, rfl, by decide +kernel, rfl, by decide +kernel, by decide +kernel⟩
def b_lpoint : SM :=
 (retS (tupM (consM (callM m_lcoordinate 1 1 (fun ds _ => ds) (consM (varM 0) nilM)) (consM (callM m_lcoordinate 1 1 (fun ds _ => ds) (consM (varM 0) nilM)) nilM))))
def m_lpoint : DM := fun ds st => fin (b_lpoint (startD n_lpoint ds) st)
theorem ok_lpoint {P : Program} {w : World} {K : Frg} {mg : Str → Option Value} {base : Heap} {T : List (Addr × Str)} (kn : Kn K mg) : ∃ fd, FD_lpoint K fd ∧ PosB K fd ps_lpoint ∧ FnSem P w K mg base (Sx T) 4 (He.ga K "_law_point") fd ps_lpoint m_lpoint := by
  obtain ⟨fd_lcoordinate, D_lcoordinate, B_lcoordinate, F_lcoordinate⟩ := ok_lcoordinate (P := P) (w := w) (base := base) (T := T) kn
  obtain ⟨fd, D⟩ := d_lpoint kn
  refine ⟨fd, D, pb_lpoint D, FnSem.of (sm := b_lpoint) D sc_lpoint fun cdv A outer s H E O hr hg => ?_⟩
  exact (ss_one (st_ret (s_tup (a_cons (s_call F_lcoordinate (hr.mono (by omega)) hg takes_def (g__law_coordinate kn) D_lcoordinate.kp (PosB.bnd B_lcoordinate) (a_cons (s_v 0) a_nil)) (a_cons (s_call F_lcoordinate (hr.mono (by omega)) hg takes_def (g__law_coordinate kn) D_lcoordinate.kp (PosB.bnd B_lcoordinate) (a_cons (s_v 0) a_nil)) a_nil)))))
def n_lsign : List Str := ["number"]
theorem sc_lsign : FnScope n_lsign ps_lsign (defScope (top 58)) := ⟨rfl, rfl, rfl, by decide +kernel, rfl, by decide +kernel, by decide +kernel⟩
def b_lsign : SM :=
 (retS (op2 subD (callB intB (consM (op2 gtD (op2 ixD (varB 0) (cM (.int 0))) (cM (.int 0))) nilM)) (callB intB (consM (op2 ltD (op2 ixD (varB 0) (cM (.int 0))) (cM (.int 0))) nilM))))
def m_lsign : DM := fun ds st => fin (b_lsign (startD n_lsign ds) st)
theorem ok_lsign {P : Program} {w : World} {K : Frg} {mg : Str → Option Value} {base : Heap} {T : List (Addr × Str)} (kn : Kn K mg) : ∃ fd, FD_lsign K fd ∧ PosB K fd ps_lsign ∧ FnSem P w K mg base (Sx T) 1 (He.ga K "_law_sign") fd ps_lsign m_lsign := by
  obtain ⟨fd, D⟩ := d_lsign kn
  refine ⟨fd, D, pb_lsign D, FnSem.of (sm := b_lsign) D sc_lsign fun cdv A outer s H E O hr hg => ?_⟩
  exact (ss_one (st_ret (s_op op_sub fSub (sb (s_callT call_int1 cInt (fr_int kn) bt_int (b_cons (sb (s_cmp op_gt fGt (sb (s_ix (s_vb 0) (sb s_int))) (sb s_int))) b_nil))) (sb (s_callT call_int1 cInt (fr_int kn) bt_int (b_cons (sb (s_cmp op_lt fLt (sb (s_ix (s_vb 0) (sb s_int))) (sb s_int))) b_nil))))))
def n_lby : List Str := ["one", "other"]
theorem sc_lby : FnScope n_lby ps_lby (defScope (top 57)) := ⟨rfl, rfl, rfl, by decide +kernel, rfl, by decide +kernel, by decide +kernel⟩
def b_lby : SM :=
 (retS (callM m_lnumber 2 2 (fun ds _ => ds) (consM (op2 mulD (op2 ixD (varB 0) (cM (.int 0))) (op2 ixD (varB 1) (cM (.int 1)))) (consM (op2 mulD (op2 ixD (varB 0) (cM (.int 1))) (op2 ixD (varB 1) (cM (.int 0)))) nilM))))
def m_lby : DM := fun ds st => fin (b_lby (startD n_lby ds) st)
theorem ok_lby {P : Program} {w : World} {K : Frg} {mg : Str → Option Value} {base : Heap} {T : List (Addr × Str)} (kn : Kn K mg) : ∃ fd, FD_lby K fd ∧ PosB K fd ps_lby ∧ FnSem P w K mg base (Sx T) 2 (He.ga K "_law_by") fd ps_lby m_lby := by
  obtain ⟨fd_lnumber, D_lnumber, B_lnumber, F_lnumber⟩ := ok_lnumber (P := P) (w := w) (base := base) (T := T) kn
  obtain ⟨fd, D⟩ := d_lby kn
  refine ⟨fd, D, pb_lby D, FnSem.of (sm := b_lby) D sc_lby fun cdv A outer s H E O hr hg => ?_⟩
  exact (ss_one (st_ret (s_call F_lnumber (hr.mono (by omega)) hg takes_def (g__law_number kn) D_lnumber.kp (PosB.bnd B_lnumber) (a_cons (s_op op_mulW fMul (sb (s_ix (s_vb 0) (sb s_int))) (sb (s_ix (s_vb 1) (sb s_int)))) (a_cons (s_op op_mulW fMul (sb (s_ix (s_vb 0) (sb s_int))) (sb (s_ix (s_vb 1) (sb s_int)))) a_nil)))))
def n_lminus : List Str := ["one", "other"]
theorem sc_lminus : FnScope n_lminus ps_lminus (defScope (top 56)) := ⟨rfl, rfl, rfl, by decide +kernel, rfl, by decide +kernel, by decide +kernel⟩
def b_lminus : SM :=
 (retS (callM m_lnumber 2 2 (fun ds _ => ds) (consM (op2 subD (op2 mulD (op2 ixD (varB 0) (cM (.int 0))) (op2 ixD (varB 1) (cM (.int 1)))) (op2 mulD (op2 ixD (varB 1) (cM (.int 0))) (op2 ixD (varB 0) (cM (.int 1))))) (consM (op2 mulD (op2 ixD (varB 0) (cM (.int 1))) (op2 ixD (varB 1) (cM (.int 1)))) nilM))))
def m_lminus : DM := fun ds st => fin (b_lminus (startD n_lminus ds) st)
theorem ok_lminus {P : Program} {w : World} {K : Frg} {mg : Str → Option Value} {base : Heap} {T : List (Addr × Str)} (kn : Kn K mg) : ∃ fd, FD_lminus K fd ∧ PosB K fd ps_lminus ∧ FnSem P w K mg base (Sx T) 2 (He.ga K "_law_minus") fd ps_lminus m_lminus := by
  obtain ⟨fd_lnumber, D_lnumber, B_lnumber, F_lnumber⟩ := ok_lnumber (P := P) (w := w) (base := base) (T := T) kn
  obtain ⟨fd, D⟩ := d_lminus kn
  refine ⟨fd, D, pb_lminus D, FnSem.of (sm := b_lminus) D sc_lminus fun cdv A outer s H E O hr hg => ?_⟩
  exact (ss_one (st_ret (s_call F_lnumber (hr.mono (by omega)) hg takes_def (g__law_number kn) D_lnumber.kp (PosB.bnd B_lnumber) (a_cons (s_op op_sub fSub (sb (s_op op_mulW fMul (sb (s_ix (s_vb 0) (sb s_int))) (sb (s_ix (s_vb 1) (sb s_int))))) (sb (s_op op_mulW fMul (sb (s_ix (s_vb 1) (sb s_int))) (sb (s_ix (s_vb 0) (sb s_int)))))) (a_cons (s_op op_mulW fMul (sb (s_ix (s_vb 0) (sb s_int))) (sb (s_ix (s_vb 1) (sb s_int)))) a_nil)))))
def n_ltimes : List Str := ["one", "other"]
theorem sc_ltimes : FnScope n_ltimes ps_ltimes (defScope (top 55)) := ⟨rfl, rfl, rfl, by decide +kernel, rfl, by decide +kernel, by decide +kernel⟩
def b_ltimes : SM :=
 (retS (callM m_lnumber 2 2 (fun ds _ => ds) (consM (op2 mulD (op2 ixD (varB 0) (cM (.int 0))) (op2 ixD (varB 1) (cM (.int 0)))) (consM (op2 mulD (op2 ixD (varB 0) (cM (.int 1))) (op2 ixD (varB 1) (cM (.int 1)))) nilM))))
def m_ltimes : DM := fun ds st => fin (b_ltimes (startD n_ltimes ds) st)
theorem ok_ltimes {P : Program} {w : World} {K : Frg} {mg : Str → Option Value} {base : Heap} {T : List (Addr × Str)} (kn : Kn K mg) : ∃ fd, FD_ltimes K fd ∧ PosB K fd ps_ltimes ∧ FnSem P w K mg base (Sx T) 2 (He.ga K "_law_times") fd ps_ltimes m_ltimes := by
  obtain ⟨fd_lnumber, D_lnumber, B_lnumber, F_lnumber⟩ := ok_lnumber (P := P) (w := w) (base := base) (T := T) kn
  obtain ⟨fd, D⟩ := d_ltimes kn
  refine ⟨fd, D, pb_ltimes D, FnSem.of (sm := b_ltimes) D sc_ltimes fun cdv A outer s H E O hr hg => ?_⟩
  exact (ss_one (st_ret (s_call F_lnumber (hr.mono (by omega)) hg takes_def (g__law_number kn) D_lnumber.kp (PosB.bnd B_lnumber) (a_cons (s_op op_mulW fMul (sb (s_ix (s_vb 0) (sb s_int))) (sb (s_ix (s_vb 1) (sb s_int)))) (a_cons (s_op op_mulW fMul (sb (s_ix (s_vb 0) (sb s_int))) (sb (s_ix (s_vb 1) (sb s_int)))) a_nil)))))
def n_lon : List Str := ["deck", "line", "x"]
theorem sc_lon : FnScope n_lon ps_lon (defScope (top 74)) := ⟨rfl, rfl, rfl, by decide +kernel, rfl, by decide +kernel, by decide +kernel⟩
def b_lon : SM :=
 (seqS (ifS (tst (op2 eqD (callM m_lsign 1 1 (fun ds _ => ds) (consM (op2 ixD (varB 1) (cM (.int 1))) nilM)) (cM (.int 0))))
 (retS (tupM (consM (op2 ixD (varB 1) (cM (.int 2))) (consM (callM m_lcoordinate 1 1 (fun ds _ => ds) (consM (varM 0) nilM)) nilM))))
 nilS)
 (seqS (setS 2 (callM m_lcoordinate 1 1 (fun ds _ => ds) (consM (varM 0) nilM)))
 (retS (tupM (consM (varM 2) (consM (callM m_lby 2 2 (fun ds _ => ds) (consM (callM m_lminus 2 2 (fun ds _ => ds) (consM (op2 ixD (varB 1) (cM (.int 2))) (consM (callM m_ltimes 2 2 (fun ds _ => ds) (consM (op2 ixD (varB 1) (cM (.int 0))) (consM (varM 2) nilM))) nilM))) (consM (op2 ixD (varB 1) (cM (.int 1))) nilM))) nilM))))))
def m_lon : DM := fun ds st => fin (b_lon (startD n_lon ds) st)
theorem ok_lon {P : Program} {w : World} {K : Frg} {mg : Str → Option Value} {base : Heap} {T : List (Addr × Str)} (kn : Kn K mg) : ∃ fd, FD_lon K fd ∧ PosB K fd ps_lon ∧ FnSem P w K mg base (Sx T) 4 (He.ga K "_law_on") fd ps_lon m_lon := by
  obtain ⟨fd_lsign, D_lsign, B_lsign, F_lsign⟩ := ok_lsign (P := P) (w := w) (base := base) (T := T) kn
  obtain ⟨fd_lcoordinate, D_lcoordinate, B_lcoordinate, F_lcoordinate⟩ := ok_lcoordinate (P := P) (w := w) (base := base) (T := T) kn
  obtain ⟨fd_lby, D_lby, B_lby, F_lby⟩ := ok_lby (P := P) (w := w) (base := base) (T := T) kn
  obtain ⟨fd_lminus, D_lminus, B_lminus, F_lminus⟩ := ok_lminus (P := P) (w := w) (base := base) (T := T) kn
  obtain ⟨fd_ltimes, D_ltimes, B_ltimes, F_ltimes⟩ := ok_ltimes (P := P) (w := w) (base := base) (T := T) kn
  obtain ⟨fd, D⟩ := d_lon kn
  refine ⟨fd, D, pb_lon D, FnSem.of (sm := b_lon) D sc_lon fun cdv A outer s H E O hr hg => ?_⟩
  exact (ss_cons (st_if (t_cmp (op_eqD (u64 hr)) fEq (sb (s_call F_lsign (hr.mono (by omega)) hg takes_def (g__law_sign kn) D_lsign.kp (PosB.bnd B_lsign) (a_cons (s_ix (s_vb 1) (sb s_int)) a_nil))) (sb s_int))
 (ss_one (st_ret (s_tup (a_cons (s_ix (s_vb 1) (sb s_int)) (a_cons (s_call F_lcoordinate (hr.mono (by omega)) hg takes_def (g__law_coordinate kn) D_lcoordinate.kp (PosB.bnd B_lcoordinate) (a_cons (s_v 0) a_nil)) a_nil)))))
 ss_nil)
 (ss_cons (st_set 2 sc_lon.nd (s_call F_lcoordinate (hr.mono (by omega)) hg takes_def (g__law_coordinate kn) D_lcoordinate.kp (PosB.bnd B_lcoordinate) (a_cons (s_v 0) a_nil)))
 (ss_one (st_ret (s_tup (a_cons (s_v 2) (a_cons (s_call F_lby (hr.mono (by omega)) hg takes_def (g__law_by kn) D_lby.kp (PosB.bnd B_lby) (a_cons (s_call F_lminus (hr.mono (by omega)) hg takes_def (g__law_minus kn) D_lminus.kp (PosB.bnd B_lminus) (a_cons (s_ix (s_vb 1) (sb s_int)) (a_cons (s_call F_ltimes (hr.mono (by omega)) hg takes_def (g__law_times kn) D_ltimes.kp (PosB.bnd B_ltimes) (a_cons (s_ix (s_vb 1) (sb s_int)) (a_cons (s_v 2) a_nil))) a_nil))) (a_cons (s_ix (s_vb 1) (sb s_int)) a_nil))) a_nil)))))))
def n_lexact : List Str := ["number"]
theorem sc_lexact : FnScope n_lexact ps_lexact (defScope (top 64)) := ⟨rfl, rfl, rfl, by decide +kernel, rfl, by decide +kernel, by decide +kernel⟩
def b_lexact : SM :=
 (retS (makeM 0 m_Exact_initD 2 (fun ds _ => ds ++ [.int 0, .int 0, .int 1]) (consM (op2 ixD (varB 0) (cM (.int 0))) (consM (op2 ixD (varB 0) (cM (.int 1))) nilM))))
def m_lexact : DM := fun ds st => fin (b_lexact (startD n_lexact ds) st)
theorem ok_lexact {P : Program} {w : World} {K : Frg} {mg : Str → Option Value} {base : Heap} {T : List (Addr × Str)} (kn : Kn K mg) : ∃ fd, FD_lexact K fd ∧ PosB K fd ps_lexact ∧ FnSem P w K mg base (Sx T) 5 (He.ga K "_law_exact") fd ps_lexact m_lexact := by
  obtain ⟨fd_Exact_initD, D_Exact_initD, F_Exact_initD⟩ := ok_Exact_initD (P := P) (w := w) (base := base) (T := T) kn
  obtain ⟨fd, D⟩ := d_lexact kn
  refine ⟨fd, D, pb_lexact D, FnSem.of (sm := b_lexact) D sc_lexact fun cdv A outer s H E O hr hg => ?_⟩
  exact (ss_one (st_ret (s_make 0 takes_def F_Exact_initD (mk_Exact kn) (hr.mono (by omega)) hg (g_Exact kn) (bi_Exact_2 D_Exact_initD) (a_cons (s_ix (s_vb 0) (sb s_int)) (a_cons (s_ix (s_vb 0) (sb s_int)) a_nil)))))
def n_lspot : List Str := ["point"]
theorem sc_lspot : FnScope n_lspot ps_lspot (defScope (top 65)) := ⟨rfl, rfl, rfl, by decide +kernel, rfl, by decide +kernel, by decide +kernel⟩
def b_lspot : SM :=
 (retS (tupM (consM (callM m_lexact 1 1 (fun ds _ => ds) (consM (op2 ixD (varB 0) (cM (.int 0))) nilM)) (consM (callM m_lexact 1 1 (fun ds _ => ds) (consM (op2 ixD (varB 0) (cM (.int 1))) nilM)) nilM))))
def m_lspot : DM := fun ds st => fin (b_lspot (startD n_lspot ds) st)
theorem ok_lspot {P : Program} {w : World} {K : Frg} {mg : Str → Option Value} {base : Heap} {T : List (Addr × Str)} (kn : Kn K mg) : ∃ fd, FD_lspot K fd ∧ PosB K fd ps_lspot ∧ FnSem P w K mg base (Sx T) 6 (He.ga K "_law_spot") fd ps_lspot m_lspot := by
  obtain ⟨fd_lexact, D_lexact, B_lexact, F_lexact⟩ := ok_lexact (P := P) (w := w) (base := base) (T := T) kn
  obtain ⟨fd, D⟩ := d_lspot kn
  refine ⟨fd, D, pb_lspot D, FnSem.of (sm := b_lspot) D sc_lspot fun cdv A outer s H E O hr hg => ?_⟩
  exact (ss_one (st_ret (s_tup (a_cons (s_call F_lexact (hr.mono (by omega)) hg takes_def (g__law_exact kn) D_lexact.kp (PosB.bnd B_lexact) (a_cons (s_ix (s_vb 0) (sb s_int)) a_nil)) (a_cons (s_call F_lexact (hr.mono (by omega)) hg takes_def (g__law_exact kn) D_lexact.kp (PosB.bnd B_lexact) (a_cons (s_ix (s_vb 0) (sb s_int)) a_nil)) a_nil)))))
def n_lread : List Str := ["thing"]
theorem sc_lread : FnScope n_lread ps_lread (defScope (top 61)) := ⟨rfl, rfl, rfl, by decide +kernel, rfl, by decide +kernel, by decide +kernel⟩
def b_lread : SM :=
 (seqS (ifS (notM (tst (callB (isiB S0 [0]) (consM (varB 0) (consM (cM (.glo "Exact")) nilM)))))
 (retS (cM .non))
 nilS)
 (retS (tupM (consM (fldM 0 0 (varM 0)) (consM (fldM 0 1 (varM 0)) (consM (fldM 0 2 (varM 0)) (consM (fldM 0 3 (varM 0)) (consM (fldM 0 4 (varM 0)) nilM))))))))
def m_lread : DM := fun ds st => fin (b_lread (startD n_lread ds) st)
theorem ok_lread {P : Program} {w : World} {K : Frg} {mg : Str → Option Value} {base : Heap} {T : List (Addr × Str)} (kn : Kn K mg) : ∃ fd, FD_lread K fd ∧ PosB K fd ps_lread ∧ FnSem P w K mg base (Sx T) 1 (He.ga K "_law_read") fd ps_lread m_lread := by
  obtain ⟨fd, D⟩ := d_lread kn
  refine ⟨fd, D, pb_lread D, FnSem.of (sm := b_lread) D sc_lread fun cdv A outer s H E O hr hg => ?_⟩
  exact (ss_cons (st_if (t_not (t_val (s_callB call_isiA (cIsiT (isF kn)) (fr_isinstance kn) bt_isinstance (b_cons (s_vb 0) (b_cons (sb (s_glo (g_Exact kn))) b_nil)))))
 (ss_one (st_ret s_non))
 ss_nil)
 (ss_one (st_ret (s_tup (a_cons (s_fld 0 0 (hc_Exact kn) (na_Exact_top kn) rfl (s_v 0)) (a_cons (s_fld 0 1 (hc_Exact kn) (na_Exact_bottom kn) rfl (s_v 0)) (a_cons (s_fld 0 2 (hc_Exact kn) (na_Exact_sign kn) rfl (s_v 0)) (a_cons (s_fld 0 3 (hc_Exact kn) (na_Exact_over kn) rfl (s_v 0)) (a_cons (s_fld 0 4 (hc_Exact kn) (na_Exact_under kn) rfl (s_v 0)) a_nil)))))))))
def n_ltold : List Str := ["thing", "it"]
theorem sc_ltold : FnScope n_ltold ps_ltold (defScope (top 62)) := ⟨rfl, rfl, rfl, by decide +kernel, rfl, by decide +kernel, by decide +kernel⟩
def b_ltold (r : DM) : SM :=
 (seqS (ifS (tst (callB (isiB S0 [0]) (consM (varB 0) (consM (cM (.ty "tuple")) nilM))))
 (retS (callB tupleB (consM (frzM (compM [1] (seqW (varM 0)) (setG 1) (cM true) (callM r 1 1 (fun ds _ => ds) (consM (varM 1) nilM)))) nilM)))
 nilS)
 (retS (ifM (tst (callB (isiB S0 [0]) (consM (varB 0) (consM (cM (.glo "Exact")) nilM)))) (callM m_lread 1 1 (fun ds _ => ds) (consM (varM 0) nilM)) (varM 0))))
def m_ltold : Nat → DM
  | 0 => fun _ _ => .fail
  | n + 1 => fun ds st => fin (b_ltold (m_ltold n) (startD n_ltold ds) st)
theorem ok_ltold {P : Program} {w : World} {K : Frg} {mg : Str → Option Value} {base : Heap} {T : List (Addr × Str)} (kn : Kn K mg) (n : Nat) : ∃ fd, FD_ltold K fd ∧ PosB K fd ps_ltold ∧ FnSem P w K mg base (Sx T) (1 + n) (He.ga K "_law_told") fd ps_ltold (m_ltold n) := by
  obtain ⟨fd_lread, D_lread, B_lread, F_lread⟩ := ok_lread (P := P) (w := w) (base := base) (T := T) kn
  obtain ⟨fd, D_ltold⟩ := d_ltold kn
  have B_ltold := pb_ltold D_ltold
  refine ⟨fd, D_ltold, B_ltold, ?_⟩
  induction n with
  | zero => exact FnSem.none
  | succ n Fr =>
    refine FnSem.of (k := 1 + n) (sm := b_ltold (m_ltold n)) D_ltold sc_ltold fun cdv A outer s H E O hr hg => ?_
    exact (ss_cons (st_if (t_val (s_callB call_isiA (cIsiT (isF kn)) (fr_isinstance kn) bt_isinstance (b_cons (s_vb 0) (b_cons (sb (s_ty (fr_tuple kn) bt_tuple)) b_nil))))
 (ss_one (st_ret (s_callT call_tuple_of cTuple (fr_tuple kn) bt_tuple (b_cons (sb (s_frz (f_comp [("it", 1)] (tgt_name 1) sc_ltold.nd (i_seq (s_v 0)) (blkOk_by (by kernel_rfl)) (fun _ _ _ _ _ => pg_name sc_ltold.nd rfl (by first | exact Or.inl rfl | exact Or.inr rfl) (by first | exact .inl rfl | exact .inr rfl)) (fun _ _ _ _ _ => pt_nil) (fun _ _ _ _ _ => (s_call Fr (hr.mono (by omega)) hg takes_blkD (g__law_told kn) D_ltold.kp (PosB.bnd B_ltold) (a_cons (s_v 1) a_nil)))))) b_nil))))
 ss_nil)
 (ss_one (st_ret (s_if (t_val (s_callB call_isiA (cIsiT (isF kn)) (fr_isinstance kn) bt_isinstance (b_cons (s_vb 0) (b_cons (sb (s_glo (g_Exact kn))) b_nil)))) (s_call F_lread (hr.mono (by omega)) hg takes_def (g__law_read kn) D_lread.kp (PosB.bnd B_lread) (a_cons (s_v 0) a_nil)) (s_v 0)))))
def n_lheard : List Str := ["call", "e"]
theorem sc_lheard : FnScope n_lheard ps_lheard (defScope (top 77)) := ⟨rfl, rfl, rfl, by decide +kernel, rfl, by decide +kernel, by decide +kernel⟩
def b_lheard (t : Store → Res D) : SM :=
 (tryMS 1 [((hx2 5 3), (fun _ => retS (tupM (consM (cM (.str "circle")) (consM (cM (.bl true)) nilM))))), ((hx1 3), (fun _ => retS (tupM (consM (cM (.str "line")) (consM (cM (.bl true)) nilM)))))] (retS (tupM (consM (cM (.str "told")) (consM (callM (m_ltold 8) 1 1 (fun ds _ => ds) (consM (lamAct t) nilM)) nilM)))))
theorem w_lheard {P : Program} {w : World} {K : Frg} {mg : Str → Option Value} {base : Heap} {T : List (Addr × Str)} (kn : Kn K mg) {cdv : Value} (A : Around) (outer : List Env) (s : Shared) (H : Hp) (E : XK) (O : Or) (t : Store → Res D) {g : Addr} (hr : Room 9 (A.deeper (envOfC "_law_heard" (defScope (top 77)) s.heap.objs.size g cdv))) (hg : A.guards = some [])
    (act : ∀ (W : WX) (pn : List (Addr × Obj)) (xe : Value → Shared → Prop) (p1 p2 : Pos), Takes ((cxOf (L2.CX P w) P w K mg base n_lheard "_law_heard" (defScope (top 77)) g cdv A outer s H E).tr pn xe) W → SE ((cxOf (L2.CX P w) P w K mg base n_lheard "_law_heard" (defScope (top 77)) g cdv A outer s H E).tr pn xe) (Sx T) W O (.Call (.Name "call" p1) [] [] p2) (lamAct t)) :
    SSs (cxOf (L2.CX P w) P w K mg base n_lheard "_law_heard" (defScope (top 77)) g cdv A outer s H E) (Sx T) (wD E) O (defBody (top 77)) (b_lheard t) := by
  obtain ⟨fd_ltold, D_ltold, B_ltold, F_ltold⟩ := ok_ltold (P := P) (w := w) (base := base) (T := T) kn 8
  exact (ss_one (st_tryM takes_def sc_lheard.nd rfl (.cons (fun a _ => (retS (tupM (consM (cM (.str "circle")) (consM (isEM a 1 true) nilM))))) ⟨rfl, by decide, .inl (g_NoCircle kn)⟩ (hx2_ok (xm_NoCircle kn) (xm_NoLine_NoCircle kn)) (fun c hc a oe pn hz hf => by cases hx2_eq hc; exact (ss_one (st_ret (s_tup (a_cons s_str (a_cons (s_isE hz hf (ec_NoCircle kn) (ki_NoCircle_PointError kn) rfl (fr_isinstance kn) (g_PointError kn)) a_nil)))))) (fun a c ρ st hc hl => by
  cases hx2_eq hc
  simp only [retS, tupM, lstM, consM, cM, nilM, isEM, List.getElem?_set_self hl, if_true, Res.bind, Res.toS, unS, frzM]
  rfl)
 (.cons (fun a _ => (retS (tupM (consM (cM (.str "line")) (consM (isEM a 1 true) nilM))))) ⟨rfl, by decide, .inl (g_NoLine kn)⟩ (hx1_ok (xm_NoLine kn)) (fun c hc a oe pn hz hf => by cases hx1_eq hc; exact (ss_one (st_ret (s_tup (a_cons s_str (a_cons (s_isE hz hf (ec_NoLine kn) (ki_NoLine_PointError kn) rfl (fr_isinstance kn) (g_PointError kn)) a_nil)))))) (fun a c ρ st hc hl => by
  cases hx1_eq hc
  simp only [retS, tupM, lstM, consM, cM, nilM, isEM, List.getElem?_set_self hl, if_true, Res.bind, Res.toS, unS, frzM]
  rfl)
 .nil)) (fun W pn xe tkT _ => (ss_one (st_ret (s_tup (a_cons s_str (a_cons (s_call F_ltold (hr.mono (by omega)) hg tkT (g__law_told kn) D_ltold.kp (PosB.bnd B_ltold) (a_cons (act _ _ _ _ _ tkT) a_nil)) a_nil))))))))
def n_lsame : List Str := ["told", "due"]
theorem sc_lsame : FnScope n_lsame ps_lsame (defScope (top 51)) := ⟨rfl, rfl, rfl, by decide +kernel, rfl, by decide +kernel, by decide +kernel⟩
def b_lsame : SM :=
 (retS (op2 eqsD (callB reprB (consM (varB 0) nilM)) (callB reprB (consM (varB 1) nilM))))
def m_lsame : DM := fun ds st => fin (b_lsame (startD n_lsame ds) st)
theorem ok_lsame {P : Program} {w : World} {K : Frg} {mg : Str → Option Value} {base : Heap} {T : List (Addr × Str)} (kn : Kn K mg) : ∃ fd, FD_lsame K fd ∧ PosB K fd ps_lsame ∧ FnSem P w K mg base (Sx T) 1 (He.ga K "_law_same") fd ps_lsame m_lsame := by
  obtain ⟨fd, D⟩ := d_lsame kn
  refine ⟨fd, D, pb_lsame D, FnSem.of (sm := b_lsame) D sc_lsame fun cdv A outer s H E O hr hg => ?_⟩
  exact (ss_one (st_ret (s_cmp op_eq fEqs (sb (s_callB (call_reprD hr hg) cRepr (fr_repr kn) bt_repr (b_cons (s_vb 0) b_nil))) (sb (s_callB (call_reprD hr hg) cRepr (fr_repr kn) bt_repr (b_cons (s_vb 1) b_nil))))))
def n_lline : List Str := ["a", "b", "c", "lead"]
theorem sc_lline : FnScope n_lline ps_lline (defScope (top 71)) := ⟨rfl, rfl, rfl, by decide +kernel, rfl, by decide +kernel, by decide +kernel⟩
def b_lline : SM :=
 (seqS (setS 3 (ifM (tst (op2 neD (callM m_lsign 1 1 (fun ds _ => ds) (consM (varM 0) nilM)) (cM (.int 0)))) (varM 0) (varM 1)))
 (retS (tupM (consM (callM m_lby 2 2 (fun ds _ => ds) (consM (varM 0) (consM (varM 3) nilM))) (consM (callM m_lby 2 2 (fun ds _ => ds) (consM (varM 1) (consM (varM 3) nilM))) (consM (callM m_lby 2 2 (fun ds _ => ds) (consM (varM 2) (consM (varM 3) nilM))) nilM))))))
def m_lline : DM := fun ds st => fin (b_lline (startD n_lline ds) st)
theorem ok_lline {P : Program} {w : World} {K : Frg} {mg : Str → Option Value} {base : Heap} {T : List (Addr × Str)} (kn : Kn K mg) : ∃ fd, FD_lline K fd ∧ PosB K fd ps_lline ∧ FnSem P w K mg base (Sx T) 3 (He.ga K "_law_line") fd ps_lline m_lline := by
  obtain ⟨fd_lsign, D_lsign, B_lsign, F_lsign⟩ := ok_lsign (P := P) (w := w) (base := base) (T := T) kn
  obtain ⟨fd_lby, D_lby, B_lby, F_lby⟩ := ok_lby (P := P) (w := w) (base := base) (T := T) kn
  obtain ⟨fd, D⟩ := d_lline kn
  refine ⟨fd, D, pb_lline D, FnSem.of (sm := b_lline) D sc_lline fun cdv A outer s H E O hr hg => ?_⟩
  exact (ss_cons (st_set 3 sc_lline.nd (s_if (t_cmp (op_neD (u64 hr)) fNe (sb (s_call F_lsign (hr.mono (by omega)) hg takes_def (g__law_sign kn) D_lsign.kp (PosB.bnd B_lsign) (a_cons (s_v 0) a_nil))) (sb s_int)) (s_v 0) (s_v 1)))
 (ss_one (st_ret (s_tup (a_cons (s_call F_lby (hr.mono (by omega)) hg takes_def (g__law_by kn) D_lby.kp (PosB.bnd B_lby) (a_cons (s_v 0) (a_cons (s_v 3) a_nil))) (a_cons (s_call F_lby (hr.mono (by omega)) hg takes_def (g__law_by kn) D_lby.kp (PosB.bnd B_lby) (a_cons (s_v 1) (a_cons (s_v 3) a_nil))) (a_cons (s_call F_lby (hr.mono (by omega)) hg takes_def (g__law_by kn) D_lby.kp (PosB.bnd B_lby) (a_cons (s_v 2) (a_cons (s_v 3) a_nil))) a_nil)))))))
def n_lplus : List Str := ["one", "other"]
theorem sc_lplus : FnScope n_lplus ps_lplus (defScope (top 54)) := ⟨rfl, rfl, rfl, by decide +kernel, rfl, by decide +kernel, by decide +kernel⟩
def b_lplus : SM :=
 (retS (callM m_lnumber 2 2 (fun ds _ => ds) (consM (op2 addD (op2 mulD (op2 ixD (varB 0) (cM (.int 0))) (op2 ixD (varB 1) (cM (.int 1)))) (op2 mulD (op2 ixD (varB 1) (cM (.int 0))) (op2 ixD (varB 0) (cM (.int 1))))) (consM (op2 mulD (op2 ixD (varB 0) (cM (.int 1))) (op2 ixD (varB 1) (cM (.int 1)))) nilM))))
def m_lplus : DM := fun ds st => fin (b_lplus (startD n_lplus ds) st)
theorem ok_lplus {P : Program} {w : World} {K : Frg} {mg : Str → Option Value} {base : Heap} {T : List (Addr × Str)} (kn : Kn K mg) : ∃ fd, FD_lplus K fd ∧ PosB K fd ps_lplus ∧ FnSem P w K mg base (Sx T) 2 (He.ga K "_law_plus") fd ps_lplus m_lplus := by
  obtain ⟨fd_lnumber, D_lnumber, B_lnumber, F_lnumber⟩ := ok_lnumber (P := P) (w := w) (base := base) (T := T) kn
  obtain ⟨fd, D⟩ := d_lplus kn
  refine ⟨fd, D, pb_lplus D, FnSem.of (sm := b_lplus) D sc_lplus fun cdv A outer s H E O hr hg => ?_⟩
  exact (ss_one (st_ret (s_call F_lnumber (hr.mono (by omega)) hg takes_def (g__law_number kn) D_lnumber.kp (PosB.bnd B_lnumber) (a_cons (s_op op_addA fAdd (sb (s_op op_mulW fMul (sb (s_ix (s_vb 0) (sb s_int))) (sb (s_ix (s_vb 1) (sb s_int))))) (sb (s_op op_mulW fMul (sb (s_ix (s_vb 1) (sb s_int))) (sb (s_ix (s_vb 0) (sb s_int)))))) (a_cons (s_op op_mulW fMul (sb (s_ix (s_vb 0) (sb s_int))) (sb (s_ix (s_vb 1) (sb s_int)))) a_nil)))))
def n_lthrough : List Str := ["p", "q", "a", "b"]
theorem sc_lthrough : FnScope n_lthrough ps_lthrough (defScope (top 72)) := ⟨rfl, rfl, rfl, by decide +kernel, rfl, by decide +kernel, by decide +kernel⟩
def b_lthrough : SM :=
 (seqS (parS 2 3 (consM (callM m_lminus 2 2 (fun ds _ => ds) (consM (op2 ixD (varB 1) (cM (.int 1))) (consM (op2 ixD (varB 0) (cM (.int 1))) nilM))) (consM (callM m_lminus 2 2 (fun ds _ => ds) (consM (op2 ixD (varB 0) (cM (.int 0))) (consM (op2 ixD (varB 1) (cM (.int 0))) nilM))) nilM)))
 (retS (callM m_lline 3 3 (fun ds _ => ds) (consM (varM 2) (consM (varM 3) (consM (callM m_lplus 2 2 (fun ds _ => ds) (consM (callM m_ltimes 2 2 (fun ds _ => ds) (consM (varM 2) (consM (op2 ixD (varB 0) (cM (.int 0))) nilM))) (consM (callM m_ltimes 2 2 (fun ds _ => ds) (consM (varM 3) (consM (op2 ixD (varB 0) (cM (.int 1))) nilM))) nilM))) nilM))))))
def m_lthrough : DM := fun ds st => fin (b_lthrough (startD n_lthrough ds) st)
theorem ok_lthrough {P : Program} {w : World} {K : Frg} {mg : Str → Option Value} {base : Heap} {T : List (Addr × Str)} (kn : Kn K mg) : ∃ fd, FD_lthrough K fd ∧ PosB K fd ps_lthrough ∧ FnSem P w K mg base (Sx T) 4 (He.ga K "_law_through") fd ps_lthrough m_lthrough := by
  obtain ⟨fd_lminus, D_lminus, B_lminus, F_lminus⟩ := ok_lminus (P := P) (w := w) (base := base) (T := T) kn
  obtain ⟨fd_lline, D_lline, B_lline, F_lline⟩ := ok_lline (P := P) (w := w) (base := base) (T := T) kn
  obtain ⟨fd_lplus, D_lplus, B_lplus, F_lplus⟩ := ok_lplus (P := P) (w := w) (base := base) (T := T) kn
  obtain ⟨fd_ltimes, D_ltimes, B_ltimes, F_ltimes⟩ := ok_ltimes (P := P) (w := w) (base := base) (T := T) kn
  obtain ⟨fd, D⟩ := d_lthrough kn
  refine ⟨fd, D, pb_lthrough D, FnSem.of (sm := b_lthrough) D sc_lthrough fun cdv A outer s H E O hr hg => ?_⟩
  exact (ss_cons (st_par sc_lthrough.nd (a_cons (s_call F_lminus (hr.mono (by omega)) hg takes_def (g__law_minus kn) D_lminus.kp (PosB.bnd B_lminus) (a_cons (s_ix (s_vb 1) (sb s_int)) (a_cons (s_ix (s_vb 0) (sb s_int)) a_nil))) (a_cons (s_call F_lminus (hr.mono (by omega)) hg takes_def (g__law_minus kn) D_lminus.kp (PosB.bnd B_lminus) (a_cons (s_ix (s_vb 0) (sb s_int)) (a_cons (s_ix (s_vb 1) (sb s_int)) a_nil))) a_nil)))
 (ss_one (st_ret (s_call F_lline (hr.mono (by omega)) hg takes_def (g__law_line kn) D_lline.kp (PosB.bnd B_lline) (a_cons (s_v 2) (a_cons (s_v 3) (a_cons (s_call F_lplus (hr.mono (by omega)) hg takes_def (g__law_plus kn) D_lplus.kp (PosB.bnd B_lplus) (a_cons (s_call F_ltimes (hr.mono (by omega)) hg takes_def (g__law_times kn) D_ltimes.kp (PosB.bnd B_ltimes) (a_cons (s_v 2) (a_cons (s_ix (s_vb 0) (sb s_int)) a_nil))) (a_cons (s_call F_ltimes (hr.mono (by omega)) hg takes_def (g__law_times kn) D_ltimes.kp (PosB.bnd B_ltimes) (a_cons (s_v 3) (a_cons (s_ix (s_vb 0) (sb s_int)) a_nil))) a_nil))) a_nil)))))))
def n_lturns : List Str := ["p", "q", "r"]
theorem sc_lturns : FnScope n_lturns ps_lturns (defScope (top 73)) := ⟨rfl, rfl, rfl, by decide +kernel, rfl, by decide +kernel, by decide +kernel⟩
def b_lturns : SM :=
 (retS (callM m_lminus 2 2 (fun ds _ => ds) (consM (callM m_ltimes 2 2 (fun ds _ => ds) (consM (callM m_lminus 2 2 (fun ds _ => ds) (consM (op2 ixD (varB 1) (cM (.int 0))) (consM (op2 ixD (varB 0) (cM (.int 0))) nilM))) (consM (callM m_lminus 2 2 (fun ds _ => ds) (consM (op2 ixD (varB 2) (cM (.int 1))) (consM (op2 ixD (varB 0) (cM (.int 1))) nilM))) nilM))) (consM (callM m_ltimes 2 2 (fun ds _ => ds) (consM (callM m_lminus 2 2 (fun ds _ => ds) (consM (op2 ixD (varB 1) (cM (.int 1))) (consM (op2 ixD (varB 0) (cM (.int 1))) nilM))) (consM (callM m_lminus 2 2 (fun ds _ => ds) (consM (op2 ixD (varB 2) (cM (.int 0))) (consM (op2 ixD (varB 0) (cM (.int 0))) nilM))) nilM))) nilM))))
def m_lturns : DM := fun ds st => fin (b_lturns (startD n_lturns ds) st)
theorem ok_lturns {P : Program} {w : World} {K : Frg} {mg : Str → Option Value} {base : Heap} {T : List (Addr × Str)} (kn : Kn K mg) : ∃ fd, FD_lturns K fd ∧ PosB K fd ps_lturns ∧ FnSem P w K mg base (Sx T) 3 (He.ga K "_law_turns") fd ps_lturns m_lturns := by
  obtain ⟨fd_lminus, D_lminus, B_lminus, F_lminus⟩ := ok_lminus (P := P) (w := w) (base := base) (T := T) kn
  obtain ⟨fd_ltimes, D_ltimes, B_ltimes, F_ltimes⟩ := ok_ltimes (P := P) (w := w) (base := base) (T := T) kn
  obtain ⟨fd, D⟩ := d_lturns kn
  refine ⟨fd, D, pb_lturns D, FnSem.of (sm := b_lturns) D sc_lturns fun cdv A outer s H E O hr hg => ?_⟩
  exact (ss_one (st_ret (s_call F_lminus (hr.mono (by omega)) hg takes_def (g__law_minus kn) D_lminus.kp (PosB.bnd B_lminus) (a_cons (s_call F_ltimes (hr.mono (by omega)) hg takes_def (g__law_times kn) D_ltimes.kp (PosB.bnd B_ltimes) (a_cons (s_call F_lminus (hr.mono (by omega)) hg takes_def (g__law_minus kn) D_lminus.kp (PosB.bnd B_lminus) (a_cons (s_ix (s_vb 1) (sb s_int)) (a_cons (s_ix (s_vb 0) (sb s_int)) a_nil))) (a_cons (s_call F_lminus (hr.mono (by omega)) hg takes_def (g__law_minus kn) D_lminus.kp (PosB.bnd B_lminus) (a_cons (s_ix (s_vb 2) (sb s_int)) (a_cons (s_ix (s_vb 0) (sb s_int)) a_nil))) a_nil))) (a_cons (s_call F_ltimes (hr.mono (by omega)) hg takes_def (g__law_times kn) D_ltimes.kp (PosB.bnd B_ltimes) (a_cons (s_call F_lminus (hr.mono (by omega)) hg takes_def (g__law_minus kn) D_lminus.kp (PosB.bnd B_lminus) (a_cons (s_ix (s_vb 1) (sb s_int)) (a_cons (s_ix (s_vb 0) (sb s_int)) a_nil))) (a_cons (s_call F_lminus (hr.mono (by omega)) hg takes_def (g__law_minus kn) D_lminus.kp (PosB.bnd B_lminus) (a_cons (s_ix (s_vb 2) (sb s_int)) (a_cons (s_ix (s_vb 0) (sb s_int)) a_nil))) a_nil))) a_nil)))))
def n_lroot_of : List Str := ["whole", "near", "less"]
theorem sc_lroot_of : FnScope n_lroot_of ps_lroot_of (defScope (top 59)) := ⟨rfl, rfl, rfl, by decide +kernel, rfl, by decide +kernel, by decide +kernel⟩
def b_lroot_of : SM :=
 (seqS (ifS (tst (op2 ltD (varB 0) (cM (.int 2))))
 (retS (varM 0))
 nilS)
 (seqS (setS 1 (op2 shlD (cM (.int 1)) (op2 addD (op2 divD (bitsM (varM 0)) (cM (.int 2))) (cM (.int 1)))))
 (whileS (tst (cM (.bl true)))
 (seqS (setS 2 (op2 divD (op2 addD (varB 1) (op2 divD (varB 0) (varB 1))) (cM (.int 2))))
 (seqS (ifS (tst (op2 geD (varB 2) (varB 1)))
 (retS (varM 1))
 nilS)
 (setS 1 (varM 2)))))))
def m_lroot_of : DM := fun ds st => fin (b_lroot_of (startD n_lroot_of ds) st)
theorem ok_lroot_of {P : Program} {w : World} {K : Frg} {mg : Str → Option Value} {base : Heap} {T : List (Addr × Str)} (kn : Kn K mg) : ∃ fd, FD_lroot_of K fd ∧ PosB K fd ps_lroot_of ∧ FnSem P w K mg base (Sx T) 1 (He.ga K "_law_root_of") fd ps_lroot_of m_lroot_of := by
  obtain ⟨fd, D⟩ := d_lroot_of kn
  refine ⟨fd, D, pb_lroot_of D, FnSem.of (sm := b_lroot_of) D sc_lroot_of fun cdv A outer s H E O hr hg => ?_⟩
  exact (ss_cons (st_if (t_cmp op_lt fLt (s_vb 0) (sb s_int))
 (ss_one (st_ret (s_v 0)))
 ss_nil)
 (ss_cons (st_set 1 sc_lroot_of.nd (s_op op_shlW fShl (sb s_int) (sb (s_op op_addA fAdd (sb (s_op op_fdivZ fDiv (sb (s_bits (s_v 0))) (sb s_int))) (sb s_int)))))
 (ss_one (st_while (passes_of rfl) (t_val s_bl)
 (ss_cons (st_set 2 sc_lroot_of.nd (s_op op_fdivZ fDiv (sb (s_op op_addA fAdd (s_vb 1) (sb (s_op op_fdivZ fDiv (s_vb 0) (s_vb 1))))) (sb s_int)))
 (ss_cons (st_if (t_cmp op_ge fGe (s_vb 2) (s_vb 1))
 (ss_one (st_ret (s_v 1)))
 ss_nil)
 (ss_one (st_set 1 sc_lroot_of.nd (s_v 2)))))))))
def n_lfive : List Str := ["number", "sign", "square", "top", "bottom"]
theorem sc_lfive : FnScope n_lfive ps_lfive (defScope (top 60)) := ⟨rfl, rfl, rfl, by decide +kernel, rfl, by decide +kernel, by decide +kernel⟩
def b_lfive : SM :=
 (seqS (ifS (orM (tst (op2 eqD (varB 1) (cM (.int 0)))) (tst (op2 eqD (op2 ixD (varB 2) (cM (.int 0))) (cM (.int 0)))))
 (retS (op2 addD (varB 0) (tupM (consM (cM (.int 0)) (consM (cM (.int 0)) (consM (cM (.int 1)) nilM))))))
 nilS)
 (seqS (parS 3 4 (consM (callM m_lroot_of 1 1 (fun ds _ => ds) (consM (op2 ixD (varB 2) (cM (.int 0))) nilM)) (consM (callM m_lroot_of 1 1 (fun ds _ => ds) (consM (op2 ixD (varB 2) (cM (.int 1))) nilM)) nilM)))
 (seqS (ifS (andM (tst (op2 eqD (op2 mulD (varB 3) (varB 3)) (op2 ixD (varB 2) (cM (.int 0))))) (tst (op2 eqD (op2 mulD (varB 4) (varB 4)) (op2 ixD (varB 2) (cM (.int 1))))))
 (retS (op2 addD (callM m_lplus 2 2 (fun ds _ => ds) (consM (varM 0) (consM (tupM (consM (op2 mulD (varB 1) (varB 3)) (consM (varM 4) nilM))) nilM))) (tupM (consM (cM (.int 0)) (consM (cM (.int 0)) (consM (cM (.int 1)) nilM))))))
 nilS)
 (retS (op2 addD (op2 addD (varB 0) (tupM (consM (varM 1) nilM))) (varB 2))))))
def m_lfive : DM := fun ds st => fin (b_lfive (startD n_lfive ds) st)
theorem ok_lfive {P : Program} {w : World} {K : Frg} {mg : Str → Option Value} {base : Heap} {T : List (Addr × Str)} (kn : Kn K mg) : ∃ fd, FD_lfive K fd ∧ PosB K fd ps_lfive ∧ FnSem P w K mg base (Sx T) 3 (He.ga K "_law_five") fd ps_lfive m_lfive := by
  obtain ⟨fd_lroot_of, D_lroot_of, B_lroot_of, F_lroot_of⟩ := ok_lroot_of (P := P) (w := w) (base := base) (T := T) kn
  obtain ⟨fd_lplus, D_lplus, B_lplus, F_lplus⟩ := ok_lplus (P := P) (w := w) (base := base) (T := T) kn
  obtain ⟨fd, D⟩ := d_lfive kn
  refine ⟨fd, D, pb_lfive D, FnSem.of (sm := b_lfive) D sc_lfive fun cdv A outer s H E O hr hg => ?_⟩
  exact (ss_cons (st_if (t_w (w_or (t_cmp (op_eqD (u64 hr)) fEq (s_vb 1) (sb s_int)) (w_or1 (t_cmp (op_eqD (u64 hr)) fEq (sb (s_ix (s_vb 2) (sb s_int))) (sb s_int)))))
 (ss_one (st_ret (s_op op_addA fAdd (s_vb 0) (sb (s_tup (a_cons s_int (a_cons s_int (a_cons s_int a_nil))))))))
 ss_nil)
 (ss_cons (st_par sc_lfive.nd (a_cons (s_call F_lroot_of (hr.mono (by omega)) hg takes_def (g__law_root_of kn) D_lroot_of.kp (PosB.bnd B_lroot_of) (a_cons (s_ix (s_vb 2) (sb s_int)) a_nil)) (a_cons (s_call F_lroot_of (hr.mono (by omega)) hg takes_def (g__law_root_of kn) D_lroot_of.kp (PosB.bnd B_lroot_of) (a_cons (s_ix (s_vb 2) (sb s_int)) a_nil)) a_nil)))
 (ss_cons (st_if (t_w (w_and (t_cmp (op_eqD (u64 hr)) fEq (sb (s_op op_mulW fMul (s_vb 3) (s_vb 3))) (sb (s_ix (s_vb 2) (sb s_int)))) (w_and1 (t_cmp (op_eqD (u64 hr)) fEq (sb (s_op op_mulW fMul (s_vb 4) (s_vb 4))) (sb (s_ix (s_vb 2) (sb s_int)))))))
 (ss_one (st_ret (s_op op_addA fAdd (sb (s_call F_lplus (hr.mono (by omega)) hg takes_def (g__law_plus kn) D_lplus.kp (PosB.bnd B_lplus) (a_cons (s_v 0) (a_cons (s_tup (a_cons (s_op op_mulW fMul (s_vb 1) (s_vb 3)) (a_cons (s_v 4) a_nil))) a_nil)))) (sb (s_tup (a_cons s_int (a_cons s_int (a_cons s_int a_nil))))))))
 ss_nil)
 (ss_one (st_ret (s_op op_addA fAdd (sb (s_op op_addA fAdd (s_vb 0) (sb (s_tup (a_cons (s_v 1) a_nil))))) (s_vb 2)))))))
def n_ldue : List Str := ["thing", "it"]
theorem sc_ldue : FnScope n_ldue ps_ldue (defScope (top 63)) := ⟨rfl, rfl, rfl, by decide +kernel, rfl, by decide +kernel, by decide +kernel⟩
def b_ldue (r : DM) : SM :=
 (seqS (ifS (tst (callB (isiB S0 [0]) (consM (varB 0) (consM (cM (.ty "list")) nilM))))
 (retS (callM m_lfive 3 3 (fun ds _ => ds) (consM (callM m_lnumber 2 2 (fun ds _ => ds) (consM (op2 ixD (varB 0) (cM (.int 0))) (consM (op2 ixD (varB 0) (cM (.int 1))) nilM))) (consM (cM (.int 0)) (consM (tupM (consM (cM (.int 0)) (consM (cM (.int 1)) nilM))) nilM)))))
 nilS)
 (retS (ifM (tst (callB (isiB S0 [0]) (consM (varB 0) (consM (cM (.ty "tuple")) nilM)))) (callB tupleB (consM (frzM (compM [1] (seqW (varM 0)) (setG 1) (cM true) (callM r 1 1 (fun ds _ => ds) (consM (varM 1) nilM)))) nilM)) (varM 0))))
def m_ldue : Nat → DM
  | 0 => fun _ _ => .fail
  | n + 1 => fun ds st => fin (b_ldue (m_ldue n) (startD n_ldue ds) st)
theorem ok_ldue {P : Program} {w : World} {K : Frg} {mg : Str → Option Value} {base : Heap} {T : List (Addr × Str)} (kn : Kn K mg) (n : Nat) : ∃ fd, FD_ldue K fd ∧ PosB K fd ps_ldue ∧ FnSem P w K mg base (Sx T) (3 + n) (He.ga K "_law_due") fd ps_ldue (m_ldue n) := by
  obtain ⟨fd_lfive, D_lfive, B_lfive, F_lfive⟩ := ok_lfive (P := P) (w := w) (base := base) (T := T) kn
  obtain ⟨fd_lnumber, D_lnumber, B_lnumber, F_lnumber⟩ := ok_lnumber (P := P) (w := w) (base := base) (T := T) kn
  obtain ⟨fd, D_ldue⟩ := d_ldue kn
  have B_ldue := pb_ldue D_ldue
  refine ⟨fd, D_ldue, B_ldue, ?_⟩
  induction n with
  | zero => exact FnSem.none
  | succ n Fr =>
    refine FnSem.of (k := 3 + n) (sm := b_ldue (m_ldue n)) D_ldue sc_ldue fun cdv A outer s H E O hr hg => ?_
    exact (ss_cons (st_if (t_val (s_callB call_isiA (cIsiT (isF kn)) (fr_isinstance kn) bt_isinstance (b_cons (s_vb 0) (b_cons (sb (s_ty (fr_list kn) bt_list)) b_nil))))
 (ss_one (st_ret (s_call F_lfive (hr.mono (by omega)) hg takes_def (g__law_five kn) D_lfive.kp (PosB.bnd B_lfive) (a_cons (s_call F_lnumber (hr.mono (by omega)) hg takes_def (g__law_number kn) D_lnumber.kp (PosB.bnd B_lnumber) (a_cons (s_ix (s_vb 0) (sb s_int)) (a_cons (s_ix (s_vb 0) (sb s_int)) a_nil))) (a_cons s_int (a_cons (s_tup (a_cons s_int (a_cons s_int a_nil))) a_nil))))))
 ss_nil)
 (ss_one (st_ret (s_if (t_val (s_callB call_isiA (cIsiT (isF kn)) (fr_isinstance kn) bt_isinstance (b_cons (s_vb 0) (b_cons (sb (s_ty (fr_tuple kn) bt_tuple)) b_nil)))) (s_callT call_tuple_of cTuple (fr_tuple kn) bt_tuple (b_cons (sb (s_frz (f_comp [("it", 1)] (tgt_name 1) sc_ldue.nd (i_seq (s_v 0)) (blkOk_by (by kernel_rfl)) (fun _ _ _ _ _ => pg_name sc_ldue.nd rfl (by first | exact Or.inl rfl | exact Or.inr rfl) (by first | exact .inl rfl | exact .inr rfl)) (fun _ _ _ _ _ => pt_nil) (fun _ _ _ _ _ => (s_call Fr (hr.mono (by omega)) hg takes_blkD (g__law_due kn) D_ldue.kp (PosB.bnd B_ldue) (a_cons (s_v 1) a_nil)))))) b_nil)) (s_v 0)))))
def n_lis_whole : List Str := ["thing"]
theorem sc_lis_whole : FnScope n_lis_whole ps_lis_whole (defScope (top 52)) := ⟨rfl, rfl, rfl, by decide +kernel, rfl, by decide +kernel, by decide +kernel⟩
def b_lis_whole : SM :=
 (retS (andV (callB (isiB S0 [0]) (consM (varB 0) (consM (cM (.ty "int")) nilM))) (notV (callB (isiB S0 [0]) (consM (varB 0) (consM (cM (.ty "bool")) nilM))))))
def m_lis_whole : DM := fun ds st => fin (b_lis_whole (startD n_lis_whole ds) st)
theorem ok_lis_whole {P : Program} {w : World} {K : Frg} {mg : Str → Option Value} {base : Heap} {T : List (Addr × Str)} (kn : Kn K mg) : ∃ fd, FD_lis_whole K fd ∧ PosB K fd ps_lis_whole ∧ FnSem P w K mg base (Sx T) 1 (He.ga K "_law_is_whole") fd ps_lis_whole m_lis_whole := by
  obtain ⟨fd, D⟩ := d_lis_whole kn
  refine ⟨fd, D, pb_lis_whole D, FnSem.of (sm := b_lis_whole) D sc_lis_whole fun cdv A outer s H E O hr hg => ?_⟩
  exact (ss_one (st_ret (s_and (s_callB call_isiA (cIsiT (isF kn)) (fr_isinstance kn) bt_isinstance (b_cons (s_vb 0) (b_cons (sb (s_ty (fr_int kn) bt_int)) b_nil))) (s_one (s_not (s_callB call_isiA (cIsiT (isF kn)) (fr_isinstance kn) bt_isinstance (b_cons (s_vb 0) (b_cons (sb (s_ty (fr_bool kn) bt_bool)) b_nil))))))))
def n_llisted : List Str := ["thing", "it"]
theorem sc_llisted : FnScope n_llisted ps_llisted (defScope (top 67)) := ⟨rfl, rfl, rfl, by decide +kernel, rfl, by decide +kernel, by decide +kernel⟩
def b_llisted (r : DM) : SM :=
 (seqS (ifS (andM (tst (callB (isiB S0 [0]) (consM (varB 0) (consM (cM (.ty "tuple")) nilM)))) (andM (tst (op2 eqD (callB lenB (consM (varB 0) nilM)) (cM (.int 2)))) (andM (tst (callM m_lis_whole 1 1 (fun ds _ => ds) (consM (op2 ixD (varB 0) (cM (.int 0))) nilM))) (tst (callM m_lis_whole 1 1 (fun ds _ => ds) (consM (op2 ixD (varB 0) (cM (.int 1))) nilM))))))
 (retS (frzM (callBF listB (consM (varB 0) nilM))))
 nilS)
 (retS (ifM (tst (callB (isiB S0 [0]) (consM (varB 0) (consM (cM (.ty "tuple")) nilM)))) (callB tupleB (consM (frzM (compM [1] (seqW (varM 0)) (setG 1) (cM true) (callM r 1 1 (fun ds _ => ds) (consM (varM 1) nilM)))) nilM)) (varM 0))))
def m_llisted : Nat → DM
  | 0 => fun _ _ => .fail
  | n + 1 => fun ds st => fin (b_llisted (m_llisted n) (startD n_llisted ds) st)
theorem ok_llisted {P : Program} {w : World} {K : Frg} {mg : Str → Option Value} {base : Heap} {T : List (Addr × Str)} (kn : Kn K mg) (n : Nat) : ∃ fd, FD_llisted K fd ∧ PosB K fd ps_llisted ∧ FnSem P w K mg base (Sx T) (1 + n) (He.ga K "_law_listed") fd ps_llisted (m_llisted n) := by
  obtain ⟨fd_lis_whole, D_lis_whole, B_lis_whole, F_lis_whole⟩ := ok_lis_whole (P := P) (w := w) (base := base) (T := T) kn
  obtain ⟨fd, D_llisted⟩ := d_llisted kn
  have B_llisted := pb_llisted D_llisted
  refine ⟨fd, D_llisted, B_llisted, ?_⟩
  induction n with
  | zero => exact FnSem.none
  | succ n Fr =>
    refine FnSem.of (k := 1 + n) (sm := b_llisted (m_llisted n)) D_llisted sc_llisted fun cdv A outer s H E O hr hg => ?_
    exact (ss_cons (st_if (t_w (w_and (t_val (s_callB call_isiA (cIsiT (isF kn)) (fr_isinstance kn) bt_isinstance (b_cons (s_vb 0) (b_cons (sb (s_ty (fr_tuple kn) bt_tuple)) b_nil)))) (w_and (t_cmp (op_eqD (u64 hr)) fEq (sb (s_callB call_len cLen (fr_len kn) bt_len (b_cons (s_vb 0) b_nil))) (sb s_int)) (w_and (t_val (s_call F_lis_whole (hr.mono (by omega)) hg takes_def (g__law_is_whole kn) D_lis_whole.kp (PosB.bnd B_lis_whole) (a_cons (s_ix (s_vb 0) (sb s_int)) a_nil))) (w_and1 (t_val (s_call F_lis_whole (hr.mono (by omega)) hg takes_def (g__law_is_whole kn) D_lis_whole.kp (PosB.bnd B_lis_whole) (a_cons (s_ix (s_vb 0) (sb s_int)) a_nil))))))))
 (ss_one (st_ret (s_frz (f_callT call_list_of cList (fr_list kn) bt_list (b_cons (s_vb 0) b_nil)))))
 ss_nil)
 (ss_one (st_ret (s_if (t_val (s_callB call_isiA (cIsiT (isF kn)) (fr_isinstance kn) bt_isinstance (b_cons (s_vb 0) (b_cons (sb (s_ty (fr_tuple kn) bt_tuple)) b_nil)))) (s_callT call_tuple_of cTuple (fr_tuple kn) bt_tuple (b_cons (sb (s_frz (f_comp [("it", 1)] (tgt_name 1) sc_llisted.nd (i_seq (s_v 0)) (blkOk_by (by kernel_rfl)) (fun _ _ _ _ _ => pg_name sc_llisted.nd rfl (by first | exact Or.inl rfl | exact Or.inr rfl) (by first | exact .inl rfl | exact .inr rfl)) (fun _ _ _ _ _ => pt_nil) (fun _ _ _ _ _ => (s_call Fr (hr.mono (by omega)) hg takes_blkD (g__law_listed kn) D_llisted.kp (PosB.bnd B_llisted) (a_cons (s_v 1) a_nil)))))) b_nil)) (s_v 0)))))
def n_lsquare_way : List Str := ["p", "q", "x", "y"]
theorem sc_lsquare_way : FnScope n_lsquare_way ps_lsquare_way (defScope (top 70)) := ⟨rfl, rfl, rfl, by decide +kernel, rfl, by decide +kernel, by decide +kernel⟩
def b_lsquare_way : SM :=
 (seqS (parS 2 3 (consM (callM m_lminus 2 2 (fun ds _ => ds) (consM (op2 ixD (varB 1) (cM (.int 0))) (consM (op2 ixD (varB 0) (cM (.int 0))) nilM))) (consM (callM m_lminus 2 2 (fun ds _ => ds) (consM (op2 ixD (varB 1) (cM (.int 1))) (consM (op2 ixD (varB 0) (cM (.int 1))) nilM))) nilM)))
 (retS (callM m_lplus 2 2 (fun ds _ => ds) (consM (callM m_ltimes 2 2 (fun ds _ => ds) (consM (varM 2) (consM (varM 2) nilM))) (consM (callM m_ltimes 2 2 (fun ds _ => ds) (consM (varM 3) (consM (varM 3) nilM))) nilM)))))
def m_lsquare_way : DM := fun ds st => fin (b_lsquare_way (startD n_lsquare_way ds) st)
theorem ok_lsquare_way {P : Program} {w : World} {K : Frg} {mg : Str → Option Value} {base : Heap} {T : List (Addr × Str)} (kn : Kn K mg) : ∃ fd, FD_lsquare_way K fd ∧ PosB K fd ps_lsquare_way ∧ FnSem P w K mg base (Sx T) 3 (He.ga K "_law_square_way") fd ps_lsquare_way m_lsquare_way := by
  obtain ⟨fd_lminus, D_lminus, B_lminus, F_lminus⟩ := ok_lminus (P := P) (w := w) (base := base) (T := T) kn
  obtain ⟨fd_lplus, D_lplus, B_lplus, F_lplus⟩ := ok_lplus (P := P) (w := w) (base := base) (T := T) kn
  obtain ⟨fd_ltimes, D_ltimes, B_ltimes, F_ltimes⟩ := ok_ltimes (P := P) (w := w) (base := base) (T := T) kn
  obtain ⟨fd, D⟩ := d_lsquare_way kn
  refine ⟨fd, D, pb_lsquare_way D, FnSem.of (sm := b_lsquare_way) D sc_lsquare_way fun cdv A outer s H E O hr hg => ?_⟩
  exact (ss_cons (st_par sc_lsquare_way.nd (a_cons (s_call F_lminus (hr.mono (by omega)) hg takes_def (g__law_minus kn) D_lminus.kp (PosB.bnd B_lminus) (a_cons (s_ix (s_vb 1) (sb s_int)) (a_cons (s_ix (s_vb 0) (sb s_int)) a_nil))) (a_cons (s_call F_lminus (hr.mono (by omega)) hg takes_def (g__law_minus kn) D_lminus.kp (PosB.bnd B_lminus) (a_cons (s_ix (s_vb 1) (sb s_int)) (a_cons (s_ix (s_vb 0) (sb s_int)) a_nil))) a_nil)))
 (ss_one (st_ret (s_call F_lplus (hr.mono (by omega)) hg takes_def (g__law_plus kn) D_lplus.kp (PosB.bnd B_lplus) (a_cons (s_call F_ltimes (hr.mono (by omega)) hg takes_def (g__law_times kn) D_ltimes.kp (PosB.bnd B_ltimes) (a_cons (s_v 2) (a_cons (s_v 2) a_nil))) (a_cons (s_call F_ltimes (hr.mono (by omega)) hg takes_def (g__law_times kn) D_ltimes.kp (PosB.bnd B_ltimes) (a_cons (s_v 3) (a_cons (s_v 3) a_nil))) a_nil))))))
def n_lby_three : List Str := ["p", "q", "r", "one", "other", "a", "b", "c", "d", "bottom", "x", "y", "middle"]
theorem sc_lby_three : FnScope n_lby_three ps_lby_three (defScope (top 78)) := ⟨rfl, rfl, rfl, by decide +kernel, rfl, by decide +kernel, by decide +kernel⟩
def b_lby_three : SM :=
 (seqS (parS 3 4 (consM (callM m_lsquare_way 2 2 (fun ds _ => ds) (consM (varM 0) (consM (varM 1) nilM))) (consM (callM m_lsquare_way 2 2 (fun ds _ => ds) (consM (varM 0) (consM (varM 2) nilM))) nilM)))
 (seqS (asgS (tupM (consM (callM m_lminus 2 2 (fun ds _ => ds) (consM (op2 ixD (varB 1) (cM (.int 0))) (consM (op2 ixD (varB 0) (cM (.int 0))) nilM))) (consM (callM m_lminus 2 2 (fun ds _ => ds) (consM (op2 ixD (varB 1) (cM (.int 1))) (consM (op2 ixD (varB 0) (cM (.int 1))) nilM))) (consM (callM m_lminus 2 2 (fun ds _ => ds) (consM (op2 ixD (varB 2) (cM (.int 0))) (consM (op2 ixD (varB 0) (cM (.int 0))) nilM))) (consM (callM m_lminus 2 2 (fun ds _ => ds) (consM (op2 ixD (varB 2) (cM (.int 1))) (consM (op2 ixD (varB 0) (cM (.int 1))) nilM))) nilM))))) (tupG 4 (consG (setG 5) (consG (setG 6) (consG (setG 7) (consG (setG 8) nilG))))))
 (seqS (setS 9 (callM m_ltimes 2 2 (fun ds _ => ds) (consM (tupM (consM (cM (.int 2)) (consM (cM (.int 1)) nilM))) (consM (callM m_lminus 2 2 (fun ds _ => ds) (consM (callM m_ltimes 2 2 (fun ds _ => ds) (consM (varM 5) (consM (varM 8) nilM))) (consM (callM m_ltimes 2 2 (fun ds _ => ds) (consM (varM 6) (consM (varM 7) nilM))) nilM))) nilM))))
 (seqS (setS 10 (callM m_lby 2 2 (fun ds _ => ds) (consM (callM m_lminus 2 2 (fun ds _ => ds) (consM (callM m_ltimes 2 2 (fun ds _ => ds) (consM (varM 3) (consM (varM 8) nilM))) (consM (callM m_ltimes 2 2 (fun ds _ => ds) (consM (varM 4) (consM (varM 6) nilM))) nilM))) (consM (varM 9) nilM))))
 (seqS (setS 11 (callM m_lby 2 2 (fun ds _ => ds) (consM (callM m_lminus 2 2 (fun ds _ => ds) (consM (callM m_ltimes 2 2 (fun ds _ => ds) (consM (varM 5) (consM (varM 4) nilM))) (consM (callM m_ltimes 2 2 (fun ds _ => ds) (consM (varM 7) (consM (varM 3) nilM))) nilM))) (consM (varM 9) nilM))))
 (seqS (setS 12 (tupM (consM (callM m_lplus 2 2 (fun ds _ => ds) (consM (op2 ixD (varB 0) (cM (.int 0))) (consM (varM 10) nilM))) (consM (callM m_lplus 2 2 (fun ds _ => ds) (consM (op2 ixD (varB 0) (cM (.int 1))) (consM (varM 11) nilM))) nilM))))
 (retS (tupM (consM (varM 12) (consM (callM m_lsquare_way 2 2 (fun ds _ => ds) (consM (varM 12) (consM (varM 0) nilM))) nilM))))))))))
def m_lby_three : DM := fun ds st => fin (b_lby_three (startD n_lby_three ds) st)
theorem ok_lby_three {P : Program} {w : World} {K : Frg} {mg : Str → Option Value} {base : Heap} {T : List (Addr × Str)} (kn : Kn K mg) : ∃ fd, FD_lby_three K fd ∧ PosB K fd ps_lby_three ∧ FnSem P w K mg base (Sx T) 4 (He.ga K "_law_by_three") fd ps_lby_three m_lby_three := by
  obtain ⟨fd_lsquare_way, D_lsquare_way, B_lsquare_way, F_lsquare_way⟩ := ok_lsquare_way (P := P) (w := w) (base := base) (T := T) kn
  obtain ⟨fd_lminus, D_lminus, B_lminus, F_lminus⟩ := ok_lminus (P := P) (w := w) (base := base) (T := T) kn
  obtain ⟨fd_ltimes, D_ltimes, B_ltimes, F_ltimes⟩ := ok_ltimes (P := P) (w := w) (base := base) (T := T) kn
  obtain ⟨fd_lby, D_lby, B_lby, F_lby⟩ := ok_lby (P := P) (w := w) (base := base) (T := T) kn
  obtain ⟨fd_lplus, D_lplus, B_lplus, F_lplus⟩ := ok_lplus (P := P) (w := w) (base := base) (T := T) kn
  obtain ⟨fd, D⟩ := d_lby_three kn
  refine ⟨fd, D, pb_lby_three D, FnSem.of (sm := b_lby_three) D sc_lby_three fun cdv A outer s H E O hr hg => ?_⟩
  exact (ss_cons (st_par sc_lby_three.nd (a_cons (s_call F_lsquare_way (hr.mono (by omega)) hg takes_def (g__law_square_way kn) D_lsquare_way.kp (PosB.bnd B_lsquare_way) (a_cons (s_v 0) (a_cons (s_v 1) a_nil))) (a_cons (s_call F_lsquare_way (hr.mono (by omega)) hg takes_def (g__law_square_way kn) D_lsquare_way.kp (PosB.bnd B_lsquare_way) (a_cons (s_v 0) (a_cons (s_v 2) a_nil))) a_nil)))
 (ss_cons (st_asg (s_tup (a_cons (s_call F_lminus (hr.mono (by omega)) hg takes_def (g__law_minus kn) D_lminus.kp (PosB.bnd B_lminus) (a_cons (s_ix (s_vb 1) (sb s_int)) (a_cons (s_ix (s_vb 0) (sb s_int)) a_nil))) (a_cons (s_call F_lminus (hr.mono (by omega)) hg takes_def (g__law_minus kn) D_lminus.kp (PosB.bnd B_lminus) (a_cons (s_ix (s_vb 1) (sb s_int)) (a_cons (s_ix (s_vb 0) (sb s_int)) a_nil))) (a_cons (s_call F_lminus (hr.mono (by omega)) hg takes_def (g__law_minus kn) D_lminus.kp (PosB.bnd B_lminus) (a_cons (s_ix (s_vb 2) (sb s_int)) (a_cons (s_ix (s_vb 0) (sb s_int)) a_nil))) (a_cons (s_call F_lminus (hr.mono (by omega)) hg takes_def (g__law_minus kn) D_lminus.kp (PosB.bnd B_lminus) (a_cons (s_ix (s_vb 2) (sb s_int)) (a_cons (s_ix (s_vb 0) (sb s_int)) a_nil))) a_nil))))) (g_tup (gs_cons (ml_name 5 sc_lby_three.nd) (mild_set 5) (gs_cons (ml_name 6 sc_lby_three.nd) (mild_set 6) (gs_cons (ml_name 7 sc_lby_three.nd) (mild_set 7) (gs_cons (ml_name 8 sc_lby_three.nd) (mild_set 8) gs_nil))))))
 (ss_cons (st_set 9 sc_lby_three.nd (s_call F_ltimes (hr.mono (by omega)) hg takes_def (g__law_times kn) D_ltimes.kp (PosB.bnd B_ltimes) (a_cons (s_tup (a_cons s_int (a_cons s_int a_nil))) (a_cons (s_call F_lminus (hr.mono (by omega)) hg takes_def (g__law_minus kn) D_lminus.kp (PosB.bnd B_lminus) (a_cons (s_call F_ltimes (hr.mono (by omega)) hg takes_def (g__law_times kn) D_ltimes.kp (PosB.bnd B_ltimes) (a_cons (s_v 5) (a_cons (s_v 8) a_nil))) (a_cons (s_call F_ltimes (hr.mono (by omega)) hg takes_def (g__law_times kn) D_ltimes.kp (PosB.bnd B_ltimes) (a_cons (s_v 6) (a_cons (s_v 7) a_nil))) a_nil))) a_nil))))
 (ss_cons (st_set 10 sc_lby_three.nd (s_call F_lby (hr.mono (by omega)) hg takes_def (g__law_by kn) D_lby.kp (PosB.bnd B_lby) (a_cons (s_call F_lminus (hr.mono (by omega)) hg takes_def (g__law_minus kn) D_lminus.kp (PosB.bnd B_lminus) (a_cons (s_call F_ltimes (hr.mono (by omega)) hg takes_def (g__law_times kn) D_ltimes.kp (PosB.bnd B_ltimes) (a_cons (s_v 3) (a_cons (s_v 8) a_nil))) (a_cons (s_call F_ltimes (hr.mono (by omega)) hg takes_def (g__law_times kn) D_ltimes.kp (PosB.bnd B_ltimes) (a_cons (s_v 4) (a_cons (s_v 6) a_nil))) a_nil))) (a_cons (s_v 9) a_nil))))
 (ss_cons (st_set 11 sc_lby_three.nd (s_call F_lby (hr.mono (by omega)) hg takes_def (g__law_by kn) D_lby.kp (PosB.bnd B_lby) (a_cons (s_call F_lminus (hr.mono (by omega)) hg takes_def (g__law_minus kn) D_lminus.kp (PosB.bnd B_lminus) (a_cons (s_call F_ltimes (hr.mono (by omega)) hg takes_def (g__law_times kn) D_ltimes.kp (PosB.bnd B_ltimes) (a_cons (s_v 5) (a_cons (s_v 4) a_nil))) (a_cons (s_call F_ltimes (hr.mono (by omega)) hg takes_def (g__law_times kn) D_ltimes.kp (PosB.bnd B_ltimes) (a_cons (s_v 7) (a_cons (s_v 3) a_nil))) a_nil))) (a_cons (s_v 9) a_nil))))
 (ss_cons (st_set 12 sc_lby_three.nd (s_tup (a_cons (s_call F_lplus (hr.mono (by omega)) hg takes_def (g__law_plus kn) D_lplus.kp (PosB.bnd B_lplus) (a_cons (s_ix (s_vb 0) (sb s_int)) (a_cons (s_v 10) a_nil))) (a_cons (s_call F_lplus (hr.mono (by omega)) hg takes_def (g__law_plus kn) D_lplus.kp (PosB.bnd B_lplus) (a_cons (s_ix (s_vb 0) (sb s_int)) (a_cons (s_v 11) a_nil))) a_nil))))
 (ss_one (st_ret (s_tup (a_cons (s_v 12) (a_cons (s_call F_lsquare_way (hr.mono (by omega)) hg takes_def (g__law_square_way kn) D_lsquare_way.kp (PosB.bnd B_lsquare_way) (a_cons (s_v 12) (a_cons (s_v 0) a_nil))) a_nil)))))))))))
def n_power_of : List Str := ["point", "circle"]
theorem sc_power_of : FnScope n_power_of ps_power_of (defScope (top 43)) := ⟨rfl, rfl, rfl, by decide +kernel, rfl, by decide +kernel, by decide +kernel⟩
def b_power_of : SM :=
 (retS (methM 0 m_Exact_minus 2 (callM m_square_of 2 2 (fun ds _ => ds) (consM (op2 ixD (varB 1) (cM (.int 0))) (consM (varM 0) nilM))) (consM (op2 ixD (varB 1) (cM (.int 1))) nilM)))
def m_power_of : DM := fun ds st => fin (b_power_of (startD n_power_of ds) st)
theorem ok_power_of {P : Program} {w : World} {K : Frg} {mg : Str → Option Value} {base : Heap} {T : List (Addr × Str)} (kn : Kn K mg) : ∃ fd, FD_power_of K fd ∧ PosB K fd ps_power_of ∧ FnSem P w K mg base (Sx T) 10 (He.ga K "power_of") fd ps_power_of m_power_of := by
  obtain ⟨fd_Exact_minus, D_Exact_minus, B_Exact_minus, F_Exact_minus⟩ := ok_Exact_minus (P := P) (w := w) (base := base) (T := T) kn
  obtain ⟨fd_square_of, D_square_of, B_square_of, F_square_of⟩ := ok_square_of (P := P) (w := w) (base := base) (T := T) kn
  obtain ⟨fd, D⟩ := d_power_of kn
  refine ⟨fd, D, pb_power_of D, FnSem.of (sm := b_power_of) D sc_power_of fun cdv A outer s H E O hr hg => ?_⟩
  exact (ss_one (st_ret (s_meth 0 takes_def F_Exact_minus (hr.mono (by omega)) hg (hc_Exact kn) (me_Exact_minus kn) (by have h : ("minus" : Str) ∉ cf 0 := (by decide +kernel); exact h) B_Exact_minus (s_call F_square_of (hr.mono (by omega)) hg takes_def (g_square_of kn) D_square_of.kp (PosB.bnd B_square_of) (a_cons (s_ix (s_vb 1) (sb s_int)) (a_cons (s_v 0) a_nil))) (a_cons (s_ix (s_vb 1) (sb s_int)) a_nil))))
def n_lis_by_three : List Str := ["deck", "p", "q", "r", "way", "in_row", "due", "one", "two", "three", "told", "circle", "it"]
theorem sc_lis_by_three : FnScope n_lis_by_three ps_lis_by_three (defScope (top 80)) := ⟨rfl, rfl, rfl, by decide +kernel, rfl, by decide +kernel, by decide +kernel⟩
def b_lis_by_three : SM :=
 (seqS (par3S 1 2 3 (consM (callM m_lpoint 1 1 (fun ds _ => ds) (consM (varM 0) nilM)) (consM (callM m_lpoint 1 1 (fun ds _ => ds) (consM (varM 0) nilM)) (consM (callM m_lpoint 1 1 (fun ds _ => ds) (consM (varM 0) nilM)) nilM))))
 (seqS (setS 4 (callM m_ldraw 2 2 (fun ds _ => ds) (consM (varM 0) (consM (cM (.int 5)) nilM))))
 (seqS (ifS (andM (tst (op2 eqD (varB 4) (cM (.int 0)))) (tst (op2 neD (varB 1) (varB 2))))
 (setS 3 (callM m_lon 2 2 (fun ds _ => ds) (consM (varM 0) (consM (callM m_lthrough 2 2 (fun ds _ => ds) (consM (varM 1) (consM (varM 2) nilM))) nilM))))
 nilS)
 (seqS (setS 3 (ifM (tst (op2 eqD (varB 4) (cM (.int 1)))) (callM m_lpick 2 2 (fun ds _ => ds) (consM (varM 0) (consM (frzM (lstM (consM (varM 1) (consM (varM 2) nilM)))) nilM))) (varM 3)))
 (seqS (setS 5 (op2 eqD (callM m_lsign 1 1 (fun ds _ => ds) (consM (callM m_lturns 3 3 (fun ds _ => ds) (consM (varM 1) (consM (varM 2) (consM (varM 3) nilM)))) nilM)) (cM (.int 0))))
 (seqS (setS 6 (ifM (tst (varM 5)) (tupM (consM (cM (.str "circle")) (consM (cM (.bl true)) nilM))) (tupM (consM (cM (.str "told")) (consM (callM (m_ldue 8) 1 1 (fun ds _ => ds) (consM (callM (m_llisted 8) 1 1 (fun ds _ => ds) (consM (callM m_lby_three 3 3 (fun ds _ => ds) (consM (varM 1) (consM (varM 2) (consM (varM 3) nilM)))) nilM)) nilM)) nilM)))))
 (seqS (asgS (tupM (consM (callM m_lspot 1 1 (fun ds _ => ds) (consM (varM 1) nilM)) (consM (callM m_lspot 1 1 (fun ds _ => ds) (consM (varM 2) nilM)) (consM (callM m_lspot 1 1 (fun ds _ => ds) (consM (varM 3) nilM)) nilM)))) (tupG 3 (consG (setG 7) (consG (setG 8) (consG (setG 9) nilG)))))
 (seqS (setF 10 (lstM (consM (lamM 2 b_lheard (callM m_circle_by 3 3 (fun ds _ => ds) (consM (varM 7) (consM (varM 8) (consM (varM 9) nilM))))) nilM)))
 (seqS (mutS 10 appF (consM (lamM 2 b_lheard (callKM m_circle_by 0 3 (fun ds es => pick [1, 2, 0] (ds ++ es)) nilM (consM (varM 8) (consM (varM 9) (consM (varM 7) nilM))))) nilM))
 (seqS (fzS 10)
 (seqS (ifS (notM (tst (callM m_lsame 2 2 (fun ds _ => ds) (consM (varM 10) (consM (frzM (lstM (consM (varM 6) (consM (varM 6) nilM)))) nilM)))))
 (retS (cM (.bl false)))
 nilS)
 (seqS (ifS (tst (varM 5))
 (retS (cM (.bl true)))
 nilS)
 (seqS (setS 11 (callM m_circle_by 3 3 (fun ds _ => ds) (consM (varM 7) (consM (varM 8) (consM (varM 9) nilM)))))
 (retS (op2 eqD (frzM (compM [12] (seqW (tupM (consM (varM 7) (consM (varM 8) (consM (varM 9) nilM))))) (setG 12) (notM (tst (callM m_lsame 2 2 (fun ds _ => ds) (consM (callM (m_ltold 8) 1 1 (fun ds _ => ds) (consM (callM m_power_of 2 2 (fun ds _ => ds) (consM (varM 12) (consM (varM 11) nilM))) nilM)) (consM (tupM (consM (cM (.int 0)) (consM (cM (.int 1)) (consM (cM (.int 0)) (consM (cM (.int 0)) (consM (cM (.int 1)) nilM)))))) nilM))))) (cM (.int 1)))) (frzM (lstM nilM)))))))))))))))))
def m_lis_by_three : DM := fun ds st => fin (b_lis_by_three (startD n_lis_by_three ds) st)
theorem ok_lis_by_three {P : Program} {w : World} {K : Frg} {mg : Str → Option Value} {base : Heap} {T : List (Addr × Str)} (kn : Kn K mg) (mk : MkOk K mg base T) : ∃ fd, FD_lis_by_three K fd ∧ PosB K fd ps_lis_by_three ∧ FnSem P w K mg base (Sx T) 15 (He.ga K "_law_is_by_three") fd ps_lis_by_three m_lis_by_three := by
  obtain ⟨fd_lpoint, D_lpoint, B_lpoint, F_lpoint⟩ := ok_lpoint (P := P) (w := w) (base := base) (T := T) kn
  obtain ⟨fd_ldraw, D_ldraw, B_ldraw, F_ldraw⟩ := ok_ldraw (P := P) (w := w) (base := base) (T := T) kn
  obtain ⟨fd_lon, D_lon, B_lon, F_lon⟩ := ok_lon (P := P) (w := w) (base := base) (T := T) kn
  obtain ⟨fd_lthrough, D_lthrough, B_lthrough, F_lthrough⟩ := ok_lthrough (P := P) (w := w) (base := base) (T := T) kn
  obtain ⟨fd_lpick, D_lpick, B_lpick, F_lpick⟩ := ok_lpick (P := P) (w := w) (base := base) (T := T) kn
  obtain ⟨fd_lsign, D_lsign, B_lsign, F_lsign⟩ := ok_lsign (P := P) (w := w) (base := base) (T := T) kn
  obtain ⟨fd_lturns, D_lturns, B_lturns, F_lturns⟩ := ok_lturns (P := P) (w := w) (base := base) (T := T) kn
  obtain ⟨fd_ldue, D_ldue, B_ldue, F_ldue⟩ := ok_ldue (P := P) (w := w) (base := base) (T := T) kn 8
  obtain ⟨fd_llisted, D_llisted, B_llisted, F_llisted⟩ := ok_llisted (P := P) (w := w) (base := base) (T := T) kn 8
  obtain ⟨fd_lby_three, D_lby_three, B_lby_three, F_lby_three⟩ := ok_lby_three (P := P) (w := w) (base := base) (T := T) kn
  obtain ⟨fd_lspot, D_lspot, B_lspot, F_lspot⟩ := ok_lspot (P := P) (w := w) (base := base) (T := T) kn
  obtain ⟨fd_lheard, D_lheard⟩ := d_lheard kn
  have B_lheard := pb_lheard D_lheard
  obtain ⟨fd_circle_by, D_circle_by, B_circle_by, F_circle_by⟩ := ok_circle_by (P := P) (w := w) (base := base) (T := T) kn
  obtain ⟨fd_lsame, D_lsame, B_lsame, F_lsame⟩ := ok_lsame (P := P) (w := w) (base := base) (T := T) kn
  obtain ⟨fd_ltold, D_ltold, B_ltold, F_ltold⟩ := ok_ltold (P := P) (w := w) (base := base) (T := T) kn 8
  obtain ⟨fd_power_of, D_power_of, B_power_of, F_power_of⟩ := ok_power_of (P := P) (w := w) (base := base) (T := T) kn
  obtain ⟨fd, c, Q, D, hTB, hcode, hmT, hu⟩ := mk.m_lis_by_three
  refine ⟨fd, D, pb_lis_by_three D, FnSem.ofC (sm := b_lis_by_three) D sc_lis_by_three fun A outer s H E O hr hg => ?_⟩
  exact (ss_cons (st_par3 sc_lis_by_three.nd (a_cons (s_call F_lpoint (hr.mono (by omega)) hg takes_def (g__law_point kn) D_lpoint.kp (PosB.bnd B_lpoint) (a_cons (s_v 0) a_nil)) (a_cons (s_call F_lpoint (hr.mono (by omega)) hg takes_def (g__law_point kn) D_lpoint.kp (PosB.bnd B_lpoint) (a_cons (s_v 0) a_nil)) (a_cons (s_call F_lpoint (hr.mono (by omega)) hg takes_def (g__law_point kn) D_lpoint.kp (PosB.bnd B_lpoint) (a_cons (s_v 0) a_nil)) a_nil))))
 (ss_cons (st_set 4 sc_lis_by_three.nd (s_call F_ldraw (hr.mono (by omega)) hg takes_def (g__law_draw kn) D_ldraw.kp (PosB.bnd B_ldraw) (a_cons (s_v 0) (a_cons s_int a_nil))))
 (ss_cons (st_if (t_w (w_and (t_cmp (op_eqD (u64 hr)) fEq (s_vb 4) (sb s_int)) (w_and1 (t_cmp (op_neD (u64 hr)) fNe (s_vb 1) (s_vb 2)))))
 (ss_one (st_set 3 sc_lis_by_three.nd (s_call F_lon (hr.mono (by omega)) hg takes_def (g__law_on kn) D_lon.kp (PosB.bnd B_lon) (a_cons (s_v 0) (a_cons (s_call F_lthrough (hr.mono (by omega)) hg takes_def (g__law_through kn) D_lthrough.kp (PosB.bnd B_lthrough) (a_cons (s_v 1) (a_cons (s_v 2) a_nil))) a_nil)))))
 ss_nil)
 (ss_cons (st_set 3 sc_lis_by_three.nd (s_if (t_cmp (op_eqD (u64 hr)) fEq (s_vb 4) (sb s_int)) (s_call F_lpick (hr.mono (by omega)) hg takes_def (g__law_pick kn) D_lpick.kp (PosB.bnd B_lpick) (a_cons (s_v 0) (a_cons (s_frz (f_lst (a_cons (s_v 1) (a_cons (s_v 2) a_nil)))) a_nil))) (s_v 3)))
 (ss_cons (st_set 5 sc_lis_by_three.nd (s_cmp (op_eqD (u64 hr)) fEq (sb (s_call F_lsign (hr.mono (by omega)) hg takes_def (g__law_sign kn) D_lsign.kp (PosB.bnd B_lsign) (a_cons (s_call F_lturns (hr.mono (by omega)) hg takes_def (g__law_turns kn) D_lturns.kp (PosB.bnd B_lturns) (a_cons (s_v 1) (a_cons (s_v 2) (a_cons (s_v 3) a_nil)))) a_nil))) (sb s_int)))
 (ss_cons (st_set 6 sc_lis_by_three.nd (s_if (t_val (s_v 5)) (s_tup (a_cons s_str (a_cons s_bl a_nil))) (s_tup (a_cons s_str (a_cons (s_call F_ldue (hr.mono (by omega)) hg takes_def (g__law_due kn) D_ldue.kp (PosB.bnd B_ldue) (a_cons (s_call F_llisted (hr.mono (by omega)) hg takes_def (g__law_listed kn) D_llisted.kp (PosB.bnd B_llisted) (a_cons (s_call F_lby_three (hr.mono (by omega)) hg takes_def (g__law_by_three kn) D_lby_three.kp (PosB.bnd B_lby_three) (a_cons (s_v 1) (a_cons (s_v 2) (a_cons (s_v 3) a_nil)))) a_nil)) a_nil)) a_nil)))))
 (ss_cons (st_asg (s_tup (a_cons (s_call F_lspot (hr.mono (by omega)) hg takes_def (g__law_spot kn) D_lspot.kp (PosB.bnd B_lspot) (a_cons (s_v 1) a_nil)) (a_cons (s_call F_lspot (hr.mono (by omega)) hg takes_def (g__law_spot kn) D_lspot.kp (PosB.bnd B_lspot) (a_cons (s_v 2) a_nil)) (a_cons (s_call F_lspot (hr.mono (by omega)) hg takes_def (g__law_spot kn) D_lspot.kp (PosB.bnd B_lspot) (a_cons (s_v 3) a_nil)) a_nil)))) (g_tup (gs_cons (ml_name 7 sc_lis_by_three.nd) (mild_set 7) (gs_cons (ml_name 8 sc_lis_by_three.nd) (mild_set 8) (gs_cons (ml_name 9 sc_lis_by_three.nd) (mild_set 9) gs_nil)))))
 (ss_cons (st_setF 10 sc_lis_by_three.nd (f_lst (a_cons (s_lamF 12 D_lheard takes_def (g__law_heard kn) B_lheard sc_lheard rfl (by first | exact Or.inl rfl | exact Or.inr (Or.inl rfl)) (fun A outer s H E O t hr hg act => w_lheard kn A outer s H E O t (hr.mono (by omega)) hg act) hTB hcode hmT hu (hr.mono (by omega)) hg (LamX.lamS_by (by kernel_rfl)) (fun A outer s H E f c' O hrL hgL tkL => (s_call F_circle_by (hrL.mono (by omega)) hgL tkL (g_circle_by kn) D_circle_by.kp (PosB.bnd B_circle_by) (a_cons (s_v 7) (a_cons (s_v 8) (a_cons (s_v 9) a_nil)))))) a_nil)))
 (ss_cons (st_mut m_append (pe_app1 (a_cons (s_lamF 12 D_lheard takes_def (g__law_heard kn) B_lheard sc_lheard rfl (by first | exact Or.inl rfl | exact Or.inr (Or.inl rfl)) (fun A outer s H E O t hr hg act => w_lheard kn A outer s H E O t (hr.mono (by omega)) hg act) hTB hcode hmT hu (hr.mono (by omega)) hg (LamX.lamS_by (by kernel_rfl)) (fun A outer s H E f c' O hrL hgL tkL => (s_callK0 F_circle_by (hrL.mono (by omega)) hgL tkL (g_circle_by kn) D_circle_by.kp (Bnd.kw (n := 0) (ks := ["r", "p", "q"]) D_circle_by [1, 2, 0] (fun _ _ _ _ _ _ us ws h1 h2 => match us, ws, h1, h2 with | [], [_, _, _], _, _ => rfl)) (k_cons (s_v 8) (k_cons (s_v 9) (k_cons (s_v 7) k_nil)))))) a_nil)))
 (ss_fz 10 (ss_cons (st_if (t_not (t_val (s_call F_lsame (hr.mono (by omega)) hg takes_def (g__law_same kn) D_lsame.kp (PosB.bnd B_lsame) (a_cons (s_v 10) (a_cons (s_frz (f_lst (a_cons (s_v 6) (a_cons (s_v 6) a_nil)))) a_nil)))))
 (ss_one (st_ret s_bl))
 ss_nil)
 (ss_cons (st_if (t_val (s_v 5))
 (ss_one (st_ret s_bl))
 ss_nil)
 (ss_cons (st_set 11 sc_lis_by_three.nd (s_call F_circle_by (hr.mono (by omega)) hg takes_def (g_circle_by kn) D_circle_by.kp (PosB.bnd B_circle_by) (a_cons (s_v 7) (a_cons (s_v 8) (a_cons (s_v 9) a_nil)))))
 (ss_one (st_ret (s_cmp (op_eqD (u64 hr)) fEq (sb (s_frz (f_comp [("it", 12)] (tgt_name 12) sc_lis_by_three.nd (i_seq (s_tup (a_cons (s_v 7) (a_cons (s_v 8) (a_cons (s_v 9) a_nil))))) (blkOk_by (by kernel_rfl)) (fun _ _ _ _ _ => pg_name sc_lis_by_three.nd rfl (by first | exact Or.inl rfl | exact Or.inr rfl) (by first | exact .inl rfl | exact .inr rfl)) (fun _ _ _ _ _ => pt_one (t_not (t_val (s_call F_lsame (hr.mono (by omega)) hg takes_blkD (g__law_same kn) D_lsame.kp (PosB.bnd B_lsame) (a_cons (s_call F_ltold (hr.mono (by omega)) hg takes_blkD (g__law_told kn) D_ltold.kp (PosB.bnd B_ltold) (a_cons (s_call F_power_of (hr.mono (by omega)) hg takes_blkD (g_power_of kn) D_power_of.kp (PosB.bnd B_power_of) (a_cons (s_v 12) (a_cons (s_v 11) a_nil))) a_nil)) (a_cons (s_tup (a_cons s_int (a_cons s_int (a_cons s_int (a_cons s_int (a_cons s_int a_nil)))))) a_nil)))))) (fun _ _ _ _ _ => s_int)))) (sb (s_frz (f_lst a_nil)))))))))))))))))))
def n_ldrawn_circle : List Str := ["deck", "middle", "point"]
theorem sc_ldrawn_circle : FnScope n_ldrawn_circle ps_ldrawn_circle (defScope (top 75)) := ⟨rfl, rfl, rfl, by decide +kernel, rfl, by decide +kernel, by decide +kernel⟩
def b_ldrawn_circle : SM :=
 (seqS (parS 1 2 (consM (callM m_lpoint 1 1 (fun ds _ => ds) (consM (varM 0) nilM)) (consM (callM m_lpoint 1 1 (fun ds _ => ds) (consM (varM 0) nilM)) nilM)))
 (seqS (ifS (andM (tst (op2 neD (varB 1) (varB 2))) (tst (op2 eqD (callM m_ldraw 2 2 (fun ds _ => ds) (consM (varM 0) (consM (cM (.int 2)) nilM))) (cM (.int 0)))))
 (retS (tupM (consM (varM 1) (consM (callM m_lsquare_way 2 2 (fun ds _ => ds) (consM (varM 1) (consM (varM 2) nilM))) nilM))))
 nilS)
 (retS (tupM (consM (varM 1) (consM (callM m_lpick 2 2 (fun ds _ => ds) (consM (varM 0) (consM (frzM (lstM (consM (tupM (consM (cM (.int 1)) (consM (cM (.int 1)) nilM))) (consM (tupM (consM (cM (.int 2)) (consM (cM (.int 1)) nilM))) (consM (tupM (consM (cM (.int 4)) (consM (cM (.int 1)) nilM))) (consM (tupM (consM (cM (.int 25)) (consM (cM (.int 1)) nilM))) (consM (tupM (consM (cM (.int 1)) (consM (cM (.int 2)) nilM))) (consM (tupM (consM (cM (.int 9)) (consM (cM (.int 4)) nilM))) (consM (tupM (consM (cM (.int 5)) (consM (cM (.int 1)) nilM))) (consM (tupM (consM (cM (.int 3)) (consM (cM (.int 1)) nilM))) (consM (tupM (consM (cM (.int 10)) (consM (cM (.int 1)) nilM))) nilM))))))))))) nilM))) nilM))))))
def m_ldrawn_circle : DM := fun ds st => fin (b_ldrawn_circle (startD n_ldrawn_circle ds) st)
theorem ok_ldrawn_circle {P : Program} {w : World} {K : Frg} {mg : Str → Option Value} {base : Heap} {T : List (Addr × Str)} (kn : Kn K mg) : ∃ fd, FD_ldrawn_circle K fd ∧ PosB K fd ps_ldrawn_circle ∧ FnSem P w K mg base (Sx T) 5 (He.ga K "_law_drawn_circle") fd ps_ldrawn_circle m_ldrawn_circle := by
  obtain ⟨fd_lpoint, D_lpoint, B_lpoint, F_lpoint⟩ := ok_lpoint (P := P) (w := w) (base := base) (T := T) kn
  obtain ⟨fd_ldraw, D_ldraw, B_ldraw, F_ldraw⟩ := ok_ldraw (P := P) (w := w) (base := base) (T := T) kn
  obtain ⟨fd_lsquare_way, D_lsquare_way, B_lsquare_way, F_lsquare_way⟩ := ok_lsquare_way (P := P) (w := w) (base := base) (T := T) kn
  obtain ⟨fd_lpick, D_lpick, B_lpick, F_lpick⟩ := ok_lpick (P := P) (w := w) (base := base) (T := T) kn
  obtain ⟨fd, D⟩ := d_ldrawn_circle kn
  refine ⟨fd, D, pb_ldrawn_circle D, FnSem.of (sm := b_ldrawn_circle) D sc_ldrawn_circle fun cdv A outer s H E O hr hg => ?_⟩
  exact (ss_cons (st_par sc_ldrawn_circle.nd (a_cons (s_call F_lpoint (hr.mono (by omega)) hg takes_def (g__law_point kn) D_lpoint.kp (PosB.bnd B_lpoint) (a_cons (s_v 0) a_nil)) (a_cons (s_call F_lpoint (hr.mono (by omega)) hg takes_def (g__law_point kn) D_lpoint.kp (PosB.bnd B_lpoint) (a_cons (s_v 0) a_nil)) a_nil)))
 (ss_cons (st_if (t_w (w_and (t_cmp (op_neD (u64 hr)) fNe (s_vb 1) (s_vb 2)) (w_and1 (t_cmp (op_eqD (u64 hr)) fEq (sb (s_call F_ldraw (hr.mono (by omega)) hg takes_def (g__law_draw kn) D_ldraw.kp (PosB.bnd B_ldraw) (a_cons (s_v 0) (a_cons s_int a_nil)))) (sb s_int)))))
 (ss_one (st_ret (s_tup (a_cons (s_v 1) (a_cons (s_call F_lsquare_way (hr.mono (by omega)) hg takes_def (g__law_square_way kn) D_lsquare_way.kp (PosB.bnd B_lsquare_way) (a_cons (s_v 1) (a_cons (s_v 2) a_nil))) a_nil)))))
 ss_nil)
 (ss_one (st_ret (s_tup (a_cons (s_v 1) (a_cons (s_call F_lpick (hr.mono (by omega)) hg takes_def (g__law_pick kn) D_lpick.kp (PosB.bnd B_lpick) (a_cons (s_v 0) (a_cons (s_frz (f_lst (a_cons (s_tup (a_cons s_int (a_cons s_int a_nil))) (a_cons (s_tup (a_cons s_int (a_cons s_int a_nil))) (a_cons (s_tup (a_cons s_int (a_cons s_int a_nil))) (a_cons (s_tup (a_cons s_int (a_cons s_int a_nil))) (a_cons (s_tup (a_cons s_int (a_cons s_int a_nil))) (a_cons (s_tup (a_cons s_int (a_cons s_int a_nil))) (a_cons (s_tup (a_cons s_int (a_cons s_int a_nil))) (a_cons (s_tup (a_cons s_int (a_cons s_int a_nil))) (a_cons (s_tup (a_cons s_int (a_cons s_int a_nil))) a_nil))))))))))) a_nil))) a_nil)))))))
def n_lpower : List Str := ["point", "circle"]
theorem sc_lpower : FnScope n_lpower ps_lpower (defScope (top 79)) := ⟨rfl, rfl, rfl, by decide +kernel, rfl, by decide +kernel, by decide +kernel⟩
def b_lpower : SM :=
 (retS (callM m_lminus 2 2 (fun ds _ => ds) (consM (callM m_lsquare_way 2 2 (fun ds _ => ds) (consM (varM 0) (consM (op2 ixD (varB 1) (cM (.int 0))) nilM))) (consM (op2 ixD (varB 1) (cM (.int 1))) nilM))))
def m_lpower : DM := fun ds st => fin (b_lpower (startD n_lpower ds) st)
theorem ok_lpower {P : Program} {w : World} {K : Frg} {mg : Str → Option Value} {base : Heap} {T : List (Addr × Str)} (kn : Kn K mg) : ∃ fd, FD_lpower K fd ∧ PosB K fd ps_lpower ∧ FnSem P w K mg base (Sx T) 4 (He.ga K "_law_power") fd ps_lpower m_lpower := by
  obtain ⟨fd_lminus, D_lminus, B_lminus, F_lminus⟩ := ok_lminus (P := P) (w := w) (base := base) (T := T) kn
  obtain ⟨fd_lsquare_way, D_lsquare_way, B_lsquare_way, F_lsquare_way⟩ := ok_lsquare_way (P := P) (w := w) (base := base) (T := T) kn
  obtain ⟨fd, D⟩ := d_lpower kn
  refine ⟨fd, D, pb_lpower D, FnSem.of (sm := b_lpower) D sc_lpower fun cdv A outer s H E O hr hg => ?_⟩
  exact (ss_one (st_ret (s_call F_lminus (hr.mono (by omega)) hg takes_def (g__law_minus kn) D_lminus.kp (PosB.bnd B_lminus) (a_cons (s_call F_lsquare_way (hr.mono (by omega)) hg takes_def (g__law_square_way kn) D_lsquare_way.kp (PosB.bnd B_lsquare_way) (a_cons (s_v 0) (a_cons (s_ix (s_vb 1) (sb s_int)) a_nil))) (a_cons (s_ix (s_vb 1) (sb s_int)) a_nil)))))
def n_lring : List Str := ["circle"]
theorem sc_lring : FnScope n_lring ps_lring (defScope (top 66)) := ⟨rfl, rfl, rfl, by decide +kernel, rfl, by decide +kernel, by decide +kernel⟩
def b_lring : SM :=
 (retS (tupM (consM (callM m_lspot 1 1 (fun ds _ => ds) (consM (op2 ixD (varB 0) (cM (.int 0))) nilM)) (consM (callM m_lexact 1 1 (fun ds _ => ds) (consM (op2 ixD (varB 0) (cM (.int 1))) nilM)) nilM))))
def m_lring : DM := fun ds st => fin (b_lring (startD n_lring ds) st)
theorem ok_lring {P : Program} {w : World} {K : Frg} {mg : Str → Option Value} {base : Heap} {T : List (Addr × Str)} (kn : Kn K mg) : ∃ fd, FD_lring K fd ∧ PosB K fd ps_lring ∧ FnSem P w K mg base (Sx T) 7 (He.ga K "_law_ring") fd ps_lring m_lring := by
  obtain ⟨fd_lexact, D_lexact, B_lexact, F_lexact⟩ := ok_lexact (P := P) (w := w) (base := base) (T := T) kn
  obtain ⟨fd_lspot, D_lspot, B_lspot, F_lspot⟩ := ok_lspot (P := P) (w := w) (base := base) (T := T) kn
  obtain ⟨fd, D⟩ := d_lring kn
  refine ⟨fd, D, pb_lring D, FnSem.of (sm := b_lring) D sc_lring fun cdv A outer s H E O hr hg => ?_⟩
  exact (ss_one (st_ret (s_tup (a_cons (s_call F_lspot (hr.mono (by omega)) hg takes_def (g__law_spot kn) D_lspot.kp (PosB.bnd B_lspot) (a_cons (s_ix (s_vb 0) (sb s_int)) a_nil)) (a_cons (s_call F_lexact (hr.mono (by omega)) hg takes_def (g__law_exact kn) D_lexact.kp (PosB.bnd B_lexact) (a_cons (s_ix (s_vb 0) (sb s_int)) a_nil)) a_nil)))))
def n_laround : List Str := ["deck", "circle", "spots", "x", "y"]
theorem sc_laround : FnScope n_laround ps_laround (defScope (top 76)) := ⟨rfl, rfl, rfl, by decide +kernel, rfl, by decide +kernel, by decide +kernel⟩
def b_laround : SM :=
 (seqS (setF 2 (lstM nilM))
 (seqS (forS (rng2W (consM (negM (cM (.int 7))) (consM (cM (.int 8)) nilM))) (setG 3)
 (forS (rng2W (consM (negM (cM (.int 7))) (consM (cM (.int 8)) nilM))) (setG 4)
 (ifS (andM (tst (op2 eqD (op2 addD (op2 mulD (varB 3) (varB 3)) (op2 mulD (varB 4) (varB 4))) (op2 ixD (op2 ixD (varB 1) (cM (.int 1))) (cM (.int 0))))) (tst (op2 eqD (op2 ixD (op2 ixD (varB 1) (cM (.int 1))) (cM (.int 1))) (cM (.int 1)))))
 (mutS 2 appF (consM (tupM (consM (callM m_lplus 2 2 (fun ds _ => ds) (consM (op2 ixD (op2 ixD (varB 1) (cM (.int 0))) (cM (.int 0))) (consM (tupM (consM (varM 3) (consM (cM (.int 1)) nilM))) nilM))) (consM (callM m_lplus 2 2 (fun ds _ => ds) (consM (op2 ixD (op2 ixD (varB 1) (cM (.int 0))) (cM (.int 1))) (consM (tupM (consM (varM 4) (consM (cM (.int 1)) nilM))) nilM))) nilM))) nilM))
 nilS)))
 (seqS (fzS 2)
 (retS (ifM (tst (op2 neD (varB 2) (frzM (lstM nilM)))) (callM m_lpick 2 2 (fun ds _ => ds) (consM (varM 0) (consM (varM 2) nilM))) (cM .non))))))
def m_laround : DM := fun ds st => fin (b_laround (startD n_laround ds) st)
theorem ok_laround {P : Program} {w : World} {K : Frg} {mg : Str → Option Value} {base : Heap} {T : List (Addr × Str)} (kn : Kn K mg) : ∃ fd, FD_laround K fd ∧ PosB K fd ps_laround ∧ FnSem P w K mg base (Sx T) 3 (He.ga K "_law_around") fd ps_laround m_laround := by
  obtain ⟨fd_lplus, D_lplus, B_lplus, F_lplus⟩ := ok_lplus (P := P) (w := w) (base := base) (T := T) kn
  obtain ⟨fd_lpick, D_lpick, B_lpick, F_lpick⟩ := ok_lpick (P := P) (w := w) (base := base) (T := T) kn
  obtain ⟨fd, D⟩ := d_laround kn
  refine ⟨fd, D, pb_laround D, FnSem.of (sm := b_laround) D sc_laround fun cdv A outer s H E O hr hg => ?_⟩
  exact (ss_cons (st_setF 2 sc_laround.nd (f_lst a_nil))
 (ss_cons (st_for (passes_of rfl) (i_range2 (fr_range kn) (a_cons (s_neg s_int) (a_cons s_int a_nil))) (fun O => (g_name 3 sc_laround.nd))
 (fun O => (ss_one (st_for (passes_of rfl) (i_range2 (fr_range kn) (a_cons (s_neg s_int) (a_cons s_int a_nil))) (fun O => (g_name 4 sc_laround.nd))
 (fun O => (ss_one (st_if (t_w (w_and (t_cmp (op_eqD (u64 hr)) fEq (sb (s_op op_addA fAdd (sb (s_op op_mulW fMul (s_vb 3) (s_vb 3))) (sb (s_op op_mulW fMul (s_vb 4) (s_vb 4))))) (sb (s_ix (sb (s_ix (s_vb 1) (sb s_int))) (sb s_int)))) (w_and1 (t_cmp (op_eqD (u64 hr)) fEq (sb (s_ix (sb (s_ix (s_vb 1) (sb s_int))) (sb s_int))) (sb s_int)))))
 (ss_one (st_mut m_append (pe_app1 (a_cons (s_tup (a_cons (s_call F_lplus (hr.mono (by omega)) hg takes_def (g__law_plus kn) D_lplus.kp (PosB.bnd B_lplus) (a_cons (s_ix (sb (s_ix (s_vb 1) (sb s_int))) (sb s_int)) (a_cons (s_tup (a_cons (s_v 3) (a_cons s_int a_nil))) a_nil))) (a_cons (s_call F_lplus (hr.mono (by omega)) hg takes_def (g__law_plus kn) D_lplus.kp (PosB.bnd B_lplus) (a_cons (s_ix (sb (s_ix (s_vb 1) (sb s_int))) (sb s_int)) (a_cons (s_tup (a_cons (s_v 4) (a_cons s_int a_nil))) a_nil))) a_nil))) a_nil))))
 ss_nil)))))))
 (ss_fz 2 (ss_one (st_ret (s_if (t_cmp (op_neD (u64 hr)) fNe (s_vb 2) (sb (s_frz (f_lst a_nil)))) (s_call F_lpick (hr.mono (by omega)) hg takes_def (g__law_pick kn) D_lpick.kp (PosB.bnd B_lpick) (a_cons (s_v 0) (a_cons (s_v 2) a_nil))) s_non))))))
def n_axis_of : List Str := ["circle", "other", "p", "one", "q", "two", "way", "far"]
theorem sc_axis_of : FnScope n_axis_of ps_axis_of (defScope (top 44)) := ⟨rfl, rfl, rfl, by decide +kernel, rfl, by decide +kernel, by decide +kernel⟩
def b_axis_of : SM :=
 (seqS (asgS (tupM (consM (varM 0) (consM (varM 1) nilM))) (tupG 2 (consG (tupG 2 (consG (setG 2) (consG (setG 3) nilG))) (consG (tupG 2 (consG (setG 4) (consG (setG 5) nilG))) nilG))))
 (seqS (setS 6 (callM m_way_between 2 2 (fun ds _ => ds) (consM (varM 2) (consM (varM 4) nilM))))
 (seqS (ifS (tst (op2 eqD (meth0M 0 m_Exact_sign_of (callM m_dot 2 2 (fun ds _ => ds) (consM (varM 6) (consM (varM 6) nilM)))) (cM (.int 0))))
 (excS 3)
 nilS)
 (seqS (setS 7 (methM 0 m_Exact_minus 2 (methM 0 m_Exact_minus 2 (callM m_dot 2 2 (fun ds _ => ds) (consM (varM 4) (consM (varM 4) nilM))) (consM (callM m_dot 2 2 (fun ds _ => ds) (consM (varM 2) (consM (varM 2) nilM))) nilM)) (consM (methM 0 m_Exact_minus 2 (varM 5) (consM (varM 3) nilM)) nilM)))
 (retS (callM m_scaled_line 3 3 (fun ds _ => ds) (consM (methM 0 m_Exact_plus 2 (op2 ixD (varB 6) (cM (.int 0))) (consM (op2 ixD (varB 6) (cM (.int 0))) nilM)) (consM (methM 0 m_Exact_plus 2 (op2 ixD (varB 6) (cM (.int 1))) (consM (op2 ixD (varB 6) (cM (.int 1))) nilM)) (consM (varM 7) nilM)))))))))
def m_axis_of : DM := fun ds st => fin (b_axis_of (startD n_axis_of ds) st)
theorem ok_axis_of {P : Program} {w : World} {K : Frg} {mg : Str → Option Value} {base : Heap} {T : List (Addr × Str)} (kn : Kn K mg) : ∃ fd, FD_axis_of K fd ∧ PosB K fd ps_axis_of ∧ FnSem P w K mg base (Sx T) 9 (He.ga K "axis_of") fd ps_axis_of m_axis_of := by
  obtain ⟨fd_way_between, D_way_between, B_way_between, F_way_between⟩ := ok_way_between (P := P) (w := w) (base := base) (T := T) kn
  obtain ⟨fd_Exact_sign_of, D_Exact_sign_of, B_Exact_sign_of, F_Exact_sign_of⟩ := ok_Exact_sign_of (P := P) (w := w) (base := base) (T := T) kn
  obtain ⟨fd_dot, D_dot, B_dot, F_dot⟩ := ok_dot (P := P) (w := w) (base := base) (T := T) kn
  obtain ⟨fd_Exact_minus, D_Exact_minus, B_Exact_minus, F_Exact_minus⟩ := ok_Exact_minus (P := P) (w := w) (base := base) (T := T) kn
  obtain ⟨fd_scaled_line, D_scaled_line, B_scaled_line, F_scaled_line⟩ := ok_scaled_line (P := P) (w := w) (base := base) (T := T) kn
  obtain ⟨fd_Exact_plus, D_Exact_plus, B_Exact_plus, F_Exact_plus⟩ := ok_Exact_plus (P := P) (w := w) (base := base) (T := T) kn
  obtain ⟨fd, D⟩ := d_axis_of kn
  refine ⟨fd, D, pb_axis_of D, FnSem.of (sm := b_axis_of) D sc_axis_of fun cdv A outer s H E O hr hg => ?_⟩
  exact (ss_cons (st_asg (s_tup (a_cons (s_v 0) (a_cons (s_v 1) a_nil))) (g_tup (gs_cons (ml_tup (mls_cons (ml_name 2 sc_axis_of.nd) (mild_set 2) (mls_cons (ml_name 3 sc_axis_of.nd) (mild_set 3) mls_nil))) (mild_tup (mild_cons (mild_set 2) (mild_cons (mild_set 3) mild_nil))) (gs_cons (ml_tup (mls_cons (ml_name 4 sc_axis_of.nd) (mild_set 4) (mls_cons (ml_name 5 sc_axis_of.nd) (mild_set 5) mls_nil))) (mild_tup (mild_cons (mild_set 4) (mild_cons (mild_set 5) mild_nil))) gs_nil))))
 (ss_cons (st_set 6 sc_axis_of.nd (s_call F_way_between (hr.mono (by omega)) hg takes_def (g_way_between kn) D_way_between.kp (PosB.bnd B_way_between) (a_cons (s_v 2) (a_cons (s_v 4) a_nil))))
 (ss_cons (st_if (t_cmp (op_eqD (u64 hr)) fEq (sb (s_meth0 0 takes_def F_Exact_sign_of (hr.mono (by omega)) hg (hc_Exact kn) (me_Exact_sign_of kn) (by have h : ("sign_of" : Str) ∉ cf 0 := (by decide +kernel); exact h) B_Exact_sign_of (s_call F_dot (hr.mono (by omega)) hg takes_def (g_dot kn) D_dot.kp (PosB.bnd B_dot) (a_cons (s_v 6) (a_cons (s_v 6) a_nil))))) (sb s_int))
 (ss_one (st_raise takes_def (xf_NoLine kn) (g_NoLine kn)))
 ss_nil)
 (ss_cons (st_set 7 sc_axis_of.nd (s_meth 0 takes_def F_Exact_minus (hr.mono (by omega)) hg (hc_Exact kn) (me_Exact_minus kn) (by have h : ("minus" : Str) ∉ cf 0 := (by decide +kernel); exact h) B_Exact_minus (s_meth 0 takes_def F_Exact_minus (hr.mono (by omega)) hg (hc_Exact kn) (me_Exact_minus kn) (by have h : ("minus" : Str) ∉ cf 0 := (by decide +kernel); exact h) B_Exact_minus (s_call F_dot (hr.mono (by omega)) hg takes_def (g_dot kn) D_dot.kp (PosB.bnd B_dot) (a_cons (s_v 4) (a_cons (s_v 4) a_nil))) (a_cons (s_call F_dot (hr.mono (by omega)) hg takes_def (g_dot kn) D_dot.kp (PosB.bnd B_dot) (a_cons (s_v 2) (a_cons (s_v 2) a_nil))) a_nil)) (a_cons (s_meth 0 takes_def F_Exact_minus (hr.mono (by omega)) hg (hc_Exact kn) (me_Exact_minus kn) (by have h : ("minus" : Str) ∉ cf 0 := (by decide +kernel); exact h) B_Exact_minus (s_v 5) (a_cons (s_v 3) a_nil)) a_nil)))
 (ss_one (st_ret (s_call F_scaled_line (hr.mono (by omega)) hg takes_def (g_scaled_line kn) D_scaled_line.kp (PosB.bnd B_scaled_line) (a_cons (s_meth 0 takes_def F_Exact_plus (hr.mono (by omega)) hg (hc_Exact kn) (me_Exact_plus kn) (by have h : ("plus" : Str) ∉ cf 0 := (by decide +kernel); exact h) B_Exact_plus (s_ix (s_vb 6) (sb s_int)) (a_cons (s_ix (s_vb 6) (sb s_int)) a_nil)) (a_cons (s_meth 0 takes_def F_Exact_plus (hr.mono (by omega)) hg (hc_Exact kn) (me_Exact_plus kn) (by have h : ("plus" : Str) ∉ cf 0 := (by decide +kernel); exact h) B_Exact_plus (s_ix (s_vb 6) (sb s_int)) (a_cons (s_ix (s_vb 6) (sb s_int)) a_nil)) (a_cons (s_v 7) a_nil))))))))))
def n_lis_axis : List Str := ["deck", "circle", "other", "point", "due", "told", "it", "p", "s", "q", "t", "a", "b", "start", "one", "two", "line", "spot"]
theorem sc_lis_axis : FnScope n_lis_axis ps_lis_axis (defScope (top 81)) := ⟨rfl, rfl, rfl, by decide +kernel, rfl, by decide +kernel, by decide +kernel⟩
def b_lis_axis : SM :=
 (seqS (parS 1 2 (consM (callM m_ldrawn_circle 1 1 (fun ds _ => ds) (consM (varM 0) nilM)) (consM (callM m_ldrawn_circle 1 1 (fun ds _ => ds) (consM (varM 0) nilM)) nilM)))
 (seqS (setS 2 (ifM (tst (op2 eqD (callM m_ldraw 2 2 (fun ds _ => ds) (consM (varM 0) (consM (cM (.int 5)) nilM))) (cM (.int 0)))) (tupM (consM (op2 ixD (varB 1) (cM (.int 0))) (consM (op2 ixD (varB 2) (cM (.int 1))) nilM))) (varM 2)))
 (seqS (setS 3 (callM m_lpick 2 2 (fun ds _ => ds) (consM (varM 0) (consM (frzM (lstM (consM (callM m_lpoint 1 1 (fun ds _ => ds) (consM (varM 0) nilM)) (consM (op2 ixD (varB 1) (cM (.int 0))) (consM (orT (callM m_laround 2 2 (fun ds _ => ds) (consM (varM 0) (consM (varM 1) nilM))) (callM m_lpoint 1 1 (fun ds _ => ds) (consM (varM 0) nilM))) nilM))))) nilM))))
 (seqS (setS 4 (callM m_lfive 3 3 (fun ds _ => ds) (consM (callM m_lpower 2 2 (fun ds _ => ds) (consM (varM 3) (consM (varM 1) nilM))) (consM (cM (.int 0)) (consM (tupM (consM (cM (.int 0)) (consM (cM (.int 1)) nilM))) nilM)))))
 (seqS (setF 5 (lstM (consM (callM m_power_of 2 2 (fun ds _ => ds) (consM (callM m_lspot 1 1 (fun ds _ => ds) (consM (varM 3) nilM)) (consM (callM m_lring 1 1 (fun ds _ => ds) (consM (varM 1) nilM)) nilM))) (consM (callKM m_power_of 0 2 (fun ds es => pick [1, 0] (ds ++ es)) nilM (consM (callM m_lring 1 1 (fun ds _ => ds) (consM (varM 1) nilM)) (consM (callM m_lspot 1 1 (fun ds _ => ds) (consM (varM 3) nilM)) nilM))) nilM))))
 (seqS (fzS 5)
 (seqS (ifS (notM (tst (callM m_lsame 2 2 (fun ds _ => ds) (consM (frzM (compM [6] (seqW (varM 5)) (setG 6) (cM true) (callM (m_ltold 8) 1 1 (fun ds _ => ds) (consM (varM 6) nilM)))) (consM (frzM (lstM (consM (varM 4) (consM (varM 4) nilM)))) nilM)))))
 (retS (cM (.bl false)))
 nilS)
 (seqS (asgS (tupM (consM (varM 1) (consM (varM 2) nilM))) (tupG 2 (consG (tupG 2 (consG (setG 7) (consG (setG 8) nilG))) (consG (tupG 2 (consG (setG 9) (consG (setG 10) nilG))) nilG))))
 (seqS (parS 11 12 (consM (callM m_ltimes 2 2 (fun ds _ => ds) (consM (tupM (consM (cM (.int 2)) (consM (cM (.int 1)) nilM))) (consM (callM m_lminus 2 2 (fun ds _ => ds) (consM (op2 ixD (varB 9) (cM (.int 0))) (consM (op2 ixD (varB 7) (cM (.int 0))) nilM))) nilM))) (consM (callM m_ltimes 2 2 (fun ds _ => ds) (consM (tupM (consM (cM (.int 2)) (consM (cM (.int 1)) nilM))) (consM (callM m_lminus 2 2 (fun ds _ => ds) (consM (op2 ixD (varB 9) (cM (.int 1))) (consM (op2 ixD (varB 7) (cM (.int 1))) nilM))) nilM))) nilM)))
 (seqS (setS 13 (tupM (consM (tupM (consM (cM (.int 0)) (consM (cM (.int 1)) nilM))) (consM (tupM (consM (cM (.int 0)) (consM (cM (.int 1)) nilM))) nilM))))
 (seqS (asgS (tupM (consM (callM m_lring 1 1 (fun ds _ => ds) (consM (varM 1) nilM)) (consM (callM m_lring 1 1 (fun ds _ => ds) (consM (varM 2) nilM)) nilM))) (tupG 2 (consG (setG 14) (consG (setG 15) nilG))))
 (seqS (setF 5 (lstM (consM (lamM 2 b_lheard (callM m_axis_of 2 2 (fun ds _ => ds) (consM (varM 14) (consM (varM 15) nilM)))) nilM)))
 (seqS (mutS 5 appF (consM (lamM 2 b_lheard (callKM m_axis_of 0 2 (fun ds es => pick [1, 0] (ds ++ es)) nilM (consM (varM 14) (consM (varM 15) nilM)))) nilM))
 (seqS (ifS (tst (op2 eqD (varB 7) (varB 9)))
 (seqS (fzS 5)
 (retS (callM m_lsame 2 2 (fun ds _ => ds) (consM (varM 5) (consM (frzM (repF (lstM (consM (tupM (consM (cM (.str "line")) (consM (cM (.bl true)) nilM))) nilM)) (cM (.int 2)))) nilM)))))
 nilS)
 (seqS (setS 16 (callM m_lline 3 3 (fun ds _ => ds) (consM (varM 11) (consM (varM 12) (consM (callM m_lminus 2 2 (fun ds _ => ds) (consM (callM m_lpower 2 2 (fun ds _ => ds) (consM (varM 13) (consM (varM 2) nilM))) (consM (callM m_lpower 2 2 (fun ds _ => ds) (consM (varM 13) (consM (varM 1) nilM))) nilM))) nilM)))))
 (seqS (fzS 5)
 (seqS (ifS (notM (tst (callM m_lsame 2 2 (fun ds _ => ds) (consM (varM 5) (consM (frzM (repF (lstM (consM (tupM (consM (cM (.str "told")) (consM (callM (m_ldue 8) 1 1 (fun ds _ => ds) (consM (callM (m_llisted 8) 1 1 (fun ds _ => ds) (consM (varM 16) nilM)) nilM)) nilM))) nilM)) (cM (.int 2)))) nilM)))))
 (retS (cM (.bl false)))
 nilS)
 (seqS (setS 17 (callM m_lon 2 2 (fun ds _ => ds) (consM (varM 0) (consM (varM 16) nilM))))
 (retS (op2 eqD (callM m_lpower 2 2 (fun ds _ => ds) (consM (varM 17) (consM (varM 1) nilM))) (callM m_lpower 2 2 (fun ds _ => ds) (consM (varM 17) (consM (varM 2) nilM)))))))))))))))))))))))
def m_lis_axis : DM := fun ds st => fin (b_lis_axis (startD n_lis_axis ds) st)
theorem ok_lis_axis {P : Program} {w : World} {K : Frg} {mg : Str → Option Value} {base : Heap} {T : List (Addr × Str)} (kn : Kn K mg) (mk : MkOk K mg base T) : ∃ fd, FD_lis_axis K fd ∧ PosB K fd ps_lis_axis ∧ FnSem P w K mg base (Sx T) 12 (He.ga K "_law_is_axis") fd ps_lis_axis m_lis_axis := by
  obtain ⟨fd_ldrawn_circle, D_ldrawn_circle, B_ldrawn_circle, F_ldrawn_circle⟩ := ok_ldrawn_circle (P := P) (w := w) (base := base) (T := T) kn
  obtain ⟨fd_ldraw, D_ldraw, B_ldraw, F_ldraw⟩ := ok_ldraw (P := P) (w := w) (base := base) (T := T) kn
  obtain ⟨fd_lpick, D_lpick, B_lpick, F_lpick⟩ := ok_lpick (P := P) (w := w) (base := base) (T := T) kn
  obtain ⟨fd_laround, D_laround, B_laround, F_laround⟩ := ok_laround (P := P) (w := w) (base := base) (T := T) kn
  obtain ⟨fd_lpoint, D_lpoint, B_lpoint, F_lpoint⟩ := ok_lpoint (P := P) (w := w) (base := base) (T := T) kn
  obtain ⟨fd_lfive, D_lfive, B_lfive, F_lfive⟩ := ok_lfive (P := P) (w := w) (base := base) (T := T) kn
  obtain ⟨fd_lpower, D_lpower, B_lpower, F_lpower⟩ := ok_lpower (P := P) (w := w) (base := base) (T := T) kn
  obtain ⟨fd_power_of, D_power_of, B_power_of, F_power_of⟩ := ok_power_of (P := P) (w := w) (base := base) (T := T) kn
  obtain ⟨fd_lspot, D_lspot, B_lspot, F_lspot⟩ := ok_lspot (P := P) (w := w) (base := base) (T := T) kn
  obtain ⟨fd_lring, D_lring, B_lring, F_lring⟩ := ok_lring (P := P) (w := w) (base := base) (T := T) kn
  obtain ⟨fd_lsame, D_lsame, B_lsame, F_lsame⟩ := ok_lsame (P := P) (w := w) (base := base) (T := T) kn
  obtain ⟨fd_ltold, D_ltold, B_ltold, F_ltold⟩ := ok_ltold (P := P) (w := w) (base := base) (T := T) kn 8
  obtain ⟨fd_ltimes, D_ltimes, B_ltimes, F_ltimes⟩ := ok_ltimes (P := P) (w := w) (base := base) (T := T) kn
  obtain ⟨fd_lminus, D_lminus, B_lminus, F_lminus⟩ := ok_lminus (P := P) (w := w) (base := base) (T := T) kn
  obtain ⟨fd_lheard, D_lheard⟩ := d_lheard kn
  have B_lheard := pb_lheard D_lheard
  obtain ⟨fd_axis_of, D_axis_of, B_axis_of, F_axis_of⟩ := ok_axis_of (P := P) (w := w) (base := base) (T := T) kn
  obtain ⟨fd_lline, D_lline, B_lline, F_lline⟩ := ok_lline (P := P) (w := w) (base := base) (T := T) kn
  obtain ⟨fd_ldue, D_ldue, B_ldue, F_ldue⟩ := ok_ldue (P := P) (w := w) (base := base) (T := T) kn 8
  obtain ⟨fd_llisted, D_llisted, B_llisted, F_llisted⟩ := ok_llisted (P := P) (w := w) (base := base) (T := T) kn 8
  obtain ⟨fd_lon, D_lon, B_lon, F_lon⟩ := ok_lon (P := P) (w := w) (base := base) (T := T) kn
  obtain ⟨fd, c, Q, D, hTB, hcode, hmT, hu⟩ := mk.m_lis_axis
  refine ⟨fd, D, pb_lis_axis D, FnSem.ofC (sm := b_lis_axis) D sc_lis_axis fun A outer s H E O hr hg => ?_⟩
  exact (ss_cons (st_par sc_lis_axis.nd (a_cons (s_call F_ldrawn_circle (hr.mono (by omega)) hg takes_def (g__law_drawn_circle kn) D_ldrawn_circle.kp (PosB.bnd B_ldrawn_circle) (a_cons (s_v 0) a_nil)) (a_cons (s_call F_ldrawn_circle (hr.mono (by omega)) hg takes_def (g__law_drawn_circle kn) D_ldrawn_circle.kp (PosB.bnd B_ldrawn_circle) (a_cons (s_v 0) a_nil)) a_nil)))
 (ss_cons (st_set 2 sc_lis_axis.nd (s_if (t_cmp (op_eqD (u64 hr)) fEq (sb (s_call F_ldraw (hr.mono (by omega)) hg takes_def (g__law_draw kn) D_ldraw.kp (PosB.bnd B_ldraw) (a_cons (s_v 0) (a_cons s_int a_nil)))) (sb s_int)) (s_tup (a_cons (s_ix (s_vb 1) (sb s_int)) (a_cons (s_ix (s_vb 2) (sb s_int)) a_nil))) (s_v 2)))
 (ss_cons (st_set 3 sc_lis_axis.nd (s_call F_lpick (hr.mono (by omega)) hg takes_def (g__law_pick kn) D_lpick.kp (PosB.bnd B_lpick) (a_cons (s_v 0) (a_cons (s_frz (f_lst (a_cons (s_call F_lpoint (hr.mono (by omega)) hg takes_def (g__law_point kn) D_lpoint.kp (PosB.bnd B_lpoint) (a_cons (s_v 0) a_nil)) (a_cons (s_ix (s_vb 1) (sb s_int)) (a_cons (s_orT (s_call F_laround (hr.mono (by omega)) hg takes_def (g__law_around kn) D_laround.kp (PosB.bnd B_laround) (a_cons (s_v 0) (a_cons (s_v 1) a_nil))) (s_one (s_call F_lpoint (hr.mono (by omega)) hg takes_def (g__law_point kn) D_lpoint.kp (PosB.bnd B_lpoint) (a_cons (s_v 0) a_nil)))) a_nil))))) a_nil))))
 (ss_cons (st_set 4 sc_lis_axis.nd (s_call F_lfive (hr.mono (by omega)) hg takes_def (g__law_five kn) D_lfive.kp (PosB.bnd B_lfive) (a_cons (s_call F_lpower (hr.mono (by omega)) hg takes_def (g__law_power kn) D_lpower.kp (PosB.bnd B_lpower) (a_cons (s_v 3) (a_cons (s_v 1) a_nil))) (a_cons s_int (a_cons (s_tup (a_cons s_int (a_cons s_int a_nil))) a_nil)))))
 (ss_cons (st_setF 5 sc_lis_axis.nd (f_lst (a_cons (s_call F_power_of (hr.mono (by omega)) hg takes_def (g_power_of kn) D_power_of.kp (PosB.bnd B_power_of) (a_cons (s_call F_lspot (hr.mono (by omega)) hg takes_def (g__law_spot kn) D_lspot.kp (PosB.bnd B_lspot) (a_cons (s_v 3) a_nil)) (a_cons (s_call F_lring (hr.mono (by omega)) hg takes_def (g__law_ring kn) D_lring.kp (PosB.bnd B_lring) (a_cons (s_v 1) a_nil)) a_nil))) (a_cons (s_callK0 F_power_of (hr.mono (by omega)) hg takes_def (g_power_of kn) D_power_of.kp (Bnd.kw (n := 0) (ks := ["circle", "point"]) D_power_of [1, 0] (fun _ _ _ _ _ _ us ws h1 h2 => match us, ws, h1, h2 with | [], [_, _], _, _ => rfl)) (k_cons (s_call F_lring (hr.mono (by omega)) hg takes_def (g__law_ring kn) D_lring.kp (PosB.bnd B_lring) (a_cons (s_v 1) a_nil)) (k_cons (s_call F_lspot (hr.mono (by omega)) hg takes_def (g__law_spot kn) D_lspot.kp (PosB.bnd B_lspot) (a_cons (s_v 3) a_nil)) k_nil))) a_nil))))
 (ss_fz 5 (ss_cons (st_if (t_not (t_val (s_call F_lsame (hr.mono (by omega)) hg takes_def (g__law_same kn) D_lsame.kp (PosB.bnd B_lsame) (a_cons (s_frz (f_comp [("it", 6)] (tgt_name 6) sc_lis_axis.nd (i_seq (s_v 5)) (blkOk_by (by kernel_rfl)) (fun _ _ _ _ _ => pg_name sc_lis_axis.nd rfl (by first | exact Or.inl rfl | exact Or.inr rfl) (by first | exact .inl rfl | exact .inr rfl)) (fun _ _ _ _ _ => pt_nil) (fun _ _ _ _ _ => (s_call F_ltold (hr.mono (by omega)) hg takes_blkD (g__law_told kn) D_ltold.kp (PosB.bnd B_ltold) (a_cons (s_v 6) a_nil))))) (a_cons (s_frz (f_lst (a_cons (s_v 4) (a_cons (s_v 4) a_nil)))) a_nil)))))
 (ss_one (st_ret s_bl))
 ss_nil)
 (ss_cons (st_asg (s_tup (a_cons (s_v 1) (a_cons (s_v 2) a_nil))) (g_tup (gs_cons (ml_tup (mls_cons (ml_name 7 sc_lis_axis.nd) (mild_set 7) (mls_cons (ml_name 8 sc_lis_axis.nd) (mild_set 8) mls_nil))) (mild_tup (mild_cons (mild_set 7) (mild_cons (mild_set 8) mild_nil))) (gs_cons (ml_tup (mls_cons (ml_name 9 sc_lis_axis.nd) (mild_set 9) (mls_cons (ml_name 10 sc_lis_axis.nd) (mild_set 10) mls_nil))) (mild_tup (mild_cons (mild_set 9) (mild_cons (mild_set 10) mild_nil))) gs_nil))))
 (ss_cons (st_par sc_lis_axis.nd (a_cons (s_call F_ltimes (hr.mono (by omega)) hg takes_def (g__law_times kn) D_ltimes.kp (PosB.bnd B_ltimes) (a_cons (s_tup (a_cons s_int (a_cons s_int a_nil))) (a_cons (s_call F_lminus (hr.mono (by omega)) hg takes_def (g__law_minus kn) D_lminus.kp (PosB.bnd B_lminus) (a_cons (s_ix (s_vb 9) (sb s_int)) (a_cons (s_ix (s_vb 7) (sb s_int)) a_nil))) a_nil))) (a_cons (s_call F_ltimes (hr.mono (by omega)) hg takes_def (g__law_times kn) D_ltimes.kp (PosB.bnd B_ltimes) (a_cons (s_tup (a_cons s_int (a_cons s_int a_nil))) (a_cons (s_call F_lminus (hr.mono (by omega)) hg takes_def (g__law_minus kn) D_lminus.kp (PosB.bnd B_lminus) (a_cons (s_ix (s_vb 9) (sb s_int)) (a_cons (s_ix (s_vb 7) (sb s_int)) a_nil))) a_nil))) a_nil)))
 (ss_cons (st_set 13 sc_lis_axis.nd (s_tup (a_cons (s_tup (a_cons s_int (a_cons s_int a_nil))) (a_cons (s_tup (a_cons s_int (a_cons s_int a_nil))) a_nil))))
 (ss_cons (st_asg (s_tup (a_cons (s_call F_lring (hr.mono (by omega)) hg takes_def (g__law_ring kn) D_lring.kp (PosB.bnd B_lring) (a_cons (s_v 1) a_nil)) (a_cons (s_call F_lring (hr.mono (by omega)) hg takes_def (g__law_ring kn) D_lring.kp (PosB.bnd B_lring) (a_cons (s_v 2) a_nil)) a_nil))) (g_tup (gs_cons (ml_name 14 sc_lis_axis.nd) (mild_set 14) (gs_cons (ml_name 15 sc_lis_axis.nd) (mild_set 15) gs_nil))))
 (ss_cons (st_setF 5 sc_lis_axis.nd (f_lst (a_cons (s_lamF 9 D_lheard takes_def (g__law_heard kn) B_lheard sc_lheard rfl (by first | exact Or.inl rfl | exact Or.inr (Or.inl rfl)) (fun A outer s H E O t hr hg act => w_lheard kn A outer s H E O t (hr.mono (by omega)) hg act) hTB hcode hmT hu (hr.mono (by omega)) hg (LamX.lamS_by (by kernel_rfl)) (fun A outer s H E f c' O hrL hgL tkL => (s_call F_axis_of (hrL.mono (by omega)) hgL tkL (g_axis_of kn) D_axis_of.kp (PosB.bnd B_axis_of) (a_cons (s_v 14) (a_cons (s_v 15) a_nil))))) a_nil)))
 (ss_cons (st_mut m_append (pe_app1 (a_cons (s_lamF 9 D_lheard takes_def (g__law_heard kn) B_lheard sc_lheard rfl (by first | exact Or.inl rfl | exact Or.inr (Or.inl rfl)) (fun A outer s H E O t hr hg act => w_lheard kn A outer s H E O t (hr.mono (by omega)) hg act) hTB hcode hmT hu (hr.mono (by omega)) hg (LamX.lamS_by (by kernel_rfl)) (fun A outer s H E f c' O hrL hgL tkL => (s_callK0 F_axis_of (hrL.mono (by omega)) hgL tkL (g_axis_of kn) D_axis_of.kp (Bnd.kw (n := 0) (ks := ["other", "circle"]) D_axis_of [1, 0] (fun _ _ _ _ _ _ us ws h1 h2 => match us, ws, h1, h2 with | [], [_, _], _, _ => rfl)) (k_cons (s_v 14) (k_cons (s_v 15) k_nil))))) a_nil)))
 (ss_cons (st_if (t_cmp (op_eqD (u64 hr)) fEq (s_vb 7) (s_vb 9))
 (ss_fz 5 (ss_one (st_ret (s_call F_lsame (hr.mono (by omega)) hg takes_def (g__law_same kn) D_lsame.kp (PosB.bnd B_lsame) (a_cons (s_v 5) (a_cons (s_frz (f_rep (f_lst (a_cons (s_tup (a_cons s_str (a_cons s_bl a_nil))) a_nil)) s_int)) a_nil))))))
 ss_nil)
 (ss_cons (st_set 16 sc_lis_axis.nd (s_call F_lline (hr.mono (by omega)) hg takes_def (g__law_line kn) D_lline.kp (PosB.bnd B_lline) (a_cons (s_v 11) (a_cons (s_v 12) (a_cons (s_call F_lminus (hr.mono (by omega)) hg takes_def (g__law_minus kn) D_lminus.kp (PosB.bnd B_lminus) (a_cons (s_call F_lpower (hr.mono (by omega)) hg takes_def (g__law_power kn) D_lpower.kp (PosB.bnd B_lpower) (a_cons (s_v 13) (a_cons (s_v 2) a_nil))) (a_cons (s_call F_lpower (hr.mono (by omega)) hg takes_def (g__law_power kn) D_lpower.kp (PosB.bnd B_lpower) (a_cons (s_v 13) (a_cons (s_v 1) a_nil))) a_nil))) a_nil)))))
 (ss_fz 5 (ss_cons (st_if (t_not (t_val (s_call F_lsame (hr.mono (by omega)) hg takes_def (g__law_same kn) D_lsame.kp (PosB.bnd B_lsame) (a_cons (s_v 5) (a_cons (s_frz (f_rep (f_lst (a_cons (s_tup (a_cons s_str (a_cons (s_call F_ldue (hr.mono (by omega)) hg takes_def (g__law_due kn) D_ldue.kp (PosB.bnd B_ldue) (a_cons (s_call F_llisted (hr.mono (by omega)) hg takes_def (g__law_listed kn) D_llisted.kp (PosB.bnd B_llisted) (a_cons (s_v 16) a_nil)) a_nil)) a_nil))) a_nil)) s_int)) a_nil)))))
 (ss_one (st_ret s_bl))
 ss_nil)
 (ss_cons (st_set 17 sc_lis_axis.nd (s_call F_lon (hr.mono (by omega)) hg takes_def (g__law_on kn) D_lon.kp (PosB.bnd B_lon) (a_cons (s_v 0) (a_cons (s_v 16) a_nil))))
 (ss_one (st_ret (s_cmp (op_eqD (u64 hr)) fEq (sb (s_call F_lpower (hr.mono (by omega)) hg takes_def (g__law_power kn) D_lpower.kp (PosB.bnd B_lpower) (a_cons (s_v 17) (a_cons (s_v 1) a_nil)))) (sb (s_call F_lpower (hr.mono (by omega)) hg takes_def (g__law_power kn) D_lpower.kp (PosB.bnd B_lpower) (a_cons (s_v 17) (a_cons (s_v 2) a_nil)))))))))))))))))))))))))
def n_root_of_plane : List Str := ["square"]
theorem sc_root_of_plane : FnScope n_root_of_plane ps_root_of_plane (defScope (top 35)) := ⟨rfl, rfl, rfl, by decide +kernel, rfl, by decide +kernel, by decide +kernel⟩
def b_root_of_plane : SM :=
 (retS (makeKM 0 m_Exact_initD 1 3 (fun ds es => ds ++ ([.int 1] ++ es)) (consM (cM (.int 0)) nilM) (consM (cM (.int 1)) (consM (fldM 0 0 (varM 0)) (consM (fldM 0 1 (varM 0)) nilM)))))
def m_root_of_plane : DM := fun ds st => fin (b_root_of_plane (startD n_root_of_plane ds) st)
theorem ok_root_of_plane {P : Program} {w : World} {K : Frg} {mg : Str → Option Value} {base : Heap} {T : List (Addr × Str)} (kn : Kn K mg) : ∃ fd, FD_root_of_plane K fd ∧ PosB K fd ps_root_of_plane ∧ FnSem P w K mg base (Sx T) 5 (He.ga K "root_of_plane") fd ps_root_of_plane m_root_of_plane := by
  obtain ⟨fd_Exact_initD, D_Exact_initD, F_Exact_initD⟩ := ok_Exact_initD (P := P) (w := w) (base := base) (T := T) kn
  obtain ⟨fd, D⟩ := d_root_of_plane kn
  refine ⟨fd, D, pb_root_of_plane D, FnSem.of (sm := b_root_of_plane) D sc_root_of_plane fun cdv A outer s H E O hr hg => ?_⟩
  exact (ss_one (st_ret (s_makeK 0 takes_def F_Exact_initD (mk_Exact kn) (hr.mono (by omega)) hg (g_Exact kn) (bi_Exact_1_sign_over_under D_Exact_initD) (a_cons s_int a_nil) (k_cons s_int (k_cons (s_fld 0 0 (hc_Exact kn) (na_Exact_top kn) rfl (s_v 0)) (k_cons (s_fld 0 1 (hc_Exact kn) (na_Exact_bottom kn) rfl (s_v 0)) k_nil))))))
def n_root_number : List Str := ["square"]
theorem sc_root_number : FnScope n_root_number ps_root_number (defScope (top 46)) := ⟨rfl, rfl, rfl, by decide +kernel, rfl, by decide +kernel, by decide +kernel⟩
def b_root_number : SM :=
 (retS (ifM (tst (op2 gtD (meth0M 0 m_Exact_sign_of (varM 0)) (cM (.int 0)))) (callM m_root_of_plane 1 1 (fun ds _ => ds) (consM (varM 0) nilM)) (makeM 0 m_Exact_initD 1 (fun ds _ => ds ++ [.int 1, .int 0, .int 0, .int 1]) (consM (cM (.int 0)) nilM))))
def m_root_number : DM := fun ds st => fin (b_root_number (startD n_root_number ds) st)
theorem ok_root_number {P : Program} {w : World} {K : Frg} {mg : Str → Option Value} {base : Heap} {T : List (Addr × Str)} (kn : Kn K mg) : ∃ fd, FD_root_number K fd ∧ PosB K fd ps_root_number ∧ FnSem P w K mg base (Sx T) 6 (He.ga K "root_number") fd ps_root_number m_root_number := by
  obtain ⟨fd_Exact_sign_of, D_Exact_sign_of, B_Exact_sign_of, F_Exact_sign_of⟩ := ok_Exact_sign_of (P := P) (w := w) (base := base) (T := T) kn
  obtain ⟨fd_root_of_plane, D_root_of_plane, B_root_of_plane, F_root_of_plane⟩ := ok_root_of_plane (P := P) (w := w) (base := base) (T := T) kn
  obtain ⟨fd_Exact_initD, D_Exact_initD, F_Exact_initD⟩ := ok_Exact_initD (P := P) (w := w) (base := base) (T := T) kn
  obtain ⟨fd, D⟩ := d_root_number kn
  refine ⟨fd, D, pb_root_number D, FnSem.of (sm := b_root_number) D sc_root_number fun cdv A outer s H E O hr hg => ?_⟩
  exact (ss_one (st_ret (s_if (t_cmp op_gt fGt (sb (s_meth0 0 takes_def F_Exact_sign_of (hr.mono (by omega)) hg (hc_Exact kn) (me_Exact_sign_of kn) (by have h : ("sign_of" : Str) ∉ cf 0 := (by decide +kernel); exact h) B_Exact_sign_of (s_v 0))) (sb s_int)) (s_call F_root_of_plane (hr.mono (by omega)) hg takes_def (g_root_of_plane kn) D_root_of_plane.kp (PosB.bnd B_root_of_plane) (a_cons (s_v 0) a_nil)) (s_make 0 takes_def F_Exact_initD (mk_Exact kn) (hr.mono (by omega)) hg (g_Exact kn) (bi_Exact_1 D_Exact_initD) (a_cons s_int a_nil)))))
def n_far_root : List Str := ["p", "q"]
theorem sc_far_root : FnScope n_far_root ps_far_root (defScope (top 45)) := ⟨rfl, rfl, rfl, by decide +kernel, rfl, by decide +kernel, by decide +kernel⟩
def b_far_root : SM :=
 (retS (callM m_root_number 1 1 (fun ds _ => ds) (consM (callM m_square_of 2 2 (fun ds _ => ds) (consM (varM 0) (consM (varM 1) nilM))) nilM)))
def m_far_root : DM := fun ds st => fin (b_far_root (startD n_far_root ds) st)
theorem ok_far_root {P : Program} {w : World} {K : Frg} {mg : Str → Option Value} {base : Heap} {T : List (Addr × Str)} (kn : Kn K mg) : ∃ fd, FD_far_root K fd ∧ PosB K fd ps_far_root ∧ FnSem P w K mg base (Sx T) 10 (He.ga K "far_root") fd ps_far_root m_far_root := by
  obtain ⟨fd_root_number, D_root_number, B_root_number, F_root_number⟩ := ok_root_number (P := P) (w := w) (base := base) (T := T) kn
  obtain ⟨fd_square_of, D_square_of, B_square_of, F_square_of⟩ := ok_square_of (P := P) (w := w) (base := base) (T := T) kn
  obtain ⟨fd, D⟩ := d_far_root kn
  refine ⟨fd, D, pb_far_root D, FnSem.of (sm := b_far_root) D sc_far_root fun cdv A outer s H E O hr hg => ?_⟩
  exact (ss_one (st_ret (s_call F_root_number (hr.mono (by omega)) hg takes_def (g_root_number kn) D_root_number.kp (PosB.bnd B_root_number) (a_cons (s_call F_square_of (hr.mono (by omega)) hg takes_def (g_square_of kn) D_square_of.kp (PosB.bnd B_square_of) (a_cons (s_v 0) (a_cons (s_v 1) a_nil))) a_nil))))
def n_lis_far : List Str := ["deck", "p", "q", "x", "y", "due", "told", "it"]
theorem sc_lis_far : FnScope n_lis_far ps_lis_far (defScope (top 82)) := ⟨rfl, rfl, rfl, by decide +kernel, rfl, by decide +kernel, by decide +kernel⟩
def b_lis_far : SM :=
 (seqS (parS 1 2 (consM (callM m_lpoint 1 1 (fun ds _ => ds) (consM (varM 0) nilM)) (consM (callM m_lpoint 1 1 (fun ds _ => ds) (consM (varM 0) nilM)) nilM)))
 (seqS (ifS (tst (op2 eqD (callM m_ldraw 2 2 (fun ds _ => ds) (consM (varM 0) (consM (cM (.int 4)) nilM))) (cM (.int 0))))
 (seqS (asgS (callM m_lpick 2 2 (fun ds _ => ds) (consM (varM 0) (consM (frzM (lstM (consM (tupM (consM (cM (.int 3)) (consM (cM (.int 4)) nilM))) (consM (tupM (consM (cM (.int 5)) (consM (cM (.int 12)) nilM))) (consM (tupM (consM (cM (.int 0)) (consM (cM (.int 2)) nilM))) (consM (tupM (consM (cM (.int 8)) (consM (cM (.int 15)) nilM))) (consM (tupM (consM (cM (.int 0)) (consM (cM (.int 0)) nilM))) (consM (tupM (consM (negM (cM (.int 7))) (consM (cM (.int 24)) nilM))) nilM)))))))) nilM))) (tupG 2 (consG (setG 3) (consG (setG 4) nilG))))
 (setS 2 (tupM (consM (callM m_lplus 2 2 (fun ds _ => ds) (consM (op2 ixD (varB 1) (cM (.int 0))) (consM (callM m_lnumber 2 2 (fun ds _ => ds) (consM (varM 3) (consM (cM (.int 2)) nilM))) nilM))) (consM (callM m_lplus 2 2 (fun ds _ => ds) (consM (op2 ixD (varB 1) (cM (.int 1))) (consM (callM m_lnumber 2 2 (fun ds _ => ds) (consM (varM 4) (consM (cM (.int 2)) nilM))) nilM))) nilM)))))
 nilS)
 (seqS (setS 5 (callM m_lfive 3 3 (fun ds _ => ds) (consM (tupM (consM (cM (.int 0)) (consM (cM (.int 1)) nilM))) (consM (cM (.int 1)) (consM (callM m_lsquare_way 2 2 (fun ds _ => ds) (consM (varM 1) (consM (varM 2) nilM))) nilM)))))
 (seqS (setS 6 (frzM (lstM (consM (callM m_far_root 2 2 (fun ds _ => ds) (consM (callM m_lspot 1 1 (fun ds _ => ds) (consM (varM 1) nilM)) (consM (callM m_lspot 1 1 (fun ds _ => ds) (consM (varM 2) nilM)) nilM))) (consM (callKM m_far_root 0 2 (fun ds es => pick [1, 0] (ds ++ es)) nilM (consM (callM m_lspot 1 1 (fun ds _ => ds) (consM (varM 1) nilM)) (consM (callM m_lspot 1 1 (fun ds _ => ds) (consM (varM 2) nilM)) nilM))) nilM)))))
 (retS (callM m_lsame 2 2 (fun ds _ => ds) (consM (frzM (compM [7] (seqW (varM 6)) (setG 7) (cM true) (callM (m_ltold 8) 1 1 (fun ds _ => ds) (consM (varM 7) nilM)))) (consM (frzM (lstM (consM (varM 5) (consM (varM 5) nilM)))) nilM))))))))
def m_lis_far : DM := fun ds st => fin (b_lis_far (startD n_lis_far ds) st)
theorem ok_lis_far {P : Program} {w : World} {K : Frg} {mg : Str → Option Value} {base : Heap} {T : List (Addr × Str)} (kn : Kn K mg) : ∃ fd, FD_lis_far K fd ∧ PosB K fd ps_lis_far ∧ FnSem P w K mg base (Sx T) 11 (He.ga K "_law_is_far") fd ps_lis_far m_lis_far := by
  obtain ⟨fd_lpoint, D_lpoint, B_lpoint, F_lpoint⟩ := ok_lpoint (P := P) (w := w) (base := base) (T := T) kn
  obtain ⟨fd_ldraw, D_ldraw, B_ldraw, F_ldraw⟩ := ok_ldraw (P := P) (w := w) (base := base) (T := T) kn
  obtain ⟨fd_lpick, D_lpick, B_lpick, F_lpick⟩ := ok_lpick (P := P) (w := w) (base := base) (T := T) kn
  obtain ⟨fd_lplus, D_lplus, B_lplus, F_lplus⟩ := ok_lplus (P := P) (w := w) (base := base) (T := T) kn
  obtain ⟨fd_lnumber, D_lnumber, B_lnumber, F_lnumber⟩ := ok_lnumber (P := P) (w := w) (base := base) (T := T) kn
  obtain ⟨fd_lfive, D_lfive, B_lfive, F_lfive⟩ := ok_lfive (P := P) (w := w) (base := base) (T := T) kn
  obtain ⟨fd_lsquare_way, D_lsquare_way, B_lsquare_way, F_lsquare_way⟩ := ok_lsquare_way (P := P) (w := w) (base := base) (T := T) kn
  obtain ⟨fd_far_root, D_far_root, B_far_root, F_far_root⟩ := ok_far_root (P := P) (w := w) (base := base) (T := T) kn
  obtain ⟨fd_lspot, D_lspot, B_lspot, F_lspot⟩ := ok_lspot (P := P) (w := w) (base := base) (T := T) kn
  obtain ⟨fd_lsame, D_lsame, B_lsame, F_lsame⟩ := ok_lsame (P := P) (w := w) (base := base) (T := T) kn
  obtain ⟨fd_ltold, D_ltold, B_ltold, F_ltold⟩ := ok_ltold (P := P) (w := w) (base := base) (T := T) kn 8
  obtain ⟨fd, D⟩ := d_lis_far kn
  refine ⟨fd, D, pb_lis_far D, FnSem.of (sm := b_lis_far) D sc_lis_far fun cdv A outer s H E O hr hg => ?_⟩
  exact (ss_cons (st_par sc_lis_far.nd (a_cons (s_call F_lpoint (hr.mono (by omega)) hg takes_def (g__law_point kn) D_lpoint.kp (PosB.bnd B_lpoint) (a_cons (s_v 0) a_nil)) (a_cons (s_call F_lpoint (hr.mono (by omega)) hg takes_def (g__law_point kn) D_lpoint.kp (PosB.bnd B_lpoint) (a_cons (s_v 0) a_nil)) a_nil)))
 (ss_cons (st_if (t_cmp (op_eqD (u64 hr)) fEq (sb (s_call F_ldraw (hr.mono (by omega)) hg takes_def (g__law_draw kn) D_ldraw.kp (PosB.bnd B_ldraw) (a_cons (s_v 0) (a_cons s_int a_nil)))) (sb s_int))
 (ss_cons (st_asg (s_call F_lpick (hr.mono (by omega)) hg takes_def (g__law_pick kn) D_lpick.kp (PosB.bnd B_lpick) (a_cons (s_v 0) (a_cons (s_frz (f_lst (a_cons (s_tup (a_cons s_int (a_cons s_int a_nil))) (a_cons (s_tup (a_cons s_int (a_cons s_int a_nil))) (a_cons (s_tup (a_cons s_int (a_cons s_int a_nil))) (a_cons (s_tup (a_cons s_int (a_cons s_int a_nil))) (a_cons (s_tup (a_cons s_int (a_cons s_int a_nil))) (a_cons (s_tup (a_cons (s_neg s_int) (a_cons s_int a_nil))) a_nil)))))))) a_nil))) (g_tup (gs_cons (ml_name 3 sc_lis_far.nd) (mild_set 3) (gs_cons (ml_name 4 sc_lis_far.nd) (mild_set 4) gs_nil))))
 (ss_one (st_set 2 sc_lis_far.nd (s_tup (a_cons (s_call F_lplus (hr.mono (by omega)) hg takes_def (g__law_plus kn) D_lplus.kp (PosB.bnd B_lplus) (a_cons (s_ix (s_vb 1) (sb s_int)) (a_cons (s_call F_lnumber (hr.mono (by omega)) hg takes_def (g__law_number kn) D_lnumber.kp (PosB.bnd B_lnumber) (a_cons (s_v 3) (a_cons s_int a_nil))) a_nil))) (a_cons (s_call F_lplus (hr.mono (by omega)) hg takes_def (g__law_plus kn) D_lplus.kp (PosB.bnd B_lplus) (a_cons (s_ix (s_vb 1) (sb s_int)) (a_cons (s_call F_lnumber (hr.mono (by omega)) hg takes_def (g__law_number kn) D_lnumber.kp (PosB.bnd B_lnumber) (a_cons (s_v 4) (a_cons s_int a_nil))) a_nil))) a_nil))))))
 ss_nil)
 (ss_cons (st_set 5 sc_lis_far.nd (s_call F_lfive (hr.mono (by omega)) hg takes_def (g__law_five kn) D_lfive.kp (PosB.bnd B_lfive) (a_cons (s_tup (a_cons s_int (a_cons s_int a_nil))) (a_cons s_int (a_cons (s_call F_lsquare_way (hr.mono (by omega)) hg takes_def (g__law_square_way kn) D_lsquare_way.kp (PosB.bnd B_lsquare_way) (a_cons (s_v 1) (a_cons (s_v 2) a_nil))) a_nil)))))
 (ss_cons (st_set 6 sc_lis_far.nd (s_frz (f_lst (a_cons (s_call F_far_root (hr.mono (by omega)) hg takes_def (g_far_root kn) D_far_root.kp (PosB.bnd B_far_root) (a_cons (s_call F_lspot (hr.mono (by omega)) hg takes_def (g__law_spot kn) D_lspot.kp (PosB.bnd B_lspot) (a_cons (s_v 1) a_nil)) (a_cons (s_call F_lspot (hr.mono (by omega)) hg takes_def (g__law_spot kn) D_lspot.kp (PosB.bnd B_lspot) (a_cons (s_v 2) a_nil)) a_nil))) (a_cons (s_callK0 F_far_root (hr.mono (by omega)) hg takes_def (g_far_root kn) D_far_root.kp (Bnd.kw (n := 0) (ks := ["q", "p"]) D_far_root [1, 0] (fun _ _ _ _ _ _ us ws h1 h2 => match us, ws, h1, h2 with | [], [_, _], _, _ => rfl)) (k_cons (s_call F_lspot (hr.mono (by omega)) hg takes_def (g__law_spot kn) D_lspot.kp (PosB.bnd B_lspot) (a_cons (s_v 1) a_nil)) (k_cons (s_call F_lspot (hr.mono (by omega)) hg takes_def (g__law_spot kn) D_lspot.kp (PosB.bnd B_lspot) (a_cons (s_v 2) a_nil)) k_nil))) a_nil)))))
 (ss_one (st_ret (s_call F_lsame (hr.mono (by omega)) hg takes_def (g__law_same kn) D_lsame.kp (PosB.bnd B_lsame) (a_cons (s_frz (f_comp [("it", 7)] (tgt_name 7) sc_lis_far.nd (i_seq (s_v 6)) (blkOk_by (by kernel_rfl)) (fun _ _ _ _ _ => pg_name sc_lis_far.nd rfl (by first | exact Or.inl rfl | exact Or.inr rfl) (by first | exact .inl rfl | exact .inr rfl)) (fun _ _ _ _ _ => pt_nil) (fun _ _ _ _ _ => (s_call F_ltold (hr.mono (by omega)) hg takes_blkD (g__law_told kn) D_ltold.kp (PosB.bnd B_ltold) (a_cons (s_v 7) a_nil))))) (a_cons (s_frz (f_lst (a_cons (s_v 5) (a_cons (s_v 5) a_nil)))) a_nil)))))))))
def n_law : List Str := ["script", "deck", "turn"]
theorem sc_law : FnScope n_law ps_law (defScope (top 83)) := ⟨rfl, rfl, rfl, by decide +kernel, rfl, by decide +kernel, by decide +kernel⟩
def b_law : SM :=
 (seqS (setS 1 (callM m_ldeck 1 1 (fun ds _ => ds) (consM (varM 0) nilM)))
 (seqS (forS (rng1W (consM (cM (.int 4)) nilM)) (setG 2)
 (ifS (orM (notM (tst (callM m_lis_by_three 1 1 (fun ds _ => ds) (consM (varM 1) nilM)))) (orM (notM (tst (callM m_lis_axis 1 1 (fun ds _ => ds) (consM (varM 1) nilM)))) (notM (tst (callM m_lis_far 1 1 (fun ds _ => ds) (consM (varM 1) nilM))))))
 (retS (cM (.bl false)))
 nilS))
 (retS (cM (.bl true)))))
def m_law : DM := fun ds st => fin (b_law (startD n_law ds) st)
theorem ok_law {P : Program} {w : World} {K : Frg} {mg : Str → Option Value} {base : Heap} {T : List (Addr × Str)} (kn : Kn K mg) (mk : MkOk K mg base T) : ∃ fd, FD_law K fd ∧ PosB K fd ps_law ∧ FnSem P w K mg base (Sx T) 16 (He.ga K "law") fd ps_law m_law := by
  obtain ⟨fd_ldeck, D_ldeck, B_ldeck, F_ldeck⟩ := ok_ldeck (P := P) (w := w) (base := base) (T := T) kn
  obtain ⟨fd_lis_by_three, D_lis_by_three, B_lis_by_three, F_lis_by_three⟩ := ok_lis_by_three (P := P) (w := w) (base := base) (T := T) kn mk
  obtain ⟨fd_lis_axis, D_lis_axis, B_lis_axis, F_lis_axis⟩ := ok_lis_axis (P := P) (w := w) (base := base) (T := T) kn mk
  obtain ⟨fd_lis_far, D_lis_far, B_lis_far, F_lis_far⟩ := ok_lis_far (P := P) (w := w) (base := base) (T := T) kn
  obtain ⟨fd, D⟩ := d_law kn
  refine ⟨fd, D, pb_law D, FnSem.of (sm := b_law) D sc_law fun cdv A outer s H E O hr hg => ?_⟩
  exact (ss_cons (st_set 1 sc_law.nd (s_call F_ldeck (hr.mono (by omega)) hg takes_def (g__law_deck kn) D_ldeck.kp (PosB.bnd B_ldeck) (a_cons (s_v 0) a_nil)))
 (ss_cons (st_for (passes_of rfl) (i_range1 (fr_range kn) (a_cons s_int a_nil)) (fun O => (g_name 2 sc_law.nd))
 (fun O => (ss_one (st_if (t_w (w_or (t_not (t_val (s_call F_lis_by_three (hr.mono (by omega)) hg takes_def (g__law_is_by_three kn) D_lis_by_three.kp (PosB.bnd B_lis_by_three) (a_cons (s_v 1) a_nil)))) (w_or (t_not (t_val (s_call F_lis_axis (hr.mono (by omega)) hg takes_def (g__law_is_axis kn) D_lis_axis.kp (PosB.bnd B_lis_axis) (a_cons (s_v 1) a_nil)))) (w_or1 (t_not (t_val (s_call F_lis_far (hr.mono (by omega)) hg takes_def (g__law_is_far kn) D_lis_far.kp (PosB.bnd B_lis_far) (a_cons (s_v 1) a_nil))))))))
 (ss_one (st_ret s_bl))
 ss_nil))))
 (ss_one (st_ret s_bl))))
end
end G76
set_option Elab.async false
set_option linter.all false
set_option maxRecDepth 100000
set_option maxHeartbeats 8000000
set_option autoImplicit false
namespace G76
open PySem PySem.Spec PyProof.Rows L2 Sm
theorem u_ldeck {x0 : D} {st : Store} : m_ldeck [x0] st = fin (b_ldeck [.val x0, .un, .un, .un] st) := rfl
theorem u_ldraw {x0 x1 : D} {st : Store} : m_ldraw [x0, x1] st = fin (b_ldraw [.val x0, .val x1, .un, .un, .un] st) := rfl
theorem u_with_roots {n : Nat} {x0 : D} {st : Store} : m_with_roots (n + 1) [x0] st = fin (b_with_roots (m_with_roots n) [.val x0, .un, .un] st) := rfl
theorem u_lowest {x0 x1 : D} {st : Store} : m_lowest [x0, x1] st = fin (b_lowest [.val x0, .val x1, .un, .un, .un] st) := rfl
theorem u_whole_root {x0 : D} {st : Store} : m_whole_root [x0] st = fin (b_whole_root [.val x0, .un, .un] st) := rfl
theorem u_root_of_exacts {x0 x1 : D} {st : Store} : m_root_of_exacts [x0, x1] st = fin (b_root_of_exacts [.val x0, .val x1, .un, .un] st) := rfl
theorem u_shared_radix {x0 x1 : D} {st : Store} : m_shared_radix [x0, x1] st = fin (b_shared_radix [.val x0, .val x1, .un, .un] st) := rfl
theorem u_is_whole {x0 : D} {st : Store} : m_is_whole [x0] st = fin (b_is_whole [.val x0] st) := rfl
theorem u_are_right {x0 x1 x2 x3 x4 : D} {st : Store} : m_are_right [x0, x1, x2, x3, x4] st = fin (b_are_right [.val x0, .val x1, .val x2, .val x3, .val x4, .un] st) := rfl
theorem u_sum_of {x0 x1 : D} {st : Store} : m_sum_of [x0, x1] st = fin (b_sum_of [.val x0, .val x1] st) := rfl
theorem u_sign_in {x0 : D} {st : Store} : m_sign_in [x0] st = fin (b_sign_in [.val x0] st) := rfl
theorem u_made_of {x0 x1 x2 : D} {st : Store} : m_made_of [x0, x1, x2] st = fin (b_made_of [.val x0, .val x1, .val x2, .un, .un] st) := rfl
theorem u_quotient {x0 : D} {st : Store} : m_quotient [x0] st = fin (b_quotient [.val x0] st) := rfl
theorem u_Exact_plus {x0 x1 : D} {st : Store} : m_Exact_plus [x0, x1] st = fin (b_Exact_plus [.val x0, .val x1, .un, .un, .un] st) := rfl
theorem u_must_agree {x0 : D} {st : Store} : m_must_agree [x0] st = fin (b_must_agree [.val x0, .un, .un, .un] st) := rfl
theorem u_opposite {x0 : D} {st : Store} : m_opposite [x0] st = fin (b_opposite [.val x0] st) := rfl
theorem u_Exact_minus {x0 x1 : D} {st : Store} : m_Exact_minus [x0, x1] st = fin (b_Exact_minus [.val x0, .val x1] st) := rfl
theorem u_product_of {x0 x1 : D} {st : Store} : m_product_of [x0, x1] st = fin (b_product_of [.val x0, .val x1] st) := rfl
theorem u_Exact_times {x0 x1 : D} {st : Store} : m_Exact_times [x0, x1] st = fin (b_Exact_times [.val x0, .val x1, .un, .un, .un, .un, .un, .un] st) := rfl
theorem u_cross {x0 x1 : D} {st : Store} : m_cross [x0, x1] st = fin (b_cross [.val x0, .val x1] st) := rfl
theorem u_Exact_sign_of {x0 : D} {st : Store} : m_Exact_sign_of [x0] st = fin (b_Exact_sign_of [.val x0] st) := rfl
theorem u_Exact_by {x0 x1 : D} {st : Store} : m_Exact_by [x0, x1] st = fin (b_Exact_by [.val x0, .val x1, .un, .un] st) := rfl
theorem u_lines_meet {x0 x1 : D} {st : Store} : m_lines_meet [x0, x1] st = fin (b_lines_meet [.val x0, .val x1, .un, .un, .un] st) := rfl
theorem u_scaled_line {x0 x1 x2 : D} {st : Store} : m_scaled_line [x0, x1, x2] st = fin (b_scaled_line [.val x0, .val x1, .val x2, .un] st) := rfl
theorem u_dot {x0 x1 : D} {st : Store} : m_dot [x0, x1] st = fin (b_dot [.val x0, .val x1] st) := rfl
theorem u_line_by {x0 x1 : D} {st : Store} : m_line_by [x0, x1] st = fin (b_line_by [.val x0, .val x1] st) := rfl
theorem u_gone {x0 x1 x2 : D} {st : Store} : m_gone [x0, x1, x2] st = fin (b_gone [.val x0, .val x1, .val x2] st) := rfl
theorem u_way_between {x0 x1 : D} {st : Store} : m_way_between [x0, x1] st = fin (b_way_between [.val x0, .val x1] st) := rfl
theorem u_middle_of {x0 x1 : D} {st : Store} : m_middle_of [x0, x1] st = fin (b_middle_of [.val x0, .val x1] st) := rfl
theorem u_upright_middle {x0 x1 : D} {st : Store} : m_upright_middle [x0, x1] st = fin (b_upright_middle [.val x0, .val x1] st) := rfl
theorem u_square_of {x0 x1 : D} {st : Store} : m_square_of [x0, x1] st = fin (b_square_of [.val x0, .val x1, .un] st) := rfl
theorem u_circle_by {x0 x1 x2 : D} {st : Store} : m_circle_by [x0, x1, x2] st = fin (b_circle_by [.val x0, .val x1, .val x2, .un] st) := rfl
theorem u_lnumber {x0 x1 : D} {st : Store} : m_lnumber [x0, x1] st = fin (b_lnumber [.val x0, .val x1, .un, .un] st) := rfl
theorem u_lpick {x0 x1 : D} {st : Store} : m_lpick [x0, x1] st = fin (b_lpick [.val x0, .val x1] st) := rfl
theorem u_lcoordinate {x0 : D} {st : Store} : m_lcoordinate [x0] st = fin (b_lcoordinate [.val x0, .un, .un, .un] st) := rfl
theorem u_lpoint {x0 : D} {st : Store} : m_lpoint [x0] st = fin (b_lpoint [.val x0] st) := rfl
theorem u_lsign {x0 : D} {st : Store} : m_lsign [x0] st = fin (b_lsign [.val x0] st) := rfl
theorem u_lby {x0 x1 : D} {st : Store} : m_lby [x0, x1] st = fin (b_lby [.val x0, .val x1] st) := rfl
theorem u_lminus {x0 x1 : D} {st : Store} : m_lminus [x0, x1] st = fin (b_lminus [.val x0, .val x1] st) := rfl
theorem u_ltimes {x0 x1 : D} {st : Store} : m_ltimes [x0, x1] st = fin (b_ltimes [.val x0, .val x1] st) := rfl
theorem u_lon {x0 x1 : D} {st : Store} : m_lon [x0, x1] st = fin (b_lon [.val x0, .val x1, .un] st) := rfl
theorem u_lexact {x0 : D} {st : Store} : m_lexact [x0] st = fin (b_lexact [.val x0] st) := rfl
theorem u_lspot {x0 : D} {st : Store} : m_lspot [x0] st = fin (b_lspot [.val x0] st) := rfl
theorem u_lread {x0 : D} {st : Store} : m_lread [x0] st = fin (b_lread [.val x0] st) := rfl
theorem u_ltold {n : Nat} {x0 : D} {st : Store} : m_ltold (n + 1) [x0] st = fin (b_ltold (m_ltold n) [.val x0, .un] st) := rfl
theorem u_lsame {x0 x1 : D} {st : Store} : m_lsame [x0, x1] st = fin (b_lsame [.val x0, .val x1] st) := rfl
theorem u_lline {x0 x1 x2 : D} {st : Store} : m_lline [x0, x1, x2] st = fin (b_lline [.val x0, .val x1, .val x2, .un] st) := rfl
theorem u_lplus {x0 x1 : D} {st : Store} : m_lplus [x0, x1] st = fin (b_lplus [.val x0, .val x1] st) := rfl
theorem u_lthrough {x0 x1 : D} {st : Store} : m_lthrough [x0, x1] st = fin (b_lthrough [.val x0, .val x1, .un, .un] st) := rfl
theorem u_lturns {x0 x1 x2 : D} {st : Store} : m_lturns [x0, x1, x2] st = fin (b_lturns [.val x0, .val x1, .val x2] st) := rfl
theorem u_lroot_of {x0 : D} {st : Store} : m_lroot_of [x0] st = fin (b_lroot_of [.val x0, .un, .un] st) := rfl
theorem u_lfive {x0 x1 x2 : D} {st : Store} : m_lfive [x0, x1, x2] st = fin (b_lfive [.val x0, .val x1, .val x2, .un, .un] st) := rfl
theorem u_ldue {n : Nat} {x0 : D} {st : Store} : m_ldue (n + 1) [x0] st = fin (b_ldue (m_ldue n) [.val x0, .un] st) := rfl
theorem u_lis_whole {x0 : D} {st : Store} : m_lis_whole [x0] st = fin (b_lis_whole [.val x0] st) := rfl
theorem u_llisted {n : Nat} {x0 : D} {st : Store} : m_llisted (n + 1) [x0] st = fin (b_llisted (m_llisted n) [.val x0, .un] st) := rfl
theorem u_lsquare_way {x0 x1 : D} {st : Store} : m_lsquare_way [x0, x1] st = fin (b_lsquare_way [.val x0, .val x1, .un, .un] st) := rfl
theorem u_lby_three {x0 x1 x2 : D} {st : Store} : m_lby_three [x0, x1, x2] st = fin (b_lby_three [.val x0, .val x1, .val x2, .un, .un, .un, .un, .un, .un, .un, .un, .un, .un] st) := rfl
theorem u_power_of {x0 x1 : D} {st : Store} : m_power_of [x0, x1] st = fin (b_power_of [.val x0, .val x1] st) := rfl
theorem u_lis_by_three {x0 : D} {st : Store} : m_lis_by_three [x0] st = fin (b_lis_by_three [.val x0, .un, .un, .un, .un, .un, .un, .un, .un, .un, .un, .un, .un] st) := rfl
theorem u_ldrawn_circle {x0 : D} {st : Store} : m_ldrawn_circle [x0] st = fin (b_ldrawn_circle [.val x0, .un, .un] st) := rfl
theorem u_lpower {x0 x1 : D} {st : Store} : m_lpower [x0, x1] st = fin (b_lpower [.val x0, .val x1] st) := rfl
theorem u_lring {x0 : D} {st : Store} : m_lring [x0] st = fin (b_lring [.val x0] st) := rfl
theorem u_laround {x0 x1 : D} {st : Store} : m_laround [x0, x1] st = fin (b_laround [.val x0, .val x1, .un, .un, .un] st) := rfl
theorem u_axis_of {x0 x1 : D} {st : Store} : m_axis_of [x0, x1] st = fin (b_axis_of [.val x0, .val x1, .un, .un, .un, .un, .un, .un] st) := rfl
theorem u_lis_axis {x0 : D} {st : Store} : m_lis_axis [x0] st = fin (b_lis_axis [.val x0, .un, .un, .un, .un, .un, .un, .un, .un, .un, .un, .un, .un, .un, .un, .un, .un, .un] st) := rfl
theorem u_root_of_plane {x0 : D} {st : Store} : m_root_of_plane [x0] st = fin (b_root_of_plane [.val x0] st) := rfl
theorem u_root_number {x0 : D} {st : Store} : m_root_number [x0] st = fin (b_root_number [.val x0] st) := rfl
theorem u_far_root {x0 x1 : D} {st : Store} : m_far_root [x0, x1] st = fin (b_far_root [.val x0, .val x1] st) := rfl
theorem u_lis_far {x0 : D} {st : Store} : m_lis_far [x0] st = fin (b_lis_far [.val x0, .un, .un, .un, .un, .un, .un, .un] st) := rfl
theorem u_law {x0 : D} {st : Store} : m_law [x0] st = fin (b_law [.val x0, .un, .un] st) := rfl
end G76
set_option Elab.async false
set_option linter.all false
set_option maxRecDepth 100000
set_option maxHeartbeats 4000000
set_option autoImplicit false
namespace G76
open PySem PySem.Spec PyProof.Rows L2 Sm
theorem low_loop (x y : D) (sl : List Sl) (st : Store) : ∀ b a : Nat, whileS (tst (op2 neD (varB 3) (cM (.int 0)))) (parS 2 3 (consM (varM 3) (consM (op2 modD (varB 2) (varB 3)) nilM))) (.val x :: .val y :: .val (.int (a : Int)) :: .val (.int (b : Int)) :: sl) st = .nx (.val x :: .val y :: .val (.int ((Nat.gcd a b : Nat) : Int)) :: .val (.int 0) :: sl) st := by
  intro b
  induction b using Nat.strongRecOn with
  | ind b ih =>
    intro a
    by_cases hb : b = 0
    · subst hb
      rw [whileF (st1 := st) (by simp)]
      simp
    · have hm : (a : Int).fmod (b : Int) = ((a % b : Nat) : Int) := by rw [Int.fmod_eq_emod_of_nonneg _ (by omega), Int.natCast_emod]
      have hz : (b : Int) ≠ 0 := by omega
      rw [whileT (st1 := st) (st2 := st) (ρ2 := .val x :: .val y :: .val (.int (b : Int)) :: .val (.int ((a % b : Nat) : Int)) :: sl) (by simp [hb]) (by simp [mod_int'' hz, hm]), ih (a % b) (Nat.mod_lt _ (by omega)) b]
      rw [Nat.gcd_comm a b, Nat.gcd_rec b a, Nat.gcd_comm]
theorem lowest_ev {a b : Int} {st : Store} (hb : b ≠ 0) (hs : b.natAbs < 2 ^ 9000) : m_lowest [.int a, .int b] st = .ok (qD (Rat.divInt a b)) st := by
  show fin (b_lowest [.val (.int a), .val (.int b), .un, .un, .un] st) = _
  have k1 := byN_le (a := a) hb
  have k2 := byN_ne (a := a) hb
  have d1 : divOk a (byN a b) = true := divOk_of k2 (Nat.lt_of_le_of_lt k1 hs) (by omega)
  have d2 : divOk b (byN a b) = true := divOk_of k2 (Nat.lt_of_le_of_lt k1 hs) (by omega)
  obtain ⟨e1, e2⟩ := low_num (a := a) hb
  unfold b_lowest qD
  by_cases h : 0 < b
  · have e : byN a b = ((Nat.gcd a.natAbs b.natAbs : Nat) : Int) := if_pos h
    rw [e] at d1 d2 e1 e2
    simp [low_loop, h, div_int' d1, div_int' d2, e1, e2]
  · have e : byN a b = -((Nat.gcd a.natAbs b.natAbs : Nat) : Int) := if_neg h
    rw [e] at d1 d2 e1 e2
    simp [low_loop, h, div_int' d1, div_int' d2, e1, e2]
theorem pow_le {m n a : Nat} (h : a < 2 ^ m) (hn : m ≤ n) : a < 2 ^ n := Nat.lt_of_lt_of_le h (Nat.pow_le_pow_right (by decide) hn)
theorem sumG {a b c e : Int} {st : Store} {n : Nat} (ha : a.natAbs < 2 ^ n) (hb : b.natAbs < 2 ^ n) (hc : c.natAbs < 2 ^ n) (he : e.natAbs < 2 ^ n) (hn : n ≤ 4500) (b0 : b ≠ 0) (e0 : e ≠ 0) :
    m_sum_of [.tup [.int a, .int b], .tup [.int c, .int e]] st = .ok (qD (Rat.divInt (a * e + c * b) (b * e))) st := by
  show fin (b_sum_of [.val (.tup [.int a, .int b]), .val (.tup [.int c, .int e])] st) = _
  have m1 := mulOk_of ha he (by omega)
  have m2 := mulOk_of hc hb (by omega)
  have m3 := mulOk_of hb he (by omega)
  unfold b_sum_of
  simp [mul_int' m1, mul_int' m2, mul_int' m3]
  rw [lowest_ev (Int.mul_ne_zero b0 e0) (pow_le (imul_lt hb he) (by omega))]
  rfl
theorem prodG {a b c e : Int} {st : Store} {n : Nat} (ha : a.natAbs < 2 ^ n) (hb : b.natAbs < 2 ^ n) (hc : c.natAbs < 2 ^ n) (he : e.natAbs < 2 ^ n) (hn : n ≤ 4500) (b0 : b ≠ 0) (e0 : e ≠ 0) :
    m_product_of [.tup [.int a, .int b], .tup [.int c, .int e]] st = .ok (qD (Rat.divInt (a * c) (b * e))) st := by
  show fin (b_product_of [.val (.tup [.int a, .int b]), .val (.tup [.int c, .int e])] st) = _
  have m1 := mulOk_of ha hc (by omega)
  have m3 := mulOk_of hb he (by omega)
  unfold b_product_of
  simp [mul_int' m1, mul_int' m3]
  rw [lowest_ev (Int.mul_ne_zero b0 e0) (pow_le (imul_lt hb he) (by omega))]
  rfl
theorem den_lt {x : Rat} {n d : Nat} (h : Bq n d x) : ((x.den : Int)).natAbs < 2 ^ d := by rw [Int.natAbs_natCast]; exact h.den
theorem sum_ev {x y : Rat} {st : Store} (hx : K x) (hy : K y) : m_sum_of [qD x, qD y] st = .ok (qD (x + y)) st := by
  rw [add_eq]
  exact sumG hx.bq.num (den_lt hx.bq) hy.bq.num (den_lt hy.bq) (by omega) (den_ne x) (den_ne y)
theorem prod_ev {x y : Rat} {st : Store} (hx : K x) (hy : K y) : m_product_of [qD x, qD y] st = .ok (qD (x * y)) st := by
  rw [mul_eq]
  exact prodG hx.bq.num (den_lt hx.bq) hy.bq.num (den_lt hy.bq) (by omega) (den_ne x) (den_ne y)
theorem K_0 : K 0 := K_of (by decide) (by decide)
theorem qD_0 : qD 0 = .tup [.int 0, .int 1] := rfl
theorem whole_ev {i : Int} {st : Store} : m_is_whole [.int i] st = .ok (.bl true) st := rfl
theorem right_ev {t b s o u : Int} {st : Store} : m_are_right [.int t, .int b, .int s, .int o, .int u] st = .ok (.bl (decide (0 < b) && (decide (0 < u) && (decide (0 ≤ o) && (decide (-1 ≤ s) && decide (s ≤ 1)))))) st := by
  show fin (b_are_right [.val (.int t), .val (.int b), .val (.int s), .val (.int o), .val (.int u), .un] st) = _
  unfold b_are_right
  simp [compM, compL, wipeD, whole_ev, Sm.allB, lstOf, blsOf]
theorem root_01 {st : Store} : m_root_of_exacts [.int 0, .int 1] st = .ok (.tup [.int 0, .int 1]) st := by
  show fin (b_root_of_exacts [.val (.int 0), .val (.int 1), .un, .un] st) = _
  have w0 : m_whole_root [.int 0] st = .ok (.int 0) st := rfl
  have w1 : m_whole_root [.int 1] st = .ok (.int 1) st := rfl
  have m0 : mulOk 0 0 = true := by decide
  have m1 : mulOk 1 1 = true := by decide
  unfold b_root_of_exacts
  simp [w0, w1, mul_int' m0, mul_int' m1]
theorem init_ev {t b : Int} {st : Store} {n : Nat} (ht : t.natAbs < 2 ^ n) (hb : b.natAbs < 2 ^ n) (hn : n ≤ 4499) (b0 : 0 < b) :
    m_Exact_initD [.int t, .int b, .int 0, .int 0, .int 1] st = .ok [.int (Rat.divInt t b).num, .int ((Rat.divInt t b).den : Int), .int 0, .int 0, .int 1] st := by
  show finI S0 0 (b_Exact_initD [.obj 0 [], .val (.int t), .val (.int b), .val (.int 0), .val (.int 0), .val (.int 1), .un, .un, .un] st) = _
  have l1 : m_lowest [.int 0, .int 1] st = .ok (qD 0) st := lowest_ev (by decide) (by decide)
  have n0 : n ≠ 0 := fun q => by
    subst q
    simp at hb
    omega
  have s1 := sumG (st := st) ht hb (c := 0) (e := 1) (Nat.two_pow_pos _) (Nat.lt_of_le_of_lt (by decide : (1 : Int).natAbs ≤ 1) (Nat.one_lt_two_pow (by omega))) (by omega) (by omega) (by decide)
  have m0 : mulOk 0 0 = true := by decide
  have hd := Bq.divInt (show b ≠ 0 by omega) ht hb
  have l2 : m_lowest [.int (Rat.divInt t b).num, .int ((Rat.divInt t b).den : Int)] st = .ok (qD (Rat.divInt t b)) st := by
    rw [lowest_ev (den_ne _) (pow_le (den_lt hd) (by omega)), Rat.num_divInt_den]
  unfold b_Exact_initD
  simp [right_ev, b0, l1, qD_0, root_01, mul_int' m0, s1]
  have q1 : ("bottom" : Str) ≠ "top" := by decide
  have q2 : ("sign" : Str) ≠ "top" := by decide
  have q3 : ("sign" : Str) ≠ "bottom" := by decide
  have q4 : ("over" : Str) ≠ "top" := by decide
  have q5 : ("over" : Str) ≠ "bottom" := by decide
  have q6 : ("over" : Str) ≠ "sign" := by decide
  have q7 : ("under" : Str) ≠ "top" := by decide
  have q8 : ("under" : Str) ≠ "bottom" := by decide
  have q9 : ("under" : Str) ≠ "sign" := by decide
  have q10 : ("under" : Str) ≠ "over" := by decide
  simp [qD, l2, cf, q1, q2, q3, q4, q5, q6, q7, q8, q9, q10]
/-- an Exact of a quotient -/
theorem init_e {x : Rat} {st : Store} (h : K x) : m_Exact_initD [.int x.num, .int (x.den : Int), .int 0, .int 0, .int 1] st = .ok [.int x.num, .int (x.den : Int), .int 0, .int 0, .int 1] st := by
  have i := init_ev (st := st) (t := x.num) (b := (x.den : Int)) (n := 4499) h.bq.num (den_lt h.bq) (by omega) (by have := x.den_nz; omega)
  rw [Rat.num_divInt_den] at i
  exact i
theorem ie {x : Rat} : D.ins 0 [.int x.num, .int (x.den : Int), .int 0, .int 0, .int 1] = eD x := rfl
theorem init_0 {st : Store} : m_Exact_initD [.int 0, .int 1, .int 0, .int 0, .int 1] st = .ok [.int 0, .int 1, .int 0, .int 0, .int 1] st := init_e (x := 0) (K_of (by decide) (by decide))
theorem ie_0 : D.ins 0 [.int 0, .int 1, .int 0, .int 0, .int 1] = eD 0 := rfl
theorem init_1 {st : Store} : m_Exact_initD [.int 1, .int 1, .int 0, .int 0, .int 1] st = .ok [.int 1, .int 1, .int 0, .int 0, .int 1] st := init_e (x := 1) (K_of (by decide) (by decide))
theorem ie_1 : D.ins 0 [.int 1, .int 1, .int 0, .int 0, .int 1] = eD 1 := rfl
theorem init_2 {st : Store} : m_Exact_initD [.int 2, .int 1, .int 0, .int 0, .int 1] st = .ok [.int 2, .int 1, .int 0, .int 0, .int 1] st := init_e (x := 2) (K_of (by decide) (by decide))
theorem ie_2 : D.ins 0 [.int 2, .int 1, .int 0, .int 0, .int 1] = eD 2 := rfl
theorem init_4 {st : Store} : m_Exact_initD [.int 4, .int 1, .int 0, .int 0, .int 1] st = .ok [.int 4, .int 1, .int 0, .int 0, .int 1] st := init_e (x := 4) (K_of (by decide) (by decide))
theorem ie_4 : D.ins 0 [.int 4, .int 1, .int 0, .int 0, .int 1] = eD 4 := rfl
theorem half_is : (1 / 2 : Rat).num = 1 ∧ (1 / 2 : Rat).den = 2 := by decide +kernel
theorem init_h {st : Store} : m_Exact_initD [.int 1, .int 2, .int 0, .int 0, .int 1] st = .ok [.int 1, .int 2, .int 0, .int 0, .int 1] st := by
  have h := init_e (x := 1 / 2) (st := st) (K_of (by decide) (by decide))
  rw [half_is.1, half_is.2] at h
  exact h
theorem ie_h : D.ins 0 [.int 1, .int 2, .int 0, .int 0, .int 1] = eD (1 / 2) := by
  have h := ie (x := 1 / 2)
  rw [half_is.1, half_is.2] at h
  exact h
theorem opp_ev {x : Rat} {st : Store} (hx : K x) : m_opposite [eD x] st = .ok (eD (-x)) st := by
  show fin (b_opposite [.val (eD x)] st) = _
  have i := init_ev (st := st) (t := -x.num) (b := (x.den : Int)) (n := 4499) (by rw [Int.natAbs_neg]; exact hx.bq.num) (den_lt hx.bq) (by omega) (by have := x.den_nz; omega)
  have e : Rat.divInt (-x.num) (x.den : Int) = -x := by rw [← Rat.neg_num, ← Rat.neg_den, Rat.num_divInt_den]
  rw [e] at i
  unfold b_opposite
  simp [i]
  rfl
theorem quo_ev {x : Rat} {st : Store} : m_quotient [eD x] st = .ok (qD x) st := rfl
theorem rad_ev {x y : Rat} {st : Store} : m_shared_radix [eD x, eD y] st = .ok (.tup [.tup [.int 0, .int 1], .tup [.int 0, .int 1], .tup [.int 0, .int 1]]) st := by
  show fin (b_shared_radix [.val (eD x), .val (eD y), .un, .un] st) = _
  unfold b_shared_radix
  simp
theorem made_ev {x : Rat} {st : Store} (hx : K x) : m_made_of [qD x, qD 0, .tup [.int 0, .int 1]] st = .ok (eD x) st := by
  show fin (b_made_of [.val (qD x), .val (qD 0), .val (.tup [.int 0, .int 1]), .un, .un] st) = _
  have i := init_e (st := st) hx
  have m0 : mulOk 0 0 = true := by decide
  have m1 : mulOk 1 1 = true := by decide
  have s0 : m_sign_in [.int 0] st = .ok (.int 0) st := by
    show fin (b_sign_in [.val (.int 0)] st) = _
    unfold b_sign_in
    simp
  rw [qD_0]
  unfold b_made_of qD
  simp [mul_int' m0, mul_int' m1, s0, i, eD]
theorem plus_ev {x y : Rat} {st : Store} (hx : K x) (hy : K y) (h : K (x + y)) : m_Exact_plus [eD x, eD y] st = .ok (eD (x + y)) st := by
  show fin (b_Exact_plus [.val (eD x), .val (eD y), .un, .un, .un] st) = _
  have a0 : m_sum_of [.tup [.int 0, .int 1], .tup [.int 0, .int 1]] st = .ok (qD 0) st := by
    have := sum_ev (st := st) K_0 K_0
    rw [Rat.add_zero] at this
    exact this
  have a1 := made_ev (st := st) h
  unfold b_Exact_plus
  simp [rad_ev, quo_ev, sum_ev hx hy, a0, a1]
theorem K_neg {x : Rat} (h : K x) : K (-x) := ⟨h.bq.neg⟩
theorem minus_ev {x y : Rat} {st : Store} (hx : K x) (hy : K y) (h : K (x - y)) : m_Exact_minus [eD x, eD y] st = .ok (eD (x - y)) st := by
  show fin (b_Exact_minus [.val (eD x), .val (eD y)] st) = _
  rw [Rat.sub_eq_add_neg] at h ⊢
  have p := plus_ev (st := st) hx (K_neg hy) h
  have o := opp_ev (st := st) hy
  unfold b_Exact_minus
  simp [o, p]
theorem times_ev {x y : Rat} {st : Store} (hx : K x) (hy : K y) (h : K (x * y)) : m_Exact_times [eD x, eD y] st = .ok (eD (x * y)) st := by
  show fin (b_Exact_times [.val (eD x), .val (eD y), .un, .un, .un, .un, .un, .un] st) = _
  have p0 : m_product_of [.tup [.int 0, .int 1], .tup [.int 0, .int 1]] st = .ok (qD 0) st := by
    have := prod_ev (st := st) K_0 K_0
    rw [Rat.mul_zero] at this
    exact this
  have px : m_product_of [qD x, .tup [.int 0, .int 1]] st = .ok (qD 0) st := by
    have := prod_ev (st := st) hx K_0
    rw [Rat.mul_zero, qD_0] at this
    exact this
  have py : m_product_of [qD y, .tup [.int 0, .int 1]] st = .ok (qD 0) st := by
    have := prod_ev (st := st) hy K_0
    rw [Rat.mul_zero, qD_0] at this
    exact this
  have s1 : m_sum_of [qD (x * y), .tup [.int 0, .int 1]] st = .ok (qD (x * y)) st := by
    have := sum_ev (st := st) h K_0
    rw [Rat.add_zero, qD_0] at this
    exact this
  have a0 : m_sum_of [.tup [.int 0, .int 1], .tup [.int 0, .int 1]] st = .ok (qD 0) st := by
    have := sum_ev (st := st) K_0 K_0
    rw [Rat.add_zero] at this
    exact this
  have a1 := made_ev (st := st) h
  rw [qD_0] at p0 px py a0 a1
  unfold b_Exact_times
  simp [rad_ev, quo_ev, prod_ev hx hy, p0, px, py, s1, a0, a1]
/-- the sign of a number -/
def sgR (x : Rat) : Int := if x = 0 then 0 else if 0 < x then 1 else -1
theorem sgR_zero {x : Rat} : sgR x = 0 ↔ x = 0 := by
  unfold sgR
  by_cases h : x = 0
  · simp [h]
  · rw [if_neg h]
    constructor
    · intro q
      split at q <;> cases q
    · intro q
      exact absurd q h
theorem sgR_pos {x : Rat} : 0 < sgR x ↔ 0 < x := by
  unfold sgR
  by_cases h : x = 0
  · subst h
    simp
  · rw [if_neg h]
    by_cases h2 : 0 < x
    · simp [h2]
    · simp [h2]
theorem sgR_neg {x : Rat} : sgR x < 0 ↔ x < 0 := by
  unfold sgR
  by_cases h : x = 0
  · subst h
    simp
  · rw [if_neg h]
    by_cases h2 : 0 < x
    · rw [if_pos h2]
      constructor
      · intro q; omega
      · intro q; grind
    · rw [if_neg h2]
      constructor
      · intro q; grind
      · intro q; omega
theorem sgn_ev {x : Rat} {st : Store} : m_Exact_sign_of [eD x] st = .ok (.int (sgR x)) st := by
  show fin (b_Exact_sign_of [.val (eD x)] st) = _
  have s1 : m_sign_in [.int x.num] st = .ok (.int (sgR x)) st := by
    show fin (b_sign_in [.val (.int x.num)] st) = _
    unfold b_sign_in sgR
    by_cases h : x = 0
    · simp [h]
    · have h0 : x.num ≠ 0 := fun q => h (Rat.num_eq_zero.mp q)
      by_cases h2 : 0 < x
      · have h3 : 0 < x.num := num_pos'.mpr h2
        simp [h, h0, h2, h3]
      · have h3 : ¬ 0 < x.num := fun q => h2 (num_pos'.mp q)
        simp [h, h0, h2, h3]
  unfold b_Exact_sign_of
  simp [s1]
theorem by_ev {x y : Rat} {st : Store} (h0 : y ≠ 0) (hx : K x) (hy : K y) (h1 : K (x * y)) (h2 : K (y * y)) (h3 : K (x / y)) : m_Exact_by [eD x, eD y] st = .ok (eD (x / y)) st := by
  show fin (b_Exact_by [.val (eD x), .val (eD y), .un, .un] st) = _
  have i := init_e (st := st) hy
  have n0 : y.num ≠ 0 := fun q => h0 (Rat.num_eq_zero.mp q)
  have t1 := times_ev (st := st) hy hy h2
  have t2 := times_ev (st := st) hx hy h1
  have yy0 : y * y ≠ 0 := by grind
  have bi : K (y * y)⁻¹ := ⟨h2.bq.inv yy0⟩
  have l1 : m_lowest [.int ((y * y).den : Int), .int (y * y).num] st = .ok (qD (y * y)⁻¹) st := by
    rw [lowest_ev (fun q => yy0 (Rat.num_eq_zero.mp q)) (pow_le h2.bq.num (by omega)), ← inv_eq]
  have a1 := made_ev (st := st) bi
  have e : x * y * (y * y)⁻¹ = x / y := by grind
  have t3 := times_ev (st := st) h1 bi (by rw [e]; exact h3)
  rw [e] at t3
  rw [qD_0] at a1
  unfold b_Exact_by
  simp [n0, i, ie, t1, t2, l1, a1, t3]
end G76
set_option Elab.async false
set_option linter.all false
set_option maxRecDepth 100000
set_option maxHeartbeats 4000000
set_option autoImplicit false
set_option exponentiation.threshold 10000
namespace G76
open PySem PySem.Spec PyProof.Rows L2 Sm
theorem num_loop (x y : D) (sl : List Sl) (st : Store) : ∀ b a : Nat, whileS (tst (op2 neD (varB 3) (cM (.int 0)))) (parS 2 3 (consM (varM 3) (consM (op2 modD (callB intB (consM (varB 2) nilM)) (varB 3)) nilM))) (.val x :: .val y :: .val (.int (a : Int)) :: .val (.int (b : Int)) :: sl) st = .nx (.val x :: .val y :: .val (.int ((Nat.gcd a b : Nat) : Int)) :: .val (.int 0) :: sl) st := by
  intro b
  induction b using Nat.strongRecOn with
  | ind b ih =>
    intro a
    by_cases hb : b = 0
    · subst hb
      rw [whileF (st1 := st) (by simp)]
      simp
    · have hm : (a : Int).fmod (b : Int) = ((a % b : Nat) : Int) := by rw [Int.fmod_eq_emod_of_nonneg _ (by omega), Int.natCast_emod]
      have hz : (b : Int) ≠ 0 := by omega
      rw [whileT (st1 := st) (st2 := st) (ρ2 := .val x :: .val y :: .val (.int (b : Int)) :: .val (.int ((a % b : Nat) : Int)) :: sl) (by simp [hb]) (by simp [mod_int'' hz, hm]), ih (a % b) (Nat.mod_lt _ (by omega)) b]
      rw [Nat.gcd_comm a b, Nat.gcd_rec b a, Nat.gcd_comm]
theorem number_ev {a b : Int} {st : Store} (hb : b ≠ 0) (hs : b.natAbs < 2 ^ 9000) : m_lnumber [.int a, .int b] st = .ok (qD (Rat.divInt a b)) st := by
  show fin (b_lnumber [.val (.int a), .val (.int b), .un, .un] st) = _
  have k1 := byN_le (a := a) hb
  have k2 := byN_ne (a := a) hb
  have d1 : divOk a (byN a b) = true := divOk_of k2 (Nat.lt_of_le_of_lt k1 hs) (by omega)
  have d2 : divOk b (byN a b) = true := divOk_of k2 (Nat.lt_of_le_of_lt k1 hs) (by omega)
  obtain ⟨e1, e2⟩ := low_num (a := a) hb
  have ia : ∀ (z : Int) (s : Store), (if 0 < z then Res.ok (D.int z) s else Res.ok (D.int (-z)) s) = .ok (.int (z.natAbs : Int)) s := fun z s => by
    by_cases h : 0 < z
    · rw [if_pos h]
      congr 2
      omega
    · rw [if_neg h]
      congr 2
      omega
  unfold b_lnumber qD
  by_cases h : 0 < b
  · have e : byN a b = ((Nat.gcd a.natAbs b.natAbs : Nat) : Int) := if_pos h
    have e0 : (b.natAbs : Int) = b := by omega
    rw [e] at d1 d2 e1 e2
    simp [ia, num_loop]
    simp [h, div_int' d1, div_int' d2, e1, e2]
  · have e : byN a b = -((Nat.gcd a.natAbs b.natAbs : Nat) : Int) := if_neg h
    rw [e] at d1 d2 e1 e2
    simp [ia, num_loop]
    simp [h, div_int' d1, div_int' d2, e1, e2]
theorem lplus_ev {x y : Rat} {st : Store} (hx : K x) (hy : K y) : m_lplus [qD x, qD y] st = .ok (qD (x + y)) st := by
  show fin (b_lplus [.val (qD x), .val (qD y)] st) = _
  have m1 := mulOk_of hx.bq.num (den_lt hy.bq) (by omega)
  have m2 := mulOk_of hy.bq.num (den_lt hx.bq) (by omega)
  have m3 := mulOk_of (den_lt hx.bq) (den_lt hy.bq) (by omega)
  have n := number_ev (st := st) (a := x.num * y.den + y.num * x.den) (Int.mul_ne_zero (den_ne x) (den_ne y)) (pow_le (imul_lt (den_lt hx.bq) (den_lt hy.bq)) (by omega))
  rw [← add_eq] at n
  unfold b_lplus
  simp [mul_int' m1, mul_int' m2, mul_int' m3, n]
theorem lminus_ev {x y : Rat} {st : Store} (hx : K x) (hy : K y) : m_lminus [qD x, qD y] st = .ok (qD (x - y)) st := by
  show fin (b_lminus [.val (qD x), .val (qD y)] st) = _
  have m1 := mulOk_of hx.bq.num (den_lt hy.bq) (by omega)
  have m2 := mulOk_of hy.bq.num (den_lt hx.bq) (by omega)
  have m3 := mulOk_of (den_lt hx.bq) (den_lt hy.bq) (by omega)
  have n := number_ev (st := st) (a := x.num * y.den - y.num * x.den) (Int.mul_ne_zero (den_ne x) (den_ne y)) (pow_le (imul_lt (den_lt hx.bq) (den_lt hy.bq)) (by omega))
  have e : Rat.divInt (x.num * y.den - y.num * x.den) ((x.den : Int) * y.den) = x - y := by
    rw [Rat.sub_eq_add_neg, add_eq, Rat.neg_num, Rat.neg_den]
    congr 1
    grind
  rw [e] at n
  unfold b_lminus
  simp [mul_int' m1, mul_int' m2, mul_int' m3, n]
theorem ltimes_ev {x y : Rat} {st : Store} (hx : K x) (hy : K y) : m_ltimes [qD x, qD y] st = .ok (qD (x * y)) st := by
  show fin (b_ltimes [.val (qD x), .val (qD y)] st) = _
  have m1 := mulOk_of hx.bq.num hy.bq.num (by omega)
  have m3 := mulOk_of (den_lt hx.bq) (den_lt hy.bq) (by omega)
  have n := number_ev (st := st) (a := x.num * y.num) (Int.mul_ne_zero (den_ne x) (den_ne y)) (pow_le (imul_lt (den_lt hx.bq) (den_lt hy.bq)) (by omega))
  rw [← mul_eq] at n
  unfold b_ltimes
  simp [mul_int' m1, mul_int' m3, n]
theorem lby_ev {x y : Rat} {st : Store} (h0 : y ≠ 0) (hx : K x) (hy : K y) : m_lby [qD x, qD y] st = .ok (qD (x / y)) st := by
  show fin (b_lby [.val (qD x), .val (qD y)] st) = _
  have m1 := mulOk_of hx.bq.num (den_lt hy.bq) (by omega)
  have m3 := mulOk_of (den_lt hx.bq) hy.bq.num (by omega)
  have n := number_ev (st := st) (a := x.num * y.den) (Int.mul_ne_zero (den_ne x) (fun q => h0 (Rat.num_eq_zero.mp q))) (pow_le (imul_lt (den_lt hx.bq) hy.bq.num) (by omega))
  have e : Rat.divInt (x.num * y.den) ((x.den : Int) * y.num) = x / y := by
    rw [Rat.div_def, inv_eq, ← Rat.divInt_mul_divInt, Rat.num_divInt_den]
  rw [e] at n
  unfold b_lby
  simp [mul_int' m1, mul_int' m3, n]
theorem lsign_ev {x : Rat} {st : Store} : m_lsign [qD x] st = .ok (.int (sgR x)) st := by
  show fin (b_lsign [.val (qD x)] st) = _
  unfold b_lsign sgR
  have h1 := num_pos' (x := x)
  have h2 := Rat.num_eq_zero (q := x)
  by_cases a : x = 0
  · simp [a]
  · by_cases b : 0 < x
    · have c := h1.mpr b
      have d : ¬ x.num < 0 := by omega
      simp [a, b, c, d]
    · have c : ¬ 0 < x.num := fun q => b (h1.mp q)
      have d : x.num < 0 := by
        have : x.num ≠ 0 := fun q => a (h2.mp q)
        omega
      simp [a, b, c, d]
def pD (p : Pt) : D := .tup [eD p.1, eD p.2]
@[simp] theorem ix_p0 {p : Pt} {st : Store} : ixD (pD p) (.int 0) st = some (eD p.1) := at_0
@[simp] theorem ix_p1 {p : Pt} {st : Store} : ixD (pD p) (.int 1) st = some (eD p.2) := at_1
@[simp] theorem tupG_p {p : Pt} {g : GMs} {ρ : Env1} {st : Store} : tupG 2 g (pD p) ρ st = g [eD p.1, eD p.2] ρ st := rfl
def lD (p : Pt) : D := .tup [qD p.1, qD p.2]
@[simp] theorem ix_l0 {p : Pt} {st : Store} : ixD (lD p) (.int 0) st = some (qD p.1) := at_0
@[simp] theorem ix_l1 {p : Pt} {st : Store} : ixD (lD p) (.int 1) st = some (qD p.2) := at_1
@[simp] theorem tupG_l {p : Pt} {g : GMs} {ρ : Env1} {st : Store} : tupG 2 g (lD p) ρ st = g [qD p.1, qD p.2] ρ st := rfl
@[simp] theorem seqR_l {p : Pt} {st : Store} : seqR (lD p) st = .ok [qD p.1, qD p.2] st := rfl
def lnD (l : Ln) : D := .tup [qD l.a, qD l.b, qD l.c]
@[simp] theorem ix_n0 {l : Ln} {st : Store} : ixD (lnD l) (.int 0) st = some (qD l.a) := at_0
@[simp] theorem ix_n1 {l : Ln} {st : Store} : ixD (lnD l) (.int 1) st = some (qD l.b) := at_1
@[simp] theorem ix_n2 {l : Ln} {st : Store} : ixD (lnD l) (.int 2) st = some (qD l.c) := at_2
@[simp] theorem seqR_n {l : Ln} {st : Store} : seqR (lnD l) st = .ok [qD l.a, qD l.b, qD l.c] st := rfl
def elD (l : Ln) : D := .tup [eD l.a, eD l.b, eD l.c]
@[simp] theorem ix_e0 {l : Ln} {st : Store} : ixD (elD l) (.int 0) st = some (eD l.a) := at_0
@[simp] theorem ix_e1 {l : Ln} {st : Store} : ixD (elD l) (.int 1) st = some (eD l.b) := at_1
@[simp] theorem ix_e2 {l : Ln} {st : Store} : ixD (elD l) (.int 2) st = some (eD l.c) := at_2
def lcD (c : Ci) : D := .tup [lD c.m, qD c.s]
@[simp] theorem ix_c0 {c : Ci} {st : Store} : ixD (lcD c) (.int 0) st = some (lD c.m) := at_0
@[simp] theorem ix_c1 {c : Ci} {st : Store} : ixD (lcD c) (.int 1) st = some (qD c.s) := at_1
@[simp] theorem tupG_c {c : Ci} {g : GMs} {ρ : Env1} {st : Store} : tupG 2 g (lcD c) ρ st = g [lD c.m, qD c.s] ρ st := rfl
def ecD (c : Ci) : D := .tup [pD c.m, eD c.s]
@[simp] theorem ix_ec0 {c : Ci} {st : Store} : ixD (ecD c) (.int 0) st = some (pD c.m) := at_0
@[simp] theorem ix_ec1 {c : Ci} {st : Store} : ixD (ecD c) (.int 1) st = some (eD c.s) := at_1
@[simp] theorem tupG_ec {c : Ci} {g : GMs} {ρ : Env1} {st : Store} : tupG 2 g (ecD c) ρ st = g [pD c.m, eD c.s] ρ st := rfl
theorem t_p (p : Pt) : D.tup [eD p.1, eD p.2] = pD p := rfl
theorem t_l (p : Pt) : D.tup [qD p.1, qD p.2] = lD p := rfl
theorem t_n (l : Ln) : D.tup [qD l.a, qD l.b, qD l.c] = lnD l := rfl
theorem t_e (l : Ln) : D.tup [eD l.a, eD l.b, eD l.c] = elD l := rfl
theorem t_c (c : Ci) : D.tup [lD c.m, qD c.s] = lcD c := rfl
theorem t_ec (c : Ci) : D.tup [pD c.m, eD c.s] = ecD c := rfl
theorem pyOf_q {x : Rat} : pyOf (qD x) = some (.tuple [.int x.num, .int (x.den : Int)]) := rfl
theorem eq_q {x y : Rat} {st : Store} : eqD (qD x) (qD y) st = some (.bl (decide (x = y))) := by
  unfold eqD qD
  simp only [pyB, pyOf, pyOfs]
  simp [SeqAt.shaped, PyData.canLay0, PyData.canLayAll0, PyData.depth, PyData.depthAll, PyData.eqv, PyData.eqvAll]
  by_cases h : x = y
  · subst h
    simp
  · by_cases h1 : x.num = y.num
    · have h2 : ¬ (x.den = y.den) := fun q => h (Rat.ext h1 q)
      simp [h]
      intro _ q
      exact h2 (by omega)
    · simp [h, h1]
theorem ne_q {x y : Rat} {st : Store} : neD (qD x) (qD y) st = some (.bl (!decide (x = y))) := by
  have h := eq_q (x := x) (y := y) (st := st)
  unfold eqD at h
  unfold neD
  unfold qD at *
  simp only [pyB, pyOf, pyOfs] at *
  simp [SeqAt.shaped, PyData.canLay0, PyData.canLayAll0, PyData.depth, PyData.depthAll] at *
  rw [h]
theorem eqv2 {a b c d : PyData} : PyData.eqv (.tuple [a, b]) (.tuple [c, d]) = (PyData.eqv a c && PyData.eqv b d) := by
  simp [PyData.eqv, PyData.eqvAll]
theorem eq_l {p q : Pt} {st : Store} : eqD (lD p) (lD q) st = some (.bl (decide (p = q))) := by
  have h1 := eq_q (x := p.1) (y := q.1) (st := st)
  have h2 := eq_q (x := p.2) (y := q.2) (st := st)
  obtain ⟨a, b⟩ := p
  obtain ⟨c, d⟩ := q
  unfold eqD at *
  unfold lD qD at *
  simp only [pyB, pyOf, pyOfs] at *
  simp [SeqAt.shaped, PyData.canLay0, PyData.canLayAll0, PyData.depth, PyData.depthAll] at *
  rw [eqv2, h1, h2]
theorem ne_l {p q : Pt} {st : Store} : neD (lD p) (lD q) st = some (.bl (!decide (p = q))) := by
  have h := eq_l (p := p) (q := q) (st := st)
  unfold eqD at h
  unfold neD
  unfold lD qD at *
  simp only [pyB, pyOf, pyOfs] at *
  simp [SeqAt.shaped, PyData.canLay0, PyData.canLayAll0, PyData.depth, PyData.depthAll] at *
  rw [h]
theorem eq_c {p q : Ci} {st : Store} : eqD (lcD p) (lcD q) st = some (.bl (decide (p.m = q.m) && decide (p.s = q.s))) := by
  have h1 := eq_l (p := p.m) (q := q.m) (st := st)
  have h2 := eq_q (x := p.s) (y := q.s) (st := st)
  unfold eqD at *
  unfold lcD lD qD at *
  simp only [pyB, pyOf, pyOfs] at *
  simp [SeqAt.shaped, PyData.canLay0, PyData.canLayAll0, PyData.depth, PyData.depthAll] at *
  rw [eqv2, h1, h2]
theorem eq_e0 {x y : Rat} : eqX 0 5 0 (eD x) (eD y) = some (decide (x = y)) := by
  show insEq 0 5 0 0 _ _ = _
  unfold insEq
  by_cases h : x = y
  · subst h
    simp [intsOf]
  · by_cases h1 : x.num = y.num
    · have h2 : ¬ ((x.den : Int) = (y.den : Int)) := fun q => h (Rat.ext h1 (by omega))
      simp [intsOf, h, h2]
    · simp [intsOf, h, h1]
theorem eq_p0 {p q : Pt} : eqX 0 5 1 (pD p) (pD q) = some (decide (p = q)) := by
  obtain ⟨a, b⟩ := p
  obtain ⟨c, d⟩ := q
  show eqXs (eqX 0 5 0) [eD a, eD b] [eD c, eD d] = _
  simp only [eqXs, eq_e0]
  by_cases h1 : a = c
  · by_cases h2 : b = d
    · simp [h1, h2]
    · simp [h1, h2]
  · simp [h1]
theorem eq_pts {p q : Pt} {st : Store} : eqXD 0 5 0 (pD p) (pD q) st = some (.bl (decide (p = q))) := by
  show (eqX 0 5 1 (pD p) (pD q)).map D.bl = _
  rw [eq_p0]
  rfl
theorem eq_e1 {x y : Rat} : eqX 0 5 1 (eD x) (eD y) = some (decide (x = y)) := eq_e0
theorem eq_cs {p q : Ci} {st : Store} : eqXD 0 5 1 (ecD p) (ecD q) st = some (.bl (decide (p.m = q.m) && decide (p.s = q.s))) := by
  show (eqXs (eqX 0 5 1) [pD p.m, eD p.s] [pD q.m, eD q.s]).map D.bl = _
  simp only [eqXs, eq_p0, eq_e1]
  by_cases h1 : p.m = q.m
  · by_cases h2 : p.s = q.s
    · simp [h1, h2]
    · simp [h1, h2]
  · simp [h1]
def fD (x : Rat) : D := .tup [.int x.num, .int (x.den : Int), .int 0, .int 0, .int 1]
def pF (p : Pt) : D := .tup [fD p.1, fD p.2]
def nF (l : Ln) : D := .tup [fD l.a, fD l.b, fD l.c]
def cF (c : Ci) : D := .tup [pF c.m, fD c.s]
theorem five_ev {x : Rat} {st : Store} : m_lfive [qD x, .int 0, .tup [.int 0, .int 1]] st = .ok (fD x) st := by
  show fin (b_lfive [.val (qD x), .val (.int 0), .val (.tup [.int 0, .int 1]), .un, .un] st) = _
  have a : addD (qD x) (.tup [.int 0, .int 0, .int 1]) st = some (fD x) := rfl
  unfold b_lfive
  simp [a]
theorem told_e {x : Rat} {st : Store} {n : Nat} : m_ltold (n + 1) [eD x] st = .ok (fD x) st := by
  show fin (b_ltold (m_ltold n) [.val (eD x), .un] st) = _
  have i1 : isiB S0 [0] [eD x, .ty "tuple"] st = some (.bl false) := rfl
  have i2 : isiB S0 [0] [eD x, .glo "Exact"] st = some (.bl true) := by
    show (isa1 S0 [0] (eD x) (.glo "Exact") st).map D.bl = _
    simp [isa1, eD, cn]
  have rd : m_lread [eD x] st = .ok (fD x) st := by
    show fin (b_lread [.val (eD x)] st) = _
    unfold b_lread
    simp [i2]
    rfl
  unfold b_ltold
  simp [i1, i2, rd]
theorem told_s {x : Str} {st : Store} {n : Nat} : m_ltold (n + 1) [.str x] st = .ok (.str x) st := by
  show fin (b_ltold (m_ltold n) [.val (.str x), .un] st) = _
  have i1 : isiB S0 [0] [.str x, .ty "tuple"] st = some (.bl false) := rfl
  have i2 : isiB S0 [0] [.str x, .glo "Exact"] st = some (.bl false) := by
    show (isa1 S0 [0] (.str x) (.glo "Exact") st).map D.bl = _
    simp [isa1, cn, kiOf]
  unfold b_ltold
  simp [i1, i2]
theorem told_t2 {a b a' b' : D} {st : Store} {n : Nat} (ha : m_ltold n [a] st = .ok a' st) (hb : m_ltold n [b] st = .ok b' st) : m_ltold (n + 1) [.tup [a, b]] st = .ok (.tup [a', b']) st := by
  show fin (b_ltold (m_ltold n) [.val (.tup [a, b]), .un] st) = _
  have i1 : isiB S0 [0] [.tup [a, b], .ty "tuple"] st = some (.bl true) := rfl
  have t : ∀ ds, tupleB [.lst ds] st = some (.tup ds) := fun _ => rfl
  unfold b_ltold
  simp [i1]
  simp [compM, compL, wipeD, ha, hb, t]
theorem told_t3 {a b c a' b' c' : D} {st : Store} {n : Nat} (ha : m_ltold n [a] st = .ok a' st) (hb : m_ltold n [b] st = .ok b' st) (hc : m_ltold n [c] st = .ok c' st) : m_ltold (n + 1) [.tup [a, b, c]] st = .ok (.tup [a', b', c']) st := by
  show fin (b_ltold (m_ltold n) [.val (.tup [a, b, c]), .un] st) = _
  have i1 : isiB S0 [0] [.tup [a, b, c], .ty "tuple"] st = some (.bl true) := rfl
  have t : ∀ ds, tupleB [.lst ds] st = some (.tup ds) := fun _ => rfl
  unfold b_ltold
  simp [i1]
  simp [compM, compL, wipeD, ha, hb, hc, t]
theorem told_p {p : Pt} {st : Store} {n : Nat} : m_ltold (n + 2) [pD p] st = .ok (pF p) st := told_t2 told_e told_e
theorem told_n {l : Ln} {st : Store} {n : Nat} : m_ltold (n + 2) [elD l] st = .ok (nF l) st := told_t3 told_e told_e told_e
theorem told_c {c : Ci} {st : Store} {n : Nat} : m_ltold (n + 3) [ecD c] st = .ok (cF c) st := told_t2 told_p told_e
def qL (x : Rat) : D := .lst [.int x.num, .int (x.den : Int)]
def pL (p : Pt) : D := .tup [qL p.1, qL p.2]
def nL (l : Ln) : D := .tup [qL l.a, qL l.b, qL l.c]
def cL (c : Ci) : D := .tup [pL c.m, qL c.s]
theorem isw_i {i : Int} {st : Store} : m_lis_whole [.int i] st = .ok (.bl true) st := rfl
theorem isw_t {ds : List D} {st : Store} : m_lis_whole [.tup ds] st = .ok (.bl false) st := rfl
theorem isw_s {x : Str} {st : Store} : m_lis_whole [.str x] st = .ok (.bl false) st := rfl
theorem listed_q {x : Rat} {st : Store} {n : Nat} : m_llisted (n + 1) [qD x] st = .ok (qL x) st := by
  show fin (b_llisted (m_llisted n) [.val (qD x), .un] st) = _
  have i1 : isiB S0 [0] [qD x, .ty "tuple"] st = some (.bl true) := rfl
  have l : lenB [qD x] st = some (.int 2) := rfl
  unfold b_llisted
  simp [i1, l, isw_i]
  rfl
theorem listed_s {x : Str} {st : Store} {n : Nat} : m_llisted (n + 1) [.str x] st = .ok (.str x) st := by
  show fin (b_llisted (m_llisted n) [.val (.str x), .un] st) = _
  have i1 : isiB S0 [0] [.str x, .ty "tuple"] st = some (.bl false) := rfl
  unfold b_llisted
  simp [i1]
theorem listed_t2 {a b a' b' : D} {st : Store} {n : Nat} (hw : m_lis_whole [a] st = .ok (.bl false) st) (ha : m_llisted n [a] st = .ok a' st) (hb : m_llisted n [b] st = .ok b' st) : m_llisted (n + 1) [.tup [a, b]] st = .ok (.tup [a', b']) st := by
  show fin (b_llisted (m_llisted n) [.val (.tup [a, b]), .un] st) = _
  have i1 : isiB S0 [0] [.tup [a, b], .ty "tuple"] st = some (.bl true) := rfl
  have l : lenB [.tup [a, b]] st = some (.int 2) := rfl
  have t : ∀ ds, tupleB [.lst ds] st = some (.tup ds) := fun _ => rfl
  unfold b_llisted
  simp [i1, l, hw]
  simp [compM, compL, wipeD, ha, hb, t]
theorem listed_t3 {a b c a' b' c' : D} {st : Store} {n : Nat} (ha : m_llisted n [a] st = .ok a' st) (hb : m_llisted n [b] st = .ok b' st) (hc : m_llisted n [c] st = .ok c' st) : m_llisted (n + 1) [.tup [a, b, c]] st = .ok (.tup [a', b', c']) st := by
  show fin (b_llisted (m_llisted n) [.val (.tup [a, b, c]), .un] st) = _
  have i1 : isiB S0 [0] [.tup [a, b, c], .ty "tuple"] st = some (.bl true) := rfl
  have l : lenB [.tup [a, b, c]] st = some (.int 3) := rfl
  have t : ∀ ds, tupleB [.lst ds] st = some (.tup ds) := fun _ => rfl
  unfold b_llisted
  simp [i1, l]
  simp [compM, compL, wipeD, ha, hb, hc, t]
theorem listed_p {p : Pt} {st : Store} {n : Nat} : m_llisted (n + 2) [lD p] st = .ok (pL p) st := listed_t2 isw_t listed_q listed_q
theorem listed_n {l : Ln} {st : Store} {n : Nat} : m_llisted (n + 2) [lnD l] st = .ok (nL l) st := listed_t3 listed_q listed_q listed_q
theorem listed_c {c : Ci} {st : Store} {n : Nat} : m_llisted (n + 3) [lcD c] st = .ok (cL c) st := listed_t2 isw_t listed_p listed_q
theorem due_q {x : Rat} {st : Store} {n : Nat} (hx : K x) : m_ldue (n + 1) [qL x] st = .ok (fD x) st := by
  show fin (b_ldue (m_ldue n) [.val (.lst [.int x.num, .int (x.den : Int)]), .un] st) = _
  have i1 : isiB S0 [0] [.lst [.int x.num, .int (x.den : Int)], .ty "list"] st = some (.bl true) := rfl
  have nb := number_ev (st := st) (a := x.num) (den_ne x) (pow_le (den_lt hx.bq) (by omega))
  rw [Rat.num_divInt_den] at nb
  unfold b_ldue
  simp [i1, nb, five_ev]
theorem due_s {x : Str} {st : Store} {n : Nat} : m_ldue (n + 1) [.str x] st = .ok (.str x) st := by
  show fin (b_ldue (m_ldue n) [.val (.str x), .un] st) = _
  have i1 : isiB S0 [0] [.str x, .ty "list"] st = some (.bl false) := rfl
  have i2 : isiB S0 [0] [.str x, .ty "tuple"] st = some (.bl false) := rfl
  unfold b_ldue
  simp [i1, i2]
theorem due_t2 {a b a' b' : D} {st : Store} {n : Nat} (ha : m_ldue n [a] st = .ok a' st) (hb : m_ldue n [b] st = .ok b' st) : m_ldue (n + 1) [.tup [a, b]] st = .ok (.tup [a', b']) st := by
  show fin (b_ldue (m_ldue n) [.val (.tup [a, b]), .un] st) = _
  have i1 : ∀ l, isiB S0 [0] [.tup l, .ty "list"] st = some (.bl false) := fun l => rfl
  have i2 : ∀ l, isiB S0 [0] [.tup l, .ty "tuple"] st = some (.bl true) := fun l => rfl
  have t : ∀ ds, tupleB [.lst ds] st = some (.tup ds) := fun _ => rfl
  unfold b_ldue
  simp [i1, i2]
  simp [compM, compL, wipeD, ha, hb, t]
theorem due_t3 {a b c a' b' c' : D} {st : Store} {n : Nat} (ha : m_ldue n [a] st = .ok a' st) (hb : m_ldue n [b] st = .ok b' st) (hc : m_ldue n [c] st = .ok c' st) : m_ldue (n + 1) [.tup [a, b, c]] st = .ok (.tup [a', b', c']) st := by
  show fin (b_ldue (m_ldue n) [.val (.tup [a, b, c]), .un] st) = _
  have i1 : ∀ l, isiB S0 [0] [.tup l, .ty "list"] st = some (.bl false) := fun l => rfl
  have i2 : ∀ l, isiB S0 [0] [.tup l, .ty "tuple"] st = some (.bl true) := fun l => rfl
  have t : ∀ ds, tupleB [.lst ds] st = some (.tup ds) := fun _ => rfl
  unfold b_ldue
  simp [i1, i2]
  simp [compM, compL, wipeD, ha, hb, hc, t]
theorem due_p {p : Pt} {st : Store} {n : Nat} (h1 : K p.1) (h2 : K p.2) : m_ldue (n + 2) [pL p] st = .ok (pF p) st := due_t2 (due_q h1) (due_q h2)
theorem due_n {l : Ln} {st : Store} {n : Nat} (h1 : K l.a) (h2 : K l.b) (h3 : K l.c) : m_ldue (n + 2) [nL l] st = .ok (nF l) st := due_t3 (due_q h1) (due_q h2) (due_q h3)
theorem due_c {c : Ci} {st : Store} {n : Nat} (h1 : K c.m.1) (h2 : K c.m.2) (h3 : K c.s) : m_ldue (n + 3) [cL c] st = .ok (cF c) st := due_t2 (due_p h1 h2) (due_q h3)
theorem exact_ev {x : Rat} {st : Store} (hx : K x) : m_lexact [qD x] st = .ok (eD x) st := by
  show fin (b_lexact [.val (qD x)] st) = _
  unfold b_lexact
  simp [init_e hx]
  rfl
theorem spot_ev {p : Pt} {st : Store} (h1 : K p.1) (h2 : K p.2) : m_lspot [lD p] st = .ok (pD p) st := by
  show fin (b_lspot [.val (lD p)] st) = _
  unfold b_lspot
  simp [exact_ev h1, exact_ev h2]
  rfl
theorem ring_ev {c : Ci} {st : Store} (h1 : K c.m.1) (h2 : K c.m.2) (h3 : K c.s) : m_lring [lcD c] st = .ok (ecD c) st := by
  show fin (b_lring [.val (lcD c)] st) = _
  unfold b_lring
  simp [spot_ev h1 h2, exact_ev h3]
  rfl
theorem lsame_t {x y : D} {st : Store} {n k : Nat} (e : x = y) (hd : (∃ ds, y = .lst ds) ∨ ∃ ds, y = .tup ds) (h : Shw n k y) (hn : n ≤ 16000000) (hk : k ≤ 60) : m_lsame [x, y] st = .ok (.bl true) st := by
  subst e
  obtain ⟨z, e⟩ := repr_ev (st := st) hd h hn hk
  show fin (b_lsame [.val x, .val x] st) = _
  unfold b_lsame
  simp [e, eqsD]
theorem shw_f {x : Rat} (h : Kp x) : Shw 4000 1 (fD x) := by
  have i0 : ∀ {i : Int} {k : Nat}, i.natAbs < 2 ^ 1900 → Shw 600 k (.int i) := fun h => shw_int h
  refine shw_mono (shw_tup (shw_cons (i0 (k := 0) h.bq.num) (shw_cons (i0 (den_lt h.bq)) (shw_cons (i0 (Nat.two_pow_pos _)) (shw_cons (i0 (Nat.two_pow_pos _)) (shw_cons (i0 (i := 1) (Nat.one_lt_two_pow (by decide))) shw_nil)))))) (by omega) (by omega)
theorem shw_up {n k m l : Nat} {d : D} (h : Shw n k d) (h1 : n ≤ m) (h2 : k ≤ l) : Shw m l d := shw_mono h h1 h2
theorem shw_p {p : Pt} (h1 : Kp p.1) (h2 : Kp p.2) : Shw 9000 2 (pF p) := shw_mono (shw_tup (shw_cons (shw_f h1) (shw_cons (shw_f h2) shw_nil))) (by omega) (by omega)
theorem shw_n {l : Ln} (h1 : Kp l.a) (h2 : Kp l.b) (h3 : Kp l.c) : Shw 14000 2 (nF l) := shw_mono (shw_tup (shw_cons (shw_f h1) (shw_cons (shw_f h2) (shw_cons (shw_f h3) shw_nil)))) (by omega) (by omega)
theorem shw_c {c : Ci} (h1 : Kp c.m.1) (h2 : Kp c.m.2) (h3 : Kp c.s) : Shw 14000 3 (cF c) := shw_mono (shw_tup (shw_cons (shw_p h1 h2) (shw_cons (shw_up (m := 4000) (l := 2) (shw_f h3) (by omega) (by omega)) shw_nil))) (by omega) (by omega)
theorem shw_w2 {x : Str} {d : D} {n k : Nat} (hx : (reprText x).length ≤ 600) (h : Shw n k d) : Shw (n + 700) (k + 1) (.tup [.str x, d]) := shw_mono (shw_tup (shw_cons (shw_str hx) (shw_cons h shw_nil))) (by omega) (by omega)
theorem shw_l2 {a b : D} {n k : Nat} (h1 : Shw n k a) (h2 : Shw n k b) : Shw (2 * n + 100) (k + 1) (.lst [a, b]) := shw_mono (shw_lst (shw_cons h1 (shw_cons h2 shw_nil))) (by omega) (by omega)
end G76
set_option Elab.async false
set_option linter.all false
set_option maxRecDepth 100000
set_option maxHeartbeats 4000000
set_option autoImplicit false
namespace G76
open PySem PySem.Spec PyProof.Rows L2 Sm
def nwR (n x : Nat) : Nat := (x + n / x) / 2
theorem nw_ge {n x s : Nat} (hx : 0 < x) (hs : s * s ≤ n) : s ≤ nwR n x := by
  unfold nwR
  rw [Nat.le_div_iff_mul_le (by decide)]
  by_cases h : 2 * s ≤ x
  · exact Nat.le_trans (by omega : s * 2 ≤ x) (Nat.le_add_right _ _)
  · have e : 2 * s - x ≤ n / x := by
      rw [Nat.le_div_iff_mul_le hx]
      obtain ⟨d, hd⟩ : ∃ d, 2 * s = x + d := ⟨2 * s - x, by omega⟩
      have e1 : 2 * s - x = d := by omega
      rw [e1]
      refine Nat.le_trans ?_ hs
      have : 4 * (d * x) ≤ 4 * (s * s) := by
        have e2 : 4 * (s * s) = (x + d) * (x + d) := by rw [← hd]; grind
        rw [e2]
        by_cases q : d ≤ x
        · obtain ⟨z, rfl⟩ : ∃ z, x = d + z := ⟨x - d, by omega⟩
          have : (d + z + d) * (d + z + d) = 4 * (d * (d + z)) + z * z := by grind
          omega
        · obtain ⟨z, rfl⟩ : ∃ z, d = x + z := ⟨d - x, by omega⟩
          have : (x + (x + z)) * (x + (x + z)) = 4 * ((x + z) * x) + z * z := by grind
          omega
      omega
    omega
theorem nw_le {n x : Nat} (hx : 0 < x) (h : x ≤ nwR n x) : x * x ≤ n := by
  unfold nwR at h
  rw [Nat.le_div_iff_mul_le (by decide)] at h
  have : x ≤ n / x := by omega
  exact (Nat.le_div_iff_mul_le hx).mp this
/-- r is the whole root of n -/
structure Rt (n r : Nat) : Prop where
  le : r * r ≤ n
  mx : ∀ s, s * s ≤ n → s ≤ r
theorem Rt.uniq {n r q : Nat} (h : Rt n r) (g : Rt n q) : r = q := Nat.le_antisymm (g.mx r h.le) (h.mx q g.le)
theorem Rt.sq {n r s : Nat} (h : Rt n r) (e : s * s = n) : r = s := by
  have a := h.mx s (by omega)
  have b := h.le
  rw [← e] at b
  exact Nat.le_antisymm (Nat.mul_self_le_mul_self_iff.mp b) a
theorem rt_small {n : Nat} (h : n < 2) : Rt n n := by
  refine ⟨?_, fun s hs => ?_⟩
  · rcases (by omega : n = 0 ∨ n = 1) with rfl | rfl <;> decide
  · by_cases z : s ≤ n
    · exact z
    · have : (n + 1) * (n + 1) ≤ s * s := Nat.mul_self_le_mul_self (by omega)
      have e : (n + 1) * (n + 1) = n * n + 2 * n + 1 := by grind
      omega
theorem fdiv_nat {a b : Nat} : (a : Int).fdiv (b : Int) = ((a / b : Nat) : Int) := by
  rw [Int.fdiv_eq_ediv_of_nonneg _ (by omega), Int.natCast_ediv]
theorem nw_int {n x : Nat} : ((x : Int) + ((n / x : Nat) : Int)).fdiv 2 = ((nwR n x : Nat) : Int) := by
  unfold nwR
  rw [← Int.natCast_add]
  exact fdiv_nat (b := 2)
theorem nw_int' {n x : Nat} : ((x : Int) + (n : Int) / (x : Int)).fdiv 2 = ((nwR n x : Nat) : Int) := by
  rw [← nw_int, Int.natCast_ediv]
theorem bits_lt (n : Nat) : n < 2 ^ Builtin.Int.intBits (n : Int) := by
  unfold Builtin.Int.intBits
  first
    | (simp; done)
    | (split
       · rename_i h
         simp at h
         omega
       · rename_i h
         simp at h
         have := (Nat.log2_lt (n := n) (k := n.log2 + 1) (by omega)).mp (by omega)
         simpa using this)
theorem bits_le {n k : Nat} (h : n < 2 ^ k) : Builtin.Int.intBits (n : Int) ≤ k := by
  unfold Builtin.Int.intBits
  first
    | (simp; done)
    | (split
       · omega
       · rename_i h'
         simp at h'
         have := (Nat.log2_lt (n := n) (k := k) (by omega)).mpr h
         simp
         omega)
theorem sq_lt_pow {s n k : Nat} (h : s * s ≤ n) (hn : n < 2 ^ (k + k)) : s ≤ 2 ^ k := by
  by_cases z : s ≤ 2 ^ k
  · exact z
  · have : 2 ^ k * 2 ^ k ≤ s * s := Nat.mul_self_le_mul_self (by omega)
    rw [Nat.pow_add] at hn
    omega
theorem div_ok2 {i : Int} : divOk i 2 = true := divOk_of (n := 2) (by decide) (by decide) (by decide)
theorem wr_loop {n : Nat} (y : Sl) (st : Store) (hn : n < 2 ^ 5000) (h1 : 1 ≤ n) : ∀ x : Nat, 0 < x → x ≤ 2 ^ 5000 → (∀ s, s * s ≤ n → s ≤ x) → ∃ r r' : Nat, Rt n r ∧ whileS (tst (op2 ltD (varB 2) (varB 1))) (seqS (setS 1 (varM 2)) (setS 2 (op2 divD (op2 addD (varB 1) (op2 divD (varB 0) (varB 1))) (cM (.int 2))))) [.val (.int (n : Int)), .val (.int (x : Int)), .val (.int (nwR n x : Nat))] st = .nx [.val (.int (n : Int)), .val (.int (r : Int)), .val (.int (r' : Nat))] st := by
  intro x
  induction x using Nat.strongRecOn with
  | ind x ih =>
    intro h0 hx hs
    by_cases hl : nwR n x < x
    · have p0 : 0 < nwR n x := nw_ge h0 (s := 1) (by omega)
      have d1 : divOk (n : Int) (nwR n x : Nat) = true := divOk_of (n := 5001) (by omega) (by rw [Int.natAbs_natCast, Nat.pow_succ]; omega) (by decide)
      obtain ⟨r, r', hr, e⟩ := ih (nwR n x) hl p0 (by omega) (fun s h => nw_ge h0 h)
      refine ⟨r, r', hr, ?_⟩
      rw [← e]
      refine whileT (st1 := st) (st2 := st) ?_ ?_
      · simp [hl]
      · simp [div_int' d1, div_int' div_ok2, fdiv_nat, nw_int']
    · refine ⟨x, nwR n x, ⟨nw_le h0 (by omega), hs⟩, ?_⟩
      exact whileF (by simp; omega)
theorem wroot_ev {n : Nat} {st : Store} (hn : n < 2 ^ 5000) : ∃ r : Nat, Rt n r ∧ m_whole_root [.int (n : Int)] st = .ok (.int (r : Int)) st := by
  rw [u_whole_root]
  by_cases h : n < 2
  · refine ⟨n, rt_small h, ?_⟩
    unfold b_whole_root
    have : (n : Int) < 2 := by omega
    simp [this]
  · have b1 := bits_lt n
    have b2 := bits_le hn
    generalize hb : Builtin.Int.intBits (n : Int) = b at *
    obtain ⟨k, hk, kb⟩ : ∃ k : Nat, k = (b + 1) / 2 ∧ b ≤ k + k := ⟨(b + 1) / 2, rfl, by omega⟩
    have x0 : 0 < 2 ^ k := Nat.two_pow_pos k
    have x1 : 2 ^ k ≤ 2 ^ 5000 := Nat.pow_le_pow_right (by decide) (by omega)
    have hs : ∀ s, s * s ≤ n → s ≤ 2 ^ k := fun s hs => sq_lt_pow hs (Nat.lt_of_lt_of_le b1 (Nat.pow_le_pow_right (by decide) kb))
    obtain ⟨r, r', hr, e⟩ := wr_loop .un st hn (by omega) (2 ^ k) x0 x1 hs
    refine ⟨r, hr, ?_⟩
    have hlt : ¬ (n : Int) < 2 := by omega
    have e1 : ((b : Int) + 1).fdiv 2 = (k : Int) := by
      rw [hk]
      exact fdiv_nat (a := b + 1) (b := 2)
    have o1 : shlOk 1 (k : Int) = true := by
      have i1 : Builtin.Int.intBits 1 = 1 := by decide
      refine decide_eq_true ⟨by omega, ?_⟩
      rw [i1]
      omega
    have s1 : shlD (.int 1) (.int (k : Int)) st = some (.int ((2 ^ k : Nat) : Int)) := by
      have e : shlD (.int 1) (.int (k : Int)) st = some (.int (1 * 2 ^ ((k : Int)).toNat)) := if_pos o1
      rw [e, Int.one_mul, Int.toNat_natCast, Int.natCast_pow]
      rfl
    have bt : bitsM (varM 0) [.val (.int (n : Int)), .un, .un] st = .ok (.int (b : Int)) st := by
      show Res.ok (D.int (Builtin.Int.intBits (n : Int) : Nat)) st = _
      rw [hb]
    have d1 : divOk (n : Int) ((2 ^ k : Nat) : Int) = true := divOk_of (n := 5001) (by omega) (by rw [Int.natAbs_natCast, Nat.pow_succ]; omega) (by decide)
    generalize 2 ^ k = x at *
    unfold b_whole_root
    simp [hlt, bt, div_int' div_ok2, e1, s1, div_int' d1, fdiv_nat, nw_int', e]
theorem whileR {k : EM Bool} {b : SM} {ρ : Env1} {st st1 st2 : Store} {d : D} (h1 : k ρ st = .ok true st1) (h2 : b ρ st1 = .ret d st2) : whileS k b ρ st = .ret d st2 := by
  rw [whileS_eq, h1]
  show (match b ρ st1 with
    | .nx ρ2 st2 => whileS k b ρ2 st2
    | .ct ρ2 st2 => whileS k b ρ2 st2
    | .bk ρ2 st2 => RS.nx ρ2 st2
    | r => r) = _
  rw [h2]
theorem lr_loop {n : Nat} (st : Store) (hn : n < 2 ^ 5000) (h1 : 1 ≤ n) : ∀ (x : Nat) (y : Sl), 0 < x → x ≤ 2 ^ 5000 → (∀ s, s * s ≤ n → s ≤ x) → ∃ r : Nat, Rt n r ∧ whileS (tst (cM (.bl true)))
 (seqS (setS 2 (op2 divD (op2 addD (varB 1) (op2 divD (varB 0) (varB 1))) (cM (.int 2))))
 (seqS (ifS (tst (op2 geD (varB 2) (varB 1)))
 (retS (varM 1))
 nilS)
 (setS 1 (varM 2)))) [.val (.int (n : Int)), .val (.int (x : Int)), y] st = .ret (.int (r : Int)) st := by
  intro x
  induction x using Nat.strongRecOn with
  | ind x ih =>
    intro y h0 hx hs
    have d1 : divOk (n : Int) (x : Int) = true := divOk_of (n := 5001) (by omega) (by rw [Int.natAbs_natCast, Nat.pow_succ]; omega) (by decide)
    by_cases hl : nwR n x < x
    · have p0 : 0 < nwR n x := nw_ge h0 (s := 1) (by omega)
      obtain ⟨r, hr, e⟩ := ih (nwR n x) hl (.val (.int (nwR n x : Nat))) p0 (by omega) (fun s h => nw_ge h0 h)
      refine ⟨r, hr, ?_⟩
      rw [← e]
      have hl' : ¬ x ≤ nwR n x := by omega
      refine whileT (st1 := st) (st2 := st) (by simp) ?_
      simp [div_int' d1, div_int' div_ok2, fdiv_nat, nw_int', hl']
    · refine ⟨x, ⟨nw_le h0 (by omega), hs⟩, ?_⟩
      have hl' : x ≤ nwR n x := by omega
      refine whileR (st1 := st) (by simp) ?_
      simp [div_int' d1, div_int' div_ok2, fdiv_nat, nw_int', hl']
theorem lroot_ev {n : Nat} {st : Store} (hn : n < 2 ^ 5000) : ∃ r : Nat, Rt n r ∧ m_lroot_of [.int (n : Int)] st = .ok (.int (r : Int)) st := by
  rw [u_lroot_of]
  by_cases h : n < 2
  · refine ⟨n, rt_small h, ?_⟩
    unfold b_lroot_of
    have : (n : Int) < 2 := by omega
    simp [this]
  · have b1 := bits_lt n
    have b2 := bits_le hn
    generalize hb : Builtin.Int.intBits (n : Int) = b at *
    obtain ⟨k, hk, kb⟩ : ∃ k : Nat, k = b / 2 + 1 ∧ b ≤ k + k := ⟨b / 2 + 1, rfl, by omega⟩
    have x0 : 0 < 2 ^ k := Nat.two_pow_pos k
    have x1 : 2 ^ k ≤ 2 ^ 5000 := Nat.pow_le_pow_right (by decide) (by omega)
    have hs : ∀ s, s * s ≤ n → s ≤ 2 ^ k := fun s hs => sq_lt_pow hs (Nat.lt_of_lt_of_le b1 (Nat.pow_le_pow_right (by decide) kb))
    obtain ⟨r, hr, e⟩ := lr_loop st hn (by omega) (2 ^ k) .un x0 x1 hs
    refine ⟨r, hr, ?_⟩
    have hlt : ¬ (n : Int) < 2 := by omega
    have e1 : ((b : Int)).fdiv 2 + 1 = (k : Int) := by
      have e : (b : Int).fdiv 2 = ((b / 2 : Nat) : Int) := fdiv_nat (a := b) (b := 2)
      rw [hk, e]
      omega
    have o1 : shlOk 1 (k : Int) = true := by
      have i1 : Builtin.Int.intBits 1 = 1 := by decide
      refine decide_eq_true ⟨by omega, ?_⟩
      rw [i1]
      omega
    have s1 : shlD (.int 1) (.int (k : Int)) st = some (.int ((2 ^ k : Nat) : Int)) := by
      have e : shlD (.int 1) (.int (k : Int)) st = some (.int (1 * 2 ^ ((k : Int)).toNat)) := if_pos o1
      rw [e, Int.one_mul, Int.toNat_natCast, Int.natCast_pow]
      rfl
    have bt : bitsM (varM 0) [.val (.int (n : Int)), .un, .un] st = .ok (.int (b : Int)) st := by
      show Res.ok (D.int (Builtin.Int.intBits (n : Int) : Nat)) st = _
      rw [hb]
    generalize 2 ^ k = x at *
    unfold b_lroot_of
    simp [hlt, bt, div_int' div_ok2, e1, s1, e]
/-- r / q is the root of x -/
structure SqOf (x : Rat) (r q : Nat) : Prop where
  n : (r : Int) * r = x.num
  d : q * q = x.den
theorem root_ev {x : Rat} {st : Store} (h0 : 0 ≤ x) (hx : K x) : (∃ r q : Nat, SqOf x r q ∧ m_root_of_exacts [.int x.num, .int (x.den : Int)] st = .ok (.tup [.int r, .int q]) st) ∨ ((¬ ∃ r q : Nat, SqOf x r q) ∧ m_root_of_exacts [.int x.num, .int (x.den : Int)] st = .ok .non st) := by
  obtain ⟨a, ha⟩ : ∃ a : Nat, x.num = (a : Int) := ⟨x.num.toNat, by have := Rat.num_nonneg.mpr h0; omega⟩
  have la : a < 2 ^ 5000 := by
    have := hx.bq.num
    rw [ha, Int.natAbs_natCast] at this
    exact pow_le this (by decide)
  have lb : x.den < 2 ^ 5000 := pow_le hx.bq.den (by decide)
  obtain ⟨r, hr, e1⟩ := wroot_ev (st := st) la
  obtain ⟨q, hq, e2⟩ := wroot_ev (st := st) lb
  have rl : r < 2 ^ 5000 := Nat.lt_of_le_of_lt (Nat.le_trans (Nat.le_mul_self r) hr.le) la
  have ql : q < 2 ^ 5000 := Nat.lt_of_le_of_lt (Nat.le_trans (Nat.le_mul_self q) hq.le) lb
  have m1 : mulOk (r : Int) (r : Int) = true := mulOk_of (m := 5000) (n := 5000) (by rw [Int.natAbs_natCast]; exact rl) (by rw [Int.natAbs_natCast]; exact rl) (by decide)
  have m2 : mulOk (q : Int) (q : Int) = true := mulOk_of (m := 5000) (n := 5000) (by rw [Int.natAbs_natCast]; exact ql) (by rw [Int.natAbs_natCast]; exact ql) (by decide)
  have u : ∀ i j : D, m_root_of_exacts [i, j] st = fin (b_root_of_exacts [.val i, .val j, .un, .un] st) := fun _ _ => rfl
  rw [ha, u]
  by_cases h : r * r = a ∧ q * q = x.den
  · obtain ⟨h1, h2⟩ := h
    have z1 : (r : Int) * r = (a : Int) := by rw [← h1, Int.natCast_mul]
    have z2 : (q : Int) * q = (x.den : Int) := by rw [← h2, Int.natCast_mul]
    refine .inl ⟨r, q, ⟨by rw [ha, z1], h2⟩, ?_⟩
    unfold b_root_of_exacts
    simp [e1, e2, mul_int' m1, mul_int' m2, z1, z2]
  · refine .inr ⟨fun ⟨r', q', z⟩ => h ?_, ?_⟩
    · have z1 : r' * r' = a := by
        have := z.n
        rw [ha] at this
        exact_mod_cast this
      rw [hr.sq z1, hq.sq z.d]
      exact ⟨z1, z.d⟩
    · unfold b_root_of_exacts
      by_cases h1 : r * r = a
      · have h2 : ¬ q * q = x.den := fun z => h ⟨h1, z⟩
        have z1 : (r : Int) * r = (a : Int) := by rw [← h1, Int.natCast_mul]
        have z2 : ¬ (q : Int) * q = (x.den : Int) := fun z => h2 (by exact_mod_cast z)
        simp [e1, e2, mul_int' m1, mul_int' m2, z1, z2]
      · have z1 : ¬ (r : Int) * r = (a : Int) := fun z => h1 (by exact_mod_cast z)
        simp [e1, e2, mul_int' m1, mul_int' m2, z1]
theorem Bq_root {x : Rat} {n d r q : Nat} (h : Bq n d x) (s : SqOf x r q) : Bq n d (Rat.divInt r q) := by
  have q0 : q ≠ 0 := fun z => by
    have := s.d
    have := x.den_nz
    subst z
    omega
  have h1 : r < 2 ^ n := by
    have a := h.num
    have b : r * r = x.num.natAbs := by
      have := s.n
      rw [← this, ← Int.natCast_mul, Int.natAbs_natCast]
    exact Nat.lt_of_le_of_lt (Nat.le_mul_self r) (by omega)
  have h2 : q < 2 ^ d := Nat.lt_of_le_of_lt (Nat.le_mul_self q) (by have := s.d; have := h.den; omega)
  exact Bq.divInt (by omega) (by rw [Int.natAbs_natCast]; exact h1) (by rw [Int.natAbs_natCast]; exact h2)
/-- what is told of the root of x -/
def RtD (x : Rat) (t b s o u : Int) : Prop := (∃ r q : Nat, SqOf x r q ∧ t = (Rat.divInt r q).num ∧ b = ((Rat.divInt r q).den : Int) ∧ s = 0 ∧ o = 0 ∧ u = 1) ∨ ((¬ ∃ r q : Nat, SqOf x r q) ∧ t = 0 ∧ b = 1 ∧ s = 1 ∧ o = x.num ∧ u = (x.den : Int))
theorem initR_ev {x : Rat} {st : Store} (h0 : 0 ≤ x) (hx : K x) : ∃ t b s o u : Int, RtD x t b s o u ∧ m_Exact_initD [.int 0, .int 1, .int 1, .int x.num, .int (x.den : Int)] st = .ok [.int t, .int b, .int s, .int o, .int u] st := by
  have l1 : m_lowest [.int x.num, .int (x.den : Int)] st = .ok (qD x) st := by
    rw [lowest_ev (den_ne _) (pow_le (den_lt hx.bq) (by omega)), Rat.num_divInt_den]
  have nn : 0 ≤ x.num := Rat.num_nonneg.mpr h0
  have dp : 0 < x.den := x.den_pos
  have q1 : ("bottom" : Str) ≠ "top" := by decide
  have q2 : ("sign" : Str) ≠ "top" := by decide
  have q3 : ("sign" : Str) ≠ "bottom" := by decide
  have q4 : ("over" : Str) ≠ "top" := by decide
  have q5 : ("over" : Str) ≠ "bottom" := by decide
  have q6 : ("over" : Str) ≠ "sign" := by decide
  have q7 : ("under" : Str) ≠ "top" := by decide
  have q8 : ("under" : Str) ≠ "bottom" := by decide
  have q9 : ("under" : Str) ≠ "sign" := by decide
  have q10 : ("under" : Str) ≠ "over" := by decide
  have u : m_Exact_initD [.int 0, .int 1, .int 1, .int x.num, .int (x.den : Int)] st = finI S0 0 (b_Exact_initD [.obj 0 [], .val (.int 0), .val (.int 1), .val (.int 1), .val (.int x.num), .val (.int (x.den : Int)), .un, .un, .un] st) := rfl
  rcases root_ev (st := st) h0 hx with ⟨r, q, hs, e⟩ | ⟨hn, e⟩
  · have B := Bq_root hx.bq hs
    have q0 : q ≠ 0 := fun z => by
      have := hs.d
      subst z
      omega
    have rl : r < 2 ^ 4499 := by
      have a := hx.bq.num
      have b : r * r = x.num.natAbs := by
        rw [← hs.n, ← Int.natCast_mul, Int.natAbs_natCast]
      exact Nat.lt_of_le_of_lt (Nat.le_mul_self r) (by omega)
    have ql : q < 2 ^ 4499 := Nat.lt_of_le_of_lt (Nat.le_mul_self q) (by have := hs.d; have := hx.bq.den; omega)
    have s1 := sumG (st := st) (a := 0) (b := 1) (c := (r : Int)) (e := (q : Int)) (n := 4499) (Nat.two_pow_pos _) (Nat.one_lt_two_pow (by decide)) (by rw [Int.natAbs_natCast]; exact rl) (by rw [Int.natAbs_natCast]; exact ql) (by decide) (by decide) (by omega)
    have l2 : m_lowest [.int (Rat.divInt r q).num, .int ((Rat.divInt r q).den : Int)] st = .ok (qD (Rat.divInt r q)) st := by
      rw [lowest_ev (den_ne _) (pow_le (den_lt B) (by omega)), Rat.num_divInt_den]
    have m0 : mulOk 1 (r : Int) = true := mulOk_of (m := 1) (n := 4499) (by decide) (by rw [Int.natAbs_natCast]; exact rl) (by decide)
    have z : (0 : Int) * (q : Int) + (r : Int) * 1 = (r : Int) := by omega
    have z2 : (1 : Int) * (q : Int) = (q : Int) := by omega
    rw [z, z2] at s1
    refine ⟨_, _, _, _, _, .inl ⟨r, q, hs, rfl, rfl, rfl, rfl, rfl⟩, ?_⟩
    rw [u]
    generalize Rat.divInt (r : Int) (q : Int) = y at *
    unfold b_Exact_initD
    simp [right_ev, nn, dp, l1]
    simp [qD, e, mul_int' m0]
    simp [s1]
    simp [qD, l2, cf, q1, q2, q3, q4, q5, q6, q7, q8, q9, q10]
  · have l2 : m_lowest [.int 0, .int 1] st = .ok (qD 0) st := lowest_ev (by decide) (by decide)
    refine ⟨_, _, _, _, _, .inr ⟨hn, rfl, rfl, rfl, rfl, rfl⟩, ?_⟩
    rw [u]
    unfold b_Exact_initD
    simp [right_ev, nn, dp, l1]
    simp [qD, e]
    simp [l2, qD, cf, q1, q2, q3, q4, q5, q6, q7, q8, q9, q10]
/-- the law's five numbers of a root -/
theorem five1_ev {x : Rat} {st : Store} (h0 : 0 ≤ x) (hx : K x) : ∃ t b s o u : Int, (x ≠ 0 → RtD x t b s o u) ∧ (x = 0 → t = 0 ∧ b = 1 ∧ s = 0 ∧ o = 0 ∧ u = 1) ∧ m_lfive [qD 0, .int 1, qD x] st = .ok (.tup [.int t, .int b, .int s, .int o, .int u]) st := by
  have nn : 0 ≤ x.num := Rat.num_nonneg.mpr h0
  have u : m_lfive [qD 0, .int 1, qD x] st = fin (b_lfive [.val (qD 0), .val (.int 1), .val (qD x), .un, .un] st) := rfl
  by_cases hz : x = 0
  · subst hz
    refine ⟨0, 1, 0, 0, 1, fun z => absurd rfl z, fun _ => ⟨rfl, rfl, rfl, rfl, rfl⟩, ?_⟩
    have a : addD (qD 0) (.tup [.int 0, .int 0, .int 1]) st = some (.tup [.int 0, .int 1, .int 0, .int 0, .int 1]) := rfl
    rw [u]
    unfold b_lfive
    simp [a]
  · have hz' : ¬ x.num = 0 := fun z => hz (Rat.num_eq_zero.mp z)
    obtain ⟨a, ha⟩ : ∃ a : Nat, x.num = (a : Int) := ⟨x.num.toNat, by omega⟩
    have la0 : a < 2 ^ 4499 := by
      have := hx.bq.num
      rwa [ha, Int.natAbs_natCast] at this
    have la : a < 2 ^ 5000 := pow_le la0 (by decide)
    have lb : x.den < 2 ^ 5000 := pow_le hx.bq.den (by decide)
    obtain ⟨r, hr, e1⟩ := lroot_ev (st := st) la
    obtain ⟨q, hq, e2⟩ := lroot_ev (st := st) lb
    have rl : r < 2 ^ 4499 := Nat.lt_of_le_of_lt (Nat.le_trans (Nat.le_mul_self r) hr.le) la0
    have ql : q < 2 ^ 4499 := Nat.lt_of_le_of_lt (Nat.le_trans (Nat.le_mul_self q) hq.le) hx.bq.den
    have m1 : mulOk (r : Int) (r : Int) = true := mulOk_of (m := 4499) (n := 4499) (by rw [Int.natAbs_natCast]; exact rl) (by rw [Int.natAbs_natCast]; exact rl) (by decide)
    have m2 : mulOk (q : Int) (q : Int) = true := mulOk_of (m := 4499) (n := 4499) (by rw [Int.natAbs_natCast]; exact ql) (by rw [Int.natAbs_natCast]; exact ql) (by decide)
    have m3 : mulOk 1 (r : Int) = true := mulOk_of (m := 1) (n := 4499) (by decide) (by rw [Int.natAbs_natCast]; exact rl) (by decide)
    have hz2 : ¬ a = 0 := fun z => hz' (by rw [ha, z]; rfl)
    by_cases h : r * r = a ∧ q * q = x.den
    · obtain ⟨h1, h2⟩ := h
      have hs : SqOf x r q := ⟨by rw [ha, ← h1, Int.natCast_mul], h2⟩
      have q0 : q ≠ 0 := fun z => by
        have := x.den_nz
        subst z
        omega
      have z1 : (r : Int) * r = (a : Int) := by rw [← h1, Int.natCast_mul]
      have z2 : (q : Int) * q = (x.den : Int) := by rw [← h2, Int.natCast_mul]
      have q0' : (q : Int) ≠ 0 := by omega
      have p1 : m_lplus [qD 0, .tup [.int r, .int q]] st = .ok (qD (Rat.divInt r q)) st := by
        have u2 : m_lplus [qD 0, .tup [.int r, .int q]] st = fin (b_lplus [.val (qD 0), .val (.tup [.int r, .int q])] st) := rfl
        have n1 := number_ev (st := st) (a := (r : Int)) (b := (q : Int)) q0' (by rw [Int.natAbs_natCast]; exact pow_le ql (by decide))
        have k0 : mulOk 0 (q : Int) = true := mulOk_of (m := 1) (n := 4499) (by decide) (by rw [Int.natAbs_natCast]; exact ql) (by decide)
        have k1 : mulOk 1 (q : Int) = true := mulOk_of (m := 1) (n := 4499) (by decide) (by rw [Int.natAbs_natCast]; exact ql) (by decide)
        have k2 : mulOk (r : Int) 1 = true := mulOk_of (m := 4499) (n := 1) (by rw [Int.natAbs_natCast]; exact rl) (by decide) (by decide)
        rw [u2]
        unfold b_lplus
        have q00 : qD 0 = .tup [.int 0, .int 1] := rfl
        generalize Rat.divInt (r : Int) (q : Int) = y at *
        rw [q00]
        simp [mul_int' k0, mul_int' k1, mul_int' k2, n1]
      refine ⟨_, _, _, _, _, fun _ => .inl ⟨r, q, hs, rfl, rfl, rfl, rfl, rfl⟩, fun z => absurd z hz, ?_⟩
      have ad : ∀ y : Rat, addD (qD y) (.tup [.int 0, .int 0, .int 1]) st = some (.tup [.int y.num, .int (y.den : Int), .int 0, .int 0, .int 1]) := fun _ => rfl
      rw [u]
      generalize Rat.divInt (r : Int) (q : Int) = y at *
      unfold b_lfive
      simp [ha, hz2, e1, e2, mul_int' m1, mul_int' m2, mul_int' m3, z1, z2, p1, ad]
    · refine ⟨_, _, _, _, _, fun _ => .inr ⟨fun ⟨r', q', z⟩ => h ?_, rfl, rfl, rfl, rfl, rfl⟩, fun z => absurd z hz, ?_⟩
      · have z1 : r' * r' = a := by
          have := z.n
          rw [ha] at this
          exact_mod_cast this
        rw [hr.sq z1, hq.sq z.d]
        exact ⟨z1, z.d⟩
      · have a1 : addD (qD 0) (.tup [.int 1]) st = some (.tup [.int 0, .int 1, .int 1]) := rfl
        have a2 : addD (.tup [.int 0, .int 1, .int 1]) (qD x) st = some (.tup [.int 0, .int 1, .int 1, .int x.num, .int (x.den : Int)]) := rfl
        rw [u]
        unfold b_lfive
        by_cases h1 : r * r = a
        · have h2 : ¬ q * q = x.den := fun z => h ⟨h1, z⟩
          have z1 : (r : Int) * r = (a : Int) := by rw [← h1, Int.natCast_mul]
          have z2 : ¬ (q : Int) * q = (x.den : Int) := fun z => h2 (by exact_mod_cast z)
          simp [ha, hz2, e1, e2, mul_int' m1, mul_int' m2, z1, z2, a1, a2]
        · have z1 : ¬ (r : Int) * r = (a : Int) := fun z => h1 (by exact_mod_cast z)
          simp [ha, hz2, e1, e2, mul_int' m1, mul_int' m2, z1, a1, a2]
theorem RtD.same {x : Rat} {t b s o u t' b' s' o' u' : Int} (h : RtD x t b s o u) (g : RtD x t' b' s' o' u') : t = t' ∧ b = b' ∧ s = s' ∧ o = o' ∧ u = u' := by
  rcases h with ⟨r, q, hs, rfl, rfl, rfl, rfl, rfl⟩ | ⟨hn, rfl, rfl, rfl, rfl, rfl⟩
  · rcases g with ⟨r', q', hs', rfl, rfl, rfl, rfl, rfl⟩ | ⟨hn, _⟩
    · have e2 : q = q' := Nat.mul_self_inj.mp (by rw [hs.d, hs'.d])
      have e1 : r = r' := by
        have : (r : Int) * r = (r' : Int) * r' := by rw [hs.n, hs'.n]
        exact Nat.mul_self_inj.mp (by exact_mod_cast this)
      subst e1 e2
      exact ⟨rfl, rfl, rfl, rfl, rfl⟩
    · exact absurd ⟨r, q, hs⟩ hn
  · rcases g with ⟨r', q', hs', _⟩ | ⟨_, rfl, rfl, rfl, rfl, rfl⟩
    · exact absurd ⟨r', q', hs'⟩ hn
    · exact ⟨rfl, rfl, rfl, rfl, rfl⟩
end G76
set_option Elab.async false
set_option linter.all false
set_option maxRecDepth 100000
set_option maxHeartbeats 4000000
set_option autoImplicit false
namespace G76
open PySem PySem.Spec PyProof.Rows L2 Sm
theorem way_ev {p q : Pt} {st : Store} (h1 : K p.1) (h2 : K p.2) (h3 : K q.1) (h4 : K q.2) (h5 : K (wayR p q).1) (h6 : K (wayR p q).2) : m_way_between [pD p, pD q] st = .ok (pD (wayR p q)) st := by
  rw [u_way_between]
  unfold b_way_between
  simp [minus_ev h3 h1 h5, minus_ev h4 h2 h6]
  rfl
theorem dot_ev {a b : Pt} {st : Store} (h1 : K a.1) (h2 : K a.2) (h3 : K b.1) (h4 : K b.2) (h5 : K (a.1 * b.1)) (h6 : K (a.2 * b.2)) (h7 : K (dotR a b)) : m_dot [pD a, pD b] st = .ok (eD (dotR a b)) st := by
  rw [u_dot]
  unfold b_dot
  simp [times_ev h1 h3 h5, times_ev h2 h4 h6, plus_ev h5 h6 h7]
  rfl
theorem square_ev {p q : Pt} {st : Store} (h1 : K p.1) (h2 : K p.2) (h3 : K q.1) (h4 : K q.2) (h5 : K (wayR p q).1) (h6 : K (wayR p q).2) (h7 : K ((wayR p q).1 * (wayR p q).1)) (h8 : K ((wayR p q).2 * (wayR p q).2)) (h9 : K (sqR p q)) : m_square_of [pD p, pD q] st = .ok (eD (sqR p q)) st := by
  rw [u_square_of]
  unfold b_square_of
  simp [way_ev h1 h2 h3 h4 h5 h6, dot_ev h5 h6 h5 h6 h7 h8 h9]
  rfl
theorem gone_ev {p w : Pt} {t : Rat} {st : Store} (h1 : K p.1) (h2 : K p.2) (h3 : K w.1) (h4 : K w.2) (h5 : K t) (h6 : K (w.1 * t)) (h7 : K (w.2 * t)) (h8 : K (goneR p w t).1) (h9 : K (goneR p w t).2) : m_gone [pD p, pD w, eD t] st = .ok (pD (goneR p w t)) st := by
  rw [u_gone]
  unfold b_gone
  simp [times_ev h3 h5 h6, times_ev h4 h5 h7, plus_ev h1 h6 h8, plus_ev h2 h7 h9]
  rfl
theorem scaled_ev {a b c : Rat} {st : Store} (h : a ≠ 0 ∨ b ≠ 0) (ha : K a) (hb : K b) (hc : K c) (h1 : K (a * a)) (h2 : K (b * a)) (h3 : K (c * a)) (h4 : K (a / a)) (h5 : K (b / a)) (h6 : K (c / a)) (g1 : K (a * b)) (g2 : K (b * b)) (g3 : K (c * b)) (g4 : K (a / b)) (g5 : K (b / b)) (g6 : K (c / b)) :
    m_scaled_line [eD a, eD b, eD c] st = .ok (elD (lineR a b c)) st := by
  rw [u_scaled_line]
  unfold b_scaled_line lineR
  by_cases h0 : a = 0
  · have hb0 : b ≠ 0 := h.elim (fun q => absurd h0 q) id
    have hs : ¬ sgR b = 0 := fun q => hb0 (sgR_zero.mp q)
    have hz : sgR 0 = 0 := sgR_zero.mpr rfl
    subst h0
    simp [sgn_ev, hs, hz, by_ev hb0 ha hb g1 g2 g4, by_ev hb0 hb hb g2 g2 g5, by_ev hb0 hc hb g3 g2 g6]
    rfl
  · have hs : ¬ sgR a = 0 := fun q => h0 (sgR_zero.mp q)
    simp [h0, sgn_ev, hs, by_ev h0 ha ha h1 h1 h4, by_ev h0 hb ha h2 h1 h5, by_ev h0 hc ha h3 h1 h6]
    rfl
theorem wr_e {x : Rat} {st : Store} {n : Nat} : m_with_roots (n + 1) [eD x] st = .ok (.lst []) st := by
  rw [u_with_roots]
  have i2 : isiB S0 [0] [eD x, .glo "Exact"] st = some (.bl true) := by
    show (isa1 S0 [0] (eD x) (.glo "Exact") st).map D.bl = _
    simp [isa1, eD, cn]
  unfold b_with_roots
  simp [i2]
theorem wr_t2 {a b : D} {st : Store} {n : Nat} (ha : m_with_roots n [a] st = .ok (.lst []) st) (hb : m_with_roots n [b] st = .ok (.lst []) st) : m_with_roots (n + 1) [.tup [a, b]] st = .ok (.lst []) st := by
  rw [u_with_roots]
  have i2 : isiB S0 [0] [.tup [a, b], .glo "Exact"] st = some (.bl false) := by
    show (isa1 S0 [0] (.tup [a, b]) (.glo "Exact") st).map D.bl = _
    simp [isa1, cn, kiOf]
  unfold b_with_roots
  simp [i2]
  simp [compM2, compL2, compL, wipeD, plainE, ha, hb]
theorem wr_t3 {a b c : D} {st : Store} {n : Nat} (ha : m_with_roots n [a] st = .ok (.lst []) st) (hb : m_with_roots n [b] st = .ok (.lst []) st) (hc : m_with_roots n [c] st = .ok (.lst []) st) : m_with_roots (n + 1) [.tup [a, b, c]] st = .ok (.lst []) st := by
  rw [u_with_roots]
  have i2 : isiB S0 [0] [.tup [a, b, c], .glo "Exact"] st = some (.bl false) := by
    show (isa1 S0 [0] (.tup [a, b, c]) (.glo "Exact") st).map D.bl = _
    simp [isa1, cn, kiOf]
  unfold b_with_roots
  simp [i2]
  simp [compM2, compL2, compL, wipeD, plainE, ha, hb, hc]
theorem wr_p {p : Pt} {st : Store} {n : Nat} : m_with_roots (n + 2) [pD p] st = .ok (.lst []) st := wr_t2 wr_e wr_e
theorem wr_n {l : Ln} {st : Store} {n : Nat} : m_with_roots (n + 2) [elD l] st = .ok (.lst []) st := wr_t3 wr_e wr_e wr_e
theorem wr_c {c : Ci} {st : Store} {n : Nat} : m_with_roots (n + 3) [ecD c] st = .ok (.lst []) st := wr_t2 wr_p wr_e
theorem agree_ev {d : D} {st : Store} (h : m_with_roots 8 [d] st = .ok (.lst []) st) : m_must_agree [d] st = .ok .non st := by
  rw [u_must_agree]
  unfold b_must_agree
  simp [h, catM, init_0, ie_0, starG, starD]
theorem agree_pp {p q : Pt} {st : Store} : m_must_agree [.tup [pD p, pD q]] st = .ok .non st := agree_ev (wr_t2 (n := 7) (wr_p (n := 5)) (wr_p (n := 5)))
theorem agree_pn {p : Pt} {l : Ln} {st : Store} : m_must_agree [.tup [pD p, elD l]] st = .ok .non st := agree_ev (wr_t2 (n := 7) (wr_p (n := 5)) (wr_n (n := 5)))
theorem agree_nn {p l : Ln} {st : Store} : m_must_agree [.tup [elD p, elD l]] st = .ok .non st := agree_ev (wr_t2 (n := 7) (wr_n (n := 5)) (wr_n (n := 5)))
structure KSq (p q : Pt) : Prop where
  h1 : K p.1
  h2 : K p.2
  h3 : K q.1
  h4 : K q.2
  h5 : K (wayR p q).1
  h6 : K (wayR p q).2
  h7 : K ((wayR p q).1 * (wayR p q).1)
  h8 : K ((wayR p q).2 * (wayR p q).2)
  h9 : K (sqR p q)
theorem sq_ev {p q : Pt} {st : Store} (h : KSq p q) : m_square_of [pD p, pD q] st = .ok (eD (sqR p q)) st := square_ev h.h1 h.h2 h.h3 h.h4 h.h5 h.h6 h.h7 h.h8 h.h9
structure KGo (p w : Pt) (t : Rat) : Prop where
  h1 : K p.1
  h2 : K p.2
  h3 : K w.1
  h4 : K w.2
  h5 : K t
  h6 : K (w.1 * t)
  h7 : K (w.2 * t)
  h8 : K (goneR p w t).1
  h9 : K (goneR p w t).2
theorem go_ev {p w : Pt} {t : Rat} {st : Store} (h : KGo p w t) : m_gone [pD p, pD w, eD t] st = .ok (pD (goneR p w t)) st := gone_ev h.h1 h.h2 h.h3 h.h4 h.h5 h.h6 h.h7 h.h8 h.h9
structure KDo (a b : Pt) : Prop where
  h1 : K a.1
  h2 : K a.2
  h3 : K b.1
  h4 : K b.2
  h5 : K (a.1 * b.1)
  h6 : K (a.2 * b.2)
  h7 : K (dotR a b)
theorem do_ev {a b : Pt} {st : Store} (h : KDo a b) : m_dot [pD a, pD b] st = .ok (eD (dotR a b)) st := dot_ev h.h1 h.h2 h.h3 h.h4 h.h5 h.h6 h.h7
structure KSc (a b c : Rat) : Prop where
  ha : K a
  hb : K b
  hc : K c
  h1 : K (a * a)
  h2 : K (b * a)
  h3 : K (c * a)
  h4 : K (a / a)
  h5 : K (b / a)
  h6 : K (c / a)
  g1 : K (a * b)
  g2 : K (b * b)
  g3 : K (c * b)
  g4 : K (a / b)
  g5 : K (b / b)
  g6 : K (c / b)
theorem sc_ev {a b c : Rat} {st : Store} (h : a ≠ 0 ∨ b ≠ 0) (k : KSc a b c) : m_scaled_line [eD a, eD b, eD c] st = .ok (elD (lineR a b c)) st := scaled_ev h k.ha k.hb k.hc k.h1 k.h2 k.h3 k.h4 k.h5 k.h6 k.g1 k.g2 k.g3 k.g4 k.g5 k.g6
/-- a line by its point, upright to a way -/
def lineByR (p w : Pt) : Ln := lineR w.1 w.2 (dotR p w)
theorem line_by_ev {p w : Pt} {st : Store} (h : w.1 ≠ 0 ∨ w.2 ≠ 0) (k1 : KDo p w) (k2 : KSc w.1 w.2 (dotR p w)) : m_line_by [pD p, pD w] st = .ok (elD (lineByR p w)) st := by
  rw [u_line_by]
  unfold b_line_by
  simp [do_ev k1, sc_ev h k2]
  rfl
structure KBy (x y : Rat) : Prop where
  hx : K x
  hy : K y
  h1 : K (x * y)
  h2 : K (y * y)
  h3 : K (x / y)
theorem by_k {x y : Rat} {st : Store} (h0 : y ≠ 0) (h : KBy x y) : m_Exact_by [eD x, eD y] st = .ok (eD (x / y)) st := by_ev h0 h.hx h.hy h.h1 h.h2 h.h3
def cut2R (d : D) (st : Store) : Res D := match d with
  | .tup ds => if HT.sIx ds.length 0 none = 0 ∧ HT.sIx ds.length ds.length (some 2) = ds.length then .fail else .ok (.tup (Sm.cutD ds none (some 2))) st
  | _ => .fail
@[simp] theorem slT_ap {m : EM D} {ρ : Env1} {st : Store} : slTM m (cM none) (partM (cM (.int 2))) ρ st = (m ρ st).bind cut2R := rfl
@[simp] theorem cut2_e {l : Ln} {st : Store} : cut2R (elD l) st = .ok (pD (abR l)) st := rfl
end G76
set_option Elab.async false
set_option linter.all false
set_option maxRecDepth 100000
set_option maxHeartbeats 4000000
set_option autoImplicit false
namespace G76
open PySem PySem.Spec PyProof.Rows L2 Sm
/-- the draw's last part -/
def drawT : SM :=
 (seqS (setS 2 (op2 mulD (callB intB (consM (op2 addD (op2 addD (op2 modD (callB intB (consM (varB 2) nilM)) (cM (.int 2147483563))) (op2 mulD (op2 mulD (cM (.int 60821)) (varB 3)) (varB 3))) (cM (.int 90073))) nilM)) (cM (.int 40692))))
 (seqS (setS 2 (op2 modD (callB intB (consM (varB 2) nilM)) (cM (.int 2147483647))))
 (seqS (setS 2 (op2 modD (callB intB (consM (op2 addD (op2 addD (op2 mulD (varB 2) (varB 2)) (op2 mulD (cM (.int 40692)) (varB 3))) (cM (.int 97))) nilM)) (cM (.int 2147483579))))
 (retS (op2 modD (op2 divD (op2 modD (callB intB (consM (op2 mulD (varB 2) (cM (.int 48271))) nilM)) (cM (.int 2147483549))) (cM (.int 64))) (varB 1))))))
theorem draw_is : b_ldraw = (seqS (dputS (varM 0) (cM (.str "draws")) (op2 addD (op2 dgetD (varM 0) (cM (.str "draws"))) (cM (.int 1))))
 (seqS (parS 2 3 (consM (op2 dgetD (varM 0) (cM (.str "mixed"))) (consM (op2 dgetD (varM 0) (cM (.str "draws"))) nilM)))
 (seqS (ifS (tst (op2 neD (op2 dgetD (varM 0) (cM (.str "rest"))) (frzM (lstM nilM))))
 (seqS (setS 4 (popM (op2 dgetD (varM 0) (cM (.str "rest")))))
 (seqS (ifS (tst (op2 geD (varB 4) (op2 powD (cM (.int 10)) (cM (.int 18)))))
 (seqS (guardS (isRef (op2 dgetD (varM 0) (cM (.str "rest")))) (appRS (op2 dgetD (varM 0) (cM (.str "rest"))) (op2 divD (varB 4) (ifM (tst (op2 gtD (varB 1) (cM (.int 1)))) (varM 1) (cM (.int 2))))))
 (retS (op2 modD (callB intB (consM (varB 4) nilM)) (varB 1))))
 nilS)
 (setS 2 (op2 addD (varB 2) (op2 modD (callB intB (consM (varB 4) nilM)) (cM (.int 2147483629)))))))
 nilS)
 drawT))) := rfl
theorem fmod_lt {a b : Int} (h : 0 < b) : 0 ≤ a.fmod b ∧ a.fmod b < b := ⟨Int.fmod_nonneg_of_pos _ h, Int.fmod_lt_of_pos _ h⟩
theorem abs_lt_pow {a : Int} {n : Nat} {b : Int} (h0 : 0 ≤ a) (h1 : a < b) (hb : b ≤ 2 ^ n) : a.natAbs < 2 ^ n := by
  have : (a.natAbs : Int) < 2 ^ n := by omega
  exact_mod_cast this
theorem draw_ev {k : Nat} {below : Int} {st : Store} (h0 : 0 < below) (hb : below < 2 ^ 60) (hk : k < 2 ^ 40) (d : Dk k st) : ∃ v st', m_ldraw [.ref 1, .int below] st = .ok (.int v) st' ∧ 0 ≤ v ∧ v < below ∧ Dk (k + 1) st' := by
  obtain ⟨cells, m, c, rfl, m0, m1, c0, c1, hl⟩ := d
  -- the last part, from the number on
  have tail : ∀ (num : Int) (sl : Sl) (cs : List Int), 0 ≤ num → num < 2 ^ 32 → ∃ v, fin (drawT [.val (.ref 1), .val (.int below), .val (.int num), .val (.int (c + 1)), sl] (dkS cs m (c + 1))) = .ok (.int v) (dkS cs m (c + 1)) ∧ 0 ≤ v ∧ v < below := by
    intro num sl cs n0 n1
    obtain ⟨f0, f1⟩ := fmod_lt (a := num) (b := 2147483563) (by decide)
    have bc : (c + 1).natAbs < 2 ^ 41 := abs_lt_pow (b := 2 ^ 41) (by omega) (by omega) (by omega)
    have b6 : (60821 : Int).natAbs < 2 ^ 16 := by decide
    have m1' := mulOk_of b6 bc (by omega)
    have b7 := imul_lt b6 bc
    have m2 := mulOk_of b7 bc (by omega)
    have b8 := imul_lt b7 bc
    have b9 : (num.fmod 2147483563).natAbs < 2 ^ 31 := abs_lt_pow f0 f1 (by decide)
    have b10 := iadd_lt b9 b8 (k := 99) (by omega) (by omega)
    have b11 := iadd_lt b10 (show (90073 : Int).natAbs < 2 ^ 17 by decide) (k := 100) (by omega) (by omega)
    have m3 := mulOk_of b11 (show (40692 : Int).natAbs < 2 ^ 16 by decide) (by omega)
    generalize hA : (num.fmod 2147483563 + 60821 * (c + 1) * (c + 1) + 90073) * 40692 = A at *
    obtain ⟨g0, g1⟩ := fmod_lt (a := A) (b := 2147483647) (by decide)
    have bB : (A.fmod 2147483647).natAbs < 2 ^ 31 := abs_lt_pow g0 g1 (by decide)
    generalize hB : A.fmod 2147483647 = B at *
    have m4 := mulOk_of bB bB (by omega)
    have m5 := mulOk_of (show (40692 : Int).natAbs < 2 ^ 16 by decide) bc (by omega)
    generalize hC : (B * B + 40692 * (c + 1) + 97) = C0 at *
    obtain ⟨k0, k1⟩ := fmod_lt (a := C0) (b := 2147483579) (by decide)
    have bC : (C0.fmod 2147483579).natAbs < 2 ^ 31 := abs_lt_pow k0 k1 (by decide)
    generalize hC1 : C0.fmod 2147483579 = C at *
    have m6 := mulOk_of bC (show (48271 : Int).natAbs < 2 ^ 16 by decide) (by omega)
    have dv : ∀ a : Int, divOk a 64 = true := fun a => divOk_of (n := 7) (by decide) (by decide) (by omega)
    obtain ⟨r0, r1⟩ := fmod_lt (a := ((C * 48271).fmod 2147483549).fdiv 64) h0
    refine ⟨_, ?_, r0, r1⟩
    have z1 : (2147483563 : Int) ≠ 0 := by decide
    have z2 : (2147483647 : Int) ≠ 0 := by decide
    have z3 : (2147483579 : Int) ≠ 0 := by decide
    have z4 : (2147483549 : Int) ≠ 0 := by decide
    have z5 : below ≠ 0 := by omega
    unfold drawT
    simp [mod_int'' z1, mul_int' m1', mul_int' m2, mul_int' m3, hA, mod_int'' z2, hB, mul_int' m4, mul_int' m5, hC, mod_int'' z3, hC1, mul_int' m6, mod_int'' z4, div_int' (dv _), mod_int'' z5]
  have h18 : powD (.int 10) (.int 18) (dkS cells.dropLast m (c + 1)) = some (.int 1000000000000000000) := rfl
  have put : ∀ (ρ : Env1), dputR (.val (.ref 1) :: ρ) (varM 0) (cM (.str "draws")) (.int (c + 1)) (dkS cells m c) = .nx (.val (.ref 1) :: ρ) (dkS cells m (c + 1)) := fun ρ => by
    unfold dputR
    simp [keyD]
    show (match putDic 1 (kS "draws") (.int (c + 1)) (dkS cells m c) with
      | some st4 => RS.nx (.val (.ref 1) :: ρ) st4
      | none => .fail) = _
    rw [put_draws]
  have z5 : below ≠ 0 := by omega
  have z6 : (2147483629 : Int) ≠ 0 := by decide
  by_cases hc : cells = []
  · subst hc
    obtain ⟨v, e, v0, v1⟩ := tail m .un [] m0 (by omega)
    refine ⟨v, _, ?_, v0, v1, [], m, c + 1, rfl, m0, m1, by omega, by omega, hl⟩
    rw [← e]
    show fin (b_ldraw [.val (.ref 1), .val (.int below), .un, .un, .un] (dkS [] m c)) = _
    rw [draw_is]
    simp only [seqS_ap, dputS_ap]
    simp [put, ne_rest]
  · obtain ⟨a, ha⟩ : ∃ a, cells.getLast? = some a := ⟨_, List.getLast?_eq_some_getLast hc⟩
    have hlen : cells.dropLast.length < 64 := by
      rw [List.length_dropLast]
      have : cells.length ≠ 0 := fun q => hc (List.length_eq_zero_iff.mp q)
      omega
    by_cases hbig : (1000000000000000000 : Int) ≤ a
    · obtain ⟨v0, v1⟩ := fmod_lt (a := a) h0
      have dvb : divOk a (if 1 < below then below else 2) = true := by
        refine divOk_of (n := 61) ?_ ?_ (by omega)
        · split <;> omega
        · split
          · exact abs_lt_pow (b := 2 ^ 60) (by omega) (by omega) (by decide)
          · decide
      have ifr : ∀ s : Store, (if 1 < below then Res.ok (D.int below) s else Res.ok (D.int 2) s) = .ok (.int (if 1 < below then below else 2)) s := fun s => by
        split <;> rfl
      refine ⟨a.fmod below, dkS (cells.dropLast ++ [a.fdiv (if 1 < below then below else 2)]) m (c + 1), ?_, v0, v1, _, m, c + 1, rfl, m0, m1, by omega, by omega, by rw [List.length_append, List.length_singleton]; omega⟩
      show fin (b_ldraw [.val (.ref 1), .val (.int below), .un, .un, .un] (dkS cells m c)) = _
      rw [draw_is]
      simp only [seqS_ap, dputS_ap]
      have isr := fun (ρ : Env1) => isRef_rest (ρ := .val (.ref 1) :: ρ) (cells := cells.dropLast) (m := m) (c := c + 1) (k := op2 dgetD (varM 0) (cM (.str "rest"))) (by simp)
      simp [put, ne_rest, hc, pop_rest ha, h18, hbig, isr, ifr, div_int' dvb, app_rest (Nat.lt_trans hlen (by decide)), mod_int'' z5]
    · obtain ⟨q0, q1⟩ := fmod_lt (a := a) (b := 2147483629) (by decide)
      obtain ⟨v, e, v0, v1⟩ := tail (m + a.fmod 2147483629) (.val (.int a)) cells.dropLast (by omega) (by omega)
      refine ⟨v, _, ?_, v0, v1, cells.dropLast, m, c + 1, rfl, m0, m1, by omega, by omega, by omega⟩
      rw [← e]
      show fin (b_ldraw [.val (.ref 1), .val (.int below), .un, .un, .un] (dkS cells m c)) = _
      rw [draw_is]
      simp only [seqS_ap, dputS_ap]
      simp [put, ne_rest, hc, pop_rest ha, h18, hbig, mod_int'' z6]
/-- one of a list, drawn -/
theorem pick_ev {k : Nat} {ds : List D} {st : Store} (h0 : ds ≠ []) (hb : ds.length < 1000) (hk : k < 2 ^ 40) (d : Dk k st) : ∃ x st', m_lpick [.ref 1, .lst ds] st = .ok x st' ∧ x ∈ ds ∧ Dk (k + 1) st' := by
  have hl : 0 < ds.length := List.length_pos_iff.mpr h0
  obtain ⟨v, st', e, v0, v1, d'⟩ := draw_ev (below := (ds.length : Int)) (by omega) (by omega) hk d
  obtain ⟨j, rfl⟩ : ∃ j : Nat, v = (j : Int) := ⟨v.toNat, by omega⟩
  have hj : j < ds.length := by omega
  refine ⟨ds[j], st', ?_, List.getElem_mem hj, d'⟩
  show fin (b_lpick [.val (.ref 1), .val (.lst ds)] st) = _
  have l : ∀ s : Store, lenB [.lst ds] s = some (.int (ds.length : Int)) := fun s => rfl
  unfold b_lpick
  simp [l, e, at_nat (List.getElem?_eq_getElem hj)]
/-- a drawn coordinate -/
theorem coord_ev {k : Nat} {st : Store} (hk : k + 3 < 2 ^ 40) (d : Dk k st) : ∃ x st', m_lcoordinate [.ref 1] st = .ok (qD x) st' ∧ BQ 104 3 x ∧ Dk (k + 3) st' := by
  obtain ⟨a, s1, e1, m1, d1⟩ := pick_ev (ds := [.int 0, .int 1, .int 2, .int 3, .int (-1), .int (-2), .int 4, .int 5, .int (-3), .int 0, .int 6, .int 1]) (by intro q; cases q) (by decide) (by omega) d
  obtain ⟨b, s2, e2, m2, d2⟩ := pick_ev (ds := [.int 1, .int 1, .int 1, .int 1, .int 2, .int 3, .int 1, .int 7]) (by intro q; cases q) (by decide) (by omega) d1
  obtain ⟨v, s3, e3, v0, v1, d3⟩ := draw_ev (below := 60) (by decide) (by decide) (by omega) d2
  obtain ⟨i, rfl, hi⟩ : ∃ i : Int, a = .int i ∧ i.natAbs ≤ 6 := by
    simp only [List.mem_cons, List.not_mem_nil, or_false] at m1
    rcases m1 with h | h | h | h | h | h | h | h | h | h | h | h <;> exact ⟨_, h, by decide⟩
  obtain ⟨j, rfl, hj0, hj⟩ : ∃ j : Int, b = .int j ∧ j ≠ 0 ∧ j.natAbs < 2 ^ 3 := by
    simp only [List.mem_cons, List.not_mem_nil, or_false] at m2
    rcases m2 with h | h | h | h | h | h | h | h <;> exact ⟨_, h, by decide, by decide⟩
  have p30 : ∀ s : Store, powD (.int 10) (.int 30) s = some (.int 1000000000000000000000000000000) := fun s => rfl
  have b30 : (1000000000000000000000000000000 : Int).natAbs < 2 ^ 100 := by decide
  have bi : i.natAbs < 2 ^ 3 := by omega
  have mk := mulOk_of bi b30 (by omega)
  have big : (i * 1000000000000000000000000000000 + 7).natAbs < 2 ^ 104 := iadd_lt (imul_lt bi b30) (show (7 : Int).natAbs < 2 ^ 3 by decide) (by omega) (by omega)
  have n1 := fun s => number_ev (st := s) (a := i) hj0 (pow_le hj (by omega))
  have n2 := fun s => number_ev (st := s) (a := i * 1000000000000000000000000000000 + 7) hj0 (pow_le hj (by omega))
  refine ⟨if v = 0 then Rat.divInt (i * 1000000000000000000000000000000 + 7) j else Rat.divInt i j, s3, ?_, ?_, d3⟩
  · show fin (b_lcoordinate [.val (.ref 1), .un, .un, .un] st) = _
    unfold b_lcoordinate
    by_cases hv : v = 0
    · subst hv
      simp [e1, e2, e3, p30, mul_int' mk, n2]
    · simp [e1, e2, e3, hv, n1]
  · split
    · exact (Bq.divInt hj0 big hj).bQ
    · exact (Bq.divInt hj0 (pow_le bi (by omega)) hj).bQ
theorem point_ev {k : Nat} {st : Store} (hk : k + 6 < 2 ^ 40) (d : Dk k st) : ∃ p st', m_lpoint [.ref 1] st = .ok (lD p) st' ∧ BP 104 3 p ∧ Dk (k + 6) st' := by
  obtain ⟨x, s1, e1, b1, d1⟩ := coord_ev (by omega) d
  obtain ⟨y, s2, e2, b2, d2⟩ := coord_ev (by omega) d1
  refine ⟨(x, y), s2, ?_, ⟨b1, b2⟩, d2⟩
  show fin (b_lpoint [.val (.ref 1)] st) = _
  unfold b_lpoint
  simp [e1, e2]
  rfl
theorem line_ev {a b c : Rat} {st : Store} (ha : K a) (hb : K b) (hc : K c) (h : a ≠ 0 ∨ b ≠ 0) : m_lline [qD a, qD b, qD c] st = .ok (lnD (lineR a b c)) st := by
  rw [u_lline]
  have s := lsign_ev (x := a) (st := st)
  unfold b_lline lineR
  by_cases h0 : a = 0
  · have hb0 : b ≠ 0 := h.elim (fun q => absurd h0 q) id
    have z0 : sgR 0 = 0 := sgR_zero.mpr rfl
    subst h0
    simp [s, z0, lby_ev hb0 ha hb, lby_ev hb0 hb hb, lby_ev hb0 hc hb]
    rfl
  · have z' : ¬ sgR a = 0 := fun q => h0 (sgR_zero.mp q)
    simp [h0, s, z', lby_ev h0 ha ha, lby_ev h0 hb ha, lby_ev h0 hc ha]
    rfl
def thrR (p q : Pt) : Ln := lineR (q.2 - p.2) (p.1 - q.1) ((q.2 - p.2) * p.1 + (p.1 - q.1) * p.2)
theorem un_pt {p q : Pt} (h : p ≠ q) : q.2 - p.2 ≠ 0 ∨ p.1 - q.1 ≠ 0 := by
  by_cases hx : p.1 = q.1
  · left
    intro z
    exact h (Prod.ext hx (by grind))
  · right
    intro z
    exact hx (by grind)
theorem through_ev {p q : Pt} {st : Store} (hp : BP 108 3 p) (hq : BP 108 3 q) (h : p ≠ q) : m_lthrough [lD p, lD q] st = .ok (lnD (thrR p q)) st := by
  haveI := hp
  haveI := hq
  rw [u_lthrough]
  unfold b_lthrough
  have l := line_ev (st := st) (a := q.2 - p.2) (b := p.1 - q.1) (c := (q.2 - p.2) * p.1 + (p.1 - q.1) * p.2) (K_of (by decide) (by decide)) (K_of (by decide) (by decide)) (K_of (by decide) (by decide)) (un_pt h)
  simp (disch := first | assumption | exact K_of (by decide) (by decide)) [lminus_ev, ltimes_ev, lplus_ev, l, thrR]
theorem lineR_n {a b c : Rat} (h : a ≠ 0 ∨ b ≠ 0) : (lineR a b c).a = 1 ∨ ((lineR a b c).a = 0 ∧ (lineR a b c).b = 1) := by
  unfold lineR
  by_cases h0 : a = 0
  · have hb : b ≠ 0 := h.elim (fun q => absurd h0 q) id
    subst h0
    right
    rw [if_neg (by simp)]
    exact ⟨by show 0 / b = 0; grind, by show b / b = 1; grind⟩
  · left
    rw [if_pos h0]
    show a / a = 1
    grind
theorem thr_NL {p q : Pt} (hp : BP 108 3 p) (hq : BP 108 3 q) (h : p ≠ q) : NL (thrR p q) := by
  haveI := hp
  haveI := hq
  have ba : Bq 112 6 (q.2 - p.2) := (bq_up (m := 112) (e := 6) (BQ.bq (x := q.2 - p.2) inferInstance) (by decide) (by decide)).bq
  have bb : Bq 112 6 (p.1 - q.1) := (bq_up (m := 112) (e := 6) (BQ.bq (x := p.1 - q.1) inferInstance) (by decide) (by decide)).bq
  have bc : Bq 230 18 ((q.2 - p.2) * p.1 + (p.1 - q.1) * p.2) := (bq_up (m := 230) (e := 18) (BQ.bq (x := (q.2 - p.2) * p.1 + (p.1 - q.1) * p.2) inferInstance) (by decide) (by decide)).bq
  refine ⟨lineR_n (un_pt h), ?_, ?_⟩
  · unfold thrR lineR
    split
    · exact ⟨bq_up (ba.div' ba) (by decide) (by decide), bq_up (bb.div' ba) (by decide) (by decide)⟩
    · exact ⟨bq_up (ba.div' bb) (by decide) (by decide), bq_up (bb.div' bb) (by decide) (by decide)⟩
  · unfold thrR lineR
    split
    · exact bq_up (bc.div' ba) (by decide) (by decide)
    · exact bq_up (bc.div' bb) (by decide) (by decide)
theorem thr_p {p q : Pt} (h : p ≠ q) : overR (thrR p q) p = 0 := by
  have u := un_pt h
  unfold overR thrR lineR
  split
  · rename_i z
    show (q.2 - p.2) / (q.2 - p.2) * p.1 + (p.1 - q.1) / (q.2 - p.2) * p.2 - ((q.2 - p.2) * p.1 + (p.1 - q.1) * p.2) / (q.2 - p.2) = 0
    grind
  · rename_i z
    have z : q.2 - p.2 = 0 := Classical.not_not.mp z
    have z2 : p.1 - q.1 ≠ 0 := u.elim (fun q => absurd z q) id
    show (q.2 - p.2) / (p.1 - q.1) * p.1 + (p.1 - q.1) / (p.1 - q.1) * p.2 - ((q.2 - p.2) * p.1 + (p.1 - q.1) * p.2) / (p.1 - q.1) = 0
    grind
/-- a drawn point of a line -/
theorem on_ev {k : Nat} {p q : Pt} {st : Store} (hp : BP 108 3 p) (hq : BP 108 3 q) (h : p ≠ q) (hk : k + 3 < 2 ^ 40) (d : Dk k st) : ∃ r st', m_lon [.ref 1, lnD (thrR p q)] st = .ok (lD r) st' ∧ BP 236 130 r ∧ overR (thrR p q) r = 0 ∧ Dk (k + 3) st' := by
  obtain ⟨x, st', e, bx, d'⟩ := coord_ev hk d
  have nl := thr_NL hp hq h
  have op := thr_p h
  have sg := lsign_ev (x := (thrR p q).b) (st := st)
  by_cases hx : p.1 = q.1
  · have hy : q.2 - p.2 ≠ 0 := fun z => h (Prod.ext hx (by grind))
    have e0 : p.1 - q.1 = 0 := by grind
    have eb : (thrR p q).b = 0 := by
      unfold thrR lineR
      rw [if_pos hy]
      show (p.1 - q.1) / (q.2 - p.2) = 0
      grind
    have ea : (thrR p q).a = 1 := by
      rcases nl.n with z | ⟨_, z⟩
      · exact z
      · rw [eb] at z; exact absurd z (by decide)
    have ec : (thrR p q).c = p.1 := by
      unfold overR at op
      rw [ea, eb] at op
      grind
    refine ⟨(p.1, x), st', ?_, ⟨bq_up hp.x.bq (by decide) (by decide), bq_up bx.bq (by decide) (by decide)⟩, ?_, d'⟩
    · have z0 : sgR 0 = 0 := sgR_zero.mpr rfl
      rw [eb] at sg
      rw [u_lon]
      unfold b_lon
      simp [eb, sg, z0, e, ec]
      rfl
    · unfold overR
      rw [ea, eb, ec]
      grind
  · have hxx : q.1 - p.1 ≠ 0 := fun z => hx (by grind)
    have hxy : p.1 - q.1 ≠ 0 := fun z => hx (by grind)
    have eb : (thrR p q).b ≠ 0 := by
      unfold thrR lineR
      split
      · show (p.1 - q.1) / (q.2 - p.2) ≠ 0
        grind
      · show (p.1 - q.1) / (p.1 - q.1) ≠ 0
        grind
    have val : ((thrR p q).c - (thrR p q).a * x) / (thrR p q).b = p.2 + (x - p.1) * (q.2 - p.2) / (q.1 - p.1) := by
      unfold thrR lineR
      split
      · show (((q.2 - p.2) * p.1 + (p.1 - q.1) * p.2) / (q.2 - p.2) - (q.2 - p.2) / (q.2 - p.2) * x) / ((p.1 - q.1) / (q.2 - p.2)) = _
        grind
      · show (((q.2 - p.2) * p.1 + (p.1 - q.1) * p.2) / (p.1 - q.1) - (q.2 - p.2) / (p.1 - q.1) * x) / ((p.1 - q.1) / (p.1 - q.1)) = _
        grind
    have ov : overR (thrR p q) (x, p.2 + (x - p.1) * (q.2 - p.2) / (q.1 - p.1)) = 0 := by
      rw [← val]
      unfold overR
      show (thrR p q).a * x + (thrR p q).b * (((thrR p q).c - (thrR p q).a * x) / (thrR p q).b) - (thrR p q).c = 0
      grind
    have sg' : ¬ sgR (thrR p q).b = 0 := fun z => eb (sgR_zero.mp z)
    haveI := bx
    haveI := nl.ab.x
    haveI := nl.ab.y
    haveI := nl.c
    have B1 : BQ 118 118 (thrR p q).a := nl.ab.x
    have B2 : BQ 118 118 (thrR p q).b := nl.ab.y
    have t1 := ltimes_ev (st := st') (x := (thrR p q).a) (y := x) (K_of (by decide) (by decide)) (K_of (by decide) (by decide))
    have m1 := lminus_ev (st := st') (x := (thrR p q).c) (y := (thrR p q).a * x) (K_of (by decide) (by decide)) (K_of (by decide) (by decide))
    have y1 := lby_ev (st := st') (x := (thrR p q).c - (thrR p q).a * x) (y := (thrR p q).b) eb (K_of (by decide) (by decide)) (K_of (by decide) (by decide))
    rw [val] at y1
    haveI := hp
    haveI := hq
    refine ⟨(x, p.2 + (x - p.1) * (q.2 - p.2) / (q.1 - p.1)), st', ?_, ⟨bq_up bx.bq (by decide) (by decide), bq_up (BQ.bq (x := p.2 + (x - p.1) * (q.2 - p.2) / (q.1 - p.1)) inferInstance) (by decide) (by decide)⟩, ov, d'⟩
    rw [u_lon]
    unfold b_lon
    simp [sg, sg', e, t1, m1, y1]
    rfl
theorem sqw_ev {p q : Pt} {st : Store} (h1 : K p.1) (h2 : K p.2) (h3 : K q.1) (h4 : K q.2) (h5 : K (wayR p q).1) (h6 : K (wayR p q).2) (h7 : K ((wayR p q).1 * (wayR p q).1)) (h8 : K ((wayR p q).2 * (wayR p q).2)) : m_lsquare_way [lD p, lD q] st = .ok (qD (sqR p q)) st := by
  rw [u_lsquare_way]
  unfold b_lsquare_way
  have a1 : m_lminus [qD q.1, qD p.1] st = .ok (qD (wayR p q).1) st := lminus_ev h3 h1
  have a2 : m_lminus [qD q.2, qD p.2] st = .ok (qD (wayR p q).2) st := lminus_ev h4 h2
  simp [a1, a2, ltimes_ev h5 h5, ltimes_ev h6 h6, lplus_ev h7 h8]
  rfl
theorem sqw_k {p q : Pt} {st : Store} (h : KSq p q) : m_lsquare_way [lD p, lD q] st = .ok (qD (sqR p q)) st := sqw_ev h.h1 h.h2 h.h3 h.h4 h.h5 h.h6 h.h7 h.h8
/-- a drawn circle -/
theorem circle_ev {k : Nat} {st : Store} (hk : k + 14 < 2 ^ 40) (d : Dk k st) : ∃ c st', m_ldrawn_circle [.ref 1] st = .ok (lcD c) st' ∧ NC c ∧ Dk (k + 14) st' := by
  obtain ⟨p, s1, e1, bp, d1⟩ := point_ev (by omega) d
  obtain ⟨q, s2, e2, bq, d2⟩ := point_ev (by omega) d1
  have pick : ∀ (j : Nat) (s : Store), Dk j s → j + 1 < 2 ^ 40 → ∃ x s', m_lpick [.ref 1, .lst [.tup [.int 1, .int 1], .tup [.int 2, .int 1], .tup [.int 4, .int 1], .tup [.int 25, .int 1], .tup [.int 1, .int 2], .tup [.int 9, .int 4], .tup [.int 5, .int 1], .tup [.int 3, .int 1], .tup [.int 10, .int 1]]] s = .ok (qD x) s' ∧ BQ 230 24 x ∧ 0 < x ∧ Dk (j + 1) s' := fun j s dj hj => by
    obtain ⟨z, s', e, mz, d'⟩ := pick_ev (ds := [.tup [.int 1, .int 1], .tup [.int 2, .int 1], .tup [.int 4, .int 1], .tup [.int 25, .int 1], .tup [.int 1, .int 2], .tup [.int 9, .int 4], .tup [.int 5, .int 1], .tup [.int 3, .int 1], .tup [.int 10, .int 1]]) (by intro q; cases q) (by simp) (by omega) dj
    have hz : ∃ x : Rat, z = qD x ∧ BQ 230 24 x ∧ 0 < x := by
      have mk : ∀ (x : Rat) (a : Int) (b : Nat), x.num = a → x.den = b → a.natAbs < 2 ^ 5 → b < 2 ^ 3 → BQ 230 24 x := fun x a b h1 h2 h3 h4 => ⟨by rw [h1]; exact pow_le h3 (by decide), by rw [h2]; exact pow_le h4 (by decide)⟩
      simp only [List.mem_cons, List.not_mem_nil, or_false] at mz
      rcases mz with h | h | h | h | h | h | h | h | h
      · exact ⟨1, h, mk 1 1 1 (by decide +kernel) (by decide +kernel) (by decide) (by decide), by decide +kernel⟩
      · exact ⟨2, h, mk 2 2 1 (by decide +kernel) (by decide +kernel) (by decide) (by decide), by decide +kernel⟩
      · exact ⟨4, h, mk 4 4 1 (by decide +kernel) (by decide +kernel) (by decide) (by decide), by decide +kernel⟩
      · exact ⟨25, h, mk 25 25 1 (by decide +kernel) (by decide +kernel) (by decide) (by decide), by decide +kernel⟩
      · have f : (1 / 2 : Rat).num = 1 ∧ (1 / 2 : Rat).den = 2 := by decide +kernel
        exact ⟨1 / 2, by rw [h]; unfold qD; rw [f.1, f.2]; rfl, mk _ 1 2 f.1 f.2 (by decide) (by decide), by decide +kernel⟩
      · have f : (9 / 4 : Rat).num = 9 ∧ (9 / 4 : Rat).den = 4 := by decide +kernel
        exact ⟨9 / 4, by rw [h]; unfold qD; rw [f.1, f.2]; rfl, mk _ 9 4 f.1 f.2 (by decide) (by decide), by decide +kernel⟩
      · exact ⟨5, h, mk 5 5 1 (by decide +kernel) (by decide +kernel) (by decide) (by decide), by decide +kernel⟩
      · exact ⟨3, h, mk 3 3 1 (by decide +kernel) (by decide +kernel) (by decide) (by decide), by decide +kernel⟩
      · exact ⟨10, h, mk 10 10 1 (by decide +kernel) (by decide +kernel) (by decide) (by decide), by decide +kernel⟩
    obtain ⟨x, rfl, bx, px⟩ := hz
    exact ⟨x, s', e, bx, px, d'⟩
  have a0 : parS 1 2 (consM (callM m_lpoint 1 1 (fun ds _ => ds) (consM (varM 0) nilM)) (consM (callM m_lpoint 1 1 (fun ds _ => ds) (consM (varM 0) nilM)) nilM)) [.val (.ref 1), .un, .un] st = .nx [.val (.ref 1), .val (lD p), .val (lD q)] s2 := by
    simp [e1, e2]
  by_cases hpq : p = q
  · obtain ⟨x, s3, e3, bx, px, d3⟩ := pick _ _ d2 (by omega)
    refine ⟨⟨p, x⟩, s3, ?_, ⟨bp, bx, px⟩, d3.mono (by omega)⟩
    rw [u_ldrawn_circle]
    unfold b_ldrawn_circle
    rw [seqS_ap, a0]
    simp [ne_l, hpq, e3]
    rfl
  · obtain ⟨v, s3, e3, v0, v1, d3⟩ := draw_ev (below := 2) (by decide) (by decide) (by omega) d2
    by_cases hv : v = 0
    · haveI := bp
      haveI := bq
      have sw := sqw_k (st := s3) (p := p) (q := q) ⟨K_of (by decide) (by decide), K_of (by decide) (by decide), K_of (by decide) (by decide), K_of (by decide) (by decide), K_of (by decide) (by decide), K_of (by decide) (by decide), K_of (by decide) (by decide), K_of (by decide) (by decide), by
        unfold sqR
        exact K_of (by decide) (by decide)⟩
      refine ⟨⟨p, sqR p q⟩, s3, ?_, ⟨bp, ?_, ?_⟩, d3.mono (by omega)⟩
      · rw [u_ldrawn_circle]
        unfold b_ldrawn_circle
        rw [seqS_ap, a0]
        simp [ne_l, hpq, e3, hv, sw]
        rfl
      · show BQ 230 24 (sqR p q)
        unfold sqR
        exact bq_up (BQ.bq (x := dotR (wayR p q) (wayR p q)) inferInstance) (by decide) (by decide)
      · show 0 < sqR p q
        have h1 : sqR p q ≠ 0 := fun z => hpq (sq_zero.mp z)
        have h2 : 0 ≤ sqR p q := dot_nonneg
        grind
    · obtain ⟨x, s4, e4, bx, px, d4⟩ := pick _ _ d3 (by omega)
      refine ⟨⟨p, x⟩, s4, ?_, ⟨bp, bx, px⟩, d4.mono (by omega)⟩
      rw [u_ldrawn_circle]
      unfold b_ldrawn_circle
      rw [seqS_ap, a0]
      simp [ne_l, hpq, e3, hv, e4]
      rfl
end G76
set_option Elab.async false
set_option linter.all false
set_option maxRecDepth 100000
set_option maxHeartbeats 4000000
set_option autoImplicit false
namespace G76
open PySem PySem.Spec PyProof.Rows L2 Sm
theorem qD_int (i : Int) : D.tup [.int i, .int 1] = qD (i : Rat) := by
  unfold qD
  rw [Rat.num_intCast, Rat.den_intCast]
  rfl
theorem bq_int {i : Int} (h : i.natAbs < 2 ^ 3) : BQ 3 1 (i : Rat) := ⟨by rw [Rat.num_intCast]; exact h, by rw [Rat.den_intCast]; decide⟩
theorem pts_py {ds : List D} (h : ∀ d ∈ ds, ∃ p, d = lD p) : ∃ ps, pyOfs ds = some ps ∧ PyData.canLayAll0 ps = true ∧ PyData.depthAll ps ≤ 2 ∧ (ps = [] ↔ ds = []) := by
  induction ds with
  | nil => exact ⟨[], rfl, rfl, by decide, by simp⟩
  | cons d ds ih =>
    obtain ⟨p, rfl⟩ := h d List.mem_cons_self
    obtain ⟨ps, e1, e2, e3, e4⟩ := ih fun x hx => h x (List.mem_cons_of_mem _ hx)
    refine ⟨.tuple [.tuple [.int p.1.num, .int (p.1.den : Int)], .tuple [.int p.2.num, .int (p.2.den : Int)]] :: ps, ?_, ?_, ?_, by simp⟩
    · show (match pyOf (lD p), pyOfs ds with
        | some p, some ps => some (p :: ps)
        | _, _ => none) = _
      rw [e1]
      rfl
    · show (_ && PyData.canLayAll0 ps) = true
      rw [e2]
      rfl
    · show max _ (PyData.depthAll ps) ≤ 2
      have : PyData.depth (.tuple [.tuple [.int p.1.num, .int (p.1.den : Int)], .tuple [.int p.2.num, .int (p.2.den : Int)]]) = 2 := rfl
      omega
theorem ne_pts {ds : List D} {st : Store} (h : ∀ d ∈ ds, ∃ p, d = lD p) : neD (.lst ds) (.lst []) st = some (.bl (!decide (ds = []))) := by
  obtain ⟨ps, e1, e2, e3, e4⟩ := pts_py h
  have e : pyB (.lst ds) st = some (.list ps) := by
    show (pyOfs ds).map PyData.list = _
    rw [e1]
    rfl
  have sh : SeqAt.shaped (.list ps) = true := by
    show (PyData.canLayAll0 ps && decide (PyData.depthAll ps + 1 ≤ 64)) = true
    rw [e2, decide_eq_true (by omega)]
    rfl
  unfold neD
  rw [e]
  show (if (SeqAt.shaped (.list ps) && SeqAt.shaped (.list [])) = true then some (D.bl (!PyData.eqv (.list ps) (.list []))) else none) = _
  rw [sh]
  cases ds with
  | nil =>
    have : ps = [] := e4.mpr rfl
    subst this
    rfl
  | cons d ds =>
    cases ps with
    | nil => exact absurd (e4.mp rfl) (by simp)
    | cons a l => rfl
theorem bq_addint {q : Rat} {i : Int} {n d k : Nat} (h : Bq n d q) (hi : i.natAbs < 2 ^ k) : Bq (max n (k + d) + 1) d (q + (i : Rat)) := by
  have e : q + (i : Rat) = Rat.divInt (q.num + i * q.den) q.den := by
    rw [add_eq, Rat.num_intCast, Rat.den_intCast]
    congr 1 <;> simp
  rw [e]
  exact Bq.divInt (den_ne q) (iadd_lt h.num (imul_lt hi (n := d) (by rw [Int.natAbs_natCast]; exact h.den)) (by omega) (by omega)) (by rw [Int.natAbs_natCast]; exact h.den)
/-- a point or None -/
def opD : Option Pt → D
  | none => .non
  | some p => lD p
noncomputable def aroundB : SM := (ifS (andM (tst (op2 eqD (op2 addD (op2 mulD (varB 3) (varB 3)) (op2 mulD (varB 4) (varB 4))) (op2 ixD (op2 ixD (varB 1) (cM (.int 1))) (cM (.int 0))))) (tst (op2 eqD (op2 ixD (op2 ixD (varB 1) (cM (.int 1))) (cM (.int 1))) (cM (.int 1)))))
 (mutS 2 appF (consM (tupM (consM (callM m_lplus 2 2 (fun ds _ => ds) (consM (op2 ixD (op2 ixD (varB 1) (cM (.int 0))) (cM (.int 0))) (consM (tupM (consM (varM 3) (consM (cM (.int 1)) nilM))) nilM))) (consM (callM m_lplus 2 2 (fun ds _ => ds) (consM (op2 ixD (op2 ixD (varB 1) (cM (.int 0))) (cM (.int 1))) (consM (tupM (consM (varM 4) (consM (cM (.int 1)) nilM))) nilM))) nilM))) nilM))
 nilS)
theorem around_is : b_laround = (seqS (setF 2 (lstM nilM))
 (seqS (forS (rng2W (consM (negM (cM (.int 7))) (consM (cM (.int 8)) nilM))) (setG 3)
 (forS (rng2W (consM (negM (cM (.int 7))) (consM (cM (.int 8)) nilM))) (setG 4) aroundB))
 (seqS (fzS 2)
 (retS (ifM (tst (op2 neD (varB 2) (frzM (lstM nilM)))) (callM m_lpick 2 2 (fun ds _ => ds) (consM (varM 0) (consM (varM 2) nilM))) (cM .non)))))) := rfl
theorem around_ev {k : Nat} {c : Ci} {st : Store} (hc : NC c) (hk : k + 1 < 2 ^ 40) (d : Dk k st) : ∃ o st', m_laround [.ref 1, lcD c] st = .ok (opD o) st' ∧ (∀ p, o = some p → BP 108 3 p ∧ sqR c.m p = c.s) ∧ Dk (k + 1) st' := by
  let Good : D → Prop := fun d => ∃ p, d = lD p ∧ BP 108 3 p ∧ sqR c.m p = c.s
  let P : Nat → Env1 → Store → Prop := fun i ρ s => s = st ∧ ∃ ds s3 s4, ρ = [.val (.ref 1), .val (lcD c), .own ds, s3, s4] ∧ (∀ d ∈ ds, Good d) ∧ ds.length ≤ i
  have rr : ∀ ρ s, rng2W (consM (negM (cM (.int 7))) (consM (cM (.int 8)) nilM)) ρ s = .ok (rngD (-7) 15) s := fun _ _ => rfl
  haveI := hc.m
  -- one spot
  have body : ∀ (x y : Int) (i : Nat) (ds : List D), -7 ≤ x → x < 8 → -7 ≤ y → y < 8 → i < 1000 → (∀ d ∈ ds, Good d) → ds.length ≤ i → ∃ ρ2, aroundB [.val (.ref 1), .val (lcD c), .own ds, .val (.int x), .val (.int y)] st = .nx ρ2 st ∧ ∃ ds', ρ2 = [.val (.ref 1), .val (lcD c), .own ds', .val (.int x), .val (.int y)] ∧ (∀ d ∈ ds', Good d) ∧ ds'.length ≤ i + 1 := by
    intro x y i ds x0 x1 y0 y1 hi hd hl
    have bx : x.natAbs < 2 ^ 3 := by omega
    have bY : y.natAbs < 2 ^ 3 := by omega
    have m1 := mulOk_of bx bx (by omega)
    have m2 := mulOk_of bY bY (by omega)
    haveI := bq_int bx
    haveI := bq_int bY
    have p1 := lplus_ev (st := st) (x := c.m.1) (y := (x : Rat)) (K_of (by decide) (by decide)) (K_of (by decide) (by decide))
    have p2 := lplus_ev (st := st) (x := c.m.2) (y := (y : Rat)) (K_of (by decide) (by decide)) (K_of (by decide) (by decide))
    have dl : ds.length < 1000000 := by omega
    have p1' : m_lplus [qD c.m.1, .tup [.int x, .int 1]] st = .ok (qD (c.m.1 + x)) st := by rw [qD_int]; exact p1
    have p2' : m_lplus [qD c.m.2, .tup [.int y, .int 1]] st = .ok (qD (c.m.2 + y)) st := by rw [qD_int]; exact p2
    by_cases h1 : x * x + y * y = c.s.num
    · by_cases h2 : (c.s.den : Int) = 1
      · refine ⟨_, ?_, ds ++ [lD (c.m.1 + x, c.m.2 + y)], rfl, fun d hd' => ?_, by rw [List.length_append, List.length_singleton]; omega⟩
        · unfold aroundB
          simp [mul_int' m1, mul_int' m2, h1, h2, p1', p2', dl]
          rfl
        · rcases List.mem_append.mp hd' with z | z
          · exact hd d z
          · rw [List.mem_singleton.mp z]
            refine ⟨_, rfl, ⟨bq_up (bq_addint hc.m.x.bq bx) (by decide) (by decide), bq_up (bq_addint hc.m.y.bq bY) (by decide) (by decide)⟩, ?_⟩
            have es : c.s = ((x * x + y * y : Int) : Rat) := by
              rw [h1]
              refine Rat.ext ?_ ?_
              · rw [Rat.num_intCast]
              · rw [Rat.den_intCast]; omega
            rw [es, Rat.intCast_add, Rat.intCast_mul, Rat.intCast_mul]
            unfold sqR dotR wayR
            show (c.m.1 + (x : Rat) - c.m.1) * (c.m.1 + (x : Rat) - c.m.1) + (c.m.2 + (y : Rat) - c.m.2) * (c.m.2 + (y : Rat) - c.m.2) = _
            grind
      · refine ⟨_, ?_, ds, rfl, hd, by omega⟩
        unfold aroundB
        simp [mul_int' m1, mul_int' m2, h1, h2]
    · refine ⟨_, ?_, ds, rfl, hd, by omega⟩
      unfold aroundB
      simp [mul_int' m1, mul_int' m2, h1]
  -- the loops
  obtain ⟨ρ2, st2, e2, rfl, ds, s3, s4, rfl, hd, hl⟩ := forL_mem (g := setG 3) (b := forS (rng2W (consM (negM (cM (.int 7))) (consM (cM (.int 8)) nilM))) (setG 4) aroundB) (N := 15) (D0 := fun d => ∃ i : Int, d = .int i ∧ -7 ≤ i ∧ i < 8) (P := fun i => P (15 * i)) (by
    rintro i d ρ s hi ⟨x, rfl, x0, x1⟩ ⟨rfl, ds, s3, s4, rfl, hd, hl⟩
    obtain ⟨ρ2, st2, e2, rfl, y, ds', s4', rfl, _, hd', hl'⟩ := forL_mem (g := setG 4) (b := aroundB) (N := 15) (D0 := fun d => ∃ i : Int, d = .int i ∧ -7 ≤ i ∧ i < 8) (P := fun j ρ s' => s' = s ∧ ∃ (y : Sl) (ds : List D) (s4 : Sl), ρ = [.val (.ref 1), .val (lcD c), .own ds, .val (.int x), s4] ∧ True ∧ (∀ d ∈ ds, Good d) ∧ ds.length ≤ 15 * i + j) (by
      rintro j d ρ s' hj ⟨y, rfl, y0, y1⟩ ⟨rfl, _, ds, s4, rfl, _, hd, hl⟩
      obtain ⟨ρ2, e, ds', rfl, hd', hl'⟩ := body x y (15 * i + j) ds x0 x1 y0 y1 (by omega) hd hl
      exact ⟨_, _, _, _, rfl, e, rfl, .un, ds', _, rfl, trivial, hd', by omega⟩) (rngD (-7) 15) 0 [.val (.ref 1), .val (lcD c), .own ds, .val (.int x), s4] s (fun d h => rngD_mem h) (by rw [rngD_len]; decide) ⟨rfl, .un, ds, s4, rfl, trivial, hd, by omega⟩
    rw [rngD_len] at hl'
    refine ⟨_, _, _, _, rfl, ?_, rfl, ds', .val (.int x), s4', rfl, hd', by omega⟩
    show forS _ _ _ [.val (.ref 1), .val (lcD c), .own ds, .val (.int x), s4] _ = _
    rw [forS_ap, rr, toS_ok, e2]) (rngD (-7) 15) 0 [.val (.ref 1), .val (lcD c), .own [], .un, .un] st (fun d h => rngD_mem h) (by rw [rngD_len]; decide) ⟨rfl, [], .un, .un, rfl, (fun d h => by cases h), by simp⟩
  rw [rngD_len] at hl
  have hp : ∀ d ∈ ds, ∃ p, d = lD p := fun d h => ⟨_, (hd d h).choose_spec.1⟩
  have a0 : ∀ (k1 : SM), b_laround [.val (.ref 1), .val (lcD c), .un, .un, .un] st2 = (seqS (fzS 2)
 (retS (ifM (tst (op2 neD (varB 2) (frzM (lstM nilM)))) (callM m_lpick 2 2 (fun ds _ => ds) (consM (varM 0) (consM (varM 2) nilM))) (cM .non)))) [.val (.ref 1), .val (lcD c), .own ds, s3, s4] st2 := fun _ => by
    rw [around_is, seqS_ap]
    have z : setF 2 (lstM nilM) [.val (.ref 1), .val (lcD c), .un, .un, .un] st2 = .nx [.val (.ref 1), .val (lcD c), .own [], .un, .un] st2 := by simp
    rw [z, then_nx, seqS_ap, forS_ap, rr, toS_ok, e2, then_nx]
  by_cases hz : ds = []
  · refine ⟨none, st2, ?_, (fun p e => by cases e), d.mono (by omega)⟩
    rw [u_laround, a0 nilS]
    subst hz
    simp [ne_pts (ds := []) (by simp), opD]
  · obtain ⟨x, st', e, mx, d'⟩ := pick_ev hz (by omega) (by omega) d
    obtain ⟨p, rfl, bp, es⟩ := hd x mx
    refine ⟨some p, st', ?_, (fun q e => by cases e; exact ⟨bp, es⟩), d'⟩
    rw [u_laround, a0 nilS]
    simp [ne_pts hp, hz, e, opD]
end G76
set_option Elab.async false
set_option linter.all false
set_option maxRecDepth 100000
set_option maxHeartbeats 4000000
set_option autoImplicit false
namespace G76
namespace Alg
open PySem PySem.Spec PyProof.Rows L2 Sm
def midR (p q : Pt) : Pt := goneR p (wayR p q) (1 / 2)
theorem lineR_ex {a b c : Rat} (h : a ≠ 0 ∨ b ≠ 0) : ∃ k : Rat, k ≠ 0 ∧ lineR a b c = ⟨a / k, b / k, c / k⟩ ∧ (k = a ∨ k = b) := by
  unfold lineR
  by_cases ha : a = 0
  · rcases h with h | h
    · exact absurd ha h
    · exact ⟨b, h, by rw [if_neg (fun q => q ha)], .inr rfl⟩
  · exact ⟨a, ha, by rw [if_pos ha], .inl rfl⟩
theorem way_ne {p q : Pt} (h : p ≠ q) : (wayR p q).1 ≠ 0 ∨ (wayR p q).2 ≠ 0 := by
  by_cases z : (wayR p q).1 = 0
  · right
    intro z2
    exact h (way_zero.mp (Prod.ext z z2))
  · exact .inl z
def upR (p q : Pt) : Ln := lineByR (midR p q) (wayR p q)
def meetR (l m : Ln) : Pt := ((l.c * m.b - m.c * l.b) / crossR (abR l) (abR m), (l.a * m.c - m.a * l.c) / crossR (abR l) (abR m))
def turnsR (p q r : Pt) : Rat := crossR (wayR p q) (wayR p r)
def by3R (p q r : Pt) : Pt :=
  (p.1 + (sqR p q * (wayR p r).2 - sqR p r * (wayR p q).2) / (2 * turnsR p q r), p.2 + ((wayR p q).1 * sqR p r - (wayR p r).1 * sqR p q) / (2 * turnsR p q r))
theorem turns_ne1 {p q r : Pt} (h : turnsR p q r ≠ 0) : p ≠ q := fun z => h (by
  subst z
  unfold turnsR crossR wayR
  simp only
  grind)
theorem turns_ne2 {p q r : Pt} (h : turnsR p q r ≠ 0) : p ≠ r := fun z => h (by
  subst z
  unfold turnsR crossR wayR
  simp only
  grind)
theorem up_ex {p q : Pt} (h : p ≠ q) : ∃ k : Rat, k ≠ 0 ∧ upR p q = ⟨(wayR p q).1 / k, (wayR p q).2 / k, dotR (midR p q) (wayR p q) / k⟩ := by
  obtain ⟨k, h0, e, _⟩ := lineR_ex (c := dotR (midR p q) (wayR p q)) (way_ne h)
  exact ⟨k, h0, e⟩
theorem up_cross {p q r : Pt} (h : turnsR p q r ≠ 0) : crossR (abR (upR p q)) (abR (upR p r)) ≠ 0 := by
  obtain ⟨k, k0, e1⟩ := up_ex (turns_ne1 h)
  obtain ⟨m, m0, e2⟩ := up_ex (turns_ne2 h)
  rw [e1, e2]
  unfold turnsR crossR at h
  unfold crossR abR
  simp only
  generalize (wayR p q).1 = a at *
  generalize (wayR p q).2 = b at *
  generalize (wayR p r).1 = c at *
  generalize (wayR p r).2 = d at *
  grind
theorem meet_is {p q r : Pt} (h : turnsR p q r ≠ 0) : meetR (upR p q) (upR p r) = by3R p q r := by
  obtain ⟨k, k0, e1⟩ := up_ex (turns_ne1 h)
  obtain ⟨m, m0, e2⟩ := up_ex (turns_ne2 h)
  rw [e1, e2]
  obtain ⟨K1, hK⟩ : ∃ z : Rat, k * z = 1 := ⟨1 / k, by grind⟩
  obtain ⟨M1, hM⟩ : ∃ z : Rat, m * z = 1 := ⟨1 / m, by grind⟩
  have dk : ∀ x : Rat, x / k = x * K1 := fun x => by grind
  have dm : ∀ x : Rat, x / m = x * M1 := fun x => by grind
  simp only [dk, dm]
  obtain ⟨T, hT⟩ : ∃ z : Rat, turnsR p q r * z = 1 := ⟨1 / turnsR p q r, by grind⟩
  have cr : crossR (abR ⟨(wayR p q).1 * K1, (wayR p q).2 * K1, dotR (midR p q) (wayR p q) * K1⟩) (abR ⟨(wayR p r).1 * M1, (wayR p r).2 * M1, dotR (midR p r) (wayR p r) * M1⟩) = turnsR p q r * (K1 * M1) := by
    unfold turnsR crossR abR
    simp only
    grind
  have dt : ∀ x : Rat, x / (turnsR p q r * (K1 * M1)) = x * (T * (k * m)) := fun x => by
    have z : turnsR p q r * (K1 * M1) ≠ 0 := fun z => by grind
    have e : (turnsR p q r * (K1 * M1)) * (T * (k * m)) = 1 := by grind
    generalize turnsR p q r * (K1 * M1) = y at *
    grind
  have d2 : ∀ x : Rat, x / (2 * turnsR p q r) = x * (T * (1 / 2)) := fun x => by
    have e : (2 * turnsR p q r) * (T * (1 / 2)) = 1 := by grind
    have z : 2 * turnsR p q r ≠ 0 := fun z => by grind
    generalize 2 * turnsR p q r = y at *
    grind
  unfold meetR by3R
  rw [cr]
  simp only [dt, d2]
  unfold turnsR crossR at *
  unfold sqR dotR midR goneR at *
  unfold wayR at *
  simp only at *
  generalize p.1 = x at *
  generalize p.2 = y at *
  obtain ⟨a, ha⟩ : ∃ a, a = q.1 - x := ⟨_, rfl⟩
  obtain ⟨b, hb⟩ : ∃ a, a = q.2 - y := ⟨_, rfl⟩
  obtain ⟨c, hc⟩ : ∃ a, a = r.1 - x := ⟨_, rfl⟩
  obtain ⟨d, hd⟩ : ∃ a, a = r.2 - y := ⟨_, rfl⟩
  rw [← ha, ← hb, ← hc, ← hd] at hT
  rw [← ha, ← hb, ← hc, ← hd]
  clear cr dk dm dt d2 e1 e2 h ha hb hc hd
  refine Prod.ext ?_ ?_
  · show (((x + a * (1 / 2)) * a + (y + b * (1 / 2)) * b) * K1 * (d * M1) - ((x + c * (1 / 2)) * c + (y + d * (1 / 2)) * d) * M1 * (b * K1)) * (T * (k * m)) = x + ((a * a + b * b) * d - (c * c + d * d) * b) * (T * (1 / 2))
    have u : ∀ z : Rat, z * K1 * (M1 * (T * (k * m))) = z * T := fun z => by grind
    have w : (((x + a * (1 / 2)) * a + (y + b * (1 / 2)) * b) * K1 * (d * M1) - ((x + c * (1 / 2)) * c + (y + d * (1 / 2)) * d) * M1 * (b * K1)) * (T * (k * m)) = (((x + a * (1 / 2)) * a + (y + b * (1 / 2)) * b) * d - ((x + c * (1 / 2)) * c + (y + d * (1 / 2)) * d) * b) * K1 * (M1 * (T * (k * m))) := by
      clear hT hK hM u
      grind
    rw [w, u]
    clear w u hK hM
    grind
  · show (a * K1 * (((x + c * (1 / 2)) * c + (y + d * (1 / 2)) * d) * M1) - c * M1 * (((x + a * (1 / 2)) * a + (y + b * (1 / 2)) * b) * K1)) * (T * (k * m)) = y + (a * (c * c + d * d) - c * (a * a + b * b)) * (T * (1 / 2))
    have u : ∀ z : Rat, z * K1 * (M1 * (T * (k * m))) = z * T := fun z => by grind
    have w : (a * K1 * (((x + c * (1 / 2)) * c + (y + d * (1 / 2)) * d) * M1) - c * M1 * (((x + a * (1 / 2)) * a + (y + b * (1 / 2)) * b) * K1)) * (T * (k * m)) = (a * ((x + c * (1 / 2)) * c + (y + d * (1 / 2)) * d) - c * ((x + a * (1 / 2)) * a + (y + b * (1 / 2)) * b)) * K1 * (M1 * (T * (k * m))) := by
      clear hT hK hM u
      grind
    rw [w, u]
    clear w u hK hM
    grind
theorem same_far {p q r : Pt} (h : turnsR p q r ≠ 0) : sqR (by3R p q r) q = sqR (by3R p q r) p ∧ sqR (by3R p q r) r = sqR (by3R p q r) p := by
  obtain ⟨T, hT⟩ : ∃ z : Rat, turnsR p q r * z = 1 := ⟨1 / turnsR p q r, by grind⟩
  have d2 : ∀ x : Rat, x / (2 * turnsR p q r) = x * (T * (1 / 2)) := fun x => by
    have e : (2 * turnsR p q r) * (T * (1 / 2)) = 1 := by grind
    have z : 2 * turnsR p q r ≠ 0 := fun z => by grind
    generalize 2 * turnsR p q r = y at *
    grind
  unfold by3R
  simp only [d2]
  clear d2 h
  unfold turnsR crossR at hT
  unfold sqR dotR at *
  unfold wayR at *
  simp only at *
  generalize p.1 = x at *
  generalize p.2 = y at *
  obtain ⟨a, ha⟩ : ∃ a, q.1 = x + a := ⟨q.1 - x, by grind⟩
  obtain ⟨b, hb⟩ : ∃ a, q.2 = y + a := ⟨q.2 - y, by grind⟩
  obtain ⟨c, hc⟩ : ∃ a, r.1 = x + a := ⟨r.1 - x, by grind⟩
  obtain ⟨d, hd⟩ : ∃ a, r.2 = y + a := ⟨r.2 - y, by grind⟩
  rw [ha, hb, hc, hd] at hT
  rw [ha, hb, hc, hd]
  have xa : x + a - x = a := by grind
  have yb : y + b - y = b := by grind
  have xc : x + c - x = c := by grind
  have yd : y + d - y = d := by grind
  rw [xa, yb, xc, yd] at hT
  rw [xa, yb, xc, yd]
  clear ha hb hc hd xa yb xc yd
  obtain ⟨u, hu⟩ : ∃ u, u = ((a * a + b * b) * d - (c * c + d * d) * b) * (T * (1 / 2)) := ⟨_, rfl⟩
  obtain ⟨v, hv⟩ : ∃ u, u = (a * (c * c + d * d) - c * (a * a + b * b)) * (T * (1 / 2)) := ⟨_, rfl⟩
  rw [← hu, ← hv]
  have h1 : a * u + b * v = (a * a + b * b) * (1 / 2) := by
    have e : a * u + b * v = (a * a + b * b) * ((a * d - b * c) * T) * (1 / 2) := by
      rw [hu, hv]
      clear hT hu hv
      grind
    rw [e, hT]
    grind
  have h2 : c * u + d * v = (c * c + d * d) * (1 / 2) := by
    have e : c * u + d * v = (c * c + d * d) * ((a * d - b * c) * T) * (1 / 2) := by
      rw [hu, hv]
      clear hT hu hv h1
      grind
    rw [e, hT]
    grind
  clear hu hv hT
  constructor
  · show (x + a - (x + u)) * (x + a - (x + u)) + (y + b - (y + v)) * (y + b - (y + v)) = (x - (x + u)) * (x - (x + u)) + (y - (y + v)) * (y - (y + v))
    clear h2
    grind
  · show (x + c - (x + u)) * (x + c - (x + u)) + (y + d - (y + v)) * (y + d - (y + v)) = (x - (x + u)) * (x - (x + u)) + (y - (y + v)) * (y - (y + v))
    clear h1
    grind
def axR (p q : Pt) (s t : Rat) : Ln := lineR ((wayR p q).1 + (wayR p q).1) ((wayR p q).2 + (wayR p q).2) (dotR q q - dotR p p - (t - s))
theorem on_axis {p q r : Pt} {s t : Rat} (h : p ≠ q) (ho : overR (axR p q s t) r = 0) : sqR r p - s = sqR r q - t := by
  have h2 : (wayR p q).1 + (wayR p q).1 ≠ 0 ∨ (wayR p q).2 + (wayR p q).2 ≠ 0 := by
    rcases way_ne h with z | z
    · exact .inl (by grind)
    · exact .inr (by grind)
  obtain ⟨k, k0, e, _⟩ := lineR_ex (c := dotR q q - dotR p p - (t - s)) h2
  unfold axR at ho
  rw [e] at ho
  unfold overR at ho
  simp only at ho
  have e1 : ((wayR p q).1 + (wayR p q).1) * r.1 + ((wayR p q).2 + (wayR p q).2) * r.2 - (dotR q q - dotR p p - (t - s)) = 0 := by
    generalize (wayR p q).1 + (wayR p q).1 = a at *
    generalize (wayR p q).2 + (wayR p q).2 = b at *
    generalize dotR q q - dotR p p - (t - s) = c at *
    clear e
    grind
  unfold sqR dotR at *
  unfold wayR at *
  simp only at *
  clear ho e h2
  grind
end Alg
end G76
set_option Elab.async false
set_option linter.all false
set_option maxRecDepth 100000
set_option maxHeartbeats 4000000
set_option autoImplicit false
namespace G76
open PySem PySem.Spec PyProof.Rows L2 Sm Alg
structure KCr (a b : Pt) : Prop where
  h1 : K a.1
  h2 : K a.2
  h3 : K b.1
  h4 : K b.2
  h5 : K (a.1 * b.2)
  h6 : K (a.2 * b.1)
  h7 : K (crossR a b)
theorem cross_ev {a b : Pt} {st : Store} (k : KCr a b) : m_cross [pD a, pD b] st = .ok (eD (crossR a b)) st := by
  rw [u_cross]
  unfold b_cross
  simp [times_ev k.h1 k.h4 k.h5, times_ev k.h2 k.h3 k.h6, minus_ev k.h5 k.h6 k.h7]
  rfl
theorem mid_ev {p q : Pt} {st : Store} (g : KGo p (wayR p q) (1 / 2)) (q1 : K q.1) (q2 : K q.2) : m_middle_of [pD p, pD q] st = .ok (pD (midR p q)) st := by
  rw [u_middle_of]
  unfold b_middle_of
  simp [agree_pp, way_ev g.h1 g.h2 q1 q2 g.h3 g.h4, init_h, ie_h]
  rw [go_ev g]
  rfl
structure KUp (p q : Pt) : Prop where
  g : KGo p (wayR p q) (1 / 2)
  q1 : K q.1
  q2 : K q.2
  d : KDo (midR p q) (wayR p q)
  s : KSc (wayR p q).1 (wayR p q).2 (dotR (midR p q) (wayR p q))
theorem up_ev {p q : Pt} {st : Store} (h : p ≠ q) (k : KUp p q) : m_upright_middle [pD p, pD q] st = .ok (elD (upR p q)) st := by
  rw [u_upright_middle]
  unfold b_upright_middle
  simp [mid_ev k.g k.q1 k.q2, way_ev k.g.h1 k.g.h2 k.q1 k.q2 k.g.h3 k.g.h4, line_by_ev (way_ne h) k.d k.s]
  rfl
structure KMe (l m : Ln) : Prop where
  c : KCr (abR l) (abR m)
  lc : K l.c
  mc : K m.c
  x1 : K (l.c * m.b)
  x2 : K (m.c * l.b)
  x : K (l.c * m.b - m.c * l.b)
  y1 : K (l.a * m.c)
  y2 : K (m.a * l.c)
  y : K (l.a * m.c - m.a * l.c)
  bx : KBy (l.c * m.b - m.c * l.b) (crossR (abR l) (abR m))
  bY : KBy (l.a * m.c - m.a * l.c) (crossR (abR l) (abR m))
theorem meet_ev {l m : Ln} {st : Store} (h : crossR (abR l) (abR m) ≠ 0) (k : KMe l m) : m_lines_meet [elD l, elD m] st = .ok (pD (meetR l m)) st := by
  have hs : ¬ sgR (crossR (abR l) (abR m)) = 0 := fun z => h (sgR_zero.mp z)
  have c := cross_ev (st := st) k.c
  have la : K l.a := k.c.h1
  have lb : K l.b := k.c.h2
  have ma : K m.a := k.c.h3
  have mb : K m.b := k.c.h4
  rw [u_lines_meet]
  unfold b_lines_meet
  simp [agree_nn, c, sgn_ev, hs, times_ev k.lc mb k.x1, times_ev k.mc lb k.x2, minus_ev k.x1 k.x2 k.x, times_ev la k.mc k.y1, times_ev ma k.lc k.y2, minus_ev k.y1 k.y2 k.y, by_k h k.bx, by_k h k.bY]
  rfl
theorem powx_ev {p : Pt} {c : Ci} {st : Store} (k : KSq c.m p) (k1 : K c.s) (k2 : K (sqR c.m p - c.s)) : m_power_of [pD p, ecD c] st = .ok (eD (sqR c.m p - c.s)) st := by
  rw [u_power_of]
  unfold b_power_of
  simp [sq_ev k, minus_ev k.h9 k1 k2]
section
variable {p q r : Pt}
theorem k_up (hp : BP 104 3 p) (hq : BP 104 3 q) : KUp p q := by
  haveI := hp
  haveI := hq
  have hm : BP 116 12 (midR p q) := by
    unfold midR
    haveI : BQ 1 2 (1 / 2 : Rat) := ⟨by decide +kernel, by decide +kernel⟩
    exact bp_up (n := _) (d := _) (p := goneR p (wayR p q) (1 / 2)) inferInstance (by decide) (by decide)
  haveI := hm
  haveI : BQ 1 2 (1 / 2 : Rat) := ⟨by decide +kernel, by decide +kernel⟩
  exact ⟨by constructor <;> exact K_of (by decide) (by decide), K_of (by decide) (by decide), K_of (by decide) (by decide), by constructor <;> exact K_of (by decide) (by decide), by constructor <;> exact K_of (by decide) (by decide)⟩
theorem up_B (hp : BP 104 3 p) (hq : BP 104 3 q) : BP 116 116 (abR (upR p q)) ∧ BQ 260 150 (upR p q).c := by
  haveI := hp
  haveI := hq
  have hw : BP 109 6 (wayR p q) := bp_up (n := _) (d := _) (p := wayR p q) inferInstance (by decide) (by decide)
  have hm : BP 116 12 (midR p q) := by
    unfold midR
    haveI : BQ 1 2 (1 / 2 : Rat) := ⟨by decide +kernel, by decide +kernel⟩
    exact bp_up (n := _) (d := _) (p := goneR p (wayR p q) (1 / 2)) inferInstance (by decide) (by decide)
  haveI := hm
  haveI := hw
  have hd : BQ 252 40 (dotR (midR p q) (wayR p q)) := bq_up (BQ.bq (x := dotR (midR p q) (wayR p q)) inferInstance) (by decide) (by decide)
  have w1 := hw.x.bq
  have w2 := hw.y.bq
  have d1 := hd.bq
  unfold upR lineByR lineR
  split
  · exact ⟨⟨bq_up (w1.div' w1) (by decide) (by decide), bq_up (w2.div' w1) (by decide) (by decide)⟩, bq_up (d1.div' w1) (by decide) (by decide)⟩
  · exact ⟨⟨bq_up (w1.div' w2) (by decide) (by decide), bq_up (w2.div' w2) (by decide) (by decide)⟩, bq_up (d1.div' w2) (by decide) (by decide)⟩
theorem k_me (hp : BP 104 3 p) (hq : BP 104 3 q) (hr : BP 104 3 r) : KMe (upR p q) (upR p r) := by
  obtain ⟨a1, a2⟩ := up_B hp hq
  obtain ⟨b1, b2⟩ := up_B hp hr
  generalize upR p q = l at *
  generalize upR p r = m at *
  haveI := a1
  haveI := a2
  haveI := b1
  haveI := b2
  haveI : BQ 116 116 l.a := a1.x
  haveI : BQ 116 116 l.b := a1.y
  haveI : BQ 116 116 m.a := b1.x
  haveI : BQ 116 116 m.b := b1.y
  exact ⟨by constructor <;> exact K_of (by decide) (by decide), K_of (by decide) (by decide), K_of (by decide) (by decide), K_of (by decide) (by decide), K_of (by decide) (by decide), K_of (by decide) (by decide), K_of (by decide) (by decide), K_of (by decide) (by decide), K_of (by decide) (by decide), by constructor <;> exact K_of (by decide) (by decide), by constructor <;> exact K_of (by decide) (by decide)⟩
theorem sqp_B (hp : BP 104 3 p) (hq : BP 104 3 q) : BQ 230 24 (sqR p q) := by
  haveI := hp
  haveI := hq
  unfold sqR
  exact bq_up (BQ.bq (x := dotR (wayR p q) (wayR p q)) inferInstance) (by decide) (by decide)
theorem turns_B (hp : BP 104 3 p) (hq : BP 104 3 q) (hr : BP 104 3 r) : BQ 230 24 (turnsR p q r) := by
  haveI := hp
  haveI := hq
  haveI := hr
  unfold turnsR
  exact bq_up (BQ.bq (x := crossR (wayR p q) (wayR p r)) inferInstance) (by decide) (by decide)
theorem by3_B (hp : BP 104 3 p) (hq : BP 104 3 q) (hr : BP 104 3 r) : BP 404 304 (by3R p q r) := by
  haveI := hp
  haveI := hq
  haveI := hr
  haveI := sqp_B hp hq
  haveI := sqp_B hp hr
  haveI := turns_B hp hq hr
  unfold by3R
  exact ⟨bq_up (BQ.bq (x := p.1 + (sqR p q * (wayR p r).2 - sqR p r * (wayR p q).2) / (2 * turnsR p q r)) inferInstance) (by decide) (by decide), bq_up (BQ.bq (x := p.2 + ((wayR p q).1 * sqR p r - (wayR p r).1 * sqR p q) / (2 * turnsR p q r)) inferInstance) (by decide) (by decide)⟩
def c3R (p q r : Pt) : Ci := ⟨by3R p q r, sqR (by3R p q r) p⟩
theorem c3s_B (hp : BP 104 3 p) (hq : BP 104 3 q) (hr : BP 104 3 r) : BQ 1700 1300 (sqR (by3R p q r) p) := by
  haveI := hp
  haveI := by3_B hp hq hr
  unfold sqR
  exact bq_up (BQ.bq (x := dotR (wayR (by3R p q r) p) (wayR (by3R p q r) p)) inferInstance) (by decide) (by decide)
theorem k_sq3 {s : Pt} (hs : BP 104 3 s) (hp : BP 104 3 p) (hq : BP 104 3 q) (hr : BP 104 3 r) : KSq (by3R p q r) s := by
  haveI := hs
  haveI := by3_B hp hq hr
  haveI : BQ 1700 1300 (sqR (by3R p q r) s) := by
    unfold sqR
    exact bq_up (BQ.bq (x := dotR (wayR (by3R p q r) s) (wayR (by3R p q r) s)) inferInstance) (by decide) (by decide)
  constructor <;> exact K_of (by decide) (by decide)
theorem k_way {n d : Nat} (hp : BP 104 3 p) (hq : BP n d q) (hn : n ≤ 300) (hd : d ≤ 200) : K p.1 ∧ K p.2 ∧ K q.1 ∧ K q.2 ∧ K (wayR p q).1 ∧ K (wayR p q).2 := by
  haveI := hp
  haveI : BP 300 200 q := bp_up hq hn hd
  exact ⟨K_of (by decide) (by decide), K_of (by decide) (by decide), K_of (by decide) (by decide), K_of (by decide) (by decide), K_of (by decide) (by decide), K_of (by decide) (by decide)⟩
theorem k_turns {n d : Nat} (hp : BP 104 3 p) (hq : BP 104 3 q) (hr : BP n d r) (hn : n ≤ 300) (hd : d ≤ 200) : KCr (wayR p q) (wayR p r) := by
  haveI := hp
  haveI := hq
  haveI : BP 300 200 r := bp_up hr hn hd
  constructor <;> exact K_of (by decide) (by decide)
/-- three in a row -/
theorem circ_no {n d : Nat} {st : Store} (hp : BP 104 3 p) (hq : BP 104 3 q) (hr : BP n d r) (hn : n ≤ 300) (hd : d ≤ 200) (h : turnsR p q r = 0) : m_circle_by [pD p, pD q, pD r] st = .exc 5 st := by
  obtain ⟨a1, a2, a3, a4, a5, a6⟩ := k_way hp hq (by decide) (by decide)
  obtain ⟨b1, b2, b3, b4, b5, b6⟩ := k_way hp hr hn hd
  have c := cross_ev (st := st) (k_turns hp hq hr hn hd)
  have hs : sgR (crossR (wayR p q) (wayR p r)) = 0 := sgR_zero.mpr h
  rw [u_circle_by]
  unfold b_circle_by
  simp [way_ev a1 a2 a3 a4 a5 a6, way_ev b1 b2 b3 b4 b5 b6, c, sgn_ev, hs]
theorem circ_ev {st : Store} (hp : BP 104 3 p) (hq : BP 104 3 q) (hr : BP 104 3 r) (h : turnsR p q r ≠ 0) : m_circle_by [pD p, pD q, pD r] st = .ok (ecD (c3R p q r)) st := by
  obtain ⟨a1, a2, a3, a4, a5, a6⟩ := k_way hp hq (by decide) (by decide)
  obtain ⟨b1, b2, b3, b4, b5, b6⟩ := k_way hp hr (by decide) (by decide)
  have c := cross_ev (st := st) (k_turns hp hq hr (by decide) (by decide))
  have hs : ¬ sgR (crossR (wayR p q) (wayR p r)) = 0 := fun z => h (sgR_zero.mp z)
  have m := meet_ev (st := st) (up_cross h) (k_me hp hq hr)
  rw [meet_is h] at m
  rw [u_circle_by]
  unfold b_circle_by
  simp [way_ev a1 a2 a3 a4 a5 a6, way_ev b1 b2 b3 b4 b5 b6, c, sgn_ev, hs, up_ev (turns_ne1 h) (k_up hp hq), up_ev (turns_ne2 h) (k_up hp hr), m, sq_ev (k_sq3 hp hp hq hr)]
  rfl
end
end G76
set_option Elab.async false
set_option linter.all false
set_option maxRecDepth 100000
set_option maxHeartbeats 4000000
set_option autoImplicit false
namespace G76
noncomputable section
open PySem PySem.Spec PyProof.Rows L2 Sm Alg
theorem _root_.Sm.Kp.k {x : Rat} (h : Kp x) : K x := ⟨h.bq.mono (by decide) (by decide)⟩
section
variable {p q r : Pt}
theorem sqwB_ev {st : Store} {n d k e : Nat} (hp : BP n d p) (hq : BP k e q) (h1 : n ≤ 560) (h2 : d ≤ 450) (h3 : k ≤ 560) (h4 : e ≤ 450) : m_lsquare_way [lD p, lD q] st = .ok (qD (sqR p q)) st := by
  haveI : BP 560 450 p := bp_up hp h1 h2
  haveI : BP 560 450 q := bp_up hq h3 h4
  exact sqw_ev (K_of (by decide) (by decide)) (K_of (by decide) (by decide)) (K_of (by decide) (by decide)) (K_of (by decide) (by decide)) (K_of (by decide) (by decide)) (K_of (by decide) (by decide)) (K_of (by decide) (by decide)) (K_of (by decide) (by decide))
theorem turns_ev {st : Store} {n d : Nat} (hp : BP 104 3 p) (hq : BP 104 3 q) (hr : BP n d r) (hn : n ≤ 300) (hd : d ≤ 200) : m_lturns [lD p, lD q, lD r] st = .ok (qD (turnsR p q r)) st := by
  obtain ⟨a1, a2, a3, a4, a5, a6⟩ := k_way hp hq (by decide) (by decide)
  obtain ⟨b1, b2, b3, b4, b5, b6⟩ := k_way hp hr hn hd
  have k := k_turns hp hq hr hn hd
  have m1 : m_lminus [qD q.1, qD p.1] st = .ok (qD (wayR p q).1) st := lminus_ev a3 a1
  have m2 : m_lminus [qD q.2, qD p.2] st = .ok (qD (wayR p q).2) st := lminus_ev a4 a2
  have m3 : m_lminus [qD r.1, qD p.1] st = .ok (qD (wayR p r).1) st := lminus_ev b3 b1
  have m4 : m_lminus [qD r.2, qD p.2] st = .ok (qD (wayR p r).2) st := lminus_ev b4 b2
  rw [u_lturns]
  unfold b_lturns
  simp [m1, m2, m3, m4, ltimes_ev a5 b6, ltimes_ev a6 b5, lminus_ev k.h5 k.h6]
  rfl
theorem q_2 : D.tup [.int 2, .int 1] = qD 2 := rfl
theorem q_0 : D.tup [.int 0, .int 1] = qD 0 := rfl
theorem by3_ev {st : Store} (hp : BP 104 3 p) (hq : BP 104 3 q) (hr : BP 104 3 r) (h : turnsR p q r ≠ 0) : m_lby_three [lD p, lD q, lD r] st = .ok (lcD (c3R p q r)) st := by
  obtain ⟨a1, a2, a3, a4, a5, a6⟩ := k_way hp hq (by decide) (by decide)
  obtain ⟨b1, b2, b3, b4, b5, b6⟩ := k_way hp hr (by decide) (by decide)
  have k := k_turns hp hq hr (by decide) (by decide)
  have m1 : m_lminus [qD q.1, qD p.1] st = .ok (qD (wayR p q).1) st := lminus_ev a3 a1
  have m2 : m_lminus [qD q.2, qD p.2] st = .ok (qD (wayR p q).2) st := lminus_ev a4 a2
  have m3 : m_lminus [qD r.1, qD p.1] st = .ok (qD (wayR p r).1) st := lminus_ev b3 b1
  have m4 : m_lminus [qD r.2, qD p.2] st = .ok (qD (wayR p r).2) st := lminus_ev b4 b2
  have mt : m_lminus [qD ((wayR p q).1 * (wayR p r).2), qD ((wayR p q).2 * (wayR p r).1)] st = .ok (qD (turnsR p q r)) st := lminus_ev k.h5 k.h6
  haveI := hp
  haveI := hq
  haveI := hr
  haveI := sqp_B hp hq
  haveI := sqp_B hp hr
  haveI := turns_B hp hq hr
  have b2' : m_ltimes [qD 2, qD (turnsR p q r)] st = .ok (qD (2 * turnsR p q r)) st := ltimes_ev (K_of (by decide) (by decide)) (K_of (by decide) (by decide))
  have s1 := sqwB_ev (st := st) hp hq (by decide) (by decide) (by decide) (by decide)
  have s2 := sqwB_ev (st := st) hp hr (by decide) (by decide) (by decide) (by decide)
  have t1 := ltimes_ev (st := st) (x := sqR p q) (y := (wayR p r).2) (K_of (by decide) (by decide)) b6
  have t2 := ltimes_ev (st := st) (x := sqR p r) (y := (wayR p q).2) (K_of (by decide) (by decide)) a6
  have t3 := ltimes_ev (st := st) (x := (wayR p q).1) (y := sqR p r) a5 (K_of (by decide) (by decide))
  have t4 := ltimes_ev (st := st) (x := (wayR p r).1) (y := sqR p q) b5 (K_of (by decide) (by decide))
  have d1 := lminus_ev (st := st) (x := sqR p q * (wayR p r).2) (y := sqR p r * (wayR p q).2) (K_of (by decide) (by decide)) (K_of (by decide) (by decide))
  have d2 := lminus_ev (st := st) (x := (wayR p q).1 * sqR p r) (y := (wayR p r).1 * sqR p q) (K_of (by decide) (by decide)) (K_of (by decide) (by decide))
  have h2 : 2 * turnsR p q r ≠ 0 := by grind
  have y1 := lby_ev (st := st) (x := sqR p q * (wayR p r).2 - sqR p r * (wayR p q).2) (y := 2 * turnsR p q r) h2 (K_of (by decide) (by decide)) (K_of (by decide) (by decide))
  have y2 := lby_ev (st := st) (x := (wayR p q).1 * sqR p r - (wayR p r).1 * sqR p q) (y := 2 * turnsR p q r) h2 (K_of (by decide) (by decide)) (K_of (by decide) (by decide))
  have z1 : m_lplus [qD p.1, qD ((sqR p q * (wayR p r).2 - sqR p r * (wayR p q).2) / (2 * turnsR p q r))] st = .ok (qD (by3R p q r).1) st := lplus_ev a1 (K_of (by decide) (by decide))
  have z2 : m_lplus [qD p.2, qD (((wayR p q).1 * sqR p r - (wayR p r).1 * sqR p q) / (2 * turnsR p q r))] st = .ok (qD (by3R p q r).2) st := lplus_ev a2 (K_of (by decide) (by decide))
  have s3 := sqwB_ev (st := st) (by3_B hp hq hr) hp (by decide) (by decide) (by decide) (by decide)
  rw [u_lby_three]
  unfold b_lby_three
  simp -implicitDefEqProofs only [seqS_ap]
  simp -implicitDefEqProofs [s1, s2, m1, m2, m3, m4, ltimes_ev a5 b6, ltimes_ev a6 b5, mt, q_2, b2', t1, t2, t3, t4, d1, d2, y1, y2, z1, z2]
  simp -implicitDefEqProofs [t_l, s3]
  rfl
theorem lpow_ev {c : Ci} {st : Store} {n d : Nat} (hp : BP n d p) (hc : NC c) (hn : n ≤ 560) (hd : d ≤ 450) : m_lpower [lD p, lcD c] st = .ok (qD (sqR p c.m - c.s)) st := by
  have s1 := sqwB_ev (st := st) hp hc.m hn hd (by decide) (by decide)
  haveI : BP 560 450 p := bp_up hp hn hd
  haveI := hc.m
  haveI := hc.s
  haveI : BQ 2200 1900 (sqR p c.m) := by
    unfold sqR
    exact bq_up (BQ.bq (x := dotR (wayR p c.m) (wayR p c.m)) inferInstance) (by decide) (by decide)
  have m1 := lminus_ev (st := st) (x := sqR p c.m) (y := c.s) (K_of (by decide) (by decide)) (K_of (by decide) (by decide))
  rw [u_lpower]
  unfold b_lpower
  simp [s1, m1]
end
def hrd (r : Res D) (st : Store) : Res D := fin (b_lheard (fun _ => r) [.lam, .un] st)
theorem lamM_hrd {t : EM D} {ρ : Env1} {st : Store} : lamM 2 b_lheard t ρ st = hrd (t ρ st) st := rfl
theorem told_c8 {c : Ci} {st : Store} : m_ltold 8 [ecD c] st = .ok (cF c) st := told_c (n := 5)
theorem told_n8 {l : Ln} {st : Store} : m_ltold 8 [elD l] st = .ok (nF l) st := told_n (n := 6)
theorem hrd_c {c : Ci} {st : Store} : hrd (.ok (ecD c) st) st = .ok (.tup [.str "told", cF c]) st := by
  have e : lamAct (fun _ => .ok (ecD c) st) [.lam, .un] st = .ok (ecD c) st := rfl
  unfold hrd b_lheard tryMS
  simp [e, told_c8]
theorem hrd_n {l : Ln} {st : Store} : hrd (.ok (elD l) st) st = .ok (.tup [.str "told", nF l]) st := by
  have e : lamAct (fun _ => .ok (elD l) st) [.lam, .un] st = .ok (elD l) st := rfl
  unfold hrd b_lheard tryMS
  simp [e, told_n8]
theorem hrd_no {st : Store} : hrd (.exc 5 st) st = .ok (.tup [.str "circle", .bl true]) st := by
  have e : lamAct (fun _ => .exc 5 st) [.lam, .un] st = .exc 5 st := rfl
  unfold hrd b_lheard tryMS
  simp [e, pickC, hx2]
theorem hrd_nl {st : Store} : hrd (.exc 3 st) st = .ok (.tup [.str "line", .bl true]) st := by
  have e : lamAct (fun _ => .exc 3 st) [.lam, .un] st = .exc 3 st := rfl
  unfold hrd b_lheard tryMS
  simp [e, pickC, hx2, hx1]
theorem same2 {x : D} {n k : Nat} {st : Store} (s : Shw n k x) (hn : n ≤ 1000000) (hk : k ≤ 50) : m_lsame [.lst [x, x], .lst [x, x]] st = .ok (.bl true) st := lsame_t rfl (.inl ⟨_, rfl⟩) (shw_l2 s s) (by omega) (by omega)
theorem same2_told {x : D} {n k : Nat} {st : Store} (s : Shw n k x) (hn : n ≤ 100000) (hk : k ≤ 40) : m_lsame [.lst [.tup [.str "told", x], .tup [.str "told", x]], .lst [.tup [.str "told", x], .tup [.str "told", x]]] st = .ok (.bl true) st := same2 (shw_w2 (x := "told") (by decide +kernel) s) (by omega) (by omega)
theorem same2_circle {st : Store} : m_lsame [.lst [.tup [.str "circle", .bl true], .tup [.str "circle", .bl true]], .lst [.tup [.str "circle", .bl true], .tup [.str "circle", .bl true]]] st = .ok (.bl true) st := same2 (shw_w2 (x := "circle") (by decide +kernel) (shw_bl (k := 0))) (by omega) (by omega)
theorem same2_line {st : Store} : m_lsame [.lst [.tup [.str "line", .bl true], .tup [.str "line", .bl true]], .lst [.tup [.str "line", .bl true], .tup [.str "line", .bl true]]] st = .ok (.bl true) st := same2 (shw_w2 (x := "line") (by decide +kernel) (shw_bl (k := 0))) (by omega) (by omega)
theorem eq_nil {st : Store} : eqD (.lst []) (.lst []) st = some (.bl true) := rfl
end
end G76
set_option Elab.async false
set_option linter.all false
set_option maxRecDepth 100000
set_option maxHeartbeats 4000000
set_option autoImplicit false
namespace G76
noncomputable section
open PySem PySem.Spec PyProof.Rows L2 Sm Alg
def byB : SM :=
 (seqS (setS 5 (op2 eqD (callM m_lsign 1 1 (fun ds _ => ds) (consM (callM m_lturns 3 3 (fun ds _ => ds) (consM (varM 1) (consM (varM 2) (consM (varM 3) nilM)))) nilM)) (cM (.int 0))))
 (seqS (setS 6 (ifM (tst (varM 5)) (tupM (consM (cM (.str "circle")) (consM (cM (.bl true)) nilM))) (tupM (consM (cM (.str "told")) (consM (callM (m_ldue 8) 1 1 (fun ds _ => ds) (consM (callM (m_llisted 8) 1 1 (fun ds _ => ds) (consM (callM m_lby_three 3 3 (fun ds _ => ds) (consM (varM 1) (consM (varM 2) (consM (varM 3) nilM)))) nilM)) nilM)) nilM)))))
 (seqS (asgS (tupM (consM (callM m_lspot 1 1 (fun ds _ => ds) (consM (varM 1) nilM)) (consM (callM m_lspot 1 1 (fun ds _ => ds) (consM (varM 2) nilM)) (consM (callM m_lspot 1 1 (fun ds _ => ds) (consM (varM 3) nilM)) nilM)))) (tupG 3 (consG (setG 7) (consG (setG 8) (consG (setG 9) nilG)))))
 (seqS (setF 10 (lstM (consM (lamM 2 b_lheard (callM m_circle_by 3 3 (fun ds _ => ds) (consM (varM 7) (consM (varM 8) (consM (varM 9) nilM))))) nilM)))
 (seqS (mutS 10 appF (consM (lamM 2 b_lheard (callKM m_circle_by 0 3 (fun ds es => pick [1, 2, 0] (ds ++ es)) nilM (consM (varM 8) (consM (varM 9) (consM (varM 7) nilM))))) nilM))
 (seqS (fzS 10)
 (seqS (ifS (notM (tst (callM m_lsame 2 2 (fun ds _ => ds) (consM (varM 10) (consM (frzM (lstM (consM (varM 6) (consM (varM 6) nilM)))) nilM)))))
 (retS (cM (.bl false)))
 nilS)
 (seqS (ifS (tst (varM 5))
 (retS (cM (.bl true)))
 nilS)
 (seqS (setS 11 (callM m_circle_by 3 3 (fun ds _ => ds) (consM (varM 7) (consM (varM 8) (consM (varM 9) nilM)))))
 (retS (op2 eqD (frzM (compM [12] (seqW (tupM (consM (varM 7) (consM (varM 8) (consM (varM 9) nilM))))) (setG 12) (notM (tst (callM m_lsame 2 2 (fun ds _ => ds) (consM (callM (m_ltold 8) 1 1 (fun ds _ => ds) (consM (callM m_power_of 2 2 (fun ds _ => ds) (consM (varM 12) (consM (varM 11) nilM))) nilM)) (consM (tupM (consM (cM (.int 0)) (consM (cM (.int 1)) (consM (cM (.int 0)) (consM (cM (.int 0)) (consM (cM (.int 1)) nilM)))))) nilM))))) (cM (.int 1)))) (frzM (lstM nilM)))))))))))))
def byA : SM :=
 (seqS (par3S 1 2 3 (consM (callM m_lpoint 1 1 (fun ds _ => ds) (consM (varM 0) nilM)) (consM (callM m_lpoint 1 1 (fun ds _ => ds) (consM (varM 0) nilM)) (consM (callM m_lpoint 1 1 (fun ds _ => ds) (consM (varM 0) nilM)) nilM))))
 (seqS (setS 4 (callM m_ldraw 2 2 (fun ds _ => ds) (consM (varM 0) (consM (cM (.int 5)) nilM))))
 (seqS (ifS (andM (tst (op2 eqD (varB 4) (cM (.int 0)))) (tst (op2 neD (varB 1) (varB 2))))
 (setS 3 (callM m_lon 2 2 (fun ds _ => ds) (consM (varM 0) (consM (callM m_lthrough 2 2 (fun ds _ => ds) (consM (varM 1) (consM (varM 2) nilM))) nilM))))
 nilS)
 (seqS (setS 3 (ifM (tst (op2 eqD (varB 4) (cM (.int 1)))) (callM m_lpick 2 2 (fun ds _ => ds) (consM (varM 0) (consM (frzM (lstM (consM (varM 1) (consM (varM 2) nilM)))) nilM))) (varM 3)))
 byB))))
theorem by_is : b_lis_by_three = byA := rfl
structure G3 (p q r : Pt) : Prop where
  bp : BP 104 3 p
  bq : BP 104 3 q
  br : BP 104 3 r ∨ (turnsR p q r = 0 ∧ BP 236 130 r)
theorem on_turns {p q r : Pt} (h : p ≠ q) (o : overR (thrR p q) r = 0) : turnsR p q r = 0 := by
  have h2 : q.2 - p.2 ≠ 0 ∨ p.1 - q.1 ≠ 0 := un_pt h
  obtain ⟨k, k0, e, _⟩ := lineR_ex (c := (q.2 - p.2) * p.1 + (p.1 - q.1) * p.2) h2
  have e' : thrR p q = ⟨(q.2 - p.2) / k, (p.1 - q.1) / k, ((q.2 - p.2) * p.1 + (p.1 - q.1) * p.2) / k⟩ := e
  rw [e'] at o
  unfold overR at o
  simp only at o
  unfold turnsR crossR wayR
  simp only
  clear e e' h2
  grind
theorem byA_ev {k : Nat} {st : Store} (hk : k + 100 < 2 ^ 40) (dk : Dk k st) : ∃ p q r v st', G3 p q r ∧ Dk (k + 30) st' ∧
    byA [.val (.ref 1), .un, .un, .un, .un, .un, .un, .un, .un, .un, .un, .un, .un] st = byB [.val (.ref 1), .val (lD p), .val (lD q), .val (lD r), v, .un, .un, .un, .un, .un, .un, .un, .un] st' := by
  obtain ⟨p, st1, e1, bp, d1⟩ := point_ev (by omega) dk
  obtain ⟨q, st2, e2, bq, d2⟩ := point_ev (by omega) d1
  obtain ⟨r, st3, e3, br, d3⟩ := point_ev (by omega) d2
  obtain ⟨v, st4, e4, v0, v1, d4⟩ := draw_ev (below := 5) (st := st3) (by decide) (by decide) (by omega) d3
  have bp' : BP 108 3 p := bp_up bp (by decide) (by decide)
  have bq' : BP 108 3 q := bp_up bq (by decide) (by decide)
  by_cases h0 : v = 0
  · subst h0
    by_cases h : p = q
    · refine ⟨p, q, r, .val (.int 0), st4, ⟨bp, bq, .inl br⟩, d4.mono (by omega), ?_⟩
      have ne : neD (lD p) (lD q) st4 = some (.bl false) := by rw [ne_l, decide_eq_true h]; rfl
      unfold byA
      simp -implicitDefEqProofs only [seqS_ap]
      simp -implicitDefEqProofs [e1, e2, e3, e4, ne]
    · have th := through_ev (st := st4) bp' bq' h
      obtain ⟨r', st5, e5, br', o, d5⟩ := on_ev bp' bq' h (by omega) d4
      refine ⟨p, q, r', .val (.int 0), st5, ⟨bp, bq, .inr ⟨on_turns h o, br'⟩⟩, d5.mono (by omega), ?_⟩
      have ne : neD (lD p) (lD q) st4 = some (.bl true) := by rw [ne_l, decide_eq_false h]; rfl
      unfold byA
      simp -implicitDefEqProofs only [seqS_ap]
      simp -implicitDefEqProofs [e1, e2, e3, e4, ne, th, e5]
  · by_cases h1 : v = 1
    · subst h1
      obtain ⟨x, st5, e5, m5, d5⟩ := pick_ev (ds := [lD p, lD q]) (st := st4) (by simp) (by simp) (by omega) d4
      obtain ⟨r', rfl, br'⟩ : ∃ r', x = lD r' ∧ BP 104 3 r' := by
        rcases List.mem_cons.mp m5 with z | z
        · exact ⟨p, z, bp⟩
        · exact ⟨q, List.mem_singleton.mp z, bq⟩
      refine ⟨p, q, r', .val (.int 1), st5, ⟨bp, bq, .inl br'⟩, d5.mono (by omega), ?_⟩
      unfold byA
      simp -implicitDefEqProofs only [seqS_ap]
      simp -implicitDefEqProofs [e1, e2, e3, e4, e5]
    · refine ⟨p, q, r, .val (.int v), st4, ⟨bp, bq, .inl br⟩, d4.mono (by omega), ?_⟩
      unfold byA
      simp -implicitDefEqProofs only [seqS_ap]
      simp -implicitDefEqProofs [e1, e2, e3, e4, h0, h1]
theorem spotK {p : Pt} {n d : Nat} {st : Store} (hp : BP n d p) (hn : n ≤ 4000) (hd : d ≤ 4000) : m_lspot [lD p] st = .ok (pD p) st := by
  haveI : BP 4000 4000 p := bp_up hp hn hd
  exact spot_ev (K_of (by decide) (by decide)) (K_of (by decide) (by decide))
theorem turns_flip {p q r : Pt} : turnsR r p q = turnsR p q r := by
  unfold turnsR crossR wayR
  simp only
  grind
theorem by3_flip {p q r : Pt} (h : turnsR p q r ≠ 0) : c3R r p q = c3R p q r := by
  have h' : turnsR r p q ≠ 0 := by rw [turns_flip]; exact h
  have s1 := same_far h
  have s2 := same_far h'
  have e : by3R r p q = by3R p q r := by
    obtain ⟨T, hT⟩ : ∃ z : Rat, turnsR p q r * z = 1 := ⟨1 / turnsR p q r, by grind⟩
    have d2 : ∀ x : Rat, x / (2 * turnsR p q r) = x * (T * (1 / 2)) := fun x => by
      have e : (2 * turnsR p q r) * (T * (1 / 2)) = 1 := by grind
      have z : 2 * turnsR p q r ≠ 0 := fun z => by grind
      generalize 2 * turnsR p q r = y at *
      grind
    unfold by3R
    rw [turns_flip]
    simp only [d2]
    clear d2 h h' s1 s2
    unfold turnsR crossR at hT
    unfold sqR dotR
    unfold wayR at *
    simp only at *
    generalize p.1 = x at *
    generalize p.2 = y at *
    obtain ⟨a, ha⟩ : ∃ a, q.1 = x + a := ⟨q.1 - x, by grind⟩
    obtain ⟨b, hb⟩ : ∃ a, q.2 = y + a := ⟨q.2 - y, by grind⟩
    obtain ⟨c, hc⟩ : ∃ a, r.1 = x + a := ⟨r.1 - x, by grind⟩
    obtain ⟨d, hd⟩ : ∃ a, r.2 = y + a := ⟨r.2 - y, by grind⟩
    rw [ha, hb, hc, hd] at hT
    rw [ha, hb, hc, hd]
    have xa : x + a - x = a := by grind
    have yb : y + b - y = b := by grind
    have xc : x + c - x = c := by grind
    have yd : y + d - y = d := by grind
    have xa' : x - (x + c) = -c := by grind
    have yb' : y - (y + d) = -d := by grind
    have xc' : x + a - (x + c) = a - c := by grind
    have yd' : y + b - (y + d) = b - d := by grind
    rw [xa, yb, xc, yd] at hT
    rw [xa, yb, xc, yd, xa', yb', xc', yd']
    clear ha hb hc hd xa yb xc yd xa' yb' xc' yd'
    refine Prod.ext ?_ ?_
    · show x + c + ((-c * -c + -d * -d) * (b - d) - ((a - c) * (a - c) + (b - d) * (b - d)) * -d) * (T * (1 / 2)) = x + ((a * a + b * b) * d - (c * c + d * d) * b) * (T * (1 / 2))
      have w : ((-c * -c + -d * -d) * (b - d) - ((a - c) * (a - c) + (b - d) * (b - d)) * -d) * (T * (1 / 2)) = ((a * a + b * b) * d - (c * c + d * d) * b) * (T * (1 / 2)) - c * ((a * d - b * c) * T) := by
        clear hT
        grind
      rw [w, hT]
      clear w hT
      grind
    · show y + d + (-c * ((a - c) * (a - c) + (b - d) * (b - d)) - (a - c) * (-c * -c + -d * -d)) * (T * (1 / 2)) = y + (a * (c * c + d * d) - c * (a * a + b * b)) * (T * (1 / 2))
      have w : (-c * ((a - c) * (a - c) + (b - d) * (b - d)) - (a - c) * (-c * -c + -d * -d)) * (T * (1 / 2)) = (a * (c * c + d * d) - c * (a * a + b * b)) * (T * (1 / 2)) - d * ((a * d - b * c) * T) := by
        clear hT
        grind
      rw [w, hT]
      clear w hT
      grind
  unfold c3R
  rw [e]
  congr 1
  exact s1.2
theorem sg0x : sgR 0 = 0 := sgR_zero.mpr rfl
/-- in a row, of any size -/
theorem circ_row {p q r : Pt} {st : Store} (hp : BP 300 200 p) (hq : BP 300 200 q) (hr : BP 300 200 r) (h : turnsR p q r = 0) : m_circle_by [pD p, pD q, pD r] st = .exc 5 st := by
  haveI := hp
  haveI := hq
  haveI := hr
  have k : KCr (wayR p q) (wayR p r) := by constructor <;> exact K_of (by decide) (by decide)
  have c := cross_ev (st := st) k
  have hs : sgR (crossR (wayR p q) (wayR p r)) = 0 := sgR_zero.mpr h
  have w1 := way_ev (st := st) (p := p) (q := q) (K_of (by decide) (by decide)) (K_of (by decide) (by decide)) (K_of (by decide) (by decide)) (K_of (by decide) (by decide)) k.h1 k.h2
  have w2 := way_ev (st := st) (p := p) (q := r) (K_of (by decide) (by decide)) (K_of (by decide) (by decide)) (K_of (by decide) (by decide)) (K_of (by decide) (by decide)) k.h3 k.h4
  rw [u_circle_by]
  unfold b_circle_by
  simp [w1, w2, c, sgn_ev, hs]
theorem c3_print {p q r : Pt} (hp : BP 104 3 p) (hq : BP 104 3 q) (hr : BP 104 3 r) : Kp (c3R p q r).m.1 ∧ Kp (c3R p q r).m.2 ∧ Kp (c3R p q r).s := by
  haveI : BP 404 304 (c3R p q r).m := by3_B hp hq hr
  haveI : BQ 1700 1300 (c3R p q r).s := c3s_B hp hq hr
  exact ⟨Kp_of (by decide) (by decide), Kp_of (by decide) (by decide), Kp_of (by decide) (by decide)⟩
theorem pow3_ev {p q r s : Pt} {st : Store} (hs : BP 104 3 s) (hp : BP 104 3 p) (hq : BP 104 3 q) (hr : BP 104 3 r) (e : sqR (by3R p q r) s = sqR (by3R p q r) p) : m_power_of [pD s, ecD (c3R p q r)] st = .ok (eD 0) st := by
  have z : sqR (by3R p q r) s - sqR (by3R p q r) p = 0 := by grind
  have k := k_sq3 hs hp hq hr
  have ks : K (sqR (by3R p q r) p) := by
    haveI := c3s_B hp hq hr
    exact K_of (by decide) (by decide)
  have e := powx_ev (st := st) (p := s) (c := c3R p q r) k ks (by
    show K (sqR (by3R p q r) s - sqR (by3R p q r) p)
    rw [z]
    exact K_0)
  have e : m_power_of [pD s, ecD (c3R p q r)] st = .ok (eD (sqR (by3R p q r) s - sqR (by3R p q r) p)) st := e
  rw [z] at e
  exact e
theorem kp_0 : Kp 0 := Kp_of (by decide) (by decide)
theorem told_e8 {x : Rat} {st : Store} : m_ltold 8 [eD x] st = .ok (fD x) st := told_e (n := 7)
theorem same_f {x : Rat} {st : Store} (h : Kp x) : m_lsame [fD x, fD x] st = .ok (.bl true) st := lsame_t rfl (.inr ⟨_, rfl⟩) (shw_f h) (by omega) (by omega)
theorem five_0 : D.tup [.int 0, .int 1, .int 0, .int 0, .int 1] = fD 0 := rfl
theorem byB_row {p q r : Pt} {v : Sl} {st : Store} (g : G3 p q r) (h : turnsR p q r = 0) : fin (byB [.val (.ref 1), .val (lD p), .val (lD q), .val (lD r), v, .un, .un, .un, .un, .un, .un, .un, .un] st) = .ok (.bl true) st := by
  have bp : BP 300 200 p := bp_up g.bp (by decide) (by decide)
  have bq : BP 300 200 q := bp_up g.bq (by decide) (by decide)
  have br : BP 300 200 r := by
    rcases g.br with z | ⟨_, z⟩ <;> exact bp_up z (by decide) (by decide)
  have t := turns_ev (st := st) g.bp g.bq br (by decide) (by decide)
  have c1 := circ_row (st := st) bp bq br h
  have c2 := circ_row (st := st) br bp bq (by rw [turns_flip]; exact h)
  have s1 := spotK (st := st) bp (by decide) (by decide)
  have s2 := spotK (st := st) bq (by decide) (by decide)
  have s3 := spotK (st := st) br (by decide) (by decide)
  unfold byB
  simp -implicitDefEqProofs only [seqS_ap]
  simp -implicitDefEqProofs [t, lsign_ev, h, sg0x, s1, s2, s3, lamM_hrd, c1, c2, hrd_no, pick, same2_circle]
theorem byB_ev {p q r : Pt} {v : Sl} {st : Store} (bp : BP 104 3 p) (bq : BP 104 3 q) (br : BP 104 3 r) (h : turnsR p q r ≠ 0) : fin (byB [.val (.ref 1), .val (lD p), .val (lD q), .val (lD r), v, .un, .un, .un, .un, .un, .un, .un, .un] st) = .ok (.bl true) st := by
  have t := turns_ev (st := st) bp bq br (by decide) (by decide)
  have hs : ¬ sgR (turnsR p q r) = 0 := fun z => h (sgR_zero.mp z)
  have c1 := circ_ev (st := st) bp bq br h
  have c2 := circ_ev (st := st) br bp bq (by rw [turns_flip]; exact h)
  rw [by3_flip h] at c2
  have s1 := spotK (st := st) bp (by decide) (by decide)
  have s2 := spotK (st := st) bq (by decide) (by decide)
  have s3 := spotK (st := st) br (by decide) (by decide)
  have b3 := by3_ev (st := st) bp bq br h
  have kp := c3_print bp bq br
  have l1 : m_llisted 8 [lcD (c3R p q r)] st = .ok (cL (c3R p q r)) st := listed_c (n := 5)
  have d1 : m_ldue 8 [cL (c3R p q r)] st = .ok (cF (c3R p q r)) st := due_c (n := 5) kp.1.k kp.2.1.k kp.2.2.k
  have sm := same2_told (st := st) (shw_c kp.1 kp.2.1 kp.2.2) (by omega) (by omega)
  have sf := same_far h
  have w1 := pow3_ev (st := st) bp bp bq br rfl
  have w2 := pow3_ev (st := st) bq bp bq br sf.1
  have w3 := pow3_ev (st := st) br bp bq br sf.2
  have sz := same_f (st := st) kp_0
  unfold byB
  simp -implicitDefEqProofs only [seqS_ap]
  simp -implicitDefEqProofs [t, lsign_ev, hs, s1, s2, s3, lamM_hrd, c1, c2, hrd_c, pick, b3, l1, d1, sm]
  simp -implicitDefEqProofs [compM, compL, wipeD, w1, w2, w3, told_e8, five_0, sz, eq_nil]
theorem three_ev {k : Nat} {st : Store} (hk : k + 100 < 2 ^ 40) (dk : Dk k st) : ∃ st', m_lis_by_three [.ref 1] st = .ok (.bl true) st' ∧ Dk (k + 30) st' := by
  obtain ⟨p, q, r, v, st', g, d, e⟩ := byA_ev hk dk
  refine ⟨st', ?_, d⟩
  rw [u_lis_by_three, by_is, e]
  by_cases h : turnsR p q r = 0
  · exact byB_row g h
  · rcases g.br with z | ⟨z, _⟩
    · exact byB_ev g.bp g.bq z h
    · exact absurd z h
end
end G76
set_option Elab.async false
set_option linter.all false
set_option maxRecDepth 100000
set_option maxHeartbeats 4000000
set_option autoImplicit false
namespace G76
noncomputable section
open PySem PySem.Spec PyProof.Rows L2 Sm Alg
def v5 (t b s o u : Int) : D := .tup [.int t, .int b, .int s, .int o, .int u]
def e5 (t b s o u : Int) : D := .ins 0 [.int t, .int b, .int s, .int o, .int u]
theorem told_5 {t b s o u : Int} {st : Store} : m_ltold 8 [e5 t b s o u] st = .ok (v5 t b s o u) st := by
  show fin (b_ltold (m_ltold 7) [.val (e5 t b s o u), .un] st) = _
  have i1 : isiB S0 [0] [e5 t b s o u, .ty "tuple"] st = some (.bl false) := rfl
  have i2 : isiB S0 [0] [e5 t b s o u, .glo "Exact"] st = some (.bl true) := by
    show (isa1 S0 [0] (e5 t b s o u) (.glo "Exact") st).map D.bl = _
    simp [isa1, e5, cn]
  have rd : m_lread [e5 t b s o u] st = .ok (v5 t b s o u) st := by
    show fin (b_lread [.val (e5 t b s o u)] st) = _
    unfold b_lread
    simp [i2]
    rfl
  unfold b_ltold
  simp [i1, i2, rd]
theorem rplane_ev {x : Rat} {st : Store} (h0 : 0 ≤ x) (hx : K x) : ∃ t b s o u : Int, RtD x t b s o u ∧ m_root_of_plane [eD x] st = .ok (e5 t b s o u) st := by
  obtain ⟨t, b, s, o, u, h, e⟩ := initR_ev (st := st) h0 hx
  refine ⟨t, b, s, o, u, h, ?_⟩
  rw [u_root_of_plane]
  unfold b_root_of_plane
  simp [e]
  rfl
theorem rnum_ev {x : Rat} {st : Store} (h0 : 0 ≤ x) (hx : K x) : ∃ t b s o u : Int, (x ≠ 0 → RtD x t b s o u) ∧ (x = 0 → t = 0 ∧ b = 1 ∧ s = 0 ∧ o = 0 ∧ u = 1) ∧ m_root_number [eD x] st = .ok (e5 t b s o u) st := by
  by_cases hz : x = 0
  · refine ⟨0, 1, 0, 0, 1, fun z => absurd hz z, fun _ => ⟨rfl, rfl, rfl, rfl, rfl⟩, ?_⟩
    subst hz
    rw [u_root_number]
    unfold b_root_number
    simp [sgn_ev, sg0x, init_0]
    rfl
  · obtain ⟨t, b, s, o, u, h, e⟩ := rplane_ev (st := st) h0 hx
    refine ⟨t, b, s, o, u, fun _ => h, fun z => absurd z hz, ?_⟩
    have hp : 0 < sgR x := sgR_pos.mpr (by grind)
    rw [u_root_number]
    unfold b_root_number
    simp [sgn_ev, hp, e]
theorem sqk {p q : Pt} (hp : BP 107 5 p) (hq : BP 107 5 q) : KSq p q ∧ BQ 250 40 (sqR p q) := by
  haveI := hp
  haveI := hq
  have b : BQ 250 40 (sqR p q) := by
    unfold sqR
    exact bq_up (BQ.bq (x := dotR (wayR p q) (wayR p q)) inferInstance) (by decide) (by decide)
  haveI := b
  exact ⟨by constructor <;> exact K_of (by decide) (by decide), b⟩
theorem sq_comm' {p q : Pt} : sqR p q = sqR q p := by
  unfold sqR dotR wayR
  simp only
  grind
theorem far_ev {p q : Pt} {st : Store} (hp : BP 107 5 p) (hq : BP 107 5 q) : ∃ t b s o u : Int, (sqR p q ≠ 0 → RtD (sqR p q) t b s o u) ∧ (sqR p q = 0 → t = 0 ∧ b = 1 ∧ s = 0 ∧ o = 0 ∧ u = 1) ∧ m_far_root [pD p, pD q] st = .ok (e5 t b s o u) st := by
  obtain ⟨k, b⟩ := sqk hp hq
  haveI := b
  obtain ⟨t, b, s, o, u, h1, h2, e⟩ := rnum_ev (x := sqR p q) (st := st) dot_nonneg (K_of (by decide) (by decide))
  refine ⟨t, b, s, o, u, h1, h2, ?_⟩
  rw [u_far_root]
  unfold b_far_root
  simp [sq_ev k, e]
theorem rt_size {x : Rat} {t b s o u : Int} (hx : Bq 1900 1900 x) (h : RtD x t b s o u) : t.natAbs < 2 ^ 1900 ∧ b.natAbs < 2 ^ 1900 ∧ s.natAbs < 2 ^ 1900 ∧ o.natAbs < 2 ^ 1900 ∧ u.natAbs < 2 ^ 1900 := by
  have one : (1 : Int).natAbs < 2 ^ 1900 := Nat.one_lt_two_pow (by decide)
  have zero : (0 : Int).natAbs < 2 ^ 1900 := Nat.two_pow_pos _
  rcases h with ⟨r, q, hs, rfl, rfl, rfl, rfl, rfl⟩ | ⟨_, rfl, rfl, rfl, rfl, rfl⟩
  · have B := Bq_root hx hs
    exact ⟨B.num, den_lt B, zero, zero, one⟩
  · exact ⟨zero, one, one, hx.num, den_lt hx⟩
theorem shw_5 {t b s o u : Int} (h : t.natAbs < 2 ^ 1900 ∧ b.natAbs < 2 ^ 1900 ∧ s.natAbs < 2 ^ 1900 ∧ o.natAbs < 2 ^ 1900 ∧ u.natAbs < 2 ^ 1900) : Shw 4000 1 (v5 t b s o u) := by
  obtain ⟨h1, h2, h3, h4, h5⟩ := h
  have i0 : ∀ {i : Int} {k : Nat}, i.natAbs < 2 ^ 1900 → Shw 600 k (.int i) := fun h => shw_int h
  exact shw_mono (shw_tup (shw_cons (i0 (k := 0) h1) (shw_cons (i0 h2) (shw_cons (i0 h3) (shw_cons (i0 h4) (shw_cons (i0 h5) shw_nil)))))) (by omega) (by omega)
def farB : SM :=
 (seqS (setS 5 (callM m_lfive 3 3 (fun ds _ => ds) (consM (tupM (consM (cM (.int 0)) (consM (cM (.int 1)) nilM))) (consM (cM (.int 1)) (consM (callM m_lsquare_way 2 2 (fun ds _ => ds) (consM (varM 1) (consM (varM 2) nilM))) nilM)))))
 (seqS (setS 6 (frzM (lstM (consM (callM m_far_root 2 2 (fun ds _ => ds) (consM (callM m_lspot 1 1 (fun ds _ => ds) (consM (varM 1) nilM)) (consM (callM m_lspot 1 1 (fun ds _ => ds) (consM (varM 2) nilM)) nilM))) (consM (callKM m_far_root 0 2 (fun ds es => pick [1, 0] (ds ++ es)) nilM (consM (callM m_lspot 1 1 (fun ds _ => ds) (consM (varM 1) nilM)) (consM (callM m_lspot 1 1 (fun ds _ => ds) (consM (varM 2) nilM)) nilM))) nilM)))))
 (retS (callM m_lsame 2 2 (fun ds _ => ds) (consM (frzM (compM [7] (seqW (varM 6)) (setG 7) (cM true) (callM (m_ltold 8) 1 1 (fun ds _ => ds) (consM (varM 7) nilM)))) (consM (frzM (lstM (consM (varM 5) (consM (varM 5) nilM)))) nilM))))))
def farA : SM :=
 (seqS (parS 1 2 (consM (callM m_lpoint 1 1 (fun ds _ => ds) (consM (varM 0) nilM)) (consM (callM m_lpoint 1 1 (fun ds _ => ds) (consM (varM 0) nilM)) nilM)))
 (seqS (ifS (tst (op2 eqD (callM m_ldraw 2 2 (fun ds _ => ds) (consM (varM 0) (consM (cM (.int 4)) nilM))) (cM (.int 0))))
 (seqS (asgS (callM m_lpick 2 2 (fun ds _ => ds) (consM (varM 0) (consM (frzM (lstM (consM (tupM (consM (cM (.int 3)) (consM (cM (.int 4)) nilM))) (consM (tupM (consM (cM (.int 5)) (consM (cM (.int 12)) nilM))) (consM (tupM (consM (cM (.int 0)) (consM (cM (.int 2)) nilM))) (consM (tupM (consM (cM (.int 8)) (consM (cM (.int 15)) nilM))) (consM (tupM (consM (cM (.int 0)) (consM (cM (.int 0)) nilM))) (consM (tupM (consM (negM (cM (.int 7))) (consM (cM (.int 24)) nilM))) nilM)))))))) nilM))) (tupG 2 (consG (setG 3) (consG (setG 4) nilG))))
 (setS 2 (tupM (consM (callM m_lplus 2 2 (fun ds _ => ds) (consM (op2 ixD (varB 1) (cM (.int 0))) (consM (callM m_lnumber 2 2 (fun ds _ => ds) (consM (varM 3) (consM (cM (.int 2)) nilM))) nilM))) (consM (callM m_lplus 2 2 (fun ds _ => ds) (consM (op2 ixD (varB 1) (cM (.int 1))) (consM (callM m_lnumber 2 2 (fun ds _ => ds) (consM (varM 4) (consM (cM (.int 2)) nilM))) nilM))) nilM)))))
 nilS)
 farB))
theorem far_is : b_lis_far = farA := rfl
theorem farB_ev {p q : Pt} {x y : Sl} {st : Store} (hp : BP 107 5 p) (hq : BP 107 5 q) : fin (farB [.val (.ref 1), .val (lD p), .val (lD q), x, y, .un, .un, .un] st) = .ok (.bl true) st := by
  obtain ⟨k, b⟩ := sqk hp hq
  have b0 := b
  haveI := b
  have kx : K (sqR p q) := K_of (by decide) (by decide)
  have bx : Bq 1900 1900 (sqR p q) := b0.bq.mono (by decide) (by decide)
  obtain ⟨t, b, s, o, u, h1, h2, e⟩ := five1_ev (x := sqR p q) (st := st) dot_nonneg kx
  obtain ⟨t1, b1, s1, o1, u1, g1, g2, e1⟩ := far_ev (st := st) hp hq
  obtain ⟨t2, b2, s2, o2, u2, f1, f2, e2⟩ := far_ev (st := st) hq hp
  rw [sq_comm' (p := q)] at f1 f2
  have eq1 : t1 = t ∧ b1 = b ∧ s1 = s ∧ o1 = o ∧ u1 = u := by
    by_cases z : sqR p q = 0
    · obtain ⟨rfl, rfl, rfl, rfl, rfl⟩ := h2 z
      exact g2 z
    · exact (g1 z).same (h1 z)
  have eq2 : t2 = t ∧ b2 = b ∧ s2 = s ∧ o2 = o ∧ u2 = u := by
    by_cases z : sqR p q = 0
    · obtain ⟨rfl, rfl, rfl, rfl, rfl⟩ := h2 z
      exact f2 z
    · exact (f1 z).same (h1 z)
  obtain ⟨rfl, rfl, rfl, rfl, rfl⟩ := eq1
  obtain ⟨rfl, rfl, rfl, rfl, rfl⟩ := eq2
  have sh : Shw 4000 1 (v5 t2 b2 s2 o2 u2) := by
    refine shw_5 ?_
    by_cases z : sqR p q = 0
    · obtain ⟨rfl, rfl, rfl, rfl, rfl⟩ := h2 z
      exact ⟨Nat.two_pow_pos _, Nat.one_lt_two_pow (by decide), Nat.two_pow_pos _, Nat.two_pow_pos _, Nat.one_lt_two_pow (by decide)⟩
    · exact rt_size bx (h1 z)
  have sm := same2 (st := st) sh (by omega) (by omega)
  have sw : m_lsquare_way [lD p, lD q] st = .ok (qD (sqR p q)) st := sqwB_ev hp hq (by decide) (by decide) (by decide) (by decide)
  have p1 := spotK (st := st) hp (by decide) (by decide)
  have p2 := spotK (st := st) hq (by decide) (by decide)
  have e : m_lfive [qD 0, .int 1, qD (sqR p q)] st = .ok (v5 t2 b2 s2 o2 u2) st := e
  unfold farB
  simp -implicitDefEqProofs only [seqS_ap]
  simp -implicitDefEqProofs [sw, q_0, e, p1, p2, e1, e2, pick]
  simp -implicitDefEqProofs [compM, compL, wipeD, told_5, sm]
theorem num2_ev {x : Int} {st : Store} (h : x.natAbs < 2 ^ 5) : m_lnumber [.int x, .int 2] st = .ok (qD (Rat.divInt x 2)) st ∧ BQ 5 2 (Rat.divInt x 2) :=
  ⟨number_ev (by decide) (by decide), (Bq.divInt (by decide) h (by decide)).bQ⟩
theorem farA_ev {k : Nat} {st : Store} (hk : k + 100 < 2 ^ 40) (dk : Dk k st) : ∃ p q x y st', BP 107 5 p ∧ BP 107 5 q ∧ Dk (k + 20) st' ∧ farA [.val (.ref 1), .un, .un, .un, .un, .un, .un, .un] st = farB [.val (.ref 1), .val (lD p), .val (lD q), x, y, .un, .un, .un] st' := by
  obtain ⟨p, st1, e1, bp, d1⟩ := point_ev (by omega) dk
  obtain ⟨q, st2, e2, bq, d2⟩ := point_ev (by omega) d1
  obtain ⟨v, st3, e3, v0, v1, d3⟩ := draw_ev (below := 4) (st := st2) (by decide) (by decide) (by omega) d2
  have bp' : BP 107 5 p := bp_up bp (by decide) (by decide)
  by_cases h0 : v = 0
  · subst h0
    obtain ⟨z, st4, e4, m4, d4⟩ := pick_ev (ds := [.tup [.int 3, .int 4], .tup [.int 5, .int 12], .tup [.int 0, .int 2], .tup [.int 8, .int 15], .tup [.int 0, .int 0], .tup [.int (-7), .int 24]]) (st := st3) (by simp) (by simp) (by omega) d3
    obtain ⟨x, y, rfl, hx, hy⟩ : ∃ x y : Int, z = .tup [.int x, .int y] ∧ x.natAbs < 2 ^ 5 ∧ y.natAbs < 2 ^ 5 := by
      simp only [List.mem_cons, List.not_mem_nil, or_false] at m4
      rcases m4 with rfl | rfl | rfl | rfl | rfl | rfl <;> exact ⟨_, _, rfl, by decide, by decide⟩
    obtain ⟨n1, x1⟩ := num2_ev (st := st4) hx
    obtain ⟨n2, y1⟩ := num2_ev (st := st4) hy
    haveI := bp
    haveI := x1
    haveI := y1
    generalize Rat.divInt x 2 = X at *
    generalize Rat.divInt y 2 = Y at *
    have a1 := lplus_ev (st := st4) (x := p.1) (y := X) (K_of (by decide) (by decide)) (K_of (by decide) (by decide))
    have a2 := lplus_ev (st := st4) (x := p.2) (y := Y) (K_of (by decide) (by decide)) (K_of (by decide) (by decide))
    have tl : D.tup [qD (p.1 + X), qD (p.2 + Y)] = lD (p.1 + X, p.2 + Y) := rfl
    refine ⟨p, (p.1 + X, p.2 + Y), .val (.int x), .val (.int y), st4, bp', ⟨bq_up (BQ.bq (x := p.1 + X) inferInstance) (by decide) (by decide), bq_up (BQ.bq (x := p.2 + Y) inferInstance) (by decide) (by decide)⟩, d4.mono (by omega), ?_⟩
    unfold farA
    simp -implicitDefEqProofs only [seqS_ap]
    simp -implicitDefEqProofs [e1, e2, e3, e4, n1, n2, a1, a2, tl]
  · refine ⟨p, q, .un, .un, st3, bp', bp_up bq (by decide) (by decide), d3.mono (by omega), ?_⟩
    unfold farA
    simp -implicitDefEqProofs only [seqS_ap]
    simp -implicitDefEqProofs [e1, e2, e3, h0]
theorem isfar_ev {k : Nat} {st : Store} (hk : k + 100 < 2 ^ 40) (dk : Dk k st) : ∃ st', m_lis_far [.ref 1] st = .ok (.bl true) st' ∧ Dk (k + 20) st' := by
  obtain ⟨p, q, x, y, st', bp, bq, d, e⟩ := farA_ev hk dk
  refine ⟨st', ?_, d⟩
  rw [u_lis_far, far_is, e]
  exact farB_ev bp bq
end
end G76
set_option Elab.async false
set_option linter.all false
set_option maxRecDepth 100000
set_option maxHeartbeats 4000000
set_option autoImplicit false
namespace G76
noncomputable section
open PySem PySem.Spec PyProof.Rows L2 Sm Alg
def axC : SM :=
 (seqS (asgS (tupM (consM (varM 1) (consM (varM 2) nilM))) (tupG 2 (consG (tupG 2 (consG (setG 7) (consG (setG 8) nilG))) (consG (tupG 2 (consG (setG 9) (consG (setG 10) nilG))) nilG))))
 (seqS (parS 11 12 (consM (callM m_ltimes 2 2 (fun ds _ => ds) (consM (tupM (consM (cM (.int 2)) (consM (cM (.int 1)) nilM))) (consM (callM m_lminus 2 2 (fun ds _ => ds) (consM (op2 ixD (varB 9) (cM (.int 0))) (consM (op2 ixD (varB 7) (cM (.int 0))) nilM))) nilM))) (consM (callM m_ltimes 2 2 (fun ds _ => ds) (consM (tupM (consM (cM (.int 2)) (consM (cM (.int 1)) nilM))) (consM (callM m_lminus 2 2 (fun ds _ => ds) (consM (op2 ixD (varB 9) (cM (.int 1))) (consM (op2 ixD (varB 7) (cM (.int 1))) nilM))) nilM))) nilM)))
 (seqS (setS 13 (tupM (consM (tupM (consM (cM (.int 0)) (consM (cM (.int 1)) nilM))) (consM (tupM (consM (cM (.int 0)) (consM (cM (.int 1)) nilM))) nilM))))
 (seqS (asgS (tupM (consM (callM m_lring 1 1 (fun ds _ => ds) (consM (varM 1) nilM)) (consM (callM m_lring 1 1 (fun ds _ => ds) (consM (varM 2) nilM)) nilM))) (tupG 2 (consG (setG 14) (consG (setG 15) nilG))))
 (seqS (setF 5 (lstM (consM (lamM 2 b_lheard (callM m_axis_of 2 2 (fun ds _ => ds) (consM (varM 14) (consM (varM 15) nilM)))) nilM)))
 (seqS (mutS 5 appF (consM (lamM 2 b_lheard (callKM m_axis_of 0 2 (fun ds es => pick [1, 0] (ds ++ es)) nilM (consM (varM 14) (consM (varM 15) nilM)))) nilM))
 (seqS (ifS (tst (op2 eqD (varB 7) (varB 9)))
 (seqS (fzS 5)
 (retS (callM m_lsame 2 2 (fun ds _ => ds) (consM (varM 5) (consM (frzM (repF (lstM (consM (tupM (consM (cM (.str "line")) (consM (cM (.bl true)) nilM))) nilM)) (cM (.int 2)))) nilM)))))
 nilS)
 (seqS (setS 16 (callM m_lline 3 3 (fun ds _ => ds) (consM (varM 11) (consM (varM 12) (consM (callM m_lminus 2 2 (fun ds _ => ds) (consM (callM m_lpower 2 2 (fun ds _ => ds) (consM (varM 13) (consM (varM 2) nilM))) (consM (callM m_lpower 2 2 (fun ds _ => ds) (consM (varM 13) (consM (varM 1) nilM))) nilM))) nilM)))))
 (seqS (fzS 5)
 (seqS (ifS (notM (tst (callM m_lsame 2 2 (fun ds _ => ds) (consM (varM 5) (consM (frzM (repF (lstM (consM (tupM (consM (cM (.str "told")) (consM (callM (m_ldue 8) 1 1 (fun ds _ => ds) (consM (callM (m_llisted 8) 1 1 (fun ds _ => ds) (consM (varM 16) nilM)) nilM)) nilM))) nilM)) (cM (.int 2)))) nilM)))))
 (retS (cM (.bl false)))
 nilS)
 (seqS (setS 17 (callM m_lon 2 2 (fun ds _ => ds) (consM (varM 0) (consM (varM 16) nilM))))
 (retS (op2 eqD (callM m_lpower 2 2 (fun ds _ => ds) (consM (varM 17) (consM (varM 1) nilM))) (callM m_lpower 2 2 (fun ds _ => ds) (consM (varM 17) (consM (varM 2) nilM))))))))))))))))
def axB : SM :=
 (seqS (setS 4 (callM m_lfive 3 3 (fun ds _ => ds) (consM (callM m_lpower 2 2 (fun ds _ => ds) (consM (varM 3) (consM (varM 1) nilM))) (consM (cM (.int 0)) (consM (tupM (consM (cM (.int 0)) (consM (cM (.int 1)) nilM))) nilM)))))
 (seqS (setF 5 (lstM (consM (callM m_power_of 2 2 (fun ds _ => ds) (consM (callM m_lspot 1 1 (fun ds _ => ds) (consM (varM 3) nilM)) (consM (callM m_lring 1 1 (fun ds _ => ds) (consM (varM 1) nilM)) nilM))) (consM (callKM m_power_of 0 2 (fun ds es => pick [1, 0] (ds ++ es)) nilM (consM (callM m_lring 1 1 (fun ds _ => ds) (consM (varM 1) nilM)) (consM (callM m_lspot 1 1 (fun ds _ => ds) (consM (varM 3) nilM)) nilM))) nilM))))
 (seqS (fzS 5)
 (seqS (ifS (notM (tst (callM m_lsame 2 2 (fun ds _ => ds) (consM (frzM (compM [6] (seqW (varM 5)) (setG 6) (cM true) (callM (m_ltold 8) 1 1 (fun ds _ => ds) (consM (varM 6) nilM)))) (consM (frzM (lstM (consM (varM 4) (consM (varM 4) nilM)))) nilM)))))
 (retS (cM (.bl false)))
 nilS)
 axC))))
def axA : SM :=
 (seqS (parS 1 2 (consM (callM m_ldrawn_circle 1 1 (fun ds _ => ds) (consM (varM 0) nilM)) (consM (callM m_ldrawn_circle 1 1 (fun ds _ => ds) (consM (varM 0) nilM)) nilM)))
 (seqS (setS 2 (ifM (tst (op2 eqD (callM m_ldraw 2 2 (fun ds _ => ds) (consM (varM 0) (consM (cM (.int 5)) nilM))) (cM (.int 0)))) (tupM (consM (op2 ixD (varB 1) (cM (.int 0))) (consM (op2 ixD (varB 2) (cM (.int 1))) nilM))) (varM 2)))
 (seqS (setS 3 (callM m_lpick 2 2 (fun ds _ => ds) (consM (varM 0) (consM (frzM (lstM (consM (callM m_lpoint 1 1 (fun ds _ => ds) (consM (varM 0) nilM)) (consM (op2 ixD (varB 1) (cM (.int 0))) (consM (orT (callM m_laround 2 2 (fun ds _ => ds) (consM (varM 0) (consM (varM 1) nilM))) (callM m_lpoint 1 1 (fun ds _ => ds) (consM (varM 0) nilM))) nilM))))) nilM))))
 axB)))
theorem ax_is : b_lis_axis = axA := rfl
def orK (r : Res D) (k : Store → Res D) : Res D := r.bind fun d st1 => match truD d with
  | some true => .ok d st1
  | some false => k st1
  | none => .fail
theorem orT_ap {a b : EM D} {ρ : Env1} {st : Store} : orT a b ρ st = orK (a ρ st) fun st1 => b ρ st1 := rfl
theorem repF2 {m : EM (List D)} {d : D} {ρ : Env1} {st st1 : Store} (h : m ρ st = .ok [d] st1) : repF m (cM (.int 2)) ρ st = .ok [d, d] st1 := by
  unfold repF
  rw [h]
  rfl
section
variable {c o : Ci}
theorem kp_nc (h : NC c) : Kp c.m.1 ∧ Kp c.m.2 ∧ Kp c.s := by
  haveI := h.m
  haveI := h.s
  exact ⟨Kp_of (by decide) (by decide), Kp_of (by decide) (by decide), Kp_of (by decide) (by decide)⟩
theorem k_nring (h : NC c) {st : Store} : m_lring [lcD c] st = .ok (ecD c) st := by
  have k := kp_nc h
  exact ring_ev k.1.k k.2.1.k k.2.2.k
abbrev axl (c o : Ci) : Ln := axR c.m o.m c.s o.s
theorem ax_B (hc : NC c) (ho : NC o) : BP 128 128 (abR (axl c o)) ∧ BQ 292 188 (axl c o).c := by
  haveI := hc.m
  haveI := hc.s
  haveI := ho.m
  haveI := ho.s
  have a := BQ.bq (x := (wayR c.m o.m).1 + (wayR c.m o.m).1) inferInstance
  have b := BQ.bq (x := (wayR c.m o.m).2 + (wayR c.m o.m).2) inferInstance
  have f := BQ.bq (x := dotR o.m o.m - dotR c.m c.m - (o.s - c.s)) inferInstance
  unfold axl axR lineR
  split
  · exact ⟨⟨bq_up (a.div' a) (by decide) (by decide), bq_up (b.div' a) (by decide) (by decide)⟩, bq_up (f.div' a) (by decide) (by decide)⟩
  · exact ⟨⟨bq_up (a.div' b) (by decide) (by decide), bq_up (b.div' b) (by decide) (by decide)⟩, bq_up (f.div' b) (by decide) (by decide)⟩
theorem w_ne (h : c.m ≠ o.m) : (wayR c.m o.m).1 + (wayR c.m o.m).1 ≠ 0 ∨ (wayR c.m o.m).2 + (wayR c.m o.m).2 ≠ 0 := by
  rcases way_ne h with z | z
  · exact .inl (by grind)
  · exact .inr (by grind)
theorem ax_n (h : c.m ≠ o.m) : (axl c o).a = 1 ∨ ((axl c o).a = 0 ∧ (axl c o).b = 1) := lineR_n (w_ne h)
theorem lineR_neg {a b c : Rat} (h : a ≠ 0 ∨ b ≠ 0) : lineR (-a) (-b) (-c) = lineR a b c := by
  have e : ∀ x y : Rat, -x / -y = x / y := fun x y => by grind
  unfold lineR
  by_cases ha : a = 0
  · have h1 : ¬ (-a ≠ 0) := fun z => z (by grind)
    have h2 : ¬ (a ≠ 0) := fun z => z ha
    rw [if_neg h1, if_neg h2, e, e, e]
  · have h1 : -a ≠ 0 := by grind
    rw [if_pos h1, if_pos ha, e, e, e]
theorem ax_flip (h : c.m ≠ o.m) : axl o c = axl c o := by
  have e := lineR_neg (c := dotR o.m o.m - dotR c.m c.m - (o.s - c.s)) (w_ne h)
  show lineR _ _ _ = lineR _ _ _
  rw [← e]
  unfold wayR
  simp only
  congr 1 <;> grind
theorem axis_no {st : Store} (hc : NC c) (ho : NC o) (h : c.m = o.m) : m_axis_of [ecD c, ecD o] st = .exc 3 st := by
  have w0 : wayR c.m o.m = (0, 0) := way_zero.mpr h
  haveI := hc.m
  haveI := ho.m
  have w := way_ev (st := st) (p := c.m) (q := o.m) (K_of (by decide) (by decide)) (K_of (by decide) (by decide)) (K_of (by decide) (by decide)) (K_of (by decide) (by decide)) (K_of (by decide) (by decide)) (K_of (by decide) (by decide))
  have d := dot_ev (st := st) (a := wayR c.m o.m) (b := wayR c.m o.m) (K_of (by decide) (by decide)) (K_of (by decide) (by decide)) (K_of (by decide) (by decide)) (K_of (by decide) (by decide)) (K_of (by decide) (by decide)) (K_of (by decide) (by decide)) (K_of (by decide) (by decide))
  have hs : sgR (dotR (wayR c.m o.m) (wayR c.m o.m)) = 0 := sgR_zero.mpr (dot_zero.mpr w0)
  rw [u_axis_of]
  unfold b_axis_of
  simp [w, d, sgn_ev, hs]
theorem axis_ev {st : Store} (hc : NC c) (ho : NC o) (h : c.m ≠ o.m) : m_axis_of [ecD c, ecD o] st = .ok (elD (axl c o)) st := by
  haveI := hc.m
  haveI := ho.m
  haveI := hc.s
  haveI := ho.s
  have w := way_ev (st := st) (p := c.m) (q := o.m) (K_of (by decide) (by decide)) (K_of (by decide) (by decide)) (K_of (by decide) (by decide)) (K_of (by decide) (by decide)) (K_of (by decide) (by decide)) (K_of (by decide) (by decide))
  have d := dot_ev (st := st) (a := wayR c.m o.m) (b := wayR c.m o.m) (K_of (by decide) (by decide)) (K_of (by decide) (by decide)) (K_of (by decide) (by decide)) (K_of (by decide) (by decide)) (K_of (by decide) (by decide)) (K_of (by decide) (by decide)) (K_of (by decide) (by decide))
  have d1 := dot_ev (st := st) (a := o.m) (b := o.m) (K_of (by decide) (by decide)) (K_of (by decide) (by decide)) (K_of (by decide) (by decide)) (K_of (by decide) (by decide)) (K_of (by decide) (by decide)) (K_of (by decide) (by decide)) (K_of (by decide) (by decide))
  have d2 := dot_ev (st := st) (a := c.m) (b := c.m) (K_of (by decide) (by decide)) (K_of (by decide) (by decide)) (K_of (by decide) (by decide)) (K_of (by decide) (by decide)) (K_of (by decide) (by decide)) (K_of (by decide) (by decide)) (K_of (by decide) (by decide))
  have m1 := minus_ev (st := st) (x := dotR o.m o.m) (y := dotR c.m c.m) (K_of (by decide) (by decide)) (K_of (by decide) (by decide)) (K_of (by decide) (by decide))
  have m2 := minus_ev (st := st) (x := o.s) (y := c.s) (K_of (by decide) (by decide)) (K_of (by decide) (by decide)) (K_of (by decide) (by decide))
  have m3 := minus_ev (st := st) (x := dotR o.m o.m - dotR c.m c.m) (y := o.s - c.s) (K_of (by decide) (by decide)) (K_of (by decide) (by decide)) (K_of (by decide) (by decide))
  have p1 := plus_ev (st := st) (x := (wayR c.m o.m).1) (y := (wayR c.m o.m).1) (K_of (by decide) (by decide)) (K_of (by decide) (by decide)) (K_of (by decide) (by decide))
  have p2 := plus_ev (st := st) (x := (wayR c.m o.m).2) (y := (wayR c.m o.m).2) (K_of (by decide) (by decide)) (K_of (by decide) (by decide)) (K_of (by decide) (by decide))
  have sc := sc_ev (st := st) (c := dotR o.m o.m - dotR c.m c.m - (o.s - c.s)) (w_ne h) (by constructor <;> exact K_of (by decide) (by decide))
  have hs : ¬ sgR (dotR (wayR c.m o.m) (wayR c.m o.m)) = 0 := fun z => h (way_zero.mp (dot_zero.mp (sgR_zero.mp z)))
  rw [u_axis_of]
  unfold b_axis_of
  simp -implicitDefEqProofs [w, d, sgn_ev, hs, d1, d2, m1, m2, m3, p1, p2, sc]
  rfl
/-- a drawn point of a line -/
theorem lonG_ev {k : Nat} {l : Ln} {st : Store} (hn : l.a = 1 ∨ (l.a = 0 ∧ l.b = 1)) (hb : BP 128 128 (abR l)) (hc : BQ 292 188 l.c) (hk : k + 3 < 2 ^ 40) (d : Dk k st) : ∃ r st', m_lon [.ref 1, lnD l] st = .ok (lD r) st' ∧ BP 560 450 r ∧ overR l r = 0 ∧ Dk (k + 3) st' := by
  obtain ⟨x, st', e, bx, d'⟩ := coord_ev hk d
  have sg := lsign_ev (x := l.b) (st := st)
  by_cases h : l.b = 0
  · have ha : l.a = 1 := by
      rcases hn with z | ⟨_, z⟩
      · exact z
      · rw [h] at z; exact absurd z (by decide)
    refine ⟨(l.c, x), st', ?_, ⟨bq_up hc.bq (by decide) (by decide), bq_up bx.bq (by decide) (by decide)⟩, ?_, d'⟩
    · rw [h] at sg
      rw [u_lon]
      unfold b_lon
      simp [h, sg, sg0x, e]
      rfl
    · unfold overR
      rw [ha, h]
      grind
  · have sg' : ¬ sgR l.b = 0 := fun z => h (sgR_zero.mp z)
    haveI := bx
    haveI := hc
    haveI : BQ 128 128 l.a := hb.x
    haveI : BQ 128 128 l.b := hb.y
    have t1 := ltimes_ev (st := st') (x := l.a) (y := x) (K_of (by decide) (by decide)) (K_of (by decide) (by decide))
    have m1 := lminus_ev (st := st') (x := l.c) (y := l.a * x) (K_of (by decide) (by decide)) (K_of (by decide) (by decide))
    have y1 := lby_ev (st := st') (x := l.c - l.a * x) (y := l.b) h (K_of (by decide) (by decide)) (K_of (by decide) (by decide))
    refine ⟨(x, (l.c - l.a * x) / l.b), st', ?_, ⟨bq_up bx.bq (by decide) (by decide), bq_up (BQ.bq (x := (l.c - l.a * x) / l.b) inferInstance) (by decide) (by decide)⟩, ?_, d'⟩
    · rw [u_lon]
      unfold b_lon
      simp [sg, sg', e, t1, m1, y1]
      rfl
    · unfold overR
      show l.a * x + l.b * ((l.c - l.a * x) / l.b) - l.c = 0
      grind
end
end
end G76
set_option Elab.async false
set_option linter.all false
set_option maxRecDepth 100000
set_option maxHeartbeats 4000000
set_option autoImplicit false
namespace G76
noncomputable section
open PySem PySem.Spec PyProof.Rows L2 Sm Alg
section
variable {c o : Ci}
theorem axC_same {p : Pt} {x4 x5 x6 : Sl} {st : Store} (hc : NC c) (ho : NC o) (h : c.m = o.m) : fin (axC [.val (.ref 1), .val (lcD c), .val (lcD o), .val (lD p), x4, x5, x6, .un, .un, .un, .un, .un, .un, .un, .un, .un, .un, .un] st) = .ok (.bl true) st := by
  haveI := hc.m
  haveI := ho.m
  have n1 := axis_no (st := st) hc ho h
  have n2 := axis_no (st := st) ho hc h.symm
  have r1 := k_nring (st := st) hc
  have r2 := k_nring (st := st) ho
  have l1 := lminus_ev (st := st) (x := o.m.1) (y := c.m.1) (K_of (by decide) (by decide)) (K_of (by decide) (by decide))
  have l2 := lminus_ev (st := st) (x := o.m.2) (y := c.m.2) (K_of (by decide) (by decide)) (K_of (by decide) (by decide))
  have t1 := ltimes_ev (st := st) (x := 2) (y := o.m.1 - c.m.1) (K_of (by decide) (by decide)) (K_of (by decide) (by decide))
  have t2 := ltimes_ev (st := st) (x := 2) (y := o.m.2 - c.m.2) (K_of (by decide) (by decide)) (K_of (by decide) (by decide))
  have q1 : seqR (lcD c) st = .ok [lD c.m, qD c.s] st := rfl
  have q2 : seqR (lcD o) st = .ok [lD o.m, qD o.s] st := rfl
  have ee : eqD (lD c.m) (lD o.m) st = some (.bl true) := by rw [eq_l, decide_eq_true h]
  have sm := same2_line (st := st)
  unfold axC
  simp -implicitDefEqProofs only [seqS_ap]
  simp -implicitDefEqProofs [q1, q2, l1, l2, q_2, t1, t2, r1, r2, lamM_hrd, n1, n2, hrd_nl, pick, ee, repF, sm]
theorem axC_ev {k : Nat} {p : Pt} {x4 x5 x6 : Sl} {st : Store} (hk : k + 10 < 2 ^ 40) (dk : Dk k st) (hc : NC c) (ho : NC o) (h : c.m ≠ o.m) : ∃ st', fin (axC [.val (.ref 1), .val (lcD c), .val (lcD o), .val (lD p), x4, x5, x6, .un, .un, .un, .un, .un, .un, .un, .un, .un, .un, .un] st) = .ok (.bl true) st' ∧ Dk (k + 3) st' := by
  obtain ⟨B1, B2⟩ := ax_B hc ho
  have hn := ax_n h
  obtain ⟨r, st', e, br, on, d'⟩ := lonG_ev hn B1 B2 (by omega) dk
  refine ⟨st', ?_, d'⟩
  haveI := hc.m
  haveI := ho.m
  haveI := hc.s
  haveI := ho.s
  have n1 := axis_ev (st := st) hc ho h
  have n2 := axis_ev (st := st) ho hc (Ne.symm h)
  rw [ax_flip h] at n2
  have r1 := k_nring (st := st) hc
  have r2 := k_nring (st := st) ho
  have l1 := lminus_ev (st := st) (x := o.m.1) (y := c.m.1) (K_of (by decide) (by decide)) (K_of (by decide) (by decide))
  have l2 := lminus_ev (st := st) (x := o.m.2) (y := c.m.2) (K_of (by decide) (by decide)) (K_of (by decide) (by decide))
  have t1 := ltimes_ev (st := st) (x := 2) (y := o.m.1 - c.m.1) (K_of (by decide) (by decide)) (K_of (by decide) (by decide))
  have t2 := ltimes_ev (st := st) (x := 2) (y := o.m.2 - c.m.2) (K_of (by decide) (by decide)) (K_of (by decide) (by decide))
  have q1 : seqR (lcD c) st = .ok [lD c.m, qD c.s] st := rfl
  have q2 : seqR (lcD o) st = .ok [lD o.m, qD o.s] st := rfl
  have ee : eqD (lD c.m) (lD o.m) st = some (.bl false) := by rw [eq_l, decide_eq_false h]
  have z0 : BP 1 1 ((0, 0) : Pt) := ⟨⟨by decide, by decide⟩, ⟨by decide, by decide⟩⟩
  have t0 : D.tup [D.tup [.int 0, .int 1], D.tup [.int 0, .int 1]] = lD (0, 0) := rfl
  have w1 := lpow_ev (st := st) (p := (0, 0)) z0 ho (by decide) (by decide)
  have w2 := lpow_ev (st := st) (p := (0, 0)) z0 hc (by decide) (by decide)
  have sq0 : ∀ m : Pt, sqR (0, 0) m = dotR m m := fun m => by
    unfold sqR dotR wayR
    simp only
    grind
  rw [sq0] at w1 w2
  have w3 := lminus_ev (st := st) (x := dotR o.m o.m - o.s) (y := dotR c.m c.m - c.s) (K_of (by decide) (by decide)) (K_of (by decide) (by decide))
  have hh : 2 * (o.m.1 - c.m.1) ≠ 0 ∨ 2 * (o.m.2 - c.m.2) ≠ 0 := by
    rcases way_ne h with z | z
    · have z : o.m.1 - c.m.1 ≠ 0 := z
      exact .inl (by grind)
    · have z : o.m.2 - c.m.2 ≠ 0 := z
      exact .inr (by grind)
  have ln := line_ev (st := st) (a := 2 * (o.m.1 - c.m.1)) (b := 2 * (o.m.2 - c.m.2)) (c := dotR o.m o.m - o.s - (dotR c.m c.m - c.s)) (K_of (by decide) (by decide)) (K_of (by decide) (by decide)) (K_of (by decide) (by decide)) hh
  have el : lineR (2 * (o.m.1 - c.m.1)) (2 * (o.m.2 - c.m.2)) (dotR o.m o.m - o.s - (dotR c.m c.m - c.s)) = axl c o := by
    show lineR _ _ _ = lineR _ _ _
    unfold wayR
    simp only
    congr 1 <;> grind
  rw [el] at ln
  have kp : Kp (axl c o).a ∧ Kp (axl c o).b ∧ Kp (axl c o).c := by
    haveI : BQ 128 128 (axl c o).a := B1.x
    haveI : BQ 128 128 (axl c o).b := B1.y
    haveI : BQ 292 188 (axl c o).c := B2
    exact ⟨Kp_of (by decide) (by decide), Kp_of (by decide) (by decide), Kp_of (by decide) (by decide)⟩
  have li : m_llisted 8 [lnD (axl c o)] st = .ok (nL (axl c o)) st := listed_n (n := 6)
  have du : m_ldue 8 [nL (axl c o)] st = .ok (nF (axl c o)) st := due_n (n := 6) kp.1.k kp.2.1.k kp.2.2.k
  have sm := same2_told (st := st) (shw_n kp.1 kp.2.1 kp.2.2) (by omega) (by omega)
  have o1 := lpow_ev (st := st') br hc (by decide) (by decide)
  have o2 := lpow_ev (st := st') br ho (by decide) (by decide)
  have oe := on_axis h on
  rw [← oe] at o2
  have eq2 : eqD (qD (sqR r c.m - c.s)) (qD (sqR r c.m - c.s)) st' = some (.bl true) := by rw [eq_q, decide_eq_true rfl]
  generalize axl c o = L at *
  unfold axC
  simp -implicitDefEqProofs only [seqS_ap]
  simp -implicitDefEqProofs [q1, q2, l1, l2, t0, q_2, t1, t2, r1, r2, lamM_hrd, n1, n2, hrd_n, pick, ee, w1, w2, w3, ln, repF, li, du, sm, e, o1, o2, eq2]
theorem axB_ev {p : Pt} {st : Store} (hc : NC c) (hp : BP 108 3 p) : ∃ x4 x5 x6, axB [.val (.ref 1), .val (lcD c), .val (lcD o), .val (lD p), .un, .un, .un, .un, .un, .un, .un, .un, .un, .un, .un, .un, .un, .un] st = axC [.val (.ref 1), .val (lcD c), .val (lcD o), .val (lD p), x4, x5, x6, .un, .un, .un, .un, .un, .un, .un, .un, .un, .un, .un] st := by
  have w := lpow_ev (st := st) hp hc (by decide) (by decide)
  haveI := hp
  haveI := hc.m
  haveI := hc.s
  have f := five_ev (x := sqR p c.m - c.s) (st := st)
  have s1 := spotK (st := st) hp (by decide) (by decide)
  have r1 := k_nring (st := st) hc
  have B : BQ 240 40 (sqR c.m p) := by
    unfold sqR
    exact bq_up (BQ.bq (x := dotR (wayR c.m p) (wayR c.m p)) inferInstance) (by decide) (by decide)
  haveI := B
  have k : KSq c.m p := by constructor <;> exact K_of (by decide) (by decide)
  have pw := powx_ev (st := st) k (K_of (by decide) (by decide)) (K_of (by decide) (by decide))
  have kp : Kp (sqR c.m p - c.s) := Kp_of (by decide) (by decide)
  rw [sq_comm' (p := p)] at w f
  have sm := same2 (st := st) (shw_f kp) (by omega) (by omega)
  refine ⟨.val (fD (sqR c.m p - c.s)), .val (.lst [eD (sqR c.m p - c.s), eD (sqR c.m p - c.s)]), .un, ?_⟩
  unfold axB
  simp -implicitDefEqProofs only [seqS_ap]
  simp -implicitDefEqProofs [w, f, s1, r1, pw, pick]
  simp -implicitDefEqProofs [compM, compL, wipeD, told_e8, sm]
end
theorem axA_ev {k : Nat} {st : Store} (hk : k + 100 < 2 ^ 40) (dk : Dk k st) : ∃ c o p st', NC c ∧ NC o ∧ BP 108 3 p ∧ Dk (k + 60) st' ∧ axA [.val (.ref 1), .un, .un, .un, .un, .un, .un, .un, .un, .un, .un, .un, .un, .un, .un, .un, .un, .un] st = axB [.val (.ref 1), .val (lcD c), .val (lcD o), .val (lD p), .un, .un, .un, .un, .un, .un, .un, .un, .un, .un, .un, .un, .un, .un] st' := by
  obtain ⟨c, st1, e1, hc, d1⟩ := circle_ev (by omega) dk
  obtain ⟨o, st2, e2, ho, d2⟩ := circle_ev (by omega) d1
  obtain ⟨v, st3, e3, v0, v1, d3⟩ := draw_ev (below := 5) (st := st2) (by decide) (by decide) (by omega) d2
  obtain ⟨p1, st4, e4, b4, d4⟩ := point_ev (by omega) d3
  obtain ⟨q, st5, e5, q5, d5⟩ := around_ev (st := st4) hc (by omega) d4
  have third : ∃ p3 st6, BP 108 3 p3 ∧ Dk (k + 42) st6 ∧ orK (m_laround [.ref 1, lcD c] st4) (fun s => m_lpoint [.ref 1] s) = .ok (lD p3) st6 := by
    rw [e5]
    cases q with
    | none =>
      obtain ⟨p4, st6, e6, b6, d6⟩ := point_ev (by omega) d5
      exact ⟨p4, st6, bp_up b6 (by decide) (by decide), d6.mono (by omega), e6⟩
    | some p =>
      obtain ⟨bp, _⟩ := q5 p rfl
      exact ⟨p, st5, bp, d5.mono (by omega), rfl⟩
  obtain ⟨p3, st6, b3, d6, e6⟩ := third
  obtain ⟨x, st7, e7, m7, d7⟩ := pick_ev (ds := [lD p1, lD c.m, lD p3]) (st := st6) (by simp) (by simp) (by omega) d6
  obtain ⟨p, rfl, bp⟩ : ∃ p, x = lD p ∧ BP 108 3 p := by
    rcases List.mem_cons.mp m7 with z | z
    · exact ⟨p1, z, bp_up b4 (by decide) (by decide)⟩
    · rcases List.mem_cons.mp z with z | z
      · exact ⟨c.m, z, bp_up hc.m (by decide) (by decide)⟩
      · exact ⟨p3, List.mem_singleton.mp z, b3⟩
  have t2 : D.tup [lD c.m, qD o.s] = lcD ⟨c.m, o.s⟩ := rfl
  by_cases h0 : v = 0
  · subst h0
    refine ⟨c, ⟨c.m, o.s⟩, p, st7, hc, ⟨hc.m, ho.s, ho.p⟩, bp, d7.mono (by omega), ?_⟩
    unfold axA
    simp -implicitDefEqProofs only [seqS_ap]
    simp -implicitDefEqProofs [e1, e2, e3, e4, t2, orT_ap, e6, e7]
  · refine ⟨c, o, p, st7, hc, ho, bp, d7.mono (by omega), ?_⟩
    unfold axA
    simp -implicitDefEqProofs only [seqS_ap]
    simp -implicitDefEqProofs [e1, e2, e3, e4, h0, orT_ap, e6, e7]
theorem isaxis_ev {k : Nat} {st : Store} (hk : k + 100 < 2 ^ 40) (dk : Dk k st) : ∃ st', m_lis_axis [.ref 1] st = .ok (.bl true) st' ∧ Dk (k + 70) st' := by
  obtain ⟨c, o, p, st1, hc, ho, bp, d1, e⟩ := axA_ev hk dk
  obtain ⟨x4, x5, x6, e2⟩ := axB_ev (c := c) (o := o) (st := st1) hc bp
  by_cases h : c.m = o.m
  · refine ⟨st1, ?_, d1.mono (by omega)⟩
    rw [u_lis_axis, ax_is, e, e2]
    exact axC_same hc ho h
  · obtain ⟨st', e3, d3⟩ := axC_ev (p := p) (x4 := x4) (x5 := x5) (x6 := x6) (by omega) d1 hc ho h
    refine ⟨st', ?_, d3.mono (by omega)⟩
    rw [u_lis_axis, ax_is, e, e2]
    exact e3
end
end G76
set_option Elab.async false
set_option linter.all false
set_option maxRecDepth 100000
set_option maxHeartbeats 4000000
set_option autoImplicit false
namespace G76
noncomputable section
open PySem PySem.Spec PyProof.Rows L2 Sm
theorem deck_loop {a b : Sl} {st : Store} : ∀ (cs : List Int) (m : Int) (s : Sl), 0 ≤ m → m < 2147483587 → ∃ m' s', forL (setG 3) (setS 2 (op2 modD (callB intB (consM (op2 addD (op2 addD (op2 mulD (varB 2) (cM (.int 39373))) (op2 modD (callB intB (consM (varB 3) nilM)) (cM (.int 2147483629)))) (cM (.int 127))) nilM)) (cM (.int 2147483587)))) (cs.map D.int) [a, b, .val (.int m), s] st = .nx [a, b, .val (.int m'), s'] st ∧ 0 ≤ m' ∧ m' < 2147483587
  | [], m, s, h0, h1 => ⟨m, s, rfl, h0, h1⟩
  | c :: cs, m, s, h0, h1 => by
    have m1 := mulOk_of (i := m) (j := 39373) (m := 31) (n := 16) (abs_lt_pow h0 h1 (by decide)) (by decide) (by omega)
    have z1 : (2147483629 : Int) ≠ 0 := by decide
    have z2 : (2147483587 : Int) ≠ 0 := by decide
    obtain ⟨f0, f1⟩ := fmod_lt (a := m * 39373 + c.fmod 2147483629 + 127) (b := 2147483587) (by decide)
    obtain ⟨m', s', e, q0, q1⟩ := deck_loop cs _ (.val (.int c)) f0 f1
    refine ⟨m', s', ?_, q0, q1⟩
    rw [List.map_cons, ← e]
    refine forL_nx (ρ1 := [a, b, .val (.int m), .val (.int c)]) (st1 := st) ?_ ?_
    · simp
    · simp [mul_int' m1, mod_int'' z1, mod_int'' z2]
theorem ldeck_ev {ns : List Int} (hl : ns.length ≤ 63) : ∃ st, m_ldeck [.lst (ns.map D.int)] [] = .ok (.ref 1) st ∧ Dk 0 st := by
  obtain ⟨cs, hc, hcl⟩ : ∃ cs : List Int, Sm.cutD (ns.map D.int) none (some 63) = cs.map D.int ∧ cs.length ≤ 63 := by
    refine ⟨(ns.drop (HT.sIx ns.length 0 none)).take (HT.sIx ns.length ns.length (some 63) - HT.sIx ns.length 0 none), ?_, ?_⟩
    · unfold Sm.cutD
      rw [List.length_map, List.map_take, List.map_drop]
    · rw [List.length_take, List.length_drop]
      omega
  obtain ⟨m', s', e, q0, q1⟩ := deck_loop (a := .val (.lst (ns.map D.int))) (b := .val (.lst (cs.map D.int))) (st := []) cs 20137076 .un (by decide) (by decide)
  refine ⟨dkS cs.reverse m' 0, ?_, cs.reverse, m', 0, rfl, q0, by omega, by omega, by omega, by rw [List.length_reverse]; omega⟩
  show fin (b_ldeck [.val (.lst (ns.map D.int)), .un, .un, .un] []) = _
  have sl : slM (varB 0) (cM none) (partM (cM (.int 63))) [.val (.lst (ns.map D.int)), .un, .un, .un] [] = .ok (cs.map D.int) [] := by
    show (match lstOf (.lst (ns.map D.int)) [] with
      | some ds => Res.ok (Sm.cutD ds none (some 63)) []
      | none => .fail) = _
    rw [← hc]
    rfl
  have rv : revM (varB 1) [.val (.lst (ns.map D.int)), .val (.lst (cs.map D.int)), .val (.int m'), s'] [] = .ok (cs.map D.int).reverse [] := rfl
  have a0 : parS 1 2 (consM (frzM (callBF listB (consM (frzM (slM (varB 0) (cM none) (partM (cM (.int 63))))) nilM))) (consM (cM (.int 20137076)) nilM)) [.val (.lst (ns.map D.int)), .un, .un, .un] [] = .nx [.val (.lst (ns.map D.int)), .val (.lst (cs.map D.int)), .val (.int 20137076), .un] [] := by
    simp [callBF, sl, listB, seqOf]
  unfold b_ldeck
  rw [seqS_ap, a0, then_nx, seqS_ap, forS_ap]
  simp only [seqW_ap, varM_succ, varM_zero, bind_ok, seqR_lst, toS_ok]
  rw [e, then_nx]
  have nd : (["rest", "mixed", "draws"] : List Str).Nodup := by decide
  simp [dictM, rv, nd, dkS]
def turnT : SM := (ifS (orM (notM (tst (callM m_lis_by_three 1 1 (fun ds _ => ds) (consM (varM 1) nilM)))) (orM (notM (tst (callM m_lis_axis 1 1 (fun ds _ => ds) (consM (varM 1) nilM)))) (notM (tst (callM m_lis_far 1 1 (fun ds _ => ds) (consM (varM 1) nilM))))))
 (retS (cM (.bl false)))
 nilS)
theorem law_is : b_law = (seqS (setS 1 (callM m_ldeck 1 1 (fun ds _ => ds) (consM (varM 0) nilM)))
 (seqS (forS (rng1W (consM (cM (.int 4)) nilM)) (setG 2) turnT)
 (retS (cM (.bl true))))) := rfl
theorem law_ev {ns : List Int} (hl : ns.length ≤ 63) : ∃ st, m_law [.lst (ns.map D.int)] [] = .ok (.bl true) st := by
  obtain ⟨st0, e0, d0⟩ := ldeck_ev hl
  obtain ⟨ρ2, st2, e, d2, x2, rfl⟩ := forL_inv (g := setG 2) (b := turnT) (N := 4) (P := fun i ρ st => Dk (200 * i) st ∧ ∃ x2 : Sl, ρ = [.val (.lst (ns.map D.int)), .val (.ref 1), x2]) (by
    rintro i d ρ st hi ⟨dk, x2, rfl⟩
    obtain ⟨st1, e1, d1⟩ := three_ev (by omega) dk
    obtain ⟨st2, e2, d2⟩ := isaxis_ev (by omega) d1
    obtain ⟨st3, e3, d3⟩ := isfar_ev (by omega) d2
    refine ⟨[.val (.lst (ns.map D.int)), .val (.ref 1), .val d], st, [.val (.lst (ns.map D.int)), .val (.ref 1), .val d], st3, rfl, ?_, d3.mono (by omega), _, rfl⟩
    unfold turnT
    simp -implicitDefEqProofs [e1, e2, e3]) [.int 0, .int 1, .int 2, .int 3] 0 [.val (.lst (ns.map D.int)), .val (.ref 1), .un] st0 (by decide) ⟨d0, _, rfl⟩
  refine ⟨st2, ?_⟩
  show fin (b_law [.val (.lst (ns.map D.int)), .un, .un] []) = _
  rw [law_is, seqS_ap]
  have a0 : setS 1 (callM m_ldeck 1 1 (fun ds _ => ds) (consM (varM 0) nilM)) [.val (.lst (ns.map D.int)), .un, .un] [] = .nx [.val (.lst (ns.map D.int)), .val (.ref 1), .un] st0 := by
    simp [e0]
  have a1 : ∀ ρ st, rng1W (consM (cM (.int 4)) nilM) ρ st = .ok [.int 0, .int 1, .int 2, .int 3] st := fun _ _ => rfl
  rw [a0, then_nx, seqS_ap, forS_ap, a1, toS_ok, e, then_nx]
  rfl
end
end G76
set_option Elab.async false
set_option linter.all false
set_option maxRecDepth 100000
set_option maxHeartbeats 0
set_option autoImplicit false
namespace G76
open PySem PySem.Spec PyProof.Rows L2 Sm
def adr : List Addr := [3, 6, 4, 21, 31, 44, 56, 75, 87, 99, 109, 116, 123, 361, 130, 137, 144, 151, 156, 245, 256, 263, 270, 277, 284, 291, 298, 305, 312, 319, 326, 333, 340, 347, 354, 366, 373, 380, 387, 394, 401, 408, 415, 422, 429, 436, 443, 450, 457, 464, 471, 478, 485, 492, 499, 506, 513, 520, 525, 530, 537, 544, 551, 556, 563, 570, 577, 584, 591, 598, 605, 612, 619, 626, 633, 640, 645, 650, 655, 662, 0, 20, 30, 43, 55, 74, 86, 98, 108, 115, 122, 360, 129, 136, 143, 150, 155, 244, 255, 262, 269, 276, 283, 290, 297, 304, 311, 318, 325, 332, 339, 346, 353, 365, 372, 379, 386, 393, 400, 407, 414, 421, 428, 435, 442, 449, 456, 463, 470, 477, 484, 491, 498, 505, 512, 519, 524, 529, 536, 543, 550, 555, 562, 569, 576, 583, 590, 597, 604, 611, 618, 625, 632, 639, 644, 649, 654, 661, 15, 16, 17, 18, 19, 29, 32, 42, 54, 72, 73, 85, 97, 100, 103, 104, 105, 106, 107, 110, 111, 112, 113, 114, 117, 118, 119, 120, 121, 355, 356, 357, 358, 359, 124, 125, 126, 127, 128, 131, 132, 133, 134, 135, 138, 139, 140, 141, 142, 145, 146, 147, 148, 149, 152, 153, 154, 172, 179, 186, 193, 200, 207, 214, 221, 228, 235, 242, 243, 246, 247, 250, 251, 252, 253, 254, 257, 258, 259, 260, 261, 264, 265, 266, 267, 268, 271, 272, 273, 274, 275, 278, 279, 280, 281, 282, 285, 286, 287, 288, 289, 292, 293, 294, 295, 296, 299, 300, 301, 302, 303, 306, 307, 308, 309, 310, 313, 314, 315, 316, 317, 320, 321, 322, 323, 324, 327, 328, 329, 330, 331, 334, 335, 336, 337, 338, 341, 342, 343, 344, 345, 348, 349, 350, 351, 352, 362, 363, 364, 367, 368, 369, 370, 371, 374, 375, 376, 377, 378, 381, 382, 383, 384, 385, 388, 389, 390, 391, 392, 395, 396, 397, 398, 399, 402, 403, 404, 405, 406, 409, 410, 411, 412, 413, 416, 417, 418, 419, 420, 423, 424, 425, 426, 427, 430, 431, 432, 433, 434, 437, 438, 439, 440, 441, 444, 445, 446, 447, 448, 451, 452, 453, 454, 455, 458, 459, 460, 461, 462, 465, 466, 467, 468, 469, 472, 473, 474, 475, 476, 479, 480, 481, 482, 483, 486, 487, 488, 489, 490, 493, 494, 495, 496, 497, 500, 501, 502, 503, 504, 507, 508, 509, 510, 511, 514, 515, 516, 517, 518, 521, 522, 523, 526, 527, 528, 531, 532, 533, 534, 535, 538, 539, 540, 541, 542, 545, 546, 547, 548, 549, 552, 553, 554, 557, 558, 559, 560, 561, 564, 565, 566, 567, 568, 571, 572, 573, 574, 575, 578, 579, 580, 581, 582, 585, 586, 587, 588, 589, 592, 593, 594, 595, 596, 599, 600, 601, 602, 603, 606, 607, 608, 609, 610, 613, 614, 615, 616, 617, 620, 621, 622, 623, 624, 627, 628, 629, 630, 631, 634, 635, 636, 637, 638, 641, 642, 643, 646, 647, 648, 651, 652, 653, 656, 657, 658, 659, 660, 71, 171, 164, 165, 178, 185, 192, 199, 206, 213, 220, 227, 234, 241, 66, 67, 68, 69, 70, 166, 167, 168, 169, 170, 173, 174, 175, 176, 177, 180, 181, 182, 183, 184, 187, 188, 189, 190, 191, 194, 195, 196, 197, 198, 201, 202, 203, 204, 205, 208, 209, 210, 211, 212, 215, 216, 217, 218, 219, 222, 223, 224, 225, 226, 229, 230, 231, 232, 233, 236, 237, 238, 239, 240]
abbrev R : PySem.W.OpenRow := PySem.W.OpenLaw.row rw
abbrev hk : PySem.W.Hook := hookM adr fa fn mk exB
def ob (s : PySem.W.SharedT) : AlM := obsM adr fa fn mk exB (HandSHeadRun.getT s)
theorem ob_eq (s : PySem.W.SharedT) : ob s = hk.obs s.abs := obsM_eq (HandSHeadRun.getT_eq s)
def lo0 : List Str := [("_wall" : Str), ("PointError" : Str), ("NoExact" : Str), ("NoLine" : Str), ("TwoRoots" : Str), ("NoCircle" : Str), ("NoBottom" : Str), ("is_whole" : Str), ("lowest" : Str), ("whole_root" : Str), ("root_of" : Str), ("root_of_exacts" : Str)]
def lo1 : List Str := [("sign_in" : Str), ("sum_of" : Str), ("product_of" : Str), ("are_right" : Str), ("Exact" : Str), ("fields_of" : Str), ("quotient" : Str), ("opposite" : Str), ("shared_radix" : Str), ("made_of" : Str), ("shown_quotient" : Str), ("shown" : Str)]
def lo2 : List Str := [("way_between" : Str), ("dot" : Str), ("cross" : Str), ("gone" : Str), ("scaled_line" : Str), ("line_by" : Str), ("lines_meet" : Str), ("middle_of" : Str), ("root_of_plane" : Str), ("with_roots" : Str), ("must_agree" : Str), ("square_of" : Str)]
def lo3 : List Str := [("upright_middle" : Str), ("circle_by" : Str), ("power_of" : Str), ("axis_of" : Str), ("far_root" : Str), ("root_number" : Str), ("_law_deck" : Str), ("_law_draw" : Str), ("_law_pick" : Str), ("_law_same" : Str), ("_law_is_whole" : Str), ("_law_number" : Str)]
def lo4 : List Str := [("_law_plus" : Str), ("_law_times" : Str), ("_law_minus" : Str), ("_law_by" : Str), ("_law_sign" : Str), ("_law_root_of" : Str), ("_law_five" : Str), ("_law_read" : Str), ("_law_told" : Str), ("_law_due" : Str), ("_law_exact" : Str), ("_law_spot" : Str)]
def lo5 : List Str := [("_law_ring" : Str), ("_law_listed" : Str), ("_law_coordinate" : Str), ("_law_point" : Str), ("_law_square_way" : Str), ("_law_line" : Str), ("_law_through" : Str), ("_law_turns" : Str), ("_law_on" : Str), ("_law_drawn_circle" : Str), ("_law_around" : Str), ("_law_heard" : Str)]
def lo6 : List Str := [("_law_by_three" : Str), ("_law_power" : Str), ("_law_is_by_three" : Str), ("_law_is_axis" : Str), ("_law_is_far" : Str)]
abbrev loose : List Str := lo0 ++ lo1 ++ lo2 ++ lo3 ++ lo4 ++ lo5 ++ lo6
theorem run (w : World) : HandSHeadRun.RunEq R (PySem.W.view R.prog [83]) hk ob 6000 loose w := by
  intro os
  kernel_rfl
end G76
set_option Elab.async false
set_option linter.all false
set_option maxRecDepth 100000
set_option maxHeartbeats 0
set_option autoImplicit false
namespace G76
open PySem PySem.Spec PyProof.Rows L2 Sm
theorem code_at {K : Frg} {p : Str × Option Str} {c : Addr} {fd : FuncData} {oc : Value} {od : Option Addr} {osl : Array (Option Value)} (h : codeAtB K p c = true) (lk : K.lookup (He.fAd K p) = some ⟨oc, od, .func fd, osl⟩) : fd.code = .ref c := by
  unfold codeAtB at h
  rw [lk] at h
  dsimp only at h
  split at h
  · rename_i c' e
    rw [e, Nat.eq_of_beq_eq_true h]
  · cases h
theorem facts {P : Program} {w : World} {K : Frg} {cs : List (Addr × Addr)} {h : Heap} {mg : Str → Option Value} {f : Addr} (c : SaysM fa fn mk exB K cs h) (G : h.Ns mainGlobals mg) (hf : mg ("law" : Str) = some (.ref f)) :
    ∃ (fd : FuncData) (S : Sta), (∀ p ∈ S.T, p.1 ∈ cs.map (·.2)) ∧ (∀ (s : Shared) (u : Value), BindsTo s fd ⟨[u], []⟩ [("script", u)]) ∧
      ∀ base : Heap, K.In base → base.Ns mainGlobals mg → (∀ p ∈ cs, LamX.TabB base mg p.1 p.2) → FnSem P w K mg base S 16 f fd ["script"] m_law := by
  have kn : Kn K mg := ⟨h, cs, G, c⟩
  have e := hf.symm.trans (g_law kn)
  cases e
  obtain ⟨g, hcs, hg⟩ := c.c
  have nd := c.nd
  rw [hcs] at nd
  have hT0 : ∀ p ∈ ([((g ("_law_is_by_three", none)).2, lamQ_lis_by_three), ((g ("_law_is_axis", none)).2, lamQ_lis_axis)] : List (Addr × Str)), p.1 ∈ cs.map (·.2) := by
    rw [hcs]
    simp [mk]
  have mkOk : ∀ base : Heap, (∀ p ∈ cs, LamX.TabB base mg p.1 p.2) → MkOk K mg base [((g ("_law_is_by_three", none)).2, lamQ_lis_by_three), ((g ("_law_is_axis", none)).2, lamQ_lis_axis)] := fun base hT => by
    refine ⟨?_, ?_⟩
    · obtain ⟨fd, D⟩ := d_lis_by_three kn
      have hcd := hg ("_law_is_by_three", none) (by simp [mk])
      obtain ⟨oc, od, dV, kV, doc, pm, an, cdv, ct, osl, e1, lk, _⟩ := D.ex
      refine ⟨fd, (g ("_law_is_by_three", none)).1, (g ("_law_is_by_three", none)).2, D, hT _ (by rw [hcs]; simp [mk]), code_at hcd lk, by simp, fun p hp e => ?_⟩
      have nd2 : [(g ("_law_is_by_three", none)).2, (g ("_law_is_axis", none)).2].Nodup := nd
      have ne : (g ("_law_is_by_three", none)).2 ≠ (g ("_law_is_axis", none)).2 := fun z => (List.nodup_cons.mp nd2).1 (List.mem_singleton.mpr z)
      clear nd nd2
      rcases List.mem_cons.mp hp with hp | hp
      · rw [hp]
      · have hp := List.mem_singleton.mp hp
        rw [hp] at e
        exact absurd e.symm ne
    · obtain ⟨fd, D⟩ := d_lis_axis kn
      have hcd := hg ("_law_is_axis", none) (by simp [mk])
      obtain ⟨oc, od, dV, kV, doc, pm, an, cdv, ct, osl, e1, lk, _⟩ := D.ex
      refine ⟨fd, (g ("_law_is_axis", none)).1, (g ("_law_is_axis", none)).2, D, hT _ (by rw [hcs]; simp [mk]), code_at hcd lk, by simp, fun p hp e => ?_⟩
      have nd2 : [(g ("_law_is_by_three", none)).2, (g ("_law_is_axis", none)).2].Nodup := nd
      have ne : (g ("_law_is_by_three", none)).2 ≠ (g ("_law_is_axis", none)).2 := fun z => (List.nodup_cons.mp nd2).1 (List.mem_singleton.mpr z)
      clear nd nd2
      rcases List.mem_cons.mp hp with hp | hp
      · rw [hp] at e
        exact absurd e ne
      · have hp := List.mem_singleton.mp hp
        rw [hp]
  obtain ⟨fd, D⟩ := d_law kn
  refine ⟨fd, Sx [((g ("_law_is_by_three", none)).2, lamQ_lis_by_three), ((g ("_law_is_axis", none)).2, lamQ_lis_axis)], hT0, fun s v => FunD.bindsA (ps := ["script"]) D (fun _ _ _ _ _ _ us hl => match us, hl with | [_], _ => rfl) s [v] rfl, fun base hK hN hT => ?_⟩
  obtain ⟨fd', D', _, F⟩ := ok_law (P := P) (w := w) (base := base) (T := [((g ("_law_is_by_three", none)).2, lamQ_lis_by_three), ((g ("_law_is_axis", none)).2, lamQ_lis_axis)]) kn (mkOk base hT)
  obtain ⟨_, _, _, _, _, _, _, _, _, _, e1, l1, _⟩ := D.ex
  obtain ⟨_, _, _, _, _, _, _, _, _, _, e2, l2, _⟩ := D'.ex
  rw [l1] at l2
  have : fd = fd' := by
    have := Option.some.inj l2
    injection this with _ _ z _
    injection z
  subst this
  exact F
end G76
open PySem PySem.W PySem.Calls PyProof.Rows
set_option maxRecDepth 100000 in
set_option maxHeartbeats 0 in
theorem PySem.Challenge.cw_pointhalls_k76_circles_by_points_holds : PySem.Challenge.rw_pointhalls_k76_circles_by_points.Holds := by
  w_on; o_law
  refine HandSHeadRun.head_any (r := OpenLaw.row PySem.Challenge.rw_pointhalls_k76_circles_by_points) (q := view (OpenLaw.row PySem.Challenge.rw_pointhalls_k76_circles_by_points).prog [83]) (H := G76.hk) (ob := G76.ob) (M := 6000) (loose := G76.loose) (d := HandSHeadRun.topDef (OpenLaw.row PySem.Challenge.rw_pointhalls_k76_circles_by_points).prog 83) (kwd := []) G76.ob_eq
    (by kernel_rfl) (fun s => by kernel_rfl) G76.run (by kernel_rfl) (by kernel_rfl) (by kernel_rfl) (by rfl) (by first | assumption | decide +kernel) (by decide +kernel) ⟨rfl, rfl, rfl, rfl, rfl, by decide +kernel⟩ ?hw ?hc
  case hw => w_witness2
  case hc =>
    refine Sm.walk_ofM (l := PySem.Challenge.rw_pointhalls_k76_circles_by_points) (n := 63) (k := 16) (x := "script") (m := G76.m_law) rfl (by decide) (by kernel_rfl) ⟨rfl, by decide, by decide⟩ ?F (fun ns hl _ => G76.law_ev hl)
    intro w mg f h K cs Y G hmg0
    have hmg : mg ("law" : PySem.Str) = some (.ref f) := by
      have e : (HandSHeadRun.topDef (OpenLaw.row PySem.Challenge.rw_pointhalls_k76_circles_by_points).prog 83).name = ("law" : PySem.Str) := by kernel_rfl
      rw [← e]
      exact hmg0
    exact G76.facts Y G hmg
