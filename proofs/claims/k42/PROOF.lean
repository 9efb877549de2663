import PyProof.Rows.All
import Wide.All
import OpenK.AllK
import Wide.FinOn
import HandS.ForMost
import HandS.IsInst
import HandS.Defaults
import HandS.SortInts
import PySem.Challenge.RW_mendnumber_k42_whole_rings_under_changes
import HandS.Slots
import HandS.SlotsOwn
import HandS.Property
import KE.KStateDown
import Lean
import HandS.Base
import HandS.Call
import HandS.Ends
import HandS.More
import HandS.Words
import HandS.WordsExc
import HandS.Head0
import HandS.Head1
import HandS.Head2
import HandS.HeadEnd
import HandS.HeadHook1
import HandS.HeadHook2
import HandS.SetFor
import HandS.Strs
import HandS.Zip
import PyProof.SumAnyB
import KE.DataMinMax
import HandS.Deep
import HandS.DictComp
import HandS.ListItems
import HandS.SetBool
import HandS.SortKw
import KE.KDictKeyed
import KE.KDictDisplayH
import KE.KeyNested
import HandS.SetKeys
import HandS.TupLen
import HandS.DictSubView
import KE.KDictWalk
import HandS.GenList
import HandS.Wide
import KE.KDictList
import HandS.Conv
import HandS.Codes
import KE.GoesEnum
import HandS.SortRule
section
set_option Elab.async false
set_option linter.all false
set_option maxRecDepth 100000
/-! Zb: the base of this proof's walk over the hand layer. The heap is split: B holds what nobody changes any more, M what the running code still changes. -/
namespace Zb
open PySem PySem.Spec PyProof.Rows L2

/-! ### two heaps side by side -/
def jn (B M : Hp) : Hp := fun a => match M a with
  | some o => some o
  | none => B a
def Dj (B M : Hp) : Prop := ∀ a o, B a = some o → M a = none
theorem jn_m {B M : Hp} {a : Addr} {o : HO} (h : M a = some o) : jn B M a = some o := by
  simp only [jn, h]
theorem jn_n {B M : Hp} {a : Addr} (h : M a = none) : jn B M a = B a := by
  simp only [jn, h]
theorem jn_b {B M : Hp} (d : Dj B M) {a : Addr} {o : HO} (h : B a = some o) : jn B M a = some o := by
  rw [jn_n (d a o h), h]
theorem jn_none {B M : Hp} {a : Addr} (h : jn B M a = none) : M a = none ∧ B a = none := by
  cases e : M a with
  | some o => rw [jn_m e] at h; cases h
  | none => rw [jn_n e] at h; exact ⟨rfl, h⟩
theorem jn_free {B M : Hp} {a : Addr} (h : M a = none) (k : B a = none) : jn B M a = none := by rw [jn_n h, k]
theorem same_b {B M : Hp} (d : Dj B M) : Same B (jn B M) := fun _ _ h => jn_b d h
theorem same_new {B : Hp} {p : Addr} {o : HO} (h : B p = none) : Same B (upd B p o) := fun a u e => by
  rw [upd_ne (ne_of_none e h)]
  exact e
theorem jn_updB {B M : Hp} {p : Addr} {o : HO} (h : M p = none) : upd (jn B M) p o = jn (upd B p o) M := by
  funext a
  by_cases q : a = p
  · subst q
    rw [upd_same, jn_n h, upd_same]
  · rw [upd_ne q]
    unfold jn
    rw [upd_ne q]
theorem jn_updM {B M : Hp} {p : Addr} {o : HO} : upd (jn B M) p o = jn B (upd M p o) := by
  funext a
  by_cases q : a = p
  · subst q
    rw [upd_same, jn_m upd_same]
  · rw [upd_ne q]
    unfold jn
    rw [upd_ne q]
theorem dj_b {B M : Hp} {p : Addr} {o : HO} (d : Dj B M) (h : M p = none) : Dj (upd B p o) M := fun a u e => by
  by_cases q : a = p
  · rw [q]; exact h
  · rw [upd_ne q] at e
    exact d a u e
theorem dj_m {B M : Hp} {p : Addr} {o : HO} (d : Dj B M) (h : B p = none) : Dj B (upd M p o) := fun a u e => by
  rw [upd_ne (ne_of_none e h)]
  exact d a u e
theorem upd_none {H : Hp} {p a : Addr} {o : HO} (h : upd H p o a = none) : H a = none ∧ a ≠ p := by
  by_cases q : a = p
  · rw [q, upd_same] at h; cases h
  · rw [upd_ne q] at h; exact ⟨h, q⟩
/-- what M held at p alone goes over into B: the heap is the same -/
theorem jn_pub {B M : Hp} {p : Addr} {o : HO} (h : M p = none) : jn B (upd M p o) = jn (upd B p o) M := by rw [← jn_updM, jn_updB h]
theorem dj_none {B M : Hp} {p : Addr} {o : HO} (d : Dj B M) (h : M p = some o) : B p = none := by
  cases e : B p with
  | none => rfl
  | some u => rw [d p u e] at h; cases h
theorem upd_again {H : Hp} {p : Addr} {o u : HO} : upd (upd H p o) p u = upd H p u := upd_upd

/-! ### what represents data: a predicate of a value that the growth of B keeps -/
structure Up where
  p : V → Hp → Prop
  up : ∀ {v : V} {B B' : Hp}, Same B B' → p v B → p v B'
def isV (x : V) : Up := ⟨fun v _ => v = x, fun _ h => h⟩
abbrev rInt (i : Int) : Up := isV (.int i)
abbrev rNat (n : Nat) : Up := isV (.int (n : Int))
abbrev rBl (b : Bool) : Up := isV (.bl b)
/-- a text by its codes -/
def tx (w : List Nat) : Str := ⟨w.toArray⟩
abbrev rTx (w : List Nat) : Up := isV (.str (tx w))
abbrev rNon : Up := isV .non
/-- items one by one -/
def Al {α : Type} (R : α → Up) (xs : List α) (vs : List V) (B : Hp) : Prop := Paired (fun x v => (R x).p v B) xs vs
theorem Al.up {α : Type} {R : α → Up} {B B' : Hp} (s : Same B B') : ∀ {xs : List α} {vs : List V}, Al R xs vs B → Al R xs vs B'
  | _, _, .nil => .nil
  | _, _, .cons h t => .cons ((R _).up s h) (Al.up s t)
theorem Al.length {α : Type} {R : α → Up} {B : Hp} {xs : List α} {vs : List V} (h : Al R xs vs B) : xs.length = vs.length := Paired.length h
theorem Al.get {α : Type} {R : α → Up} {B : Hp} : ∀ {xs : List α} {vs : List V} {i : Nat} {x : α}, Al R xs vs B → xs[i]? = some x → ∃ v, vs[i]? = some v ∧ (R x).p v B
  | _, _, 0, _, .cons h _, e => by
    simp at e
    subst e
    exact ⟨_, rfl, h⟩
  | _, _, i + 1, x, .cons _ t, e => by
    obtain ⟨v, a, b⟩ := Al.get (i := i) (x := x) t (by simpa using e)
    exact ⟨v, by simpa using a, b⟩
theorem Al.snoc {α : Type} {R : α → Up} {B : Hp} {x : α} {v : V} (hx : (R x).p v B) : ∀ {xs : List α} {vs : List V}, Al R xs vs B → Al R (xs ++ [x]) (vs ++ [v]) B
  | _, _, .nil => .cons hx .nil
  | _, _, .cons h t => .cons h (Al.snoc hx t)
theorem Al.isV {α : Type} {f : α → V} {B : Hp} : ∀ {xs : List α} {vs : List V}, Al (fun x => isV (f x)) xs vs B → vs = xs.map f
  | _, _, .nil => rfl
  | _, _, .cons h t => by
    rw [List.map_cons, ← Al.isV t]
    exact congrArg (· :: _) h
theorem Al.ofV {α : Type} {f : α → V} {B : Hp} : ∀ (xs : List α), Al (fun x => Zb.isV (f x)) xs (xs.map f) B
  | [] => .nil
  | x :: xs => .cons rfl (Al.ofV xs)
theorem Al.map {α β : Type} {R : β → Up} {f : α → β} {B : Hp} : ∀ {xs : List α} {vs : List V}, Al (fun x => R (f x)) xs vs B → Al R (xs.map f) vs B
  | _, _, .nil => .nil
  | _, _, .cons h t => .cons h (Al.map t)
theorem Al.map' {α β : Type} {R : β → Up} {f : α → β} {B : Hp} : ∀ {xs : List α} {vs : List V}, Al R (xs.map f) vs B → Al (fun x => R (f x)) xs vs B
  | [], _, h => by cases h; exact .nil
  | x :: xs, _, h => by
    cases h with
    | cons a b => exact .cons a (Al.map' b)
theorem Al.append {α : Type} {R : α → Up} {B : Hp} : ∀ {xs ys : List α} {vs ws : List V}, Al R xs vs B → Al R ys ws B → Al R (xs ++ ys) (vs ++ ws) B
  | _, _, _, _, .nil, k => k
  | _, _, _, _, .cons h t, k => .cons h (Al.append t k)
theorem Al.drop {α : Type} {R : α → Up} {B : Hp} : ∀ {xs : List α} {vs : List V} (n : Nat), Al R xs vs B → Al R (xs.drop n) (vs.drop n) B
  | _, _, 0, h => h
  | _, _, _ + 1, .nil => .nil
  | _, _, n + 1, .cons _ t => Al.drop n t
theorem Al.take {α : Type} {R : α → Up} {B : Hp} : ∀ {xs : List α} {vs : List V} (n : Nat), Al R xs vs B → Al R (xs.take n) (vs.take n) B
  | _, _, 0, _ => .nil
  | _, _, _ + 1, .nil => .nil
  | _, _, n + 1, .cons h t => .cons h (Al.take n t)
theorem Al.mem {α : Type} {R S : α → Up} {B : Hp} : ∀ {xs : List α} {vs : List V}, Al R xs vs B → (∀ x ∈ xs, ∀ v, (R x).p v B → (S x).p v B) → Al S xs vs B
  | _, _, .nil, _ => .nil
  | _, _, .cons h t, k => .cons (k _ (List.mem_cons_self ..) _ h) (Al.mem t fun x m => k x (List.mem_cons_of_mem _ m))

/-- a list, a tuple of like items -/
def rLst {α : Type} (R : α → Up) (xs : List α) : Up := ⟨fun v B => ∃ a vs, v = .ref a ∧ B a = some (.lst vs) ∧ Al R xs vs B, fun s ⟨a, vs, e, h, k⟩ => ⟨a, vs, e, s _ _ h, k.up s⟩⟩
def rTup {α : Type} (R : α → Up) (xs : List α) : Up := ⟨fun v B => ∃ a vs, v = .ref a ∧ B a = some (.tup vs) ∧ Al R xs vs B, fun s ⟨a, vs, e, h, k⟩ => ⟨a, vs, e, s _ _ h, k.up s⟩⟩
/-- a pair, a triple (tuples of unlike items) -/
def rPr {α β : Type} (R : α → Up) (S : β → Up) (x : α × β) : Up := ⟨fun v B => ∃ a y z, v = .ref a ∧ B a = some (.tup [y, z]) ∧ (R x.1).p y B ∧ (S x.2).p z B,
  fun s ⟨a, y, z, e, h, k, l⟩ => ⟨a, y, z, e, s _ _ h, (R x.1).up s k, (S x.2).up s l⟩⟩
def rTr {α β γ : Type} (R : α → Up) (S : β → Up) (T : γ → Up) (x : α × β × γ) : Up := ⟨fun v B => ∃ a y z u, v = .ref a ∧ B a = some (.tup [y, z, u]) ∧ (R x.1).p y B ∧ (S x.2.1).p z B ∧ (T x.2.2).p u B,
  fun s ⟨a, y, z, u, e, h, k, l, m⟩ => ⟨a, y, z, u, e, s _ _ h, (R x.1).up s k, (S x.2.1).up s l, (T x.2.2).up s m⟩⟩
/-- a dict from signs to states, frozen for ever: it may be walked at any time -/
abbrev Row : Type := List (Nat × Nat)
def rowK (r : Row) : List (Key × V) := r.map fun q => (Sum.inr (tx [q.1]), .int (q.2 : Int))
def rRow (r : Row) : Up := ⟨fun v B => ∃ d od, v = .ref d ∧ B d = some (.frz od (.dK (rowK r))), fun s ⟨d, od, e, h⟩ => ⟨d, od, e, s _ _ h⟩⟩

/-! ### what evaluates to what: only B grows -/
def Ev (te : TE) (σ : L2.St) (M B : Hp) (U : Up) : Prop := ∀ M1 B1, Same M M1 → Same B B1 → Dj B1 M1 → ∀ Q : VK, (∀ v B2, Same B1 B2 → Dj B2 M1 → U.p v B2 → Q v (jn B2 M1)) → te σ (jn B1 M1) Q
def EvT (tt : TT) (σ : L2.St) (M B : Hp) (b : Bool) : Prop := ∀ M1 B1, Same M M1 → Same B B1 → Dj B1 M1 → ∀ Q : Bool → Hp → Prop, (∀ B2, Same B1 B2 → Dj B2 M1 → Q b (jn B2 M1)) → tt σ (jn B1 M1) Q
def EvA (ta : TA) (σ : L2.St) (M B : Hp) (us : List Up) : Prop := ∀ M1 B1, Same M M1 → Same B B1 → Dj B1 M1 → ∀ Q : List V → Hp → Prop, (∀ vs B2, Same B1 B2 → Dj B2 M1 → Al id us vs B2 → Q vs (jn B2 M1)) → ta σ (jn B1 M1) Q
/-- a new list, not yet given out -/
def EvN (te : TE) (σ : L2.St) (M B : Hp) (W : List V → Hp → Prop) : Prop := ∀ M1 B1, Same M M1 → Same B B1 → Dj B1 M1 → ∀ Q : VK,
  (∀ p vs B2, Same B1 B2 → Dj B2 M1 → M1 p = none → B2 p = none → W vs B2 → Q (.ref p) (jn B2 (upd M1 p (.lst vs)))) → te σ (jn B1 M1) Q
/-- what is walked: us the things that its turns give -/
structure Wk (J : It) (B0 : Hp) (us : List Up) : Prop where
  go : ∀ i M B, Same B0 B → Dj B M → i < us.length → J.go i (jn B M)
  yl : ∀ i u M B x H', us[i]? = some u → Same B0 B → Dj B M → J.yld i (jn B M) x H' → ∃ B', Same B B' ∧ Dj B' M ∧ H' = jn B' M ∧ u.p x B'
  st : ∀ M B, Same B0 B → Dj B M → J.stop us.length (jn B M)
def EvI (wi : TI) (σ : L2.St) (M B : Hp) (us : List Up) : Prop := ∀ M1 B1, Same M M1 → Same B B1 → Dj B1 M1 → ∀ R : It → Hp → Prop, (∀ J B2, Same B1 B2 → Dj B2 M1 → Wk J B2 us → R J (jn B2 M1)) → wi σ (jn B1 M1) R

section
variable {σ : L2.St} {M M' B B' : Hp} {te ta tb tc : TE} {t u : TT} {U W : Up}
theorem Ev.mono (m : Same M M') (b : Same B B') (h : Ev te σ M B U) : Ev te σ M' B' U := fun M1 B1 m1 b1 d Q q => h M1 B1 (m.trans m1) (b.trans b1) d Q q
theorem Ev.to (h : Ev te σ M B U) (k : ∀ v B2, Same B B2 → U.p v B2 → W.p v B2) : Ev te σ M B W := fun M1 B1 m b d Q q => h M1 B1 m b d Q fun v B2 b2 d2 hv => q v B2 b2 d2 (k v B2 (b.trans b2) hv)
theorem EvT.mono {b : Bool} (m : Same M M') (s : Same B B') (h : EvT t σ M B b) : EvT t σ M' B' b := fun M1 B1 m1 b1 d Q q => h M1 B1 (m.trans m1) (s.trans b1) d Q q
theorem EvT.to {b c : Bool} (h : EvT t σ M B b) (e : b = c) : EvT t σ M B c := e ▸ h
theorem EvA.mono {ta : TA} {us : List Up} (m : Same M M') (s : Same B B') (h : EvA ta σ M B us) : EvA ta σ M' B' us := fun M1 B1 m1 b1 d Q q => h M1 B1 (m.trans m1) (s.trans b1) d Q q
theorem ev_v {i : Nat} {v : V} (h : σ[i]? = some (some v)) (k : U.p v B) : Ev (tVar i) σ M B U := fun M1 B1 _ b d Q q => ⟨v, h, q v B1 (Same.refl _) d (U.up b k)⟩
theorem ev_c {x : V} : Ev (tC x) σ M B (isV x) := fun M1 B1 _ b d Q q => q x B1 (Same.refl _) d rfl
/-- two values, then an operation that looks at the heap alone -/
theorem ev_op {r : R2} {Ua Ub : Up} (ha : Ev ta σ M B Ua) (hb : Ev tb σ M B Ub) (hr : ∀ x y M1 B1, Same M M1 → Same B B1 → Dj B1 M1 → Ua.p x B1 → Ub.p y B1 → ∀ Q : VK, (∀ v B2, Same B1 B2 → Dj B2 M1 → U.p v B2 → Q v (jn B2 M1)) → r x y (jn B1 M1) Q) :
    Ev (tOp r ta tb) σ M B U := fun M1 B1 m b d Q q => ha M1 B1 m b d _ fun x B2 b2 d2 hx => hb M1 B2 m (b.trans b2) d2 _ fun y B3 b3 d3 hy =>
  hr x y M1 B3 m (b.trans (b2.trans b3)) d3 (Ua.up b3 hx) hy Q fun v B4 b4 d4 hv => q v B4 (b2.trans (b3.trans b4)) d4 hv
/-- .. that gives a flat answer -/
theorem ev_op0 {r : R2} {Ua Ub : Up} {z : V} (ha : Ev ta σ M B Ua) (hb : Ev tb σ M B Ub) (hr : ∀ x y M1 B1, Same M M1 → Same B B1 → Dj B1 M1 → Ua.p x B1 → Ub.p y B1 → ∀ Q : VK, Q z (jn B1 M1) → r x y (jn B1 M1) Q) : Ev (tOp r ta tb) σ M B (isV z) :=
  ev_op ha hb fun x y M1 B1 m b d hx hy Q q => hr x y M1 B1 m b d hx hy Q (q z B1 (Same.refl _) d rfl)
theorem ev_I0 {g : Int → Int → V} {i j : Int} (ha : Ev ta σ M B (rInt i)) (hb : Ev tb σ M B (rInt j)) : Ev (tOp (rI0 g) ta tb) σ M B (isV (g i j)) :=
  ev_op0 ha hb fun _ _ _ _ _ _ _ hx hy _ q => ⟨i, j, hx, hy, q⟩
theorem ev_I {C : Int → Int → Prop} {g : Int → Int → V} {i j : Int} (ha : Ev ta σ M B (rInt i)) (hb : Ev tb σ M B (rInt j)) (c : C i j) : Ev (tOp (rI C g) ta tb) σ M B (isV (g i j)) :=
  ev_op0 ha hb fun _ _ _ _ _ _ _ hx hy _ q => ⟨i, j, hx, hy, c, q⟩
theorem ev_un {i : Int} {g : Int → V} (ha : Ev ta σ M B (rInt i)) : Ev (tUn (rU g) ta) σ M B (isV (g i)) := fun M1 B1 m b d Q q => ha M1 B1 m b d _ fun x B2 b2 d2 hx => ⟨i, hx, q _ B2 b2 d2 rfl⟩
theorem ev_eq {x y : V} (ha : Ev ta σ M B (isV x)) (hb : Ev tb σ M B (isV y)) (h : scal x y = true) : Ev (tOp rEq ta tb) σ M B (rBl (decide (x = y))) :=
  ev_op0 ha hb fun _ _ _ _ _ _ _ hx hy _ q => by
    rw [show _ = x from hx, show _ = y from hy]
    exact ⟨h, q⟩
theorem ev_ne {x y : V} (ha : Ev ta σ M B (isV x)) (hb : Ev tb σ M B (isV y)) (h : scal x y = true) : Ev (tOp rNe ta tb) σ M B (rBl (!decide (x = y))) :=
  ev_op0 ha hb fun _ _ _ _ _ _ _ hx hy _ q => by
    rw [show _ = x from hx, show _ = y from hy]
    exact ⟨h, q⟩
theorem ev_addS {a b : List Nat} (ha : Ev ta σ M B (rTx a)) (hb : Ev tb σ M B (rTx b)) (h : a.length + b.length ≤ 100000) :
    Ev (tOp (fun x y H Q => ∃ i j, x = .str i ∧ y = .str j ∧ i.length + j.length ≤ sizeLine ∧ Q (.str (i ++ j)) H) ta tb) σ M B (rTx (a ++ b)) :=
  ev_op0 ha hb fun _ _ _ _ _ _ _ hx hy _ q => ⟨tx a, tx b, hx, hy, by
    show a.toArray.size + b.toArray.size ≤ sizeLine
    simp
    exact Nat.le_trans h (by decide), by
    rw [show (tx a ++ tx b : Str) = tx (a ++ b) by
      show (⟨a.toArray ++ b.toArray⟩ : Str) = ⟨(a ++ b).toArray⟩
      simp]
    exact q⟩
/-! tests -/
theorem et_test {b : Bool} (h : Ev te σ M B (rBl b)) : EvT (tTest te) σ M B b := fun M1 B1 m s d Q q => h M1 B1 m s d _ fun v B2 b2 d2 hv => ⟨b, hv, q B2 b2 d2⟩
theorem et_b {b : Bool} (h : Ev te σ M B (rBl b)) : EvT (tB te) σ M B b := fun M1 B1 m s d Q q => h M1 B1 m s d _ fun v B2 b2 d2 hv => ⟨b, hv, q B2 b2 d2⟩
theorem et_and {a b : Bool} (h1 : EvT t σ M B a) (h2 : a = true → EvT u σ M B b) : EvT (tAnd t u) σ M B (a && b) := fun M1 B1 m s d Q q => h1 M1 B1 m s d _ fun B2 b2 d2 => by
  cases a with
  | true => exact iteT (h2 rfl M1 B2 m (s.trans b2) d2 _ fun B3 b3 d3 => q B3 (b2.trans b3) d3)
  | false => exact iteF (q B2 b2 d2)
theorem et_or {a b : Bool} (h1 : EvT t σ M B a) (h2 : a = false → EvT u σ M B b) : EvT (tOr t u) σ M B (a || b) := fun M1 B1 m s d Q q => h1 M1 B1 m s d _ fun B2 b2 d2 => by
  cases a with
  | true => exact iteT (q B2 b2 d2)
  | false => exact iteF (h2 rfl M1 B2 m (s.trans b2) d2 _ fun B3 b3 d3 => q B3 (b2.trans b3) d3)
theorem et_not {a : Bool} (h1 : EvT t σ M B a) : EvT (tNot t) σ M B (!a) := fun M1 B1 m s d Q q => h1 M1 B1 m s d _ fun B2 b2 d2 => q B2 b2 d2
theorem et_yes : EvT tYes σ M B true := fun M1 B1 m s d Q q => q B1 (Same.refl _) d
theorem ev_andV {a b : Bool} (h1 : Ev ta σ M B (rBl a)) (h2 : a = true → Ev tb σ M B (rBl b)) : Ev (tAndV ta tb) σ M B (rBl (a && b)) := fun M1 B1 m s d Q q => h1 M1 B1 m s d _ fun v B2 b2 d2 hv => ⟨a, hv, by
  cases a with
  | true => exact iteT (h2 rfl M1 B2 m (s.trans b2) d2 _ fun w B3 b3 d3 hw => q w B3 (b2.trans b3) d3 hw)
  | false => exact iteF (q _ B2 b2 d2 rfl)⟩
theorem ev_orV {a b : Bool} (h1 : Ev ta σ M B (rBl a)) (h2 : a = false → Ev tb σ M B (rBl b)) : Ev (tOrV ta tb) σ M B (rBl (a || b)) := fun M1 B1 m s d Q q => h1 M1 B1 m s d _ fun v B2 b2 d2 hv => ⟨a, hv, by
  cases a with
  | true => exact iteT (q _ B2 b2 d2 rfl)
  | false => exact iteF (h2 rfl M1 B2 m (s.trans b2) d2 _ fun w B3 b3 d3 hw => q w B3 (b2.trans b3) d3 hw)⟩
theorem ev_notV {a : Bool} (h1 : Ev ta σ M B (rBl a)) : Ev (tNotV ta) σ M B (rBl (!a)) := fun M1 B1 m s d Q q => h1 M1 B1 m s d _ fun v B2 b2 d2 hv => ⟨a, hv, q _ B2 b2 d2 rfl⟩
theorem ev_if {b : Bool} (h : EvT t σ M B b) (h1 : b = true → Ev ta σ M B U) (h2 : b = false → Ev tb σ M B U) : Ev (tIf t ta tb) σ M B U := fun M1 B1 m s d Q q => h M1 B1 m s d _ fun B2 b2 d2 => by
  cases b with
  | true => exact iteT (h1 rfl M1 B2 m (s.trans b2) d2 _ fun w B3 b3 d3 hw => q w B3 (b2.trans b3) d3 hw)
  | false => exact iteF (h2 rfl M1 B2 m (s.trans b2) d2 _ fun w B3 b3 d3 hw => q w B3 (b2.trans b3) d3 hw)
theorem ev_chain {r r' : R2} {Ua Ub Uc : Up} {k l : Bool} (ha : Ev ta σ M B Ua) (hb : Ev tb σ M B Ub) (hc : k = true → Ev tc σ M B Uc)
    (hr : ∀ x y H, ∀ Q : VK, (∃ B1, Ua.p x B1 ∧ Ub.p y B1) → Q (.bl k) H → r x y H Q) (hr' : ∀ x y H, ∀ Q : VK, (∃ B1, Ub.p x B1 ∧ Uc.p y B1) → Q (.bl l) H → r' x y H Q) : Ev (tChain r r' ta tb tc) σ M B (rBl (k && l)) := fun M1 B1 m s d Q q =>
  ha M1 B1 m s d _ fun x B2 b2 d2 hx => hb M1 B2 m (s.trans b2) d2 _ fun y B3 b3 d3 hy => hr x y _ _ ⟨B3, Ua.up b3 hx, hy⟩ ⟨k, rfl, by
    cases k with
    | true => exact iteT (hc rfl M1 B3 m (s.trans (b2.trans b3)) d3 _ fun z B4 b4 d4 hz => hr' y z _ _ ⟨B4, Ub.up b4 hy, hz⟩ (q _ B4 (b2.trans (b3.trans b4)) d4 rfl))
    | false => exact iteF (q _ B3 (b2.trans b3) d3 rfl)⟩
/-- a chain of ints -/
theorem ev_chI {g g' : Int → Int → Bool} {i j n : Int} (ha : Ev ta σ M B (rInt i)) (hb : Ev tb σ M B (rInt j)) (hc : Ev tc σ M B (rInt n)) :
    Ev (tChain (rI0 fun a b => .bl (g a b)) (rI0 fun a b => .bl (g' a b)) ta tb tc) σ M B (rBl (g i j && g' j n)) :=
  ev_chain ha hb (fun _ => hc) (fun x y H Q ⟨_, hx, hy⟩ q => ⟨i, j, hx, hy, q⟩) (fun x y H Q ⟨_, hx, hy⟩ q => ⟨j, n, hx, hy, q⟩)
/-! arguments -/
theorem ea_nil : EvA tNil σ M B [] := fun M1 B1 _ _ d Q q => q [] B1 (Same.refl _) d .nil
theorem ea_cons {tr : TA} {us : List Up} (h : Ev ta σ M B U) (hr : EvA tr σ M B us) : EvA (tCons ta tr) σ M B (U :: us) := fun M1 B1 m s d Q q =>
  h M1 B1 m s d _ fun x B2 b2 d2 hx => hr M1 B2 m (s.trans b2) d2 _ fun vs B3 b3 d3 hv => q _ B3 (b2.trans b3) d3 (.cons (U.up b3 hx) hv)
/-- a displayed tuple -/
theorem ev_tup {ta : TA} {us : List Up} (h : EvA ta σ M B us) (hl : us.length ≤ 1000) (k : ∀ a vs B1, B1 a = some (.tup vs) → Al id us vs B1 → U.p (.ref a) B1) : Ev (tTup ta) σ M B U := fun M1 B1 m s d Q q =>
  h M1 B1 m s d _ fun vs B2 b2 d2 hv => ⟨by rw [← hv.length]; exact Nat.le_trans hl (by decide), fun p hp => by
    obtain ⟨hm, hb⟩ := jn_none hp
    rw [jn_updB hm]
    exact q _ _ (b2.trans (same_new hb)) (dj_b d2 hm) (k _ _ _ upd_same (hv.up (same_new hb)))⟩
theorem ev_pr {α β : Type} {R : α → Up} {S : β → Up} {x : α} {y : β} (h1 : Ev ta σ M B (R x)) (h2 : Ev tb σ M B (S y)) : Ev (tTup (tCons ta (tCons tb tNil))) σ M B (rPr R S (x, y)) :=
  ev_tup (ea_cons h1 (ea_cons h2 ea_nil)) (by show 2 ≤ 1000; decide) fun a vs B1 e h => by
    cases h with
    | cons h1 h => cases h with
      | cons h2 h => cases h; exact ⟨a, _, _, rfl, e, h1, h2⟩
theorem ev_tr {α β γ : Type} {R : α → Up} {S : β → Up} {T : γ → Up} {x : α} {y : β} {z : γ} (h1 : Ev ta σ M B (R x)) (h2 : Ev tb σ M B (S y)) (h3 : Ev tc σ M B (T z)) : Ev (tTup (tCons ta (tCons tb (tCons tc tNil)))) σ M B (rTr R S T (x, y, z)) :=
  ev_tup (ea_cons h1 (ea_cons h2 (ea_cons h3 ea_nil))) (by show 3 ≤ 1000; decide) fun a vs B1 e h => by
    cases h with
    | cons h1 h => cases h with
      | cons h2 h => cases h with
        | cons h3 h => cases h; exact ⟨a, _, _, _, rfl, e, h1, h2, h3⟩
/-- a displayed list -/
theorem en_lst {ta : TA} {us : List Up} (h : EvA ta σ M B us) (hl : us.length ≤ 1000) : EvN (tLst ta) σ M B (Al id us) := fun M1 B1 m s d Q q =>
  h M1 B1 m s d _ fun vs B2 b2 d2 hv => ⟨by rw [← hv.length]; exact Nat.le_trans hl (by decide), fun p hp => by
    obtain ⟨hm, hb⟩ := jn_none hp
    rw [jn_updM]
    exact q p vs B2 b2 d2 hm hb hv⟩
theorem EvN.mono {W : List V → Hp → Prop} (m : Same M M') (s : Same B B') (h : EvN te σ M B W) : EvN te σ M' B' W := fun M1 B1 m1 b1 d Q q => h M1 B1 (m.trans m1) (s.trans b1) d Q q
theorem EvN.to {W W' : List V → Hp → Prop} (h : EvN te σ M B W) (k : ∀ vs B1, W vs B1 → W' vs B1) : EvN te σ M B W' := fun M1 B1 m s d Q q => h M1 B1 m s d Q fun p vs B2 b2 d2 hm hb w => q p vs B2 b2 d2 hm hb (k vs B2 w)
/-- a new list is given out as it stands -/
theorem EvN.ev {W : List V → Hp → Prop} (h : EvN te σ M B W) (k : ∀ a vs B1 B2, B2 a = some (.lst vs) → Same B1 B2 → W vs B1 → U.p (.ref a) B2) : Ev te σ M B U := fun M1 B1 m s d Q q =>
  h M1 B1 m s d Q fun p vs B2 b2 d2 hm hb w => by
    rw [jn_pub hm]
    exact q _ _ (b2.trans (same_new hb)) (dj_b d2 hm) (k p vs B2 _ upd_same (same_new hb) w)
theorem EvN.lst {α : Type} {R : α → Up} {xs : List α} (h : EvN te σ M B (Al R xs)) : Ev te σ M B (rLst R xs) := h.ev fun a vs _ B2 e s w => ⟨a, vs, rfl, e, w.up s⟩
end
end Zb
end
section
set_option Elab.async false
set_option linter.all false
set_option maxRecDepth 100000
/-! Zc: what is walked, comprehensions, statements, loops, calls, over Zb. -/
namespace Zb
open PySem PySem.Spec PyProof.Rows L2

/-! ### what is walked -/
theorem wk_of {α : Type} {J : It} {B : Hp} {R : α → Up} {xs : List α} (go : ∀ i M B1, Same B B1 → Dj B1 M → i < xs.length → J.go i (jn B1 M))
    (yl : ∀ i x M B1 v H', xs[i]? = some x → Same B B1 → Dj B1 M → J.yld i (jn B1 M) v H' → ∃ B', Same B1 B' ∧ Dj B' M ∧ H' = jn B' M ∧ (R x).p v B')
    (st : ∀ M B1, Same B B1 → Dj B1 M → J.stop xs.length (jn B1 M)) : Wk J B (xs.map R) where
  go := fun i M B1 s d h => go i M B1 s d (by rw [List.length_map] at h; exact h)
  yl := fun i u M B1 v H' h s d y => by
    rw [List.getElem?_map] at h
    cases e : xs[i]? with
    | none => rw [e] at h; cases h
    | some x =>
      rw [e] at h
      cases h
      exact yl i x M B1 v H' e s d y
  st := fun M B1 s d => by
    rw [List.length_map]
    exact st M B1 s d
section
variable {K : PySem.W.Frag} {σ : L2.St} {M B : Hp} {te tl tm : TE}
theorem wk_list {α : Type} {R : α → Up} {xs : List α} {a : Addr} {vs : List V} (h : B a = some (.lst vs)) (al : Al R xs vs B) : Wk (Itl K a) B (xs.map R) :=
  wk_of (fun i M B1 s d hi => ⟨vs, vs[i]'(by rw [← al.length]; exact hi), SqL.of (jn_b d (s _ _ h)), by simp⟩)
    (fun i x M B1 v H' e s d y => by
      obtain ⟨w, hw, hr⟩ := al.get e
      have q := y.2 vs (SqL.of (jn_b d (s _ _ h)))
      rw [hw] at q
      cases q
      exact ⟨B1, Same.refl _, d, y.1, (R x).up s hr⟩)
    (fun M B1 s d => ⟨vs, SqL.of (jn_b d (s _ _ h)), by rw [al.length]; exact Nat.le_refl _⟩)
theorem wk_tup {α : Type} {R : α → Up} {xs : List α} {a : Addr} {vs : List V} (h : B a = some (.tup vs)) (al : Al R xs vs B) : Wk (Itt K a) B (xs.map R) :=
  wk_of (fun i M B1 s d hi => ⟨vs, vs[i]'(by rw [← al.length]; exact hi), SqT.of (jn_b d (s _ _ h)), by simp⟩)
    (fun i x M B1 v H' e s d y => by
      obtain ⟨w, hw, hr⟩ := al.get e
      have q := y.2 vs (SqT.of (jn_b d (s _ _ h)))
      rw [hw] at q
      cases q
      exact ⟨B1, Same.refl _, d, y.1, (R x).up s hr⟩)
    (fun M B1 s d => ⟨vs, SqT.of (jn_b d (s _ _ h)), by rw [al.length]; exact Nat.le_refl _⟩)
theorem wk_range {n : Nat} {lo : Nat} : Wk (Itr (lo : Int) n) B ((List.range n).map fun i => rNat (lo + i)) :=
  wk_of (fun i M B1 _ _ hi => by rw [List.length_range] at hi; exact hi)
    (fun i x M B1 v H' e _ d y => by
      have hx : x = i := by
        rw [List.getElem?_range] at e
        · cases e; rfl
        · have := (List.getElem?_eq_some_iff.mp e).1
          rw [List.length_range] at this
          exact this
      subst hx
      refine ⟨B1, Same.refl _, d, y.1, ?_⟩
      show v = .int ((lo + x : Nat) : Int)
      rw [y.2, Int.natCast_add])
    (fun M B1 _ _ => by rw [List.length_range]; exact Nat.le_refl _)
theorem wk_str {w : List Nat} : Wk (Its (tx w)) B (w.map fun c => rTx [c]) :=
  wk_of (fun i M B1 _ _ hi => by show i < w.toArray.size; simpa using hi)
    (fun i x M B1 v H' e _ d y => by
      obtain ⟨c, hc, hv⟩ := y.2
      have e2 : w.toArray[i]? = some c := hc
      rw [List.getElem?_toArray, e] at e2
      cases e2
      exact ⟨B1, Same.refl _, d, y.1, hv⟩)
    (fun M B1 _ _ => by show w.toArray.size ≤ w.length; simp)
theorem rowK_at {r : Row} {i : Nat} {k : Key} {v : V} (h : (rowK r)[i]? = some (k, v)) {q : Nat × Nat} (e : r[i]? = some q) : k = Sum.inr (tx [q.1]) ∧ v = .int (q.2 : Int) := by
  unfold rowK at h
  rw [List.getElem?_map, e] at h
  cases h
  exact ⟨rfl, rfl⟩
theorem wk_keys {r : Row} {d : Addr} {od : Obj} (h : B d = some (.frz od (.dK (rowK r)))) : Wk (Itk d od (rowK r)) B (r.map fun q => rTx [q.1]) :=
  wk_of (fun i M B1 s dj hi => ⟨jn_b dj (s _ _ h), by unfold rowK; rw [List.length_map]; exact hi⟩)
    (fun i x M B1 v H' e s dj y => by
      obtain ⟨k, w, hk, hv⟩ := y.2
      obtain ⟨rfl, _⟩ := rowK_at hk e
      exact ⟨B1, Same.refl _, dj, y.1, hv⟩)
    (fun M B1 s dj => ⟨jn_b dj (s _ _ h), by unfold rowK; rw [List.length_map]; exact Nat.le_refl _⟩)
theorem wk_vals {r : Row} {d : Addr} {od : Obj} (h : B d = some (.frz od (.dK (rowK r)))) : Wk (Itd d od (rowK r)) B (r.map fun q => rNat q.2) :=
  wk_of (fun i M B1 s dj hi => ⟨jn_b dj (s _ _ h), by unfold rowK; rw [List.length_map]; exact hi⟩)
    (fun i x M B1 v H' e s dj y => by
      obtain ⟨k, hk⟩ := y.2
      obtain ⟨_, rfl⟩ := rowK_at hk e
      exact ⟨B1, Same.refl _, dj, y.1, rfl⟩)
    (fun M B1 s dj => ⟨jn_b dj (s _ _ h), by unfold rowK; rw [List.length_map]; exact Nat.le_refl _⟩)
/-- a new pair each turn -/
theorem new_pair {M B1 H' : Hp} {T : Addr} {x y : V} (d : Dj B1 M) (hn : jn B1 M T = none) (e : H' = upd (jn B1 M) T (.tup [x, y])) : Same B1 (upd B1 T (.tup [x, y])) ∧ Dj (upd B1 T (.tup [x, y])) M ∧ H' = jn (upd B1 T (.tup [x, y])) M := by
  obtain ⟨hm, hb⟩ := jn_none hn
  exact ⟨same_new hb, dj_b d hm, by rw [e, jn_updB hm]⟩
def enumL {α : Type} (xs : List α) : List (Nat × α) := (List.range xs.length).zip xs
theorem enumL_at {α : Type} {xs : List α} {i : Nat} {q : Nat × α} (h : (enumL xs)[i]? = some q) : q.1 = i ∧ xs[i]? = some q.2 := by
  unfold enumL at h
  rw [List.getElem?_zip_eq_some] at h
  obtain ⟨h1, h2⟩ := h
  have hl := (List.getElem?_eq_some_iff.mp h1).1
  rw [List.getElem?_range (by simpa using hl)] at h1
  cases h1
  exact ⟨rfl, h2⟩
theorem enumL_len {α : Type} (xs : List α) : (enumL xs).length = xs.length := by unfold enumL; simp
theorem wk_enum {α : Type} {R : α → Up} {xs : List α} {a : Addr} {vs : List V} (h : B a = some (.lst vs)) (al : Al R xs vs B) : Wk (Ite K a) B ((enumL xs).map (rPr rNat R)) :=
  wk_of (fun i M B1 s d hi => by
      rw [enumL_len] at hi
      exact ⟨vs, vs[i]'(by rw [← al.length]; exact hi), SqL.of (jn_b d (s _ _ h)), by simp⟩)
    (fun i q M B1 v H' e s d y => by
      obtain ⟨h1, h2⟩ := enumL_at e
      obtain ⟨T, x, rfl, hn, he, hx⟩ := y
      obtain ⟨w, hw, hr⟩ := al.get h2
      have z := hx vs (SqL.of (jn_b d (s _ _ h)))
      rw [hw] at z
      cases z
      obtain ⟨s2, d2, e2⟩ := new_pair d hn he
      exact ⟨_, s2, d2, e2, T, _, _, rfl, upd_same, by rw [h1]; rfl, (R q.2).up (s.trans s2) hr⟩)
    (fun M B1 s d => by
      rw [enumL_len]
      exact ⟨vs, SqL.of (jn_b d (s _ _ h)), by rw [al.length]; exact Nat.le_refl _⟩)
theorem wk_zip {α β : Type} {R : α → Up} {S : β → Up} {xs : List α} {ys : List β} {a b : Addr} {vs ws : List V} (h : B a = some (.lst vs)) (k : B b = some (.lst ws)) (al : Al R xs vs B) (bl : Al S ys ws B) :
    Wk (Itz K a b) B ((xs.zip ys).map (rPr R S)) :=
  wk_of (fun i M B1 s d hi => by
      rw [List.length_zip] at hi
      exact ⟨vs, ws, vs[i]'(by rw [← al.length]; omega), ws[i]'(by rw [← bl.length]; omega), SqL.of (jn_b d (s _ _ h)), SqL.of (jn_b d (s _ _ k)), by simp, by simp⟩)
    (fun i q M B1 v H' e s d y => by
      rw [List.getElem?_zip_eq_some] at e
      obtain ⟨T, x, z, rfl, hn, he, hx, hz⟩ := y
      obtain ⟨w, hw, hr⟩ := al.get e.1
      obtain ⟨w2, hw2, hr2⟩ := bl.get e.2
      have z1 := hx vs (SqL.of (jn_b d (s _ _ h)))
      have z2 := hz ws (SqL.of (jn_b d (s _ _ k)))
      rw [hw] at z1
      rw [hw2] at z2
      cases z1
      cases z2
      obtain ⟨s2, d2, e2⟩ := new_pair d hn he
      exact ⟨_, s2, d2, e2, T, _, _, rfl, upd_same, (R q.1).up (s.trans s2) hr, (S q.2).up (s.trans s2) hr2⟩)
    (fun M B1 s d => ⟨vs, ws, SqL.of (jn_b d (s _ _ h)), SqL.of (jn_b d (s _ _ k)), by rw [List.length_zip, ← al.length, ← bl.length]; omega⟩)

theorem ei_list {α : Type} {R : α → Up} {xs : List α} (h : Ev tl σ M B (rLst R xs)) : EvI (iList K tl) σ M B (xs.map R) := fun M1 B1 m b d Rr q => h M1 B1 m b d _ fun v B2 b2 d2 ⟨a, vs, e, ha, al⟩ =>
  ⟨a, e, ⟨vs, SqL.of (jn_b d2 ha)⟩, q _ B2 b2 d2 (wk_list ha al)⟩
theorem ei_tup {α : Type} {R : α → Up} {xs : List α} (h : Ev tl σ M B (rTup R xs)) : EvI (iTup K tl) σ M B (xs.map R) := fun M1 B1 m b d Rr q => h M1 B1 m b d _ fun v B2 b2 d2 ⟨a, vs, e, ha, al⟩ =>
  ⟨a, e, ⟨vs, SqT.of (jn_b d2 ha)⟩, q _ B2 b2 d2 (wk_tup ha al)⟩
theorem ei_rng1 {ta : TA} {n : Nat} (h : EvA ta σ M B [rNat n]) (hn : n ≤ 1000000) : EvI (iRng1 ta) σ M B ((List.range n).map rNat) := fun M1 B1 m b d Rr q => h M1 B1 m b d _ fun vs B2 b2 d2 hv => by
  cases hv with
  | cons h1 h2 =>
    cases h2
    cases (show _ = _ from h1)
    refine ⟨(n : Int), rfl, by omega, by omega, ?_⟩
    have w := wk_range (B := B2) (n := n) (lo := 0)
    simp only [Nat.zero_add] at w
    exact q _ B2 b2 d2 w
theorem ei_rng2 {ta : TA} {lo n : Nat} (h : EvA ta σ M B [rNat lo, rNat n]) (hn : n ≤ 1000000) (hl : lo ≤ 1000000) : EvI (iRng2 ta) σ M B ((List.range (n - lo)).map fun i => rNat (lo + i)) := fun M1 B1 m b d Rr q => h M1 B1 m b d _ fun vs B2 b2 d2 hv => by
  cases hv with
  | cons h1 h2 =>
    cases h2 with
    | cons h2 h3 =>
      cases h3
      cases (show _ = _ from h1)
      cases (show _ = _ from h2)
      refine ⟨(lo : Int), (n : Int), rfl, by omega, ?_⟩
      rw [show ((n : Int) - (lo : Int)).toNat = n - lo by omega]
      exact q _ B2 b2 d2 wk_range
theorem ei_str {w : List Nat} (h : Ev te σ M B (rTx w)) : EvI (iStr te) σ M B (w.map fun c => rTx [c]) := fun M1 B1 m b d Rr q => h M1 B1 m b d _ fun v B2 b2 d2 hv => ⟨tx w, hv, q _ B2 b2 d2 wk_str⟩
theorem ei_keys {r : Row} (h : Ev te σ M B (rRow r)) : EvI (iKeys te) σ M B (r.map fun q => rTx [q.1]) := fun M1 B1 m b d Rr q => h M1 B1 m b d _ fun v B2 b2 d2 ⟨a, od, e, ha⟩ =>
  ⟨a, od, e, .inl ⟨rowK r, jn_b d2 ha, q _ B2 b2 d2 (wk_keys ha)⟩⟩
theorem ei_vals {r : Row} (h : Ev te σ M B (rRow r)) : EvI (iVals te) σ M B (r.map fun q => rNat q.2) := fun M1 B1 m b d Rr q => h M1 B1 m b d _ fun v B2 b2 d2 ⟨a, od, e, ha⟩ =>
  ⟨a, od, rowK r, e, jn_b d2 ha, q _ B2 b2 d2 (wk_vals ha)⟩
theorem ei_enum {α : Type} {ta : TA} {R : α → Up} {xs : List α} (h : EvA ta σ M B [rLst R xs]) : EvI (iEnum K ta) σ M B ((enumL xs).map (rPr rNat R)) := fun M1 B1 m b d Rr q => h M1 B1 m b d _ fun vs B2 b2 d2 hv => by
  cases hv with
  | cons h1 h2 =>
    cases h2
    obtain ⟨a, ws, rfl, ha, al⟩ := h1
    exact ⟨a, ws, rfl, SqL.of (jn_b d2 ha), q _ B2 b2 d2 (wk_enum ha al)⟩
theorem ei_zip {α β : Type} {ta : TA} {R : α → Up} {S : β → Up} {xs : List α} {ys : List β} (h : EvA ta σ M B [rLst R xs, rLst S ys]) : EvI (iZip K ta) σ M B ((xs.zip ys).map (rPr R S)) := fun M1 B1 m b d Rr q => h M1 B1 m b d _ fun vs B2 b2 d2 hv => by
  cases hv with
  | cons h1 h2 =>
    cases h2 with
    | cons h2 h3 =>
      cases h3
      obtain ⟨a, ws, rfl, ha, al⟩ := h1
      obtain ⟨b', us, rfl, hb, bl⟩ := h2
      exact ⟨a, b', ws, us, rfl, SqL.of (jn_b d2 ha), SqL.of (jn_b d2 hb), q _ B2 b2 d2 (wk_zip ha hb al bl)⟩
end

/-! ### comprehensions -/
theorem take_snoc {α : Type} {xs : List α} {i : Nat} {x : α} (h : xs[i]? = some x) : xs.take (i + 1) = xs.take i ++ [x] := by
  rw [List.take_add_one, h]
  rfl
section
variable {K : PySem.W.Frag} {σ : L2.St} {M B : Hp} {te : TE} {tt : TT} {wi : TI} {vs : List Nat}
/-- the target told by what it makes of a turn's value: Tg v σ' is how the slots lie behind it -/
theorem en_lcG {α : Type} {R S : α → Up} {xs : List α} {f : α → Bool} {g : TG} (hi : EvI wi σ M B (xs.map R)) (hl : xs.length ≤ 100000)
    (hs : ∀ x ∈ xs, ∀ v M1 B1, Same M M1 → Same B B1 → Dj B1 M1 → (R x).p v B1 → ∀ Q : L2.St → Hp → Prop, (∀ σ2, wipe σ2 vs = wipe σ vs → EvT tt σ2 M1 B1 (f x) → (f x = true → Ev te σ2 M1 B1 (S x)) → Q σ2 (jn B1 M1)) → g v (wipe σ vs) (jn B1 M1) Q) :
    EvN (tLc wi g tt te vs) σ M B (Al S (xs.filter f)) := fun M1 B1 m b d Q q => hi M1 B1 m b d _ fun J B2 b2 d2 wk => fun D hD => by
  obtain ⟨hm, hb⟩ := jn_none hD
  refine ⟨fun i n H => ∃ B3 acc, n + i = xs.length ∧ H = jn B3 (upd M1 D (.lst acc)) ∧ Same B2 B3 ∧ Dj B3 M1 ∧ B3 D = none ∧ Al S ((xs.take i).filter f) acc B3,
    ⟨xs.length, B2, [], rfl, by rw [jn_updM], Same.refl _, d2, hb, by rw [List.take_zero]; exact .nil⟩, ?_⟩
  rintro i n H ⟨B3, acc, hn, rfl, b3, d3, n3, al⟩
  have dj : Dj B3 (upd M1 D (.lst acc)) := dj_m d3 n3
  by_cases hlt : i < xs.length
  · have ex : xs[i]? = some xs[i] := List.getElem?_eq_getElem hlt
    refine .inr ⟨wk.go i _ B3 b3 dj (by rw [List.length_map]; exact hlt), fun H' => ∃ B4 acc', H' = jn B4 (upd M1 D (.lst acc')) ∧ Same B2 B4 ∧ Dj B4 M1 ∧ B4 D = none ∧ Al S ((xs.take (i + 1)).filter f) acc' B4,
      fun H' ⟨B4, acc', e1, e2, e3, e4, e5⟩ => ⟨n - 1, by omega, B4, acc', by omega, e1, e2, e3, e4, e5⟩, fun v H' y => ?_⟩
    obtain ⟨B4, b4, d4, rfl, hu⟩ := wk.yl i (R xs[i]) _ B3 v H' (by rw [List.getElem?_map, ex]; rfl) b3 dj y
    have z4 : Dj B4 M1 := fun a o e => by
      have q1 := d4 a o e
      exact (upd_none q1).1
    refine hs xs[i] (List.getElem_mem hlt) v (upd M1 D (.lst acc)) B4 (m.trans (same_new hm)) (b.trans (b2.trans (b3.trans b4))) d4 hu _ fun σ2 hw ht he => ⟨hw, ?_⟩
    refine ht _ B4 (Same.refl _) (Same.refl _) d4 _ fun B5 b5 d5 => ?_
    have z5 : Dj B5 M1 := fun a o e => (upd_none (d5 a o e)).1
    rw [take_snoc ex, List.filter_append]
    cases ef : f xs[i] with
    | true =>
      refine iteT (he ef _ B5 (Same.refl _) b5 d5 _ fun v2 B6 b6 d6 hv => ⟨acc, jn_m upd_same, ?_, B6, acc ++ [v2], ?_, b3.trans (b4.trans (b5.trans b6)), fun a o e => (upd_none (d6 a o e)).1, dj_none d6 upd_same, ?_⟩)
      · rw [← al.length]
        exact Nat.lt_of_le_of_lt (Nat.le_trans (List.length_filter_le _ _) (by rw [List.length_take]; omega)) (Nat.lt_of_lt_of_le (show 100000 < 1000000 by decide) (by decide : 1000000 ≤ sizeLine))
      · rw [jn_updM, upd_upd]
      · rw [show [xs[i]].filter f = [xs[i]] by simp [ef]]
        exact (al.up (b4.trans (b5.trans b6))).snoc hv
    | false =>
      refine iteF ⟨B5, acc, rfl, b3.trans (b4.trans b5), z5, dj_none d5 upd_same, ?_⟩
      rw [show [xs[i]].filter f = [] by simp [ef], List.append_nil]
      exact al.up (b4.trans b5)
  · have e : i = xs.length := by omega
    subst e
    rw [List.take_length] at al
    refine .inl ⟨by have := wk.st _ B3 b3 dj; rw [List.length_map] at this; exact this, q D acc B3 (b2.trans b3) d3 hm n3 al⟩
/-- [e for x in ..] -/
theorem en_lc {α : Type} {R S : α → Up} {xs : List α} {f : α → Bool} {j : Nat} (hi : EvI wi σ M B (xs.map R)) (hl : xs.length ≤ 100000) (hw : ∀ x, wipe ((wipe σ vs).set j (some x)) vs = wipe σ vs)
    (ht : ∀ x ∈ xs, ∀ v M1 B1, Same M M1 → Same B B1 → (R x).p v B1 → EvT tt ((wipe σ vs).set j (some v)) M1 B1 (f x))
    (he : ∀ x ∈ xs, f x = true → ∀ v M1 B1, Same M M1 → Same B B1 → (R x).p v B1 → Ev te ((wipe σ vs).set j (some v)) M1 B1 (S x)) : EvN (tLc wi (gName j) tt te vs) σ M B (Al S (xs.filter f)) :=
  en_lcG hi hl fun x hx v M1 B1 m b d hv Q q => q _ (hw v) (ht x hx v M1 B1 m b hv) fun e => he x hx e v M1 B1 m b hv
/-- .. without an if -/
theorem en_lc1 {α : Type} {R S : α → Up} {xs : List α} {j : Nat} (hi : EvI wi σ M B (xs.map R)) (hl : xs.length ≤ 100000) (hw : ∀ x, wipe ((wipe σ vs).set j (some x)) vs = wipe σ vs)
    (he : ∀ x ∈ xs, ∀ v M1 B1, Same M M1 → Same B B1 → (R x).p v B1 → Ev te ((wipe σ vs).set j (some v)) M1 B1 (S x)) : EvN (tLc wi (gName j) tYes te vs) σ M B (Al S xs) := by
  have h := en_lc (tt := tYes) (f := fun _ => true) (te := te) (S := S) hi hl hw (fun _ _ _ _ _ _ _ _ => et_yes) (fun x hx _ => he x hx)
  rw [List.filter_eq_self.mpr (fun _ _ => rfl)] at h
  exact h
theorem tup2_at {α β : Type} {R : α → Up} {S : β → Up} {x : α × β} {v : V} {M1 B1 : Hp} {a c : Nat} {σ0 : L2.St} (d : Dj B1 M1) (h : (rPr R S x).p v B1) {Q : L2.St → Hp → Prop} (q : ∀ y z, (R x.1).p y B1 → (S x.2).p z B1 → Q ((σ0.set a (some y)).set c (some z)) (jn B1 M1)) :
    gTup K 2 (gCons (gName a) (gCons (gName c) gNil)) v σ0 (jn B1 M1) Q := by
  obtain ⟨p, y, z, rfl, hp, hy, hz⟩ := h
  exact ⟨p, [y, z], rfl, SqT.of (jn_b d hp), rfl, y, [z], rfl, z, [], rfl, rfl, q y z hy hz⟩
theorem tup3_at {α β γ : Type} {R : α → Up} {S : β → Up} {T : γ → Up} {x : α × β × γ} {v : V} {M1 B1 : Hp} {a c e : Nat} {σ0 : L2.St} (d : Dj B1 M1) (h : (rTr R S T x).p v B1) {Q : L2.St → Hp → Prop} (q : ∀ y z u, (R x.1).p y B1 → (S x.2.1).p z B1 → (T x.2.2).p u B1 → Q (((σ0.set a (some y)).set c (some z)).set e (some u)) (jn B1 M1)) :
    gTup K 3 (gCons (gName a) (gCons (gName c) (gCons (gName e) gNil))) v σ0 (jn B1 M1) Q := by
  obtain ⟨p, y, z, u, rfl, hp, hy, hz, hu⟩ := h
  exact ⟨p, [y, z, u], rfl, SqT.of (jn_b d hp), rfl, y, [z, u], rfl, z, [u], rfl, u, [], rfl, rfl, q y z u hy hz hu⟩
/-- [e for x, y in ..] -/
theorem en_lc2 {α β : Type} {R : α → Up} {T : β → Up} {S : α × β → Up} {xs : List (α × β)} {f : α × β → Bool} {j k : Nat} (hi : EvI wi σ M B (xs.map (rPr R T))) (hl : xs.length ≤ 100000)
    (hw : ∀ x y, wipe (((wipe σ vs).set j (some x)).set k (some y)) vs = wipe σ vs)
    (ht : ∀ x ∈ xs, ∀ v w M1 B1, Same M M1 → Same B B1 → (R x.1).p v B1 → (T x.2).p w B1 → EvT tt (((wipe σ vs).set j (some v)).set k (some w)) M1 B1 (f x))
    (he : ∀ x ∈ xs, f x = true → ∀ v w M1 B1, Same M M1 → Same B B1 → (R x.1).p v B1 → (T x.2).p w B1 → Ev te (((wipe σ vs).set j (some v)).set k (some w)) M1 B1 (S x)) :
    EvN (tLc wi (gTup K 2 (gCons (gName j) (gCons (gName k) gNil))) tt te vs) σ M B (Al S (xs.filter f)) :=
  en_lcG hi hl fun x hx v M1 B1 m b d hv Q q => tup2_at d hv fun y z hy hz => q _ (hw y z) (ht x hx y z M1 B1 m b hy hz) fun e => he x hx e y z M1 B1 m b hy hz
theorem en_lc21 {α β : Type} {R : α → Up} {T : β → Up} {S : α × β → Up} {xs : List (α × β)} {j k : Nat} (hi : EvI wi σ M B (xs.map (rPr R T))) (hl : xs.length ≤ 100000)
    (hw : ∀ x y, wipe (((wipe σ vs).set j (some x)).set k (some y)) vs = wipe σ vs)
    (he : ∀ x ∈ xs, ∀ v w M1 B1, Same M M1 → Same B B1 → (R x.1).p v B1 → (T x.2).p w B1 → Ev te (((wipe σ vs).set j (some v)).set k (some w)) M1 B1 (S x)) :
    EvN (tLc wi (gTup K 2 (gCons (gName j) (gCons (gName k) gNil))) tYes te vs) σ M B (Al S xs) := by
  have h := en_lc2 (K := K) (tt := tYes) (f := fun _ => true) (te := te) (S := S) hi hl hw (fun _ _ _ _ _ _ _ _ _ _ => et_yes) (fun x hx _ => he x hx)
  rw [List.filter_eq_self.mpr (fun _ _ => rfl)] at h
  exact h
end
end Zb
end
section
set_option Elab.async false
set_option linter.all false
set_option maxRecDepth 100000
/-! Zd: two clauses, statements, loops, calls, the freeze, over Zc. -/
namespace Zb
open PySem PySem.Spec PyProof.Rows L2

section
variable {K : PySem.W.Frag} {σ : L2.St} {M B : Hp} {te : TE} {wi wi1 : TI} {vs vs1 : List Nat}
theorem dj_sub {B M : Hp} {D : Addr} {o : HO} (hm : M D = none) (d : Dj B (upd M D o)) : Dj B M := fun a u e => (upd_none (d a u e)).1
/-- [e for x in .. for y in ..] -/
theorem en_lcT {α β : Type} {R : α → Up} {T : α → β → Up} {S : α → β → Up} {xs : List α} {ys : α → List β} {j k : Nat} (hi : EvI wi σ M B (xs.map R))
    (hl : (xs.map fun x => (ys x).length).sum ≤ 100000) (hw : ∀ x, wipe ((wipe σ vs).set j (some x)) vs = wipe σ vs)
    (h1 : ∀ x ∈ xs, ∀ v M1 B1, Same M M1 → Same B B1 → (R x).p v B1 → EvI wi1 ((wipe σ vs).set j (some v)) M1 B1 ((ys x).map (T x)))
    (hw1 : ∀ x y, wipe ((wipe ((wipe σ vs).set j (some x)) vs1).set k (some y)) vs1 = wipe ((wipe σ vs).set j (some x)) vs1)
    (he : ∀ x ∈ xs, ∀ y ∈ ys x, ∀ v w M1 B1, Same M M1 → Same B B1 → (R x).p v B1 → (T x y).p w B1 → Ev te ((wipe ((wipe σ vs).set j (some v)) vs1).set k (some w)) M1 B1 (S x y)) :
    EvN (tLc2 wi (gName j) tYes wi1 (gName k) tYes te vs vs1) σ M B (Al (fun q : α × β => S q.1 q.2) (xs.flatMap fun x => (ys x).map fun y => (x, y))) := fun M1 B1 m b d Q q => hi M1 B1 m b d _ fun J B2 b2 d2 wk => fun D hD => by
  obtain ⟨hm, hb⟩ := jn_none hD
  have lens : ∀ (l : List α), (l.flatMap fun x => (ys x).map fun y => (x, y)).length = (l.map fun x => (ys x).length).sum := fun l => by
    rw [List.length_flatMap]
    congr 1
    exact List.map_congr_left fun x _ => List.length_map ..
  refine ⟨fun i n H => ∃ B3 acc, n + i = xs.length ∧ H = jn B3 (upd M1 D (.lst acc)) ∧ Same B2 B3 ∧ Dj B3 M1 ∧ B3 D = none ∧ Al (fun q : α × β => S q.1 q.2) ((xs.take i).flatMap fun x => (ys x).map fun y => (x, y)) acc B3,
    ⟨xs.length, B2, [], rfl, by rw [jn_updM], Same.refl _, d2, hb, by rw [List.take_zero]; exact .nil⟩, ?_⟩
  rintro i n H ⟨B3, acc, hn, rfl, b3, d3, n3, al⟩
  have dj : Dj B3 (upd M1 D (.lst acc)) := dj_m d3 n3
  by_cases hlt : i < xs.length
  · have ex : xs[i]? = some xs[i] := List.getElem?_eq_getElem hlt
    refine .inr ⟨wk.go i _ B3 b3 dj (by rw [List.length_map]; exact hlt), fun H' => ∃ B4 acc', H' = jn B4 (upd M1 D (.lst acc')) ∧ Same B2 B4 ∧ Dj B4 M1 ∧ B4 D = none ∧ Al (fun q : α × β => S q.1 q.2) ((xs.take (i + 1)).flatMap fun x => (ys x).map fun y => (x, y)) acc' B4,
      fun H' ⟨B4, acc', e1, e2, e3, e4, e5⟩ => ⟨n - 1, by omega, B4, acc', by omega, e1, e2, e3, e4, e5⟩, fun v H' y => ?_⟩
    obtain ⟨B4, b4, d4, rfl, hu⟩ := wk.yl i (R xs[i]) _ B3 v H' (by rw [List.getElem?_map, ex]; rfl) b3 dj y
    refine ⟨hw v, ?_⟩
    show wi1 _ _ _
    refine h1 xs[i] (List.getElem_mem hlt) v (upd M1 D (.lst acc)) B4 (m.trans (same_new hm)) (b.trans (b2.trans (b3.trans b4))) hu _ B4 (Same.refl _) (Same.refl _) d4 _ fun J1 B5 b5 d5 wk1 => ?_
    -- the second clause
    have tot : ∀ (l : List β), acc.length + l.length ≤ acc.length + (ys xs[i]).length → acc.length + l.length < sizeLine := fun l h => by
      have a1 : acc.length = ((xs.take i).map fun x => (ys x).length).sum := by rw [← al.length, lens]
      have a2 : ((xs.take (i + 1)).map fun x => (ys x).length).sum ≤ (xs.map fun x => (ys x).length).sum := by
        conv => rhs; rw [← List.take_append_drop (i + 1) xs]
        rw [List.map_append, List.sum_append]
        omega
      rw [take_snoc ex, List.map_append, List.sum_append] at a2
      simp only [List.map_cons, List.map_nil, List.sum_cons, List.sum_nil, Nat.add_zero] at a2
      exact Nat.lt_of_le_of_lt (show acc.length + l.length ≤ 100000 by omega) (Nat.lt_of_lt_of_le (show 100000 < 1000000 by decide) (by decide : 1000000 ≤ sizeLine))
    refine ⟨fun r c H => ∃ B6 acc', c + r = (ys xs[i]).length ∧ H = jn B6 (upd M1 D (.lst acc')) ∧ Same B5 B6 ∧ Dj B6 M1 ∧ B6 D = none ∧ Al (fun q : α × β => S q.1 q.2) (((xs.take i).flatMap fun x => (ys x).map fun y => (x, y)) ++ ((ys xs[i]).take r).map fun y => (xs[i], y)) acc' B6 ∧ acc'.length = acc.length + r,
      ⟨(ys xs[i]).length, B5, acc, rfl, rfl, Same.refl _, dj_sub hm d5, dj_none d5 upd_same, by rw [List.take_zero, List.map_nil, List.append_nil]; exact al.up (b4.trans b5), rfl⟩, ?_⟩
    rintro r c H ⟨B6, acc', hc, rfl, b6, d6, n6, al6, len6⟩
    have dj6 : Dj B6 (upd M1 D (.lst acc')) := dj_m d6 n6
    by_cases hlt2 : r < (ys xs[i]).length
    · have ey : (ys xs[i])[r]? = some (ys xs[i])[r] := List.getElem?_eq_getElem hlt2
      refine .inr ⟨wk1.go r _ B6 b6 dj6 (by rw [List.length_map]; exact hlt2), fun H' => ∃ B7 acc2, H' = jn B7 (upd M1 D (.lst acc2)) ∧ Same B5 B7 ∧ Dj B7 M1 ∧ B7 D = none ∧
          Al (fun q : α × β => S q.1 q.2) (((xs.take i).flatMap fun x => (ys x).map fun y => (x, y)) ++ ((ys xs[i]).take (r + 1)).map fun y => (xs[i], y)) acc2 B7 ∧ acc2.length = acc.length + (r + 1),
        fun H' ⟨B7, acc2, e1, e2, e3, e4, e5, e6⟩ => ⟨c - 1, by omega, B7, acc2, by omega, e1, e2, e3, e4, e5, e6⟩, fun u H' y2 => ?_⟩
      obtain ⟨B7, b7, d7, rfl, hu2⟩ := wk1.yl r (T xs[i] (ys xs[i])[r]) _ B6 u H' (by rw [List.getElem?_map, ey]; rfl) b6 dj6 y2
      refine ⟨hw1 v u, ?_⟩
      show te _ _ _
      refine (he xs[i] (List.getElem_mem hlt) (ys xs[i])[r] (List.getElem_mem hlt2) v u (upd M1 D (.lst acc')) B7 (m.trans (same_new hm)) (b.trans (b2.trans (b3.trans (b4.trans (b5.trans (b6.trans b7)))))) ((R _).up (b5.trans (b6.trans b7)) hu) hu2 _ B7 (Same.refl _) (Same.refl _) d7 _
        fun z B8 b8 d8 hz => ⟨acc', jn_m upd_same, ?_, B8, acc' ++ [z], by rw [jn_updM, upd_upd], b6.trans (b7.trans b8), dj_sub hm d8, dj_none d8 upd_same, ?_, by rw [List.length_append, len6]; rfl⟩)
      · rw [len6]
        have t1 := tot ((ys xs[i]).take r) (by rw [List.length_take]; omega)
        rw [List.length_take] at t1
        rw [Nat.min_eq_left (Nat.le_of_lt hlt2)] at t1
        exact t1
      · rw [take_snoc ey, List.map_append, ← List.append_assoc]
        exact Al.snoc (R := fun q : α × β => S q.1 q.2) (x := (xs[i], (ys xs[i])[r])) hz (al6.up (b7.trans b8))
    · have er : r = (ys xs[i]).length := by omega
      subst er
      rw [List.take_length] at al6
      refine .inl ⟨by have := wk1.st _ B6 b6 dj6; rw [List.length_map] at this; exact this, B6, acc', rfl, b3.trans (b4.trans (b5.trans b6)), d6, n6, ?_⟩
      rw [take_snoc ex, List.flatMap_append, List.flatMap_singleton]
      exact al6
  · have e : i = xs.length := by omega
    subst e
    rw [List.take_length] at al
    refine .inl ⟨by have := wk.st _ B3 b3 dj; rw [List.length_map] at this; exact this, q D acc B3 (b2.trans b3) d3 hm n3 al⟩
end

/-! ### statements -/
section
variable {K : PySem.W.Frag} {σ : L2.St} {M B : Hp} {te ta tb : TE} {U : Up} {D : Ends} {tu tw tz : TS} {t : TT}
theorem s_asg {i : Nat} (h : Ev te σ M B U) (d : Dj B M) (k : ∀ v B', Same B B' → Dj B' M → U.p v B' → D.nx (σ.set i (some v)) (jn B' M)) : tAsg te (gName i) D σ (jn B M) := h M B (Same.refl _) (Same.refl _) d _ k
theorem q_asg {i : Nat} (h : Ev te σ M B U) (d : Dj B M) (k : ∀ v B', Same B B' → Dj B' M → U.p v B' → tz D (σ.set i (some v)) (jn B' M)) : tSeq (tAsg te (gName i)) tz D σ (jn B M) := h M B (Same.refl _) (Same.refl _) d _ k
/-- a new list that will be changed -/
theorem q_asgN {i : Nat} {W : List V → Hp → Prop} (h : EvN te σ M B W) (d : Dj B M) (k : ∀ p vs B', Same B B' → Dj B' M → M p = none → B' p = none → W vs B' → tz D (σ.set i (some (.ref p))) (jn B' (upd M p (.lst vs)))) : tSeq (tAsg te (gName i)) tz D σ (jn B M) :=
  h M B (Same.refl _) (Same.refl _) d _ fun p vs B' b d' hm hb w => k p vs B' b d' hm hb w
theorem s_asgN {i : Nat} {W : List V → Hp → Prop} (h : EvN te σ M B W) (d : Dj B M) (k : ∀ p vs B', Same B B' → Dj B' M → M p = none → B' p = none → W vs B' → D.nx (σ.set i (some (.ref p))) (jn B' (upd M p (.lst vs)))) : tAsg te (gName i) D σ (jn B M) :=
  h M B (Same.refl _) (Same.refl _) d _ fun p vs B' b d' hm hb w => k p vs B' b d' hm hb w
/-- {} that will be changed -/
theorem q_dnew {i : Nat} (k : ∀ p, M p = none → B p = none → tz D (σ.set i (some (.ref p))) (jn B (upd M p (.dK [])))) : tSeq (tAsg tDNewK (gName i)) tz D σ (jn B M) := fun p hp => by
  obtain ⟨hm, hb⟩ := jn_none hp
  rw [jn_updM]
  exact k p hm hb
theorem q_dnewT {i : Nat} (k : ∀ p, M p = none → B p = none → tz D (σ.set i (some (.ref p))) (jn B (upd M p (.dT [])))) : tSeq (tAsg tDNewT (gName i)) tz D σ (jn B M) := fun p hp => by
  obtain ⟨hm, hb⟩ := jn_none hp
  rw [jn_updM]
  exact k p hm hb
theorem s_ret (h : Ev te σ M B U) (d : Dj B M) (k : ∀ v B', Same B B' → Dj B' M → U.p v B' → D.rt v (jn B' M)) : tRet te D σ (jn B M) := h M B (Same.refl _) (Same.refl _) d _ k
theorem s_if {b : Bool} (h : EvT t σ M B b) (d : Dj B M) (h1 : b = true → ∀ B', Same B B' → Dj B' M → tu D σ (jn B' M)) (h2 : b = false → ∀ B', Same B B' → Dj B' M → tw D σ (jn B' M)) : tIfS t tu tw D σ (jn B M) := h M B (Same.refl _) (Same.refl _) d _ fun B' s d' => by
  cases b with
  | true => exact iteT (h1 rfl B' s d')
  | false => exact iteF (h2 rfl B' s d')
theorem q_if {b : Bool} (h : EvT t σ M B b) (d : Dj B M) (h1 : b = true → ∀ B', Same B B' → Dj B' M → tu { D with nx := tz D } σ (jn B' M)) (h2 : b = false → ∀ B', Same B B' → Dj B' M → tw { D with nx := tz D } σ (jn B' M)) : tSeq (tIfS t tu tw) tz D σ (jn B M) :=
  s_if (D := { D with nx := tz D }) h d h1 h2
/-- a guard that never fires: if t: raise .. -/
theorem q_no (h : EvT t σ M B false) (d : Dj B M) (k : ∀ B', Same B B' → Dj B' M → tz D σ (jn B' M)) : tSeq (tIfS t tu tNext) tz D σ (jn B M) := q_if h d (fun e => nomatch e) fun _ => k
theorem s_no (h : EvT t σ M B false) (d : Dj B M) (k : ∀ B', Same B B' → Dj B' M → D.nx σ (jn B' M)) : tIfS t tu tNext D σ (jn B M) := s_if h d (fun e => nomatch e) fun _ => k
theorem s_drop (h : Ev te σ M B U) (d : Dj B M) (k : ∀ B', Same B B' → Dj B' M → D.nx σ (jn B' M)) : tDrop te D σ (jn B M) := h M B (Same.refl _) (Same.refl _) d _ fun _ B' b d' _ => k B' b d'
theorem q_drop (h : Ev te σ M B U) (d : Dj B M) (k : ∀ B', Same B B' → Dj B' M → tz D σ (jn B' M)) : tSeq (tDrop te) tz D σ (jn B M) := h M B (Same.refl _) (Same.refl _) d _ fun _ B' b d' _ => k B' b d'
/-- xs.append(e), xs a list in M -/
theorem s_app {l : Addr} {xs : List V} {i : Nat} (hσ : σ[i]? = some (some (.ref l))) (hl : M l = some (.lst xs)) (h : Ev te σ M B U) (d : Dj B M) (hz : xs.length < 100000)
    (k : ∀ v B', Same B B' → Dj B' (upd M l (.lst (xs ++ [v]))) → U.p v B' → D.nx σ (jn B' (upd M l (.lst (xs ++ [v]))))) : tDrop (tBM K "list" rAppend (tVar i) (tCons te tNil)) D σ (jn B M) :=
  ⟨_, hσ, .inl ⟨rfl, xs, SqL.of (jn_m hl)⟩, h M B (Same.refl _) (Same.refl _) d _ fun v B' b d' hv => ⟨l, xs, v, rfl, rfl, jn_m hl, Nat.lt_of_lt_of_le hz (by decide), by
    rw [jn_updM]
    exact k v B' b (dj_m d' (dj_none d' hl)) hv⟩⟩
theorem q_app {l : Addr} {xs : List V} {i : Nat} (hσ : σ[i]? = some (some (.ref l))) (hl : M l = some (.lst xs)) (h : Ev te σ M B U) (d : Dj B M) (hz : xs.length < 100000)
    (k : ∀ v B', Same B B' → Dj B' (upd M l (.lst (xs ++ [v]))) → U.p v B' → tz D σ (jn B' (upd M l (.lst (xs ++ [v]))))) : tSeq (tDrop (tBM K "list" rAppend (tVar i) (tCons te tNil))) tz D σ (jn B M) :=
  s_app (D := { D with nx := tz D }) hσ hl h d hz k
/-- d[k] = v, d a dict in M whose keys are ints or texts -/
theorem s_dput {l : Addr} {kvs : List (Key × V)} {i : Nat} {k : Key} {td tk tv : TE} (hσ : σ[i]? = some (some (.ref l))) (hl : M l = some (.dK kvs)) (hv : Ev tv σ M B U) (hk : Ev tk σ M B (isV (kV k))) (d : Dj B M) (hz : kvs.length < 100000)
    (kk : ∀ v B', Same B B' → Dj B' (upd M l (.dK (putK kvs k v))) → U.p v B' → D.nx σ (jn B' (upd M l (.dK (putK kvs k v))))) : sDPut (tVar i) tk tv D σ (jn B M) :=
  hv M B (Same.refl _) (Same.refl _) d _ fun v B' b d' hv => ⟨_, hσ, hk M B' (Same.refl _) b d' _ fun y B2 b2 d2 hy => ⟨l, upd (jn B2 M) l (.dK (putK kvs k v)), rfl, by rw [show y = kV k from hy]; exact DPut.k (jn_m hl) (Nat.lt_of_lt_of_le hz (by decide)), by
    rw [jn_updM]
    exact kk v B2 (b.trans b2) (dj_m d2 (dj_none d2 hl)) (U.up b2 hv)⟩⟩
theorem q_dput {l : Addr} {kvs : List (Key × V)} {i : Nat} {k : Key} {td tk tv : TE} (hσ : σ[i]? = some (some (.ref l))) (hl : M l = some (.dK kvs)) (hv : Ev tv σ M B U) (hk : Ev tk σ M B (isV (kV k))) (d : Dj B M) (hz : kvs.length < 100000)
    (kk : ∀ v B', Same B B' → Dj B' (upd M l (.dK (putK kvs k v))) → U.p v B' → tz D σ (jn B' (upd M l (.dK (putK kvs k v))))) : tSeq (sDPut (tVar i) tk tv) tz D σ (jn B M) :=
  s_dput (td := td) (D := { D with nx := tz D }) hσ hl hv hk d hz kk

/-! ### loops -/
/-- a statement's end, told by M and a B that has grown -/
def Nx (P : L2.St → Hp → Hp → Prop) (B0 : Hp) : L2.St → Hp → Prop := fun σ H => ∃ M B, H = jn B M ∧ Dj B M ∧ Same B0 B ∧ P σ M B
theorem Nx.mk {P : L2.St → Hp → Hp → Prop} {B0 : Hp} {σ : L2.St} {M B : Hp} (d : Dj B M) (s : Same B0 B) (h : P σ M B) : Nx P B0 σ (jn B M) := ⟨M, B, rfl, d, s, h⟩
theorem s_forG {α : Type} {R : α → Up} {xs : List α} {wi : TI} {g : TG} (hi : EvI wi σ M B (xs.map R)) (d : Dj B M) (Pv : Nat → L2.St → Hp → Hp → Prop) (hm : ∀ i σ' M' B1 B2, Same B1 B2 → Pv i σ' M' B1 → Pv i σ' M' B2)
    (h0 : ∀ B', Same B B' → Dj B' M → Pv 0 σ M B')
    (hs : ∀ B0 i x v σ' M' B', xs[i]? = some x → Same B B0 → Same B0 B' → Dj B' M' → Pv i σ' M' B' → (R x).p v B' → g v σ' (jn B' M') fun σ2 H2 => tu { D with nx := Nx (Pv (i + 1)) B0, ct := Nx (Pv (i + 1)) B0, bk := D.nx } σ2 H2)
    (hd : ∀ σ' M' B', Pv xs.length σ' M' B' → Same B B' → Dj B' M' → D.nx σ' (jn B' M')) : tFor wi g tu D σ (jn B M) :=
  hi M B (Same.refl _) (Same.refl _) d _ fun J B2 b2 d2 wk => by
    refine ⟨fun i n σ' H => n + i = xs.length ∧ Nx (Pv i) B2 σ' H, ⟨xs.length, rfl, M, B2, rfl, d2, Same.refl _, h0 B2 b2 d2⟩, ?_⟩
    rintro i n σ' H ⟨hn, M', B', rfl, d', b', hp⟩
    by_cases hlt : i < xs.length
    · have ex : xs[i]? = some xs[i] := List.getElem?_eq_getElem hlt
      refine .inr ⟨wk.go i M' B' b' d' (by rw [List.length_map]; exact hlt), Nx (Pv (i + 1)) B2, fun σ3 H3 h => ⟨n - 1, by omega, by omega, h⟩, fun v H' y => ?_⟩
      obtain ⟨B3, b3, d3, rfl, hu⟩ := wk.yl i (R xs[i]) M' B' v H' (by rw [List.getElem?_map, ex]; rfl) b' d' y
      exact hs B2 i xs[i] v σ' M' B3 ex b2 (b'.trans b3) d3 (hm _ _ _ _ _ b3 hp) hu
    · have e : i = xs.length := by omega
      subst e
      exact .inl ⟨by have := wk.st M' B' b' d'; rw [List.length_map] at this; exact this, hd σ' M' B' hp (b2.trans b') d'⟩
/-- for x in .. -/
theorem s_for {α : Type} {R : α → Up} {xs : List α} {wi : TI} {j : Nat} (hi : EvI wi σ M B (xs.map R)) (d : Dj B M) (Pv : Nat → L2.St → Hp → Hp → Prop) (hm : ∀ i σ' M' B1 B2, Same B1 B2 → Pv i σ' M' B1 → Pv i σ' M' B2)
    (h0 : ∀ B', Same B B' → Dj B' M → Pv 0 σ M B')
    (hs : ∀ B0 i x v σ' M' B', xs[i]? = some x → Same B B0 → Same B0 B' → Dj B' M' → Pv i σ' M' B' → (R x).p v B' → tu { D with nx := Nx (Pv (i + 1)) B0, ct := Nx (Pv (i + 1)) B0, bk := D.nx } (σ'.set j (some v)) (jn B' M'))
    (hd : ∀ σ' M' B', Pv xs.length σ' M' B' → Same B B' → Dj B' M' → D.nx σ' (jn B' M')) : tFor wi (gName j) tu D σ (jn B M) := s_forG hi d Pv hm h0 hs hd
/-- for x, y in .. -/
theorem s_for2 {α β : Type} {R : α → Up} {S : β → Up} {xs : List (α × β)} {wi : TI} {j k : Nat} (hi : EvI wi σ M B (xs.map (rPr R S))) (d : Dj B M) (Pv : Nat → L2.St → Hp → Hp → Prop) (hm : ∀ i σ' M' B1 B2, Same B1 B2 → Pv i σ' M' B1 → Pv i σ' M' B2)
    (h0 : ∀ B', Same B B' → Dj B' M → Pv 0 σ M B')
    (hs : ∀ B0 i x v w σ' M' B', xs[i]? = some x → Same B B0 → Same B0 B' → Dj B' M' → Pv i σ' M' B' → (R x.1).p v B' → (S x.2).p w B' → tu { D with nx := Nx (Pv (i + 1)) B0, ct := Nx (Pv (i + 1)) B0, bk := D.nx } ((σ'.set j (some v)).set k (some w)) (jn B' M'))
    (hd : ∀ σ' M' B', Pv xs.length σ' M' B' → Same B B' → Dj B' M' → D.nx σ' (jn B' M')) : tFor wi (gTup K 2 (gCons (gName j) (gCons (gName k) gNil))) tu D σ (jn B M) :=
  s_forG hi d Pv hm h0 (fun B0 i x v σ' M' B' ex b0 b' d' hp hv => tup2_at d' hv fun y z hy hz => hs B0 i x y z σ' M' B' ex b0 b' d' hp hy hz) hd
theorem s_for3 {α β γ : Type} {R : α → Up} {S : β → Up} {T : γ → Up} {xs : List (α × β × γ)} {wi : TI} {j k l : Nat} (hi : EvI wi σ M B (xs.map (rTr R S T))) (d : Dj B M) (Pv : Nat → L2.St → Hp → Hp → Prop) (hm : ∀ i σ' M' B1 B2, Same B1 B2 → Pv i σ' M' B1 → Pv i σ' M' B2)
    (h0 : ∀ B', Same B B' → Dj B' M → Pv 0 σ M B')
    (hs : ∀ B0 i x v w u σ' M' B', xs[i]? = some x → Same B B0 → Same B0 B' → Dj B' M' → Pv i σ' M' B' → (R x.1).p v B' → (S x.2.1).p w B' → (T x.2.2).p u B' →
      tu { D with nx := Nx (Pv (i + 1)) B0, ct := Nx (Pv (i + 1)) B0, bk := D.nx } (((σ'.set j (some v)).set k (some w)).set l (some u)) (jn B' M'))
    (hd : ∀ σ' M' B', Pv xs.length σ' M' B' → Same B B' → Dj B' M' → D.nx σ' (jn B' M')) : tFor wi (gTup K 3 (gCons (gName j) (gCons (gName k) (gCons (gName l) gNil)))) tu D σ (jn B M) :=
  s_forG hi d Pv hm h0 (fun B0 i x v σ' M' B' ex b0 b' d' hp hv => tup3_at d' hv fun y z u hy hz hu => hs B0 i x y z u σ' M' B' ex b0 b' d' hp hy hz hu) hd
/-- while: Pv by a number that falls -/
theorem s_while {tc : TT} (Pv : Nat → L2.St → Hp → Hp → Prop) (m0 : Nat) (h0 : Pv m0 σ M B) (d : Dj B M)
    (hs : ∀ m σ' M' B', Pv m σ' M' B' → Dj B' M' → ∃ b, EvT tc σ' M' B' b ∧ (b = true → ∀ B1, Same B' B1 → Dj B1 M' →
        tu { D with nx := fun σ3 H3 => ∃ m' M3 B3, m' < m ∧ H3 = jn B3 M3 ∧ Dj B3 M3 ∧ Pv m' σ3 M3 B3, ct := fun σ3 H3 => ∃ m' M3 B3, m' < m ∧ H3 = jn B3 M3 ∧ Dj B3 M3 ∧ Pv m' σ3 M3 B3, bk := D.nx } σ' (jn B1 M')) ∧
      (b = false → ∀ B1, Same B' B1 → Dj B1 M' → D.nx σ' (jn B1 M'))) : tWhile tc tu D σ (jn B M) := by
  refine ⟨fun m σ' H => ∃ M' B', H = jn B' M' ∧ Dj B' M' ∧ Pv m σ' M' B', ⟨m0, M, B, rfl, d, h0⟩, ?_⟩
  rintro m σ' H ⟨M', B', rfl, d', hp⟩
  obtain ⟨b, ht, k1, k2⟩ := hs m σ' M' B' hp d'
  refine ht M' B' (Same.refl _) (Same.refl _) d' _ fun B1 b1 d1 => ?_
  cases b with
  | true => exact iteT ⟨_, fun σ3 H3 ⟨m', M3, B3, h1, h2, h3, h4⟩ => ⟨m', h1, M3, B3, h2, h3, h4⟩, k1 rfl B1 b1 d1⟩
  | false => exact iteF (k2 rfl B1 b1 d1)
end

/-! ### a def's promise: it hands back what represents f of what its arguments represent -/
def spF {α : Type} (A : α → List Up) (ok : α → Prop) (R : α → Up) : Sp := fun vs H Q _ => ∃ (x : α) (B M : Hp), H = jn B M ∧ Dj B M ∧ ok x ∧ Al id (A x) vs B ∧ ∀ v B', Same B B' → Dj B' M → (R x).p v B' → Q v (jn B' M)
theorem spF_len {α : Type} {A : α → List Up} {ok : α → Prop} {R : α → Up} {n : Nat} (h : ∀ x, (A x).length = n) : ∀ vs H Q E, spF A ok R vs H Q E → vs.length = n := fun vs H Q E ⟨x, _, _, _, _, _, al, _⟩ => by rw [← al.length, h]
section
variable {σ : L2.St} {M B : Hp} {ta : TA}
theorem ev_call {α : Type} {A : α → List Up} {ok : α → Prop} {R : α → Up} {E : XK} (x : α) (h : EvA ta σ M B (A x)) (o : ok x) : Ev (tCall (spF A ok R) [] E ta) σ M B (R x) := fun M1 B1 m b d Q q => h M1 B1 m b d _ fun vs B2 b2 d2 al =>
  ⟨x, B2, M1, rfl, d2, o, by rw [List.append_nil]; exact al, fun v B3 b3 d3 hv => q v B3 (b2.trans b3) d3 hv⟩
end

/-! ### the freeze: a thing in M is known to its object from here on, and may not be written any more -/
def tFreeze (t : TS) : TS := fun D σ H => ∃ d u, H d = some u ∧ Mut (some u) ∧ ∀ od, t D σ (upd H d (.frz od u))
theorem ps_freeze {X : Cx} {st : Stmt} {t : TS} (h : PS X st t) : PS X st (tFreeze t) := ⟨fun pins s σ H D I ⟨d, u, e, mu, q⟩ => by
  obtain ⟨od, I2⟩ := I.lock e mu
  exact h.run pins s σ _ D I2 (q od)⟩
end Zb
end
section
set_option Elab.async false
set_option linter.all false
set_option maxRecDepth 100000
/-! Ze: the text, its defs as callables, what built-ins do to what represents data. -/
namespace Zb
open PySem PySem.Spec PyProof.Rows L2

/-! ### the text -/
def top (i : Nat) : Stmt := PySem.Challenge.pw_mendnumber_k42_whole_rings_under_changes.main.body.getD i (.Pass ⟨0, 0, 0, 0⟩)
/-- the module's name x holds a value that v is -/
def Gv (mg : Str → Option Value) (x : Str) (v : V) : Prop := ∃ u, mg x = some u ∧ RelV v u
/-- the built-ins that the text calls stand as they are; the module's constants -/
structure Bt (mg : Str → Option Value) : Prop where
  isinstance : mg "isinstance" = none
  len : mg "len" = none
  range : mg "range" = none
  sorted : mg "sorted" = none
  set : mg "set" = none
  list : mg "list" = none
  tuple : mg "tuple" = none
  dict : mg "dict" = none
  any : mg "any" = none
  all : mg "all" = none
  sum : mg "sum" = none
  min : mg "min" = none
  max : mg "max" = none
  abs : mg "abs" = none
  int : mg "int" = none
  enumerate : mg "enumerate" = none
  zip : mg "zip" = none
  bool : mg "bool" = none
  str : mg "str" = none
  GREATEST : Gv mg "GREATEST" (.int (10 ^ 60))
  SIGNS : Gv mg "SIGNS" (.str (tx [97, 98, 99, 100, 101]))
  MAX_WRITTEN : Gv mg "MAX_WRITTEN" (.int 8)
  MAX_STATES : Gv mg "MAX_STATES" (.int 40)
  MAX_LOOP : Gv mg "MAX_LOOP" (.int 12)
  MAX_PAIR : Gv mg "MAX_PAIR" (.int 6)
section
variable {X : Cx} {x : Str} {v : V} {pos : Pos}
theorem pe_gv (hg : Gl X x) (h : Gv X.mg x v) (hd : (x == ("__debug__" : Str)) = false := by decide) : PE X (.Name x pos) (tC v) := by
  obtain ⟨u, e, r⟩ := h
  exact pe_glob hg e r hd
end
/-! ### defs of the module -/
structure Def (K : PySem.W.Frag) (mg : Str → Option Value) (x : Str) (st : Stmt) : Prop where
  ex : ∃ f fd, FunD K x x (defArgs st) (defBody st) (defScope st) [] [] f fd ∧ mg x = some (.ref f)
structure Cal (P : Program) (w : World) (K : PySem.W.Frag) (mg : Str → Option Value) (base : Heap) (k : Nat) (x : Str) (sp : Sp) : Prop where
  ex : ∃ f fd ps, FnOk P w K mg base CX0 k f fd ps sp ∧ mg x = some (.ref f) ∧ PySem.W.keepIn K (.ref f) = true ∧ Binds K fd ps []
section
variable {P : Program} {w : World} {K : PySem.W.Frag} {mg : Str → Option Value} {base : Heap}
theorem cal_of {x : Str} {st : Stmt} {N ps : List Str} {k : Nat} {sp : Sp} (D : Def K mg x st) (S : FnScope N ps (defScope st))
    (b : ∀ (kV doc pm : Value) (an : Option Addr) (cdv ct : Value) (us : List Value), us.length = ps.length → bindArgs (PySem.W.fnOf x x (defArgs st) (defBody st) (defScope st) .none kV doc pm an cdv ct) ⟨us, []⟩ = pure (ps.zip us))
    (len : ∀ vs H Q E, sp vs H Q E → vs.length = ps.length)
    (hbody : ∀ (f : Addr) (cdv : Value) (A : Around) (outer : List Env) (s : Shared) (H : Hp) (vs : List V) (Q : VK) (E : XK), Room k (A.deeper (envOfC x (defScope st) s.heap.objs.size f cdv)) → sp vs H Q E →
      ∃ t, PSs (cxOf CX0 P w K mg base N x (defScope st) f cdv A outer s H E).nox (defBody st) t ∧ t { nx := fun _ H' => Q .non H', rt := Q } (start N vs) H) : Cal P w K mg base (k + 1) x sp := by
  obtain ⟨f, fd, F, hm⟩ := D.ex
  refine ⟨f, fd, ps, F.ok S len fun cdv A outer s H vs Q E hr h => ?_, hm, F.kp, F.bindsN b⟩
  obtain ⟨t, h1, h2⟩ := hbody f cdv A outer s H vs Q E hr h
  exact ⟨t, PSs.nox h1, h2⟩
end
section
variable {X : Cx} {j k : Nat} {x : Str} {sp : Sp} {p pos : Pos} {e : Expr} {es : List Expr} {t : TA}
theorem pe_cal (c : Cal X.prog X.w X.K X.mg X.base k x sp) (hr : Room j X.A) (hk : k ≤ j) (hg : Gl X x) (ha : PA X (e :: es) t)
    (hdb : (x == ("__debug__" : Str)) = false := by decide) (he : starEach (e :: es) X.env = (false, eval e X.env) :: starEach es X.env := by rfl) (hpl : (backTo pos (starEach es X.env)).any (·.1) = false := by rfl) :
    PE X (.Call (.Name x p) (e :: es) [] pos) (tCall sp [] E0 t) := by
  obtain ⟨f, fd, ps, F, hm, kp, b⟩ := c.ex
  exact pe_call F (hr.mono hk) hg hm kp b .nil pass0 ha hdb he hpl
end

/-! ### built-ins -/
section
variable {K : PySem.W.Frag} {σ : L2.St} {M B : Hp} {ta tb : TE} {U : Up} {z : V}
theorem ev_cb1 {r : List V → Hp → VK → Prop} (ha : Ev ta σ M B U) (hr : ∀ x M1 B1, Same M M1 → Same B B1 → Dj B1 M1 → U.p x B1 → ∀ Q : VK, Q z (jn B1 M1) → r [x] (jn B1 M1) Q) : Ev (tCB r (tCons ta tNil)) σ M B (isV z) := fun M1 B1 m b d Q q =>
  ha M1 B1 m b d _ fun x B2 b2 d2 hx => hr x M1 B2 m (b.trans b2) d2 hx Q (q z B2 b2 d2 rfl)
theorem ev_cb2 {r : List V → Hp → VK → Prop} {W : Up} (ha : Ev ta σ M B U) (hb : Ev tb σ M B W) (hr : ∀ x y M1 B1, Same M M1 → Same B B1 → Dj B1 M1 → U.p x B1 → W.p y B1 → ∀ Q : VK, Q z (jn B1 M1) → r [x, y] (jn B1 M1) Q) : Ev (tCB r (tCons ta (tCons tb tNil))) σ M B (isV z) := fun M1 B1 m b d Q q =>
  ha M1 B1 m b d _ fun x B2 b2 d2 hx => hb M1 B2 m (b.trans b2) d2 _ fun y B3 b3 d3 hy => hr x y M1 B3 m (b.trans (b2.trans b3)) d3 (U.up b3 hx) hy Q (q z B3 (b2.trans b3) d3 rfl)
/-- isinstance(x, T), T a built-in class -/
theorem ev_isi {t n : String} {b : Bool} (ha : Ev ta σ M B U) (ty : ∀ v M1 B1, Dj B1 M1 → U.p v B1 → TyX K (jn B1 M1) v (.type t)) (k : kitB t n = some b) : Ev (tCB (rIsi K) (tCons ta (tCons (tC (.ty n)) tNil))) σ M B (rBl b) :=
  ev_cb2 ha ev_c fun x y M1 B1 _ _ d hx hy Q q => ⟨x, .ty n, .type t, .type n, b, by rw [show y = .ty n from hy], .ty n, ty x M1 B1 d hx, kit_ty k, q⟩
theorem ty_int {i : Int} : ∀ v M1 B1, Dj B1 M1 → (rInt i).p v B1 → TyX K (jn B1 M1) v (.type "int") := fun v M1 B1 _ h => by
  rw [show v = .int i from h]
  exact .base (.int i)
theorem ty_bl {b : Bool} : ∀ v M1 B1, Dj B1 M1 → (rBl b).p v B1 → TyX K (jn B1 M1) v (.type "bool") := fun v M1 B1 _ h => by
  rw [show v = .bl b from h]
  exact .base (.bl b)
theorem ty_tx {w : List Nat} : ∀ v M1 B1, Dj B1 M1 → (rTx w).p v B1 → TyX K (jn B1 M1) v (.type "str") := fun v M1 B1 _ h => by
  rw [show v = .str (tx w) from h]
  exact .base (.str _)
theorem ty_tup {α : Type} {R : α → Up} {xs : List α} : ∀ v M1 B1, Dj B1 M1 → (rTup R xs).p v B1 → TyX K (jn B1 M1) v (.type "tuple") := fun v M1 B1 d ⟨a, vs, e, h, _⟩ => by
  rw [e]
  exact .base (.tup (jn_b d h))
theorem ty_pr {α β : Type} {R : α → Up} {S : β → Up} {x : α × β} : ∀ v M1 B1, Dj B1 M1 → (rPr R S x).p v B1 → TyX K (jn B1 M1) v (.type "tuple") := fun v M1 B1 d ⟨a, y, z, e, h, _⟩ => by
  rw [e]
  exact .base (.tup (jn_b d h))
theorem ty_row {r : Row} : ∀ v M1 B1, Dj B1 M1 → (rRow r).p v B1 → TyX K (jn B1 M1) v (.type "dict") := fun v M1 B1 d ⟨a, od, e, h⟩ => by
  rw [e]
  exact .fDict (jn_b d h)
/-- len -/
abbrev rLenS (K : PySem.W.Frag) : List V → Hp → VK → Prop := fun xs H Q => ∃ p ys, xs = [.ref p] ∧ (SqL K H p ys ∨ SqT K H p ys) ∧ Q (.int ys.length) H
theorem ev_lenL {α : Type} {R : α → Up} {xs : List α} (ha : Ev ta σ M B (rLst R xs)) : Ev (tCB (rLenS K) (tCons ta tNil)) σ M B (rNat xs.length) :=
  ev_cb1 ha fun x M1 B1 _ _ d ⟨a, vs, e, h, al⟩ Q q => ⟨a, vs, by rw [e], .inl (SqL.of (jn_b d h)), by rw [← al.length]; exact q⟩
theorem ev_lenT {α : Type} {R : α → Up} {xs : List α} (ha : Ev ta σ M B (rTup R xs)) : Ev (tCB (rLenS K) (tCons ta tNil)) σ M B (rNat xs.length) :=
  ev_cb1 ha fun x M1 B1 _ _ d ⟨a, vs, e, h, al⟩ Q q => ⟨a, vs, by rw [e], .inr (SqT.of (jn_b d h)), by rw [← al.length]; exact q⟩
theorem ev_lenP {α β : Type} {R : α → Up} {S : β → Up} {x : α × β} (ha : Ev ta σ M B (rPr R S x)) : Ev (tCB (rLenS K) (tCons ta tNil)) σ M B (rNat 2) :=
  ev_cb1 ha fun x M1 B1 _ _ d ⟨a, y, z, e, h, _⟩ Q q => ⟨a, [y, z], by rw [e], .inr (SqT.of (jn_b d h)), q⟩
/-- len of a list in M -/
theorem ev_lenM {i : Nat} {l : Addr} {vs : List V} (hσ : σ[i]? = some (some (.ref l))) (hl : M l = some (.lst vs)) : Ev (tCB (rLenS K) (tCons (tVar i) tNil)) σ M B (rNat vs.length) := fun M1 B1 m b d Q q =>
  ⟨_, hσ, l, vs, rfl, .inl (SqL.of (jn_m (m _ _ hl))), q _ B1 (Same.refl _) d rfl⟩
abbrev rLenX : List V → Hp → VK → Prop := fun xs H Q => ∃ z, xs = [.str z] ∧ z.length ≤ sizeLine ∧ Q (.int z.length) H
theorem ev_lenX {w : List Nat} (ha : Ev ta σ M B (rTx w)) (hl : w.length ≤ 100000) : Ev (tCB rLenX (tCons ta tNil)) σ M B (rNat w.length) :=
  ev_cb1 ha fun x M1 B1 _ _ d hx Q q => ⟨tx w, by rw [show x = .str (tx w) from hx], by
    show w.toArray.size ≤ sizeLine
    simp
    exact Nat.le_trans hl (by decide), by
    rw [show (tx w).length = w.length from by show w.toArray.size = w.length; simp]
    exact q⟩
/-- any, all of a list of truth values -/
theorem ev_any {bs : List Bool} (ha : Ev ta σ M B (rLst rBl bs)) : Ev (tCB (rAny K) (tCons ta tNil)) σ M B (rBl (bs.any id)) :=
  ev_cb1 ha fun x M1 B1 _ _ d ⟨a, vs, e, h, al⟩ Q q => ⟨a, bs, by rw [e], by rw [show bs.map V.bl = vs from (al.isV (f := V.bl)).symm]; exact SqL.of (jn_b d h), q⟩
theorem ev_all {bs : List Bool} (ha : Ev ta σ M B (rLst rBl bs)) : Ev (tCB (rAll K) (tCons ta tNil)) σ M B (rBl (bs.all id)) :=
  ev_cb1 ha fun x M1 B1 _ _ d ⟨a, vs, e, h, al⟩ Q q => ⟨a, bs, by rw [e], by rw [show bs.map V.bl = vs from (al.isV (f := V.bl)).symm]; exact SqL.of (jn_b d h), q⟩
/-- one sign in a text -/
theorem ev_inS {c : Nat} {w : List Nat} (ha : Ev ta σ M B (rTx [c])) (hb : Ev tb σ M B (rTx w)) : Ev (tOp (fun x y H Q => ∃ (c : Nat) (z : Str), x = .str ⟨#[c]⟩ ∧ y = .str z ∧ Q (.bl (decide (c ∈ z.cps.toList))) H) ta tb) σ M B (rBl (decide (c ∈ w))) :=
  ev_op0 ha hb fun x y M1 B1 _ _ _ hx hy Q q => ⟨c, tx w, hx, hy, by
    rw [show (tx w).cps.toList = w from by show w.toArray.toList = w; simp]
    exact q⟩
end

/-! ### is_integer, is_sign, is_word -/
abbrev s_is_integer : Stmt := top 11
abbrev s_is_sign : Stmt := top 12
abbrev s_is_word : Stmt := top 13
theorem sc_is_integer : FnScope ["value"] ["value"] (defScope s_is_integer) := ⟨rfl, rfl, rfl, by decide +kernel, rfl, by decide +kernel, by decide +kernel⟩
theorem sc_is_sign : FnScope ["value"] ["value"] (defScope s_is_sign) := ⟨rfl, rfl, rfl, by decide +kernel, rfl, by decide +kernel, by decide +kernel⟩
theorem sc_is_word : FnScope ["value", "sign"] ["value"] (defScope s_is_word) := ⟨rfl, rfl, rfl, by decide +kernel, rfl, by decide +kernel, by decide +kernel⟩
def sp_is_integer : Sp := spF (α := Nat) (fun n => [rNat n]) (fun n => n ≤ 1000000) (fun _ => rBl true)
def sp_is_sign : Sp := spF (α := Nat) (fun c => [rTx [c]]) (fun c => c ∈ [97, 98, 99, 100, 101]) (fun _ => rBl true)
def sp_is_word : Sp := spF (α := List Nat) (fun w => [rTx w]) (fun w => w.length ≤ 100000 ∧ ∀ c ∈ w, c ∈ [97, 98, 99, 100, 101]) (fun _ => rBl true)
section
variable {P : Program} {w : World} {K : PySem.W.Frag} {mg : Str → Option Value} {base : Heap}
theorem c_is_integer (D : Def K mg "is_integer" s_is_integer) (T : Bt mg) : Cal P w K mg base 1 "is_integer" sp_is_integer :=
  cal_of D sc_is_integer (fun _ _ _ _ _ _ us hl => match us, hl with | [_], _ => rfl) (spF_len fun _ => rfl) fun f cdv A outer s H vs Q E hr h => by
  obtain ⟨n, B, M, rfl, d, hn, al, q⟩ := h
  refine ⟨_, (pss_one (ps_ret (pe_and (pe_callB call_isi (by rfl) T.isinstance (by decide +kernel) (pa_cons (pv 0) (pa_cons (pe_bltn (v := .ty "int") (by rfl) T.int (by decide +kernel) rfl) pa_nil))) (pe_and (pe_not (pe_callB call_isi (by rfl) T.isinstance (by decide +kernel) (pa_cons (pv 0) (pa_cons (pe_bltn (v := .ty "bool") (by rfl) T.bool (by decide +kernel) rfl) pa_nil)))) (pe_one (pe_chain op_lt op_lt (pe_un un_neg (pe_gv (by rfl) T.GREATEST)) (pv 0) (pe_gv (by rfl) T.GREATEST))))))), ?_⟩
  cases al with
  | cons h1 h2 =>
    cases h2
    cases (show _ = _ from h1)
    have e0 : ([some (V.int (n : Int))] : L2.St)[0]? = some (some (V.int (n : Int))) := rfl
    refine s_ret (U := rBl true) ?_ d q
    have ee := ev_andV (ev_isi (K := K) (σ := start ["value"] [V.int (n : Int)]) (M := M) (B := B) (ev_v (U := rNat n) e0 rfl) ty_int (by decide +kernel : kitB "int" "int" = some true)) fun _ =>
      ev_andV (ev_notV (ev_isi (K := K) (ev_v (U := rNat n) e0 rfl) ty_int (by decide +kernel : kitB "int" "bool" = some false))) fun _ =>
        ev_chI (g := fun i j => decide (i < j)) (g' := fun i j => decide (i < j)) (ev_un (g := fun i => .int (-i)) (ev_c (x := .int (10 ^ 60)))) (ev_v (U := rNat n) e0 rfl) (ev_c (x := .int (10 ^ 60)))
    refine ee.to fun v B2 _ hv => ?_
    rw [show v = _ from hv]
    have h1 : (-(10 ^ 60) : Int) < (n : Int) := by omega
    have h2 : (n : Int) < 10 ^ 60 := by omega
    rw [decide_eq_true h1, decide_eq_true h2]
    rfl
theorem c_is_sign (D : Def K mg "is_sign" s_is_sign) (T : Bt mg) : Cal P w K mg base 1 "is_sign" sp_is_sign :=
  cal_of D sc_is_sign (fun _ _ _ _ _ _ us hl => match us, hl with | [_], _ => rfl) (spF_len fun _ => rfl) fun f cdv A outer s H vs Q E hr h => by
  obtain ⟨c, B, M, rfl, d, hc, al, q⟩ := h
  refine ⟨_, (pss_one (ps_ret (pe_and (pe_callB call_isi (by rfl) T.isinstance (by decide +kernel) (pa_cons (pv 0) (pa_cons (pe_bltn (v := .ty "str") (by rfl) T.str (by decide +kernel) rfl) pa_nil))) (pe_and (pe_cmpR op_eq (pe_callB call_len_str (by rfl) T.len (by decide +kernel) (pa_cons (pv 0) pa_nil)) pe_int (nomark _)) (pe_one (pe_cmpR op_in_sign (pv 0) (pe_gv (by rfl) T.SIGNS) (by rfl))))))), ?_⟩
  cases al with
  | cons h1 h2 =>
    cases h2
    cases (show _ = _ from h1)
    have e0 : (start ["value"] [V.str (tx [c])])[0]? = some (some (V.str (tx [c]))) := rfl
    refine s_ret (U := rBl true) ?_ d q
    have ee := ev_andV (ev_isi (K := K) (M := M) (B := B) (ev_v (U := rTx [c]) e0 rfl) ty_tx (by decide +kernel : kitB "str" "str" = some true)) fun _ =>
      ev_andV (ev_eq (y := .int 1) (ev_lenX (ev_v (U := rTx [c]) e0 rfl) (by show 1 ≤ 100000; decide)) ev_c rfl) fun _ => ev_inS (ev_v (U := rTx [c]) e0 rfl) (ev_c (x := .str (tx [97, 98, 99, 100, 101])))
    refine ee.to fun v B2 _ hv => ?_
    rw [show v = _ from hv, decide_eq_true hc]
    rfl
end
end Zb
end
section
set_option Elab.async false
set_option linter.all false
set_option maxRecDepth 100000
set_option maxHeartbeats 0
/-! Zh1: what the head is asked; the run. -/
namespace Zh
open PySem PySem.Spec PyProof.Rows L2 SlX He Zb
/-! ### facts as Bools -/
def getr (K : PySem.W.Frag) (C : Addr) (f : Str) : Addr := match PySem.W.recIn K (ma K C f) "property" with
  | some (.ref g :: _) => g
  | _ => 0
def mkB (K : PySem.W.Frag) (C : Addr) : Bool := PySem.W.makesIn K C && PySem.W.keepIn K (.ref C)
def sclsB (K : PySem.W.Frag) (C : Addr) : Bool := PySem.W.plainGet K C Str.empty && (PySem.W.isClsIn K C && (PySem.W.plainOver K C && eqO (PySem.W.findIn K (.ref C) "__setattr__") (some (some (.builtin "object.__setattr__")))))
def sisiB (K : PySem.W.Frag) (C : Addr) : Bool := eqO (PySem.W.findIn K (.ref C) "__class__") (some (some (.builtin "object.__class__"))) && (eqO (PySem.W.specialIn K (.builtin "object.__class__") "__get__") (some (some (.builtin "getset_descriptor.__get__"))) && (decide (PySem.W.takesIn K (.builtin "object.__class__") = some true) && decide (PySem.W.mroIn K C (.type "object") = some true)))
def slotB (K : PySem.W.Frag) (C : Addr) (f : Str) (i : Nat) : Bool := eqO (PySem.W.findIn K (.ref C) f) (some (some (.ref (ma K C f)))) && (eqO (PySem.W.specialIn K (.ref (ma K C f)) "__get__") (some (some (.builtin "member_descriptor.__get__"))) && (decide (PySem.W.takesIn K (.ref (ma K C f)) = some true) && (decide (PySem.W.typeIn K (.ref (ma K C f)) = some (.type "member_descriptor")) && (decide (PySem.W.slotIn K (ma K C f) C = some i) && decide (i < 1000)))))
def propB (K : PySem.W.Frag) (C : Addr) (f : Str) : Bool := PySem.W.isClsIn K C && (PySem.W.plainGet K C f && (eqO (PySem.W.findIn K (.ref C) f) (some (some (.ref (ma K C f)))) && (eqO (PySem.W.specialIn K (.ref (ma K C f)) "__get__") (some (some (.builtin "property.__get__"))) && (decide (PySem.W.takesIn K (.ref (ma K C f)) = some true) && (match PySem.W.recIn K (ma K C f) "property" with
  | some (.ref g :: _) => decide (g = getr K C f)
  | _ => false)))))
theorem mk_ok {K : PySem.W.Frag} {C f : Addr} (h : mkB K C = true) (m : Meth K C "__init__" f) : Mk K C f := ⟨(ba h).1, m.at_, m.fn, (ba h).2⟩
theorem scls_ok {K : PySem.W.Frag} {C : Addr} (h : sclsB K C = true) : SCls K C := by
  obtain ⟨c1, h⟩ := ba h
  obtain ⟨c2, h⟩ := ba h
  obtain ⟨c3, c4⟩ := ba h
  exact ⟨c1, c2, c3, eqO_ok c4⟩
theorem sisi_ok {K : PySem.W.Frag} {C : Addr} (h : sisiB K C = true) : SIsi K C := by
  obtain ⟨c1, h⟩ := ba h
  obtain ⟨c2, h⟩ := ba h
  obtain ⟨c3, c4⟩ := ba h
  exact ⟨eqO_ok c1, eqO_ok c2, of_decide_eq_true c3, of_decide_eq_true c4⟩
theorem slot_ok {K : PySem.W.Frag} {C : Addr} {f : Str} {i : Nat} (h : slotB K C f i = true) : ∃ p, Slot1 K C f p i := by
  obtain ⟨c1, h⟩ := ba h
  obtain ⟨c2, h⟩ := ba h
  obtain ⟨c3, h⟩ := ba h
  obtain ⟨c4, h⟩ := ba h
  obtain ⟨c5, c6⟩ := ba h
  exact ⟨_, eqO_ok c1, eqO_ok c2, of_decide_eq_true c3, of_decide_eq_true c4, of_decide_eq_true c5, of_decide_eq_true c6⟩
theorem prop_ok {K : PySem.W.Frag} {C : Addr} {f : Str} (h : propB K C f = true) : PySem.W.isClsIn K C = true ∧ PySem.W.plainGet K C f = true ∧ PropOf K C f (ma K C f) (getr K C f) := by
  obtain ⟨c1, h⟩ := ba h
  obtain ⟨c2, h⟩ := ba h
  obtain ⟨c3, h⟩ := ba h
  obtain ⟨c4, h⟩ := ba h
  obtain ⟨c5, c6⟩ := ba h
  refine ⟨c1, c2, eqO_ok c3, eqO_ok c4, of_decide_eq_true c5, ?_⟩
  cases q : PySem.W.recIn K (ma K C f) "property" with
  | none =>
    rw [q] at c6
    cases c6
  | some l =>
    rw [q] at c6
    match l, c6, q with
    | .ref g :: rest, c6, q =>
      have e : g = getr K C f := of_decide_eq_true c6
      exact ⟨rest, by rw [← e]⟩
/-! ### defs by their addresses -/
structure DefE where
  ad : PySem.W.Frag → Addr
  name : Str
  qual : Str
  st : Stmt
abbrev FnX : Type := Option (Str × Str × Arguments × FuncBody × Scope × Addr × List (Str × Addr) × Addr)
def DefE.obs (K : PySem.W.Frag) (d : DefE) : FnX := match K.lookup (d.ad K) with
  | some ⟨_, _, .func fd, _⟩ => some (fd.name, fd.qualname, fd.params, fd.body, fd.scope, fd.globals, fd.closure, fd.builtins)
  | _ => none
def DefE.val (d : DefE) : FnX := some (d.name, d.qual, defArgs d.st, .stmts (defBody d.st), defScope d.st, mainGlobals, [], builtinsNs)
def DefE.ok (K : PySem.W.Frag) (d : DefE) : Bool := PySem.W.keepIn K (.ref (d.ad K)) && (match K.lookup (d.ad K) with
  | some ⟨_, _, .func fd, _⟩ => PySem.W.codeIn K fd.code d.qual && (dflB K fd.defaults [] && kwdB K fd.kwdefaults [])
  | _ => false)
theorem DefE.funD {K : PySem.W.Frag} {d : DefE} (e : d.obs K = d.val) (c : d.ok K = true) : ∃ fd, FunD K d.name d.qual (defArgs d.st) (defBody d.st) (defScope d.st) [] [] (d.ad K) fd := by
  obtain ⟨kp, c2⟩ := ba c
  unfold DefE.obs at e
  cases q : K.lookup (d.ad K) with
  | none =>
    rw [q] at c2
    cases c2
  | some o =>
    obtain ⟨oc, od, dt, osl⟩ := o
    rw [q] at c2 e
    cases dt with
    | func fd =>
      obtain ⟨n1, n2, n3, n4, n5, n6, n7, n8, n9, n10, n11, n12, n13, n14, n15⟩ := fd
      have e2 : (some (n1, n2, n3, n4, n5, n6, n7, n15) : FnX) = some (d.name, d.qual, defArgs d.st, .stmts (defBody d.st), defScope d.st, mainGlobals, [], builtinsNs) := e
      simp only [Option.some.injEq, Prod.mk.injEq] at e2
      obtain ⟨h1, h2, h3, h4, h5, h6, h7, h8⟩ := e2
      subst h1 h2 h3 h4 h5 h6 h7 h8
      have c3 : (PySem.W.codeIn K n13 d.qual && (dflB K n8 [] && kwdB K n9 [])) = true := c2
      obtain ⟨k1, k2⟩ := ba c3
      obtain ⟨k3, k4⟩ := ba k2
      exact ⟨_, ⟨oc, od, n8, n9, n10, n11, n12, n13, n14, osl, rfl, q, k1, dflB_ok k3, kwdB_ok k4⟩, kp⟩
    | _ => cases c2
/-! ### which objects are looked at -/
def codeA (g : Addr → Option Obj) (a : Addr) : List Addr := match g a with
  | some ⟨_, _, .func fd, _⟩ => refV fd.code
  | _ => []
def nsA (g : Addr → Option Obj) (a : Addr) : List Addr := match g a with
  | some ⟨_, _, .cls cd, _⟩ => [cd.ns]
  | _ => []
def esA (g : Addr → Option Obj) (a : Addr) : List DictEntry := match g a with
  | some ⟨_, _, .dict es _, _⟩ => es.toList
  | _ => []
def getA (g : Addr → Option Obj) (a : Addr) : List Addr := match g a with
  | some ⟨.type n, _, .fields vs, _⟩ => if n == "property" then (match vs.toList with
    | .ref b :: _ => [b]
    | _ => []) else []
  | _ => []
def clsNames : List Str := ["Form", "MadeForm", "Quotient", "Rings"]
def clE (es : List DictEntry) : List Addr := es.flatMap fun e => match e.key with
  | .str x _ => if clsNames.contains x then refV e.val else []
  | _ => []
def vsE (es : List DictEntry) : List Addr := es.flatMap fun e => refV e.val
def need3 (g : Addr → Option Obj) (cl ns ms gt fs : List Addr) : List Addr := mainGlobals :: (cl ++ (ns ++ (ms ++ (gt ++ (fs ++ (fs.flatMap (codeA g) ++ (ms.flatMap (codeA g) ++ gt.flatMap (codeA g))))))))
def need2 (g : Addr → Option Obj) (cl ns ms fs : List Addr) : List Addr := need3 g cl ns ms (ms.flatMap (getA g)) fs
def need1 (g : Addr → Option Obj) (cl ns fs : List Addr) : List Addr := need2 g cl ns (ns.flatMap fun a => vsE (esA g a)) fs
def need0 (g : Addr → Option Obj) (cl fs : List Addr) : List Addr := need1 g cl (cl.flatMap (nsA g)) fs
def needE (g : Addr → Option Obj) (es : List DictEntry) : List Addr := need0 g (clE es) (vsE es)
def needG (g : Addr → Option Obj) : List Addr := needE g (esA g mainGlobals)
/-! ### the Hook -/
abbrev AlE : Type := Bool × List FnX
def obsE (fa : PySem.W.Frag → List Bool) (fn : List DefE) (K : PySem.W.Frag) : AlE := (((fa K).all id) && fn.all fun d => d.ok K, fn.map fun d => d.obs K)
def valE (fn : List DefE) : AlE := (true, fn.map DefE.val)
def SaysE (fa : PySem.W.Frag → List Bool) (fn : List DefE) (K : PySem.W.Frag) : Prop := obsE fa fn K = valE fn
def obsG (fa : PySem.W.Frag → List Bool) (fn : List DefE) (g : Addr → Option Obj) : AlE := obsE fa fn (frG g (needG g))
def hookE (fa : PySem.W.Frag → List Bool) (fn : List DefE) : PySem.W.Hook where
  α := AlE
  obs := fun s => obsG fa fn s.heap.get?
  val := fun _ => valE fn
  says := fun _ h => ∃ K : PySem.W.Frag, K.In h ∧ SaysE fa fn K
  of := fun _ _ e => ⟨_, frG_in, e⟩
  keeps := fun _ _ _ ⟨K, hK, c⟩ k => ⟨K, PySem.W.Frag.In.keeps hK k, c⟩
theorem obsG_eq {fa : PySem.W.Frag → List Bool} {fn : List DefE} {g : Addr → Option Obj} {s : Shared} (h : ∀ a, g a = s.heap.get? a) : obsG fa fn g = (hookE fa fn).obs s := by
  have e : g = s.heap.get? := funext h
  rw [e] <;> rfl
theorem SaysE.fact {fa : PySem.W.Frag → List Bool} {fn : List DefE} {K : PySem.W.Frag} (c : SaysE fa fn K) (i : Nat) {b : Bool} (h : (fa K)[i]? = some b := by rfl) : b = true := by
  have c1 := (ba (show (((fa K).all id) && fn.all fun d => d.ok K) = true from congrArg (fun z : AlE => z.1) c)).1
  exact List.all_eq_true.mp c1 b (List.mem_of_getElem? h)
theorem SaysE.def_ {fa : PySem.W.Frag → List Bool} {fn : List DefE} {K : PySem.W.Frag} (c : SaysE fa fn K) (i : Nat) {d : DefE} (h : fn[i]? = some d := by rfl) : ∃ fd, FunD K d.name d.qual (defArgs d.st) (defBody d.st) (defScope d.st) [] [] (d.ad K) fd := by
  have c2 := (ba (show (((fa K).all id) && fn.all fun d => d.ok K) = true from congrArg (fun z : AlE => z.1) c)).2
  have e : fn.map (fun d => d.obs K) = fn.map DefE.val := congrArg (fun z : AlE => z.2) c
  have e2 : (fn.map fun d => d.obs K)[i]? = (fn.map DefE.val)[i]? := by rw [e]
  rw [List.getElem?_map, List.getElem?_map, h] at e2
  exact DefE.funD (Option.some.inj e2) (List.all_eq_true.mp c2 d (List.mem_of_getElem? h))
/-! ### this text -/
def fa0 (K : PySem.W.Frag) : List Bool := [(Fa.free "isinstance").ok K,
  (Fa.free "len").ok K,
  (Fa.free "range").ok K,
  (Fa.free "sorted").ok K,
  (Fa.free "set").ok K,
  (Fa.free "list").ok K,
  (Fa.free "tuple").ok K,
  (Fa.free "dict").ok K,
  (Fa.free "any").ok K,
  (Fa.free "all").ok K,
  (Fa.free "sum").ok K,
  (Fa.free "min").ok K,
  (Fa.free "max").ok K,
  (Fa.free "abs").ok K,
  (Fa.free "int").ok K,
  (Fa.free "enumerate").ok K,
  (Fa.free "zip").ok K,
  (Fa.free "bool").ok K,
  (Fa.free "str").ok K,
  (Fa.int "GREATEST" (10 ^ 60)).ok K]
def fa1 (K : PySem.W.Frag) : List Bool := [(Fa.int "MAX_WRITTEN" 8).ok K,
  (Fa.int "MAX_STATES" 40).ok K,
  (Fa.int "MAX_LOOP" 12).ok K,
  (Fa.int "MAX_PAIR" 6).ok K,
  (Fa.str "SIGNS" (tx [97, 98, 99, 100, 101])).ok K,
  (Fa.glo "is_among").ok K,
  (Fa.glo "require_state").ok K,
  (Fa.glo "made_form").ok K,
  (Fa.glo "lacking_piece").ok K,
  (Fa.glo "covers").ok K,
  (Fa.glo "ways_back").ok K,
  (Fa.glo "read_on").ok K,
  (Fa.glo "_law_alike").ok K,
  (Fa.glo "_law_lots").ok K,
  (Fa.glo "_law_lot").ok K,
  (Fa.glo "require_rings").ok K,
  (Fa.glo "first_lack").ok K,
  (Fa.glo "_law_turned").ok K,
  (Fa.glo "_law_from").ok K,
  (Fa.glo "_law_useful").ok K]
def fa2 (K : PySem.W.Frag) : List Bool := [(Fa.glo "_law_one").ok K,
  (Fa.glo "_law_some").ok K,
  (Fa.glo "is_integer").ok K,
  (Fa.glo "is_sign").ok K,
  (Fa.glo "are_useful").ok K,
  (Fa.glo "_law_goes_on").ok K,
  (Fa.glo "_law_least_right").ok K,
  (Fa.glo "is_word").ok K,
  (Fa.glo "is_state").ok K,
  (Fa.glo "in_order").ok K,
  (Fa.glo "are_states").ok K,
  (Fa.glo "useful_states").ok K,
  (Fa.glo "classes_of").ok K,
  (Fa.glo "states_from").ok K,
  (Fa.glo "_law_trimmed").ok K,
  (Fa.glo "words_between").ok K,
  (Fa.glo "require_form").ok K,
  (Fa.glo "require_six").ok K,
  (Fa.glo "_law_spelled").ok K,
  (Fa.glo "_law_loops_right").ok K]
def fa3 (K : PySem.W.Frag) : List Bool := [(Fa.glo "_law_made").ok K,
  (Fa.glo "_law_plain").ok K,
  (Fa.glo "explored").ok K,
  (Fa.glo "law").ok K,
  (Fa.glo "Form").ok K,
  (Fa.glo "MadeForm").ok K,
  (Fa.glo "Quotient").ok K,
  (Fa.glo "Rings").ok K,
  mkB K (ga K "Form"),
  mkB K (ga K "MadeForm"),
  mkB K (ga K "Quotient"),
  mkB K (ga K "Rings"),
  sclsB K (ga K "Form"),
  sclsB K (ga K "MadeForm"),
  sclsB K (ga K "Quotient"),
  sisiB K (ga K "Form"),
  slotB K (ga K "Form") "own_moves" 1,
  slotB K (ga K "Form") "own_lasts" 0,
  decide (PySem.W.kitOne K (.ref (ga K "Form")) (.ref (ga K "Form")) = some true),
  sisiB K (ga K "MadeForm")]
def fa4 (K : PySem.W.Frag) : List Bool := [slotB K (ga K "MadeForm") "own_moves" 1,
  slotB K (ga K "MadeForm") "own_lasts" 0,
  decide (PySem.W.kitOne K (.ref (ga K "MadeForm")) (.ref (ga K "Form")) = some true),
  slotB K (ga K "Quotient") "of_moves" 2,
  slotB K (ga K "Quotient") "of_lasts" 1,
  slotB K (ga K "Quotient") "of_classes" 0,
  (Fa.cls "Rings").ok K,
  (Fa.noat "Rings" "own_form").ok K,
  (Fa.noat "Rings" "own_reach").ok K,
  (Fa.noat "Rings" "own_parts").ok K,
  (Fa.noat "Rings" "own_rings").ok K,
  (Fa.meth "Rings" "all_parts").ok K,
  (Fa.meth "Rings" "has_move").ok K,
  (Fa.meth "Rings" "__contains__").ok K,
  (Fa.meth "Rings" "__len__").ok K,
  (Fa.meth "Rings" "leads_to").ok K,
  (Fa.meth "Rings" "__getitem__").ok K,
  (Fa.meth "Rings" "__init__").ok K,
  (Fa.meth "Form" "least").ok K,
  (Fa.meth "Rings" "reads").ok K]
def fa5 (K : PySem.W.Frag) : List Bool := [(Fa.meth "Rings" "loops").ok K,
  (Fa.meth "Quotient" "__init__").ok K,
  (Fa.meth "Quotient" "begun").ok K,
  (Fa.meth "Quotient" "is_end").ok K,
  (Fa.meth "Quotient" "moves_at").ok K,
  (Fa.meth "Form" "__init__").ok K,
  (Fa.meth "MadeForm" "__init__").ok K,
  (Fa.meth "Form" "__len__").ok K,
  (Fa.meth "MadeForm" "__len__").ok K,
  propB K (ga K "Form") "signs",
  propB K (ga K "MadeForm") "signs",
  propB K (ga K "Rings") "rings",
  propB K (ga K "Rings") "longest"]
def fa (K : PySem.W.Frag) : List Bool := fa0 K ++ fa1 K ++ fa2 K ++ fa3 K ++ fa4 K ++ fa5 K
def fn0 : List DefE := [⟨fun K => ga K "is_among", "is_among", "is_among", (top 58)⟩,
  ⟨fun K => ga K "require_state", "require_state", "require_state", (top 57)⟩,
  ⟨fun K => ga K "made_form", "made_form", "made_form", (top 42)⟩,
  ⟨fun K => ga K "lacking_piece", "lacking_piece", "lacking_piece", (top 61)⟩,
  ⟨fun K => ga K "covers", "covers", "covers", (top 62)⟩,
  ⟨fun K => ga K "ways_back", "ways_back", "ways_back", (top 53)⟩,
  ⟨fun K => ga K "read_on", "read_on", "read_on", (top 55)⟩,
  ⟨fun K => ga K "_law_alike", "_law_alike", "_law_alike", (top 77)⟩,
  ⟨fun K => ga K "_law_lots", "_law_lots", "_law_lots", (top 64)⟩,
  ⟨fun K => ga K "_law_lot", "_law_lot", "_law_lot", (top 65)⟩,
  ⟨fun K => ga K "require_rings", "require_rings", "require_rings", (top 60)⟩,
  ⟨fun K => ga K "first_lack", "first_lack", "first_lack", (top 59)⟩,
  ⟨fun K => ga K "_law_turned", "_law_turned", "_law_turned", (top 75)⟩,
  ⟨fun K => ga K "_law_from", "_law_from", "_law_from", (top 68)⟩,
  ⟨fun K => ga K "_law_useful", "_law_useful", "_law_useful", (top 69)⟩,
  ⟨fun K => ga K "_law_one", "_law_one", "_law_one", (top 66)⟩,
  ⟨fun K => ga K "_law_some", "_law_some", "_law_some", (top 67)⟩,
  ⟨fun K => ga K "is_integer", "is_integer", "is_integer", (top 11)⟩,
  ⟨fun K => ga K "is_sign", "is_sign", "is_sign", (top 12)⟩,
  ⟨fun K => ga K "are_useful", "are_useful", "are_useful", (top 18)⟩]
def fn1 : List DefE := [⟨fun K => ga K "_law_goes_on", "_law_goes_on", "_law_goes_on", (top 73)⟩,
  ⟨fun K => ga K "_law_least_right", "_law_least_right", "_law_least_right", (top 78)⟩,
  ⟨fun K => ga K "is_word", "is_word", "is_word", (top 13)⟩,
  ⟨fun K => ga K "is_state", "is_state", "is_state", (top 34)⟩,
  ⟨fun K => ga K "in_order", "in_order", "in_order", (top 36)⟩,
  ⟨fun K => ga K "are_states", "are_states", "are_states", (top 35)⟩,
  ⟨fun K => ga K "useful_states", "useful_states", "useful_states", (top 17)⟩,
  ⟨fun K => ga K "classes_of", "classes_of", "classes_of", (top 19)⟩,
  ⟨fun K => ga K "states_from", "states_from", "states_from", (top 52)⟩,
  ⟨fun K => ga K "_law_trimmed", "_law_trimmed", "_law_trimmed", (top 70)⟩,
  ⟨fun K => ga K "words_between", "words_between", "words_between", (top 54)⟩,
  ⟨fun K => ga K "require_form", "require_form", "require_form", (top 39)⟩,
  ⟨fun K => ga K "require_six", "require_six", "require_six", (top 51)⟩,
  ⟨fun K => ga K "_law_spelled", "_law_spelled", "_law_spelled", (top 76)⟩,
  ⟨fun K => ga K "_law_loops_right", "_law_loops_right", "_law_loops_right", (top 74)⟩,
  ⟨fun K => ga K "_law_made", "_law_made", "_law_made", (top 72)⟩,
  ⟨fun K => ga K "_law_plain", "_law_plain", "_law_plain", (top 71)⟩,
  ⟨fun K => ga K "explored", "explored", "explored", (top 16)⟩,
  ⟨fun K => ga K "law", "law", "law", (top 79)⟩,
  ⟨fun K => ma K (ga K "Rings") "all_parts", "all_parts", "Rings.all_parts", (inClass (top 56) 1)⟩]
def fn2 : List DefE := [⟨fun K => ma K (ga K "Rings") "has_move", "has_move", "Rings.has_move", (inClass (top 56) 2)⟩,
  ⟨fun K => ma K (ga K "Rings") "__contains__", "__contains__", "Rings.__contains__", (inClass (top 56) 14)⟩,
  ⟨fun K => ma K (ga K "Rings") "__len__", "__len__", "Rings.__len__", (inClass (top 56) 15)⟩,
  ⟨fun K => ma K (ga K "Rings") "leads_to", "leads_to", "Rings.leads_to", (inClass (top 56) 7)⟩,
  ⟨fun K => ma K (ga K "Rings") "__getitem__", "__getitem__", "Rings.__getitem__", (inClass (top 56) 12)⟩,
  ⟨fun K => ma K (ga K "Rings") "__init__", "__init__", "Rings.__init__", (inClass (top 56) 0)⟩,
  ⟨fun K => ma K (ga K "Form") "least", "least", "Form.least", (inClass (top 37) 12)⟩,
  ⟨fun K => ma K (ga K "Rings") "reads", "reads", "Rings.reads", (inClass (top 56) 10)⟩,
  ⟨fun K => ma K (ga K "Rings") "loops", "loops", "Rings.loops", (inClass (top 56) 11)⟩,
  ⟨fun K => ma K (ga K "Quotient") "__init__", "__init__", "Quotient.__init__", (inClass (top 20) 1)⟩,
  ⟨fun K => ma K (ga K "Quotient") "begun", "begun", "Quotient.begun", (inClass (top 20) 2)⟩,
  ⟨fun K => ma K (ga K "Quotient") "is_end", "is_end", "Quotient.is_end", (inClass (top 20) 4)⟩,
  ⟨fun K => ma K (ga K "Quotient") "moves_at", "moves_at", "Quotient.moves_at", (inClass (top 20) 3)⟩,
  ⟨fun K => ma K (ga K "Form") "__init__", "__init__", "Form.__init__", (inClass (top 37) 1)⟩,
  ⟨fun K => ma K (ga K "MadeForm") "__init__", "__init__", "MadeForm.__init__", (inClass (top 38) 0)⟩,
  ⟨fun K => ma K (ga K "Form") "__len__", "__len__", "Form.__len__", (inClass (top 37) 24)⟩,
  ⟨fun K => ma K (ga K "MadeForm") "__len__", "__len__", "Form.__len__", (inClass (top 37) 24)⟩,
  ⟨fun K => getr K (ga K "Form") "signs", "signs", "Form.signs", (inClass (top 37) 5)⟩,
  ⟨fun K => getr K (ga K "MadeForm") "signs", "signs", "Form.signs", (inClass (top 37) 5)⟩,
  ⟨fun K => getr K (ga K "Rings") "rings", "rings", "Rings.rings", (inClass (top 56) 5)⟩]
def fn3 : List DefE := [⟨fun K => getr K (ga K "Rings") "longest", "longest", "Rings.longest", (inClass (top 56) 6)⟩]
def fn : List DefE := fn0 ++ fn1 ++ fn2 ++ fn3
abbrev RR : PySem.W.OpenRow := PySem.W.OpenLaw.row PySem.Challenge.rw_mendnumber_k42_whole_rings_under_changes
abbrev hk : PySem.W.Hook := hookE fa fn
def ob (s : PySem.W.SharedT) : AlE := obsG fa fn (HandSHeadRun.getT s)
theorem ob_eq (s : PySem.W.SharedT) : ob s = hk.obs s.abs := obsG_eq (HandSHeadRun.getT_eq s)
def names1 : List PySem.Str := ["_wall", "MendError", "InvalidWord", "InvalidForm", "InvalidOperation", "InvalidNumber", "TooMany", "SIGNS", "GREATEST", "is_integer", "is_sign", "is_word", "require_number", "explored", "useful_states", "are_useful", "classes_of", "Quotient", "NONE", "row_at", "last_at", "with_first", "states_behind", "is_met", "Paired", "Chained", "MAX_WRITTEN", "MAX_STATES", "MAX_LISTED"]
def names2 : List PySem.Str := ["is_state", "are_states", "in_order", "Form", "MadeForm", "require_form", "require_operand", "require_few", "made_form", "formed", "behind", "first_words", "counts_upto", "words_of", "MAX_LOOP", "MAX_PAIR", "require_six", "states_from", "ways_back", "words_between", "read_on", "Rings", "require_state", "is_among", "first_lack", "require_rings", "lacking_piece", "covers"]
def names3 : List PySem.Str := ["_law_lots", "_law_lot", "_law_one", "_law_some", "_law_from", "_law_useful", "_law_trimmed", "_law_plain", "_law_made", "_law_goes_on", "_law_loops_right", "_law_turned", "_law_spelled", "_law_alike", "_law_least_right"]
def names : List PySem.Str := names1 ++ names2 ++ names3
end Zh
end
section
set_option Elab.async false
set_option linter.all false
set_option maxRecDepth 100000
set_option maxHeartbeats 0
/-! Zh2: the run. -/
namespace Zh
open PySem PySem.Spec PyProof.Rows L2 SlX He Zb
theorem run (w : World) : HandSHeadRun.RunEq RR (PySem.W.view RR.prog [79]) hk ob 8000 names w := by
  intro os
  kernel_rfl
end Zh
end
section
set_option Elab.async false
set_option linter.all false
set_option maxRecDepth 100000
/-! Zr1: set(xs) of a list of ints, len(set(xs)), sum of truth values. -/
namespace Zb
open PySem PySem.Spec PyProof.Rows L2
section
variable {P : Program} {w : World} {A : Around} {E : Value → Shared → Prop} {s : Shared}
abbrev set0 (w : World) : Obj := { cls := .type "set", dict := none, data := .set #[] 0 (.fresh 0 0 (!w.params.followText "set-order")) }
set_option maxHeartbeats 3200000 in
theorem set_of_list {l : Addr} {items : Array Value} (ns : List Int) {Q : Value → Shared → Prop} (hh : A.handled = none) (hl : s.heap.IsList l items) (hit : IntsAre items.toList ns) (hb : ns.length + 1 < scanBound)
    (h : ∀ (h' : Heap) (tk c : Nat), SetR w h' s.heap.objs.size (fun j => decide (j ∈ ns)) c → c ≤ ns.length → (∀ b o, s.heap.get? b = some o → h'.get? b = some o) → Q (.ref s.heap.objs.size) { s with heap := h', toks := tk }) :
    wpAny (model P w) A (call (.type "set") [.ref l]) Q E s := by
  have isz : items.size = ns.length := by have q := IntsAre.length hit; rw [Array.length_toList] at q; exact q
  obtain ⟨c, tl, mro⟩ := F.called_set.mro
  have mk := F.called_set.made; have sb := F.called_set.sub
  refine wpAny_call (codeAny_of_tree ?_)
  show wpAny _ _ (callAny (.type "set") _) _ _ _
  refine wpAny_pure ⟨Code.quiet_builtin _ (by decide +kernel), codeAny_builtin F.entry_type_call ?_⟩
  rw [Around.under_plain (weight_type_call_type "set" [.ref l] []) rfl]
  have z1 := F.called_set.notType; have z2 := F.called_set.canCreate; have z3 := F.typeCall_set_1 (.ref l)
  repeat (any_goals (first | assumption | wp_step))
  refine codeAny_mono (code_set_led1 (.ref l) (E := E) (Q₁ := fun ob t => ob = .ref s.heap.objs.size ∧ t = { s with heap := s.heap.push (set0 w) }) ⟨rfl, rfl⟩) fun r t hr => ?_
  cases r with
  | error e => exact hr
  | ok fl => cases fl with
    | ret ob =>
      obtain ⟨rfl, rfl⟩ := hr
      have gS : (s.heap.push (set0 w)).get? s.heap.objs.size = some (set0 w) := Heap.get?_push_size _ rfl
      have gT : Shared.TypeIs { s with heap := s.heap.push (set0 w) } (.ref s.heap.objs.size) "set" := ⟨_, gS, rfl⟩
      have li := F.called_set.init.lookup; have bi := F.called_set.init.bind (.ref s.heap.objs.size)
      repeat (any_goals (first | assumption | wp_step))
      refine codeAny_mono (codeAny_call_builtin (R := wants (fun r t => r = .none ∧ ∃ h' tk c, t = { s with heap := h', toks := tk } ∧ SetR w h' s.heap.objs.size (fun j => decide (j ∈ ns)) c ∧ c ≤ ns.length ∧ (∀ b o, s.heap.get? b = some o → h'.get? b = some o)) E) F.called_set.init.plain F.entry_set_init (check_set_init_1 gT ?_)) fun r2 t2 hr2 => ?_
      · obtain ⟨⟨oc, od, odt, osl⟩, hol, hcl, nl, hdl⟩ := hl
        simp only at hcl hdl; subst hcl; subst hdl
        have hol' : (s.heap.push (set0 w)).get? l = some { cls := .type "list", dict := od, data := .seq items nl, slots := osl } := Heap.get?_push_of_some _ hol
        have y1 := F.sub_list_set; have y2 := F.sub_list_frozenset
        have y3 : (Value.type "list" == Value.type "dict") = false := by decide
        have gl : (s.heap.push (set0 w)).IsList l items := ⟨_, hol', rfl, nl, rfl⟩
        unfold Builtin.«set.__init__» noKeywords Builtin.Frozenset.updateFrom
        generalize hPI : pyIter = PI
        wp_walk
        subst hPI
        refine wpAny_pyIter_list gl (wpAny_bind (wpAny_runValue ?_))
        have lS : l < s.heap.objs.size := Heap.lt_size hol
        have h3 : A.in1.in1.in1.handled = none := by simp [hh]
        have sz : (s.heap.push (set0 w)).objs.size = s.heap.objs.size + 1 := Heap.size_push ..
        have nI : l ≠ (s.heap.push (set0 w)).objs.size := by rw [sz]; exact Nat.ne_of_lt (Nat.lt_succ_of_lt lS)
        have nS : s.heap.objs.size ∉ [(s.heap.push (set0 w)).objs.size, l] := by
          rw [sz]
          simp only [List.mem_cons, List.not_mem_nil, or_false, not_or]
          exact ⟨Nat.ne_of_lt (Nat.lt_succ_self _), Nat.ne_of_gt lS⟩
        have hv : ∀ (i : Nat) (v : Value), items[i]? = some v → ∃ k t, ns[i]? = some k ∧ v = .int k t := fun i v q => by
          have hi : i < ns.length := by rw [← isz]; exact (Array.getElem?_eq_some_iff.mp q).1
          obtain ⟨t, e⟩ := IntsAre.int_at hit i v (by rw [Array.getElem?_toList]; exact q)
          refine ⟨ns[i], t, List.getElem?_eq_getElem hi, ?_⟩
          rw [e, List.getD_eq_getElem?_getD, List.getElem?_eq_getElem hi] <;> rfl
        refine set_update_ints ((Walks.list h3 _ l nI items).toS) s.heap.objs.size nS ns isz hb hv (items.size - 0) 0 _ (by omega) (Nat.zero_le _) ⟨⟨_, Heap.get?_push_size _ rfl, rfl, rfl⟩, (gl.push _)⟩ ?S0 ?RR
        case S0 => exact ⟨0, Nat.le_refl 0, setR_new_at (Heap.get?_push_of_some _ gS)⟩
        case RR =>
          rintro ⟨h', g2, d', tk', os'⟩ c' hm hc' hS'
          obtain rfl : g2 = s.gens := hm.gens
          obtain rfl : d' = s.drawn := hm.drawn
          obtain rfl : os' = s.os := hm.os
          rw [isz] at hc'
          refine wpAny_pure ?_
          refine wpAny_pure ⟨rfl, h', tk', c', rfl, hS', hc', fun b o e => hm.heap b o ?_ (Heap.get?_push_of_some _ (Heap.get?_push_of_some _ e))⟩
          have b0 : b < s.heap.objs.size := Heap.lt_size e
          rw [sz]
          simp only [List.mem_cons, List.not_mem_nil, or_false, not_or]
          exact ⟨Nat.ne_of_lt b0, Nat.ne_of_lt (Nat.lt_succ_of_lt b0)⟩
      · cases r2 with
        | error e => exact hr2
        | ok f2 => cases f2 with
          | ret r =>
            obtain ⟨rfl, h', tk, c', rfl, hS', hc', hk'⟩ := hr2
            repeat (any_goals (first | assumption | wp_step))
            exact h _ _ _ hS' hc' hk'
          | _ => exact hr2.elim
    | _ => exact hr.elim
end
section
variable {X : Cx}
/-- set(xs) of a list of ints -/
def rSetL (K : PySem.W.Frag) (w : World) : List V → Hp → VK → Prop := fun xs H Q => ∃ (l : Addr) (ns : List Int), xs = [.ref l] ∧ SqL K H l (ns.map V.int) ∧ ns.length ≤ 1000 ∧
  ∀ p n, H p = none → n ≤ ns.length → Q (.ref p) (upd H p (SetO w p (fun j => decide (j ∈ ns)) n))
theorem cr_setL (hc : X.calm = true) : CallR X (.type "set") (rSetL X.K X.w) := by
  intro pins s σ H xs us Q I r h
  obtain ⟨l, ns, rfl, hq, hl, q⟩ := h
  obtain ⟨u, rfl, rx⟩ := vals1 r
  cases rx
  obtain ⟨its, ri, pl, hz⟩ := I.list hq
  refine set_of_list ns (I.ok.hd hc) pl.isList (by simpa using RZ.intsAre_vals ri) (by unfold scanBound; omega) fun h' tk c hS hcn hk => ?_
  exact ⟨.ref _, _, I.laid (a := s.heap.objs.size) (o := SetO X.w s.heap.objs.size (fun j => decide (j ∈ ns)) c) (t' := tk) hk (Nat.le_refl _) (setO_new hS), rfl, q _ c (I.hok.fresh (Nat.le_refl _)) hcn⟩
/-- len(set(xs)) -/
def tLenSetN (K : PySem.W.Frag) (ta : TE) : TE := fun σ H Q => ta σ H fun x H1 => ∃ (l : Addr) (ns : List Int), x = .ref l ∧ SqL K H1 l (ns.map V.int) ∧ ns.length ≤ 1000 ∧ Q (.int ((firstMet (fun i => ns.getD i 0) ns.length).length : Nat)) H1
theorem pe_lenSetN {a : Expr} {ta : TE} {p p2 q pos : Pos} (hg : Gl X "len") (hm : X.mg "len" = none) (hg2 : Gl X "set") (hm2 : X.mg "set" = none) (ha : PE X a ta) (hc : X.calm = true := by rfl)
    (na : starEach [a] X.env = (false, eval a X.env) :: starEach [] X.env := by rfl) : PE X (.Call (.Name "len" p) [.Call (.Name "set" p2) [a] [] q] [] pos) (tLenSetN X.K ta) := by
  refine ⟨fun pins s σ H Q I h => Call_ (ld_blt I hg hm boot_len (callWith_builtin1 (args_cons (Call_ (ld_blt I hg2 hm2 boot_set (callWith_type1 (args_cons (thn (ha.run pins s σ H _ I h) fun v s1 ⟨x, H1, I1, r1, q1⟩ => args_nil ?_) na) na rfl))) rfl) rfl rfl))⟩
  obtain ⟨l, ns, rfl, hq, hl, q1⟩ := q1
  cases r1
  obtain ⟨its, r, pl, hz⟩ := I1.list hq
  have hlen : its.toArray.size = ns.length := by rw [List.size_toArray, ← r.length, List.length_map]
  refine call_set_list (I1.ok.hd hc) pl.isList (by simpa using RZ.intsAre_vals r) (by rw [hlen]; unfold scanBound; omega) fun h' tk hS hk => args_nil ?_
  rw [hlen] at hS
  obtain ⟨o, es, ep, t, ho, hex, hd, _, _, _, hf, hn⟩ := hS
  have le := firstMet_length_le (fun i => ns.getD i 0) ns.length
  have I2 : Inv X pins σ H1 { s1 with heap := h', toks := tk } := I1.kept fun b o e => hk b o (Heap.lt_size e) e
  exact call_len_set ho hex hd hf (by rw [hn]; omega) ⟨.int ((firstMet (fun i => ns.getD i 0) ns.length).length : Nat), H1, I2.tok _, ⟨_, by rw [hn]⟩, q1⟩
end
end Zb
end
section
set_option Elab.async false
set_option linter.all false
set_option maxRecDepth 100000
/-! Zr2: sum of truth values; max(xs, default=0). -/
namespace Zb
open PySem PySem.Spec PyProof.Rows L2
theorem preSum_bits (bs : List Bool) : ∀ n, n ≤ bs.length → preSum (fun i => if bs.getD i false = true then 1 else 0) n = (((bs.take n).countP id : Nat) : Int)
  | 0, _ => by simp [preSum]
  | n + 1, h => by
    have hn : n < bs.length := h
    have e : bs[n]? = some bs[n] := List.getElem?_eq_getElem hn
    rw [preSum, preSum_bits bs n (Nat.le_of_lt hn), take_snoc e, List.countP_append, List.getD_eq_getElem?_getD, e]
    cases bs[n] <;> simp
theorem val_bits {bs : List Bool} {its : List Value} (r : Vals (bs.map V.bl) its) {i : Nat} {v : Value} (h : its[i]? = some v) : NumOf (if bs.getD i false = true then 1 else 0) v := by
  have hi : i < bs.length := by
    have q := (List.getElem?_eq_some_iff.mp h).1
    rw [← r.length, List.length_map] at q
    exact q
  obtain ⟨u, h1, h2⟩ := r.get (i := i) (x := .bl bs[i]) (by rw [List.getElem?_map, List.getElem?_eq_getElem hi]; rfl)
  rw [h] at h1
  cases h1
  cases h2
  exact .inr ⟨_, rfl, by rw [List.getD_eq_getElem?_getD, List.getElem?_eq_getElem hi]; rfl⟩
section
variable {X : Cx}
def rSumB (K : PySem.W.Frag) : List V → Hp → VK → Prop := fun xs H Q => ∃ (a : Addr) (bs : List Bool), xs = [.ref a] ∧ SqL K H a (bs.map V.bl) ∧ Q (.int (bs.countP id : Nat)) H
theorem cr_sumB (hc : X.calm = true) : CallR X (.builtin "sum") (rSumB X.K) := by
  intro pins s σ H vs us Q I r h
  obtain ⟨a, bs, rfl, hs, q⟩ := h
  obtain ⟨its, rv, hl, hz⟩ := I.list hs
  rw [Vals.ref1 r]
  have hsz : its.toArray.size = bs.length := by rw [List.size_toArray, ← rv.length, List.length_map]
  refine call_sum_walkAnyB (wpAny_pyIter_list hl.isList ?_)
  obtain ⟨o, ho⟩ : ∃ o, s.heap.get? a = some o := by obtain ⟨o, ho, _⟩ := hl.isList; exact ⟨o, ho⟩
  have alt : a < s.heap.objs.size := Heap.lt_size ho
  have hh1 : X.A.in1.handled = none := by show X.A.handled = none; exact I.ok.hd hc
  refine ⟨_, _, _, _, _, _, _, fun i => if bs.getD i false = true then 1 else 0, rfl, (Walks.list hh1 s.heap.objs.size a (Nat.ne_of_lt alt) its.toArray).toS, ⟨⟨_, Heap.get?_push_size _ rfl, rfl, rfl⟩, hl.isList.push _⟩, fun b hb => ?_, fun i v hv => ?_, fun s' t' hm => ?_⟩
  · rw [Heap.size_push]
    rcases List.mem_cons.mp hb with rfl | hb
    · exact Nat.lt_succ_self _
    · rcases List.mem_cons.mp hb with rfl | hb
      · exact Nat.lt_succ_of_lt alt
      · cases hb
  · exact val_bits rv (by have q : its.toArray[i]? = some v := hv; rw [List.getElem?_toArray] at q; exact q)
  · obtain ⟨h', g2, d', tk', os'⟩ := s'
    obtain rfl : g2 = s.gens := hm.gens
    obtain rfl : d' = s.drawn := hm.drawn
    obtain rfl : os' = s.os := hm.os
    have k : ∀ b o, s.heap.get? b = some o → h'.get? b = some o := fun b o e => hm.heap b o (by
      simp only [List.mem_cons, List.not_mem_nil, or_false]
      exact Nat.ne_of_lt (Heap.lt_size e)) (Heap.get?_push_of_some _ e)
    rw [hsz, preSum_bits bs bs.length (Nat.le_refl _), List.take_length]
    exact ⟨.int _, H, I.kept k, ⟨_, rfl⟩, q⟩
end
end Zb
end
section
set_option Elab.async false
set_option linter.all false
set_option maxRecDepth 100000
/-! Zf: more of what expressions evaluate to: places, keys, membership, copies, orders. -/
namespace Zb
open PySem PySem.Spec PyProof.Rows L2

/-! ### a list by its places -/
theorem atI_nat {α : Type} {xs : List α} {i : Nat} {x : α} (h : xs[i]? = some x) : atI xs (i : Int) = some x := by
  have hl := (List.getElem?_eq_some_iff.mp h).1
  unfold atI ixN
  rw [if_pos (by omega), if_pos (by omega), show ((i : Nat) : Int).toNat = i by omega]
  exact h
theorem atI_neg {α : Type} {xs : List α} {k : Nat} {x : α} (hk : 0 < k) (h : k ≤ xs.length) (e : xs[xs.length - k]? = some x) : atI xs (-(k : Int)) = some x := by
  unfold atI ixN
  rw [if_neg (by omega), if_pos (by omega), show (-(k : Int) + (xs.length : Int)).toNat = xs.length - k by omega]
  exact e
section
variable {K : PySem.W.Frag} {σ : L2.St} {M B : Hp} {ta tb : TE} {U : Up}
theorem ev_ixL {α : Type} {R : α → Up} {xs : List α} {i : Nat} {x : α} (ha : Ev ta σ M B (rLst R xs)) (hb : Ev tb σ M B (rNat i)) (e : xs[i]? = some x) : Ev (tOp (rIxL K) ta tb) σ M B (R x) :=
  ev_op ha hb fun v y M1 B1 _ _ d ⟨a, vs, ev, h, al⟩ hy Q q => by
    obtain ⟨w, hw, hr⟩ := al.get e
    exact ⟨a, vs, i, w, ev, hy, SqL.of (jn_b d h), atI_nat hw, q w B1 (Same.refl _) d hr⟩
theorem ev_ixT {α : Type} {R : α → Up} {xs : List α} {i : Nat} {x : α} (ha : Ev ta σ M B (rTup R xs)) (hb : Ev tb σ M B (rNat i)) (e : xs[i]? = some x) : Ev (tOp (rIxT K) ta tb) σ M B (R x) :=
  ev_op ha hb fun v y M1 B1 _ _ d ⟨a, vs, ev, h, al⟩ hy Q q => by
    obtain ⟨w, hw, hr⟩ := al.get e
    exact ⟨a, vs, i, w, ev, hy, SqT.of (jn_b d h), atI_nat hw, q w B1 (Same.refl _) d hr⟩
theorem ev_ixLn {α : Type} {R : α → Up} {xs : List α} {k : Nat} {x : α} (ha : Ev ta σ M B (rLst R xs)) (hb : Ev tb σ M B (rInt (-(k : Int)))) (hk : 0 < k) (hl : k ≤ xs.length) (e : xs[xs.length - k]? = some x) : Ev (tOp (rIxL K) ta tb) σ M B (R x) :=
  ev_op ha hb fun v y M1 B1 _ _ d ⟨a, vs, ev, h, al⟩ hy Q q => by
    obtain ⟨w, hw, hr⟩ := al.get e
    rw [al.length] at hw hl
    exact ⟨a, vs, -(k : Int), w, ev, hy, SqL.of (jn_b d h), atI_neg hk hl hw, q w B1 (Same.refl _) d hr⟩
theorem ev_ix0 {α β : Type} {R : α → Up} {S : β → Up} {x : α × β} (ha : Ev ta σ M B (rPr R S x)) (hb : Ev tb σ M B (rNat 0)) : Ev (tOp (rIxT K) ta tb) σ M B (R x.1) :=
  ev_op ha hb fun v y M1 B1 _ _ d ⟨a, y1, z1, ev, h, h1, h2⟩ hy Q q => ⟨a, _, 0, y1, ev, hy, SqT.of (jn_b d h), rfl, q y1 B1 (Same.refl _) d h1⟩
theorem ev_ix1 {α β : Type} {R : α → Up} {S : β → Up} {x : α × β} (ha : Ev ta σ M B (rPr R S x)) (hb : Ev tb σ M B (rNat 1)) : Ev (tOp (rIxT K) ta tb) σ M B (S x.2) :=
  ev_op ha hb fun v y M1 B1 _ _ d ⟨a, y1, z1, ev, h, h1, h2⟩ hy Q q => ⟨a, _, 1, z1, ev, hy, SqT.of (jn_b d h), rfl, q z1 B1 (Same.refl _) d h2⟩
theorem ev_ixS {w : List Nat} {i c : Nat} (ha : Ev ta σ M B (rTx w)) (hb : Ev tb σ M B (rNat i)) (e : w[i]? = some c) (hl : w.length ≤ 100000) : Ev (tOp rIxS ta tb) σ M B (rTx [c]) :=
  ev_op0 ha hb fun v y M1 B1 _ _ _ hx hy Q q => ⟨tx w, i, c, hx, hy, by
    show w.toArray.size ≤ sizeLine
    simp
    exact Nat.le_trans hl (by decide), by
    rw [show (tx w).cps.toList = w from by show w.toArray.toList = w; simp]
    exact atI_nat e, q⟩
/-! ### rows -/
theorem tx_inj {a b : List Nat} (h : tx a = tx b) : a = b := by
  have := congrArg (fun s : Str => s.cps.toList) h
  simpa [tx] using this
theorem valV_row {r : Row} {c : Nat} : valV (rowK r) (Sum.inr (tx [c])) = (r.lookup c).map fun t : Nat => V.int (t : Int) := by
  induction r with
  | nil => rfl
  | cons q r ih =>
    obtain ⟨a, t⟩ := q
    show valV ((Sum.inr (tx [a]), V.int (t : Int)) :: rowK r) (Sum.inr (tx [c])) = _
    by_cases h : c = a
    · subst h
      rw [valV_pos rfl, List.lookup_cons_self]
      rfl
    · rw [valV_neg (fun e => h (by have := tx_inj (Sum.inr.inj e); cases this; rfl)), ih]
      rw [List.lookup_cons]
      rw [beq_false_of_ne h]
theorem dget_row {r : Row} {d : Addr} {od : Obj} {H : Hp} {c : Nat} (h : H d = some (.frz od (.dK (rowK r)))) : DGet H d (.str (tx [c])) ((r.lookup c).map fun t : Nat => V.int (t : Int)) :=
  .inl ⟨rowK r, Sum.inr (tx [c]), .inr ⟨od, h⟩, rfl, valV_row.symm⟩
theorem ev_rget {r : Row} {c t : Nat} (ha : Ev ta σ M B (rRow r)) (hb : Ev tb σ M B (rTx [c])) (e : r.lookup c = some t) : Ev (tDGet ta tb) σ M B (rNat t) := fun M1 B1 m b d Q q =>
  ha M1 B1 m b d _ fun x B2 b2 d2 ⟨a, od, ex, h⟩ => hb M1 B2 m (b.trans b2) d2 _ fun y B3 b3 d3 hy => ⟨a, .int (t : Int), ex, by
    have g := dget_row (c := c) (jn_b d3 (b3 _ _ h))
    rw [e] at g
    rw [show y = _ from hy]
    exact g, q _ B3 (b2.trans b3) d3 rfl⟩
theorem ev_rin {r : Row} {c : Nat} (hb : Ev tb σ M B (rTx [c])) (ha : Ev ta σ M B (rRow r)) : Ev (tDIn tb ta) σ M B (rBl (r.lookup c).isSome) := fun M1 B1 m b d Q q =>
  hb M1 B1 m b d _ fun y B2 b2 d2 hy => ha M1 B2 m (b.trans b2) d2 _ fun x B3 b3 d3 ⟨a, od, ex, h⟩ => ⟨a, (r.lookup c).map fun t : Nat => V.int (t : Int), ex, by
    rw [show y = _ from hy]
    exact dget_row (c := c) (jn_b d3 h), by
    rw [Option.isSome_map]
    exact q _ B3 (b2.trans b3) d3 rfl⟩
/-- a dict whose keys are numbers: which they are -/
def rDom (S : Nat → Prop) : Up := ⟨fun v B => ∃ d kvs, v = .ref d ∧ B d = some (.dK kvs) ∧ ∀ j : Nat, (valV kvs (Sum.inl (j : Int))).isSome = true ↔ S j, fun s ⟨d, kvs, e, h, k⟩ => ⟨d, kvs, e, s _ _ h, k⟩⟩
theorem ev_domIn {S : Nat → Prop} {j : Nat} {b : Bool} (hb : Ev tb σ M B (rNat j)) (ha : Ev ta σ M B (rDom S)) (h : b = true ↔ S j) : Ev (tDIn tb ta) σ M B (rBl b) := fun M1 B1 m bb d Q q =>
  hb M1 B1 m bb d _ fun y B2 b2 d2 hy => ha M1 B2 m (bb.trans b2) d2 _ fun x B3 b3 d3 ⟨a, kvs, ex, hd, k⟩ => ⟨a, valV kvs (Sum.inl (j : Int)), ex, by
    rw [show y = _ from hy]
    exact .inl ⟨kvs, Sum.inl (j : Int), .inl (jn_b d3 hd), rfl, rfl⟩, by
    have e : (valV kvs (Sum.inl (j : Int))).isSome = b := by
      cases b with
      | true => exact (k j).mpr (h.mp rfl)
      | false =>
        cases z : (valV kvs (Sum.inl (j : Int))).isSome with
        | false => rfl
        | true => exact nomatch h.mpr ((k j).mp z)
    rw [e]
    exact q _ B3 (b2.trans b3) d3 rfl⟩
/-! ### membership of numbers -/
theorem inV_nat {n : Nat} {xs : List Nat} : inV (.int (n : Int)) (xs.map fun i : Nat => V.int (i : Int)) = decide (n ∈ xs) := by
  unfold inV
  rw [List.any_map]
  induction xs with
  | nil => simp
  | cons x xs ih =>
    rw [List.any_cons, ih]
    by_cases h : n = x
    · subst h
      simp [eqV]
    · have h2 : ((x : Int) == (n : Int)) = false := by simp; omega
      simp only [Function.comp, eqV, h2, Bool.false_or]
      simp [h]
theorem flat_nat {xs : List Nat} : (xs.map fun i : Nat => V.int (i : Int)).all flatV = true := by
  rw [List.all_map]
  simp [flatV]
theorem al_nat {xs : List Nat} {vs : List V} {B : Hp} (al : Al rNat xs vs B) : vs = xs.map fun i : Nat => V.int (i : Int) := al.isV (f := fun i : Nat => V.int (i : Int))
theorem al_nats {xs : List Nat} {B : Hp} : Al rNat xs (xs.map fun i : Nat => V.int (i : Int)) B := Al.ofV (f := fun i : Nat => V.int (i : Int)) xs
theorem al_int {xs : List Nat} {vs : List V} {B : Hp} (al : Al rNat xs vs B) : vs = (xs.map fun i : Nat => (i : Int)).map V.int := by
  rw [al_nat al, List.map_map]
  rfl
theorem ev_inL {n : Nat} {xs : List Nat} (hb : Ev tb σ M B (rNat n)) (ha : Ev ta σ M B (rLst rNat xs)) : Ev (tOp (rIn K false) tb ta) σ M B (rBl (decide (n ∈ xs))) :=
  ev_op0 hb ha fun y v M1 B1 _ _ d hy ⟨a, vs, e, h, al⟩ Q q => ⟨a, vs, e, .inl (SqL.of (jn_b d h)), by rw [show y = _ from hy]; rfl, by rw [al_nat al]; exact flat_nat, by
    rw [show y = _ from hy, al_nat al]
    show Q (.bl (inV _ _)) _
    rw [inV_nat]
    exact q⟩
theorem ev_inT {n : Nat} {xs : List Nat} (hb : Ev tb σ M B (rNat n)) (ha : Ev ta σ M B (rTup rNat xs)) : Ev (tOp (rIn K false) tb ta) σ M B (rBl (decide (n ∈ xs))) :=
  ev_op0 hb ha fun y v M1 B1 _ _ d hy ⟨a, vs, e, h, al⟩ Q q => ⟨a, vs, e, .inr (SqT.of (jn_b d h)), by rw [show y = _ from hy]; rfl, by rw [al_nat al]; exact flat_nat, by
    rw [show y = _ from hy, al_nat al]
    show Q (.bl (inV _ _)) _
    rw [inV_nat]
    exact q⟩
theorem ev_notInL {n : Nat} {xs : List Nat} (hb : Ev tb σ M B (rNat n)) (ha : Ev ta σ M B (rLst rNat xs)) : Ev (tOp (rIn K true) tb ta) σ M B (rBl (!decide (n ∈ xs))) :=
  ev_op0 hb ha fun y v M1 B1 _ _ d hy ⟨a, vs, e, h, al⟩ Q q => ⟨a, vs, e, .inl (SqL.of (jn_b d h)), by rw [show y = _ from hy]; rfl, by rw [al_nat al]; exact flat_nat, by
    rw [show y = _ from hy, al_nat al]
    show Q (.bl (!inV _ _)) _
    rw [inV_nat]
    exact q⟩
/-! ### copies -/
abbrev rListOf (K : PySem.W.Frag) : List V → Hp → VK → Prop := fun xs H Q => ∃ p ys, xs = [.ref p] ∧ (SqL K H p ys ∨ SqT K H p ys) ∧ ∀ l, H l = none → Q (.ref l) (upd H l (.lst ys))
abbrev rTupOf (K : PySem.W.Frag) : List V → Hp → VK → Prop := fun xs H Q => ∃ p ys, xs = [.ref p] ∧ ((SqL K H p ys ∧ ∀ l, H l = none → Q (.ref l) (upd H l (.tup ys))) ∨ (SqT K H p ys ∧ Q (.ref p) H))
theorem en_listL {α : Type} {R : α → Up} {xs : List α} (ha : Ev ta σ M B (rLst R xs)) : EvN (tCB (rListOf K) (tCons ta tNil)) σ M B (Al R xs) := fun M1 B1 m b d Q q => ha M1 B1 m b d _ fun v B2 b2 d2 ⟨a, vs, e, h, al⟩ =>
  ⟨a, vs, by rw [e], .inl (SqL.of (jn_b d2 h)), fun p hp => by
    obtain ⟨hm, hb⟩ := jn_none hp
    rw [jn_updM]
    exact q p vs B2 b2 d2 hm hb al⟩
theorem en_listT {α : Type} {R : α → Up} {xs : List α} (ha : Ev ta σ M B (rTup R xs)) : EvN (tCB (rListOf K) (tCons ta tNil)) σ M B (Al R xs) := fun M1 B1 m b d Q q => ha M1 B1 m b d _ fun v B2 b2 d2 ⟨a, vs, e, h, al⟩ =>
  ⟨a, vs, by rw [e], .inr (SqT.of (jn_b d2 h)), fun p hp => by
    obtain ⟨hm, hb⟩ := jn_none hp
    rw [jn_updM]
    exact q p vs B2 b2 d2 hm hb al⟩
/-- list(xs), xs in M -/
theorem en_listM {i : Nat} {l : Addr} {vs : List V} (hσ : σ[i]? = some (some (.ref l))) (hl : M l = some (.lst vs)) : EvN (tCB (rListOf K) (tCons (tVar i) tNil)) σ M B (fun ws _ => ws = vs) := fun M1 B1 m b d Q q =>
  ⟨_, hσ, l, vs, rfl, .inl (SqL.of (jn_m (m _ _ hl))), fun p hp => by
    obtain ⟨hm, hb⟩ := jn_none hp
    rw [jn_updM]
    exact q p vs B1 (Same.refl _) d hm hb rfl⟩
theorem ev_tupL {α : Type} {R : α → Up} {xs : List α} (ha : Ev ta σ M B (rLst R xs)) : Ev (tCB (rTupOf K) (tCons ta tNil)) σ M B (rTup R xs) := fun M1 B1 m b d Q q => ha M1 B1 m b d _ fun v B2 b2 d2 ⟨a, vs, e, h, al⟩ =>
  ⟨a, vs, by rw [e], .inl ⟨SqL.of (jn_b d2 h), fun p hp => by
    obtain ⟨hm, hb⟩ := jn_none hp
    rw [jn_updB hm]
    exact q _ _ (b2.trans (same_new hb)) (dj_b d2 hm) ⟨p, vs, rfl, upd_same, al.up (same_new hb)⟩⟩⟩
/-! ### orders -/
theorem ltOne {a b : Nat} : ltCps [a] [b] = decide (a < b) := by
  show (decide (a < b) || (a == b && ltCps [] [])) = _
  simp [ltCps]
theorem rising_pw : ∀ (p : Str) (l : List Str), risingS p l = true → (∀ a b c : Str, a ∈ (p :: l) → b ∈ (p :: l) → c ∈ (p :: l) → ltCps b.cps.toList a.cps.toList = false → ltCps c.cps.toList b.cps.toList = false → ltCps c.cps.toList a.cps.toList = false) →
    (p :: l).Pairwise (fun a b => ltCps b.cps.toList a.cps.toList = false)
  | p, [], _, _ => by simp
  | p, x :: r, h, tr => by
    have h' : (!ltCps x.cps.toList p.cps.toList && risingS x r) = true := h
    rw [Bool.and_eq_true, Bool.not_eq_true'] at h'
    have ih := rising_pw x r h'.2 fun a b c ha hb hc => tr a b c (List.mem_cons_of_mem _ ha) (List.mem_cons_of_mem _ hb) (List.mem_cons_of_mem _ hc)
    refine List.pairwise_cons.mpr ⟨fun y hy => ?_, ih⟩
    rcases List.mem_cons.mp hy with rfl | hy2
    · exact h'.1
    · exact tr p x y List.mem_cons_self (List.mem_cons_of_mem _ List.mem_cons_self) (List.mem_cons_of_mem _ hy) h'.1 ((List.pairwise_cons.mp ih).1 y hy2)
/-- signs in order: there is one order -/
theorem sorted_signs {cs : List Nat} {ys : List Str} (hc : cs.Pairwise (· < ·)) (hp : ys.Perm (cs.map fun c => tx [c])) (hs : sortedS ys = true) : ys = cs.map fun c => tx [c] := by
  have one : ∀ y ∈ ys, ∃ c, y = tx [c] := fun y hy => by
    obtain ⟨c, _, e⟩ := List.mem_map.mp (hp.mem_iff.mp hy)
    exact ⟨c, e.symm⟩
  have le1 : ∀ a b : Nat, ltCps (tx [b]).cps.toList (tx [a]).cps.toList = false ↔ a ≤ b := fun a b => by
    show ltCps [b] [a] = false ↔ _
    rw [ltOne]
    simp
  have py : ys.Pairwise (fun a b => ltCps b.cps.toList a.cps.toList = false) := by
    cases ys with
    | nil => exact .nil
    | cons p r =>
      refine rising_pw p r hs fun a b c ha hb hc' h1 h2 => ?_
      obtain ⟨a', rfl⟩ := one a ha
      obtain ⟨b', rfl⟩ := one b hb
      obtain ⟨c', rfl⟩ := one c hc'
      rw [le1] at h1 h2 ⊢
      omega
  refine hp.eq_of_pairwise (le := fun a b => ltCps b.cps.toList a.cps.toList = false) (fun a b ha hb h1 h2 => ?_) py ?_
  · obtain ⟨a', rfl⟩ := one a ha
    obtain ⟨b', _, rfl⟩ := List.mem_map.mp hb
    rw [le1] at h1 h2
    rw [Nat.le_antisymm h1 h2]
  · rw [List.pairwise_map]
    exact hc.imp fun {a b} h => (le1 a b).mpr (Nat.le_of_lt h)
abbrev rSortD : List V → Hp → VK → Prop := fun xs H Q => ∃ (a : Addr) (kvs : List (Key × V)) (ks : List Str), xs = [.ref a] ∧ Rd H a (.dK kvs) ∧ kvs.map (·.1) = ks.map Sum.inr ∧ ks.length < 64 ∧
    ∀ ys p, ys.Perm ks → sortedS ys = true → H p = none → Q (.ref p) (upd H p (.lst (ys.map V.str)))
/-- sorted(row): its signs, if they stand in order -/
theorem en_sortRow {r : Row} (ha : Ev ta σ M B (rRow r)) (hr : (r.map (·.1)).Pairwise (· < ·)) (h64 : r.length < 64) : EvN (tCB rSortD (tCons ta tNil)) σ M B (Al (fun q : Nat × Nat => rTx [q.1]) r) := fun M1 B1 m b d Q q => ha M1 B1 m b d _ fun v B2 b2 d2 ⟨a, od, e, h⟩ =>
  ⟨a, rowK r, r.map fun q => tx [q.1], by rw [e], .inr ⟨od, jn_b d2 h⟩, by unfold rowK; rw [List.map_map, List.map_map]; rfl, by rw [List.length_map]; exact h64, fun ys p hp hs hn => by
    obtain ⟨hm, hb⟩ := jn_none hn
    rw [jn_updM]
    have e2 : ys = (r.map (·.1)).map fun c => tx [c] := sorted_signs hr (by rw [List.map_map]; exact hp) hs
    refine q p _ B2 b2 d2 hm hb ?_
    rw [e2, List.map_map, List.map_map]
    exact Al.ofV (f := fun q : Nat × Nat => V.str (tx [q.1])) r⟩
end
end Zb
end
section
set_option Elab.async false
set_option linter.all false
set_option maxRecDepth 100000
/-! Zk: rules of the layer with the fragment named ahead (for use below a comprehension's own context). -/
namespace Zb
open PySem PySem.Spec PyProof.Rows L2
section
variable {X : Cx} (K : PySem.W.Frag) (hK : X.K = K)
include hK
theorem kix_list : IxR X (rIxL K) := hK ▸ ix_list
theorem kix_tup : IxR X (rIxT K) := hK ▸ ix_tup
theorem kc_len : CallR X (.builtin "len") (rLenS K) := hK ▸ call_len_seq
theorem kc_isi : CallR X (.builtin "isinstance") (rIsi K) := hK ▸ call_isi
theorem kc_any (hc : X.calm = true) : CallR X (.builtin "any") (rAny K) := hK ▸ cr_any hc
theorem kc_all (hc : X.calm = true) : CallR X (.builtin "all") (rAll K) := hK ▸ cr_all hc
theorem kc_sumB (hc : X.calm = true) : CallR X (.builtin "sum") (rSumB K) := hK ▸ cr_sumB hc
theorem kc_list : CallR X (.type "list") (rListOf K) := hK ▸ call_list_of
theorem kc_tup : CallR X (.type "tuple") (rTupOf K) := hK ▸ call_tuple_of
theorem kop_in : OpR X (compareOp .In) (rIn K false) := hK ▸ op_in_seq
theorem kop_notIn : OpR X (compareOp .NotIn) (rIn K true) := hK ▸ op_notIn_seq
theorem kpi_list {tg l : Expr} {tl : TE} (hl : PE X l tl) : PI X tg l (iList K tl) := hK ▸ pi_list hl
theorem kpi_tup {tg l : Expr} {tl : TE} (hl : PE X l tl) : PI X tg l (iTup K tl) := hK ▸ pi_tup hl
theorem kpi_enum {e : Expr} {ta : TA} {p pos tpos : Pos} {elts : List Expr} {kk : Nat} (hg : Gl X "enumerate") (hm : X.mg "enumerate" = none) (ha : PA X [e] ta) (hs : starEach [e] X.env = [(false, eval e X.env)] := by rfl) :
    PI X (.Tuple elts kk tpos) (.Call (.Name "enumerate" p) [e] [] pos) (iEnum K ta) := hK ▸ pi_enum hg hm ha hs
theorem kpi_zip {e e2 : Expr} {ta : TA} {p pos tpos : Pos} {elts : List Expr} {kk : Nat} (hg : Gl X "zip") (hm : X.mg "zip" = none) (ha : PA X [e, e2] ta)
    (hs : starEach [e, e2] X.env = (false, eval e X.env) :: starEach [e2] X.env := by rfl) (hpl : (backTo pos (starEach [e2] X.env)).any (·.1) = false := by rfl) :
    PI X (.Tuple elts kk tpos) (.Call (.Name "zip" p) [e, e2] [] pos) (iZip K ta) := hK ▸ pi_zip hg hm ha hs hpl
theorem kpg_tup {es : List Expr} {k : Nat} {pos : Pos} {t : TGs} {n : Nat} (hc : X.calm = true) (h : PGs X es t)
    (hn : (assignEach es X.env).length = n := by rfl) (hst : (assignEach es X.env).findIdx? (·.1) = none := by rfl) : PG X (.Tuple es k pos) (gTup K n t) := hK ▸ pg_tup hc h hn hst
theorem kpe_fld {e : Expr} {f : Str} {pos : Pos} {ta : TE} (he : PE X e ta) (hb : attributeBase e f X.env (eval e X.env) = eval e X.env := by rfl) : PE X (.Attribute e f pos) (tFld K ta f) := hK ▸ pe_fld he hb
theorem kpe_sl {e : Expr} {f : Str} {pos : Pos} {ta : TE} (he : PE X e ta) (hb : attributeBase e f X.env (eval e X.env) = eval e X.env := by rfl) : PE X (.Attribute e f pos) (SlX.tSl K ta f) := hK ▸ SlX.pe_sl he hb
end
end Zb
end
section
set_option Elab.async false
set_option linter.all false
/-! Zm0: machines, in plain words: rows from signs to states, ways, what is valid. -/
namespace Zb

theorem sub_len {α : Type} [DecidableEq α] : ∀ {l L : List α}, l.Nodup → (∀ x ∈ l, x ∈ L) → l.length ≤ L.length
  | [], _, _, _ => Nat.zero_le _
  | x :: l, L, hn, hs => by
    have hx : x ∈ L := hs x List.mem_cons_self
    have h := List.nodup_cons.mp hn
    have ih := sub_len (l := l) (L := L.erase x) h.2 fun y hy => (List.mem_erase_of_ne (fun e : y = x => h.1 (by rw [← e]; exact hy))).mpr (hs y (List.mem_cons_of_mem _ hy))
    rw [List.length_erase_of_mem hx] at ih
    have : 0 < L.length := List.length_pos_of_mem hx
    rw [List.length_cons]
    omega
abbrev Mach : Type := List (Row × Bool)
abbrev Alph : List Nat := [97, 98, 99, 100, 101]
abbrev rows (m : Mach) : List Row := m.map fun q : Row × Bool => q.1
abbrev lasts (m : Mach) : List Bool := m.map fun q : Row × Bool => q.2
structure RowOk (n : Nat) (r : Row) : Prop where
  asc : (r.map (·.1)).Pairwise (· < ·)
  sg : ∀ q ∈ r, q.1 ∈ Alph
  to : ∀ q ∈ r, q.2 < n
def rowAt (m : Mach) (i : Nat) : Row := (m[i]?.map (·.1)).getD []
def lastAt (m : Mach) (i : Nat) : Bool := (m[i]?.map (·.2)).getD false
def stp (m : Mach) (i c : Nat) : Option Nat := (rowAt m i).lookup c
inductive Pth (m : Mach) : Nat → Nat → Prop where
  | refl (i : Nat) : Pth m i i
  | snoc {i j c k : Nat} : Pth m i j → (c, k) ∈ rowAt m j → Pth m i k
structure Wf (m : Mach) : Prop where
  pos : 0 < m.length
  le : m.length ≤ 40
  row : ∀ q ∈ m, RowOk m.length q.1
structure Vm (m : Mach) : Prop extends Wf m where
  reach : ∀ i, i < m.length → Pth m 0 i
  live : ∀ i, i < m.length → ∃ j, Pth m i j ∧ lastAt m j = true
theorem rowAt_get {m : Mach} {i : Nat} (h : i < m.length) : rowAt m i = (m[i]).1 := by
  unfold rowAt
  rw [List.getElem?_eq_getElem h]
  rfl
theorem lastAt_get {m : Mach} {i : Nat} (h : i < m.length) : lastAt m i = (m[i]).2 := by
  unfold lastAt
  rw [List.getElem?_eq_getElem h]
  rfl
theorem rowAt_none {m : Mach} {i : Nat} (h : m.length ≤ i) : rowAt m i = [] := by
  unfold rowAt
  rw [List.getElem?_eq_none h]
  rfl
theorem lastAt_none {m : Mach} {i : Nat} (h : m.length ≤ i) : lastAt m i = false := by
  unfold lastAt
  rw [List.getElem?_eq_none h]
  rfl
theorem Wf.at {m : Mach} (w : Wf m) (i : Nat) : RowOk m.length (rowAt m i) := by
  by_cases h : i < m.length
  · rw [rowAt_get h]
    exact w.row _ (List.getElem_mem h)
  · rw [rowAt_none (by omega)]
    exact ⟨.nil, fun _ h => by simp at h, fun _ h => by simp at h⟩
theorem RowOk.len {n : Nat} {r : Row} (w : RowOk n r) : r.length ≤ 5 := by
  have h1 : (r.map (·.1)).Nodup := w.asc.imp fun h => Nat.ne_of_lt h
  have := sub_len (L := Alph) h1 fun c hc => by
    obtain ⟨q, hq, rfl⟩ := List.mem_map.mp hc
    exact w.sg q hq
  simpa using this
theorem Wf.to {m : Mach} (w : Wf m) {i c k : Nat} (h : (c, k) ∈ rowAt m i) : k < m.length := (w.at i).to _ h
theorem Pth.lt {m : Mach} (w : Wf m) {i j : Nat} (h : Pth m i j) (hi : i < m.length) : j < m.length := by
  cases h with
  | refl => exact hi
  | snoc _ e => exact w.to e
theorem Pth.trans {m : Mach} {i j k : Nat} (a : Pth m i j) (b : Pth m j k) : Pth m i k := by
  induction b with
  | refl => exact a
  | snoc _ e ih => exact .snoc ih e
theorem lookup_mem {r : Row} {c t : Nat} (h : r.lookup c = some t) : (c, t) ∈ r := by
  induction r with
  | nil => cases h
  | cons q r ih =>
    obtain ⟨a, b⟩ := q
    rw [List.lookup_cons] at h
    by_cases e : c = a
    · subst e
      simp at h
      subst h
      exact List.mem_cons_self
    · rw [beq_false_of_ne e] at h
      exact List.mem_cons_of_mem _ (ih h)
theorem mem_lookup {r : Row} (hr : (r.map (·.1)).Pairwise (· < ·)) {c t : Nat} (h : (c, t) ∈ r) : r.lookup c = some t := by
  induction r with
  | nil => cases h
  | cons q r ih =>
    obtain ⟨a, b⟩ := q
    rw [List.map_cons, List.pairwise_cons] at hr
    rw [List.lookup_cons]
    rcases List.mem_cons.mp h with e | e
    · cases e
      simp
    · have : a < c := hr.1 c (List.mem_map_of_mem (f := (·.1)) e)
      rw [beq_false_of_ne (by omega)]
      exact ih hr.2 e
/-! ### useful: the growth of the states from which a last one is reached -/
def uStep (rows : List Row) (F : List Bool) : List Bool := (F.zip rows).map fun q => q.1 || (q.2.map fun p => F.getD p.2 false).any id
theorem uStep_len {rows : List Row} {F : List Bool} (h : F.length = rows.length) : (uStep rows F).length = rows.length := by
  unfold uStep
  rw [List.length_map, List.length_zip, h, Nat.min_self]
theorem uStep_at {rows : List Row} {F : List Bool} (h : F.length = rows.length) {i : Nat} (hi : i < rows.length) : (uStep rows F).getD i false = (F.getD i false || ((rows[i]).map fun p => F.getD p.2 false).any id) := by
  unfold uStep
  rw [List.getD_eq_getElem?_getD, List.getElem?_map, show (F.zip rows)[i]? = some (F[i]'(by omega), rows[i]) from List.getElem?_zip_eq_some.mpr ⟨List.getElem?_eq_getElem (by omega : i < F.length), List.getElem?_eq_getElem hi⟩]
  rw [List.getD_eq_getElem?_getD, List.getElem?_eq_getElem (by omega : i < F.length)]
  rfl
/-- F below G, place by place -/
def BLe (F G : List Bool) : Prop := F.length = G.length ∧ ∀ i, F.getD i false = true → G.getD i false = true
theorem ble_count : ∀ {F G : List Bool}, BLe F G → F.countP id ≤ G.countP id ∧ (F.countP id = G.countP id → F = G)
  | [], [], _ => ⟨Nat.le_refl _, fun _ => rfl⟩
  | [], _ :: _, h => nomatch h.1
  | _ :: _, [], h => nomatch h.1
  | a :: F, b :: G, h => by
    have ih := ble_count (F := F) (G := G) ⟨Nat.succ.inj h.1, fun i hi => by simpa using h.2 (i + 1) (by simpa using hi)⟩
    have h0 : a = true → b = true := fun e => by simpa using h.2 0 (by simpa using e)
    rw [List.countP_cons, List.countP_cons]
    cases a with
    | true =>
      rw [h0 rfl]
      refine ⟨by simp; exact ih.1, fun e => ?_⟩
      simp at e
      rw [ih.2 e]
    | false =>
      cases b with
      | true =>
        refine ⟨by simp; omega, fun e => ?_⟩
        simp at e
        omega
      | false =>
        refine ⟨by simp; exact ih.1, fun e => ?_⟩
        simp at e
        rw [ih.2 e]
theorem ble_step {rows : List Row} {F : List Bool} (h : F.length = rows.length) : BLe F (uStep rows F) := ⟨by rw [uStep_len h, h], fun i hi => by
  by_cases hl : i < rows.length
  · rw [uStep_at h hl, hi]
    rfl
  · rw [List.getD_eq_getElem?_getD, List.getElem?_eq_none (by omega)] at hi
    cases hi⟩
theorem count_le (F : List Bool) : F.countP id ≤ F.length := List.countP_le_length
/-- what is closed and holds the last states holds every live state -/
theorem closed_all {m : Mach} (v : Vm m) {F : List Bool} (hl : F.length = m.length) (h1 : ∀ i, lastAt m i = true → F.getD i false = true) (h2 : uStep (m.map (·.1)) F = F) : F = List.replicate m.length true := by
  have hr : F.length = (m.map (·.1)).length := by rw [hl, List.length_map]
  have back : ∀ i j, Pth m i j → F.getD j false = true → F.getD i false = true := fun i j p => by
    induction p with
    | refl => exact id
    | @snoc j c k p e ih =>
      intro hk
      refine ih ?_
      by_cases hj : j < m.length
      · rw [← h2, uStep_at hr (by rw [List.length_map]; exact hj), Bool.or_eq_true]
        refine .inr (List.any_eq_true.mpr ⟨true, List.mem_map.mpr ⟨(c, k), ?_, hk⟩, rfl⟩)
        rw [List.getElem_map, ← rowAt_get hj]
        exact e
      · rw [rowAt_none (by omega)] at e
        cases e
  refine List.ext_getElem? fun i => ?_
  by_cases hi : i < m.length
  · obtain ⟨j, p, q⟩ := v.live i hi
    have := back i j p (h1 j q)
    rw [List.getElem?_replicate, if_pos hi]
    rw [List.getD_eq_getElem?_getD, List.getElem?_eq_getElem (by omega)] at this
    rw [List.getElem?_eq_getElem (by omega)]
    exact congrArg some this
  · rw [List.getElem?_eq_none (by omega), List.getElem?_eq_none (by rw [List.length_replicate]; omega)]
/-! ### what is met from the first -/
/-- closed under moves and holding 0: every state -/
theorem met_all {m : Mach} (v : Vm m) {met : List Nat} (h0 : 0 ∈ met) (hn : met.Nodup) (hb : ∀ i ∈ met, i < m.length) (hc : ∀ i ∈ met, ∀ q ∈ rowAt m i, q.2 ∈ met) : met.length = m.length := by
  have all : ∀ i, i < m.length → i ∈ met := fun i hi => by
    have p := v.reach i hi
    clear hi
    induction p with
    | refl => exact h0
    | snoc _ e ih => exact hc _ ih _ e
  have p : met.Perm (List.range m.length) := (List.perm_ext_iff_of_nodup hn List.nodup_range).mpr fun i => ⟨fun h => List.mem_range.mpr (hb i h), fun h => all i (List.mem_range.mp h)⟩
  simpa using p.length_eq
theorem nodup_le {l : List Nat} {n : Nat} (hn : l.Nodup) (hb : ∀ i ∈ l, i < n) : l.length ≤ n := by
  have := sub_len (L := List.range n) hn fun i hi => List.mem_range.mpr (hb i hi)
  simpa using this
end Zb
end
section
set_option Elab.async false
set_option linter.all false
set_option maxRecDepth 100000
/-! Zs1: the walk: useful_states, are_useful. -/
namespace Zb
open PySem PySem.Spec PyProof.Rows L2
section
variable {K : PySem.W.Frag} {σ : L2.St} {M B : Hp} {te : TE} {D : Ends} {tz : TS}
theorem q_asg2 {α β : Type} {R : α → Up} {S : β → Up} {x : α × β} {i j : Nat} (h : Ev te σ M B (rPr R S x)) (d : Dj B M) (k : ∀ v w B', Same B B' → Dj B' M → (R x.1).p v B' → (S x.2).p w B' → tz D ((σ.set i (some v)).set j (some w)) (jn B' M)) :
    tSeq (tAsg te (gTup K 2 (gCons (gName i) (gCons (gName j) gNil)))) tz D σ (jn B M) :=
  h M B (Same.refl _) (Same.refl _) d _ fun v B' b d' hv => tup2_at d' hv fun y z hy hz => k y z B' b d' hy hz
theorem ev_sumB {bs : List Bool} {ta : TE} (ha : Ev ta σ M B (rLst rBl bs)) : Ev (tCB (rSumB K) (tCons ta tNil)) σ M B (rNat (bs.countP id)) :=
  ev_cb1 ha fun x M1 B1 _ _ d ⟨a, vs, e, h, al⟩ Q q => ⟨a, bs, by rw [e], by rw [show bs.map V.bl = vs from (al.isV (f := V.bl)).symm]; exact SqL.of (jn_b d h), q⟩
end
abbrev s_useful_states : Stmt := top 17
theorem sc_useful_states : FnScope ["moves", "lasts", "found", "many", "last", "row", "to"] ["moves", "lasts"] (defScope s_useful_states) := ⟨rfl, rfl, rfl, by decide +kernel, rfl, by decide +kernel, by decide +kernel⟩
def sp_useful_states : Sp := spF (α := Mach) (fun m => [rLst rRow (rows m), rLst rBl (lasts m)]) Vm (fun m => rLst rBl (List.replicate m.length true))
section
variable {P : Program} {w : World} {K : PySem.W.Frag} {mg : Str → Option Value} {base : Heap}
theorem getD_at {F : List Bool} {i : Nat} {x : Bool} (h : F[i]? = some x) : F.getD i false = x := by
  rw [List.getD_eq_getElem?_getD, h]
  rfl
theorem c_useful_states (D : Def K mg "useful_states" s_useful_states) (T : Bt mg) : Cal P w K mg base 1 "useful_states" sp_useful_states :=
  cal_of D sc_useful_states (fun _ _ _ _ _ _ us hl => match us, hl with | [_, _], _ => rfl) (spF_len fun _ => rfl) fun f cdv A outer s H vs Q E hr h => by
  obtain ⟨m, B, M, rfl, d, vm, al, q⟩ := h
  have sc := sc_useful_states
  refine ⟨_, (pss_cons (ps_asg (pe_tup (pa_cons (pe_callTy (kc_list K rfl) (by rfl) T.list (by decide +kernel) (pa_cons (pv 1) pa_nil)) (pa_cons pe_int pa_nil))) (kpg_tup (n := 2) K rfl rfl (pgs_cons (pg_name (i := 2) sc.nd rfl (.inr rfl)) (pgs_cons (pg_name (i := 3) sc.nd rfl (.inl rfl)) pgs_nil))))
      (pss_cons (ps_while PassesOwn.never (pt_cmpR op_lt (pv 3) (pe_callB (kc_sumB K rfl rfl) (by rfl) T.sum (by decide +kernel) (pa_cons (pv 2) pa_nil)) (nomark _)) (pss_cons (ps_set (i := 3) sc.nd rfl (.inl rfl) (pe_callB (kc_sumB K rfl rfl) (by rfl) T.sum (by decide +kernel) (pa_cons (pv 2) pa_nil)))
      (pss_one (ps_set (i := 2) sc.nd rfl (.inr rfl) (pe_lc (own := [("last", 4), ("row", 5)]) rfl sc.nd (kpi_zip K rfl (by rfl) T.zip (pa_cons (pv 2) (pa_cons (pv 0) pa_nil))) (blkOk_by (by kernel_rfl)) (fun _ _ _ _ _ => (kpg_tup (n := 2) K rfl rfl (pgs_cons (pg_name (i := 4) sc.nd rfl (.inl rfl)) (pgs_cons (pg_name (i := 5) sc.nd rfl (.inl rfl)) pgs_nil)))) (fun _ _ _ _ _ => pts_nil) (fun _ _ _ _ _ => (pe_or (pv 4) (pe_one (pe_callB (kc_any K rfl rfl) (by rfl) T.any (by decide +kernel) (pa_cons (pe_lc (own := [("to", 6)]) rfl sc.nd (pi_values (pv 5)) (blkOk_by (by kernel_rfl)) (fun _ _ _ _ _ => (pg_name (i := 6) sc.nd rfl (.inl rfl))) (fun _ _ _ _ _ => pts_nil) (fun _ _ _ _ _ => (pe_ix (kix_list K rfl) (pv 2) (pv 6) (fun _ _ => rfl)))) pa_nil))))))))))
      (pss_one (ps_ret (pv 2))))), ?_⟩
  cases al with
  | cons h1 al => cases al with
  | cons h2 al =>
    cases al
    have n0 : (rows m).length = m.length := List.length_map ..
    have n1 : (lasts m).length = m.length := List.length_map ..
    refine q_asg2 (ev_pr (R := rLst rBl) (S := rNat) (x := lasts m) (y := 0) (en_listL (ev_v (U := rLst rBl (lasts m)) rfl h2)).lst ev_c) d fun fv kv B1 b1 d1 hf hk => ?_
    refine s_while (fun k σ' M' B' => M' = M ∧ Same B B' ∧ ∃ fv many o4 o5 o6 F, σ' = [some _, some _, some fv, some (.int (many : Nat)), o4, o5, o6] ∧ (rLst rBl F).p fv B' ∧ F.length = m.length ∧ BLe (lasts m) F ∧
      ((many = 0 ∧ F = lasts m) ∨ ∃ F0, F0.length = m.length ∧ many = F0.countP id ∧ F = uStep (rows m) F0) ∧ k = m.length + 1 - many) (m.length + 1)
      ⟨rfl, b1, fv, 0, none, none, none, lasts m, by rw [show kv = .int ((0 : Nat) : Int) from hk]; rfl, hf, n1, ⟨rfl, fun _ h => h⟩, .inl ⟨rfl, rfl⟩, by omega⟩ d1 fun k σ' M' B' hp d' => ?_
    obtain ⟨rfl, bb, fv, many, o4, o5, o6, F, rfl, hF, lF, leF, why, ek⟩ := hp
    refine ⟨decide (((many : Nat) : Int) < ((F.countP id : Nat) : Int)), et_test (ev_I0 (g := fun i j => .bl (decide (i < j))) (ev_v (U := rNat many) rfl rfl) (ev_sumB (ev_v (U := rLst rBl F) rfl hF))), fun ht B2 b2 d2 => ?_, fun ht B2 b2 d2 => ?_⟩
    · have hlt : many < F.countP id := by
        have := of_decide_eq_true ht
        omega
      refine q_asg (ev_sumB (ev_v (U := rLst rBl F) rfl ((rLst rBl F).up b2 hF))) d2 fun v B3 b3 d3 hv => ?_
      cases (show _ = _ from hv)
      have hrows : (rLst rRow (rows m)).p _ B3 := (rLst rRow (rows m)).up (bb.trans (b2.trans b3)) h1
      have hF3 : (rLst rBl F).p fv B3 := (rLst rBl F).up (b2.trans b3) hF
      refine s_asg (U := rLst rBl (uStep (rows m) F)) (EvN.lst ?_) d3 fun v B4 b4 d4 hv => ?_
      · have hz : (F.zip (rows m)).length ≤ 100000 := by
          have := vm.le
          rw [List.length_zip]
          omega
        refine (en_lc21 (R := rBl) (T := rRow) (S := fun q : Bool × Row => rBl (q.1 || (q.2.map fun p : Nat × Nat => F.getD p.2 false).any id)) (ei_zip (ea_cons (ev_v (U := rLst rBl F) rfl hF3) (ea_cons (ev_v (U := rLst rRow (rows m)) rfl hrows) ea_nil))) hz (fun _ _ => rfl) fun q hq v z M5 B5 _ b5 hv hz => ?_).to fun vs B5 h5 => Al.map (R := rBl) (f := fun q : Bool × Row => q.1 || (q.2.map fun p : Nat × Nat => F.getD p.2 false).any id) h5
        obtain ⟨q0, hq0, eq0⟩ := List.mem_map.mp (List.of_mem_zip (a := q.1) (b := q.2) hq).2
        have rok : RowOk m.length q.2 := by rw [← eq0]; exact vm.row q0 hq0
        refine ev_orV (ev_v (U := rBl q.1) rfl hv) fun _ => ev_any (EvN.lst ((en_lc1 (R := fun p : Nat × Nat => rNat p.2) (S := fun p : Nat × Nat => rBl (F.getD p.2 false)) (ei_vals (ev_v (U := rRow q.2) rfl hz)) (by have := rok.len; omega) (fun _ => rfl) fun p hp v6 M6 B6 _ b6 hv6 => ?_).to fun vs B7 h7 => Al.map (R := rBl) h7))
        refine ev_ixL (R := rBl) (ev_v (U := rLst rBl F) rfl ((rLst rBl F).up (b5.trans b6) hF3)) (ev_v (U := rNat p.2) rfl hv6) ?_
        have hlt : p.2 < F.length := by rw [lF]; exact rok.to p hp
        rw [List.getElem?_eq_getElem hlt, List.getD_eq_getElem?_getD, List.getElem?_eq_getElem hlt]
        rfl
      · refine ⟨m.length + 1 - F.countP id, M', B4, by have := count_le F; omega, rfl, d4, rfl, bb.trans (b2.trans (b3.trans b4)), v, F.countP id, o4, o5, o6, uStep (rows m) F, rfl, hv, ?_, ?_, .inr ⟨F, lF, rfl, rfl⟩, rfl⟩
        · rw [uStep_len (by rw [lF, n0]), n0]
        · have := ble_step (rows := rows m) (F := F) (by rw [lF, n0])
          exact ⟨leF.1.trans this.1, fun i h => this.2 i (leF.2 i h)⟩
    · have hge : ¬ many < F.countP id := by
        have := of_decide_eq_false ht
        omega
      have hfin : F = List.replicate m.length true := by
        refine closed_all vm lF (fun i hi => leF.2 i ?_) ?_
        · have hlt : i < m.length := by
            refine Nat.lt_of_not_le fun h => ?_
            rw [lastAt_none h] at hi
            cases hi
          rw [lastAt_get hlt] at hi
          rw [List.getD_eq_getElem?_getD, List.getElem?_map, List.getElem?_eq_getElem hlt]
          exact hi
        · rcases why with ⟨e0, eF⟩ | ⟨F0, l0, ec, eF⟩
          · exfalso
            obtain ⟨j, p, hj⟩ := vm.live 0 vm.pos
            have hlt : j < m.length := p.lt vm.toWf vm.pos
            rw [lastAt_get hlt] at hj
            have : 0 < F.countP id := by
              rw [eF, List.countP_pos_iff]
              exact ⟨true, List.mem_map.mpr ⟨m[j], List.getElem_mem hlt, hj⟩, rfl⟩
            omega
          · have hb := ble_count (ble_step (rows := rows m) (F := F0) (by rw [l0, n0]))
            rw [← eF] at hb
            have e2 : F0 = F := hb.2 (by have := hb.1; omega)
            rw [← e2] at eF
            rw [← e2, ← eF]
      refine s_ret (ev_v (U := rLst rBl (List.replicate m.length true)) rfl ?_) d2 fun v B3 b3 d3 hv => q v B3 (bb.trans (b2.trans b3)) d3 hv
      rw [← hfin]
      exact (rLst rBl F).up b2 hF
end
end Zb
end
section
set_option Elab.async false
set_option linter.all false
set_option maxRecDepth 100000
/-! Zd2: deep equality; a thing taken back to be changed; sorted(set(..)). -/
namespace Zb
open PySem PySem.Spec PyProof.Rows L2

theorem flat_map {α β γ : Type} {ys : α → List β} {g : α → β → γ} : ∀ {xs : List α}, (xs.flatMap fun x => (ys x).map fun y => (x, y)).map (fun q : α × β => g q.1 q.2) = xs.flatMap fun x => (ys x).map (g x)
  | [] => rfl
  | x :: xs => by
    rw [List.flatMap_cons, List.flatMap_cons, List.map_append, flat_map (xs := xs), List.map_map]
    rfl
/-! ### taken back -/
def del (B : Hp) (p : Addr) : Hp := fun a => if a = p then none else B a
theorem del_same {B : Hp} {p : Addr} : del B p p = none := by unfold del; rw [if_pos rfl]
theorem del_ne {B : Hp} {p a : Addr} (h : a ≠ p) : del B p a = B a := by unfold del; rw [if_neg h]
theorem jn_del {B M : Hp} {p : Addr} {o : HO} (d : Dj B M) (h : B p = some o) : jn B M = jn (del B p) (upd M p o) := by
  funext a
  by_cases e : a = p
  · subst e
    rw [jn_b d h, jn_m upd_same]
  · unfold jn
    rw [upd_ne e, del_ne e]
theorem dj_del {B M : Hp} {p : Addr} {o : HO} (d : Dj B M) : Dj (del B p) (upd M p o) := fun a u e => by
  by_cases q : a = p
  · subst q
    rw [del_same] at e
    cases e
  · rw [del_ne q] at e
    rw [upd_ne q]
    exact d a u e
theorem same_del {B0 B : Hp} {p : Addr} (s : Same B0 B) (h : B0 p = none) : Same B0 (del B p) := fun a u e => by
  rw [del_ne (ne_of_none e h)]
  exact s a u e
theorem lst_del {α : Type} {f : α → V} {xs : List α} {v : V} {B : Hp} {p : Addr} (h : (rLst (fun x => isV (f x)) xs).p v B) (n : v ≠ .ref p) : (rLst (fun x => isV (f x)) xs).p v (del B p) := by
  obtain ⟨a, vs, e, h, al⟩ := h
  refine ⟨a, vs, e, ?_, ?_⟩
  · rw [del_ne (fun z => n (by rw [e, z]))]
    exact h
  · rw [al.isV]
    exact Al.ofV xs
/-! ### deep -/
structure Dat (U : Up) (d : PyData) : Prop where
  h : ∀ (K : PySem.W.Frag) (v : V) (M B : Hp), Dj B M → U.p v B → Dp K (jn B M) v d
theorem dat_int {i : Int} : Dat (rInt i) (.int i) := ⟨fun K v M B _ h => by rw [show v = _ from h]; exact .int i⟩
theorem dat_bl {b : Bool} : Dat (rBl b) (.bool b) := ⟨fun K v M B _ h => by rw [show v = _ from h]; exact .bl b⟩
theorem dat_tx {w : List Nat} : Dat (rTx w) (.str (tx w)) := ⟨fun K v M B _ h => by rw [show v = _ from h]; exact .str _⟩
theorem dat_non : Dat rNon .none := ⟨fun K v M B _ h => by rw [show v = _ from h]; exact .non⟩
theorem dat_all {α : Type} {R : α → Up} {f : α → PyData} {K : PySem.W.Frag} {M B : Hp} (d : Dj B M) : ∀ {xs : List α} {vs : List V}, (∀ x ∈ xs, Dat (R x) (f x)) → Al R xs vs B → DpAll K (jn B M) vs (xs.map f)
  | _, _, _, .nil => .nil
  | _, _, k, .cons h t => .cons ((k _ List.mem_cons_self).h K _ M B d h) (dat_all d (fun x m => k x (List.mem_cons_of_mem _ m)) t)
theorem dat_lst {α : Type} {R : α → Up} {f : α → PyData} {xs : List α} (k : ∀ x ∈ xs, Dat (R x) (f x)) : Dat (rLst R xs) (.list (xs.map f)) := ⟨fun K v M B d ⟨a, vs, e, h, al⟩ => by
  rw [e]
  exact .lst (SqL.of (jn_b d h)) (dat_all d k al)⟩
theorem dat_tup {α : Type} {R : α → Up} {f : α → PyData} {xs : List α} (k : ∀ x ∈ xs, Dat (R x) (f x)) : Dat (rTup R xs) (.tuple (xs.map f)) := ⟨fun K v M B d ⟨a, vs, e, h, al⟩ => by
  rw [e]
  exact .tup (SqT.of (jn_b d h)) (dat_all d k al)⟩
def nD (n : Nat) : PyData := .int (n : Int)
theorem eqv_nats : ∀ (xs ys : List Nat), PyData.eqvAll (xs.map nD) (ys.map nD) = decide (xs = ys)
  | [], [] => rfl
  | [], _ :: _ => rfl
  | _ :: _, [] => rfl
  | x :: xs, y :: ys => by
    show (((x : Int) == (y : Int)) && PyData.eqvAll (xs.map nD) (ys.map nD)) = _
    rw [eqv_nats xs ys]
    by_cases h : x = y
    · subst h
      simp
    · have : ((x : Int) == (y : Int)) = false := by simp; omega
      rw [this]
      simp [h]
theorem lay_nats : ∀ (xs : List Nat), PyData.canLayAll0 (xs.map nD) = true
  | [] => rfl
  | x :: xs => by
    show (true && PyData.canLayAll0 (xs.map nD)) = true
    rw [lay_nats xs]
    rfl
theorem depth_nats : ∀ (xs : List Nat), PyData.depthAll (xs.map nD) = 0
  | [] => rfl
  | x :: xs => by
    show max 0 (PyData.depthAll (xs.map nD)) = 0
    rw [depth_nats xs]
    rfl
theorem sh_lnats {xs : List Nat} : SeqAt.shaped (.list (xs.map nD)) = true := by
  show (PyData.canLayAll0 (xs.map nD) && decide (PyData.depthAll (xs.map nD) + 1 ≤ 64)) = true
  rw [lay_nats, depth_nats]
  rfl
theorem sh_tnats {xs : List Nat} : SeqAt.shaped (.tuple (xs.map nD)) = true := by
  show (PyData.canLayAll0 (xs.map nD) && decide (PyData.depthAll (xs.map nD) + 1 ≤ 64)) = true
  rw [lay_nats, depth_nats]
  rfl
section
variable {K : PySem.W.Frag} {σ : L2.St} {M B : Hp} {ta tb : TE} {U W : Up} {d e : PyData}
theorem ev_eqD (ha : Ev ta σ M B U) (hb : Ev tb σ M B W) (du : Dat U d) (dw : Dat W e) (s1 : SeqAt.shaped d = true) (s2 : SeqAt.shaped e = true) : Ev (tOp (rEqD K) ta tb) σ M B (rBl (PyData.eqv d e)) :=
  ev_op0 ha hb fun x y M1 B1 _ _ dj hx hy Q q => ⟨d, e, du.h K x M1 B1 dj hx, dw.h K y M1 B1 dj hy, s1, s2, q⟩
theorem ev_neD (ha : Ev ta σ M B U) (hb : Ev tb σ M B W) (du : Dat U d) (dw : Dat W e) (s1 : SeqAt.shaped d = true) (s2 : SeqAt.shaped e = true) : Ev (tOp (rNeD K) ta tb) σ M B (rBl (!PyData.eqv d e)) :=
  ev_op0 ha hb fun x y M1 B1 _ _ dj hx hy Q q => ⟨d, e, du.h K x M1 B1 dj hx, dw.h K y M1 B1 dj hy, s1, s2, q⟩
/-- xs == ys, lists of numbers -/
theorem ev_eqLn {xs ys : List Nat} (ha : Ev ta σ M B (rLst rNat xs)) (hb : Ev tb σ M B (rLst rNat ys)) : Ev (tOp (rEqD K) ta tb) σ M B (rBl (decide (xs = ys))) := by
  rw [← eqv_nats]
  exact ev_eqD ha hb (dat_lst fun _ _ => dat_int) (dat_lst fun _ _ => dat_int) sh_lnats sh_lnats
theorem ev_neLn {xs ys : List Nat} (ha : Ev ta σ M B (rLst rNat xs)) (hb : Ev tb σ M B (rLst rNat ys)) : Ev (tOp (rNeD K) ta tb) σ M B (rBl (!decide (xs = ys))) := by
  rw [← eqv_nats]
  exact ev_neD ha hb (dat_lst fun _ _ => dat_int) (dat_lst fun _ _ => dat_int) sh_lnats sh_lnats
theorem ev_eqTn {xs ys : List Nat} (ha : Ev ta σ M B (rTup rNat xs)) (hb : Ev tb σ M B (rTup rNat ys)) : Ev (tOp (rEqD K) ta tb) σ M B (rBl (decide (xs = ys))) := by
  rw [← eqv_nats]
  exact ev_eqD ha hb (dat_tup fun _ _ => dat_int) (dat_tup fun _ _ => dat_int) sh_tnats sh_tnats
theorem ev_neTn {xs ys : List Nat} (ha : Ev ta σ M B (rTup rNat xs)) (hb : Ev tb σ M B (rTup rNat ys)) : Ev (tOp (rNeD K) ta tb) σ M B (rBl (!decide (xs = ys))) := by
  rw [← eqv_nats]
  exact ev_neD ha hb (dat_tup fun _ _ => dat_int) (dat_tup fun _ _ => dat_int) sh_tnats sh_tnats
/-- sorted(set(xs)) -/
theorem en_sortSet {w : World} {xs : List Nat} (ha : Ev ta σ M B (rLst rNat xs)) (hl : xs.length < 64) : EvN (tCB (rSortedSet w) (tCons (tCB (rSetL K w) (tCons ta tNil)) tNil)) σ M B (fun vs _ => ∃ ns : List Nat, vs = ns.map (fun i : Nat => V.int (i : Int)) ∧ ns.Pairwise (· < ·) ∧ ∀ k, k ∈ ns ↔ k ∈ xs) := fun M1 B1 m b dj Q q =>
  ha M1 B1 m b dj _ fun v B2 b2 d2 ⟨a, vs, e, h, al⟩ => ⟨a, xs.map fun i : Nat => (i : Int), by rw [e], by rw [← al_int al]; exact SqL.of (jn_b d2 h), by rw [List.length_map]; omega, fun p n hp hn => by
    obtain ⟨hm, hb⟩ := jn_none hp
    rw [jn_updB hm]
    rw [List.length_map] at hn
    refine ⟨p, _, n, rfl, jn_b (dj_b d2 hm) upd_same, by omega, fun ns p2 hs hi _ hp2 => ?_⟩
    obtain ⟨hm2, hb2⟩ := jn_none hp2
    rw [jn_updM]
    have nn : ∀ k ∈ ns, ∃ j : Nat, k = (j : Int) ∧ j ∈ xs := fun k hk => by
      have z := of_decide_eq_true ((hi k).mp hk)
      obtain ⟨j, hj, rfl⟩ := List.mem_map.mp z
      exact ⟨j, rfl, hj⟩
    have en : ns = (ns.map Int.toNat).map fun i : Nat => (i : Int) := by
      rw [List.map_map]
      refine (List.map_id ns).symm.trans (List.map_congr_left fun k hk => ?_)
      obtain ⟨j, rfl, _⟩ := nn k hk
      rfl
    refine q p2 _ _ (b2.trans (same_new hb)) (dj_b d2 hm) hm2 hb2 ⟨ns.map Int.toNat, ?_, ?_, fun k => ⟨fun hk => ?_, fun hk => ?_⟩⟩
    · exact (congrArg (List.map V.int) en).trans List.map_map
    · rw [en, List.pairwise_map] at hs
      exact hs.imp fun {x y} h => by omega
    · obtain ⟨z, hz, rfl⟩ := List.mem_map.mp hk
      obtain ⟨j, rfl, hj⟩ := nn z hz
      exact hj
    · exact List.mem_map.mpr ⟨(k : Int), (hi k).mpr (decide_eq_true (List.mem_map_of_mem hk)), rfl⟩⟩
theorem asc_eq {xs ys : List Nat} (hx : xs.Pairwise (· < ·)) (hy : ys.Pairwise (· < ·)) (h : ∀ k, k ∈ xs ↔ k ∈ ys) : xs = ys :=
  List.Perm.eq_of_pairwise (le := fun a b => a < b) (fun a b _ _ h1 h2 => absurd h1 (Nat.lt_asymm h2)) hx hy ((List.perm_ext_iff_of_nodup (hx.imp fun h => Nat.ne_of_lt h) (hy.imp fun h => Nat.ne_of_lt h)).mpr h)
/-- what there is of xs below n, in order -/
def below (n : Nat) (xs : List Nat) : List Nat := (List.range n).filter fun k => decide (k ∈ xs)
theorem below_asc {n : Nat} {xs : List Nat} : (below n xs).Pairwise (· < ·) := List.Pairwise.sublist List.filter_sublist List.pairwise_lt_range
theorem mem_below {n : Nat} {xs : List Nat} {k : Nat} : k ∈ below n xs ↔ k < n ∧ k ∈ xs := by
  unfold below
  rw [List.mem_filter, List.mem_range, decide_eq_true_eq]
theorem below_len {n : Nat} {xs : List Nat} : (below n xs).length ≤ n := by
  have := List.length_filter_le (fun k => decide (k ∈ xs)) (List.range n)
  rw [List.length_range] at this
  exact this
theorem en_sortSetN {w : World} {n : Nat} {xs : List Nat} (ha : Ev ta σ M B (rLst rNat xs)) (hl : xs.length < 64) (hn : ∀ k ∈ xs, k < n) : EvN (tCB (rSortedSet w) (tCons (tCB (rSetL K w) (tCons ta tNil)) tNil)) σ M B (Al rNat (below n xs)) :=
  (en_sortSet ha hl).to fun vs B1 ⟨ns, e, hs, hi⟩ => by
    rw [e, asc_eq hs below_asc fun k => (hi k).trans ⟨fun h => mem_below.mpr ⟨hn k h, h⟩, fun h => (mem_below.mp h).2⟩]
    exact al_nats
end
end Zb
end
section
set_option Elab.async false
set_option linter.all false
set_option maxRecDepth 100000
/-! Zs2: the walk: are_useful. -/
namespace Zb
open PySem PySem.Spec PyProof.Rows L2
abbrev nats (xs : List Nat) : List V := xs.map fun i : Nat => V.int (i : Int)
theorem lst_nats {xs : List Nat} {p : Addr} {B : Hp} (h : B p = some (.lst (nats xs))) : (rLst rNat xs).p (.ref p) B := ⟨p, _, rfl, h, al_nats⟩
theorem room_u {k : Nat} {A : Around} (h : Room k A) : A.units + 65 < cLine := by
  have := h.un
  omega
theorem ev_useful_states {σ : L2.St} {M B : Hp} {ta tb : TE} {m : Mach} (h1 : Ev ta σ M B (rLst rRow (rows m))) (h2 : Ev tb σ M B (rLst rBl (lasts m))) (vm : Vm m) : Ev (tCall sp_useful_states [] E0 (tCons ta (tCons tb tNil))) σ M B (rLst rBl (List.replicate m.length true)) :=
  ev_call (A := fun m : Mach => [rLst rRow (rows m), rLst rBl (lasts m)]) (R := fun m : Mach => rLst rBl (List.replicate m.length true)) m (ea_cons h1 (ea_cons h2 ea_nil)) vm
abbrev s_are_useful : Stmt := top 18
theorem sc_are_useful : FnScope ["moves", "lasts", "met", "more", "state", "to"] ["moves", "lasts"] (defScope s_are_useful) := ⟨rfl, rfl, rfl, by decide +kernel, rfl, by decide +kernel, by decide +kernel⟩
def sp_are_useful : Sp := spF (α := Mach) (fun m => [rLst rRow (rows m), rLst rBl (lasts m)]) (fun m => Vm m ∧ m.length ≤ 8) (fun _ => rBl true)
/-- where the moves of what is met lead -/
def outs (m : Mach) (met : List Nat) : List Nat := met.flatMap fun s => (rowAt m s).map fun q : Nat × Nat => q.2
theorem rows_at {m : Mach} {s : Nat} (h : s < m.length) : (rows m)[s]? = some (rowAt m s) := by
  rw [List.getElem?_map, List.getElem?_eq_getElem h, rowAt_get h]
  rfl
theorem sum_le {α : Type} {f : α → Nat} {c : Nat} : ∀ {xs : List α}, (∀ x ∈ xs, f x ≤ c) → (xs.map f).sum ≤ xs.length * c
  | [], _ => by simp
  | x :: xs, h => by
    have ih := sum_le (f := f) (c := c) (xs := xs) fun y hy => h y (List.mem_cons_of_mem _ hy)
    have := h x List.mem_cons_self
    rw [List.map_cons, List.sum_cons, List.length_cons, Nat.succ_mul]
    omega
theorem outs_len {m : Mach} (w : Wf m) {met : List Nat} : (outs m met).length ≤ met.length * 5 := by
  unfold outs
  rw [List.length_flatMap]
  exact sum_le fun s _ => by
    rw [List.length_map]
    exact (w.at s).len
section
variable {P : Program} {w : World} {K : PySem.W.Frag} {mg : Str → Option Value} {base : Heap}
theorem c_are_useful (D : Def K mg "are_useful" s_are_useful) (T : Bt mg) (c_useful_states : Cal P w K mg base 1 "useful_states" sp_useful_states) : Cal P w K mg base 2 "are_useful" sp_are_useful :=
  cal_of D sc_are_useful (fun _ _ _ _ _ _ us hl => match us, hl with | [_, _], _ => rfl) (spF_len fun _ => rfl) fun f cdv A outer s H vs Q E hr h => by
  obtain ⟨m, B, M, rfl, d, ⟨vm, h8⟩, al, q⟩ := h
  have sc := sc_are_useful
  have hu64 := Nat.lt_of_succ_lt (room_u hr)
  refine ⟨_, (pss_cons (ps_set (i := 2) sc.nd rfl (.inr rfl) (pe_lst (pa_cons pe_int pa_nil)))
      (pss_one (ps_while PassesOwn.never (pt_val pe_bl) (pss_cons (ps_setLc2 (i := 3) (own := [("state", 4), ("to", 5)]) (vs1 := [5]) rfl sc.nd rfl rfl (sw_true rfl rfl rfl (by decide +kernel)) (kpi_list K rfl (pv 2)) (blkOk_by (by kernel_rfl)) (by decide) (fun _ _ _ _ _ => (pg_name (i := 4) sc.nd rfl (.inl rfl))) (fun _ _ _ _ _ => pts_nil) (fun _ _ _ _ _ => (pi_values (pe_ix (kix_list K rfl) (pv 0) (pv 4) (fun _ _ => rfl)))) (fun _ _ _ _ _ => (pg_name (i := 5) sc.nd rfl (.inl rfl))) (fun _ _ _ _ _ => pts_nil) (fun _ _ _ _ _ => (pv 5)))
      (pss_cons (ps_setLc (i := 3) (own := [("state", 4)]) rfl sc.nd rfl rfl (sw_true rfl rfl rfl (by decide +kernel)) (kpi_list K rfl (pe_callB (cr_sortedSet rfl) (by rfl) T.sorted (by decide +kernel) (pa_cons (pe_callTy (cr_setL rfl) (by rfl) T.set (by decide +kernel) (pa_cons (pv 3) pa_nil)) pa_nil))) (blkOk_by (by kernel_rfl)) (fun _ _ _ _ _ => (pg_name (i := 4) sc.nd rfl (.inl rfl))) (fun _ _ _ _ _ => (pts_one (pt_cmpR (kop_notIn K rfl) (pv 4) (pv 2) (by rfl)))) (fun _ _ _ _ _ => (pv 4)))
      (pss_cons (ps_if (pt_cmpR (op_eqD hu64) (pv 3) (pe_lst pa_nil) (nomark _)) (pss_one (ps_ret (pe_and (pe_cmpR op_eq (pe_callB (kc_len K rfl) (by rfl) T.len (by decide +kernel) (pa_cons (pv 2) pa_nil)) (pe_callB (kc_len K rfl) (by rfl) T.len (by decide +kernel) (pa_cons (pv 0) pa_nil)) (nomark _)) (pe_one (pe_callB (kc_all K rfl rfl) (by rfl) T.all (by decide +kernel) (pa_cons (pe_cal c_useful_states hr (by decide) (by rfl) (pa_cons (pv 0) (pa_cons (pv 1) pa_nil))) pa_nil)))))) pss_nil)
      (pss_one (ps_expr (pe_bm PySem.F.plainAttrs_list PySem.F.slot_list_extend PySem.F.type_list_extend mt_extend (pv 2) (pa_cons (pv 3) pa_nil)))))))))), ?_⟩
  cases al with
  | cons h1 al => cases al with
  | cons h2 al =>
    cases al
    refine q_asgN (en_lst (ea_cons (ev_c (x := .int 0)) ea_nil) (by show 1 ≤ 1000; decide)) d fun p vs B1 b1 d1 hMp hB1p hvs => ?_
    have hv0 : vs = nats [0] := by
      cases hvs with
      | cons a b =>
        cases b
        rw [show _ = V.int 0 from a]
        rfl
    subst hv0
    have hBp : B p = none := by
      cases e : B p with
      | none => rfl
      | some o => rw [b1 p o e] at hB1p; cases hB1p
    refine s_while (fun k σ' M' B' => Same B B' ∧ ∃ met o3 o4 o5, M' = upd M p (.lst (nats met)) ∧ σ' = [some _, some _, some (.ref p), o3, o4, o5] ∧ 0 ∈ met ∧ met.Nodup ∧ (∀ i ∈ met, i < m.length) ∧ k = m.length - met.length) (m.length - 1)
      ⟨b1, [0], none, none, none, rfl, rfl, List.mem_singleton.mpr rfl, by simp, fun i hi => by rw [List.mem_singleton.mp hi]; exact vm.pos, rfl⟩ (dj_m d1 hB1p) fun k σ' M' B' hp d' => ?_
    obtain ⟨bb, met, o3, o4, o5, rfl, rfl, m0, mn, mb, ek⟩ := hp
    have hl8 : met.length ≤ m.length := nodup_le mn mb
    refine ⟨true, et_test (ev_c (x := .bl true)), fun _ B2 b2 d2 => ?_, fun e => nomatch e⟩
    rw [jn_pub hMp]
    have hB2p : B2 p = none := dj_none d2 upd_same
    have d3 : Dj (upd B2 p (.lst (nats met))) M := by
      refine dj_b (fun a o e => ?_) hMp
      exact (upd_none (d2 a o e)).1
    have s3 : Same B (upd B2 p (.lst (nats met))) := (bb.trans b2).trans (same_new hB2p)
    have hrw : ∀ {B9 : Hp}, Same B B9 → (rLst rRow (rows m)).p _ B9 := fun s9 => (rLst rRow (rows m)).up s9 h1
    have hmet : ∀ {B9 : Hp}, Same (upd B2 p (.lst (nats met))) B9 → (rLst rNat met).p (.ref p) B9 := fun s9 => (rLst rNat met).up s9 (lst_nats upd_same)
    refine q_asg (U := rLst rNat (outs m met)) (EvN.lst ?_) d3 fun v B4 b4 d4 hv => ?_
    · refine (en_lcT (R := rNat) (T := fun _ (q : Nat × Nat) => rNat q.2) (S := fun _ (q : Nat × Nat) => rNat q.2) (ys := fun s => rowAt m s) (ei_list (ev_v (U := rLst rNat met) rfl (hmet (Same.refl _)))) ?_ (fun _ => rfl) (fun s hs v M5 B5 _ b5 hv => ?_) (fun _ _ => rfl) fun s _ q _ v z M5 B5 _ _ _ hz => ev_v (U := rNat q.2) rfl hz).to fun vs B5 h5 => ?_
      · have := sum_le (f := fun s => (rowAt m s).length) (c := 5) (xs := met) fun s _ => (vm.at s).len
        omega
      · exact ei_vals (r := rowAt m s) (ev_ixL (R := rRow) (ev_v (U := rLst rRow (rows m)) rfl (hrw (s3.trans b5))) (ev_v (U := rNat s) rfl hv) (rows_at (mb s hs)))
      · have := Al.map (R := rNat) (f := fun q : Nat × (Nat × Nat) => q.2.2) h5
        rw [flat_map (ys := fun s => rowAt m s) (g := fun _ (q : Nat × Nat) => q.2)] at this
        exact this
    · have hol := outs_len vm.toWf (met := met)
      have hob : ∀ k ∈ outs m met, k < m.length := fun k hk => by
        obtain ⟨s, _, hk⟩ := List.mem_flatMap.mp hk
        obtain ⟨q, hq, rfl⟩ := List.mem_map.mp hk
        exact (vm.at s).to q hq
      have hmet4 := hmet b4
      refine q_asgN (W := Al rNat ((below m.length (outs m met)).filter fun i => !decide (i ∈ met))) ?_ d4 fun p2 vs2 B5 b5 d5 hMp2 hB5p2 hvs2 => ?_
      · refine en_lc (R := rNat) (S := rNat) (ei_list (en_sortSetN (n := m.length) (ev_v (U := rLst rNat (outs m met)) rfl hv) (by omega) hob).lst) (by have := below_len (n := m.length) (xs := outs m met); omega) (fun _ => rfl) (fun i _ v6 M6 B6 _ b6 hv6 => ?_) fun i _ _ v6 M6 B6 _ b6 hv6 => ev_v (U := rNat i) rfl hv6
        exact et_test (ev_notInL (ev_v (U := rNat i) rfl hv6) (ev_v (U := rLst rNat met) rfl ((rLst rNat met).up b6 hmet4)))
      · generalize emo : ((below m.length (outs m met)).filter fun i => !decide (i ∈ met)) = more at hvs2
        obtain rfl := al_nat hvs2
        rw [jn_pub hMp2]
        have d6 : Dj (upd B5 p2 (.lst (nats more))) M := dj_b d5 hMp2
        have s6 : Same (upd B2 p (.lst (nats met))) (upd B5 p2 (.lst (nats more))) := (b4.trans b5).trans (same_new hB5p2)
        have hmo : (rLst rNat more).p (.ref p2) (upd B5 p2 (.lst (nats more))) := lst_nats upd_same
        have hpp : p2 ≠ p := fun e => by
          rw [e, (b4.trans b5) p _ upd_same] at hB5p2
          cases hB5p2
        refine q_if (et_test (ev_eqLn (ys := []) (ev_v (U := rLst rNat more) rfl hmo) (EvN.lst ((en_lst ea_nil (by show 0 ≤ 1000; decide)).to fun vs B9 h9 => by cases h9; exact .nil)))) d6 (fun ht B7 b7 d7 => ?_) fun ht B7 b7 d7 => ?_
        · have hmo0 : more = [] := of_decide_eq_true ht
          have hlen : met.length = m.length := met_all vm m0 mn mb fun i hi q hq => by
            refine Decidable.byContradiction fun hn => ?_
            have : q.2 ∈ more := by
              rw [← emo, List.mem_filter]
              refine ⟨mem_below.mpr ⟨(vm.at i).to q hq, List.mem_flatMap.mpr ⟨i, hi, List.mem_map_of_mem hq⟩⟩, by simp [hn]⟩
            rw [hmo0] at this
            cases this
          have s7 := s6.trans b7
          refine s_ret (U := rBl true) ?_ d7 fun v9 B9 b9 d9 h9 => q v9 B9 (s3.trans (s7.trans b9)) d9 h9
          refine Ev.to (U := rBl (decide (V.int (met.length : Nat) = V.int ((rows m).length : Nat)) && (List.replicate m.length true).all id)) (ev_andV (ev_eq (ev_lenL (ev_v (U := rLst rNat met) rfl (hmet s7))) (ev_lenL (ev_v (U := rLst rRow (rows m)) rfl (hrw (s3.trans s7)))) rfl) fun _ =>
            ev_all (ev_useful_states (ev_v (U := rLst rRow (rows m)) rfl (hrw (s3.trans s7))) (ev_v (U := rLst rBl (lasts m)) rfl ((rLst rBl (lasts m)).up (s3.trans s7) h2)) vm)) fun v8 B8 _ h8 => ?_
          rw [show v8 = _ from h8, List.length_map, hlen]
          simp [rBl, isV]
        · have hne : more ≠ [] := of_decide_eq_false ht
          have s7 := s6.trans b7
          have hm7 : B7 p = some (.lst (nats met)) := s7 p _ upd_same
          have hq7 : B7 p2 = some (.lst (nats more)) := b7 p2 _ upd_same
          have nd : (met ++ more).Nodup := by
            rw [List.nodup_append]
            refine ⟨mn, ?_, fun a ha b hb e => ?_⟩
            · rw [← emo]
              exact (below_asc.imp fun h => Nat.ne_of_lt h).filter _
            · subst e
              rw [← emo, List.mem_filter] at hb
              simp [ha] at hb
          have bd : ∀ i ∈ met ++ more, i < m.length := fun i hi => by
            rcases List.mem_append.mp hi with hi | hi
            · exact mb i hi
            · rw [← emo, List.mem_filter] at hi
              exact (mem_below.mp hi.1).1
          have nl := nodup_le nd bd
          rw [List.length_append] at nl
          have pos : 0 < more.length := List.length_pos_iff.mpr hne
          refine ⟨_, rfl, .inl ⟨rfl, nats met, SqL.of (jn_b d7 hm7)⟩, _, rfl, p, p2, nats met, nats more, rfl, rfl, jn_b d7 hm7, jn_b d7 hq7, ?_, m.length - (met ++ more).length, upd M p (.lst (nats (met ++ more))), del B7 p, by rw [List.length_append]; omega, ?_, ?_, same_del (s3.trans s7) hBp, met ++ more, _, _, _, rfl, rfl, List.mem_append_left _ m0, nd, bd, rfl⟩
          · rw [List.length_map, List.length_map]
            exact Nat.le_trans (by omega : met.length + more.length ≤ 1000) (by decide)
          · rw [jn_del d7 hm7, jn_updM, upd_upd, ← List.map_append]
          · refine fun a u e => ?_
            have z := dj_del (p := p) (o := HO.lst []) d7 a u e
            by_cases ea : a = p
            · rw [ea, del_same] at e
              cases e
            · rw [upd_ne ea] at z ⊢
              exact z
end
end Zb
end
section
set_option Elab.async false
set_option linter.all false
set_option maxRecDepth 100000
/-! Zd3: dict comprehensions that give rows; a value frozen as it comes. -/
namespace Zb
open PySem PySem.Spec PyProof.Rows L2

def tFrzV (te : TE) : TE := fun σ H Q => te σ H fun v H1 => ∃ d u, v = .ref d ∧ H1 d = some u ∧ Mut (some u) ∧ ∀ od, Q v (upd H1 d (.frz od u))
theorem pe_frzV {X : Cx} {e : Expr} {te : TE} (h : PE X e te) : PE X e (tFrzV te) := ⟨fun pins s σ H Q I q => thn (h.run pins s σ H _ I q) fun v s1 ⟨x, H1, I1, r, d, u, ex, ed, mu, k⟩ => by
  obtain ⟨od, I2⟩ := I1.lock ed mu
  exact ⟨x, _, I2, r, k od⟩⟩
theorem putK_row {r : Row} {c t : Nat} (h : c ∉ r.map fun q : Nat × Nat => q.1) : putK (rowK r) (Sum.inr (tx [c])) (.int (t : Int)) = rowK (r ++ [(c, t)]) := by
  have e : ((rowK r).any fun kv => decide (kv.1 = Sum.inr (tx [c]))) = false := by
    rw [List.any_eq_false]
    intro kv hkv
    obtain ⟨q, hq, rfl⟩ := List.mem_map.mp hkv
    simp only [decide_eq_true_eq]
    intro e
    have z := tx_inj (Sum.inr.inj e)
    cases z
    exact h (List.mem_map_of_mem (f := fun q : Nat × Nat => q.1) hq)
  unfold putK
  rw [e, if_neg Bool.false_ne_true]
  unfold rowK
  rw [List.map_append]
  rfl
section
variable {K : PySem.W.Frag} {σ : L2.St} {M B : Hp} {tk tv : TE} {wi : TI} {vs : List Nat}
theorem ev_dc {α : Type} {R : α → Up} {xs : List α} {j : Nat} {kf vf : α → Nat} (hi : EvI wi σ M B (xs.map R)) (hl : xs.length ≤ 100000) (hw : ∀ x, wipe ((wipe σ vs).set j (some x)) vs = wipe σ vs)
    (hk : ∀ x ∈ xs, ∀ v M1 B1, Same M M1 → Same B B1 → (R x).p v B1 → Ev tk ((wipe σ vs).set j (some v)) M1 B1 (rTx [kf x])) (hv : ∀ x ∈ xs, ∀ v M1 B1, Same M M1 → Same B B1 → (R x).p v B1 → Ev tv ((wipe σ vs).set j (some v)) M1 B1 (rNat (vf x)))
    (nd : (xs.map kf).Nodup) : Ev (tFrzV (tDc wi (gName j) tYes tk tv vs)) σ M B (rRow (xs.map fun x => (kf x, vf x))) := fun M1 B1 m b d Q q => hi M1 B1 m b d _ fun J B2 b2 d2 wk => fun D hD => by
  obtain ⟨hm, hb⟩ := jn_none hD
  refine ⟨fun i n H => ∃ B3, n + i = xs.length ∧ H = jn B3 (upd M1 D (.dK (rowK ((xs.take i).map fun x => (kf x, vf x))))) ∧ Same B2 B3 ∧ Dj B3 M1 ∧ B3 D = none,
    ⟨xs.length, B2, rfl, by rw [jn_updM]; rfl, Same.refl _, d2, hb⟩, ?_⟩
  rintro i n H ⟨B3, hn, rfl, b3, d3, n3⟩
  have dj : Dj B3 (upd M1 D (.dK (rowK ((xs.take i).map fun x => (kf x, vf x))))) := dj_m d3 n3
  by_cases hlt : i < xs.length
  · have ex : xs[i]? = some xs[i] := List.getElem?_eq_getElem hlt
    refine .inr ⟨wk.go i _ B3 b3 dj (by rw [List.length_map]; exact hlt), fun H' => ∃ B4, H' = jn B4 (upd M1 D (.dK (rowK ((xs.take (i + 1)).map fun x => (kf x, vf x))))) ∧ Same B2 B4 ∧ Dj B4 M1 ∧ B4 D = none,
      fun H' ⟨B4, e1, e2, e3, e4⟩ => ⟨n - 1, by omega, B4, by omega, e1, e2, e3, e4⟩, fun v H' y => ?_⟩
    obtain ⟨B4, b4, d4, rfl, hu⟩ := wk.yl i (R xs[i]) _ B3 v H' (by rw [List.getElem?_map, ex]; rfl) b3 dj y
    refine ⟨hw v, ?_⟩
    show tk _ _ _
    refine hk xs[i] (List.getElem_mem hlt) v _ B4 (m.trans (same_new hm)) (b.trans (b2.trans (b3.trans b4))) hu _ B4 (Same.refl _) (Same.refl _) d4 _ fun y1 B5 b5 d5 hy1 => ?_
    refine hv xs[i] (List.getElem_mem hlt) v _ B5 (m.trans (same_new hm)) (b.trans (b2.trans (b3.trans (b4.trans b5)))) ((R xs[i]).up b5 hu) _ B5 (Same.refl _) (Same.refl _) d5 _ fun z1 B6 b6 d6 hz1 => ?_
    refine ⟨_, Sum.inr (tx [kf xs[i]]), by rw [show y1 = _ from hy1]; rfl, jn_m upd_same, ?_, B6, ?_, b3.trans (b4.trans (b5.trans b6)), fun a o e => (upd_none (d6 a o e)).1, dj_none d6 upd_same⟩
    · unfold rowK
      rw [List.length_map, List.length_map, List.length_take]
      exact Nat.lt_of_lt_of_le (by omega : min i xs.length < 1000000) (by decide)
    · rw [jn_updM, upd_upd, show z1 = _ from hz1, putK_row, take_snoc ex, List.map_append]
      · rfl
      · rw [List.map_map]
        have e3 : ((fun q : Nat × Nat => q.1) ∘ fun x => (kf x, vf x)) = kf := rfl
        rw [e3]
        intro hin
        have nd2 : ((xs.take (i + 1)).map kf).Nodup := nd.sublist ((List.take_sublist _ _).map _)
        rw [take_snoc ex, List.map_append, List.nodup_append] at nd2
        exact nd2.2.2 _ hin _ (by simp) rfl
  · have e : i = xs.length := by omega
    subst e
    rw [List.take_length] at dj ⊢
    refine .inl ⟨by have := wk.st _ B3 b3 dj; rw [List.length_map] at this; exact this, D, _, rfl, jn_m upd_same, trivial, fun od => ?_⟩
    rw [jn_updM, upd_upd, jn_pub hm]
    exact q _ _ (b2.trans (b3.trans (same_new n3))) (dj_b d3 hm) ⟨D, od, rfl, upd_same⟩
end
end Zb
end
section
set_option Elab.async false
set_option linter.all false
set_option maxRecDepth 100000
/-! Zs3: the walk: is_word, is_state, in_order, are_states. -/
namespace Zb
open PySem PySem.Spec PyProof.Rows L2
theorem room_1 {k : Nat} {A : Around} (h : Room k A) : A.units + 1 < cLine := by
  have := h.un
  omega
theorem all_true {α : Type} {xs : List α} : (xs.map fun _ => true).all id = true := by
  rw [List.all_map]
  simp
section
variable {σ : L2.St} {M B : Hp} {ta tb : TE}
theorem ev_is_sign {c : Nat} (h : Ev ta σ M B (rTx [c])) (hc : c ∈ [97, 98, 99, 100, 101]) : Ev (tCall sp_is_sign [] E0 (tCons ta tNil)) σ M B (rBl true) :=
  ev_call (A := fun c : Nat => [rTx [c]]) (R := fun _ : Nat => rBl true) c (ea_cons h ea_nil) hc
theorem ev_is_integer {n : Nat} (h : Ev ta σ M B (rNat n)) (hn : n ≤ 1000000) : Ev (tCall sp_is_integer [] E0 (tCons ta tNil)) σ M B (rBl true) :=
  ev_call (A := fun n : Nat => [rNat n]) (R := fun _ : Nat => rBl true) n (ea_cons h ea_nil) hn
theorem ev_is_word {w : List Nat} (h : Ev ta σ M B (rTx w)) (hl : w.length ≤ 100000) (hc : ∀ c ∈ w, c ∈ [97, 98, 99, 100, 101]) : Ev (tCall sp_is_word [] E0 (tCons ta tNil)) σ M B (rBl true) :=
  ev_call (A := fun w : List Nat => [rTx w]) (R := fun _ : List Nat => rBl true) w (ea_cons h ea_nil) ⟨hl, hc⟩
end
abbrev s_is_state : Stmt := top 34
theorem sc_is_state : FnScope ["value", "many", "moves", "last", "sign", "to"] ["value", "many"] (defScope s_is_state) := ⟨rfl, rfl, rfl, by decide +kernel, rfl, by decide +kernel, by decide +kernel⟩
def sp_is_state : Sp := spF (α := (Row × Bool) × Nat) (fun x => [rPr rRow rBl x.1, rNat x.2]) (fun x => RowOk x.2 x.1.1 ∧ x.2 ≤ 40) (fun _ => rBl true)
abbrev s_in_order : Stmt := top 36
theorem sc_in_order : FnScope ["moves", "sign"] ["moves"] (defScope s_in_order) := ⟨rfl, rfl, rfl, by decide +kernel, rfl, by decide +kernel, by decide +kernel⟩
def sp_in_order : Sp := spF (α := Row) (fun r => [rRow r]) (fun r => ∃ n, RowOk n r) rRow
abbrev s_are_states : Stmt := top 35
theorem sc_are_states : FnScope ["value", "pair", "moves", "last"] ["value"] (defScope s_are_states) := ⟨rfl, rfl, rfl, by decide +kernel, rfl, by decide +kernel, by decide +kernel⟩
def sp_are_states : Sp := spF (α := Mach) (fun m => [rTup (rPr rRow rBl) m]) (fun m => Vm m ∧ m.length ≤ 8) (fun _ => rBl true)
section
variable {σ : L2.St} {M B : Hp} {ta tb : TE}
theorem ev_is_state {x : Row × Bool} {n : Nat} (h1 : Ev ta σ M B (rPr rRow rBl x)) (h2 : Ev tb σ M B (rNat n)) (ho : RowOk n x.1) (hn : n ≤ 40) : Ev (tCall sp_is_state [] E0 (tCons ta (tCons tb tNil))) σ M B (rBl true) :=
  ev_call (A := fun x : (Row × Bool) × Nat => [rPr rRow rBl x.1, rNat x.2]) (R := fun _ : (Row × Bool) × Nat => rBl true) (x, n) (ea_cons h1 (ea_cons h2 ea_nil)) ⟨ho, hn⟩
theorem ev_in_order {r : Row} {n : Nat} (h : Ev ta σ M B (rRow r)) (hr : RowOk n r) : Ev (tCall sp_in_order [] E0 (tCons ta tNil)) σ M B (rRow r) :=
  ev_call (A := fun r : Row => [rRow r]) (R := rRow) r (ea_cons h ea_nil) ⟨n, hr⟩
theorem ev_are_useful {m : Mach} (h1 : Ev ta σ M B (rLst rRow (rows m))) (h2 : Ev tb σ M B (rLst rBl (lasts m))) (vm : Vm m) (h8 : m.length ≤ 8) : Ev (tCall sp_are_useful [] E0 (tCons ta (tCons tb tNil))) σ M B (rBl true) :=
  ev_call (A := fun m : Mach => [rLst rRow (rows m), rLst rBl (lasts m)]) (R := fun _ : Mach => rBl true) m (ea_cons h1 (ea_cons h2 ea_nil)) ⟨vm, h8⟩
theorem ev_are_states {m : Mach} (h1 : Ev ta σ M B (rTup (rPr rRow rBl) m)) (vm : Vm m) (h8 : m.length ≤ 8) : Ev (tCall sp_are_states [] E0 (tCons ta tNil)) σ M B (rBl true) :=
  ev_call (A := fun m : Mach => [rTup (rPr rRow rBl) m]) (R := fun _ : Mach => rBl true) m (ea_cons h1 ea_nil) ⟨vm, h8⟩
end
section
variable {P : Program} {w : World} {K : PySem.W.Frag} {mg : Str → Option Value} {base : Heap}
theorem c_is_word (D : Def K mg "is_word" s_is_word) (T : Bt mg) : Cal P w K mg base 1 "is_word" sp_is_word :=
  cal_of D sc_is_word (fun _ _ _ _ _ _ us hl => match us, hl with | [_], _ => rfl) (spF_len fun _ => rfl) fun f cdv A outer s H vs Q E hr h => by
  obtain ⟨wd, B, M, rfl, d, ⟨hl, hc⟩, al, q⟩ := h
  have sc := sc_is_word
  refine ⟨_, (pss_one (ps_ret (pe_and (pe_callB (kc_isi K rfl) (by rfl) T.isinstance (by decide +kernel) (pa_cons (pv 0) (pa_cons (pe_bltn (v := .ty "str") (by rfl) T.str (by decide +kernel) rfl) pa_nil))) (pe_one (pe_callB (kc_all K rfl rfl) (by rfl) T.all (by decide +kernel) (pa_cons (pe_lc (own := [("sign", 1)]) rfl sc.nd (pi_str (pv 0)) (blkOk_by (by kernel_rfl)) (fun _ _ _ _ _ => (pg_name (i := 1) sc.nd rfl (.inl rfl))) (fun _ _ _ _ _ => pts_nil) (fun _ _ _ _ _ => (pe_cmpR op_in_sign (pv 1) (pe_gv (by rfl) T.SIGNS) (by rfl)))) pa_nil)))))), ?_⟩
  cases al with
  | cons h1 al =>
    cases al
    cases (show _ = _ from h1)
    refine s_ret (U := rBl true) ?_ d q
    refine Ev.to (U := rBl (true && (wd.map fun c => decide (c ∈ [97, 98, 99, 100, 101])).all id)) (ev_andV (ev_isi (b := true) (ev_v (U := rTx wd) rfl rfl) ty_tx (by decide +kernel)) fun _ =>
      ev_all (EvN.lst ((en_lc1 (R := fun c => rTx [c]) (S := fun c => rBl (decide (c ∈ [97, 98, 99, 100, 101]))) (ei_str (ev_v (U := rTx wd) rfl rfl)) hl (fun _ => rfl) fun c _ v M1 B1 _ _ hv => ev_inS (ev_v (U := rTx [c]) rfl hv) ev_c).to fun vs B1 h1 => Al.map (R := rBl) h1))) fun v B2 _ hv => ?_
    rw [show v = _ from hv]
    have : (wd.map fun c => decide (c ∈ [97, 98, 99, 100, 101])).all id = true := by
      rw [List.all_map, List.all_eq_true]
      intro c h
      exact decide_eq_true (hc c h)
    rw [this]
    rfl
theorem c_is_state (D : Def K mg "is_state" s_is_state) (T : Bt mg) (c_is_integer : Cal P w K mg base 1 "is_integer" sp_is_integer) (c_is_sign : Cal P w K mg base 1 "is_sign" sp_is_sign) : Cal P w K mg base 2 "is_state" sp_is_state :=
  cal_of D sc_is_state (fun _ _ _ _ _ _ us hl => match us, hl with | [_, _], _ => rfl) (spF_len fun _ => rfl) fun f cdv A outer s H vs Q E hr h => by
  obtain ⟨⟨⟨r, l⟩, n⟩, B, M, rfl, d, ⟨ro, hn⟩, al, q⟩ := h
  have sc := sc_is_state
  refine ⟨_, (pss_cons (ps_if (PW.pt (pw_or (pt_not (pt_val (pe_callB (kc_isi K rfl) (by rfl) T.isinstance (by decide +kernel) (pa_cons (pv 0) (pa_cons (pe_bltn (v := .ty "tuple") (by rfl) T.tuple (by decide +kernel) rfl) pa_nil))))) (pw_or1 (pt_cmpR op_ne (pe_callB (kc_len K rfl) (by rfl) T.len (by decide +kernel) (pa_cons (pv 0) pa_nil)) pe_int (nomark _))))) (pss_one (ps_ret pe_bl)) pss_nil)
      (pss_cons (ps_asg (pv 0) (kpg_tup (n := 2) K rfl rfl (pgs_cons (pg_name (i := 2) sc.nd rfl (.inl rfl)) (pgs_cons (pg_name (i := 3) sc.nd rfl (.inl rfl)) pgs_nil))))
      (pss_cons (ps_if (PW.pt (pw_or (pt_not (pt_val (pe_callB (kc_isi K rfl) (by rfl) T.isinstance (by decide +kernel) (pa_cons (pv 2) (pa_cons (pe_bltn (v := .ty "dict") (by rfl) T.dict (by decide +kernel) rfl) pa_nil))))) (pw_or (pt_not (pt_val (pe_callB (kc_isi K rfl) (by rfl) T.isinstance (by decide +kernel) (pa_cons (pv 3) (pa_cons (pe_bltn (v := .ty "bool") (by rfl) T.bool (by decide +kernel) rfl) pa_nil))))) (pw_or1 (pt_not (pt_val (pe_callB (kc_all K rfl rfl) (by rfl) T.all (by decide +kernel) (pa_cons (pe_lc (own := [("sign", 4)]) rfl sc.nd (pi_keys (pv 2)) (blkOk_by (by kernel_rfl)) (fun _ _ _ _ _ => (pg_name (i := 4) sc.nd rfl (.inl rfl))) (fun _ _ _ _ _ => pts_nil) (fun _ _ _ _ _ => (pe_cal c_is_sign hr (by decide) (by rfl) (pa_cons (pv 4) pa_nil)))) pa_nil)))))))) (pss_one (ps_ret pe_bl)) pss_nil)
      (pss_one (ps_ret (pe_callB (kc_all K rfl rfl) (by rfl) T.all (by decide +kernel) (pa_cons (pe_lc (own := [("to", 5)]) rfl sc.nd (pi_values (pv 2)) (blkOk_by (by kernel_rfl)) (fun _ _ _ _ _ => (pg_name (i := 5) sc.nd rfl (.inl rfl))) (fun _ _ _ _ _ => pts_nil) (fun _ _ _ _ _ => (pe_and (pe_cal c_is_integer hr (by decide) (by rfl) (pa_cons (pv 5) pa_nil)) (pe_one (pe_chain op_le op_lt pe_int (pv 5) (pv 1)))))) pa_nil))))))), ?_⟩
  cases al with
  | cons h1 al => cases al with
  | cons h2 al =>
    cases al
    cases (show _ = _ from h2)
    have hl5 : r.length ≤ 5 := ro.len
    refine q_no (EvT.to (et_or (et_not (et_test (ev_isi (b := true) (ev_v (U := rPr rRow rBl (r, l)) rfl h1) ty_pr (by decide +kernel)))) fun _ => et_test (ev_ne (ev_lenP (ev_v (U := rPr rRow rBl (r, l)) rfl h1)) (ev_c (x := .int 2)) rfl)) (by decide)) d fun B1 b1 d1 => ?_
    refine q_asg2 (R := rRow) (S := rBl) (ev_v (U := rPr rRow rBl (r, l)) rfl ((rPr rRow rBl (r, l)).up b1 h1)) d1 fun rv lv B2 b2 d2 hrv hlv => ?_
    cases (show _ = _ from hlv)
    refine q_no (EvT.to (et_or (et_not (et_test (ev_isi (b := true) (ev_v (U := rRow r) rfl hrv) ty_row (by decide +kernel)))) fun _ => et_or (et_not (et_test (ev_isi (b := true) (ev_v (U := rBl l) rfl rfl) ty_bl (by decide +kernel)))) fun _ => et_not (et_test (ev_all (EvN.lst ((en_lc1 (R := fun q : Nat × Nat => rTx [q.1]) (S := fun _ => rBl true) (ei_keys (ev_v (U := rRow r) rfl hrv)) (by omega) (fun _ => rfl)
      fun p hp v M1 B1 _ _ hv => ev_is_sign (ev_v (U := rTx [p.1]) rfl hv) (ro.sg p hp)).to fun vs B1 h1 => Al.map (R := rBl) h1))))) (by rw [all_true]; decide)) d2 fun B3 b3 d3 => ?_
    refine s_ret (U := rBl true) ?_ d3 fun v B9 b9 d9 h9 => q v B9 (b1.trans (b2.trans (b3.trans b9))) d9 h9
    refine Ev.to (U := rBl ((r.map fun q : Nat × Nat => true).all id)) (ev_all (EvN.lst ((en_lc1 (R := fun q : Nat × Nat => rNat q.2) (S := fun q : Nat × Nat => rBl true) (ei_vals (ev_v (U := rRow r) rfl ((rRow r).up b3 hrv))) (by omega) (fun _ => rfl) fun p hp v M1 B1 _ _ hv => ?_).to fun vs B1 h1 => Al.map (R := rBl) h1))) fun v B4 _ hv => ?_
    · have hto := ro.to p hp
      refine Ev.to (U := rBl (true && (decide ((0 : Int) ≤ (p.2 : Int)) && decide ((p.2 : Int) < (n : Int))))) (ev_andV (ev_is_integer (ev_v (U := rNat p.2) rfl hv) (by omega)) fun _ => ev_chI (g := fun i j => decide (i ≤ j)) (g' := fun i j => decide (i < j)) (ev_c (x := .int 0)) (ev_v (U := rNat p.2) rfl hv) (ev_v (U := rNat n) rfl rfl)) fun v B2 _ hv => ?_
      rw [show v = _ from hv, decide_eq_true (by omega : (0 : Int) ≤ (p.2 : Int)), decide_eq_true (by omega : (p.2 : Int) < (n : Int))]
      rfl
    · rw [show v = _ from hv, all_true]
      rfl
theorem c_in_order (D : Def K mg "in_order" s_in_order) (T : Bt mg) : Cal P w K mg base 1 "in_order" sp_in_order :=
  cal_of D sc_in_order (fun _ _ _ _ _ _ us hl => match us, hl with | [_], _ => rfl) (spF_len fun _ => rfl) fun f cdv A outer s H vs Q E hr h => by
  obtain ⟨r, B, M, rfl, d, ⟨n, ro⟩, al, q⟩ := h
  have sc := sc_in_order
  have hu := room_1 hr
  refine ⟨_, (pss_one (ps_ret (pe_frzV (pe_dc (own := [("sign", 1)]) rfl sc.nd (kpi_list K rfl (pe_callB (call_sortedD rfl) (by rfl) T.sorted (by decide +kernel) (pa_cons (pv 0) pa_nil))) (blkOk_by (by kernel_rfl)) (fun _ _ _ _ _ => (pg_name (i := 1) sc.nd rfl (.inl rfl))) (fun _ _ _ _ _ => pts_nil) (fun _ _ _ _ _ => (pv 1)) (fun _ _ _ _ _ => (pe_dget hu (pv 0) (pv 1) (fun _ _ => rfl))))))), ?_⟩
  cases al with
  | cons h1 al =>
    cases al
    have hl5 := ro.len
    refine s_ret (U := rRow r) ?_ d q
    have e : (r.map fun q : Nat × Nat => (q.1, q.2)) = r := List.map_id' r
    rw [← e]
    refine ev_dc (R := fun q : Nat × Nat => rTx [q.1]) (kf := fun q => q.1) (vf := fun q => q.2) (ei_list (EvN.lst (R := fun q : Nat × Nat => rTx [q.1]) (en_sortRow (ev_v (U := rRow r) rfl h1) ro.asc (by omega)))) (by omega) (fun _ => rfl) (fun p _ v M1 B1 _ _ hv => ev_v (U := rTx [p.1]) rfl hv) (fun p hp v M1 B1 _ b1 hv => ?_) (ro.asc.imp fun h => Nat.ne_of_lt h)
    exact ev_rget (ev_v (U := rRow r) rfl ((rRow r).up b1 h1)) (ev_v (U := rTx [p.1]) rfl hv) (mem_lookup ro.asc hp)
theorem c_are_states (D : Def K mg "are_states" s_are_states) (T : Bt mg) (c_is_state : Cal P w K mg base 2 "is_state" sp_is_state) (c_are_useful : Cal P w K mg base 2 "are_useful" sp_are_useful) : Cal P w K mg base 3 "are_states" sp_are_states :=
  cal_of D sc_are_states (fun _ _ _ _ _ _ us hl => match us, hl with | [_], _ => rfl) (spF_len fun _ => rfl) fun f cdv A outer s H vs Q E hr h => by
  obtain ⟨m, B, M, rfl, d, ⟨vm, h8⟩, al, q⟩ := h
  have sc := sc_are_states
  refine ⟨_, (pss_cons (ps_if (PW.pt (pw_or (pt_not (pt_val (pe_callB (kc_isi K rfl) (by rfl) T.isinstance (by decide +kernel) (pa_cons (pv 0) (pa_cons (pe_bltn (v := .ty "tuple") (by rfl) T.tuple (by decide +kernel) rfl) pa_nil))))) (pw_or1 (pt_not (pt_chain op_le op_le pe_int (pe_callB (kc_len K rfl) (by rfl) T.len (by decide +kernel) (pa_cons (pv 0) pa_nil)) (pe_gv (by rfl) T.MAX_WRITTEN)))))) (pss_one (ps_ret pe_bl)) pss_nil)
      (pss_cons (ps_if (pt_not (pt_val (pe_callB (kc_all K rfl rfl) (by rfl) T.all (by decide +kernel) (pa_cons (pe_lc (own := [("pair", 1)]) rfl sc.nd (kpi_tup K rfl (pv 0)) (blkOk_by (by kernel_rfl)) (fun _ _ _ _ _ => (pg_name (i := 1) sc.nd rfl (.inl rfl))) (fun _ _ _ _ _ => pts_nil) (fun _ _ _ _ _ => (pe_cal c_is_state hr (by decide) (by rfl) (pa_cons (pv 1) (pa_cons (pe_callB (kc_len K rfl) (by rfl) T.len (by decide +kernel) (pa_cons (pv 0) pa_nil)) pa_nil))))) pa_nil)))) (pss_one (ps_ret pe_bl)) pss_nil)
      (pss_one (ps_ret (pe_cal c_are_useful hr (by decide) (by rfl) (pa_cons (pe_lc (own := [("moves", 2), ("last", 3)]) rfl sc.nd (kpi_tup K rfl (pv 0)) (blkOk_by (by kernel_rfl)) (fun _ _ _ _ _ => (kpg_tup (n := 2) K rfl rfl (pgs_cons (pg_name (i := 2) sc.nd rfl (.inl rfl)) (pgs_cons (pg_name (i := 3) sc.nd rfl (.inl rfl)) pgs_nil)))) (fun _ _ _ _ _ => pts_nil) (fun _ _ _ _ _ => (pv 2))) (pa_cons (pe_lc (own := [("moves", 2), ("last", 3)]) rfl sc.nd (kpi_tup K rfl (pv 0)) (blkOk_by (by kernel_rfl)) (fun _ _ _ _ _ => (kpg_tup (n := 2) K rfl rfl (pgs_cons (pg_name (i := 2) sc.nd rfl (.inl rfl)) (pgs_cons (pg_name (i := 3) sc.nd rfl (.inl rfl)) pgs_nil)))) (fun _ _ _ _ _ => pts_nil) (fun _ _ _ _ _ => (pv 3))) pa_nil))))))), ?_⟩
  cases al with
  | cons h1 al =>
    cases al
    have hp := vm.pos
    have hm : ∀ {B9 : Hp}, Same B B9 → (rTup (rPr rRow rBl) m).p _ B9 := fun s9 => (rTup (rPr rRow rBl) m).up s9 h1
    have hl : m.length ≤ 100000 := by omega
    refine q_no (EvT.to (et_or (et_not (et_test (ev_isi (b := true) (ev_v (U := rTup (rPr rRow rBl) m) rfl h1) ty_tup (by decide +kernel)))) fun _ => et_not (et_test (ev_chI (g := fun i j => decide (i ≤ j)) (g' := fun i j => decide (i ≤ j)) (ev_c (x := .int 1)) (ev_lenT (ev_v (U := rTup (rPr rRow rBl) m) rfl h1)) (ev_c (x := .int 8))))) (by
      rw [decide_eq_true (by omega : (1 : Int) ≤ (m.length : Nat)), decide_eq_true (by omega : ((m.length : Nat) : Int) ≤ 8)]
      rfl)) d fun B1 b1 d1 => ?_
    refine q_no (EvT.to (et_not (et_test (ev_all (EvN.lst ((en_lc1 (R := rPr rRow rBl) (S := fun _ => rBl true) (ei_tup (ev_v (U := rTup (rPr rRow rBl) m) rfl (hm b1))) hl (fun _ => rfl) fun x hx v M2 B2 _ b2 hv => ev_is_state (ev_v (U := rPr rRow rBl x) rfl hv) (ev_lenT (ev_v (U := rTup (rPr rRow rBl) m) rfl (hm (b1.trans b2)))) (vm.row x hx) vm.le).to fun vs B1 h1 => Al.map (R := rBl) h1))))) (by rw [all_true]; rfl)) d1 fun B2 b2 d2 => ?_
    refine s_ret (U := rBl true) (ev_are_useful (m := m) (EvN.lst ?_) (EvN.lst ?_) vm h8) d2 fun v B9 b9 d9 h9 => q v B9 (b1.trans (b2.trans b9)) d9 h9
    · exact (en_lc21 (R := rRow) (T := rBl) (S := fun x : Row × Bool => rRow x.1) (ei_tup (ev_v (U := rTup (rPr rRow rBl) m) rfl (hm (b1.trans b2)))) hl (fun _ _ => rfl) fun x _ v z M2 B2 _ _ hv _ => ev_v (U := rRow x.1) rfl hv).to fun vs B1 h1 => Al.map (R := rRow) h1
    · exact (en_lc21 (R := rRow) (T := rBl) (S := fun x : Row × Bool => rBl x.2) (ei_tup (ev_v (U := rTup (rPr rRow rBl) m) rfl (hm (b1.trans b2)))) hl (fun _ _ => rfl) fun x _ v z M2 B2 _ _ _ hz => ev_v (U := rBl x.2) rfl hz).to fun vs B1 h1 => Al.map (R := rBl) h1
end
end Zb
end
section
set_option Elab.async false
set_option linter.all false
set_option maxRecDepth 100000
set_option maxHeartbeats 1000000
/-! Zi: instances of the text's own classes: in, len, [ ], properties, by their own defs. -/
namespace Zb
open PySem PySem.Spec PyProof.Rows L2 SlX

/-- an instance of the class at C -/
def IsI (H : Hp) (a C : Addr) : Prop := (∃ dx fs, H a = some (.ins C dx fs)) ∨ ∃ dx vs, Slt H a C dx vs
section
variable {X : Cx} {pins : List (Addr × Obj)} {σ : L2.St} {H : Hp} {s : Shared} {a C f : Addr} {k : Nat} {sp : Sp}
theorem inst_at (I : Inv X pins σ H s) (h : IsI H a C) : ∃ ox od, PySem.W.InstAt s.heap a ox C (some od) := by
  rcases h with ⟨dx, fs, e⟩ | ⟨dx, vs, e⟩
  · obtain ⟨mA, O, _⟩ := ins_get I.hok e
    obtain ⟨od, J, _⟩ := O.look
    exact ⟨_, od, J⟩
  · obtain ⟨sl, od, _, J, _⟩ := slt_inst I e
    exact ⟨_, od, J⟩
/-- what is at m of a class: a def with a promise -/
structure Own (P : Program) (w : World) (K : PySem.W.Frag) (mg : Str → Option Value) (base : Heap) (k : Nat) (C : Addr) (m : Str) (sp : Sp) : Prop where
  ex : ∃ g, PySem.W.findIn K (.ref C) m = some (some (.ref g)) ∧ PySem.W.isFn K (.ref g) = true ∧ PySem.W.keepIn K (.ref g) = true ∧ FnR P w K mg base CX0 k g sp
/-- x in y, y of a class with its own __contains__ -/
def rInOwn (cs : List Addr) (sp : Sp) (neg : Bool) : R2 := fun x y H Q => ∃ a C, y = .ref a ∧ C ∈ cs ∧ IsI H a C ∧ sp [y, x] H (fun z H' => ∃ b, z = .bl b ∧ Q (.bl (if neg then !b else b)) H') E0
theorem run_own {A : Around} {g : Addr} {Q : VK} {us : List Value} {ws : List V} {E : Value → Shared → Prop} (F : FnR X.prog X.w X.K X.mg X.base CX0 k g sp) (hr : Room k A) (e0 : Env0 X.prog X.w X.K X.mg X.base A X.stack s H) (I : Inv X pins σ H s) (r : Vals ws us) (h : sp ws H Q E0) :
    codeAny (model X.prog X.w) A (.call (.ref g) ⟨us, []⟩) (fun r s' => match r with | .ok (.ret v) => EP X pins σ Q v s' | .ok _ => False | .error e => E e s') s := by
  refine codeAny_mono (F A X.stack s H us ws Q E0 hr e0 r h) fun r s' hq => ?_
  cases r with
  | error e => exact False.elim hq
  | ok fl =>
    cases fl with
    | ret u => exact I.after hq
    | next => exact False.elim hq
    | brk => exact False.elim hq
    | cont => exact False.elim hq
theorem op_inOwn {cs : List Addr} (o : ∀ C ∈ cs, Own X.prog X.w X.K X.mg X.base k C "__contains__" sp) (hr : Room k X.A) : OpR X (compareOp .In) (rInOwn cs sp false) := by
  intro pins s σ H x y v u Q I rx ry h
  obtain ⟨a, C, rfl, hc, hi, q⟩ := h
  cases (show u = Value.ref a from ry)
  obtain ⟨g, h1, h2, h3, F⟩ := (o C hc).ex
  obtain ⟨ox, od, J⟩ := inst_at I hi
  obtain ⟨m, hF⟩ := I.fr
  refine PySem.W.in_K hF I.ok.mod.kin J h1 h2 (wpAny_mono (wpAny_call (run_own (E := X.xe) (us := [.ref a, v]) (ws := [.ref a, x]) F hr I.env0 I (.cons rfl (.cons rx .nil)) q)) (fun z s' hz => ?_) fun _ _ z => z)
  obtain ⟨z', H', I', rz, b, rfl, qz⟩ := hz
  cases (show z = Value.bool b from rz)
  exact wpAny_truthy_bool ⟨.bl b, H', I', rfl, qz⟩
theorem op_notInOwn {cs : List Addr} (o : ∀ C ∈ cs, Own X.prog X.w X.K X.mg X.base k C "__contains__" sp) (hr : Room k X.A) : OpR X (compareOp .NotIn) (rInOwn cs sp true) := by
  intro pins s σ H x y v u Q I rx ry h
  obtain ⟨a, C, rfl, hc, hi, q⟩ := h
  cases (show u = Value.ref a from ry)
  obtain ⟨g, h1, h2, h3, F⟩ := (o C hc).ex
  obtain ⟨ox, od, J⟩ := inst_at I hi
  obtain ⟨m, hF⟩ := I.fr
  refine PySem.W.notIn_K hF I.ok.mod.kin J h1 h2 (wpAny_mono (wpAny_call (run_own (E := X.xe) (us := [.ref a, v]) (ws := [.ref a, x]) F hr I.env0 I (.cons rfl (.cons rx .nil)) q)) (fun z s' hz => ?_) fun _ _ z => z)
  obtain ⟨z', H', I', rz, b, rfl, qz⟩ := hz
  cases (show z = Value.bool b from rz)
  exact wpAny_truthy_bool ⟨.bl (!b), H', I', rfl, qz⟩
/-- len(x), x of a class with its own __len__ -/
def rLenOwn (cs : List Addr) (sp : Sp) : List V → Hp → VK → Prop := fun xs H Q => ∃ a C, xs = [.ref a] ∧ C ∈ cs ∧ IsI H a C ∧ sp xs H (fun z H' => ∃ n : Nat, z = .int (n : Int) ∧ n ≤ 1000000 ∧ Q z H') E0
theorem cr_lenOwn {cs : List Addr} (o : ∀ C ∈ cs, Own X.prog X.w X.K X.mg X.base k C "__len__" sp) (hr : Room (k + 1) X.A) : CallR X (.builtin "len") (rLenOwn cs sp) := by
  intro pins s σ H xs us Q I r h
  obtain ⟨a, C, rfl, hc, hi, q⟩ := h
  obtain ⟨u, rfl, ru⟩ := vals1 r
  cases (show u = Value.ref a from ru)
  obtain ⟨g, h1, h2, h3, F⟩ := (o C hc).ex
  obtain ⟨ox, od, J⟩ := inst_at I hi
  obtain ⟨m, hF⟩ := I.fr
  refine PySem.W.len_K hF I.ok.mod.kin J h1 h2 (wpAny_mono (wpAny_call (run_own (E := X.xe) (us := [.ref a]) (ws := [.ref a]) F hr.in1 I.env0.in1 I (.cons rfl .nil) q)) (fun z s' hz => ?_) fun _ _ z => z)
  obtain ⟨z', H', I', rz, n, rfl, hn, qz⟩ := hz
  obtain ⟨t, rfl⟩ := rz
  exact ⟨⟨by omega, by omega⟩, .int (n : Int), H', I'.tok _, ⟨_, rfl⟩, qz⟩
/-- e.f, a property that each class of cs has -/
structure OwnP (P : Program) (w : World) (K : PySem.W.Frag) (mg : Str → Option Value) (base : Heap) (k : Nat) (C : Addr) (f : Str) (sp : Sp) : Prop where
  ic : PySem.W.isClsIn K C = true
  pg : PySem.W.plainGet K C f = true
  ex : ∃ p g, PropOf K C f p g ∧ FnR P w K mg base CX0 k g sp
def tPropI (cs : List Addr) (sp : Sp) (ta : TE) : TE := fun σ H Q => ta σ H fun x H1 => ∃ a C, x = .ref a ∧ C ∈ cs ∧ IsI H1 a C ∧ sp [.ref a] H1 Q E0
theorem pe_propI {cs : List Addr} {e : Expr} {f : Str} {pos : Pos} {ta : TE} (he : PE X e ta) (o : ∀ C ∈ cs, OwnP X.prog X.w X.K X.mg X.base k C f sp) (hr : Room (k + 1) X.A) (hb : attributeBase e f X.env (eval e X.env) = eval e X.env := by rfl) : PE X (.Attribute e f pos) (tPropI cs sp ta) := by
  refine ⟨fun pins s σ H Q I h => attr_of hb (thn (he.run pins s σ H _ I h) fun u s1 ⟨x, H1, I1, rx, a, C, ex, hc, hi, q⟩ => ?_)⟩
  subst ex
  cases (show u = Value.ref a from rx)
  obtain ⟨ic, pg, p, g, ⟨h1, h2, h3, rest, h4⟩, F⟩ := o C hc
  obtain ⟨ox, od, J⟩ := inst_at I1 hi
  have I2 : Inv X pins σ H1 { s1 with toks := s1.toks + 1 } := I1.tok (s1.toks + 1)
  refine PySem.W.get_bind I1.kIn J (PySem.W.plainGet_of pg).1 (PySem.W.findObj_data ic h1 h2 h3) (PySem.W.plainGet_of pg).2 (wpAny_call (PySem.W.prop_get (s := { s1 with toks := s1.toks + 1 }) I1.kIn h4 ?_))
  refine codeAny_mono (run_own (E := fun _ _ => False) (us := [.ref a]) (ws := [.ref a]) (s := { s1 with toks := s1.toks + 1 }) F hr.in1 I2.env0.in1 I2 (.cons rfl .nil) q) fun r s' hq => ?_
  cases r with
  | error e => exact False.elim hq
  | ok fl =>
    cases fl with
    | ret u =>
      obtain ⟨v, H', I3, rv, q⟩ := hq
      exact wpAny_of_eq (PySem.W.handedOut_of (handed_of rv)) ⟨v, H', I3, rv, q⟩
    | next => exact False.elim hq
    | brk => exact False.elim hq
    | cont => exact False.elim hq
/-- o[i] by an own __getitem__ -/
structure OwnG (P : Program) (w : World) (K : PySem.W.Frag) (mg : Str → Option Value) (base : Heap) (k : Nat) (C : Addr) (sp : Sp) : Prop where
  ex : ∃ g, PySem.W.findIn K (.ref C) "__getitem__" = some (some (.ref g)) ∧ PySem.W.isFn K (.ref g) = true ∧ PySem.W.fnIn K g = true ∧ FnR P w K mg base CX0 k g sp
def rIxOwn (C : Addr) (sp : Sp) : R2 := fun x y H Q => ∃ a, x = .ref a ∧ IsI H a C ∧ sp [x, y] H Q E0
theorem pe_ixOwn {o i : Expr} {pos : Pos} {ta tb : TE} (O : OwnG X.prog X.w X.K X.mg X.base k C sp) (hr : Room (k + 1) X.A) (ha : PE X o ta) (hb : PE X i tb) (hs : ∀ ov iv, subscripted i true ov iv = runValue (.builtin "lifetime.subscript" ⟨[ov, iv], []⟩) := by intro _ _; rfl) :
    PE X (.Subscript o i pos) (tOp (rIxOwn C sp) ta tb) := by
  refine ⟨fun pins s σ H Q I h => Subscript_ (binT ha hb I h fun v u s2 x y H2 I2 rx ry q => ?_)⟩
  obtain ⟨a, ex, hi, q⟩ := q
  subst ex
  cases (show v = Value.ref a from rx)
  obtain ⟨g, h1, h2, h3, F⟩ := O.ex
  obtain ⟨ox, od, J⟩ := inst_at I2 hi
  obtain ⟨m, hF⟩ := I2.fr
  exact PySem.W.sub_K hF I2.ok.mod.kin J h1 h3 h2 (wpAny_call (run_own (E := X.xe) (us := [.ref a, u]) (ws := [.ref a, y]) F hr.in1 I2.env0.in1 I2 (.cons rfl (.cons ry .nil)) q)) (hs _ _)
end
end Zb
end
section
set_option Elab.async false
set_option linter.all false
set_option maxRecDepth 100000
/-! Zc1: the text's classes; forms. -/
namespace Zb
open PySem PySem.Spec PyProof.Rows L2 SlX

/-- where the classes stand, and their slots -/
structure Cs where
  CF : Addr
  CM : Addr
  CQ : Addr
  CR : Addr
  iM : Nat
  iL : Nat
  qM : Nat
  qL : Nat
  qC : Nat
structure FmC (K : PySem.W.Frag) (c : Cs) (C : Addr) : Prop where
  sc : SCls K C
  si : SIsi K C
  mv : ∃ p, Slot1 K C "own_moves" p c.iM
  ls : ∃ p, Slot1 K C "own_lasts" p c.iL
  kit : PySem.W.kitOne K (.ref C) (.ref c.CF) = some true
structure Kc (K : PySem.W.Frag) (c : Cs) : Prop where
  fc : ∀ C ∈ [c.CF, c.CM], FmC K c C
  ne : c.iM ≠ c.iL
  qsc : SCls K c.CQ
  qmv : ∃ p, Slot1 K c.CQ "of_moves" p c.qM
  qls : ∃ p, Slot1 K c.CQ "of_lasts" p c.qL
  qcl : ∃ p, Slot1 K c.CQ "of_classes" p c.qC
  qne : c.qM ≠ c.qL ∧ c.qM ≠ c.qC ∧ c.qL ≠ c.qC
  rc : Cls K c.CR
  rn : ∀ f ∈ (["own_form", "own_reach", "own_parts", "own_rings"] : List Str), NoAttr K c.CR f
/-! ### defs of classes -/
structure MDf (K : PySem.W.Frag) (C : Addr) (m qual : Str) (st : Stmt) : Prop where
  ex : ∃ f fd, FunD K m qual (defArgs st) (defBody st) (defScope st) [] [] f fd ∧ Meth K C m f
structure CalM (P : Program) (w : World) (K : PySem.W.Frag) (mg : Str → Option Value) (base : Heap) (k : Nat) (C : Addr) (m : Str) (sp : Sp) : Prop where
  ex : ∃ f fd ps, FnOk P w K mg base CX0 k f fd ps sp ∧ Meth K C m f ∧ Binds K fd ps []
section
variable {P : Program} {w : World} {K : PySem.W.Frag} {mg : Str → Option Value} {base : Heap}
theorem fnok_of {x qual : Str} {st : Stmt} {N ps : List Str} {k : Nat} {sp : Sp} {f : Addr} {fd : FuncData} (F : FunD K x qual (defArgs st) (defBody st) (defScope st) [] [] f fd) (S : FnScope N ps (defScope st))
    (len : ∀ vs H Q E, sp vs H Q E → vs.length = ps.length)
    (hbody : ∀ (f : Addr) (cdv : Value) (A : Around) (outer : List Env) (s : Shared) (H : Hp) (vs : List V) (Q : VK) (E : XK), Room k (A.deeper (envOfC qual (defScope st) s.heap.objs.size f cdv)) → sp vs H Q E →
      ∃ t, PSs (cxOf CX0 P w K mg base N qual (defScope st) f cdv A outer s H E).nox (defBody st) t ∧ t { nx := fun _ H' => Q .non H', rt := Q } (start N vs) H) : FnOk P w K mg base CX0 (k + 1) f fd ps sp := by
  refine F.ok S len fun cdv A outer s H vs Q E hr h => ?_
  obtain ⟨t, h1, h2⟩ := hbody f cdv A outer s H vs Q E hr h
  exact ⟨t, PSs.nox h1, h2⟩
theorem calm_of {C : Addr} {x qual : Str} {st : Stmt} {N ps : List Str} {k : Nat} {sp : Sp} (D : MDf K C x qual st) (S : FnScope N ps (defScope st))
    (b : ∀ (kV doc pm : Value) (an : Option Addr) (cdv ct : Value) (us : List Value), us.length = ps.length → bindArgs (PySem.W.fnOf x qual (defArgs st) (defBody st) (defScope st) .none kV doc pm an cdv ct) ⟨us, []⟩ = pure (ps.zip us))
    (len : ∀ vs H Q E, sp vs H Q E → vs.length = ps.length)
    (hbody : ∀ (f : Addr) (cdv : Value) (A : Around) (outer : List Env) (s : Shared) (H : Hp) (vs : List V) (Q : VK) (E : XK), Room k (A.deeper (envOfC qual (defScope st) s.heap.objs.size f cdv)) → sp vs H Q E →
      ∃ t, PSs (cxOf CX0 P w K mg base N qual (defScope st) f cdv A outer s H E).nox (defBody st) t ∧ t { nx := fun _ H' => Q .non H', rt := Q } (start N vs) H) : CalM P w K mg base (k + 1) C x sp := by
  obtain ⟨f, fd, F, hm⟩ := D.ex
  exact ⟨f, fd, ps, fnok_of F S len hbody, hm, F.bindsN b⟩
theorem CalM.own {k : Nat} {C : Addr} {m : Str} {sp : Sp} (c : CalM P w K mg base k C m sp) : Own P w K mg base k C m sp := by
  obtain ⟨f, fd, ps, F, hm, b⟩ := c.ex
  refine ⟨f, hm.at_, hm.fn, hm.kp, ?_⟩
  have := F.raw b .nil
  simpa using this
end
/-! ### made instances -/
/-- __init__: the bare instance is taken, what represents R x is left -/
def spI {α : Type} (C : Addr) (A : α → List Up) (ok : α → Prop) (R : α → Up) : Sp := fun vs H Q _ => ∃ (x : α) (B M : Hp) (a dx : Addr) (ws : List V), H = jn B (upd (upd M dx (.own a)) a (.ins C dx [])) ∧ Dj B M ∧ M a = none ∧ M dx = none ∧ B a = none ∧ B dx = none ∧ dx ≠ a ∧ ok x ∧
  vs = .ref a :: ws ∧ Al id (A x) ws B ∧ ∀ B', Same B B' → Dj B' M → (R x).p (.ref a) B' → Q .non (jn B' M)
theorem spI_len {α : Type} {C : Addr} {A : α → List Up} {ok : α → Prop} {R : α → Up} {n : Nat} (h : ∀ x, (A x).length = n) : ∀ vs H Q E, spI C A ok R vs H Q E → vs.length = n + 1 := fun vs H Q E ⟨x, _, _, _, _, ws, _, _, _, _, _, _, _, _, e, al, _⟩ => by rw [e, List.length_cons, ← al.length, h]
section
variable {σ : L2.St} {M B : Hp} {ta te : TA}
theorem ev_make {α : Type} {C : Addr} {A : α → List Up} {ok : α → Prop} {R : α → Up} {E : XK} (x : α) (h : EvA te σ M B (A x)) (o : ok x) : Ev (tMake C (spI C A ok R) [] E te) σ M B (R x) := fun M1 B1 m b d Q q => h M1 B1 m b d _ fun vs B2 b2 d2 al a dx ha hdx hne => by
  obtain ⟨h1, h2⟩ := jn_none ha
  obtain ⟨h3, h4⟩ := jn_none hdx
  refine ⟨x, B2, M1, a, dx, vs, by rw [jn_updM, jn_updM], d2, h1, h3, h2, h4, hne, o, by rw [List.append_nil], al, fun B3 b3 d3 hv => ⟨rfl, q _ B3 (b2.trans b3) d3 hv⟩⟩
end
section
variable {X : Cx} {C : Addr} {k j : Nat} {x : Str} {sp : Sp} {p pos : Pos} {e : Expr} {es : List Expr} {t : TA}
/-- a class that is called -/
structure CalC (P : Program) (w : World) (K : PySem.W.Frag) (mg : Str → Option Value) (base : Heap) (k : Nat) (x : Str) (C : Addr) (sp : Sp) : Prop where
  ex : ∃ f fd ps, Mk K C f ∧ FnOk P w K mg base CX0 k f fd ps sp ∧ mg x = some (.ref C) ∧ Binds K fd ps []
theorem pe_mk (c : CalC X.prog X.w X.K X.mg X.base k x C sp) (hr : Room j X.A) (hk : k + 1 ≤ j) (hg : Gl X x) (ha : PA X (e :: es) t)
    (hdb : (x == ("__debug__" : Str)) = false := by decide) (he : starEach (e :: es) X.env = (false, eval e X.env) :: starEach es X.env := by rfl) (hpl : (backTo pos (starEach es X.env)).any (·.1) = false := by rfl) :
    PE X (.Call (.Name x p) (e :: es) [] pos) (tMake C sp [] E0 t) := by
  obtain ⟨f, fd, ps, M, F, hm, b⟩ := c.ex
  exact pe_make M F (hr.mono hk) hg hm b .nil pass0 ha hdb he hpl
end
/-! ### slots stored -/
/-- a slotted instance in M -/
def SlM (M : Hp) (a C dx : Addr) (vs : List (Option V)) : Prop := (M a = some (.ins C dx []) ∧ vs = []) ∨ (M a = some (SlO a C dx vs) ∧ M dx = some (.xd []))
theorem SlM.slt {M B : Hp} {a C dx : Addr} {vs : List (Option V)} (h : SlM M a C dx vs) : Slt (jn B M) a C dx vs := h.elim (fun ⟨x, y⟩ => .inl ⟨jn_m x, y⟩) fun ⟨x, y⟩ => .inr ⟨jn_m x, jn_m y⟩
section
variable {K : PySem.W.Frag} {σ : L2.St} {M B : Hp} {te : TE} {U : Up} {D : Ends} {tz : TS}
theorem s_sl {i n : Nat} {f : Str} {a C dx : Addr} {vs : List (Option V)} (hσ : σ[i]? = some (some (.ref a))) (hM : SlM M a C dx vs) (sc : SCls K C) (sl : ∃ p, Slot1 K C f p n) (h : Ev te σ M B U) (d : Dj B M)
    (k : ∀ v B', Same B B' → Dj B' M → U.p v B' → D.nx σ (jn B' (upd (upd M dx (.xd [])) a (SlO a C dx (putS n v vs))))) : sSl K (tVar i) te f D σ (jn B M) :=
  h M B (Same.refl _) (Same.refl _) d _ fun v B' b d' hv => ⟨_, hσ, by
    obtain ⟨p, sl⟩ := sl
    refine ⟨a, C, dx, p, vs, n, rfl, hM.slt, sc, sl, ?_⟩
    unfold slH
    rw [jn_updM, jn_updM]
    exact k v B' b d' hv⟩
theorem q_sl {i n : Nat} {f : Str} {a C dx : Addr} {vs : List (Option V)} (hσ : σ[i]? = some (some (.ref a))) (hM : SlM M a C dx vs) (sc : SCls K C) (sl : ∃ p, Slot1 K C f p n) (h : Ev te σ M B U) (d : Dj B M)
    (k : ∀ v B', Same B B' → Dj B' M → U.p v B' → tz D σ (jn B' (upd (upd M dx (.xd [])) a (SlO a C dx (putS n v vs))))) : tSeq (sSl K (tVar i) te f) tz D σ (jn B M) :=
  s_sl (D := { D with nx := tz D }) hσ hM sc sl h d k
end
theorem upd_pair {M : Hp} {a dx : Addr} {o1 o2 u1 u2 : HO} : upd (upd (upd (upd M dx o1) a o2) dx u1) a u2 = upd (upd M dx u1) a u2 := by
  funext b
  unfold upd
  by_cases h1 : b = a
  · rw [if_pos h1, if_pos h1]
  · rw [if_neg h1, if_neg h1]
    by_cases h2 : b = dx
    · rw [if_pos h2, if_neg h1, if_pos h2]
    · rw [if_neg h2, if_neg h2, if_neg h1, if_neg h2]
theorem jn_pub2 {B M : Hp} {a dx : Addr} {o1 o2 : HO} (h1 : M a = none) (h2 : M dx = none) (hne : dx ≠ a) : jn B (upd (upd M dx o1) a o2) = jn (upd (upd B dx o1) a o2) M := by
  rw [jn_pub (M := upd M dx o1) (by rw [upd_ne (fun e => hne e.symm)]; exact h1), ← jn_updB (M := upd M dx o1) (by rw [upd_ne (fun e => hne e.symm)]; exact h1), jn_pub h2, jn_updB h1]
/-! ### forms -/
/-- an instance of the form class at C -/
def rFm (c : Cs) (C : Addr) (m : Mach) : Up := ⟨fun v B => ∃ a dx vs l1 l2, v = .ref a ∧ B a = some (SlO a C dx vs) ∧ B dx = some (.xd []) ∧ vs[c.iM]? = some (some l1) ∧ vs[c.iL]? = some (some l2) ∧ (rLst rRow (rows m)).p l1 B ∧ (rLst rBl (lasts m)).p l2 B,
  fun s ⟨a, dx, vs, l1, l2, e, h1, h2, h3, h4, h5, h6⟩ => ⟨a, dx, vs, l1, l2, e, s _ _ h1, s _ _ h2, h3, h4, (rLst rRow (rows m)).up s h5, (rLst rBl (lasts m)).up s h6⟩⟩
/-- of either -/
def rForm (c : Cs) (m : Mach) : Up := ⟨fun v B => ∃ C, C ∈ [c.CF, c.CM] ∧ (rFm c C m).p v B, fun s ⟨C, h, k⟩ => ⟨C, h, (rFm c C m).up s k⟩⟩
section
variable {K : PySem.W.Frag} {c : Cs} {σ : L2.St} {M B : Hp} {ta : TE} {m : Mach}
theorem ev_form {C : Addr} (hC : C ∈ [c.CF, c.CM]) (h : Ev ta σ M B (rFm c C m)) : Ev ta σ M B (rForm c m) := h.to fun v B2 _ hv => ⟨C, hC, hv⟩
theorem isI_form {v : V} {M1 B1 : Hp} (d : Dj B1 M1) (h : (rForm c m).p v B1) : ∃ a C, v = .ref a ∧ C ∈ [c.CF, c.CM] ∧ IsI (jn B1 M1) a C := by
  obtain ⟨C, hC, a, dx, vs, l1, l2, e, h1, h2, _⟩ := h
  exact ⟨a, C, e, hC, .inr ⟨dx, vs, .inr ⟨jn_b d h1, jn_b d h2⟩⟩⟩
theorem ev_moves (k : Kc K c) (h : Ev ta σ M B (rForm c m)) : Ev (tSl K ta "own_moves") σ M B (rLst rRow (rows m)) := fun M1 B1 mm b d Q q => h M1 B1 mm b d _ fun v B2 b2 d2 ⟨C, hC, a, dx, vs, l1, l2, e, h1, h2, h3, h4, h5, h6⟩ => by
  obtain ⟨p, sl⟩ := (k.fc C hC).mv
  exact ⟨a, C, dx, p, vs, c.iM, l1, e, .inr ⟨jn_b d2 h1, jn_b d2 h2⟩, (k.fc C hC).sc, sl, h3, q l1 B2 b2 d2 h5⟩
theorem ev_lasts (k : Kc K c) (h : Ev ta σ M B (rForm c m)) : Ev (tSl K ta "own_lasts") σ M B (rLst rBl (lasts m)) := fun M1 B1 mm b d Q q => h M1 B1 mm b d _ fun v B2 b2 d2 ⟨C, hC, a, dx, vs, l1, l2, e, h1, h2, h3, h4, h5, h6⟩ => by
  obtain ⟨p, sl⟩ := (k.fc C hC).ls
  exact ⟨a, C, dx, p, vs, c.iL, l2, e, .inr ⟨jn_b d2 h1, jn_b d2 h2⟩, (k.fc C hC).sc, sl, h4, q l2 B2 b2 d2 h6⟩
/-- isinstance(x, Form) -/
theorem ev_isForm {tb : TE} (k : Kc K c) (h : Ev ta σ M B (rForm c m)) (hb : Ev tb σ M B (isV (.ref c.CF))) : Ev (tCB (rIsiSl K (.ref c.CF)) (tCons ta (tCons tb tNil))) σ M B (rBl true) :=
  ev_cb2 h hb fun x y M1 B1 _ _ d ⟨C, hC, a, dx, vs, l1, l2, e, h1, h2, _⟩ hy Q q => ⟨a, C, dx, vs, .ref c.CF, true, by rw [e, show y = _ from hy], rfl, fun w r => r, .inr ⟨jn_b d h1, jn_b d h2⟩, (k.fc C hC).sc, (k.fc C hC).si, (k.fc C hC).kit, q⟩
end
theorem fm_made {c : Cs} (hne : c.iM ≠ c.iL) {C a dx : Addr} {m : Mach} {l1 l2 : V} {B : Hp} (h1 : (rLst rRow (rows m)).p l1 B) (h2 : (rLst rBl (lasts m)).p l2 B) (ha : B a = none) (hdx : B dx = none) (hd : dx ≠ a) :
    (rFm c C m).p (.ref a) (upd (upd B dx (.xd [])) a (SlO a C dx (putS c.iL l2 (putS c.iM l1 [])))) := by
  have s : Same B (upd (upd B dx (.xd [])) a (SlO a C dx (putS c.iL l2 (putS c.iM l1 [])))) := (same_new hdx).trans (same_new (by rw [upd_ne (fun e => hd e.symm)]; exact ha))
  exact ⟨a, dx, _, l1, l2, rfl, upd_same, by rw [upd_ne hd, upd_same], (putS_ne hne).mpr (putS_get _ _ _), putS_get _ _ _, (rLst rRow (rows m)).up s h1, (rLst rBl (lasts m)).up s h2⟩
end Zb
end
section
set_option Elab.async false
set_option linter.all false
set_option maxRecDepth 100000
/-! Zs4: the walk: forms made, their length; require_form, require_six. -/
namespace Zb
open PySem PySem.Spec PyProof.Rows L2 SlX
abbrev s_Form___init__ : Stmt := inClass (top 37) 1
theorem sc_Form___init__ : FnScope ["self", "states", "moves", "last"] ["self", "states"] (defScope s_Form___init__) := ⟨rfl, rfl, rfl, by decide +kernel, rfl, by decide +kernel, by decide +kernel⟩
def sp_Form (c : Cs) : Sp := spI (α := Mach) c.CF (fun m => [rTup (rPr rRow rBl) m]) (fun m => Vm m ∧ m.length ≤ 8) (rFm c c.CF)
abbrev s_MadeForm___init__ : Stmt := inClass (top 38) 0
theorem sc_MadeForm___init__ : FnScope ["self", "moves", "lasts"] ["self", "moves", "lasts"] (defScope s_MadeForm___init__) := ⟨rfl, rfl, rfl, by decide +kernel, rfl, by decide +kernel, by decide +kernel⟩
def sp_MadeForm (c : Cs) : Sp := spI (α := Mach) c.CM (fun m => [rLst rRow (rows m), rLst rBl (lasts m)]) (fun _ => True) (rFm c c.CM)
abbrev s_Form___len__ : Stmt := inClass (top 37) 24
theorem sc_Form___len__ : FnScope ["self"] ["self"] (defScope s_Form___len__) := ⟨rfl, rfl, rfl, by decide +kernel, rfl, by decide +kernel, by decide +kernel⟩
def sp_Form_len (c : Cs) : Sp := spF (α := Mach) (fun m => [rForm c m]) (fun m => m.length ≤ 1000) (fun m => rNat m.length)
abbrev s_require_form : Stmt := top 39
theorem sc_require_form : FnScope ["value"] ["value"] (defScope s_require_form) := ⟨rfl, rfl, rfl, by decide +kernel, rfl, by decide +kernel, by decide +kernel⟩
def sp_require_form (c : Cs) : Sp := spF (α := Mach) (fun m => [rForm c m]) (fun _ => True) (fun _ => rNon)
abbrev s_require_six : Stmt := top 51
theorem sc_require_six : FnScope ["source", "target"] ["source", "target"] (defScope s_require_six) := ⟨rfl, rfl, rfl, by decide +kernel, rfl, by decide +kernel, by decide +kernel⟩
def sp_require_six (c : Cs) : Sp := spF (α := Mach × Mach) (fun x => [rForm c x.1, rForm c x.2]) (fun x => x.1.length ≤ 6 ∧ x.2.length ≤ 6) (fun _ => rNon)
section
variable {c : Cs} {σ : L2.St} {M B : Hp} {ta tb : TE}
theorem ev_Form {m : Mach} (h : Ev ta σ M B (rTup (rPr rRow rBl) m)) (vm : Vm m) (h8 : m.length ≤ 8) : Ev (tMake c.CF (sp_Form c) [] E0 (tCons ta tNil)) σ M B (rFm c c.CF m) :=
  ev_make (A := fun m : Mach => [rTup (rPr rRow rBl) m]) (R := rFm c c.CF) m (ea_cons h ea_nil) ⟨vm, h8⟩
theorem ev_MadeForm {m : Mach} (h1 : Ev ta σ M B (rLst rRow (rows m))) (h2 : Ev tb σ M B (rLst rBl (lasts m))) : Ev (tMake c.CM (sp_MadeForm c) [] E0 (tCons ta (tCons tb tNil))) σ M B (rFm c c.CM m) :=
  ev_make (A := fun m : Mach => [rLst rRow (rows m), rLst rBl (lasts m)]) (R := rFm c c.CM) m (ea_cons h1 (ea_cons h2 ea_nil)) trivial
theorem ev_lenForm {m : Mach} (h : Ev ta σ M B (rForm c m)) (hl : m.length ≤ 1000) : Ev (tCB (rLenOwn [c.CF, c.CM] (sp_Form_len c)) (tCons ta tNil)) σ M B (rNat m.length) := fun M1 B1 mm b d Q q => h M1 B1 mm b d _ fun v B2 b2 d2 hv => by
  obtain ⟨a, C, e, hC, hi⟩ := isI_form d2 hv
  refine ⟨a, C, by rw [e], hC, hi, m, B2, M1, rfl, d2, hl, .cons hv .nil, fun z B3 b3 d3 hz => ⟨m.length, hz, by omega, q z B3 (b2.trans b3) d3 hz⟩⟩
theorem ev_require_form {m : Mach} (h : Ev ta σ M B (rForm c m)) : Ev (tCall (sp_require_form c) [] E0 (tCons ta tNil)) σ M B rNon :=
  ev_call (A := fun m : Mach => [rForm c m]) (R := fun _ : Mach => rNon) m (ea_cons h ea_nil) trivial
theorem ev_require_six {m n : Mach} (h1 : Ev ta σ M B (rForm c m)) (h2 : Ev tb σ M B (rForm c n)) (l1 : m.length ≤ 6) (l2 : n.length ≤ 6) : Ev (tCall (sp_require_six c) [] E0 (tCons ta (tCons tb tNil))) σ M B rNon :=
  ev_call (A := fun x : Mach × Mach => [rForm c x.1, rForm c x.2]) (R := fun _ : Mach × Mach => rNon) (m, n) (ea_cons h1 (ea_cons h2 ea_nil)) ⟨l1, l2⟩
end
section
variable {P : Program} {w : World} {K : PySem.W.Frag} {mg : Str → Option Value} {base : Heap} {c : Cs}
theorem c_Form_init (D : MDf K c.CF "__init__" "Form.__init__" s_Form___init__) (Kk : Kc K c) (c_are_states : Cal P w K mg base 3 "are_states" sp_are_states) (c_in_order : Cal P w K mg base 1 "in_order" sp_in_order) : CalM P w K mg base 4 c.CF "__init__" (sp_Form c) :=
  calm_of D sc_Form___init__ (fun _ _ _ _ _ _ us hl => match us, hl with | [_, _], _ => rfl) (spI_len fun _ => rfl) fun f cdv A outer s H vs Q E hr h => by
  obtain ⟨m, B, M, a, dx, ws, rfl, d, hMa, hMd, hBa, hBd, hne, ⟨vm, h8⟩, rfl, al, q⟩ := h
  have sc := sc_Form___init__
  refine ⟨_, (pss_cons (ps_if (pt_not (pt_val (pe_cal c_are_states hr (by decide) (by rfl) (pa_cons (pv 1) pa_nil)))) (pss_one ps_never) pss_nil)
      (pss_cons (ps_sl (pv 0) (pe_lc (own := [("moves", 2), ("last", 3)]) rfl sc.nd (kpi_tup K rfl (pv 1)) (blkOk_by (by kernel_rfl)) (fun _ _ _ _ _ => (kpg_tup (n := 2) K rfl rfl (pgs_cons (pg_name (i := 2) sc.nd rfl (.inl rfl)) (pgs_cons (pg_name (i := 3) sc.nd rfl (.inl rfl)) pgs_nil)))) (fun _ _ _ _ _ => pts_nil) (fun _ _ _ _ _ => (pe_cal c_in_order hr (by decide) (by rfl) (pa_cons (pv 2) pa_nil)))))
      (pss_one (ps_sl (pv 0) (pe_lc (own := [("moves", 2), ("last", 3)]) rfl sc.nd (kpi_tup K rfl (pv 1)) (blkOk_by (by kernel_rfl)) (fun _ _ _ _ _ => (kpg_tup (n := 2) K rfl rfl (pgs_cons (pg_name (i := 2) sc.nd rfl (.inl rfl)) (pgs_cons (pg_name (i := 3) sc.nd rfl (.inl rfl)) pgs_nil)))) (fun _ _ _ _ _ => pts_nil) (fun _ _ _ _ _ => (pv 3))))))), ?_⟩
  cases al with
  | cons h1 al =>
    cases al
    have hl : m.length ≤ 100000 := by omega
    have fc := Kk.fc c.CF List.mem_cons_self
    have d0 : Dj B (upd (upd M dx (.own a)) a (.ins c.CF dx [])) := dj_m (dj_m d hBd) hBa
    have hm : ∀ {B9 : Hp}, Same B B9 → (rTup (rPr rRow rBl) m).p _ B9 := fun s9 => (rTup (rPr rRow rBl) m).up s9 h1
    refine q_no (EvT.to (et_not (et_test (ev_are_states (ev_v (U := rTup (rPr rRow rBl) m) rfl h1) vm h8))) rfl) d0 fun B1 b1 d1 => ?_
    refine q_sl (i := 0) (a := a) (C := c.CF) (dx := dx) (vs := []) rfl (.inl ⟨upd_same, rfl⟩) fc.sc fc.mv (U := rLst rRow (rows m)) (EvN.lst ?_) d1 fun l1 B2 b2 d2 hl1 => ?_
    · exact (en_lc21 (R := rRow) (T := rBl) (S := fun x : Row × Bool => rRow x.1) (ei_tup (ev_v (U := rTup (rPr rRow rBl) m) rfl (hm b1))) hl (fun _ _ => rfl) fun x hx v z M2 B2 _ _ hv _ => ev_in_order (ev_v (U := rRow x.1) rfl hv) (vm.row x hx)).to fun vs B1 h1 => Al.map (R := rRow) h1
    · rw [upd_pair]
      have hB2a : B2 a = none := dj_none d2 upd_same
      have hB2d : B2 dx = none := dj_none d2 (by rw [upd_ne hne]; exact upd_same)
      have d3 : Dj B2 M := fun b o e => by
        have z := d2 b o e
        exact (upd_none (upd_none z).1).1
      have d4 : Dj B2 (upd (upd M dx (.xd [])) a (SlO a c.CF dx (putS c.iM l1 []))) := dj_m (dj_m d3 hB2d) hB2a
      refine s_sl (i := 0) (a := a) (C := c.CF) (dx := dx) (vs := putS c.iM l1 []) rfl (.inr ⟨upd_same, by rw [upd_ne hne]; exact upd_same⟩) fc.sc fc.ls (U := rLst rBl (lasts m)) (EvN.lst ?_) d4 fun l2 B3 b3 d5 hl2 => ?_
      · exact (en_lc21 (R := rRow) (T := rBl) (S := fun x : Row × Bool => rBl x.2) (ei_tup (ev_v (U := rTup (rPr rRow rBl) m) rfl (hm (b1.trans b2)))) hl (fun _ _ => rfl) fun x hx v z M2 B2 _ _ _ hz => ev_v (U := rBl x.2) rfl hz).to fun vs B1 h1 => Al.map (R := rBl) h1
      · rw [upd_pair, jn_pub2 hMa hMd hne]
        have hB3a : B3 a = none := dj_none d5 upd_same
        have hB3d : B3 dx = none := dj_none d5 (by rw [upd_ne hne]; exact upd_same)
        have d6 : Dj B3 M := fun b o e => (upd_none (upd_none (d5 b o e)).1).1
        refine q _ ((b1.trans (b2.trans b3)).trans ((same_new hB3d).trans (same_new (by rw [upd_ne (fun e => hne e.symm)]; exact hB3a)))) (dj_b (dj_b d6 hMd) hMa) ?_
        exact fm_made Kk.ne ((rLst rRow (rows m)).up b3 hl1) hl2 hB3a hB3d hne
theorem c_MadeForm_init (D : MDf K c.CM "__init__" "MadeForm.__init__" s_MadeForm___init__) (Kk : Kc K c) : CalM P w K mg base 1 c.CM "__init__" (sp_MadeForm c) :=
  calm_of D sc_MadeForm___init__ (fun _ _ _ _ _ _ us hl => match us, hl with | [_, _, _], _ => rfl) (spI_len fun _ => rfl) fun f cdv A outer s H vs Q E hr h => by
  obtain ⟨m, B, M, a, dx, ws, rfl, d, hMa, hMd, hBa, hBd, hne, _, rfl, al, q⟩ := h
  have sc := sc_MadeForm___init__
  refine ⟨_, (pss_cons (ps_sl (pv 0) (pv 1))
      (pss_one (ps_sl (pv 0) (pv 2)))), ?_⟩
  cases al with
  | cons h1 al => cases al with
  | cons h2 al =>
    cases al
    have fc := Kk.fc c.CM (List.mem_cons_of_mem _ List.mem_cons_self)
    have d0 : Dj B (upd (upd M dx (.own a)) a (.ins c.CM dx [])) := dj_m (dj_m d hBd) hBa
    refine q_sl (i := 0) (a := a) (C := c.CM) (dx := dx) (vs := []) rfl (.inl ⟨upd_same, rfl⟩) fc.sc fc.mv (U := rLst rRow (rows m)) (ev_v rfl h1) d0 fun l1 B2 b2 d2 hl1 => ?_
    rw [upd_pair]
    have hB2a : B2 a = none := dj_none d2 upd_same
    have hB2d : B2 dx = none := dj_none d2 (by rw [upd_ne hne]; exact upd_same)
    have d3 : Dj B2 M := fun b o e => (upd_none (upd_none (d2 b o e)).1).1
    have d4 : Dj B2 (upd (upd M dx (.xd [])) a (SlO a c.CM dx (putS c.iM l1 []))) := dj_m (dj_m d3 hB2d) hB2a
    refine s_sl (i := 0) (a := a) (C := c.CM) (dx := dx) (vs := putS c.iM l1 []) rfl (.inr ⟨upd_same, by rw [upd_ne hne]; exact upd_same⟩) fc.sc fc.ls (U := rLst rBl (lasts m)) (ev_v rfl ((rLst rBl (lasts m)).up b2 h2)) d4 fun l2 B3 b3 d5 hl2 => ?_
    rw [upd_pair, jn_pub2 hMa hMd hne]
    have hB3a : B3 a = none := dj_none d5 upd_same
    have hB3d : B3 dx = none := dj_none d5 (by rw [upd_ne hne]; exact upd_same)
    have d6 : Dj B3 M := fun b o e => (upd_none (upd_none (d5 b o e)).1).1
    exact q _ ((b2.trans b3).trans ((same_new hB3d).trans (same_new (by rw [upd_ne (fun e => hne e.symm)]; exact hB3a)))) (dj_b (dj_b d6 hMd) hMa) (fm_made Kk.ne ((rLst rRow (rows m)).up b3 hl1) hl2 hB3a hB3d hne)
theorem c_Form_len {C : Addr} (D : MDf K C "__len__" "Form.__len__" s_Form___len__) (Kk : Kc K c) (T : Bt mg) : CalM P w K mg base 1 C "__len__" (sp_Form_len c) :=
  calm_of D sc_Form___len__ (fun _ _ _ _ _ _ us hl => match us, hl with | [_], _ => rfl) (spF_len fun _ => rfl) fun f cdv A outer s H vs Q E hr h => by
  obtain ⟨m, B, M, rfl, d, hl, al, q⟩ := h
  have sc := sc_Form___len__
  refine ⟨_, (pss_one (ps_ret (pe_callB (kc_len K rfl) (by rfl) T.len (by decide +kernel) (pa_cons (kpe_sl K rfl (pv 0)) pa_nil)))), ?_⟩
  cases al with
  | cons h1 al =>
    cases al
    refine s_ret (U := rNat m.length) ?_ d q
    have e : (rows m).length = m.length := List.length_map ..
    rw [← e]
    exact ev_lenL (ev_moves Kk (ev_v (U := rForm c m) rfl h1))
theorem c_require_form (D : Def K mg "require_form" s_require_form) (Kk : Kc K c) (T : Bt mg) (gF : Gv mg "Form" (.ref c.CF)) : Cal P w K mg base 1 "require_form" (sp_require_form c) :=
  cal_of D sc_require_form (fun _ _ _ _ _ _ us hl => match us, hl with | [_], _ => rfl) (spF_len fun _ => rfl) fun f cdv A outer s H vs Q E hr h => by
  obtain ⟨m, B, M, rfl, d, _, al, q⟩ := h
  have sc := sc_require_form
  refine ⟨_, (pss_one (ps_if (pt_not (pt_val (pe_callB (call_isiSl (.ref c.CF)) (by rfl) T.isinstance (by decide +kernel) (pa_cons (pv 0) (pa_cons (pe_gv (by rfl) gF) pa_nil))))) (pss_one ps_never) pss_nil)), ?_⟩
  cases al with
  | cons h1 al =>
    cases al
    refine s_no (EvT.to (et_not (et_test (ev_isForm Kk (ev_v (U := rForm c m) rfl h1) ev_c))) rfl) d fun B1 b1 d1 => ?_
    exact q .non B1 b1 d1 rfl
theorem c_require_six (D : Def K mg "require_six" s_require_six) (Kk : Kc K c) (T : Bt mg) (oL : ∀ C ∈ [c.CF, c.CM], Own P w K mg base 1 C "__len__" (sp_Form_len c)) : Cal P w K mg base 3 "require_six" (sp_require_six c) :=
  cal_of D sc_require_six (fun _ _ _ _ _ _ us hl => match us, hl with | [_, _], _ => rfl) (spF_len fun _ => rfl) fun f cdv A outer s H vs Q E hr h => by
  obtain ⟨⟨m, n⟩, B, M, rfl, d, ⟨l1, l2⟩, al, q⟩ := h
  have sc := sc_require_six
  refine ⟨_, (pss_one (ps_if (PW.pt (pw_or (pt_cmpR op_gt (pe_callB (cr_lenOwn oL (hr.mono (by decide))) (by rfl) T.len (by decide +kernel) (pa_cons (pv 0) pa_nil)) (pe_gv (by rfl) T.MAX_PAIR) (nomark _)) (pw_or1 (pt_cmpR op_gt (pe_callB (cr_lenOwn oL (hr.mono (by decide))) (by rfl) T.len (by decide +kernel) (pa_cons (pv 1) pa_nil)) (pe_gv (by rfl) T.MAX_PAIR) (nomark _))))) (pss_one ps_never) pss_nil)), ?_⟩
  cases al with
  | cons h1 al => cases al with
  | cons h2 al =>
    cases al
    have l1' : m.length ≤ 6 := l1
    have l2' : n.length ≤ 6 := l2
    refine s_no (EvT.to (et_or (et_test (ev_I0 (g := fun i j => .bl (decide (i > j))) (ev_lenForm (ev_v (U := rForm c m) rfl h1) (by omega)) (ev_c (x := .int 6)))) fun _ => et_test (ev_I0 (g := fun i j => .bl (decide (i > j))) (ev_lenForm (ev_v (U := rForm c n) rfl h2) (by omega)) (ev_c (x := .int 6)))) ?_) d fun B1 b1 d1 => ?_
    rotate_left
    · exact q .non B1 b1 d1 rfl
    rw [decide_eq_false (by omega : ¬ ((m.length : Nat) : Int) > 6), decide_eq_false (by omega : ¬ ((n.length : Nat) : Int) > 6)]
    rfl
end
end Zb
end
section
set_option Elab.async false
set_option linter.all false
set_option maxRecDepth 100000
set_option maxHeartbeats 1000000
/-! Zt1: sets of texts: adding (the way of the layer's sets of ints, the keys texts). -/
namespace Zb
open PySem PySem.Spec PyProof.Rows L2
theorem st_is {P : Program} {w : World} (k : Str) (tk : Tok) : (PySem.strKind P w).is k (.str k tk) = true := by
  show Value.isStrOf k (.str k tk) = true
  simp [Value.isStrOf]
def txOf (e : Int × Value) : Str := match e.2 with
  | .str x _ => x
  | _ => ⟨#[]⟩
def TxE (w : World) (e : Int × Value) : Prop := ∃ k tk, e.2 = Value.str k tk ∧ e.1 = hashStr w k
/-- the set of texts at ad -/
def TSet (w : World) (hh : Heap) (ad : Addr) (SS : Str → Bool) (n : Nat) : Prop :=
  ∃ ob ee pp tt, hh.get? ad = some ob ∧ ob.ExactSet ∧ ob.data = .set ee pp tt ∧ (∀ e ∈ ee.toList, TxE w e) ∧ (ee.toList.map txOf).Nodup ∧ (∀ k, SS k = true ↔ k ∈ ee.toList.map txOf) ∧
    ee.size < scanBound ∧ tt.fits ee.size = true ∧ ee.size = n ∧ Ris tt.place.toList ∧ (w.params.followText "set-order" = true ∨ tt.led = true)

section
variable {P : Program} {w : World} {hh hh' : Heap} {ad : Addr} {SS : Str → Bool} {n : Nat}

theorem TSet.at (RR : TSet w hh ad SS n) (k : ∀ ob, hh.get? ad = some ob → hh'.get? ad = some ob) : TSet w hh' ad SS n := by
  obtain ⟨ob, ee, pp, tt, u0, r⟩ := RR
  exact ⟨ob, ee, pp, tt, k ob u0, r⟩
theorem TSet.lt (RR : TSet w hh ad SS n) : ad < hh.objs.size := by
  obtain ⟨ob, ee, pp, tt, u0, r⟩ := RR
  exact Heap.lt_size u0
theorem TSet.congr {SS' : Str → Bool} (RR : TSet w hh ad SS n) (e : ∀ k, SS' k = SS k) : TSet w hh ad SS' n := by
  have q : SS' = SS := funext e
  rw [q]; exact RR
theorem tx_elems {l : List (Int × Value)} (gg : ∀ e ∈ l, TxE w e) : ElemsOf (PySem.strKind P w) l := fun e he => by
  obtain ⟨k, tk, h1, h2⟩ := gg e he
  exact ⟨⟨k, by rw [h1]; exact st_is k tk, h2⟩, by rw [h1] <;> rfl⟩
theorem tx_is {e : Int × Value} (gg : TxE w e) (k : Str) : (PySem.strKind P w).is k e.2 = true ↔ txOf e = k := by
  obtain ⟨k0, tk, h1, _⟩ := gg
  unfold txOf
  rw [h1]
  show ((k0 == k) = true) ↔ k0 = k
  exact beq_iff_eq
theorem tx_mem {l : List (Int × Value)} (gg : ∀ e ∈ l, TxE w e) (k : Str) : k ∈ l.map txOf ↔ ∃ e ∈ l, (PySem.strKind P w).is k e.2 = true := by
  rw [List.mem_map]
  constructor
  · rintro ⟨e, he, q⟩
    exact ⟨e, he, (tx_is (gg e he) k).2 q⟩
  · rintro ⟨e, he, q⟩
    exact ⟨e, he, (tx_is (gg e he) k).1 q⟩
theorem TSet.setOf (RR : TSet w hh ad SS n) : hh.SetOf (PySem.strKind P w) ad SS n := by
  obtain ⟨ob, ee, pp, tt, u0, hx, u2, gg, u9, u3, u4, u5, u6, _⟩ := RR
  exact ⟨ob, ee, pp, tt, u0, hx, u2, tx_elems gg, fun k => (u3 k).trans (tx_mem gg k), u4, u5, u6⟩
end

section
variable {P : Program} {w : World} {A : Around} {E : Value → Shared → Prop} {s : Shared} {ad : Addr} {SS : Str → Bool} {n : Nat}

theorem tset_store {hh : Heap} {ad : Addr} {ob : Obj} {ee ee' : Array (Int × Value)} {pp : Nat} {tt tt' : SetTable} (u0 : hh.get? ad = some ob) (u2 : ob.data = .set ee pp tt) :
    (hh.update ad (Obj.putSet ee' tt')).get? ad = some { ob with data := .set ee' (pp + 1) tt' } := by
  have q := Heap.get?_update_self (Obj.putSet ee' tt') u0 (by rw [putSet_of ee' tt' u2]; rfl)
  rw [putSet_of ee' tt' u2] at q
  exact q

theorem tset_tail {gg : Bool → Sem Unit} (hg : ∀ (b : Bool) (s₁ : Shared) (QQ' : Unit → Shared → Prop), QQ' () s₁ → wpAny (model P w) A (gg b) QQ' E s₁)
    {ob : Obj} {ee : Array (Int × Value)} {pp : Nat} {tt : SetTable} (u0 : s.heap.get? ad = some ob) (u1 : ob.ExactSet) (u2 : ob.data = .set ee pp tt)
    {fs1 : Array (Int × Value)} {tb2 : SetTable} {SS' : Str → Bool} (v1 : ∀ e ∈ fs1.toList, TxE w e) (v2 : (fs1.toList.map txOf).Nodup) (v3 : ∀ k, SS' k = true ↔ k ∈ fs1.toList.map txOf)
    (v4 : fs1.size < scanBound) (u52 : tb2.fits fs1.size = true) (u7 : Ris tb2.place.toList) (u8 : w.params.followText "set-order" = true ∨ tb2.led = true) {wasDummy : Bool} {RR : Option Bool → Shared → Prop}
    (hR2 : ∀ hh', Heap.SameBut ad s.heap hh' → TSet w hh' ad SS' fs1.size → RR (some true) { s with heap := hh' }) :
    wpAny (model P w) A (do
        storeSet ad fs1 tb2
        if (!wasDummy && tb2.tooFull) = true then do
            gg (relayAll tb2 fs1 (SetTable.grown fs1.size)).2.2
            storeSet ad (relayAll tb2 fs1 (SetTable.grown fs1.size)).1 (relayAll tb2 fs1 (SetTable.grown fs1.size)).2.1
            pure (some true)
          else pure (some true)) RR E s := by
  refine wpAny_bind (wpAny_storeSet_of u0 u2 ?_ (fits_of_scanBound v4))
  have u01 := tset_store (ee' := fs1) (tt' := tb2) u0 u2
  have kb1 := Heap.SameBut.update s.heap ad (Obj.putSet fs1 tb2)
  split
  · have pq := relayAll_perm tb2 fs1 (SetTable.grown fs1.size)
    have u53 := relayAll_fits tb2 fs1 (SetTable.grown fs1.size)
    have u73 := relayAll_ris tb2 fs1 (SetTable.grown fs1.size)
    have u83 := relayAll_led tb2 fs1 (SetTable.grown fs1.size)
    generalize relayAll tb2 fs1 (SetTable.grown fs1.size) = Z at pq u53 u73 u83 ⊢
    obtain ⟨fs2, tb3, gave⟩ := Z
    dsimp only at pq u53 u73 u83 ⊢
    have v8 : fs2.size = fs1.size := by rw [← Array.length_toList, pq.length_eq, Array.length_toList]
    have u42 : fs2.size < scanBound := by rw [v8]; exact v4
    refine wpAny_bind (hg _ _ _ ?_)
    refine wpAny_bind (wpAny_storeSet_of u01 rfl ?_ (fits_of_scanBound u42))
    have u02 := tset_store (ee' := fs2) (tt' := tb3) u01 rfl
    refine wpAny_pure (hR2 _ (kb1.trans (Heap.SameBut.update _ ad _)) ?_)
    exact ⟨_, fs2, _, tb3, u02, u1, rfl, fun e he => v1 e (pq.mem_iff.mp he), (pq.map txOf).nodup_iff.mpr v2, fun k => (v3 k).trans (pq.map txOf).mem_iff.symm, u42, u53, v8, u73,
      u8.imp id fun z => by rw [u83]; exact z⟩
  · exact wpAny_pure (hR2 _ kb1 ⟨_, fs1, _, tb2, u01, u1, rfl, v1, v2, v3, v4, u52, rfl, u7, u8⟩)

theorem tset_hashed {k : Str} {tk : Tok} {QQ : Bool → Shared → Prop} (RR : TSet w s.heap ad SS n) (rm : n + 1 < scanBound)
    (hQ2 : ∀ hh', Heap.SameBut ad s.heap hh' → TSet w hh' ad (fun j => SS j || decide (j = k)) (if SS k = true then n else n + 1) → QQ (!SS k) { s with heap := hh' }) :
    wpAny (model P w) A (setAddHashed ad (.str k tk) ((PySem.strKind P w).hash k)) QQ E s := by
  obtain ⟨ob, ee, pp, tt, u0, u1, u2, gg, u9, u3, u4, u5, u6, u7, u8⟩ := RR
  have y1 : (PySem.strKind P w).is k (.str k tk) = true := st_is k tk
  have y2 : (Value.str k tk).scannable = true := rfl
  have y3 : ElemsOf (PySem.strKind P w) ee.toList := tx_elems gg
  unfold setAddHashed setAddHashedIn
  refine wpAny_holding (wpAny_bind (wpAny_setState_of u0 u2 u5 ?_))
  dsimp only
  rw [byScan_of y2 u4 y3]
  simp only [↓reduceIte]
  unfold setAddByScan
  refine wpAny_bind ?_
  refine wpAny_bind (wpAny_rule ?_)
  refine wpAny_bind (wpAny_setScan_of y1 u0 u2 u5 y3 ?_)
  cases x1 : List.findIdx? (fun e => (PySem.strKind P w).is k e.2) ee.toList with
  | some j =>
    dsimp only
    obtain ⟨hj, pj, _⟩ := List.findIdx?_eq_some_iff_getElem.mp x1
    have y5 : SS k = true := (u3 k).2 ((tx_mem (P := P) (w := w) gg k).2 ⟨ee.toList[j], List.getElem_mem hj, pj⟩)
    refine wpAny_pure (wpAny_pure ?_)
    have q := hQ2 s.heap (Heap.SameBut.refl ad s.heap) ⟨ob, ee, pp, tt, u0, u1, u2, gg, u9, fun i => by
      rw [Bool.or_eq_true, decide_eq_true_eq, ← u3 i]
      exact ⟨fun z => z.elim id (fun e => e ▸ y5), .inl⟩, u4, u5, by rw [if_pos y5]; exact u6, u7, u8⟩
    rw [y5] at q
    exact q
  | none =>
    dsimp only
    have y4 : k ∉ ee.toList.map txOf := fun z => by
      obtain ⟨e, he, q⟩ := (tx_mem (P := P) (w := w) gg k).1 z
      have c := List.findIdx?_eq_none_iff.mp x1 e he
      rw [q] at c
      cases c
    have y5 : SS k = false := by
      cases q : SS k with
      | false => rfl
      | true => exact absurd ((u3 k).1 q) y4
    have y6 : ∀ (b : Bool) {s₁ : Shared} {QQ' : Unit → Shared → Prop}, QQ' () s₁ → wpAny (model P w) A (match b with | true => rule "set.scan.the-table-gave-way" | false => pure ()) QQ' E s₁ :=
      fun b s₁ QQ' q => by cases b <;> first | exact wpAny_pure q | exact wpAny_rule q
    have pq := layNew_perm tt ee ((PySem.strKind P w).hash k) (.str k tk)
    have v5 := layNew_fits tt ee ((PySem.strKind P w).hash k) (.str k tk)
    have v6 := layNew_ris tt ee ((PySem.strKind P w).hash k) (.str k tk) u7
    have v7 := layNew_led tt ee ((PySem.strKind P w).hash k) (.str k tk)
    generalize layNew tt ee ((PySem.strKind P w).hash k) (.str k tk) = Z at pq v5 v6 v7 ⊢
    obtain ⟨fs1, tb1, wasDummy, gave⟩ := Z
    dsimp only at pq v5 v6 v7 ⊢
    rw [Array.toList_push] at pq
    have y7 : fs1.toList.Perm (((PySem.strKind P w).hash k, Value.str k tk) :: ee.toList) := pq.trans (List.perm_append_singleton _ _)
    have y8 : (fs1.toList.map txOf).Perm (k :: ee.toList.map txOf) := y7.map txOf
    have v1 : ∀ e ∈ fs1.toList, TxE w e := fun e he => by
      rcases List.mem_cons.mp (y7.mem_iff.mp he) with z | z
      · rw [z]; exact ⟨k, tk, rfl, rfl⟩
      · exact gg e z
    have v2 : (fs1.toList.map txOf).Nodup := y8.nodup_iff.mpr (List.nodup_cons.mpr ⟨y4, u9⟩)
    have v3 : ∀ i, (SS i || decide (i = k)) = true ↔ i ∈ fs1.toList.map txOf := fun i => by
      rw [Bool.or_eq_true, decide_eq_true_eq, u3 i, y8.mem_iff, List.mem_cons]
      exact Or.comm
    have v8 : fs1.size = n + 1 := by rw [← Array.length_toList, y7.length_eq, List.length_cons, Array.length_toList, u6]
    have v4 : fs1.size < scanBound := by rw [v8]; exact rm
    have v9 : w.params.followText "set-order" = true ∨ tb1.led = true := u8.imp id fun z => by rw [v7]; exact z
    have y9 : ∀ hh', Heap.SameBut ad s.heap hh' → TSet w hh' ad (fun j => SS j || decide (j = k)) fs1.size → QQ true { s with heap := hh' } := fun hh' kb r => by
      have q := hQ2 hh' kb
      rw [y5] at q
      rw [v8] at r
      exact q r
    refine wpAny_bind (y6 _ ?_)
    split
    · refine wpAny_bind ?_
      rw [hashByValue_scannable 8 y2]
      refine wpAny_pure ?_
      refine tset_tail ?_ u0 u1 u2 v1 v2 v3 v4 ?_ ?_ ?_ ?_
      · intro b s₁ QQ' q; cases b <;> first | exact wpAny_pure q | exact wpAny_rule q
      · first | (split <;> first | exact v5 | exact SetTable.fits_plain_off v5) | exact v5
      · first | (split <;> exact v6) | exact v6
      · first | (split <;> exact v9) | exact v9
      · intro hh' kb r; dsimp only; exact wpAny_pure (y9 hh' kb r)
    · refine wpAny_bind (wpAny_pure ?_)
      simp only [↓reduceIte]
      refine tset_tail ?_ u0 u1 u2 v1 v2 v3 v4 v5 v6 v9 ?_
      · intro b s₁ QQ' q; cases b <;> first | exact wpAny_pure q | exact wpAny_rule q
      · intro hh' kb r; dsimp only; exact wpAny_pure (y9 hh' kb r)

theorem tset_add {k : Str} {tk : Tok} {QQ : Value → Shared → Prop} (RR : TSet w s.heap ad SS n) (rm : n + 1 < scanBound)
    (hQ2 : ∀ hh', Heap.SameBut ad s.heap hh' → TSet w hh' ad (fun j => SS j || decide (j = k)) (if SS k = true then n else n + 1) → QQ .none { s with heap := hh', toks := s.toks + 1 }) :
    wpAny (model P w) A (call (.builtin "set.add") [.ref ad, .str k tk]) QQ E s := by
  have hS : s.heap.SetOf (PySem.strKind P w) ad SS n := RR.setOf
  refine wpAny_call_entry F.slot_set_add hS.typeIs F.entry_set_add ?_ (F.args_set_add_2 _ _)
  unfold Builtin.«set.add» Builtin.Frozenset.oneOther
  simp only [List.isEmpty_nil, bind_assoc]
  unfold Builtin.Frozenset.addrOf setAdd
  refine wpAny_bind (wpAny_pure ?_)
  try dsimp only
  refine wpAny_bind (wpAny_pure ?_)
  try dsimp only
  refine wpAny_bind ?_
  refine wpAny_holding ?_
  refine wpAny_bind ((PySem.strKind P w).pyHash (st_is k tk) ?_)
  refine tset_hashed (s := { s with toks := s.toks + 1 }) RR rm fun hh' kb r => ?_
  show wpAny _ _ (ret Value.none) _ _ _
  exact wpAny_pure ⟨_, rfl, hQ2 hh' kb r⟩

end
end Zb
end
section
set_option Elab.async false
set_option linter.all false
set_option maxRecDepth 100000
set_option maxHeartbeats 2000000
/-! Zt2: set comprehensions of texts with two clauses; sorted of such a set. -/
namespace Zb
open PySem PySem.Spec PyProof.Rows L2
def TSO (w : World) (a : Addr) (S : Str → Bool) (n : Nat) : HO := .ext fun h => TSet w h a S n
theorem tso_new {w : World} {P : Program} {H : Hp} {h : Heap} {a : Addr} {S : Str → Bool} {n : Nat} (R : TSet w h a S n) : ObjOk P w H h a (TSO w a S n) := by
  have ⟨o, _, _, _, ho, _⟩ := R
  exact ⟨R, ⟨o, ho⟩, fun h1 h2 p k => TSet.at p k⟩
theorem tset_fresh {h : Heap} (w : World) : TSet w (h.push (set0 w)) h.objs.size (fun _ => false) 0 :=
  ⟨_, #[], 0, _, Heap.get?_push_size _ rfl, ⟨rfl, rfl, rfl⟩, rfl, (fun e he => by simp at he), (by simp), (fun k => by simp), (by decide), (by rfl), rfl, List.Pairwise.nil, by
    show _ ∨ (!w.params.followText "set-order") = true
    exact (Bool.eq_false_or_eq_true (w.params.followText "set-order")).imp id fun z => by rw [z]; rfl⟩
section
variable {X : Cx}
theorem addT_ok {pins : List (Addr × Obj)} {σ : L2.St} {H : Hp} {s : Shared} {E : Value → Shared → Prop} {D : Addr} {S : Str → Bool} {n : Nat} {y : Str} {tk : Tok} {Q : Value → Shared → Prop} (I : Inv X pins σ H s) (dd : H D = some (TSO X.w D S n)) (rm : n + 1 < scanBound)
    (h : ∀ s', Inv X pins σ (upd H D (TSO X.w D (fun j => S j || decide (j = y)) (if S y = true then n else n + 1))) s' → Q .none s') : wpAny (model X.prog X.w) X.A (call (.builtin "set.add") [.ref D, .str y tk]) Q E s := by
  refine tset_add (I.hok D _ dd).1 rm fun h' sb new => ?_
  obtain ⟨o, _, _, _, ho, _⟩ := id new
  exact h _ (I.write (e := D) (t' := s.toks + 1) (by rw [dd]; trivial) (.inl rfl) (fun b u hb hu => (sb.2 b hb).trans hu) ⟨o, ho⟩ (tso_new new))
end
theorem turnS_out (el9 t0 i0 t1 i1 : Expr) (ifs0 fs9 : List Expr) (scp : Scope) (pos : Pos) (i9 acc : Value) (env : Env) :
    compTurn (.SetComp el9 [⟨t0, i0, ifs0, 0⟩, ⟨t1, i1, fs9, 0⟩] scp pos) 0 i9 acc env = (do
      standAt i0.pos
      match ← pyNext i9 with
      | none => pure (.done .next)
      | some v =>
        letOwnedTupleGo t0 i9 v
        assign t0 env v
        let mut ok := true
        for c in ifs0 do
          if ok then ok ← isTrue c env (eval c env)
        if ok then
          let x ← eval i1 env
          standAt i1.pos
          let x ← foldedSetIterable i1 env x
          let _ ← runOwn (.compStart (.SetComp el9 [⟨t0, i0, ifs0, 0⟩, ⟨t1, i1, fs9, 0⟩] scp pos) 1 (← holding [x] (pyIter x)) acc env) env
        again (.compLoop (.SetComp el9 [⟨t0, i0, ifs0, 0⟩, ⟨t1, i1, fs9, 0⟩] scp pos) 0 i9 acc env)) := by rfl
theorem turnS_in (el9 t0 i0 t1 i1 : Expr) (ifs0 fs9 : List Expr) (scp : Scope) (pos : Pos) (i9 acc : Value) (env : Env) :
    compTurn (.SetComp el9 [⟨t0, i0, ifs0, 0⟩, ⟨t1, i1, fs9, 0⟩] scp pos) 1 i9 acc env = (do
      standAt i1.pos
      match ← pyNext i9 with
      | none => pure (.done .next)
      | some v =>
        letOwnedTupleGo t1 i9 v
        assign t1 env v
        let mut ok := true
        for c in fs9 do
          if ok then ok ← isTrue c env (eval c env)
        if ok then
          (do let v ← eval el9 env; standAt el9.pos; let _ ← call (.builtin "set.add") [acc, v])
        again (.compLoop (.SetComp el9 [⟨t0, i0, ifs0, 0⟩, ⟨t1, i1, fs9, 0⟩] scp pos) 1 i9 acc env)) := by rfl

section
variable {prog : Program} {w : World} {A : Around} {R : Result → Shared → Prop} {s : Shared} {el9 t0 i0 t1 i1 : Expr} {ifs0 fs9 : List Expr} {scp : Scope} {pos : Pos} {i9 acc : Value} {env : Env}
theorem loopS_out (q6 : ∀ x, foldedSetIterable i1 env x = pure x) (I : Nat → Shared → Prop)
    (tt9 : ∀ n s, I n s → wpAny (model prog w) A (pyNext i9) (fun r s₁ => match r with
      | none => R (.ok .next) s₁
      | some v => wpAny (model prog w) A (letOwnedTupleGo t0 i9 v) (fun _ s₁' => wpAny (model prog w) A (assign t0 env v) (fun _ s₂ =>
          wpAny (model prog w) A (forIn ifs0 true fun c r => if r = true then do let ok ← isTrue c env (eval c env); pure (ForInStep.yield ok) else pure (ForInStep.yield r)) (fun ok s₃ =>
            if ok = true then wpAny (model prog w) A (eval i1 env) (fun x s₄ => wpAny (model prog w) A (pyIter x) (fun it1 s₅ =>
              codeAny (model prog w) A (.compStart (.SetComp el9 [⟨t0, i0, ifs0, 0⟩, ⟨t1, i1, fs9, 0⟩] scp pos) 1 it1 acc env) (fun r s' => match r with
                | .ok _ => ∃ m, m < n ∧ I m s'
                | .error _ => False) s₅) (notedBy (model prog w) A env fun e s' => R (.error e) s') s₄) (notedBy (model prog w) A env fun e s' => R (.error e) s') s₃
            else ∃ m, m < n ∧ I m s₃) (notedBy (model prog w) A env fun e s' => R (.error e) s') s₂) (notedBy (model prog w) A env fun e s' => R (.error e) s') s₁') (notedBy (model prog w) A env fun e s' => R (.error e) s') s₁) (notedBy (model prog w) A env fun e s' => R (.error e) s') s)
    (n : Nat) (h : I n s) :
    codeAny (model prog w) A (.compLoop (.SetComp el9 [⟨t0, i0, ifs0, 0⟩, ⟨t1, i1, fs9, 0⟩] scp pos) 0 i9 acc env) R s := by
  refine codeAny_loop rfl I (fun n s hI => ?_) n h
  show wpAny _ A ((compTurn (.SetComp el9 [⟨t0, i0, ifs0, 0⟩, ⟨t1, i1, fs9, 0⟩] scp pos) 0 i9 acc env).onRaise (fun x => do noteFrame x env; theTreesLotGoes x)) _ _ s
  refine wpAny_noted ?_
  rw [turnS_out]
  refine wpAny_bind (wpAny_standAt (wpAny_bind (wpAny_mono (tt9 n s hI) (fun r s₁ h₁ => ?_) fun _ _ h' => h')))
  cases r with
  | none => exact wpAny_pure h₁
  | some v =>
    refine wpAny_bind (wpAny_mono h₁ (fun _ s₁' h₁' => ?_) fun _ _ h' => h')
    refine wpAny_bind (wpAny_mono h₁' (fun _ s₂ h₂ => wpAny_bind (wpAny_mono h₂ (fun ok s₃ h₃ => ?_) fun _ _ h' => h')) fun _ _ h' => h')
    cases ok with
    | false => exact wpAny_pure ⟨rfl, h₃⟩
    | true =>
      refine wpAny_bind (wpAny_mono h₃ (fun x s₄ h₄ => ?_) fun _ _ h' => h')
      refine wpAny_bind (wpAny_standAt (wpAny_bind (wpAny_of_eq (q6 x) (wpAny_bind (wpAny_holding (wpAny_mono h₄ (fun it1 s₅ h₅ => ?_) fun _ _ h' => h'))))))
      refine wpAny_bind (wpAny_runOwn ?_)
      rw [Around.mark_none]
      refine codeAny_mono h₅ fun r s' hr => ?_
      cases r with
      | ok f =>
        first
          | exact wpAny_pure ⟨rfl, hr⟩
          | exact wpAny_bind (wpAny_pure (wpAny_pure ⟨rfl, hr⟩))
      | error e => exact hr.elim
theorem loopS_in (I : Nat → Shared → Prop)
    (tt9 : ∀ n s, I n s → wpAny (model prog w) A (pyNext i9) (fun r s₁ => match r with
      | none => R (.ok .next) s₁
      | some v => wpAny (model prog w) A (letOwnedTupleGo t1 i9 v) (fun _ s₁' => wpAny (model prog w) A (assign t1 env v) (fun _ s₂ =>
          wpAny (model prog w) A (forIn fs9 true fun c r => if r = true then do let ok ← isTrue c env (eval c env); pure (ForInStep.yield ok) else pure (ForInStep.yield r)) (fun ok s₃ =>
            if ok = true then wpAny (model prog w) A (eval el9 env) (fun x s₄ =>
              wpAny (model prog w) A (call (.builtin "set.add") [acc, x]) (fun _ s₅ => ∃ m, m < n ∧ I m s₅) (notedBy (model prog w) A env fun e s' => R (.error e) s') s₄) (notedBy (model prog w) A env fun e s' => R (.error e) s') s₃
            else ∃ m, m < n ∧ I m s₃) (notedBy (model prog w) A env fun e s' => R (.error e) s') s₂) (notedBy (model prog w) A env fun e s' => R (.error e) s') s₁') (notedBy (model prog w) A env fun e s' => R (.error e) s') s₁) (notedBy (model prog w) A env fun e s' => R (.error e) s') s)
    (n : Nat) (h : I n s) :
    codeAny (model prog w) A (.compLoop (.SetComp el9 [⟨t0, i0, ifs0, 0⟩, ⟨t1, i1, fs9, 0⟩] scp pos) 1 i9 acc env) R s := by
  refine codeAny_loop rfl I (fun n s hI => ?_) n h
  show wpAny _ A ((compTurn (.SetComp el9 [⟨t0, i0, ifs0, 0⟩, ⟨t1, i1, fs9, 0⟩] scp pos) 1 i9 acc env).onRaise (fun x => do noteFrame x env; theTreesLotGoes x)) _ _ s
  refine wpAny_noted ?_
  rw [turnS_in]
  refine wpAny_bind (wpAny_standAt (wpAny_bind (wpAny_mono (tt9 n s hI) (fun r s₁ h₁ => ?_) fun _ _ h' => h')))
  cases r with
  | none => exact wpAny_pure h₁
  | some v =>
    refine wpAny_bind (wpAny_mono h₁ (fun _ s₁' h₁' => ?_) fun _ _ h' => h')
    refine wpAny_bind (wpAny_mono h₁' (fun _ s₂ h₂ => wpAny_bind (wpAny_mono h₂ (fun ok s₃ h₃ => ?_) fun _ _ h' => h')) fun _ _ h' => h')
    cases ok with
    | false => exact wpAny_pure ⟨rfl, h₃⟩
    | true =>
      exact wpAny_bind (wpAny_bind (wpAny_mono h₃ (fun x s₄ h₄ => wpAny_bind (wpAny_standAt (wpAny_bind (wpAny_mono h₄ (fun _ s₅ h₅ => wpAny_pure (wpAny_pure ⟨rfl, h₅⟩)) fun _ _ h' => h')))) fun _ _ h' => h'))
theorem startS_ok (h0 : codeAny (model prog w) A (.compLoop (.SetComp el9 [⟨t0, i0, ifs0, 0⟩, ⟨t1, i1, fs9, 0⟩] scp pos) 1 i9 acc env) R s)
    (h : wpAny (model prog w) A (pyIter i9) (fun i9' s' => codeAny (model prog w) A (.compLoop (.SetComp el9 [⟨t0, i0, ifs0, 0⟩, ⟨t1, i1, fs9, 0⟩] scp pos) 1 i9' acc env) R s')
      (notedBy (model prog w) A env fun x s' => R (.error x) s') s) :
    codeAny (model prog w) A (.compStart (.SetComp el9 [⟨t0, i0, ifs0, 0⟩, ⟨t1, i1, fs9, 0⟩] scp pos) 1 i9 acc env) R s := by
  refine codeAny_of_tree ?_
  show wpAny _ _ ((compStart (.SetComp el9 [⟨t0, i0, ifs0, 0⟩, ⟨t1, i1, fs9, 0⟩] scp pos) 1 i9 acc env).onRaise (fun x => do noteFrame x env; standAt theWindowsPlace)) _ _ s
  refine wpAny_notedAt ?_
  unfold compStart
  show wpAny _ _ (ask >>= _) _ _ s
  refine wpAny_bind (wpAny_askSetting (wpAny_ite ?_))
  split
  · first
      | exact wpAny_bind (wpAny_pure (wpAny_pure (And.intro rfl h0)))
      | exact wpAny_pure (And.intro rfl h0)
  · first
      | exact wpAny_bind (wpAny_rule (wpAny_bind (wpAny_standAt (wpAny_bind (wpAny_mono h (fun i9' s' h' => wpAny_pure (And.intro rfl h')) fun _ _ x => x)))))
      | (refine wpAny_bind (wpAny_rule ?_); show wpAny _ _ (standAt i1.pos >>= _) _ _ s; exact wpAny_bind (wpAny_standAt (wpAny_bind (wpAny_mono h (fun i9' s' h' => wpAny_pure (And.intro rfl h')) fun _ _ x => x))))
end

section
variable {X : Cx}
def tSc2 (w : World) (wi : TI) (g : TG) (tt : TT) (wi1 : TI) (g1 : TG) (tt1 : TT) (te : TE) (wsl ws1 : List Nat) : TE := fun σ H Q => wi σ H fun J H1 => ∀ D, H1 D = none → ∃ WW : Nat → Nat → Hp → Prop, (∃ m, WW 0 m (upd H1 D (TSO w D (fun _ => false) 0))) ∧ ∀ i m H, WW i m H →
  (J.stop i H ∧ Q (.ref D) H) ∨ (J.go i H ∧ ∃ Nn : Hp → Prop, (∀ H', Nn H' → ∃ m', m' < m ∧ WW (i + 1) m' H') ∧ ∀ x H', J.yld i H x H' → g x (wipe σ wsl) H' fun σ2 H2 => wipe σ2 wsl = wipe σ wsl ∧ tt σ2 H2 fun b H3 =>
    if b = true then wi1 σ2 H3 fun J1 H4 => ∃ W1 : Nat → Nat → Hp → Prop, (∃ m, W1 0 m H4) ∧ ∀ j k H, W1 j k H →
      (J1.stop j H ∧ Nn H) ∨ (J1.go j H ∧ ∃ Nn1 : Hp → Prop, (∀ H', Nn1 H' → ∃ k', k' < k ∧ W1 (j + 1) k' H') ∧ ∀ x H', J1.yld j H x H' → g1 x (wipe σ2 ws1) H' fun σ3 H5 => wipe σ3 ws1 = wipe σ2 ws1 ∧ tt1 σ3 H5 fun b H6 =>
        if b = true then te σ3 H6 fun y H7 => ∃ (c : Str) (S : Str → Bool) (nn : Nat), y = .str c ∧ H7 D = some (TSO w D S nn) ∧ nn + 1 < scanBound ∧ Nn1 (upd H7 D (TSO w D (fun j => S j || decide (j = c)) (if S c = true then nn else nn + 1))) else Nn1 H6)
    else Nn H3)
theorem sc2_core {pins : List (Addr × Obj)} {s : Shared} {σ : L2.St} {H : Hp} {Q : VK} {el9 tg itr tg1 itr1 : Expr} {fs0 fs9 : List Expr} {scp : Scope} {ow : List (Str × Nat)} {ws1 : List Nat} {pos pos' : Pos} {wi wi1 : TI} {g g1 : TG} {tt tt1 : TT} {te : TE} {use : Option (Value → Sem Unit)} {Qf : Value → Shared → Prop}
    (q0 : X.calm = true) (q1 : X.N.Nodup) (I : Inv X pins σ H s) (r1 : PI X tg itr wi) (ok : BlkOk X.N X.env.scope scp ow) (q2 : ∀ i ∈ ws1, i ∈ ow.map (·.2))
    (q3 : ∀ (s : Shared) (H : Hp) (C : Addr) (cls9 : List (Str × Addr)) (f9 : List Addr), PG (X.blk s H scp (compEnvC scp cls9 C X.env) f9) tg g) (q4 : ∀ (s : Shared) (H : Hp) (C : Addr) (cls9 : List (Str × Addr)) (f9 : List Addr), PTs (X.blk s H scp (compEnvC scp cls9 C X.env) f9) fs0 tt)
    (q5 : ∀ (s : Shared) (H : Hp) (C : Addr) (cls9 : List (Str × Addr)) (f9 : List Addr), PE (X.blk s H scp (compEnvC scp cls9 C X.env) f9) el9 te) (q6 : ∀ x, foldedSetIterable itr X.env x = pure x)
    (q7 : ∀ (s : Shared) (H : Hp) (C : Addr) (cls9 : List (Str × Addr)) (f9 : List Addr), PI (X.blk s H scp (compEnvC scp cls9 C X.env) f9) tg1 itr1 wi1)
    (q8 : ∀ (s : Shared) (H : Hp) (C : Addr) (cls9 : List (Str × Addr)) (f9 : List Addr), PG (X.blk s H scp (compEnvC scp cls9 C X.env) f9) tg1 g1)
    (q9 : ∀ (s : Shared) (H : Hp) (C : Addr) (cls9 : List (Str × Addr)) (f9 : List Addr), PTs (X.blk s H scp (compEnvC scp cls9 C X.env) f9) fs9 tt1)
    (q10 : ∀ env x, foldedSetIterable itr1 env x = pure x)
    (h : tSc2 X.w wi g tt wi1 g1 tt1 te (ow.map (·.2)) ws1 σ H Q)
    (q11 : ∀ D C s' m H', Inv X pins σ H' s' → Q (.ref D) H' → s'.heap.Ns C m → FpOk X pins H' C → compPost (model X.prog X.w) X.A X.xe use Qf (.ref D) C (.ok .next) s') :
    wpAny (model X.prog X.w) X.A (comprehension (.SetComp el9 [⟨tg, itr, fs0, 0⟩, ⟨tg1, itr1, fs9, 0⟩] scp pos) scp X.env pos' (newSet (.type "set")) false (eval itr X.env) use) Qf X.xe s := by
  have r0 : ∀ y ∈ scp.names, y.2 = .free → ∃ c, X.env.cells.lookup y.1 = some c := fun y hy e => by
    rcases ok.free y hy e with k | k
    · exact I.ok.has _ (.inl k)
    · exact I.ok.has _ (.inr k)
  refine wpAny_comprehension_free (use := use) rfl q6 (closure_ok r0) ok.kind (fun y hy e => by rw [ok.uniq y hy, e])
    (thn (r1.run pins s σ H _ I h) fun xv s1 hx => thn hx fun itv s2 h2 => ?_)
  obtain ⟨i9, f9, t9, J, H2, e, I2, T, z2, w2, q⟩ := h2
  subst e
  refine PpSet.newSet_ok (newEnv_comp ?_)
  generalize dd : s2.heap.objs.size = D
  have ddn : H2 D = none := I2.hok.fresh (Nat.le_of_eq dd)
  obtain ⟨WW, ⟨m0, w0⟩, tt9⟩ := q D ddn
  generalize e3 : ({ s2 with heap := s2.heap.push (set0 X.w) } : Shared) = s3
  have I3 : Inv X pins σ (upd H2 D (TSO X.w D (fun _ => false) 0)) s3 := by
    rw [← e3]
    refine I2.laid (t' := s2.toks) (fun b o e => Heap.get?_push_of_some _ e) (Nat.le_of_eq dd) ?_
    rw [← dd]
    exact tso_new (tset_fresh X.w)
  have g3 : s3.heap = s2.heap.push (set0 X.w) := by rw [← e3]
  have zz : ∀ b ∈ f9, b < s2.heap.objs.size := fun b hb => by
    obtain ⟨o, e, _⟩ := T.obj _ _ z2 b hb
    exact Heap.lt_size e
  have w3 : ∀ b ∈ f9, FpOk X pins (upd H2 D (TSO X.w D (fun _ => false) 0)) b ∧ b < s3.heap.objs.size := fun b hb => by
    have hlt := zz b hb
    refine ⟨⟨?_, (w2 b hb).2⟩, by rw [g3, Heap.size_push]; exact Nat.lt_succ_of_lt hlt⟩
    rw [upd_ne (by rw [← dd]; exact Nat.ne_of_lt hlt)]
    exact (w2 b hb).1
  have z3 : t9 0 s3.heap := T.keep _ _ _ z2 fun b _ o e => by rw [g3]; exact Heap.get?_push_of_some _ e
  have I4 := block_start I3 ok q1 w3
  have pG := q3 s3 (upd H2 D (TSO X.w D (fun _ => false) 0)) s3.heap.objs.size (cellsFrom (s3.heap.objs.size + 1) scp.names (cloFrom X.env.cells scp.names [])) f9
  have pT := q4 s3 (upd H2 D (TSO X.w D (fun _ => false) 0)) s3.heap.objs.size (cellsFrom (s3.heap.objs.size + 1) scp.names (cloFrom X.env.cells scp.names [])) f9
  have pE := q5 s3 (upd H2 D (TSO X.w D (fun _ => false) 0)) s3.heap.objs.size (cellsFrom (s3.heap.objs.size + 1) scp.names (cloFrom X.env.cells scp.names [])) f9
  have pI1 := q7 s3 (upd H2 D (TSO X.w D (fun _ => false) 0)) s3.heap.objs.size (cellsFrom (s3.heap.objs.size + 1) scp.names (cloFrom X.env.cells scp.names [])) f9
  have pG1 := q8 s3 (upd H2 D (TSO X.w D (fun _ => false) 0)) s3.heap.objs.size (cellsFrom (s3.heap.objs.size + 1) scp.names (cloFrom X.env.cells scp.names [])) f9
  have pT1 := q9 s3 (upd H2 D (TSO X.w D (fun _ => false) 0)) s3.heap.objs.size (cellsFrom (s3.heap.objs.size + 1) scp.names (cloFrom X.env.cells scp.names [])) f9
  show codeAny _ _ (.compStart (.SetComp el9 [⟨tg, itr, fs0, 0⟩, ⟨tg1, itr1, fs9, 0⟩] scp pos) 0 (.ref i9) (.ref D) (compEnvC scp (cellsFrom (s3.heap.objs.size + 1) scp.names (cloFrom X.env.cells scp.names [])) s3.heap.objs.size X.env)) (compPost (model X.prog X.w) X.A X.xe use Qf (.ref D) s3.heap.objs.size) { s3 with heap := pushCells (s3.heap.push { cls := .type "dict", data := .dict #[] }) scp.names }
  have nF : ∀ b ∈ f9, (upd H2 D (TSO X.w D (fun _ => false) 0)) b = none := fun b hb => (w3 b hb).1.1
  generalize eC : compEnvC scp (cellsFrom (s3.heap.objs.size + 1) scp.names (cloFrom X.env.cells scp.names [])) s3.heap.objs.size X.env = cE at I4 pG pT pE pI1 pG1 pT1 ⊢
  have cLoc : cE.locals = s3.heap.objs.size := by subst eC; rfl
  generalize eH3 : upd H2 D (TSO X.w D (fun _ => false) 0) = H3 at I3 I4 pG pT pE pI1 pG1 pT1 w0 nF w3
  generalize e4 : ({ s3 with heap := pushCells (s3.heap.push { cls := .type "dict", data := .dict #[] }) scp.names } : Shared) = s4 at I4 ⊢
  have z4 : t9 0 s4.heap := T.keep _ _ _ z3 fun b _ o e => by rw [← e4]; exact pushCells_keeps _ _ _ _ (Heap.get?_push_of_some _ e)
  have sta : ∀ {σ' : L2.St} {H' : Hp} {s' : Shared}, Inv (X.blk s3 H3 scp cE f9) [] σ' H' s' → (∀ b ∈ f9, H' b = none) → ∀ b ∈ f9, FpOk (X.blk s3 H3 scp cE f9) [] H' b := fun {σ' H' s'} I' ns9 b hb =>
    ⟨ns9 b hb, (I'.ok.exf b hb).1, I'.ok.exfs b hb, .inl hb, fun x c e => (I'.ok.exf b hb).2 x c e, fun p hp => absurd (show p ∈ ([] : List (Addr × Obj)) ++ [] from hp) (by simp)⟩
  have lp : codeAny (model X.prog X.w) X.A (.compLoop (.SetComp el9 [⟨tg, itr, fs0, 0⟩, ⟨tg1, itr1, fs9, 0⟩] scp pos) 0 (.ref i9) (.ref D) cE) (compPost (model X.prog X.w) X.A X.xe use Qf (.ref D) s3.heap.objs.size) s4 := by
    refine loopS_out (q10 cE) (fun n s' => ∃ i H', Inv (X.blk s3 H3 scp cE f9) [] (wipe σ (ow.map (·.2))) H' s' ∧ t9 i s'.heap ∧ (∀ b ∈ f9, H' b = none) ∧ WW i n H') ?_ m0 ⟨0, H3, I4, z4, nF, w0⟩
    rintro n s5 ⟨i, H5, I5, st5, n5, w5⟩
    rcases tt9 i n H5 w5 with ⟨sto, qq⟩ | ⟨gO, Nn, hNx, stp9⟩
    · have tD := T.done (X.blk s3 H3 scp cE f9) rfl rfl rfl q0 i [] s5 _ H5 (fun _ _ => False) I5 (sta I5 n5) st5 sto
      refine thnF tD fun r s6 ⟨hr, I6⟩ => ?_
      subst hr
      have I7 : Inv X pins σ H5 s6 := I3.call' (ch := f9) I6.os I6.base I6.hok I6.bare fun b hb => ⟨(w3 b hb).1.2.2.2.1, (w3 b hb).1.2.1, (w3 b hb).1.2.2.2.2.1, (w3 b hb).1.2.2.2.2.2⟩
      have nCl : H5 s3.heap.objs.size = none := by
        have z : H5 cE.locals = none := I6.free
        rw [cLoc] at z
        exact z
      obtain ⟨m, ns9, _⟩ := I6.loc
      have ns9 : s6.heap.Ns cE.locals m := ns9
      rw [cLoc] at ns9
      exact q11 D s3.heap.objs.size s6 m H5 I7 qq ns9 (I3.fpOk (Nat.le_refl _) nCl)
    · have tI := T.item (X.blk s3 H3 scp cE f9) rfl rfl rfl q0 i [] s5 _ H5 (fun _ _ => False) I5 (sta I5 n5) st5 gO
      refine thnF tI fun r s6 ⟨u, hr, h6⟩ => ?_
      subst hr
      refine thnF h6 fun _ s7 ⟨x, H7, I7, r7, y7, st7, n7⟩ => ?_
      have I7' := I7.pinned (sta I7 n7) (T.obj _ _ st7)
      refine thnF (pG.run _ s7 _ H7 x u _ I7' r7 (stp9 x H7 y7)) fun _ s8 ⟨σ8, H8, I8, hw8, q8⟩ => ?_
      refine thnF (pT.run _ s8 σ8 H8 _ I8 q8) fun b s9 ⟨H9, I9, q9⟩ => ?_
      have fi : ∀ {σ9 : L2.St} {s' : Shared} {H' : Hp}, Inv (X.blk s3 H3 scp cE f9) ([] ++ pinsAt f9 s7.heap) σ9 H' s' → (wipe σ (ow.map (·.2))).length = σ9.length → (∀ (j : Nat) v, (wipe σ (ow.map (·.2)))[j]? = some (some v) → σ9[j]? = some (some v)) → Nn H' →
          ∃ m, m < n ∧ ∃ i H', Inv (X.blk s3 H3 scp cE f9) [] (wipe σ (ow.map (·.2))) H' s' ∧ t9 i s'.heap ∧ (∀ b ∈ f9, H' b = none) ∧ WW i m H' := fun {σ9 s' H'} I' hl hk nx => by
        obtain ⟨m', hm, w'⟩ := hNx H' nx
        have pin' : ∀ b ∈ f9, ∀ o, s7.heap.get? b = some o → s'.heap.get? b = some o ∧ H' b = none := fun b hb o e =>
          let z := I'.pin (b, o) (List.mem_append_right _ (List.mem_append_right _ (mem_pinsAt hb e)))
          ⟨z.1, z.2.1⟩
        refine ⟨m', hm, i + 1, H', (I'.unpinned (pins := [])).weak hl hk, T.keep _ _ _ st7 fun b hb o e => (pin' b hb o e).1, fun b hb => ?_, w'⟩
        obtain ⟨o, e, _⟩ := T.obj _ _ st7 b hb
        exact (pin' b hb o e).2
      have l8 : (wipe σ (ow.map (·.2))).length = σ8.length := by rw [← hw8, wipe_length]
      have k8 : ∀ (j : Nat) v, (wipe σ (ow.map (·.2)))[j]? = some (some v) → σ8[j]? = some (some v) := fun j v e => by
        rw [← hw8] at e
        exact (wipe_some e).1
      have k9 : ∀ (j : Nat) v, (wipe σ (ow.map (·.2)))[j]? = some (some v) → (wipe σ8 ws1)[j]? = some (some v) := fun j v e => by
        rw [← hw8] at e
        obtain ⟨e1, e2⟩ := wipe_some e
        rw [wipe_out fun z => e2 (q2 j z)]
        exact e1
      cases b with
      | false =>
        simp only [Bool.false_eq_true, if_false] at q9 ⊢
        exact fi I9 l8 k8 q9
      | true =>
        simp only [if_true] at q9 ⊢
        refine thnF (pI1.run _ s9 σ8 H9 _ I9 q9) fun xv s10 hx => thnF hx fun itv s11 h11 => ?_
        obtain ⟨it1, fp1, tn1, J1, H11, e1, I11, T1, st11, f11, W1, ⟨m1, w1⟩, tt1n⟩ := h11
        subst e1
        have sta1 : ∀ {H' : Hp}, (∀ b ∈ fp1, H' b = none) → ∀ b ∈ fp1, FpOk (X.blk s3 H3 scp cE f9) ([] ++ pinsAt f9 s7.heap) H' b := fun ns9 b hb => ⟨ns9 b hb, (f11 b hb).2⟩
        have lp1 : codeAny (model X.prog X.w) X.A (.compLoop (.SetComp el9 [⟨tg, itr, fs0, 0⟩, ⟨tg1, itr1, fs9, 0⟩] scp pos) 1 (.ref it1) (.ref D) cE)
            (fun r s' => match r with
              | .ok _ => ∃ m, m < n ∧ ∃ i H', Inv (X.blk s3 H3 scp cE f9) [] (wipe σ (ow.map (·.2))) H' s' ∧ t9 i s'.heap ∧ (∀ b ∈ f9, H' b = none) ∧ WW i m H'
              | .error _ => False) s11 := by
          refine loopS_in (fun k s' => ∃ j H', Inv (X.blk s3 H3 scp cE f9) ([] ++ pinsAt f9 s7.heap) (wipe σ8 ws1) H' s' ∧ tn1 j s'.heap ∧ (∀ b ∈ fp1, H' b = none) ∧ W1 j k H') ?_ m1 ⟨0, H11, I11.weak (wipe_length _ _) (fun j v e => (wipe_some e).1), st11, fun b hb => (f11 b hb).1, w1⟩
          rintro k s12 ⟨j, H12, I12, st12, n12, w12⟩
          rcases tt1n j k H12 w12 with ⟨sto1, nx1⟩ | ⟨gO1, Nn1, hNx1, stp1⟩
          · refine thnF (T1.done (X.blk s3 H3 scp cE f9) rfl rfl rfl q0 j _ s12 (wipe σ8 ws1) H12 (fun _ _ => False) I12 (sta1 n12) st12 sto1) fun r s13 ⟨hr, I13⟩ => ?_
            subst hr
            exact fi I13 (l8.trans (wipe_length σ8 ws1).symm) k9 nx1
          · refine thnF (T1.item (X.blk s3 H3 scp cE f9) rfl rfl rfl q0 j _ s12 (wipe σ8 ws1) H12 (fun _ _ => False) I12 (sta1 n12) st12 gO1) fun r s13 ⟨u1, hr, h13⟩ => ?_
            subst hr
            refine thnF h13 fun _ s14 ⟨x1, H14, I14, r14, y14, st14, n14⟩ => ?_
            have I14' := I14.pinned (sta1 n14) (T1.obj _ _ st14)
            refine thnF (pG1.run _ s14 (wipe σ8 ws1) H14 x1 u1 _ I14' r14 (stp1 x1 H14 y14)) fun _ s15 ⟨σ15, H15, I15, hw15, q15⟩ => ?_
            refine thnF (pT1.run _ s15 σ15 H15 _ I15 q15) fun b1 s16 ⟨H16, I16, q16⟩ => ?_
            have fi1 : ∀ {s' : Shared} {H' : Hp}, Inv (X.blk s3 H3 scp cE f9) (([] ++ pinsAt f9 s7.heap) ++ pinsAt fp1 s14.heap) σ15 H' s' → Nn1 H' → ∃ m, m < k ∧ ∃ j H', Inv (X.blk s3 H3 scp cE f9) ([] ++ pinsAt f9 s7.heap) (wipe σ8 ws1) H' s' ∧ tn1 j s'.heap ∧ (∀ b ∈ fp1, H' b = none) ∧ W1 j m H' := fun {s' H'} I' nx => by
              obtain ⟨m', hm, w'⟩ := hNx1 H' nx
              have pin' : ∀ b ∈ fp1, ∀ o, s14.heap.get? b = some o → s'.heap.get? b = some o ∧ H' b = none := fun b hb o e =>
                let z := I'.pin (b, o) (List.mem_append_right _ (List.mem_append_right _ (mem_pinsAt hb e)))
                ⟨z.1, z.2.1⟩
              refine ⟨m', hm, j + 1, H', I'.unpinned.weak (by rw [← hw15, wipe_length]) (fun j v e => by rw [← hw15] at e; exact (wipe_some e).1), T1.keep _ _ _ st14 fun b hb o e => (pin' b hb o e).1, fun b hb => ?_, w'⟩
              obtain ⟨o, e, _⟩ := T1.obj _ _ st14 b hb
              exact (pin' b hb o e).2
            cases b1 with
            | false =>
              simp only [Bool.false_eq_true, if_false] at q16 ⊢
              exact fi1 I16 q16
            | true =>
              simp only [if_true] at q16 ⊢
              refine thnF (pE.run _ s16 σ15 H16 _ I16 q16) fun z s17 ⟨yv, H17, I17, r17, cc0, SS0, nn0, ey, hD17, hz17, nx⟩ => ?_
              subst ey
              obtain ⟨tk17, rfl⟩ := r17
              exact addT_ok (X := X.blk s3 H3 scp cE f9) I17 hD17 hz17 fun s18 I18 => fi1 I18 nx
        exact startS_ok lp1 (T1.self X.A 0 _ _ _ st11 lp1)
  exact PpSet.codeAny_compStart_set lp (T.self X.A 0 _ _ _ z4 lp)
theorem pe_sc2 {el9 tg itr tg1 itr1 : Expr} {fs0 fs9 : List Expr} {scp : Scope} {ow : List (Str × Nat)} {ws1 : List Nat} {pos : Pos} {wi wi1 : TI} {g g1 : TG} {tt tt1 : TT} {te : TE} (q0 : X.calm = true) (q1 : X.N.Nodup) (r1 : PI X tg itr wi) (ok : BlkOk X.N X.env.scope scp ow) (q2 : ∀ i ∈ ws1, i ∈ ow.map (·.2))
    (q3 : ∀ (s : Shared) (H : Hp) (C : Addr) (cls9 : List (Str × Addr)) (f9 : List Addr), PG (X.blk s H scp (compEnvC scp cls9 C X.env) f9) tg g) (q4 : ∀ (s : Shared) (H : Hp) (C : Addr) (cls9 : List (Str × Addr)) (f9 : List Addr), PTs (X.blk s H scp (compEnvC scp cls9 C X.env) f9) fs0 tt)
    (q7 : ∀ (s : Shared) (H : Hp) (C : Addr) (cls9 : List (Str × Addr)) (f9 : List Addr), PI (X.blk s H scp (compEnvC scp cls9 C X.env) f9) tg1 itr1 wi1)
    (q8 : ∀ (s : Shared) (H : Hp) (C : Addr) (cls9 : List (Str × Addr)) (f9 : List Addr), PG (X.blk s H scp (compEnvC scp cls9 C X.env) f9) tg1 g1) (q9 : ∀ (s : Shared) (H : Hp) (C : Addr) (cls9 : List (Str × Addr)) (f9 : List Addr), PTs (X.blk s H scp (compEnvC scp cls9 C X.env) f9) fs9 tt1)
    (q5 : ∀ (s : Shared) (H : Hp) (C : Addr) (cls9 : List (Str × Addr)) (f9 : List Addr), PE (X.blk s H scp (compEnvC scp cls9 C X.env) f9) el9 te) (q6 : ∀ x, foldedSetIterable itr X.env x = pure x := by intro _; rfl) (q10 : ∀ env x, foldedSetIterable itr1 env x = pure x := by intro _ _; rfl) :
    PE X (.SetComp el9 [⟨tg, itr, fs0, 0⟩, ⟨tg1, itr1, fs9, 0⟩] scp pos) (tSc2 X.w wi g tt wi1 g1 tt1 te (ow.map (·.2)) ws1) := by
  refine ⟨fun pins s σ H Q I h => ?_⟩
  rw [PpSet.eval_SetComp]
  refine sc2_core q0 q1 I r1 ok q2 q3 q4 q5 q6 q7 q8 q9 q10 h fun D C s' m H' I' q ns9 f => ⟨m, ns9, fun h'' sb => ?_⟩
  obtain ⟨f0, f1, w2, w3, f4, f5⟩ := f
  exact ⟨.ref D, H', I'.turned (t' := s'.toks) (fun b o hb e => (sb.2 b hb).trans e) f0 f1 w3 f4 f5, rfl, q⟩
end
end Zb
end
section
set_option Elab.async false
set_option linter.all false
set_option maxRecDepth 100000
set_option maxHeartbeats 1000000
/-! Zt3: sorted of a set of texts. -/
namespace Zb
open PySem PySem.Spec PyProof.Rows L2
def strV (v : Value) : Str := match v with
  | .str x _ => x
  | _ => ⟨#[]⟩
theorem vals_strV : ∀ (vs : List Value), (∀ v ∈ vs, ∃ x tk, v = Value.str x tk) → Vals ((vs.map strV).map V.str) vs
  | [], _ => .nil
  | v :: vs, h => by
    obtain ⟨x, tk, rfl⟩ := h v List.mem_cons_self
    exact .cons ⟨tk, rfl⟩ (vals_strV vs fun u hu => h u (List.mem_cons_of_mem _ hu))
section
variable {P : Program} {w : World} {A : Around} {E : Value → Shared → Prop} {s : Shared} {a : Addr}
theorem sorted_tset {S : Str → Bool} {n : Nat} {Q : Value → Shared → Prop} (R : TSet w s.heap a S n) (hh : A.handled = none) (h64 : n < 64)
    (k : ∀ s' p (out : Array Value) (c : Nat) (ys : List Str), (∀ b o, s.heap.get? b = some o → s'.heap.get? b = some o) → s'.gens = s.gens → s'.os = s.os → s.heap.objs.size ≤ p →
      s'.heap.get? p = some (seqObj "list" out c) → StrsAre out.toList ys → sortedS ys = true → ys.Nodup → (∀ k, k ∈ ys ↔ S k = true) → ys.length = n → Q (.ref p) s') : wpAny (model P w) A (call (.builtin "sorted") [.ref a]) Q E s := by
  obtain ⟨o, es, ep, t, ho, hex, hd, g, nd, hm, hb, hf, hn, hr, hl⟩ := R
  refine Calls.call_function_entry kind_sorted plain_sorted entry_sorted (args_sorted1 _) ?_
  unfold Builtin.«sorted»
  refine wpAny_bind (m := checkCount "sorted" 1 1 _) (wpAny_pure (wpAny_bind (collect_set (A := A.in1) hh ⟨o, ho, hex.1, hd⟩ hf hb hr hl fun s1 vs k1 hz gg1 oo1 pq => ?_)))
  have lv : vs.length = n := by rw [pq.length_eq, List.length_map, Array.length_toList]; exact hn
  have isS : ∀ v ∈ vs, ∃ x tk, v = Value.str x tk := fun v hv => by
    obtain ⟨e, he, rfl⟩ := List.mem_map.mp (pq.mem_iff.mp hv)
    obtain ⟨x, tk, e1, _⟩ := g e he
    exact ⟨x, tk, e1⟩
  have SA : StrsAre vs (vs.map strV) := (vals_strV vs isS).strs
  have pk : (vs.map strV).Perm (es.toList.map txOf) := by
    have z := pq.map strV
    rw [List.map_map] at z
    exact z
  refine wpAny_bind (wpAny_newList ?_ (by rw [lv, sizeLine_eq]; omega))
  have hoL : (s1.heap.push (seqObj "list" vs.toArray 0)).get? s1.heap.objs.size = some (seqObj "list" vs.toArray 0) := Heap.get?_push_size _ rfl
  refine wpAny_bind (wpAny_holding (wpAny_call_entry PyProof.Rows.slot_list_sort ⟨_, hoL, rfl⟩ PyProof.Rows.entry_list_sort
    (list_sort_treeK strKind_oneLt hoL SA.keysOf (fun v₁ v₂ rest e => keyKind_strs (by rw [← e]; exact SA)) (by rw [lv]; exact h64) fun st' hp hs => ?_) (PyProof.Rows.args_list_sort _)))
  obtain ⟨ys, y1, y2, y3⟩ := sorted_out_str SA hp hs
  obtain ⟨c, hc⟩ := PyProof.Rows.sortedHeap_at (vs := vs) (out := (arrOf st').map (·.2)) hoL
  have py : ys.Perm (es.toList.map txOf) := y2.trans pk
  refine ⟨.none, rfl, wpAny_pure ⟨_, rfl, k _ s1.heap.objs.size _ c ys (fun b u e => ?_) gg1 oo1 hz hc y1 y3 (py.nodup_iff.mpr nd) (fun k => by rw [py.mem_iff, ← hm k]) (by rw [y2.length_eq, List.length_map, lv])⟩⟩
  have q := k1 b u e
  have hlt := Heap.lt_size q
  have h1 : (s1.heap.push (seqObj "list" vs.toArray 0)).get? b = some u := Heap.get?_push_of_some _ q
  have h2 : b < (s1.heap.push (seqObj "list" vs.toArray 0)).objs.size := by rw [Heap.size_push]; exact Nat.lt_succ_of_lt hlt
  exact (PyProof.Rows.sortedHeap_old (Nat.ne_of_lt hlt) h2).trans h1
end
section
variable {X : Cx}
def rSortTS (w : World) : List V → Hp → VK → Prop := fun vs H Q => ∃ (a : Addr) (S : Str → Bool) (n : Nat), vs = [V.ref a] ∧ H a = some (TSO w a S n) ∧ n < 64 ∧
  ∀ (ys : List Str) (p : Addr), sortedS ys = true → ys.Nodup → (∀ k, k ∈ ys ↔ S k = true) → H p = none → Q (.ref p) (upd H p (.lst (ys.map V.str)))
theorem cr_sortTS (hc : X.calm = true) : CallR X (.builtin "sorted") (rSortTS X.w) := by
  intro pins s σ H vs us Q I r h
  obtain ⟨a, S, n, rfl, ha, h64, q⟩ := h
  have R : TSet X.w s.heap a S n := (I.hok a _ ha).1
  rw [Vals.ref1 r]
  refine sorted_tset R (I.ok.hd hc) h64 fun s' p out c ys k g o hp hg hi hs hnd hm hlen => ?_
  have hn : H p = none := I.hok.fresh hp
  have hl : (ys.map V.str).length ≤ sizeLine := by rw [List.length_map, hlen]; exact Nat.le_trans (Nat.le_of_lt h64) (by decide)
  obtain ⟨hh, gg, dd, tt, oo⟩ := s'
  have ho : oo = s.os := o
  subst ho
  exact ⟨.ref p, upd H p (.lst (ys.map V.str)), I.call (ch := []) (h' := hh) (g' := gg) (d' := dd) (t' := tt) (Un.laid k hp hn) (I.hok.laid k hp ⟨hl, out.toList, c, vals_of_strs hi, hg⟩) (by rw [show gg = s.gens from g]; exact I.bare) (fun _ z => nomatch z), rfl, q ys p hs hnd hm hn⟩
end
end Zb
end
section
set_option Elab.async false
set_option linter.all false
set_option maxRecDepth 100000
/-! Zt4: tuple(sorted({..})) of signs; Form.signs. -/
namespace Zb
open PySem PySem.Spec PyProof.Rows L2 SlX
section
variable {K : PySem.W.Frag} {w : World} {σ : L2.St} {M B : Hp} {te : TE} {wi wi1 : TI} {vs vs1 : List Nat}
theorem en_sc2 {α β : Type} {R : α → Up} {T : α → β → Up} {cf : α → β → Nat} {xs : List α} {ys : α → List β} {j k : Nat} (hi : EvI wi σ M B (xs.map R))
    (hl : (xs.map fun x => (ys x).length).sum < 64) (hw : ∀ x, wipe ((wipe σ vs).set j (some x)) vs = wipe σ vs)
    (h1 : ∀ x ∈ xs, ∀ v M1 B1, Same M M1 → Same B B1 → (R x).p v B1 → EvI wi1 ((wipe σ vs).set j (some v)) M1 B1 ((ys x).map (T x)))
    (hw1 : ∀ x y, wipe ((wipe ((wipe σ vs).set j (some x)) vs1).set k (some y)) vs1 = wipe ((wipe σ vs).set j (some x)) vs1)
    (he : ∀ x ∈ xs, ∀ y ∈ ys x, ∀ v z M1 B1, Same M M1 → Same B B1 → (R x).p v B1 → (T x y).p z B1 → Ev te ((wipe ((wipe σ vs).set j (some v)) vs1).set k (some z)) M1 B1 (rTx [cf x y]))
    {cs : List Nat} (hc : cs.Pairwise (· < ·)) (hm : ∀ c, c ∈ cs ↔ ∃ x ∈ xs, ∃ y ∈ ys x, cf x y = c) :
    EvN (tCB (rSortTS w) (tCons (tSc2 w wi (gName j) tYes wi1 (gName k) tYes te vs vs1) tNil)) σ M B (Al (fun c => rTx [c]) cs) := fun M1 B1 m b d Q q => hi M1 B1 m b d _ fun J B2 b2 d2 wk => fun D hD => by
  obtain ⟨hm1, hb⟩ := jn_none hD
  have part : ∀ i, ((xs.take i).map fun x => (ys x).length).sum ≤ (xs.map fun x => (ys x).length).sum := fun i => by
    conv => rhs; rw [← List.take_append_drop i xs]
    rw [List.map_append, List.sum_append]
    omega
  refine ⟨fun i n H => ∃ B3 S N, n + i = xs.length ∧ H = jn B3 (upd M1 D (TSO w D S N)) ∧ Same B2 B3 ∧ Dj B3 M1 ∧ B3 D = none ∧ N ≤ ((xs.take i).map fun x => (ys x).length).sum ∧ ∀ t, S t = true ↔ ∃ x ∈ xs.take i, ∃ y ∈ ys x, t = tx [cf x y],
    ⟨xs.length, B2, fun _ => false, 0, rfl, by rw [jn_updM], Same.refl _, d2, hb, Nat.zero_le _, fun t => ⟨fun z => (nomatch z), fun ⟨x, hx, _⟩ => by rw [List.take_zero] at hx; cases hx⟩⟩, ?_⟩
  rintro i n H ⟨B3, S, N, hn, rfl, b3, d3, n3, hN, hS⟩
  have dj : Dj B3 (upd M1 D (TSO w D S N)) := dj_m d3 n3
  by_cases hlt : i < xs.length
  · have ex : xs[i]? = some xs[i] := List.getElem?_eq_getElem hlt
    refine .inr ⟨wk.go i _ B3 b3 dj (by rw [List.length_map]; exact hlt), fun H' => ∃ B4 S N, H' = jn B4 (upd M1 D (TSO w D S N)) ∧ Same B2 B4 ∧ Dj B4 M1 ∧ B4 D = none ∧ N ≤ ((xs.take (i + 1)).map fun x => (ys x).length).sum ∧ ∀ t, S t = true ↔ ∃ x ∈ xs.take (i + 1), ∃ y ∈ ys x, t = tx [cf x y],
      fun H' ⟨B4, S', N', e1, e2, e3, e4, e5, e6⟩ => ⟨n - 1, by omega, B4, S', N', by omega, e1, e2, e3, e4, e5, e6⟩, fun v H' y => ?_⟩
    obtain ⟨B4, b4, d4, rfl, hu⟩ := wk.yl i (R xs[i]) _ B3 v H' (by rw [List.getElem?_map, ex]; rfl) b3 dj y
    refine ⟨hw v, ?_⟩
    show wi1 _ _ _
    refine h1 xs[i] (List.getElem_mem hlt) v _ B4 (m.trans (same_new hm1)) (b.trans (b2.trans (b3.trans b4))) hu _ B4 (Same.refl _) (Same.refl _) d4 _ fun J1 B5 b5 d5 wk1 => ?_
    refine ⟨fun r c H => ∃ B6 S' N', c + r = (ys xs[i]).length ∧ H = jn B6 (upd M1 D (TSO w D S' N')) ∧ Same B5 B6 ∧ Dj B6 M1 ∧ B6 D = none ∧ N' ≤ N + r ∧ ∀ t, S' t = true ↔ (S t = true ∨ ∃ y ∈ (ys xs[i]).take r, t = tx [cf xs[i] y]),
      ⟨(ys xs[i]).length, B5, S, N, rfl, rfl, Same.refl _, dj_sub hm1 d5, dj_none d5 upd_same, Nat.le_refl _, fun t => ⟨.inl, fun z => z.elim id fun ⟨y, hy, _⟩ => by rw [List.take_zero] at hy; cases hy⟩⟩, ?_⟩
    rintro r c H ⟨B6, S', N', hcr, rfl, b6, d6, n6, hN6, hS6⟩
    have dj6 : Dj B6 (upd M1 D (TSO w D S' N')) := dj_m d6 n6
    have p1 := part (i + 1)
    rw [take_snoc ex, List.map_append, List.sum_append] at p1
    simp only [List.map_cons, List.map_nil, List.sum_cons, List.sum_nil, Nat.add_zero] at p1
    by_cases hlt2 : r < (ys xs[i]).length
    · have ey : (ys xs[i])[r]? = some (ys xs[i])[r] := List.getElem?_eq_getElem hlt2
      refine .inr ⟨wk1.go r _ B6 b6 dj6 (by rw [List.length_map]; exact hlt2), fun H' => ∃ B7 S2 N2, H' = jn B7 (upd M1 D (TSO w D S2 N2)) ∧ Same B5 B7 ∧ Dj B7 M1 ∧ B7 D = none ∧ N2 ≤ N + (r + 1) ∧ ∀ t, S2 t = true ↔ (S t = true ∨ ∃ y ∈ (ys xs[i]).take (r + 1), t = tx [cf xs[i] y]),
        fun H' ⟨B7, S2, N2, e1, e2, e3, e4, e5, e6⟩ => ⟨c - 1, by omega, B7, S2, N2, by omega, e1, e2, e3, e4, e5, e6⟩, fun u H' y2 => ?_⟩
      obtain ⟨B7, b7, d7, rfl, hu2⟩ := wk1.yl r (T xs[i] (ys xs[i])[r]) _ B6 u H' (by rw [List.getElem?_map, ey]; rfl) b6 dj6 y2
      refine ⟨hw1 v u, ?_⟩
      show te _ _ _
      refine he xs[i] (List.getElem_mem hlt) (ys xs[i])[r] (List.getElem_mem hlt2) v u _ B7 (m.trans (same_new hm1)) (b.trans (b2.trans (b3.trans (b4.trans (b5.trans (b6.trans b7)))))) ((R _).up (b5.trans (b6.trans b7)) hu) hu2 _ B7 (Same.refl _) (Same.refl _) d7 _ fun z B8 b8 d8 hz => ?_
      refine ⟨tx [cf xs[i] (ys xs[i])[r]], S', N', hz, jn_m upd_same, Nat.lt_of_lt_of_le (by omega : N' + 1 < 1000) (by decide), B8, _, _, by rw [jn_updM, upd_upd], b6.trans (b7.trans b8), dj_sub hm1 d8, dj_none d8 upd_same, by split <;> omega, fun t => ?_⟩
      rw [Bool.or_eq_true, decide_eq_true_eq, hS6 t, take_snoc ey]
      constructor
      · rintro ((z | ⟨y, hy, e⟩) | z)
        · exact .inl z
        · exact .inr ⟨y, List.mem_append_left _ hy, e⟩
        · exact .inr ⟨_, List.mem_append_right _ (List.mem_singleton.mpr rfl), z⟩
      · rintro (z | ⟨y, hy, e⟩)
        · exact .inl (.inl z)
        · rcases List.mem_append.mp hy with hy | hy
          · exact .inl (.inr ⟨y, hy, e⟩)
          · rw [List.mem_singleton.mp hy] at e
            exact .inr e
    · have er : r = (ys xs[i]).length := by omega
      subst er
      refine .inl ⟨by have := wk1.st _ B6 b6 dj6; rw [List.length_map] at this; exact this, B6, S', N', rfl, b3.trans (b4.trans (b5.trans b6)), d6, n6, ?_, fun t => ?_⟩
      · rw [take_snoc ex, List.map_append, List.sum_append]
        simp only [List.map_cons, List.map_nil, List.sum_cons, List.sum_nil, Nat.add_zero]
        omega
      · rw [hS6 t, hS t, List.take_length, take_snoc ex]
        constructor
        · rintro (⟨x, hx, z⟩ | z)
          · exact ⟨x, List.mem_append_left _ hx, z⟩
          · exact ⟨xs[i], List.mem_append_right _ (List.mem_singleton.mpr rfl), z⟩
        · rintro ⟨x, hx, z⟩
          rcases List.mem_append.mp hx with hx | hx
          · exact .inl ⟨x, hx, z⟩
          · rw [List.mem_singleton.mp hx] at z
            exact .inr z
  · have e : i = xs.length := by omega
    subst e
    rw [List.take_length] at hS hN
    refine .inl ⟨by have := wk.st _ B3 b3 dj; rw [List.length_map] at this; exact this, D, S, N, rfl, jn_m upd_same, by omega, fun ts p hs hnd hts hp => ?_⟩
    rw [jn_pub hm1] at hp ⊢
    have dB : Dj (upd B3 D (TSO w D S N)) M1 := dj_b d3 hm1
    obtain ⟨hp1, hp2⟩ := jn_none hp
    rw [jn_updM]
    have et : ts = cs.map fun c => tx [c] := by
      refine sorted_signs hc ((List.perm_ext_iff_of_nodup hnd ?_).mpr fun t => ?_) hs
      · refine List.Pairwise.map _ (fun a b h e => h (by have := tx_inj e; cases this; rfl)) (hc.imp fun h => Nat.ne_of_lt h)
      · rw [hts t, hS t, List.mem_map]
        constructor
        · rintro ⟨x, hx, y, hy, rfl⟩
          exact ⟨cf x y, (hm _).mpr ⟨x, hx, y, hy, rfl⟩, rfl⟩
        · rintro ⟨c, hc', rfl⟩
          obtain ⟨x, hx, y, hy, rfl⟩ := (hm c).mp hc'
          exact ⟨x, hx, y, hy, rfl⟩
    refine q p _ _ (b2.trans (b3.trans (same_new n3))) dB hp1 hp2 ?_
    rw [et, List.map_map]
    exact Al.ofV (f := fun c : Nat => V.str (tx [c])) cs
end
/-- the signs of a machine, in order -/
def signsOf (m : Mach) : List Nat := Alph.filter fun c => m.any fun q => q.1.any fun p => p.1 == c
theorem signsOf_asc {m : Mach} : (signsOf m).Pairwise (· < ·) := List.Pairwise.sublist List.filter_sublist (by decide)
theorem mem_signsOf {m : Mach} (wf : Wf m) {c : Nat} : c ∈ signsOf m ↔ ∃ q ∈ m, ∃ p ∈ q.1, p.1 = c := by
  unfold signsOf
  rw [List.mem_filter, List.any_eq_true]
  constructor
  · rintro ⟨_, q, hq, h⟩
    obtain ⟨p, hp, e⟩ := List.any_eq_true.mp h
    exact ⟨q, hq, p, hp, by simpa using e⟩
  · rintro ⟨q, hq, p, hp, rfl⟩
    exact ⟨(wf.row q hq).sg p hp, q, hq, List.any_eq_true.mpr ⟨p, hp, by simp⟩⟩
abbrev s_Form_signs : Stmt := inClass (top 37) 5
theorem sc_Form_signs : FnScope ["self", "moves", "sign"] ["self"] (defScope s_Form_signs) := ⟨rfl, rfl, rfl, by decide +kernel, rfl, by decide +kernel, by decide +kernel⟩
def sp_signs (c : Cs) : Sp := spF (α := Mach) (fun m => [rForm c m]) (fun m => Wf m ∧ m.length ≤ 8) (fun m => rTup (fun s => rTx [s]) (signsOf m))
theorem ev_signs {c : Cs} {σ : L2.St} {M B : Hp} {ta : TE} {m : Mach} (h : Ev ta σ M B (rForm c m)) (wf : Wf m) (h8 : m.length ≤ 8) : Ev (tPropI [c.CF, c.CM] (sp_signs c) ta) σ M B (rTup (fun s => rTx [s]) (signsOf m)) := fun M1 B1 mm b d Q q => h M1 B1 mm b d _ fun v B2 b2 d2 hv => by
  obtain ⟨a, C, e, hC, hi⟩ := isI_form d2 hv
  refine ⟨a, C, e, hC, hi, m, B2, M1, rfl, d2, ⟨wf, h8⟩, .cons (by rw [← e]; exact hv) .nil, fun z B3 b3 d3 hz => q z B3 (b2.trans b3) d3 hz⟩
section
variable {P : Program} {w : World} {K : PySem.W.Frag} {mg : Str → Option Value} {base : Heap} {c : Cs}
theorem f_signs {f : Addr} {fd : FuncData} (F : FunD K "signs" "Form.signs" (defArgs s_Form_signs) (defBody s_Form_signs) (defScope s_Form_signs) [] [] f fd) (Kk : Kc K c) (T : Bt mg) : FnR P w K mg base CX0 1 f (sp_signs c) := by
  have G : FnOk P w K mg base CX0 1 f fd ["self"] (sp_signs c) := fnok_of F sc_Form_signs (spF_len fun _ => rfl) fun f cdv A outer s H vs Q E hr h => by
    obtain ⟨m, B, M, rfl, d, ⟨wf, h8⟩, al, q⟩ := h
    have sc := sc_Form_signs
    refine ⟨_, (pss_one (ps_ret (pe_callTy (kc_tup K rfl) (by rfl) T.tuple (by decide +kernel) (pa_cons (pe_callB (cr_sortTS rfl) (by rfl) T.sorted (by decide +kernel) (pa_cons (pe_sc2 (ow := [("moves", 1), ("sign", 2)]) (ws1 := [2]) rfl sc.nd (kpi_list K rfl (kpe_sl K rfl (pv 0))) (blkOk_by (by kernel_rfl)) (by decide) (fun _ _ _ _ _ => (pg_name (i := 1) sc.nd rfl (.inl rfl))) (fun _ _ _ _ _ => pts_nil) (fun _ _ _ _ _ => (pi_keys (pv 1))) (fun _ _ _ _ _ => (pg_name (i := 2) sc.nd rfl (.inl rfl))) (fun _ _ _ _ _ => pts_nil) (fun _ _ _ _ _ => (pv 2))) pa_nil)) pa_nil)))), ?_⟩
    cases al with
    | cons h1 al =>
      cases al
      refine s_ret (U := rTup (fun s => rTx [s]) (signsOf m)) (ev_tupL (EvN.lst ?_)) d q
      have hs := sum_le (f := fun r : Row => r.length) (c := 5) (xs := rows m) fun r hr => by
        obtain ⟨q, hq, rfl⟩ := List.mem_map.mp hr
        exact (wf.row q hq).len
      have hlr : (rows m).length = m.length := List.length_map ..
      refine en_sc2 (R := rRow) (T := fun _ (q : Nat × Nat) => rTx [q.1]) (cf := fun _ q => q.1) (xs := rows m) (ys := fun r : Row => r) (ei_list (ev_moves Kk (ev_v (U := rForm c m) rfl h1))) (by omega) (fun _ => rfl) (fun r hr v M1 B1 _ _ hv => ei_keys (ev_v (U := rRow r) rfl hv)) (fun _ _ => rfl)
        (fun r _ q _ v z M1 B1 _ _ _ hz => ev_v (U := rTx [q.1]) rfl hz) signsOf_asc fun c => ?_
      rw [mem_signsOf wf]
      constructor
      · rintro ⟨q, hq, p, hp, e⟩
        exact ⟨q.1, List.mem_map_of_mem (f := fun q : Row × Bool => q.1) hq, p, hp, e⟩
      · rintro ⟨r, hr, p, hp, e⟩
        obtain ⟨q, hq, rfl⟩ := List.mem_map.mp hr
        exact ⟨q, hq, p, hp, e⟩
  have b := F.bindsN (ps := ["self"]) fun _ _ _ _ _ _ us hl => match us, hl with | [_], _ => rfl
  have := G.raw b .nil
  simpa using this
end
end Zb
end
section
set_option Elab.async false
set_option linter.all false
set_option maxRecDepth 100000
set_option maxHeartbeats 1000000
/-! Zn1: dicts whose keys are nested tuples. -/
namespace Zb
open PySem PySem.Spec PyProof.Rows L2

mutual
/-- the value v is the key k -/
inductive NKr (H : Hp) : NestedKey → V → Prop where
  | num (i : Int) : NKr H (.num i) (.int i)
  | text (x : Str) : NKr H (.text x) (.str x)
  | tup {a : Addr} {vs : List V} {ks : List NestedKey} : H a = some (.tup vs) → NKrs H ks vs → NKr H (.tup ks) (.ref a)
inductive NKrs (H : Hp) : List NestedKey → List V → Prop where
  | nil : NKrs H [] []
  | cons {k : NestedKey} {v : V} {ks : List NestedKey} {vs : List V} : NKr H k v → NKrs H ks vs → NKrs H (k :: ks) (v :: vs)
end
mutual
theorem NKr.up {H H' : Hp} (s : ∀ a xs, H a = some (.tup xs) → H' a = some (.tup xs)) : ∀ {k : NestedKey} {v : V}, NKr H k v → NKr H' k v
  | _, _, .num i => .num i
  | _, _, .text x => .text x
  | _, _, .tup h t => .tup (s _ _ h) (NKrs.up s t)
theorem NKrs.up {H H' : Hp} (s : ∀ a xs, H a = some (.tup xs) → H' a = some (.tup xs)) : ∀ {ks : List NestedKey} {vs : List V}, NKrs H ks vs → NKrs H' ks vs
  | _, _, .nil => .nil
  | _, _, .cons h t => .cons (NKr.up s h) (NKrs.up s t)
end
mutual
theorem NKr.is {P : Program} {w : World} {H : Hp} {h : Heap} (ok : HOk P w H h) : ∀ {k : NestedKey} {v : V} {u : Value}, NKr H k v → RelV v u → NestedIs h k u
  | _, _, u, .num i, r => by
    obtain ⟨t, rfl⟩ := r
    exact .int i t
  | _, _, u, .text x, r => by
    obtain ⟨t, rfl⟩ := r
    exact .text x t
  | _, _, u, .tup e t, r => by
    have eu : u = Value.ref _ := r
    subst eu
    obtain ⟨_, its, rv, o, ho, hc, n, hd⟩ := ok _ _ e
    exact .tup ho hc hd (by rw [List.toList_toArray]; exact NKrs.is ok t rv)
theorem NKrs.is {P : Program} {w : World} {H : Hp} {h : Heap} (ok : HOk P w H h) : ∀ {ks : List NestedKey} {vs : List V} {us : List Value}, NKrs H ks vs → Vals vs us → NestedAll h ks us
  | _, _, _, .nil, r => by cases r; exact .nil
  | _, _, _, .cons h t, r => by
    cases r with
    | cons a b => exact .cons (NKr.is ok h a) (NKrs.is ok t b)
end
abbrev NX : Type := NestedKey × Addr × V
def NRel (p : NX) (q : NestedKey × Addr × Value) : Prop := p.1 = q.1 ∧ p.2.1 = q.2.1 ∧ RelV p.2.2 q.2.2
/-- the dict at a, its entries -/
def NDo (P : Program) (w : World) (a : Addr) (xs : List NX) : HO := .ext fun h => (a == sysModules) = false ∧ ∃ us, Paired NRel xs us ∧ ∃ o es ep, h.get? a = some o ∧ o.ExactDict ∧ o.data = .dict es ep ∧ es.toList = us.map (entryOfKey (nestedKind P w)) ∧ (us.map (·.1)).Nodup
def NOk (H : Hp) (xs : List NX) : Prop := ∀ p ∈ xs, NKr H p.1 (.ref p.2.1) ∧ p.1.depth ≤ 8
def ndAt (xs : List NX) (k : NestedKey) : Option V := (xs.find? fun p => decide (p.1 = k)).map fun p => p.2.2
theorem nd_at {k : NestedKey} : ∀ {xs : List NX} {us : List (NestedKey × Addr × Value)}, Paired NRel xs us → (ndAt xs k = none ∧ atKey us k = none) ∨ ∃ v b u, ndAt xs k = some v ∧ atKey us k = some (b, u) ∧ RelV v u
  | _, _, .nil => .inl ⟨rfl, rfl⟩
  | p :: xs, q :: us, .cons h t => by
    obtain ⟨e1, e2, r⟩ := h
    unfold ndAt atKey
    rw [List.find?_cons, List.find?_cons, ← e1]
    by_cases hk : p.1 = k
    · simp only [hk, decide_true]
      exact .inr ⟨_, q.2.1, q.2.2, rfl, rfl, r⟩
    · simp only [hk, decide_false]
      exact nd_at t
section
variable {X : Cx} {pins : List (Addr × Obj)} {σ : L2.St} {H : Hp} {s : Shared} {a b : Addr} {xs : List NX} {k : NestedKey}
theorem nd_dict (I : Inv X pins σ H s) (ha : H a = some (NDo X.prog X.w a xs)) (hk : NOk H xs) : (a == sysModules) = false ∧ ∃ us, Paired NRel xs us ∧ s.heap.DictOfH (nestedKind X.prog X.w) a us := by
  obtain ⟨hs, us, r, o, es, ep, ho, hx, hd, he, hn⟩ := (I.hok a _ ha).1
  refine ⟨hs, us, r, o, es, ep, ho, hx, hd, he, fun x hxm => ?_, hn⟩
  have key : ∀ {xs : List NX} {us : List (NestedKey × Addr × Value)}, Paired NRel xs us → NOk H xs → ∀ x ∈ us, (nestedKind X.prog X.w).is s.heap x.1 x.2.1 := by
    intro xs us r
    induction r with
    | nil => intro _ x hx; cases hx
    | @cons p q ps qs h t ih =>
      intro ok x hx
      rcases List.mem_cons.mp hx with rfl | hx
      · obtain ⟨e1, e2, _⟩ := h
        obtain ⟨n1, n2⟩ := ok p List.mem_cons_self
        refine ⟨?_, ?_⟩
        · rw [← e1, ← e2]
          exact n1.is I.hok rfl
        · rw [← e1]
          exact n2
      · exact ih (fun z hz => ok z (List.mem_cons_of_mem _ hz)) x hx
  exact key r hk x hxm
theorem nd_obj {P : Program} {w : World} {h : Heap} {us : List (NestedKey × Addr × Value)} (hs : (a == sysModules) = false) (r : Paired NRel xs us) (d : h.DictOfH (nestedKind P w) a us) : ObjOk P w H h a (NDo P w a xs) := by
  obtain ⟨o, es, ep, ho, hx, hd, he, _, hn⟩ := d
  exact ⟨⟨hs, us, r, o, es, ep, ho, hx, hd, he, hn⟩, ⟨o, ho⟩, fun h1 h2 ⟨q0, us', q1, o', es', ep', q2, q3⟩ kk => ⟨q0, us', q1, o', es', ep', kk _ q2, q3⟩⟩
theorem nd_key (I : Inv X pins σ H s) (h : NKr H k (.ref b)) (hd : k.depth ≤ 8) : (nestedKind X.prog X.w).is s.heap k b := ⟨h.is I.hok rfl, hd⟩
theorem room_nk {j : Nat} {A : Around} {P : Program} {w : World} (h : Room j A) : (nestedKind P w).room A.in1 := by
  show A.units + 1 + 8 < cLine
  have := h.un
  omega
end
end Zb
end
section
set_option Elab.async false
set_option linter.all false
set_option maxRecDepth 100000
set_option maxHeartbeats 1000000
/-! Zn2: operations of dicts whose keys are nested tuples. -/
namespace Zb
open PySem PySem.Spec PyProof.Rows L2

theorem mut_ext {φ : Heap → Prop} : Mut (some (.ext φ)) := trivial
section
variable {X : Cx} {j : Nat}
/-- what is asked of a dict a and a key b -/
def NdKey (P : Program) (w : World) (H : Hp) (a b : Addr) (xs : List NX) (k : NestedKey) : Prop := H a = some (NDo P w a xs) ∧ NOk H xs ∧ NKr H k (.ref b) ∧ k.depth ≤ 8
def rNdNotIn (P : Program) (w : World) : R2 := fun x y H Q => ∃ a b xs k, x = .ref b ∧ y = .ref a ∧ NdKey P w H a b xs k ∧ Q (.bl (!(ndAt xs k).isSome)) H
theorem op_ndNotIn (hr : Room j X.A) : OpR X (compareOp .NotIn) (rNdNotIn X.prog X.w) := by
  intro pins s σ H x y v u Q I rx ry h
  obtain ⟨a, b, xs, k, rfl, rfl, ⟨ha, hok, hk, hd⟩, q⟩ := h
  cases (show v = Value.ref b from rx)
  cases (show u = Value.ref a from ry)
  obtain ⟨hs, us, r, d⟩ := nd_dict I ha hok
  refine notIn_keyed (knd := nestedKind X.prog X.w) (room_nk hr) (nd_key I hk hd) hs ⟨us, d, rfl⟩ ?_
  have e : (valueAt (pairsH us) k).isSome = (ndAt xs k).isSome := by
    rw [valueAt_pairsH]
    rcases nd_at (k := k) r with ⟨e1, e2⟩ | ⟨v, b, u, e1, e2, _⟩
    · rw [e1, e2]; rfl
    · rw [e1, e2]; rfl
  rw [e]
  exact ⟨.bl (!(ndAt xs k).isSome), H, I.tok _, rfl, q⟩
theorem nrel_snoc {xs : List NX} {us : List (NestedKey × Addr × Value)} {p : NX} {q : NestedKey × Addr × Value} (h : NRel p q) (r : Paired NRel xs us) : Paired NRel (xs ++ [p]) (us ++ [q]) := by
  induction r with
  | nil => exact .cons h .nil
  | cons a b ih => exact .cons a ih
/-- d[k] = v, k new -/
def rNdPut (P : Program) (w : World) : L2.TSet := fun o i v H Q => ∃ a b xs k, o = .ref a ∧ i = .ref b ∧ NdKey P w H a b xs k ∧ ndAt xs k = none ∧ xs.length ≤ 100000 ∧ Q (upd H a (NDo P w a (xs ++ [(k, b, v)])))
theorem set_nd (hr : Room j X.A) : PSet X (rNdPut X.prog X.w) := by
  intro pins s σ H o i v ov iv u Q I ro ri rv h
  obtain ⟨a, b, xs, k, rfl, rfl, ⟨ha, hok, hk, hd⟩, hn, hl, q⟩ := h
  cases (show ov = Value.ref a from ro)
  cases (show iv = Value.ref b from ri)
  obtain ⟨hs, us, r, d⟩ := nd_dict I ha hok
  have hnu : atKey us k = none := by
    rcases nd_at (k := k) r with ⟨_, e2⟩ | ⟨v, b, u, e1, _, _⟩
    · exact e2
    · rw [hn] at e1; cases e1
  have hul : us.length ≤ sizeLine := by rw [← Paired.length r]; exact Nat.le_trans hl (by decide)
  refine wpAny_setItem_heap (knd := nestedKind X.prog X.w) (room_nk hr) (nd_key I hk hd) d (fun h' d' sb => ?_) hul
  rw [storedH_new hnu] at d'
  obtain ⟨oo, es, ep, ho, _⟩ := id d'
  exact ⟨_, I.write (e := a) (t' := s.toks + _) (by rw [ha]; exact mut_ext) (.inl rfl) (fun c z hc hz => (sb.2 c hc).trans hz) ⟨oo, ho⟩ (nd_obj hs (nrel_snoc (p := (k, b, v)) (q := (k, b, u)) ⟨rfl, rfl, rv⟩ r) d'), q⟩
/-- d.setdefault(k, v) -/
def tNdSetd (P : Program) (w : World) (td ty tx : TE) : TE := fun σ H Q => td σ H fun x H1 => (∃ a xs, x = .ref a ∧ H1 a = some (NDo P w a xs)) ∧ ty σ H1 fun y H2 => tx σ H2 fun z H3 => ∃ a b xs k, x = .ref a ∧ y = .ref b ∧ NdKey P w H3 a b xs k ∧ xs.length ≤ 100000 ∧
  (∀ v, ndAt xs k = some v → Q v H3) ∧ (ndAt xs k = none → Q z (upd H3 a (NDo P w a (xs ++ [(k, b, z)]))))
theorem pe_ndSetd {o e f : Expr} {td ty tx : TE} {apos cpos : Pos} (hr : Room j X.A) (ho : PE X o td) (he : PE X e ty) (hf : PE X f tx) (m : M2 X o "setdefault" apos e f cpos) : PE X (.Call (.Attribute o "setdefault" apos) [e, f] [] cpos) (tNdSetd X.prog X.w td ty tx) := by
  refine ⟨fun pins s σ H Q I h => ?_⟩
  refine wpAny_Call_method m.base m.few m.line PySem.F.plainAttrs_dict PySem.F.slot_dict_setdefault PySem.F.type_dict_setdefault (thn (ho.run pins s σ H _ I h) fun u s1 ⟨x, H1, I1, rx, q0, q1⟩ => ?_)
  obtain ⟨a0, xs0, ex0, ha0⟩ := q0
  subst ex0
  cases (show u = Value.ref a0 from rx)
  obtain ⟨_, us0, _, o0, es0, ep0, ho0, hx0, _⟩ := (I1.hok a0 _ ha0).1
  refine ⟨⟨o0, ho0, hx0.1⟩, fun c z => ?_, ?_⟩
  · cases z
    exact ⟨o0, ho0, hx0.2.1⟩
  rw [m.trees]
  refine Calls.callWith_builtin rfl (Calls.evalArgs_plain (Calls.spliced_cons (thn (he.run pins s1 σ H1 _ I1 q1) fun iv s2 ⟨y, H2, I2, ry, q2⟩ =>
    Calls.spliced_cons (thn (hf.run pins s2 σ H2 _ I2 q2) fun fv s3 ⟨z, H3, I3, rz, a, b, xs, k, ea, ey, ⟨ha, hok, hk, hd⟩, hl, q3, q4⟩ => Calls.spliced_nil ?_))))
  cases ea
  subst ey
  cases (show iv = Value.ref b from ry)
  obtain ⟨hs, us, r, d⟩ := nd_dict I3 ha hok
  have hul : us.length ≤ sizeLine := by rw [← Paired.length r]; exact Nat.le_trans hl (by decide)
  refine call_setdefault_heap (knd := nestedKind X.prog X.w) (room_nk hr) (nd_key I3 hk hd) hs d (fun p hp => ?_) (fun hn h' d' sb => ?_) hul
  · rcases nd_at (k := k) r with ⟨_, e2⟩ | ⟨v, b', u, e1, e2, rv⟩
    · rw [hp] at e2; cases e2
    · rw [hp] at e2
      cases e2
      exact ⟨v, H3, I3.tok _, rv, q3 v e1⟩
  · have hn' : ndAt xs k = none := by
      rcases nd_at (k := k) r with ⟨e1, _⟩ | ⟨v, b', u, _, e2, _⟩
      · exact e1
      · rw [hn] at e2; cases e2
    rw [storedH_new hn] at d'
    obtain ⟨oo, es, ep, hoo, _⟩ := id d'
    exact ⟨z, _, I3.write (e := a0) (t' := s3.toks + _) (by rw [ha]; exact mut_ext) (.inl rfl) (fun c z hc hz => (sb.2 c hc).trans hz) ⟨oo, hoo⟩ (nd_obj hs (nrel_snoc (p := (k, b, z)) (q := (k, b, fv)) ⟨rfl, rfl, rz⟩ r) d'), rz, q4 hn'⟩
/-- {} that will hold nested keys -/
def tNdNew (P : Program) (w : World) : TE := fun σ H Q => ∀ p, H p = none → Q (.ref p) (upd H p (NDo P w p []))
theorem pe_ndNew {pos : Pos} : PE X (.Dict [] [] pos) (tNdNew X.prog X.w) := ⟨fun pins s σ H Q I h => by
  refine wpAny_Dict_empty ⟨.ref s.heap.objs.size, _, I.laid (a := s.heap.objs.size) (o := NDo X.prog X.w s.heap.objs.size []) (t' := s.toks) (fun _ _ q => Heap.get?_push_of_some _ q) (Nat.le_refl _) ?_, rfl, h _ (I.hok.fresh (Nat.le_refl _))⟩
  refine nd_obj (us := []) ?_ .nil (Heap.DictOfH.new s.heap)
  have := I.big
  exact beq_false_of_ne (Nat.ne_of_gt this)⟩
/-- {k: v} -/
def tNdDisp (P : Program) (w : World) (tk tv : TE) : TE := fun σ H Q => ∀ p, H p = none → tk σ (upd H p (NDo P w p [])) fun x H1 => tv σ H1 fun y H2 => H2 p = some (NDo P w p []) ∧ ∃ b k, x = .ref b ∧ NKr H2 k (.ref b) ∧ k.depth ≤ 8 ∧ Q (.ref p) (upd H2 p (NDo P w p [(k, b, y)]))
theorem pe_ndDisp {k v : Expr} {pos : Pos} {tk tv : TE} (hr : Room j X.A) (hk : PE X k tk) (hv : PE X v tv) : PE X (.Dict [some k] [v] pos) (tNdDisp X.prog X.w tk tv) := by
  refine ⟨fun pins s σ H Q I h => ?_⟩
  have hn := I.hok.fresh (Nat.le_refl s.heap.objs.size)
  have hsys : (s.heap.objs.size == sysModules) = false := beq_false_of_ne (Nat.ne_of_gt I.big)
  have I1 : Inv X pins σ (upd H s.heap.objs.size (NDo X.prog X.w s.heap.objs.size [])) { s with heap := s.heap.push { cls := .type "dict", data := .dict #[] } } :=
    I.laid (t' := s.toks) (fun _ _ q => Heap.get?_push_of_some _ q) (Nat.le_refl _) (nd_obj (us := []) hsys .nil (Heap.DictOfH.new s.heap))
  have hu : (nestedKind X.prog X.w).room X.A := by
    show X.A.units + 8 < cLine
    have := hr.un
    omega
  rw [arm_eval_Dict, zip_pairTrees [some k] [v] X.env pos rfl rfl, dictDisplay_pairs _ (by simp [pairTrees]) (by simp [pairTrees])]
  refine wpAny_bind (wpAny_standAt (wpAny_bind (wpAny_subDictH (knd := nestedKind X.prog X.w) hu (by simp [pairTrees]) ?_)))
  refine pairTrees_cons_walk (thn (hk.run pins _ σ _ _ I1 (h _ hn)) fun kv s1 ⟨x, H1, I2, rx, q1⟩ => thn (hv.run pins s1 σ H1 _ I2 q1) fun vv s2 ⟨y, H2, I3, ry, e, b, nk, ex, hnk, hd, q2⟩ => pairTrees_nil_walk ?_)
  subst ex
  cases (show kv = Value.ref b from rx)
  obtain ⟨hs, us, r, d⟩ := nd_dict I3 e (fun p hp => by cases hp)
  cases r
  refine ⟨[(nk, b, vv)], ⟨rfl, rfl, nd_key I3 hnk hd, trivial⟩, d, fun h' tk' d' sb => wpAny_pure ?_⟩
  obtain ⟨oo, es, ep, hoo, _⟩ := id d'
  exact ⟨.ref _, _, I3.write (e := s.heap.objs.size) (t' := tk') (by rw [e]; exact mut_ext) (.inl rfl) (fun c z hc hz => (sb.2 c hc).trans hz) ⟨oo, hoo⟩ (nd_obj (xs := [(nk, b, y)]) hs (.cons ⟨rfl, rfl, ry⟩ .nil) d'), rfl, q2⟩
end
end Zb
end
section
set_option Elab.async false
set_option linter.all false
/-! Zm1: how many values a list holds; partitions; congruences and homomorphisms of machines. -/
namespace Zb
open PySem PyProof.Rows
/-- n values stand in xs -/
def DC (xs : List Nat) (n : Nat) : Prop := ∃ L : List Nat, L.Nodup ∧ (∀ x, x ∈ L ↔ x ∈ xs) ∧ L.length = n
theorem DC.le {xs : List Nat} {n : Nat} (h : DC xs n) : n ≤ xs.length := by
  obtain ⟨L, h1, h2, rfl⟩ := h
  exact sub_len h1 fun x hx => (h2 x).mp hx
theorem getD_idx {xs : List Nat} {v : Nat} (h : v ∈ xs) : xs.getD (xs.idxOf v) 0 = v := by
  have hl := List.idxOf_lt_length_of_mem h
  rw [List.getD_eq_getElem?_getD, List.getElem?_eq_getElem hl]
  exact List.getElem_idxOf hl
theorem getD_mem {xs : List Nat} {i : Nat} (h : i < xs.length) : xs.getD i 0 ∈ xs := by
  rw [List.getD_eq_getElem?_getD, List.getElem?_eq_getElem h]
  exact List.getElem_mem h
/-- F refines P and has no more classes: the same partition -/
theorem part_eq {P F : List Nat} {a b : Nat} (hl : F.length = P.length) (ref : ∀ i j, i < P.length → j < P.length → F.getD i 0 = F.getD j 0 → P.getD i 0 = P.getD j 0) (hP : DC P a) (hF : DC F b) (hba : b ≤ a) {i j : Nat} (hi : i < P.length) (hj : j < P.length)
    (e : P.getD i 0 = P.getD j 0) : F.getD i 0 = F.getD j 0 := by
  refine Decidable.byContradiction fun ne => ?_
  obtain ⟨LP, p1, p2, p3⟩ := hP
  obtain ⟨LF, f1, f2, f3⟩ := hF
  have lt : ∀ v ∈ LP, P.idxOf v < P.length := fun v hv => List.idxOf_lt_length_of_mem ((p2 v).mp hv)
  have at_ : ∀ v ∈ LP, P.getD (P.idxOf v) 0 = v := fun v hv => getD_idx ((p2 v).mp hv)
  have nd : (LP.map fun v => F.getD (P.idxOf v) 0).Nodup := by
    refine (List.pairwise_map).mpr (List.Pairwise.imp_of_mem (fun {v u} hv hu hne e2 => hne ?_) p1)
    have := ref _ _ (lt v hv) (lt u hu) e2
    rw [at_ v hv, at_ u hu] at this
    exact this
  have v0 : P.getD i 0 ∈ LP := (p2 _).mpr (getD_mem hi)
  have go : ∀ x, x < P.length → P.getD x 0 = P.getD i 0 → F.getD x 0 ≠ F.getD (P.idxOf (P.getD i 0)) 0 → False := fun x hx ex hne => by
    have nd2 : (F.getD x 0 :: LP.map fun v => F.getD (P.idxOf v) 0).Nodup := by
      refine List.nodup_cons.mpr ⟨fun hin => ?_, nd⟩
      obtain ⟨v, hv, ev⟩ := List.mem_map.mp hin
      have := ref _ _ (lt v hv) hx ev
      rw [at_ v hv, ex] at this
      rw [this] at ev
      exact hne ev.symm
    have := sub_len (L := LF) nd2 fun y hy => by
      rw [f2]
      rcases List.mem_cons.mp hy with rfl | hy
      · exact getD_mem (by omega)
      · obtain ⟨v, hv, rfl⟩ := List.mem_map.mp hy
        exact getD_mem (by have := lt v hv; omega)
    rw [List.length_cons, List.length_map] at this
    omega
  by_cases h : F.getD i 0 = F.getD (P.idxOf (P.getD i 0)) 0
  · exact go j hj e.symm fun h2 => ne (h.trans h2.symm)
  · exact go i hi rfl h
/-- the number that the program's len(set(..)) gives -/
def fm (xs : List Nat) : Nat := (firstMet (fun i => (xs.map fun i : Nat => (i : Int)).getD i 0) (xs.map fun i : Nat => (i : Int)).length).length
theorem fst_nd (val : Nat → Int) : ∀ i, (firstMet val i).Nodup
  | 0 => by rw [firstMet_zero]; exact .nil
  | i + 1 => by
    rw [firstMet_succ]
    have ih := fst_nd val i
    unfold step_dedup
    split
    · exact ih
    · rename_i h
      rw [List.nodup_append]
      refine ⟨ih, by simp, fun a ha b hb e => ?_⟩
      rw [List.mem_singleton] at hb
      subst hb
      subst e
      exact h (List.any_eq_true.mpr ⟨_, ha, by simp⟩)
theorem fst_mem (val : Nat → Int) (i : Nat) (k : Int) : k ∈ firstMet val i ↔ ∃ j, j < i ∧ val j = k := by
  have h := firstMet_any val i k
  have e1 : (firstMet val i).any (· == k) = true ↔ k ∈ firstMet val i := by simp
  have e2 : ((List.range i).map val).any (· == k) = true ↔ ∃ j, j < i ∧ val j = k := by simp
  rw [← e1, h, e2]
theorem fm_dc (xs : List Nat) : DC xs (fm xs) := by
  have hv : ∀ j, j < xs.length → (xs.map fun i : Nat => (i : Int)).getD j 0 = ((xs.getD j 0 : Nat) : Int) := fun j hj => by
    rw [List.getD_eq_getElem?_getD, List.getD_eq_getElem?_getD, List.getElem?_map, List.getElem?_eq_getElem hj]
    rfl
  refine ⟨(firstMet (fun i => (xs.map fun i : Nat => (i : Int)).getD i 0) (xs.map fun i : Nat => (i : Int)).length).map Int.toNat, ?_, fun x => ?_, by rw [List.length_map]; rfl⟩
  · refine (List.pairwise_map).mpr (List.Pairwise.imp_of_mem (fun {a b} ha hb hne e => hne ?_) (fst_nd _ _))
    obtain ⟨j, hj, rfl⟩ := (fst_mem _ _ _).mp ha
    obtain ⟨k, hk, rfl⟩ := (fst_mem _ _ _).mp hb
    rw [List.length_map] at hj hk
    simp only [hv j hj, hv k hk] at e ⊢
    omega
  · rw [List.mem_map]
    constructor
    · rintro ⟨k, hk, rfl⟩
      obtain ⟨j, hj, rfl⟩ := (fst_mem _ _ _).mp hk
      rw [List.length_map] at hj
      simp only [hv j hj]
      exact getD_mem hj
    · intro hx
      refine ⟨(x : Int), (fst_mem _ _ _).mpr ⟨xs.idxOf x, by rw [List.length_map]; exact List.idxOf_lt_length_of_mem hx, ?_⟩, rfl⟩
      simp only [hv _ (List.idxOf_lt_length_of_mem hx), getD_idx hx]
/-- what a row leads to, by classes -/
def endsOf (cls : List Nat) (r : Row) : Row := r.map fun q => (q.1, cls.getD q.2 0)
structure Cong (m : Mach) (cls : List Nat) : Prop where
  len : cls.length = m.length
  pos : ∀ i, i < m.length → 0 < cls.getD i 0
  last : ∀ i j, i < m.length → j < m.length → cls.getD i 0 = cls.getD j 0 → lastAt m i = lastAt m j
  ends : ∀ i j, i < m.length → j < m.length → cls.getD i 0 = cls.getD j 0 → endsOf cls (rowAt m i) = endsOf cls (rowAt m j)
/-- F from P in one round -/
structure Finer (m : Mach) (P F : List Nat) : Prop where
  len : F.length = m.length
  pos : ∀ i, i < m.length → 0 < F.getD i 0
  iff : ∀ i j, i < m.length → j < m.length → (F.getD i 0 = F.getD j 0 ↔ P.getD i 0 = P.getD j 0 ∧ endsOf P (rowAt m i) = endsOf P (rowAt m j))
/-- equal by one partition, equal by another that says the same -/
theorem ends_same {n : Nat} {P F : List Nat} (h : ∀ i j, i < n → j < n → P.getD i 0 = P.getD j 0 → F.getD i 0 = F.getD j 0) : ∀ {r t : Row}, (∀ q ∈ r, q.2 < n) → (∀ q ∈ t, q.2 < n) → endsOf P r = endsOf P t → endsOf F r = endsOf F t
  | [], [], _, _, _ => rfl
  | [], _ :: _, _, _, e => nomatch e
  | _ :: _, [], _, _, e => nomatch e
  | q :: r, p :: t, hr, ht, e => by
    unfold endsOf at e ⊢
    rw [List.map_cons, List.map_cons] at e ⊢
    injection e with e1 e2
    injection e1 with e3 e4
    rw [e3, h _ _ (hr q List.mem_cons_self) (ht p List.mem_cons_self) e4]
    congr 1
    exact ends_same h (fun x hx => hr x (List.mem_cons_of_mem _ hx)) (fun x hx => ht x (List.mem_cons_of_mem _ hx)) e2
theorem cong_of {m : Mach} (w : Wf m) {P F : List Nat} {a b : Nat} (hl : P.length = m.length) (last : ∀ i j, i < m.length → j < m.length → P.getD i 0 = P.getD j 0 → lastAt m i = lastAt m j) (f : Finer m P F) (hP : DC P a) (hF : DC F b) (hba : b ≤ a) : Cong m F := by
  have hFl : F.length = P.length := by rw [f.len, hl]
  have eq : ∀ i j, i < m.length → j < m.length → P.getD i 0 = P.getD j 0 → F.getD i 0 = F.getD j 0 := fun i j hi hj e =>
    part_eq hFl (fun i j hi hj e => ((f.iff i j (by omega) (by omega)).mp e).1) hP hF hba (by omega) (by omega) e
  refine ⟨f.len, f.pos, fun i j hi hj e => last i j hi hj ((f.iff i j hi hj).mp e).1, fun i j hi hj e => ?_⟩
  exact ends_same eq (fun q hq => (w.at i).to q hq) (fun q hq => (w.at j).to q hq) ((f.iff i j hi hj).mp e).2
/-- h leads from m onto m' -/
structure Hom (m m' : Mach) (h : Nat → Nat) : Prop where
  wf : Wf m'
  le : m'.length ≤ m.length
  lt : ∀ s, s < m.length → h s < m'.length
  last : ∀ s, s < m.length → lastAt m' (h s) = lastAt m s
  row : ∀ s, s < m.length → rowAt m' (h s) = (rowAt m s).map fun q => (q.1, h q.2)
  onto : ∀ t, t < m'.length → ∃ s, s < m.length ∧ h s = t
end Zb
end
section
set_option Elab.async false
set_option linter.all false
set_option maxRecDepth 100000
/-! Zs5: the walk: classes_of. -/
namespace Zb
open PySem PySem.Spec PyProof.Rows L2
/-! ### nested keys in B -/
theorem nok_up {H H' : Hp} {kx : List NX} (s : ∀ a xs, H a = some (.tup xs) → H' a = some (.tup xs)) (h : NOk H kx) : NOk H' kx := fun p hp => ⟨(h p hp).1.up s, (h p hp).2⟩
def rNK (k : NestedKey) : Up := ⟨fun v B => NKr B k v, fun s h => h.up fun a xs e => s _ _ e⟩
theorem ndAt_enum {k : NestedKey} : ∀ {kx : List NX} (o : Nat), (∀ t p, kx[t]? = some p → p.2.2 = V.int ((o + t + 1 : Nat) : Int)) → (k ∈ kx.map (fun p : NX => p.1) → ndAt kx k = some (.int ((o + (kx.map fun p : NX => p.1).idxOf k + 1 : Nat) : Int))) ∧ (k ∉ kx.map (fun p : NX => p.1) → ndAt kx k = none)
  | [], _, _ => ⟨fun h => (by cases h), fun _ => rfl⟩
  | p :: kx, o, h => by
    have h0 := h 0 p rfl
    have ih := ndAt_enum (k := k) (kx := kx) (o + 1) fun t q e => by
      have := h (t + 1) q e
      rw [this]
      congr 2
      omega
    unfold ndAt at ih ⊢
    rw [List.find?_cons, List.map_cons]
    by_cases e : p.1 = k
    · simp only [e, decide_true]
      refine ⟨fun _ => ?_, fun hn => absurd List.mem_cons_self hn⟩
      rw [List.idxOf_cons_self]
      exact congrArg some h0
    · simp only [e, decide_false]
      refine ⟨fun hm => ?_, fun hn => ih.2 fun hm => hn (List.mem_cons_of_mem _ hm)⟩
      have hm' : k ∈ kx.map fun p : NX => p.1 := (List.mem_cons.mp hm).resolve_left fun z => e z.symm
      rw [ih.1 hm', List.idxOf_cons, beq_false_of_ne e, cond_false]
      congr 3
      omega
def pK (q : Nat × Nat) : NestedKey := .tup [.text (tx [q.1]), .num (q.2 : Int)]
def rowNK (r : Row) : NestedKey := .tup (r.map pK)
def keyK (a : Nat) (r : Row) : NestedKey := .tup [.num (a : Int), rowNK r]
theorem pK_inj {p q : Nat × Nat} (h : pK p = pK q) : p = q := by
  unfold pK at h
  injection h with h
  injection h with h1 h
  injection h with h2 _
  injection h1 with h1
  injection h2 with h2
  have e1 : p.1 = q.1 := (List.cons.inj (tx_inj h1)).1
  exact Prod.ext e1 (by omega)
theorem mapK_inj : ∀ {r t : Row}, r.map pK = t.map pK → r = t
  | [], [], _ => rfl
  | [], _ :: _, h => nomatch h
  | _ :: _, [], h => nomatch h
  | q :: r, p :: t, h => by
    rw [List.map_cons, List.map_cons] at h
    injection h with h1 h2
    rw [pK_inj h1, mapK_inj h2]
theorem keyK_iff {a b : Nat} {r t : Row} : keyK a r = keyK b t ↔ a = b ∧ r = t := by
  constructor
  · intro h
    unfold keyK rowNK at h
    injection h with h
    injection h with h1 h
    injection h with h2 _
    injection h1 with h1
    injection h2 with h2
    exact ⟨by omega, mapK_inj h2⟩
  · rintro ⟨rfl, rfl⟩
    rfl
theorem depthK (r : Row) : NestedKey.depthAll (r.map pK) ≤ 1 := by
  induction r with
  | nil => exact Nat.zero_le _
  | cons q r ih =>
    show max (NestedKey.depth (pK q)) (NestedKey.depthAll (r.map pK)) ≤ 1
    have : NestedKey.depth (pK q) = 1 := rfl
    omega
theorem depth_key (a : Nat) (r : Row) : (keyK a r).depth ≤ 8 := by
  have h := depthK r
  show max 0 (max (NestedKey.depthAll (r.map pK) + 1) 0) + 1 ≤ 8
  omega
theorem nkrs_al {B : Hp} : ∀ {r : Row} {vs : List V}, Al (fun q : Nat × Nat => rPr (fun c : Nat => rTx [c]) rNat q) r vs B → NKrs B (r.map pK) vs
  | _, _, .nil => .nil
  | _, _, .cons h t => by
    obtain ⟨a, y, z, rfl, e, h1, h2⟩ := h
    refine .cons (.tup e ?_) (nkrs_al t)
    rw [show y = _ from h1, show z = _ from h2]
    exact .cons (.text _) (.cons (.num _) .nil)
section
variable {K : PySem.W.Frag} {P : Program} {w : World} {σ : L2.St} {M B : Hp} {ta tb : TE} {D : Ends} {tz : TS}
theorem ev_rowNK {r : Row} (h : Ev ta σ M B (rTup (fun q : Nat × Nat => rPr (fun c : Nat => rTx [c]) rNat q) r)) : Ev ta σ M B (rNK (rowNK r)) := h.to fun v B2 _ ⟨a, vs, e, h, al⟩ => by
  rw [e]
  exact .tup h (nkrs_al al)
theorem ev_keyK {a : Nat} {r : Row} (h1 : Ev ta σ M B (rNat a)) (h2 : Ev tb σ M B (rNK (rowNK r))) : Ev (tTup (tCons ta (tCons tb tNil))) σ M B (rNK (keyK a r)) :=
  ev_tup (ea_cons h1 (ea_cons h2 ea_nil)) (by show 2 ≤ 1000; decide) fun a vs B1 e h => by
    cases h with
    | cons h1 h => cases h with
      | cons h2 h =>
        cases h
        rw [show _ = _ from h1] at e
        exact .tup e (.cons (.num _) (.cons h2 .nil))
theorem q_ndnew {i : Nat} (k : ∀ p, M p = none → B p = none → tz D (σ.set i (some (.ref p))) (jn B (upd M p (NDo P w p [])))) : tSeq (tAsg (tNdNew P w) (gName i)) tz D σ (jn B M) := fun p hp => by
  obtain ⟨hm, hb⟩ := jn_none hp
  rw [jn_updM]
  exact k p hm hb
theorem ev_lenSetN {xs : List Nat} (ha : Ev ta σ M B (rLst rNat xs)) (hl : xs.length ≤ 1000) : Ev (tLenSetN K ta) σ M B (rNat (fm xs)) := fun M1 B1 m b d Q q => ha M1 B1 m b d _ fun v B2 b2 d2 ⟨a, vs, e, h, al⟩ =>
  ⟨a, xs.map fun i : Nat => (i : Int), e, by rw [← al_int al]; exact SqL.of (jn_b d2 h), by rw [List.length_map]; exact hl, q _ B2 b2 d2 rfl⟩
abbrev rInt1 : List V → Hp → VK → Prop := fun xs H Q => (∃ i, xs = [.int i] ∧ Q (.int i) H) ∨ ∃ k, xs = [.bl k] ∧ Q (.int (if k then 1 else 0)) H
theorem ev_intB {b : Bool} (ha : Ev ta σ M B (rBl b)) : Ev (tCB rInt1 (tCons ta tNil)) σ M B (rNat b.toNat) :=
  ev_cb1 ha fun x M1 B1 _ _ _ hx Q q => .inr ⟨b, by rw [show x = _ from hx], by cases b <;> exact q⟩
theorem ev_intI {i : Int} (ha : Ev ta σ M B (rInt i)) : Ev (tCB rInt1 (tCons ta tNil)) σ M B (rInt i) :=
  ev_cb1 ha fun x M1 B1 _ _ _ hx Q q => .inl ⟨i, by rw [show x = _ from hx], q⟩
end
/-- len of a dict with nested keys -/
def rLenND (P : Program) (w : World) : List V → Hp → VK → Prop := fun xs H Q => ∃ a kx, xs = [.ref a] ∧ H a = some (NDo P w a kx) ∧ NOk H kx ∧ kx.length ≤ 100000 ∧ Q (.int (kx.length : Nat)) H
theorem cr_lenND {X : Cx} : CallR X (.builtin "len") (rLenND X.prog X.w) := by
  intro pins s σ H xs us Q I r h
  obtain ⟨a, kx, rfl, ha, hok, hl, q⟩ := h
  obtain ⟨u, rfl, ru⟩ := vals1 r
  cases (show u = Value.ref a from ru)
  obtain ⟨hs, us, rr, d⟩ := nd_dict I ha hok
  have e := Paired.length rr
  refine call_len_dictH hs d (by rw [← e]; omega) ?_
  rw [← e]
  exact ⟨.int (kx.length : Nat), H, I.tok _, ⟨_, rfl⟩, q⟩
section
variable {K : PySem.W.Frag} {P : Program} {w : World} {σ : L2.St} {M B : Hp} {D : Ends} {tu tz : TS}
theorem ev_lenND {i : Nat} {p : Addr} {kx : List NX} (hσ : σ[i]? = some (some (.ref p))) (hM : M p = some (NDo P w p kx)) (hok : NOk B kx) (hl : kx.length ≤ 100000) : Ev (tCB (rLenND P w) (tCons (tVar i) tNil)) σ M B (rNat kx.length) := fun M1 B1 m b d Q q =>
  ⟨_, hσ, p, kx, rfl, jn_m (m _ _ hM), nok_up (fun a xs e => jn_b d e) (nok_up (fun a xs e => b _ _ e) hok), hl, q _ B1 (Same.refl _) d rfl⟩
theorem q_for2 {α β : Type} {R : α → Up} {S : β → Up} {xs : List (α × β)} {wi : TI} {j k : Nat} (hi : EvI wi σ M B (xs.map (rPr R S))) (d : Dj B M) (Pv : Nat → L2.St → Hp → Hp → Prop) (hm : ∀ i σ' M' B1 B2, Same B1 B2 → Pv i σ' M' B1 → Pv i σ' M' B2)
    (h0 : ∀ B', Same B B' → Dj B' M → Pv 0 σ M B')
    (hs : ∀ B0 i x v w σ' M' B', xs[i]? = some x → Same B B0 → Same B0 B' → Dj B' M' → Pv i σ' M' B' → (R x.1).p v B' → (S x.2).p w B' → tu { D with nx := Nx (Pv (i + 1)) B0, ct := Nx (Pv (i + 1)) B0, bk := tz D } ((σ'.set j (some v)).set k (some w)) (jn B' M'))
    (hd : ∀ σ' M' B', Pv xs.length σ' M' B' → Same B B' → Dj B' M' → tz D σ' (jn B' M')) : tSeq (tFor wi (gTup K 2 (gCons (gName j) (gCons (gName k) gNil))) tu) tz D σ (jn B M) :=
  s_for2 (D := { D with nx := tz D }) hi d Pv hm h0 hs hd
theorem q_for {α : Type} {R : α → Up} {xs : List α} {wi : TI} {j : Nat} (hi : EvI wi σ M B (xs.map R)) (d : Dj B M) (Pv : Nat → L2.St → Hp → Hp → Prop) (hm : ∀ i σ' M' B1 B2, Same B1 B2 → Pv i σ' M' B1 → Pv i σ' M' B2)
    (h0 : ∀ B', Same B B' → Dj B' M → Pv 0 σ M B')
    (hs : ∀ B0 i x v σ' M' B', xs[i]? = some x → Same B B0 → Same B0 B' → Dj B' M' → Pv i σ' M' B' → (R x).p v B' → tu { D with nx := Nx (Pv (i + 1)) B0, ct := Nx (Pv (i + 1)) B0, bk := tz D } (σ'.set j (some v)) (jn B' M'))
    (hd : ∀ σ' M' B', Pv xs.length σ' M' B' → Same B B' → Dj B' M' → tz D σ' (jn B' M')) : tSeq (tFor wi (gName j) tu) tz D σ (jn B M) :=
  s_for (D := { D with nx := tz D }) hi d Pv hm h0 hs hd
end
/-! ### classes_of -/
abbrev s_classes_of : Stmt := top 19
theorem sc_classes_of : FnScope ["moves", "lasts", "classes", "many", "known", "finer", "state", "row", "ends", "one", "last", "sign"] ["moves", "lasts"] (defScope s_classes_of) := ⟨rfl, rfl, rfl, by decide +kernel, rfl, by decide +kernel, by decide +kernel⟩
/-- some y with P y -/
def rEx {β : Type} (P : β → Prop) (R : β → Up) : Up := ⟨fun v B => ∃ y, P y ∧ (R y).p v B, fun s ⟨y, h, k⟩ => ⟨y, h, (R y).up s k⟩⟩
def sp_classes_of : Sp := spF (α := Mach) (fun m => [rLst rRow (rows m), rLst rBl (lasts m)]) Vm (fun m => rEx (Cong m) (rLst rNat))
theorem ev_classes_of {σ : L2.St} {M B : Hp} {ta tb : TE} {m : Mach} (h1 : Ev ta σ M B (rLst rRow (rows m))) (h2 : Ev tb σ M B (rLst rBl (lasts m))) (vm : Vm m) : Ev (tCall sp_classes_of [] E0 (tCons ta (tCons tb tNil))) σ M B (rEx (Cong m) (rLst rNat)) :=
  ev_call (A := fun m : Mach => [rLst rRow (rows m), rLst rBl (lasts m)]) (R := fun m : Mach => rEx (Cong m) (rLst rNat)) m (ea_cons h1 (ea_cons h2 ea_nil)) vm
theorem nats_snoc {xs : List Nat} {n : Nat} : nats (xs ++ [n]) = nats xs ++ [V.int (n : Int)] := List.map_append
theorem one_plus {n : Nat} {ls : List Bool} (h : ls.length = n) : ((List.replicate n true).zip ls).map (fun q : Bool × Bool => q.1.toNat + q.2.toNat) = ls.map fun l => 1 + l.toNat := by
  subst h
  induction ls with
  | nil => rfl
  | cons l ls ih =>
    rw [List.length_cons, List.replicate_succ, List.zip_cons_cons, List.map_cons, List.map_cons, ih]
    rfl
section
variable {σ : L2.St} {M B : Hp} {D : Ends} {tu tz : TS}
theorem q_whileW {tc : TT} (Pv : Nat → L2.St → Hp → Hp → Prop) (m0 : Nat) (h0 : Pv m0 σ M B) (d : Dj B M)
    (hs : ∀ m σ' M' B', Pv m σ' M' B' → Dj B' M' → ∃ b, EvT tc σ' M' B' b ∧ (b = true → ∀ B1, Same B' B1 → Dj B1 M' →
        tu { D with nx := fun σ3 H3 => ∃ m' M3 B3, m' < m ∧ H3 = jn B3 M3 ∧ Dj B3 M3 ∧ Pv m' σ3 M3 B3, ct := fun σ3 H3 => ∃ m' M3 B3, m' < m ∧ H3 = jn B3 M3 ∧ Dj B3 M3 ∧ Pv m' σ3 M3 B3, bk := tz D } σ' (jn B1 M')) ∧
      (b = false → ∀ B1, Same B' B1 → Dj B1 M' → tz D σ' (jn B1 M'))) : tSeq (tWhile tc tu) tz D σ (jn B M) := s_while (D := { D with nx := tz D }) Pv m0 h0 d hs
end
theorem getD_some {xs : List Nat} {i : Nat} (h : i < xs.length) : xs[i]? = some (xs.getD i 0) := by
  rw [List.getD_eq_getElem?_getD, List.getElem?_eq_getElem h]
  rfl
section
variable {P : Program} {w : World} {K : PySem.W.Frag} {mg : Str → Option Value} {base : Heap}
theorem c_classes_of (D : Def K mg "classes_of" s_classes_of) (T : Bt mg) (c_useful_states : Cal P w K mg base 1 "useful_states" sp_useful_states) : Cal P w K mg base 2 "classes_of" sp_classes_of :=
  cal_of D sc_classes_of (fun _ _ _ _ _ _ us hl => match us, hl with | [_, _], _ => rfl) (spF_len fun _ => rfl) fun f cdv A outer s H vs Q E hr h => by
  obtain ⟨m, B, M, rfl, d, vm, al, q⟩ := h
  have sc := sc_classes_of
  have hu := room_1 hr
  refine ⟨_, (pss_cons (ps_set (i := 2) sc.nd rfl (.inr rfl) (pe_lc (own := [("one", 9), ("last", 10)]) rfl sc.nd (kpi_zip K rfl (by rfl) T.zip (pa_cons (pe_cal c_useful_states hr (by decide) (by rfl) (pa_cons (pv 0) (pa_cons (pv 1) pa_nil))) (pa_cons (pv 1) pa_nil))) (blkOk_by (by kernel_rfl)) (fun _ _ _ _ _ => (kpg_tup (n := 2) K rfl rfl (pgs_cons (pg_name (i := 9) sc.nd rfl (.inl rfl)) (pgs_cons (pg_name (i := 10) sc.nd rfl (.inl rfl)) pgs_nil)))) (fun _ _ _ _ _ => pts_nil) (fun _ _ _ _ _ => (pe_op op_add (pe_callTy call_int1 (by rfl) T.int (by decide +kernel) (pa_cons (pv 9) pa_nil)) (pe_callTy call_int1 (by rfl) T.int (by decide +kernel) (pa_cons (pv 10) pa_nil))))))
      (pss_cons (ps_set (i := 3) sc.nd rfl (.inl rfl) pe_int)
      (pss_cons (ps_while PassesOwn.never (pt_cmpR op_lt (pv 3) (pe_lenSetN (by rfl) T.len (by rfl) T.set (pv 2)) (nomark _)) (pss_cons (ps_set (i := 3) sc.nd rfl (.inl rfl) (pe_lenSetN (by rfl) T.len (by rfl) T.set (pv 2)))
      (pss_cons (ps_set (i := 4) sc.nd rfl (.inl rfl) pe_ndNew)
      (pss_cons (ps_set (i := 5) sc.nd rfl (.inl rfl) (pe_lst pa_nil))
      (pss_cons (ps_for PassesOwn.never rfl (kpi_enum K rfl (by rfl) T.enumerate (pa_cons (pv 0) pa_nil)) (kpg_tup (n := 2) K rfl rfl (pgs_cons (pg_name (i := 6) sc.nd rfl (.inl rfl)) (pgs_cons (pg_name (i := 7) sc.nd rfl (.inr rfl)) pgs_nil))) (pss_cons (ps_set (i := 8) sc.nd rfl (.inl rfl) (pe_callTy (kc_tup K rfl) (by rfl) T.tuple (by decide +kernel) (pa_cons (pe_lc (own := [("sign", 11)]) rfl sc.nd (kpi_list K rfl (pe_callB (call_sortedD rfl) (by rfl) T.sorted (by decide +kernel) (pa_cons (pv 7) pa_nil))) (blkOk_by (by kernel_rfl)) (fun _ _ _ _ _ => (pg_name (i := 11) sc.nd rfl (.inl rfl))) (fun _ _ _ _ _ => (pts_one (pt_cmpR op_gt (pe_ix (kix_list K rfl) (pv 2) (pe_dget hu (pv 7) (pv 11) (fun _ _ => rfl)) (fun _ _ => rfl)) pe_int (nomark _)))) (fun _ _ _ _ _ => (pe_tup (pa_cons (pv 11) (pa_cons (pe_ix (kix_list K rfl) (pv 2) (pe_dget hu (pv 7) (pv 11) (fun _ _ => rfl)) (fun _ _ => rfl)) pa_nil))))) pa_nil)))
      (pss_one (ps_if (pt_cmpR op_eq (pe_ix (kix_list K rfl) (pv 2) (pv 6) (fun _ _ => rfl)) pe_int (nomark _)) (pss_one (ps_expr (pe_bm PySem.F.plainAttrs_list PySem.F.slot_list_append PySem.F.type_list_append mt_append (pv 5) (pa_cons pe_int pa_nil)))) (pss_one (ps_expr (pe_bm PySem.F.plainAttrs_list PySem.F.slot_list_append PySem.F.type_list_append mt_append (pv 5) (pa_cons (pe_ndSetd hr (pv 4) (pe_tup (pa_cons (pe_ix (kix_list K rfl) (pv 2) (pv 6) (fun _ _ => rfl)) (pa_cons (pv 8) pa_nil))) (pe_op op_add (pe_callB cr_lenND (by rfl) T.len (by decide +kernel) (pa_cons (pv 4) pa_nil)) pe_int) ⟨rfl, rfl, rfl, rfl⟩) pa_nil))))))))
      (pss_one (ps_set (i := 2) sc.nd rfl (.inr rfl) (pv 5))))))))
      (pss_one (ps_ret (pv 2)))))), ?_⟩
  cases al with
  | cons h1 al => cases al with
  | cons h2 al =>
    cases al
    have n0 : (rows m).length = m.length := List.length_map ..
    have n1 : (lasts m).length = m.length := List.length_map ..
    have hle := vm.le
    refine q_asg (U := rLst rNat ((lasts m).map fun l => 1 + l.toNat)) (EvN.lst ?_) d fun cv B1 b1 d1 hcv => ?_
    · refine (en_lc21 (R := rBl) (T := rBl) (S := fun q : Bool × Bool => rNat (q.1.toNat + q.2.toNat)) (ei_zip (ea_cons (ev_useful_states (ev_v (U := rLst rRow (rows m)) rfl h1) (ev_v (U := rLst rBl (lasts m)) rfl h2) vm) (ea_cons (ev_v (U := rLst rBl (lasts m)) rfl h2) ea_nil))) ?_ (fun _ _ => rfl) fun q hq v z M2 B2 _ _ hv hz => ?_).to fun vs B2 hvs => ?_
      · rw [List.length_zip, n1]
        omega
      · refine Ev.to (ev_I0 (g := fun i j => .int (i + j)) (ev_intB (ev_v (U := rBl q.1) rfl hv)) (ev_intB (ev_v (U := rBl q.2) rfl hz))) fun v B3 _ h3 => ?_
        rw [show v = _ from h3]
        exact congrArg V.int (Int.natCast_add _ _).symm
      · have e := Al.map (R := rNat) (f := fun q : Bool × Bool => q.1.toNat + q.2.toNat) hvs
        rw [one_plus n1] at e
        exact e
    · generalize eP0 : ((lasts m).map fun l => 1 + l.toNat) = P0 at hcv
      have lP0 : P0.length = m.length := by rw [← eP0, List.length_map, n1]
      have aP0 : ∀ i, i < m.length → P0.getD i 0 = 1 + (lastAt m i).toNat := fun i hi => by
        rw [← eP0, List.getD_eq_getElem?_getD, List.getElem?_map, List.getElem?_map, List.getElem?_eq_getElem hi, lastAt_get hi]
        rfl
      refine q_asg (ev_c (x := .int 0)) d1 fun kv B2 b2 d2 hkv => ?_
      refine q_whileW (fun k σ' M' B' => M' = M ∧ Same B B' ∧ ∃ cv P many o4 o5 o6 o7 o8 o9 o10 o11, σ' = [some _, some _, some cv, some (.int ((many : Nat) : Int)), o4, o5, o6, o7, o8, o9, o10, o11] ∧ (rLst rNat P).p cv B' ∧ P.length = m.length ∧ (∀ i, i < m.length → 0 < P.getD i 0) ∧
        (∀ i j, i < m.length → j < m.length → P.getD i 0 = P.getD j 0 → lastAt m i = lastAt m j) ∧ (many = 0 ∨ ∃ P1, P1.length = m.length ∧ (∀ i j, i < m.length → j < m.length → P1.getD i 0 = P1.getD j 0 → lastAt m i = lastAt m j) ∧ DC P1 many ∧ Finer m P1 P) ∧ k = m.length + 1 - many) (m.length + 1)
        ⟨rfl, b1.trans b2, cv, P0, 0, none, none, none, none, none, none, none, none, by rw [show kv = _ from hkv]; rfl, (rLst rNat P0).up b2 hcv, lP0, fun i hi => by rw [aP0 i hi]; omega, fun i j hi hj e => ?_, .inl rfl, rfl⟩ d2 fun k σ' M' B' hp d' => ?_
      · rw [aP0 i hi, aP0 j hj] at e
        cases h1 : lastAt m i <;> cases h2 : lastAt m j <;> rw [h1, h2] at e <;> first | rfl | (exfalso; simp at e)
      obtain ⟨rfl, bb, cv, P1, many, o4, o5, o6, o7, o8, o9, o10, o11, rfl, hP, lP, posP, lastP, why, ek⟩ := hp
      have hdc := fm_dc P1
      refine ⟨decide (((many : Nat) : Int) < ((fm P1 : Nat) : Int)), et_test (ev_I0 (g := fun i j => .bl (decide (i < j))) (ev_v (U := rNat many) rfl rfl) (ev_lenSetN (ev_v (U := rLst rNat P1) rfl hP) (by omega))), fun ht B3 b3 d3 => ?_, fun ht B3 b3 d3 => ?_⟩
      · have hlt : many < fm P1 := by
          have := of_decide_eq_true ht
          omega
        have hfl : fm P1 ≤ m.length := by
          have := hdc.le
          omega
        refine q_asg (ev_lenSetN (ev_v (U := rLst rNat P1) rfl ((rLst rNat P1).up b3 hP)) (by omega)) d3 fun v4 B4 b4 d4 hv4 => ?_
        cases (show _ = _ from hv4)
        refine q_ndnew fun p hMp hB4p => ?_
        have d5 : Dj B4 (upd M' p (NDo P w p [])) := dj_m d4 hB4p
        refine q_asgN (en_lst ea_nil (by show 0 ≤ 1000; decide)) d5 fun f vs0 B5 b5 d6 hMf hB5f hvs0 => ?_
        cases hvs0
        have hfp : f ≠ p := fun e => by
          rw [e, upd_same] at hMf
          cases hMf
        have hMf' : M' f = none := by rw [upd_ne hfp] at hMf; exact hMf
        have d7 : Dj B5 (upd (upd M' p (NDo P w p [])) f (.lst [])) := dj_m d6 hB5f
        have s5 : Same B B5 := bb.trans (b3.trans (b4.trans b5))
        have hP5 : ∀ {B9 : Hp}, Same B5 B9 → (rLst rNat P1).p cv B9 := fun s9 => (rLst rNat P1).up (b3.trans (b4.trans (b5.trans s9))) hP
        let kk : Nat → NestedKey := fun s => keyK (P1.getD s 0) (endsOf P1 (rowAt m s))
        refine q_for2 (R := rNat) (S := rRow) (xs := enumL (rows m)) (ei_enum (ea_cons (ev_v (U := rLst rRow (rows m)) rfl ((rLst rRow (rows m)).up s5 h1)) ea_nil)) d7
          (fun i σ' M9 B9 => ∃ kx fs o6 o7 o8 o9 o10 o11, σ' = [some _, some _, some cv, some (.int ((fm P1 : Nat) : Int)), some (.ref p), some (.ref f), o6, o7, o8, o9, o10, o11] ∧ M9 = upd (upd M' p (NDo P w p kx)) f (.lst (nats fs)) ∧ fs.length = i ∧ NOk B9 kx ∧
            (∀ t q, kx[t]? = some q → q.2.2 = V.int ((0 + t + 1 : Nat) : Int)) ∧ kx.length ≤ i ∧ ∀ s, s < i → kk s ∈ kx.map (fun p : NX => p.1) ∧ fs.getD s 0 = (kx.map fun p : NX => p.1).idxOf (kk s) + 1)
          (fun i σ' M9 B8 B9 s89 ⟨kx, fs, o6, o7, o8, o9, o10, o11, e1, e2, e3, e4, e5⟩ => ⟨kx, fs, o6, o7, o8, o9, o10, o11, e1, e2, e3, nok_up (fun a xs e => s89 _ _ e) e4, e5⟩)
          (fun B9 _ _ => ⟨[], [], _, _, _, _, _, _, rfl, rfl, rfl, fun p hp => (by cases hp), fun t q e => (by simp at e), Nat.le_refl _, fun s hs => absurd hs (Nat.not_lt_zero _)⟩) (fun B0 i x v z σ' M9 B9 ex b0 b9 d9 hp hv hz => ?_) fun σ' M9 B9 hp b9 d9 => ?_
        · obtain ⟨kx, fs, o6', o7', o8', o9', o10', o11', rfl, rfl, hfs, hnk, henum, hkl, hkk⟩ := hp
          obtain ⟨ei, ex2⟩ := enumL_at ex
          have hin : i < m.length := by
            have := (List.getElem?_eq_some_iff.mp ex2).1
            rw [n0] at this
            exact this
          have erow : x.2 = rowAt m i := by
            rw [rows_at hin] at ex2
            exact (Option.some.inj ex2).symm
          rw [erow] at hz
          have hx1 : v = V.int ((i : Nat) : Int) := by rw [← ei]; exact hv
          subst hx1
          have ro := vm.at i
          have hlr := ro.len
          have hP9 : (rLst rNat P1).p cv B9 := hP5 (b0.trans b9)
          have hpos : ∀ q ∈ rowAt m i, 0 < P1.getD q.2 0 := fun q hq => posP _ (ro.to q hq)
          refine q_asg (U := rTup (fun q : Nat × Nat => rPr (fun c : Nat => rTx [c]) rNat q) (endsOf P1 (rowAt m i))) (ev_tupL (EvN.lst ?_)) d9 fun ev B10 b10 d10 hev => ?_
          · refine (en_lc (R := fun q : Nat × Nat => rTx [q.1]) (S := fun q : Nat × Nat => rPr (fun c : Nat => rTx [c]) rNat (q.1, P1.getD q.2 0)) (f := fun q : Nat × Nat => decide (((P1.getD q.2 0 : Nat) : Int) > 0)) (xs := rowAt m i)
              (ei_list (EvN.lst (R := fun q : Nat × Nat => rTx [q.1]) (en_sortRow (ev_v (U := rRow (rowAt m i)) rfl hz) ro.asc (by omega)))) (by omega) (fun _ => rfl) (fun q hq v6 M6 B6 _ b6 hv6 => ?_) fun q hq _ v6 M6 B6 _ b6 hv6 => ?_).to fun vs B6 h6 => ?_
            · refine et_test (ev_I0 (g := fun i j => .bl (decide (i > j))) (ev_ixL (R := rNat) (i := q.2) (x := P1.getD q.2 0) (ev_v (U := rLst rNat P1) rfl ((rLst rNat P1).up b6 hP9)) (ev_rget (ev_v (U := rRow (rowAt m i)) rfl ((rRow (rowAt m i)).up b6 hz)) (ev_v (U := rTx [q.1]) rfl hv6) (mem_lookup ro.asc hq)) (getD_some (by rw [lP]; exact ro.to q hq))) (ev_c (x := .int 0)))
            · exact ev_pr (R := fun c : Nat => rTx [c]) (S := rNat) (ev_v (U := rTx [q.1]) rfl hv6) (ev_ixL (R := rNat) (i := q.2) (x := P1.getD q.2 0) (ev_v (U := rLst rNat P1) rfl ((rLst rNat P1).up b6 hP9)) (ev_rget (ev_v (U := rRow (rowAt m i)) rfl ((rRow (rowAt m i)).up b6 hz)) (ev_v (U := rTx [q.1]) rfl hv6) (mem_lookup ro.asc hq)) (getD_some (by rw [lP]; exact ro.to q hq)))
            · rw [List.filter_eq_self.mpr (fun q hq => decide_eq_true (by have := hpos q hq; omega))] at h6
              exact Al.map (R := fun q : Nat × Nat => rPr (fun c : Nat => rTx [c]) rNat q) (f := fun q : Nat × Nat => (q.1, P1.getD q.2 0)) h6
          · have hP10 : (rLst rNat P1).p cv B10 := (rLst rNat P1).up b10 hP9
            have hix : ∀ {σ9 : L2.St} {M9 B9 : Hp}, σ9[2]? = some (some cv) → σ9[6]? = some (some (V.int ((i : Nat) : Int))) → Same B10 B9 → Ev (tOp (rIxL K) (tVar 2) (tVar 6)) σ9 M9 B9 (rNat (P1.getD i 0)) := fun e1 e2 s9 =>
              ev_ixL (R := rNat) (i := i) (ev_v (U := rLst rNat P1) e1 ((rLst rNat P1).up s9 hP10)) (ev_v (U := rNat i) e2 rfl) (getD_some (by rw [lP]; exact hin))
            refine s_if (EvT.to (c := false) (et_test (ev_eq (hix rfl rfl (Same.refl _)) (ev_c (x := .int 0)) rfl)) ?_) d10 (fun e => nomatch e) fun _ B11 b11 d11 => ?_
            · have := posP i hin
              refine decide_eq_false fun e => ?_
              injection e with e
              omega
            · refine ⟨_, rfl, .inl ⟨rfl, nats fs, SqL.of (jn_m upd_same)⟩, _, rfl, ⟨p, kx, rfl, jn_m (by rw [upd_ne (fun e => hfp e.symm)]; exact upd_same)⟩, ?_⟩
              refine ev_keyK (a := P1.getD i 0) (r := endsOf P1 (rowAt m i)) (hix rfl rfl b11) (ev_rowNK (ev_v (U := rTup (fun q : Nat × Nat => rPr (fun c : Nat => rTx [c]) rNat q) (endsOf P1 (rowAt m i))) rfl ((rTup (fun q : Nat × Nat => rPr (fun c : Nat => rTx [c]) rNat q) (endsOf P1 (rowAt m i))).up b11 hev))) _ B11 (Same.refl _) (Same.refl _) d11 _ fun y B12 b12 d12 hy => ?_
              have hnk12 : NOk B12 kx := nok_up (fun a xs e => (b10.trans (b11.trans b12)) _ _ e) hnk
              refine ev_I0 (g := fun i j => .int (i + j)) (ev_lenND (kx := kx) rfl (by rw [upd_ne (fun e => hfp e.symm)]; exact upd_same) hnk12 (by omega)) (ev_c (x := .int 1)) _ B12 (Same.refl _) (Same.refl _) d12 _ fun z B13 b13 d13 hz13 => ?_
              have hz' : z = V.int ((kx.length + 1 : Nat) : Int) := by
                rw [show z = _ from hz13]
                exact congrArg V.int (Int.natCast_add _ _).symm
              subst hz'
              have hy13 : NKr B13 (kk i) y := hy.up fun a xs e => b13 _ _ e
              obtain ⟨bk, rfl⟩ : ∃ bk, y = .ref bk := by
                cases hy13 with
                | tup _ _ => exact ⟨_, rfl⟩
              have hnk13 : NOk B13 kx := nok_up (fun a xs e => b13 _ _ e) hnk12
              have en := ndAt_enum (k := kk i) 0 henum
              have hMp13 : jn B13 (upd (upd M' p (NDo P w p kx)) f (HO.lst (nats fs))) p = some (NDo P w p kx) := jn_m (by rw [upd_ne (fun e => hfp e.symm)]; exact upd_same)
              refine ⟨p, bk, kx, kk i, rfl, rfl, ⟨hMp13, nok_up (fun a xs e => jn_b d13 e) hnk13, hy13.up fun a xs e => jn_b d13 e, depth_key _ _⟩, by omega, fun v hv => ?_, fun hn => ?_⟩
              · have hmem : kk i ∈ kx.map (fun p : NX => p.1) := Decidable.byContradiction fun h => by rw [en.2 h] at hv; cases hv
                rw [en.1 hmem] at hv
                cases hv
                refine ⟨f, nats fs, _, rfl, rfl, jn_m upd_same, ?_, upd (upd M' p (NDo P w p kx)) f (.lst (nats (fs ++ [0 + (kx.map fun p : NX => p.1).idxOf (kk i) + 1]))), B13, ?_, ?_, (b9.trans b10).trans (b11.trans (b12.trans b13)), kx, _, _, _, _, _, _, _, rfl, rfl, by rw [List.length_append, hfs]; rfl, hnk13, henum, by omega, fun s hs => ?_⟩
                · rw [List.length_map, hfs]
                  exact Nat.lt_of_lt_of_le (by omega : i < 1000) (by decide)
                · rw [jn_updM, upd_upd, nats_snoc]
                · exact fun a u e => by
                    have z := d13 a u e
                    by_cases ea : a = f
                    · rw [ea, upd_same] at z
                      cases z
                    · rw [upd_ne ea] at z ⊢
                      exact z
                · by_cases es : s = i
                  · subst es
                    refine ⟨hmem, ?_⟩
                    rw [List.getD_eq_getElem?_getD, List.getElem?_append_right (by omega), hfs, Nat.sub_self]
                    simp
                  · obtain ⟨k1, k2⟩ := hkk s (by omega)
                    refine ⟨k1, ?_⟩
                    rw [List.getD_eq_getElem?_getD, List.getElem?_append_left (by omega), ← List.getD_eq_getElem?_getD]
                    exact k2
              · have hmem : kk i ∉ kx.map (fun p : NX => p.1) := fun h => by
                  rw [en.1 h] at hn
                  cases hn
                refine ⟨f, nats fs, _, rfl, rfl, by rw [upd_ne hfp]; exact jn_m upd_same, ?_, upd (upd M' p (NDo P w p (kx ++ [(kk i, bk, V.int ((kx.length + 1 : Nat) : Int))]))) f (.lst (nats (fs ++ [kx.length + 1]))), B13, ?_, ?_, (b9.trans b10).trans (b11.trans (b12.trans b13)), kx ++ [(kk i, bk, V.int ((kx.length + 1 : Nat) : Int))], _, _, _, _, _, _, _, rfl, rfl, by rw [List.length_append, hfs]; rfl, ?_, ?_, by rw [List.length_append]; exact Nat.succ_le_succ hkl, fun s hs => ?_⟩
                · rw [List.length_map, hfs]
                  exact Nat.lt_of_lt_of_le (by omega : i < 1000) (by decide)
                · rw [jn_updM, jn_updM]
                  congr 1
                  rw [nats_snoc]
                  funext a
                  by_cases ea : a = f
                  · subst ea
                    rw [upd_same, upd_same]
                  · rw [upd_ne ea, upd_ne ea]
                    by_cases ep : a = p
                    · subst ep
                      rw [upd_same, upd_same]
                      rfl
                    · rw [upd_ne ep, upd_ne ea, upd_ne ep, upd_ne ep]
                · exact fun a u e => by
                    have z := d13 a u e
                    by_cases ea : a = f
                    · rw [ea, upd_same] at z
                      cases z
                    · rw [upd_ne ea] at z ⊢
                      by_cases ep : a = p
                      · rw [ep, upd_same] at z
                        cases z
                      · rw [upd_ne ep] at z ⊢
                        exact z
                · intro q hq
                  rcases List.mem_append.mp hq with hq | hq
                  · exact hnk13 q hq
                  · rw [List.mem_singleton.mp hq]
                    exact ⟨hy13, depth_key _ _⟩
                · intro t q e
                  by_cases et : t < kx.length
                  · rw [List.getElem?_append_left et] at e
                    exact henum t q e
                  · rw [List.getElem?_append_right (by omega)] at e
                    have : t - kx.length = 0 := by
                      have := (List.getElem?_eq_some_iff.mp e).1
                      simp at this
                      omega
                    rw [this] at e
                    have eq : q = (kk i, bk, V.int ((kx.length + 1 : Nat) : Int)) := (Option.some.inj e).symm
                    rw [eq]
                    exact congrArg (fun n : Nat => V.int (n : Int)) (by omega : kx.length + 1 = 0 + t + 1)
                · rw [List.map_append]
                  by_cases es : s = i
                  · subst es
                    refine ⟨List.mem_append_right _ (List.mem_singleton.mpr rfl), ?_⟩
                    rw [List.getD_eq_getElem?_getD, List.getElem?_append_right (by omega), hfs, Nat.sub_self, List.idxOf_append, if_neg hmem, List.length_map]
                    simp [List.idxOf_cons]
                  · obtain ⟨k1, k2⟩ := hkk s (by omega)
                    refine ⟨List.mem_append_left _ k1, ?_⟩
                    rw [List.getD_eq_getElem?_getD, List.getElem?_append_left (by omega), ← List.getD_eq_getElem?_getD, List.idxOf_append, if_pos k1]
                    exact k2
        · obtain ⟨kx, fs, o6', o7', o8', o9', o10', o11', rfl, rfl, hfs, hnk, henum, hkl, hkk⟩ := hp
          rw [enumL_len, n0] at hfs hkk
          have hMf9 : (upd M' p (NDo P w p kx)) f = none := by rw [upd_ne hfp]; exact hMf'
          have hB9f : B9 f = none := dj_none d9 upd_same
          have hB9p : B9 p = none := dj_none d9 (by rw [upd_ne (fun e => hfp e.symm)]; exact upd_same)
          rw [jn_pub hMf9, jn_pub hMp]
          have dM : Dj B9 M' := fun a u e => (upd_none (upd_none (d9 a u e)).1).1
          have dj9 : Dj (upd (upd B9 f (.lst (nats fs))) p (NDo P w p kx)) M' := dj_b (dj_b dM hMf') hMp
          have sj9 : Same B9 (upd (upd B9 f (.lst (nats fs))) p (NDo P w p kx)) := (same_new hB9f).trans (same_new (by rw [upd_ne (fun e => hfp e.symm)]; exact hB9p))
          have hF : (rLst rNat fs).p (.ref f) (upd (upd B9 f (.lst (nats fs))) p (NDo P w p kx)) := lst_nats (by rw [upd_ne hfp]; exact upd_same)
          have fin : Finer m P1 fs := by
            refine ⟨hfs, fun i hi => by rw [(hkk i hi).2]; omega, fun i j hi hj => ?_⟩
            rw [(hkk i hi).2, (hkk j hj).2, ← keyK_iff]
            constructor
            · intro e
              have e2 : (kx.map fun p : NX => p.1).idxOf (kk i) = (kx.map fun p : NX => p.1).idxOf (kk j) := by omega
              have a1 := List.getElem_idxOf (List.idxOf_lt_length_of_mem (hkk i hi).1)
              have a2 := List.getElem_idxOf (List.idxOf_lt_length_of_mem (hkk j hj).1)
              have a3 : (kx.map fun p : NX => p.1)[(kx.map fun p : NX => p.1).idxOf (kk i)]? = (kx.map fun p : NX => p.1)[(kx.map fun p : NX => p.1).idxOf (kk j)]? := by rw [e2]
              rw [List.getElem?_eq_getElem (List.idxOf_lt_length_of_mem (hkk i hi).1), List.getElem?_eq_getElem (List.idxOf_lt_length_of_mem (hkk j hj).1), a1, a2] at a3
              exact Option.some.inj a3
            · intro e
              have : kk i = kk j := e
              rw [this]
          refine s_asg (ev_v (U := rLst rNat fs) rfl hF) dj9 fun v10 B10 b10 d10 hv10 => ?_
          refine ⟨m.length + 1 - fm P1, M', B10, by omega, rfl, d10, rfl, s5.trans (b9.trans (sj9.trans b10)), v10, fs, fm P1, _, _, _, _, _, _, _, _, rfl, hv10, hfs, fin.pos, fun i j hi hj e => lastP i j hi hj ((fin.iff i j hi hj).mp e).1, .inr ⟨P1, lP, lastP, hdc, fin⟩, rfl⟩
      · have hge : ¬ many < fm P1 := by
          have := of_decide_eq_false ht
          omega
        refine s_ret (U := rEx (Cong m) (rLst rNat)) (ev_v rfl ⟨P1, ?_, (rLst rNat P1).up b3 hP⟩) d3 fun v B9 b9 d9 h9 => q v B9 (bb.trans (b3.trans b9)) d9 h9
        rcases why with e0 | ⟨P2, l2, last2, dc2, fin⟩
        · exfalso
          obtain ⟨L, _, h2, h3⟩ := hdc
          have : P1.getD 0 0 ∈ L := (h2 _).mpr (getD_mem (by rw [lP]; exact vm.pos))
          have := List.length_pos_of_mem this
          omega
        · exact cong_of vm.toWf l2 last2 fin dc2 hdc (by omega)
end
end Zb
end
section
set_option Elab.async false
set_option linter.all false
/-! Zm2: what exploring a quotient gives is a homomorphism. -/
namespace Zb
theorem lastAt_of {m : Mach} {i : Nat} {q : Row × Bool} (h : m[i]? = some q) : lastAt m i = q.2 := by
  unfold lastAt
  rw [h]
  rfl
theorem rowAt_of {m : Mach} {i : Nat} {q : Row × Bool} (h : m[i]? = some q) : rowAt m i = q.1 := by
  unfold rowAt
  rw [h]
  rfl
def newRow (m : Mach) (cls keys : List Nat) (k : Nat) : Row := (endsOf cls (rowAt m (cls.idxOf k))).map fun q => (q.1, keys.idxOf q.2)
structure Expl (m : Mach) (cls keys : List Nat) (mv : List Row) : Prop where
  nd : keys.Nodup
  mem : ∀ k ∈ keys, k ∈ cls
  zero : cls.getD 0 0 ∈ keys
  le : mv.length ≤ keys.length
  row : ∀ j, j < mv.length → ∃ k, keys[j]? = some k ∧ mv[j]? = some (newRow m cls keys k) ∧ ∀ q ∈ endsOf cls (rowAt m (cls.idxOf k)), q.2 ∈ keys
theorem Expl.len {m : Mach} {cls keys : List Nat} {mv : List Row} (e : Expl m cls keys mv) : keys.length ≤ cls.length := sub_len e.nd e.mem
/-- more keys at the end change nothing of the rows told -/
theorem newRow_more {m : Mach} {cls keys more : List Nat} {k : Nat} (h : ∀ q ∈ endsOf cls (rowAt m (cls.idxOf k)), q.2 ∈ keys) : newRow m cls (keys ++ more) k = newRow m cls keys k := by
  unfold newRow
  refine List.map_congr_left fun q hq => ?_
  rw [List.idxOf_append, if_pos (h q hq)]
theorem idx_at {cls : List Nat} {k : Nat} (h : k ∈ cls) : cls.idxOf k < cls.length ∧ cls.getD (cls.idxOf k) 0 = k := ⟨List.idxOf_lt_length_of_mem h, getD_idx h⟩
theorem Expl.hom {m : Mach} {cls keys : List Nat} {mv : List Row} (v : Vm m) (c : Cong m cls) (e : Expl m cls keys mv) (hl : mv.length = keys.length) :
    Hom m (mv.zip (keys.map fun k => lastAt m (cls.idxOf k))) (fun s => keys.idxOf (cls.getD s 0)) := by
  have hlen : (mv.zip (keys.map fun k => lastAt m (cls.idxOf k))).length = keys.length := by rw [List.length_zip, List.length_map, hl, Nat.min_self]
  have hle : keys.length ≤ m.length := by have := e.len; rw [c.len] at this; exact this
  have at_ : ∀ j k, keys[j]? = some k → (mv.zip (keys.map fun k => lastAt m (cls.idxOf k)))[j]? = some (newRow m cls keys k, lastAt m (cls.idxOf k)) := fun j k h => by
    have hj : j < mv.length := by rw [hl]; exact (List.getElem?_eq_some_iff.mp h).1
    obtain ⟨k', h1, h2, _⟩ := e.row j hj
    rw [h] at h1
    cases h1
    exact List.getElem?_zip_eq_some.mpr ⟨h2, by rw [List.getElem?_map, h]; rfl⟩
  have key : ∀ k ∈ keys, keys[keys.idxOf k]? = some k := fun k hk => by
    rw [List.getElem?_eq_getElem (List.idxOf_lt_length_of_mem hk), List.getElem_idxOf]
  have same : ∀ s, s < m.length → cls.idxOf (cls.getD s 0) < m.length ∧ cls.getD (cls.idxOf (cls.getD s 0)) 0 = cls.getD s 0 := fun s hs => by
    have := idx_at (getD_mem (xs := cls) (i := s) (by rw [c.len]; exact hs))
    rw [c.len] at this
    exact this
  have cl : ∀ k ∈ keys, ∀ q ∈ endsOf cls (rowAt m (cls.idxOf k)), q.2 ∈ keys := fun k hk => by
    obtain ⟨k', h1, _, h3⟩ := e.row (keys.idxOf k) (by rw [hl]; exact List.idxOf_lt_length_of_mem hk)
    rw [key k hk] at h1
    cases h1
    exact h3
  have all : ∀ s, s < m.length → cls.getD s 0 ∈ keys := fun s hs => by
    have p := v.reach s hs
    have go : ∀ i j, Pth m i j → i = 0 → j < m.length ∧ cls.getD j 0 ∈ keys := fun i j p => by
      induction p with
      | refl => intro h; rw [h]; exact ⟨v.pos, e.zero⟩
      | @snoc j c' k p e' ih =>
        intro h
        obtain ⟨hj, hk⟩ := ih h
        refine ⟨v.toWf.to e', ?_⟩
        obtain ⟨r1, r2⟩ := same j hj
        have ee := c.ends _ j r1 hj r2
        refine cl _ hk (c', cls.getD k 0) ?_
        rw [ee]
        exact List.mem_map.mpr ⟨(c', k), e', rfl⟩
    exact (go 0 s p rfl).2
  have atS : ∀ s, s < m.length → (mv.zip (keys.map fun k => lastAt m (cls.idxOf k)))[keys.idxOf (cls.getD s 0)]? = some (newRow m cls keys (cls.getD s 0), lastAt m (cls.idxOf (cls.getD s 0))) := fun s hs => at_ _ _ (key _ (all s hs))
  have rowS : ∀ s, s < m.length → newRow m cls keys (cls.getD s 0) = (rowAt m s).map fun q => (q.1, keys.idxOf (cls.getD q.2 0)) := fun s hs => by
    obtain ⟨r1, r2⟩ := same s hs
    unfold newRow
    rw [c.ends _ s r1 hs r2]
    unfold endsOf
    rw [List.map_map]
    rfl
  refine ⟨⟨?_, ?_, fun q hq => ?_⟩, by rw [hlen]; exact hle, fun s hs => ?_, fun s hs => ?_, fun s hs => ?_, fun t ht => ?_⟩
  · rw [hlen]
    exact List.length_pos_of_mem e.zero
  · rw [hlen]
    have := v.le
    omega
  · obtain ⟨j, hj, ej⟩ := List.mem_iff_getElem.mp hq
    rw [hlen] at hj
    have h2 := at_ j keys[j] (List.getElem?_eq_getElem hj)
    rw [List.getElem?_eq_getElem (by rw [hlen]; exact hj), ej] at h2
    have e1 : q.1 = newRow m cls keys keys[j] := by rw [Option.some.inj h2]
    have w := v.toWf.at (cls.idxOf keys[j])
    rw [e1, hlen]
    unfold newRow endsOf
    rw [List.map_map]
    refine ⟨by rw [List.map_map]; exact w.asc, fun p hp => ?_, fun p hp => ?_⟩
    · obtain ⟨p0, h0, rfl⟩ := List.mem_map.mp hp
      exact w.sg p0 h0
    · obtain ⟨p0, h0, rfl⟩ := List.mem_map.mp hp
      exact List.idxOf_lt_length_of_mem (cl _ (List.getElem_mem hj) (p0.1, cls.getD p0.2 0) (List.mem_map.mpr ⟨p0, h0, rfl⟩))
  · rw [hlen]
    exact List.idxOf_lt_length_of_mem (all s hs)
  · rw [lastAt_of (atS s hs)]
    obtain ⟨r1, r2⟩ := same s hs
    exact c.last _ s r1 hs r2
  · rw [rowAt_of (atS s hs)]
    exact rowS s hs
  · rw [hlen] at ht
    obtain ⟨r1, r2⟩ := idx_at (e.mem _ (List.getElem_mem ht))
    refine ⟨cls.idxOf keys[t], by rw [← c.len]; exact r1, ?_⟩
    show keys.idxOf (cls.getD (cls.idxOf keys[t]) 0) = t
    rw [r2]
    have h3 := key keys[t] (List.getElem_mem ht)
    rw [← List.getElem?_eq_getElem ht] at h3
    exact (List.getElem?_inj (List.idxOf_lt_length_of_mem (List.getElem_mem ht)) e.nd).mp h3
end Zb
end
section
set_option Elab.async false
set_option linter.all false
set_option maxRecDepth 100000
/-! Zs6: the walk: Quotient, explored, made_form, least. -/
namespace Zb
open PySem PySem.Spec PyProof.Rows L2 SlX
/-! ### everything new goes over into B -/
def pb (B M M' : Hp) : Hp := fun a => match M a with
  | some _ => B a
  | none => jn B M' a
theorem pub_all {B M M' : Hp} (s : Same M M') (d : Dj B M') : jn B M' = jn (pb B M M') M ∧ Dj (pb B M M') M ∧ Same B (pb B M M') := by
  have dM : ∀ a o, B a = some o → M a = none := fun a o e => by
    cases h : M a with
    | none => rfl
    | some u => have := s a u h; rw [d a o e] at this; cases this
  refine ⟨?_, fun a o e => ?_, fun a o e => ?_⟩
  · funext a
    cases h : M a with
    | some u => rw [jn_m (s a u h), jn_m h]
    | none => rw [jn_n h]; unfold pb; rw [h]
  · cases h : M a with
    | none => rfl
    | some u =>
      unfold pb at e
      rw [h] at e
      rw [dM a o e] at h
      cases h
  · unfold pb
    rw [dM a o e]
    exact jn_b d e
theorem pb_at {B M M' : Hp} {a : Addr} {o : HO} (h : M a = none) (h' : M' a = some o) : pb B M M' a = some o := by
  unfold pb
  rw [h]
  exact jn_m h'
theorem same_upd {M M' : Hp} {p : Addr} {o : HO} (s : Same M M') (h : M p = none) : Same M (upd M' p o) := fun a u e => by
  rw [upd_ne (ne_of_none e h)]
  exact s a u e
/-! ### lists and dicts in M -/
section
variable {K : PySem.W.Frag} {σ : L2.St} {M B : Hp} {ta tb : TE}
theorem ev_ixM {i : Nat} {l : Addr} {xs : List Nat} {j k : Nat} (hσ : σ[i]? = some (some (.ref l))) (hM : M l = some (.lst (nats xs))) (hb : Ev tb σ M B (rNat j)) (e : xs[j]? = some k) : Ev (tOp (rIxL K) (tVar i) tb) σ M B (rNat k) := fun M1 B1 m b d Q q =>
  ⟨_, hσ, hb M1 B1 m b d _ fun y B2 b2 d2 hy => ⟨l, nats xs, (j : Int), V.int (k : Int), rfl, hy, SqL.of (jn_m (m _ _ hM)), atI_nat (by rw [List.getElem?_map, e]; rfl), q _ B2 b2 d2 rfl⟩⟩
theorem ev_dgetM {i : Nat} {l : Addr} {kvs : List (Key × V)} {k : Key} {v : V} (hσ : σ[i]? = some (some (.ref l))) (hM : M l = some (.dK kvs)) (hb : Ev tb σ M B (isV (kV k))) (e : valV kvs k = some v) : Ev (tDGet (tVar i) tb) σ M B (isV v) := fun M1 B1 m b d Q q =>
  ⟨_, hσ, hb M1 B1 m b d _ fun y B2 b2 d2 hy => ⟨l, v, rfl, .inl ⟨kvs, k, .inl (jn_m (m _ _ hM)), hy, e.symm⟩, q _ B2 b2 d2 rfl⟩⟩
theorem ev_dnotinM {i : Nat} {l : Addr} {kvs : List (Key × V)} {k : Key} (hσ : σ[i]? = some (some (.ref l))) (hM : M l = some (.dK kvs)) (hb : Ev tb σ M B (isV (kV k))) : Ev (tDNotIn tb (tVar i)) σ M B (rBl (!(valV kvs k).isSome)) := fun M1 B1 m b d Q q =>
  hb M1 B1 m b d _ fun y B2 b2 d2 hy => ⟨_, hσ, l, valV kvs k, rfl, .inl ⟨kvs, k, .inl (jn_m (m _ _ hM)), hy, rfl⟩, q _ B2 b2 d2 rfl⟩
theorem ev_dinM {i : Nat} {l : Addr} {kvs : List (Key × V)} {k : Key} (hσ : σ[i]? = some (some (.ref l))) (hM : M l = some (.dK kvs)) (hb : Ev tb σ M B (isV (kV k))) : Ev (tDIn tb (tVar i)) σ M B (rBl (valV kvs k).isSome) := fun M1 B1 m b d Q q =>
  hb M1 B1 m b d _ fun y B2 b2 d2 hy => ⟨_, hσ, l, valV kvs k, rfl, .inl ⟨kvs, k, .inl (jn_m (m _ _ hM)), hy, rfl⟩, q _ B2 b2 d2 rfl⟩
/-- xs.index(k) -/
theorem ev_index {xs : List Nat} {k : Nat} (ha : Ev ta σ M B (rLst rNat xs)) (hb : Ev tb σ M B (rNat k)) (hk : k ∈ xs) : Ev (tBM K "list" (rIndex K) ta (tCons tb tNil)) σ M B (rNat (xs.idxOf k)) := fun M1 B1 m b d Q q => ha M1 B1 m b d _ fun v B2 b2 d2 ⟨a, vs, e, h, al⟩ => by
  subst e
  refine ⟨.inl ⟨rfl, vs, SqL.of (jn_b d2 h)⟩, ?_⟩
  refine hb M1 B2 m (b.trans b2) d2 _ fun y B3 b3 d3 hy => ?_
  have hl := List.idxOf_lt_length_of_mem hk
  have ev := al_nat al
  refine ⟨a, vs, y, xs.idxOf k, V.int (k : Int), rfl, rfl, SqL.of (jn_b d3 (b3 _ _ h)), by rw [show y = _ from hy]; rfl, by rw [ev]; exact flat_nat, ?_, by rw [show y = _ from hy]; simp [eqV], fun j z hj hz => ?_, q _ B3 (b2.trans b3) d3 rfl⟩
  · rw [ev, List.getElem?_map, List.getElem?_eq_getElem hl, List.getElem_idxOf]
    rfl
  · rw [ev, List.getElem?_map, List.getElem?_eq_getElem (by omega)] at hz
    have hz := Option.some.inj hz
    rw [← hz, show y = _ from hy]
    have hne : xs[j] ≠ k := by
      have := List.not_of_lt_findIdx (p := (· == k)) (xs := xs) (i := j) hj
      simpa using this
    show (((xs[j] : Nat) : Int) == (k : Int)) = false
    simp
    omega
end
/-! ### quotients -/
def rQ (c : Cs) (x : Mach × List Nat) : Up := ⟨fun v B => ∃ a dx vs l1 l2 l3, v = .ref a ∧ B a = some (SlO a c.CQ dx vs) ∧ B dx = some (.xd []) ∧ vs[c.qM]? = some (some l1) ∧ vs[c.qL]? = some (some l2) ∧ vs[c.qC]? = some (some l3) ∧ (rLst rRow (rows x.1)).p l1 B ∧ (rLst rBl (lasts x.1)).p l2 B ∧ (rLst rNat x.2).p l3 B,
  fun s ⟨a, dx, vs, l1, l2, l3, e, h1, h2, h3, h4, h5, h6, h7, h8⟩ => ⟨a, dx, vs, l1, l2, l3, e, s _ _ h1, s _ _ h2, h3, h4, h5, (rLst rRow (rows x.1)).up s h6, (rLst rBl (lasts x.1)).up s h7, (rLst rNat x.2).up s h8⟩⟩
section
variable {K : PySem.W.Frag} {c : Cs} {σ : L2.St} {M B : Hp} {ta : TE} {x : Mach × List Nat}
theorem ev_ofMoves (k : Kc K c) (h : Ev ta σ M B (rQ c x)) : Ev (tSl K ta "of_moves") σ M B (rLst rRow (rows x.1)) := fun M1 B1 mm b d Q q => h M1 B1 mm b d _ fun v B2 b2 d2 ⟨a, dx, vs, l1, l2, l3, e, h1, h2, h3, h4, h5, h6, h7, h8⟩ => by
  obtain ⟨p, sl⟩ := k.qmv
  exact ⟨a, c.CQ, dx, p, vs, c.qM, l1, e, .inr ⟨jn_b d2 h1, jn_b d2 h2⟩, k.qsc, sl, h3, q l1 B2 b2 d2 h6⟩
theorem ev_ofLasts (k : Kc K c) (h : Ev ta σ M B (rQ c x)) : Ev (tSl K ta "of_lasts") σ M B (rLst rBl (lasts x.1)) := fun M1 B1 mm b d Q q => h M1 B1 mm b d _ fun v B2 b2 d2 ⟨a, dx, vs, l1, l2, l3, e, h1, h2, h3, h4, h5, h6, h7, h8⟩ => by
  obtain ⟨p, sl⟩ := k.qls
  exact ⟨a, c.CQ, dx, p, vs, c.qL, l2, e, .inr ⟨jn_b d2 h1, jn_b d2 h2⟩, k.qsc, sl, h4, q l2 B2 b2 d2 h7⟩
theorem ev_ofClasses (k : Kc K c) (h : Ev ta σ M B (rQ c x)) : Ev (tSl K ta "of_classes") σ M B (rLst rNat x.2) := fun M1 B1 mm b d Q q => h M1 B1 mm b d _ fun v B2 b2 d2 ⟨a, dx, vs, l1, l2, l3, e, h1, h2, h3, h4, h5, h6, h7, h8⟩ => by
  obtain ⟨p, sl⟩ := k.qcl
  exact ⟨a, c.CQ, dx, p, vs, c.qC, l3, e, .inr ⟨jn_b d2 h1, jn_b d2 h2⟩, k.qsc, sl, h5, q l3 B2 b2 d2 h8⟩
end
abbrev s_Quotient___init__ : Stmt := inClass (top 20) 1
theorem sc_Quotient___init__ : FnScope ["self", "moves", "lasts", "classes"] ["self", "moves", "lasts", "classes"] (defScope s_Quotient___init__) := ⟨rfl, rfl, rfl, by decide +kernel, rfl, by decide +kernel, by decide +kernel⟩
def sp_Quotient (c : Cs) : Sp := spI (α := Mach × List Nat) c.CQ (fun x => [rLst rRow (rows x.1), rLst rBl (lasts x.1), rLst rNat x.2]) (fun _ => True) (rQ c)
abbrev s_Quotient_begun : Stmt := inClass (top 20) 2
theorem sc_Quotient_begun : FnScope ["self"] ["self"] (defScope s_Quotient_begun) := ⟨rfl, rfl, rfl, by decide +kernel, rfl, by decide +kernel, by decide +kernel⟩
def sp_begun (c : Cs) : Sp := spF (α := Mach × List Nat) (fun x => [rQ c x]) (fun x => 0 < x.2.length) (fun x => rNat (x.2.getD 0 0))
abbrev s_Quotient_moves_at : Stmt := inClass (top 20) 3
theorem sc_Quotient_moves_at : FnScope ["self", "key", "row", "classes", "sign"] ["self", "key"] (defScope s_Quotient_moves_at) := ⟨rfl, rfl, rfl, by decide +kernel, rfl, by decide +kernel, by decide +kernel⟩
def sp_moves_at (c : Cs) : Sp := spF (α := (Mach × List Nat) × Nat) (fun x => [rQ c x.1, rNat x.2]) (fun x => Wf x.1.1 ∧ Cong x.1.1 x.1.2 ∧ x.2 ∈ x.1.2) (fun x => rLst (fun q : Nat × Nat => rPr (fun s : Nat => rTx [s]) rNat q) (endsOf x.1.2 (rowAt x.1.1 (x.1.2.idxOf x.2))))
abbrev s_Quotient_is_end : Stmt := inClass (top 20) 4
theorem sc_Quotient_is_end : FnScope ["self", "key"] ["self", "key"] (defScope s_Quotient_is_end) := ⟨rfl, rfl, rfl, by decide +kernel, rfl, by decide +kernel, by decide +kernel⟩
def sp_is_end (c : Cs) : Sp := spF (α := (Mach × List Nat) × Nat) (fun x => [rQ c x.1, rNat x.2]) (fun x => Cong x.1.1 x.1.2 ∧ x.2 ∈ x.1.2) (fun x => rBl (lastAt x.1.1 (x.1.2.idxOf x.2)))
section
variable {P : Program} {w : World} {K : PySem.W.Frag} {mg : Str → Option Value} {base : Heap} {c : Cs}
theorem c_Quotient_init (D : MDf K c.CQ "__init__" "Quotient.__init__" s_Quotient___init__) (Kk : Kc K c) : CalM P w K mg base 1 c.CQ "__init__" (sp_Quotient c) :=
  calm_of D sc_Quotient___init__ (fun _ _ _ _ _ _ us hl => match us, hl with | [_, _, _, _], _ => rfl) (spI_len fun _ => rfl) fun f cdv A outer s H vs Q E hr h => by
  obtain ⟨x, B, M, a, dx, ws, rfl, d, hMa, hMd, hBa, hBd, hne, _, rfl, al, q⟩ := h
  have sc := sc_Quotient___init__
  refine ⟨_, (pss_cons (ps_sl (pv 0) (pv 1))
      (pss_cons (ps_sl (pv 0) (pv 2))
      (pss_one (ps_sl (pv 0) (pv 3))))), ?_⟩
  cases al with
  | cons h1 al => cases al with
  | cons h2 al => cases al with
  | cons h3 al =>
    cases al
    obtain ⟨n1, n2, n3⟩ := Kk.qne
    have d0 : Dj B (upd (upd M dx (.own a)) a (.ins c.CQ dx [])) := dj_m (dj_m d hBd) hBa
    refine q_sl (i := 0) (a := a) (C := c.CQ) (dx := dx) (vs := []) rfl (.inl ⟨upd_same, rfl⟩) Kk.qsc Kk.qmv (U := rLst rRow (rows x.1)) (ev_v rfl h1) d0 fun l1 B2 b2 d2 hl1 => ?_
    rw [upd_pair]
    have hB2a : B2 a = none := dj_none d2 upd_same
    have hB2d : B2 dx = none := dj_none d2 (by rw [upd_ne hne]; exact upd_same)
    have d3 : Dj B2 M := fun b o e => (upd_none (upd_none (d2 b o e)).1).1
    have d4 : Dj B2 (upd (upd M dx (.xd [])) a (SlO a c.CQ dx (putS c.qM l1 []))) := dj_m (dj_m d3 hB2d) hB2a
    refine q_sl (i := 0) (a := a) (C := c.CQ) (dx := dx) (vs := putS c.qM l1 []) rfl (.inr ⟨upd_same, by rw [upd_ne hne]; exact upd_same⟩) Kk.qsc Kk.qls (U := rLst rBl (lasts x.1)) (ev_v rfl ((rLst rBl (lasts x.1)).up b2 h2)) d4 fun l2 B3 b3 d5 hl2 => ?_
    rw [upd_pair]
    have hB3a : B3 a = none := dj_none d5 upd_same
    have hB3d : B3 dx = none := dj_none d5 (by rw [upd_ne hne]; exact upd_same)
    have d6 : Dj B3 M := fun b o e => (upd_none (upd_none (d5 b o e)).1).1
    have d7 : Dj B3 (upd (upd M dx (.xd [])) a (SlO a c.CQ dx (putS c.qL l2 (putS c.qM l1 [])))) := dj_m (dj_m d6 hB3d) hB3a
    refine s_sl (i := 0) (a := a) (C := c.CQ) (dx := dx) (vs := putS c.qL l2 (putS c.qM l1 [])) rfl (.inr ⟨upd_same, by rw [upd_ne hne]; exact upd_same⟩) Kk.qsc Kk.qcl (U := rLst rNat x.2) (ev_v rfl ((rLst rNat x.2).up (b2.trans b3) h3)) d7 fun l3 B4 b4 d8 hl3 => ?_
    rw [upd_pair, jn_pub2 hMa hMd hne]
    have hB4a : B4 a = none := dj_none d8 upd_same
    have hB4d : B4 dx = none := dj_none d8 (by rw [upd_ne hne]; exact upd_same)
    have d9 : Dj B4 M := fun b o e => (upd_none (upd_none (d8 b o e)).1).1
    have sn : Same B4 (upd (upd B4 dx (.xd [])) a (SlO a c.CQ dx (putS c.qC l3 (putS c.qL l2 (putS c.qM l1 []))))) := (same_new hB4d).trans (same_new (by rw [upd_ne (fun e => hne e.symm)]; exact hB4a))
    refine q _ ((b2.trans (b3.trans b4)).trans sn) (dj_b (dj_b d9 hMd) hMa) ?_
    exact ⟨a, dx, _, l1, l2, l3, rfl, upd_same, by rw [upd_ne hne, upd_same], (putS_ne n2).mpr ((putS_ne n1).mpr (putS_get _ _ _)), (putS_ne n3).mpr (putS_get _ _ _), putS_get _ _ _,
      (rLst rRow (rows x.1)).up (b3.trans (b4.trans sn)) hl1, (rLst rBl (lasts x.1)).up (b4.trans sn) hl2, (rLst rNat x.2).up sn hl3⟩
theorem c_begun (D : MDf K c.CQ "begun" "Quotient.begun" s_Quotient_begun) (Kk : Kc K c) : CalM P w K mg base 1 c.CQ "begun" (sp_begun c) :=
  calm_of D sc_Quotient_begun (fun _ _ _ _ _ _ us hl => match us, hl with | [_], _ => rfl) (spF_len fun _ => rfl) fun f cdv A outer s H vs Q E hr h => by
  obtain ⟨x, B, M, rfl, d, hl, al, q⟩ := h
  have sc := sc_Quotient_begun
  refine ⟨_, (pss_one (ps_ret (pe_ix (kix_list K rfl) (kpe_sl K rfl (pv 0)) pe_int (fun _ _ => rfl)))), ?_⟩
  cases al with
  | cons h1 al =>
    cases al
    exact s_ret (U := rNat (x.2.getD 0 0)) (ev_ixL (ev_ofClasses Kk (ev_v (U := rQ c x) rfl h1)) ev_c (getD_some hl)) d q
theorem c_is_end (D : MDf K c.CQ "is_end" "Quotient.is_end" s_Quotient_is_end) (Kk : Kc K c) : CalM P w K mg base 1 c.CQ "is_end" (sp_is_end c) :=
  calm_of D sc_Quotient_is_end (fun _ _ _ _ _ _ us hl => match us, hl with | [_, _], _ => rfl) (spF_len fun _ => rfl) fun f cdv A outer s H vs Q E hr h => by
  obtain ⟨x, B, M, rfl, d, ⟨cg, hm⟩, al, q⟩ := h
  have sc := sc_Quotient_is_end
  refine ⟨_, (pss_one (ps_ret (pe_ix (kix_list K rfl) (kpe_sl K rfl (pv 0)) (pe_bm PySem.F.plainAttrs_list PySem.F.slot_list_index PySem.F.type_list_index mt_index (kpe_sl K rfl (pv 0)) (pa_cons (pv 1) pa_nil)) (fun _ _ => rfl)))), ?_⟩
  cases al with
  | cons h1 al => cases al with
  | cons h2 al =>
    cases al
    obtain ⟨⟨m, cls⟩, k⟩ := x
    have hi : cls.idxOf k < m.length := by rw [← cg.len]; exact List.idxOf_lt_length_of_mem hm
    refine s_ret (U := rBl (lastAt m (cls.idxOf k))) (ev_ixL (R := rBl) (ev_ofLasts Kk (ev_v (U := rQ c (m, cls)) rfl h1)) (ev_index (ev_ofClasses Kk (ev_v (U := rQ c (m, cls)) rfl h1)) (ev_v (U := rNat k) rfl h2) hm) ?_) d q
    rw [lastAt_get hi]
    show (m.map fun q => q.2)[cls.idxOf k]? = _
    rw [List.getElem?_map, List.getElem?_eq_getElem hi]
    rfl
theorem c_moves_at (D : MDf K c.CQ "moves_at" "Quotient.moves_at" s_Quotient_moves_at) (Kk : Kc K c) (T : Bt mg) : CalM P w K mg base 1 c.CQ "moves_at" (sp_moves_at c) :=
  calm_of D sc_Quotient_moves_at (fun _ _ _ _ _ _ us hl => match us, hl with | [_, _], _ => rfl) (spF_len fun _ => rfl) fun f cdv A outer s H vs Q E hr h => by
  obtain ⟨x, B, M, rfl, d, ⟨wf, cg, hm⟩, al, q⟩ := h
  have sc := sc_Quotient_moves_at
  have hu := room_1 hr
  refine ⟨_, (pss_cons (ps_asg (pe_tup (pa_cons (pe_ix (kix_list K rfl) (kpe_sl K rfl (pv 0)) (pe_bm PySem.F.plainAttrs_list PySem.F.slot_list_index PySem.F.type_list_index mt_index (kpe_sl K rfl (pv 0)) (pa_cons (pv 1) pa_nil)) (fun _ _ => rfl)) (pa_cons (kpe_sl K rfl (pv 0)) pa_nil))) (kpg_tup (n := 2) K rfl rfl (pgs_cons (pg_name (i := 2) sc.nd rfl (.inr rfl)) (pgs_cons (pg_name (i := 3) sc.nd rfl (.inr rfl)) pgs_nil))))
      (pss_one (ps_ret (pe_lc (own := [("sign", 4)]) rfl sc.nd (kpi_list K rfl (pe_callB (call_sortedD rfl) (by rfl) T.sorted (by decide +kernel) (pa_cons (pv 2) pa_nil))) (blkOk_by (by kernel_rfl)) (fun _ _ _ _ _ => (pg_name (i := 4) sc.nd rfl (.inl rfl))) (fun _ _ _ _ _ => (pts_one (pt_cmpR op_gt (pe_ix (kix_list K rfl) (pv 3) (pe_dget hu (pv 2) (pv 4) (fun _ _ => rfl)) (fun _ _ => rfl)) pe_int (nomark _)))) (fun _ _ _ _ _ => (pe_tup (pa_cons (pv 4) (pa_cons (pe_ix (kix_list K rfl) (pv 3) (pe_dget hu (pv 2) (pv 4) (fun _ _ => rfl)) (fun _ _ => rfl)) pa_nil)))))))), ?_⟩
  cases al with
  | cons h1 al => cases al with
  | cons h2 al =>
    cases al
    obtain ⟨⟨m, cls⟩, k⟩ := x
    have wf : Wf m := wf
    have cg : Cong m cls := cg
    have hm : k ∈ cls := hm
    have hi : cls.idxOf k < m.length := by rw [← cg.len]; exact List.idxOf_lt_length_of_mem hm
    generalize ei : cls.idxOf k = i at hi
    have ro := wf.at i
    have hlr := ro.len
    refine q_asg2 (R := rRow) (S := rLst rNat) (x := (rowAt m i, cls)) (ev_pr (R := rRow) (S := rLst rNat) (ev_ixL (R := rRow) (i := i) (ev_ofMoves Kk (ev_v (U := rQ c (m, cls)) rfl h1)) (ei ▸ ev_index (ev_ofClasses Kk (ev_v (U := rQ c (m, cls)) rfl h1)) (ev_v (U := rNat k) rfl h2) hm) (rows_at hi)) (ev_ofClasses Kk (ev_v (U := rQ c (m, cls)) rfl h1))) d fun rv cv B1 b1 d1 hrv hcv => ?_
    have hpos : ∀ q ∈ rowAt m i, 0 < cls.getD q.2 0 := fun q hq => cg.pos _ (ro.to q hq)
    refine s_ret (U := rLst (fun q : Nat × Nat => rPr (fun s : Nat => rTx [s]) rNat q) (endsOf cls (rowAt m i))) (EvN.lst ?_) d1 fun v B2 b2 d2 hv => q v B2 (b1.trans b2) d2 (by show (rLst _ (endsOf cls (rowAt m (cls.idxOf k)))).p v B2; rw [ei]; exact hv)
    refine (en_lc (R := fun q : Nat × Nat => rTx [q.1]) (S := fun q : Nat × Nat => rPr (fun c : Nat => rTx [c]) rNat (q.1, cls.getD q.2 0)) (f := fun q : Nat × Nat => decide (((cls.getD q.2 0 : Nat) : Int) > 0)) (xs := rowAt m i)
      (ei_list (EvN.lst (R := fun q : Nat × Nat => rTx [q.1]) (en_sortRow (ev_v (U := rRow (rowAt m i)) rfl hrv) ro.asc (by omega)))) (by omega) (fun _ => rfl) (fun q hq v6 M6 B6 _ b6 hv6 => ?_) fun q hq _ v6 M6 B6 _ b6 hv6 => ?_).to fun vs B6 h6 => ?_
    · refine et_test (ev_I0 (g := fun i j => .bl (decide (i > j))) (ev_ixL (R := rNat) (i := q.2) (x := cls.getD q.2 0) (ev_v (U := rLst rNat cls) rfl ((rLst rNat cls).up b6 hcv)) (ev_rget (ev_v (U := rRow (rowAt m i)) rfl ((rRow (rowAt m i)).up b6 hrv)) (ev_v (U := rTx [q.1]) rfl hv6) (mem_lookup ro.asc hq)) (getD_some (by rw [cg.len]; exact ro.to q hq))) (ev_c (x := .int 0)))
    · exact ev_pr (R := fun c : Nat => rTx [c]) (S := rNat) (ev_v (U := rTx [q.1]) rfl hv6) (ev_ixL (R := rNat) (i := q.2) (x := cls.getD q.2 0) (ev_v (U := rLst rNat cls) rfl ((rLst rNat cls).up b6 hcv)) (ev_rget (ev_v (U := rRow (rowAt m i)) rfl ((rRow (rowAt m i)).up b6 hrv)) (ev_v (U := rTx [q.1]) rfl hv6) (mem_lookup ro.asc hq)) (getD_some (by rw [cg.len]; exact ro.to q hq)))
    · rw [List.filter_eq_self.mpr (fun q hq => decide_eq_true (by have := hpos q hq; omega))] at h6
      exact Al.map (R := fun q : Nat × Nat => rPr (fun c : Nat => rTx [c]) rNat q) (f := fun q : Nat × Nat => (q.1, cls.getD q.2 0)) h6
end
end Zb
end
section
set_option Elab.async false
set_option linter.all false
set_option maxRecDepth 100000
/-! Zs7: the walk: explored. -/
namespace Zb
open PySem PySem.Spec PyProof.Rows L2 SlX
theorem CalM.fnr {P : Program} {w : World} {K : PySem.W.Frag} {mg : Str → Option Value} {base : Heap} {k : Nat} {C : Addr} {m : Str} {sp : Sp} (c : CalM P w K mg base k C m sp) : ∃ g, Meth K C m g ∧ FnR P w K mg base CX0 k g sp := by
  obtain ⟨f, fd, ps, F, hm, b⟩ := c.ex
  refine ⟨f, hm, ?_⟩
  have := F.raw b .nil
  simpa using this
/-! ### a thing of M goes over to B -/
theorem jn_out {B M : Hp} {p : Addr} {o u : HO} (h : M p = some u) : upd (jn B M) p o = jn (upd B p o) (del M p) := by
  funext a
  by_cases e : a = p
  · subst e
    rw [upd_same, jn_n del_same, upd_same]
  · rw [upd_ne e]
    unfold jn
    rw [upd_ne e, del_ne e]
theorem dj_out {B M : Hp} {p : Addr} {o : HO} (d : Dj B M) : Dj (upd B p o) (del M p) := fun a u e => by
  by_cases q : a = p
  · subst q
    exact del_same
  · rw [upd_ne q] at e
    rw [del_ne q]
    exact d a u e
section
variable {K : PySem.W.Frag} {σ : L2.St} {M B : Hp} {te ta tk tv : TE} {U : Up} {D : Ends} {tz t : TS}
theorem q_disp1 {i : Nat} {k : Key} (hk : ∀ {M1 B1}, Same M M1 → Same B B1 → Ev tk σ M1 B1 (isV (kV k))) (hv : ∀ {M1 B1}, Same M M1 → Same B B1 → Ev tv σ M1 B1 U) (d : Dj B M) (kk : ∀ p v B', Same B B' → Dj B' M → M p = none → B' p = none → U.p v B' → tz D (σ.set i (some (.ref p))) (jn B' (upd M p (.dK [(k, v)])))) :
    tSeq (tAsg (tDisp [(tk, tv)]) (gName i)) tz D σ (jn B M) := fun p hp => by
  obtain ⟨hm, hb⟩ := jn_none hp
  rw [jn_updM]
  have d1 : Dj B (upd M p (.dK [])) := dj_m d hb
  refine hk (same_new hm) (Same.refl _) _ B (Same.refl _) (Same.refl _) d1 _ fun y B2 b2 d2 hy => hv (same_new hm) b2 _ B2 (Same.refl _) (Same.refl _) d2 _ fun z B3 b3 d3 hz => ⟨jn_m upd_same, [(k, z)], by rw [show y = _ from hy]; rfl, by show 1 ≤ 15; decide, ?_⟩
  rw [jn_updM, upd_upd]
  exact kk p z B3 (b2.trans b3) (fun a o e => (upd_none (d3 a o e)).1) hm (dj_none d3 upd_same) hz
/-- .. and is frozen as it goes -/
theorem s_freeze {h : Addr} {u : HO} (hM : M h = some u) (mu : Mut (some u)) (d : Dj B M) (k : ∀ od, Dj (upd B h (.frz od u)) (del M h) → t D σ (jn (upd B h (.frz od u)) (del M h))) : tFreeze t D σ (jn B M) :=
  ⟨h, u, jn_m hM, mu, fun od => by
    rw [jn_out hM]
    exact k od (dj_out d)⟩
theorem ev_methQ {c : Cs} {α : Type} {A : α → List Up} {ok : α → Prop} {R : α → Up} {E : XK} {tt : TA} {x : Mach × List Nat} {us : List Up} (y : α) (h : Ev ta σ M B (rQ c x)) (ha : EvA tt σ M B us) (e : A y = rQ c x :: us) (o : ok y) : Ev (tMethSl c.CQ (spF A ok R) E ta tt) σ M B (R y) := fun M1 B1 m b d Q q =>
  h M1 B1 m b d _ fun v B2 b2 d2 hv => by
    obtain ⟨a, dx, vs, l1, l2, l3, e1, h1, h2, _⟩ := id hv
    refine ⟨a, dx, vs, e1, .inr ⟨jn_b d2 h1, jn_b d2 h2⟩, ha M1 B2 m (b.trans b2) d2 _ fun ws B3 b3 d3 hw => ?_⟩
    exact ⟨y, B3, M1, rfl, d3, o, by rw [e]; exact .cons ((rQ c x).up b3 hv) hw, fun z B4 b4 d4 hz => q z B4 (b2.trans (b3.trans b4)) d4 hz⟩
end
/-! ### numbers -/
structure NumOk (keys : List Nat) (kvs : List (Key × V)) : Prop where
  len : kvs.length ≤ keys.length
  at_ : ∀ k : Nat, valV kvs (Sum.inl (k : Int)) = if k ∈ keys then some (V.int ((keys.idxOf k : Nat) : Int)) else none
theorem NumOk.snoc {keys : List Nat} {kvs : List (Key × V)} {k : Nat} (h : NumOk keys kvs) (hk : k ∉ keys) : NumOk (keys ++ [k]) (putK kvs (Sum.inl (k : Int)) (V.int ((keys.length : Nat) : Int))) := by
  refine ⟨?_, fun j => ?_⟩
  · have e := h.at_ k
    rw [if_neg hk] at e
    rw [putK_new _ e, List.length_append, List.length_append]
    have := h.len
    simp only [List.length_singleton]
    omega
  · rw [valV_put]
    by_cases e : j = k
    · subst e
      rw [if_pos rfl, if_pos (List.mem_append_right _ (List.mem_singleton.mpr rfl)), List.idxOf_append, if_neg hk]
      simp [List.idxOf_cons]
    · rw [if_neg (fun z => e (by have := Sum.inl.inj z; omega)), h.at_ j]
      by_cases hj : j ∈ keys
      · rw [if_pos hj, if_pos (List.mem_append_left _ hj), List.idxOf_append, if_pos hj]
      · rw [if_neg hj, if_neg]
        intro z
        rcases List.mem_append.mp z with z | z
        · exact hj z
        · exact e (List.mem_singleton.mp z)
/-- the walk of one row: what stands behind i of its moves -/
structure ExpI (M : Hp) (pk pn pm h : Addr) (rv : List V) (keys cls : List Nat) (Er : Row) (i : Nat) (keys' : List Nat) (kvs' : List (Key × V)) (M9 : Hp) : Prop where
  sm : Same M M9
  k : M9 pk = some (.lst (nats keys'))
  n : M9 pn = some (.dK kvs')
  v : M9 pm = some (.lst rv)
  h : M9 h = some (.dK (rowK ((Er.take i).map fun q => (q.1, keys'.idxOf q.2))))
  num : NumOk keys' kvs'
  nd : keys'.Nodup
  more : ∃ more, keys' = keys ++ more
  mem : ∀ k ∈ keys', k ∈ cls
  all : ∀ q ∈ Er.take i, q.2 ∈ keys'
section
variable {M : Hp} {pk pn pm h : Addr} {rv : List V} {keys cls : List Nat} {Er : Row} {i : Nat} {keys' : List Nat} {kvs' : List (Key × V)} {M9 : Hp} {x : Nat × Nat}
theorem ExpI.add (e : ExpI M pk pn pm h rv keys cls Er i keys' kvs' M9) (hk : M pk = none) (hn : M pn = none) (nkn : pn ≠ pk) (nkv : pm ≠ pk) (nnv : pm ≠ pn) (nhk : h ≠ pk) (nhn : h ≠ pn) (hx : x.2 ∉ keys') (hc : x.2 ∈ cls) :
    ExpI M pk pn pm h rv keys cls Er i (keys' ++ [x.2]) (putK kvs' (Sum.inl (x.2 : Int)) (V.int ((keys'.length : Nat) : Int))) (upd (upd M9 pn (.dK (putK kvs' (Sum.inl (x.2 : Int)) (V.int ((keys'.length : Nat) : Int))))) pk (.lst (nats keys' ++ [V.int (x.2 : Int)]))) := by
  refine ⟨same_upd (same_upd e.sm hn) hk, by rw [upd_same, nats_snoc], by rw [upd_ne nkn]; exact upd_same, by rw [upd_ne nkv, upd_ne nnv]; exact e.v, ?_, e.num.snoc hx, ?_, ?_, fun k hk => ?_, fun q hq => List.mem_append_left _ (e.all q hq)⟩
  · rw [upd_ne nhk, upd_ne nhn, e.h]
    congr 3
    refine List.map_congr_left fun q hq => ?_
    rw [List.idxOf_append, if_pos (e.all q hq)]
  · rw [List.nodup_append]
    refine ⟨e.nd, by simp, fun a ha b hb z => ?_⟩
    rw [List.mem_singleton.mp hb] at z
    exact hx (z ▸ ha)
  · obtain ⟨more, em⟩ := e.more
    exact ⟨more ++ [x.2], by rw [em, List.append_assoc]⟩
  · rcases List.mem_append.mp hk with z | z
    · exact e.mem k z
    · rw [List.mem_singleton.mp z]
      exact hc
theorem ExpI.step (e : ExpI M pk pn pm h rv keys cls Er i keys' kvs' M9) (hh : M h = none) (nhk : h ≠ pk) (nhn : h ≠ pn) (nhm : h ≠ pm) (exi : Er[i]? = some x) (asc : (Er.map fun q : Nat × Nat => q.1).Pairwise (· < ·)) (hx : x.2 ∈ keys') :
    ExpI M pk pn pm h rv keys cls Er (i + 1) keys' kvs' (upd M9 h (.dK (putK (rowK ((Er.take i).map fun q => (q.1, keys'.idxOf q.2))) (Sum.inr (tx [x.1])) (V.int ((keys'.idxOf x.2 : Nat) : Int))))) := by
  refine ⟨same_upd e.sm hh, by rw [upd_ne (fun z => nhk z.symm)]; exact e.k, by rw [upd_ne (fun z => nhn z.symm)]; exact e.n, by rw [upd_ne (fun z => nhm z.symm)]; exact e.v, ?_, e.num, e.nd, e.more, e.mem, fun q hq => ?_⟩
  · rw [upd_same, putK_row, take_snoc exi, List.map_append]
    · rfl
    · rw [List.map_map]
      have e3 : ((fun q : Nat × Nat => q.1) ∘ fun q : Nat × Nat => (q.1, keys'.idxOf q.2)) = fun q => q.1 := rfl
      rw [e3]
      intro hin
      have nd2 : ((Er.take (i + 1)).map fun q : Nat × Nat => q.1).Nodup := (asc.imp fun h => Nat.ne_of_lt h).sublist ((List.take_sublist _ _).map _)
      rw [take_snoc exi, List.map_append, List.nodup_append] at nd2
      exact nd2.2.2 _ hin _ (by simp) rfl
  · rw [take_snoc exi] at hq
    rcases List.mem_append.mp hq with z | z
    · exact e.all q z
    · rw [List.mem_singleton.mp z]
      exact hx
end
abbrev s_explored : Stmt := top 16
theorem sc_explored : FnScope ["work", "keys", "numbers", "moves", "here", "sign", "key"] ["work"] (defScope s_explored) := ⟨rfl, rfl, rfl, by decide +kernel, rfl, by decide +kernel, by decide +kernel⟩
def sp_explored (c : Cs) : Sp := spF (α := Mach × List Nat) (fun x => [rQ c x]) (fun x => Vm x.1 ∧ Cong x.1 x.2) (fun x => rEx (fun m' : Mach => ∃ h, Hom x.1 m' h) fun m' => rPr (rLst rRow) (rLst rBl) (rows m', lasts m'))
section
variable {P : Program} {w : World} {K : PySem.W.Frag} {mg : Str → Option Value} {base : Heap} {c : Cs}
theorem c_explored (D : Def K mg "explored" s_explored) (Kk : Kc K c) (T : Bt mg) (cB : CalM P w K mg base 1 c.CQ "begun" (sp_begun c)) (cV : CalM P w K mg base 1 c.CQ "moves_at" (sp_moves_at c)) (cE : CalM P w K mg base 1 c.CQ "is_end" (sp_is_end c)) : Cal P w K mg base 2 "explored" (sp_explored c) :=
  cal_of D sc_explored (fun _ _ _ _ _ _ us hl => match us, hl with | [_], _ => rfl) (spF_len fun _ => rfl) fun f cdv A outer s H vs Q E hr h => by
  obtain ⟨x, B, M, rfl, d, ⟨vm, cg⟩, al, q⟩ := h
  have sc := sc_explored
  have hu := room_1 hr
  have hr0 : Room 1 (A.deeper (envOfC "explored" (defScope s_explored) s.heap.objs.size f cdv)) := hr
  obtain ⟨gB, mB, FB⟩ := cB.fnr
  obtain ⟨gV, mV, FV⟩ := cV.fnr
  obtain ⟨gE, mE, FE⟩ := cE.fnr
  refine ⟨_, (pss_cons (ps_set (i := 1) sc.nd rfl (.inl rfl) (pe_lst (pa_cons (pe_methSl0 (pv 0) Kk.qsc mB FB hr0 pass0) pa_nil)))
      (pss_cons (ps_set (i := 2) sc.nd rfl (.inl rfl) (pe_disp (pps_cons (pe_ix (kix_list K rfl) (pv 1) pe_int (fun _ _ => rfl)) pe_int pps_nil) rfl rfl (by decide) (by decide)))
      (pss_cons (ps_set (i := 3) sc.nd rfl (.inl rfl) (pe_lst pa_nil))
      (pss_cons (ps_while PassesOwn.never (pt_cmpR op_lt (pe_callB (kc_len K rfl) (by rfl) T.len (by decide +kernel) (pa_cons (pv 3) pa_nil)) (pe_callB (kc_len K rfl) (by rfl) T.len (by decide +kernel) (pa_cons (pv 1) pa_nil)) (nomark _)) (pss_cons (ps_set (i := 4) sc.nd rfl (.inl rfl) pe_dnewK)
      (pss_cons (ps_for PassesOwn.never rfl (kpi_list K rfl (pe_methSl (pv 0) Kk.qsc mV FV hr0 pass0 (pa_cons (pe_ix (kix_list K rfl) (pv 1) (pe_callB (kc_len K rfl) (by rfl) T.len (by decide +kernel) (pa_cons (pv 3) pa_nil)) (fun _ _ => rfl)) pa_nil))) (kpg_tup (n := 2) K rfl rfl (pgs_cons (pg_name (i := 5) sc.nd rfl (.inl rfl)) (pgs_cons (pg_name (i := 6) sc.nd rfl (.inl rfl)) pgs_nil))) (pss_cons (ps_if (pt_cmp (pc_dnotin hu (pv 6) (pv 2))) (pss_cons (ps_dput hu (pv 2) (pv 6) (pe_callB (kc_len K rfl) (by rfl) T.len (by decide +kernel) (pa_cons (pv 1) pa_nil)) rfl)
      (pss_one (ps_expr (pe_bm PySem.F.plainAttrs_list PySem.F.slot_list_append PySem.F.type_list_append mt_append (pv 1) (pa_cons (pv 6) pa_nil))))) pss_nil)
      (pss_one (ps_dput hu (pv 4) (pv 5) (pe_dget hu (pv 2) (pv 6) (fun _ _ => rfl)) rfl))))
      (pss_one (ps_freeze (ps_expr (pe_bm PySem.F.plainAttrs_list PySem.F.slot_list_append PySem.F.type_list_append mt_append (pv 3) (pa_cons (pv 4) pa_nil))))))))
      (pss_one (ps_ret (pe_tup (pa_cons (pv 3) (pa_cons (pe_lc (own := [("key", 6)]) rfl sc.nd (kpi_list K rfl (pv 1)) (blkOk_by (by kernel_rfl)) (fun _ _ _ _ _ => (pg_name (i := 6) sc.nd rfl (.inl rfl))) (fun _ _ _ _ _ => pts_nil) (fun _ _ _ _ _ => (pe_methSl (pv 0) Kk.qsc mE FE hr0 pass0 (pa_cons (pv 6) pa_nil)))) pa_nil))))))))), ?_⟩
  cases al with
  | cons h1 al =>
    cases al
    obtain ⟨m, cls⟩ := x
    have vm : Vm m := vm
    have cg : Cong m cls := cg
    have wf := vm.toWf
    have hle := vm.le
    have hcl : 0 < cls.length := by rw [cg.len]; exact vm.pos
    have hQ : ∀ {B9 : Hp}, Same B B9 → (rQ c (m, cls)).p _ B9 := fun s9 => (rQ c (m, cls)).up s9 h1
    refine q_asgN (W := Al rNat [cls.getD 0 0]) (EvN.to (en_lst (ea_cons (ev_methQ (x := (m, cls)) (us := []) (A := fun x : Mach × List Nat => [rQ c x]) (R := fun x : Mach × List Nat => rNat (x.2.getD 0 0)) (m, cls) (ev_v (U := rQ c (m, cls)) rfl h1) ea_nil rfl hcl) ea_nil) (by show 1 ≤ 1000; decide)) fun vs B1 h => ?_) d fun pk vs B1 b1 d1 hMk hBk hvs => ?_
    · cases h with
      | cons a b => cases b; exact .cons a .nil
    have hv0 : vs = nats [cls.getD 0 0] := al_nat hvs
    subst hv0
    have sk : Same M (upd M pk (.lst (nats [cls.getD 0 0]))) := same_new hMk
    refine q_disp1 (k := Sum.inl ((cls.getD 0 0 : Nat) : Int)) (U := rNat 0) (fun {M1 B1} m1 b1 => ev_ixM (l := pk) (xs := [cls.getD 0 0]) (j := 0) rfl (m1 _ _ upd_same) ev_c rfl) (fun _ _ => ev_c) (dj_m d1 hBk) fun pn v0 B2 b2 d2 hMn hBn hv0 => ?_
    cases (show _ = _ from hv0)
    have hnk : pn ≠ pk := fun e => by rw [e, upd_same] at hMn; cases hMn
    have hMn0 : M pn = none := by rw [upd_ne hnk] at hMn; exact hMn
    refine q_asgN (en_lst ea_nil (by show 0 ≤ 1000; decide)) (dj_m d2 hBn) fun pm vs B3 b3 d3 hMm hBm hvs => ?_
    cases hvs
    have hmn : pm ≠ pn := fun e => by rw [e, upd_same] at hMm; cases hMm
    have hmk : pm ≠ pk := fun e => by rw [e, upd_ne (fun z => hnk z.symm), upd_same] at hMm; cases hMm
    have hMm0 : M pm = none := by rw [upd_ne hmn, upd_ne hmk] at hMm; exact hMm
    have s0 : Same M (upd (upd (upd M pk (.lst (nats [cls.getD 0 0]))) pn (.dK [(Sum.inl ((cls.getD 0 0 : Nat) : Int), V.int ((0 : Nat) : Int))])) pm (.lst [])) := same_upd (same_upd sk hMn0) hMm0
    have d4 : Dj B3 (upd (upd (upd M pk (.lst (nats [cls.getD 0 0]))) pn (.dK [(Sum.inl ((cls.getD 0 0 : Nat) : Int), V.int ((0 : Nat) : Int))])) pm (.lst [])) := dj_m d3 hBm
    refine q_whileW (fun k σ' M' B' => Same M M' ∧ Same B B' ∧ ∃ keys kvs mv rv o4 o5 o6, σ' = [some _, some (.ref pk), some (.ref pn), some (.ref pm), o4, o5, o6] ∧ M' pk = some (.lst (nats keys)) ∧ M' pn = some (.dK kvs) ∧ M' pm = some (.lst rv) ∧
      NumOk keys kvs ∧ Expl m cls keys mv ∧ Al rRow mv rv B' ∧ k = m.length - mv.length) m.length
      ⟨s0, b1.trans (b2.trans b3), [cls.getD 0 0], _, [], [], none, none, none, rfl, by rw [upd_ne (fun e => hmk e.symm), upd_ne (fun e => hnk e.symm)]; exact upd_same, by rw [upd_ne (fun e => hmn e.symm)]; exact upd_same, upd_same, ⟨Nat.le_refl _, fun k => ?_⟩,
        ⟨by simp, fun k hk => by rw [List.mem_singleton.mp hk]; exact getD_mem hcl, List.mem_singleton.mpr rfl, Nat.zero_le _, fun j hj => absurd hj (Nat.not_lt_zero _)⟩, .nil, rfl⟩ d4 fun k σ' M' B' hp d' => ?_
    · by_cases e : k = cls.getD 0 0
      · subst e
        rw [valV_pos rfl, if_pos (List.mem_singleton.mpr rfl)]
        simp [List.idxOf_cons]
      · rw [valV_neg (fun z => e (by have := Sum.inl.inj z; omega)), if_neg (fun z => e (List.mem_singleton.mp z))]
        rfl
    obtain ⟨sM, bb, keys, kvs, mv, rv, o4, o5, o6, rfl, hK, hN, hV, num, ex, alr, ek⟩ := hp
    have hlk := ex.len
    rw [cg.len] at hlk
    have lrv : rv.length = mv.length := alr.length.symm
    have lnk : (nats keys).length = keys.length := List.length_map ..
    refine ⟨decide (((mv.length : Nat) : Int) < ((keys.length : Nat) : Int)), et_b (ev_I0 (g := fun i j => .bl (decide (i < j))) (lrv ▸ ev_lenM rfl hV) (lnk ▸ ev_lenM rfl hK)), fun ht B4 b4 d5 => ?_, fun ht B4 b4 d5 => ?_⟩
    · have hlt : mv.length < keys.length := by
        have := of_decide_eq_true ht
        omega
      obtain ⟨k0, hk0⟩ : ∃ k0, keys[mv.length]? = some k0 := ⟨_, List.getElem?_eq_getElem hlt⟩
      have hk0c : k0 ∈ cls := ex.mem k0 (List.mem_of_getElem? hk0)
      have hi0 : cls.idxOf k0 < m.length := by rw [← cg.len]; exact List.idxOf_lt_length_of_mem hk0c
      generalize eE : endsOf cls (rowAt m (cls.idxOf k0)) = Er
      have eLen : Er.length ≤ 5 := by rw [← eE]; unfold endsOf; rw [List.length_map]; exact (wf.at _).len
      have eMem : ∀ q ∈ Er, q.2 ∈ cls := fun q hq => by
        rw [← eE] at hq
        obtain ⟨q0, h0, rfl⟩ := List.mem_map.mp hq
        exact getD_mem (by rw [cg.len]; exact (wf.at _).to q0 h0)
      have eAsc : (Er.map fun q : Nat × Nat => q.1).Pairwise (· < ·) := by
        rw [← eE]
        unfold endsOf
        rw [List.map_map]
        exact (wf.at _).asc
      refine q_dnew fun h hMh hBh => ?_
      have nhk : h ≠ pk := fun e => by rw [e, hK] at hMh; cases hMh
      have nhn : h ≠ pn := fun e => by rw [e, hN] at hMh; cases hMh
      have nhm : h ≠ pm := fun e => by rw [e, hV] at hMh; cases hMh
      have hMh0 : M h = none := by
        cases z : M h with
        | none => rfl
        | some u => rw [sM _ _ z] at hMh; cases hMh
      refine q_for2 (R := fun s : Nat => rTx [s]) (S := rNat) (xs := Er) (M := upd M' h (.dK []))
        (ei_list (R := fun q : Nat × Nat => rPr (fun s : Nat => rTx [s]) rNat q) (eE ▸ ev_methQ (x := (m, cls)) (us := [rNat k0]) (A := fun x : (Mach × List Nat) × Nat => [rQ c x.1, rNat x.2]) (R := fun x : (Mach × List Nat) × Nat => rLst (fun q : Nat × Nat => rPr (fun s : Nat => rTx [s]) rNat q) (endsOf x.1.2 (rowAt x.1.1 (x.1.2.idxOf x.2)))) ((m, cls), k0)
          (ev_v (U := rQ c (m, cls)) rfl (hQ (bb.trans b4))) (ea_cons (ev_ixM (l := pk) rfl (by rw [upd_ne (fun e => nhk e.symm)]; exact hK) (lrv ▸ ev_lenM (l := pm) rfl (by rw [upd_ne (fun e => nhm e.symm)]; exact hV)) hk0) ea_nil) rfl ⟨wf, cg, hk0c⟩)) (dj_m d5 hBh)
        (fun i σ9 M9 B9 => ∃ keys' kvs' o5 o6, σ9 = [some _, some (.ref pk), some (.ref pn), some (.ref pm), some (.ref h), o5, o6] ∧ ExpI M pk pn pm h rv keys cls Er i keys' kvs' M9)
        (fun _ _ _ _ _ _ h => h) (fun B9 b9 d9 => ⟨keys, kvs, _, _, rfl, same_upd sM hMh0, by rw [upd_ne (fun e => nhk e.symm)]; exact hK, by rw [upd_ne (fun e => nhn e.symm)]; exact hN, by rw [upd_ne (fun e => nhm e.symm)]; exact hV, upd_same, num, ex.nd, ⟨[], by simp⟩, ex.mem, fun q hq => by simp at hq⟩)
        (fun B0 i x v z σ9 M9 B9 exi b0 b9 d9 hp hv hz => ?_) fun σ9 M9 B9 hp b9 d9 => ?_
      · obtain ⟨keys', kvs', o5', o6', rfl, ee⟩ := hp
        have hxE : x ∈ Er := List.mem_of_getElem? exi
        have ln9 : (nats keys').length = keys'.length := List.length_map ..
        have lk9 : keys'.length ≤ m.length := by
          have := sub_len ee.nd ee.mem
          rw [cg.len] at this
          exact this
        have hiE : i < Er.length := (List.getElem?_eq_some_iff.mp exi).1
        have hat := ee.num.at_ x.2
        have lrow : ∀ ks : List Nat, (rowK ((Er.take i).map fun q => (q.1, ks.idxOf q.2))).length < 100000 := fun ks => by
          unfold rowK
          rw [List.length_map, List.length_map, List.length_take]
          omega
        refine q_if (b := !decide (x.2 ∈ keys')) (EvT.to (et_b (ev_dnotinM (k := Sum.inl ((x.2 : Nat) : Int)) rfl ee.n (ev_v (U := rNat x.2) rfl hz))) ?_) d9 (fun hb B10 b10 d10 => ?_) fun hb B10 b10 d10 => ?_
        · rw [hat]
          by_cases e : x.2 ∈ keys'
          · rw [if_pos e, decide_eq_true e]; rfl
          · rw [if_neg e, decide_eq_false e]; rfl
        · have hx : x.2 ∉ keys' := by simpa using hb
          refine q_dput (td := tVar 2) (i := 2) (l := pn) (k := Sum.inl ((x.2 : Nat) : Int)) (U := rNat keys'.length) rfl ee.n (ln9 ▸ ev_lenM rfl ee.k) (ev_v (U := rNat x.2) rfl hz) d10 (by have := ee.num.len; omega) fun v11 B11 b11 d11 hv11 => ?_
          cases (show _ = _ from hv11)
          refine s_app (i := 1) (l := pk) (U := rNat x.2) rfl (by rw [upd_ne (fun z => hnk z.symm)]; exact ee.k) (ev_v (U := rNat x.2) rfl hz) d11 (by omega) fun v12 B12 b12 d12 hv12 => ?_
          cases (show _ = _ from hv12)
          have e2 := ee.add (x := x) hMk hMn0 hnk hmk hmn nhk nhn hx (eMem x hxE)
          have hx2 : x.2 ∈ keys' ++ [x.2] := List.mem_append_right _ (List.mem_singleton.mpr rfl)
          refine s_dput (td := tVar 4) (i := 4) (l := h) (k := Sum.inr (tx [x.1])) (U := rNat ((keys' ++ [x.2]).idxOf x.2)) rfl e2.h (ev_dgetM (k := Sum.inl ((x.2 : Nat) : Int)) rfl e2.n (ev_v (B := B12) (U := rNat x.2) rfl hz) (by rw [e2.num.at_ x.2, if_pos hx2])) (ev_v (B := B12) (U := rTx [x.1]) rfl hv) d12 (lrow _) fun v13 B13 b13 d13 hv13 => ?_
          cases (show _ = _ from hv13)
          exact ⟨_, B13, rfl, d13, b9.trans (b10.trans (b11.trans (b12.trans b13))), _, _, _, _, rfl, e2.step hMh0 nhk nhn nhm exi eAsc hx2⟩
        · have hx : x.2 ∈ keys' := by simpa using hb
          refine s_dput (td := tVar 4) (i := 4) (l := h) (k := Sum.inr (tx [x.1])) (U := rNat (keys'.idxOf x.2)) rfl ee.h (ev_dgetM (k := Sum.inl ((x.2 : Nat) : Int)) rfl ee.n (ev_v (B := B10) (U := rNat x.2) rfl hz) (by rw [hat, if_pos hx])) (ev_v (B := B10) (U := rTx [x.1]) rfl hv) d10 (lrow _) fun v13 B13 b13 d13 hv13 => ?_
          cases (show _ = _ from hv13)
          exact ⟨_, B13, rfl, d13, b9.trans (b10.trans b13), _, _, _, _, rfl, ee.step hMh0 nhk nhn nhm exi eAsc hx⟩
      · obtain ⟨keys', kvs', o5', o6', rfl, ee⟩ := hp
        have hk2 := ee.k
        have hn2 := ee.n
        have hv2 := ee.v
        have hh2 := ee.h
        rw [List.take_length] at hh2
        have eall : ∀ q ∈ Er, q.2 ∈ keys' := fun q hq => ee.all q (by rw [List.take_length]; exact hq)
        have hB9h : B9 h = none := dj_none d9 hh2
        obtain ⟨more, em⟩ := ee.more
        have lk9 : keys'.length ≤ m.length := by
          have := sub_len ee.nd ee.mem
          rw [cg.len] at this
          exact this
        refine s_freeze hh2 trivial d9 fun od d10 => ?_
        have sB : Same B9 (upd B9 h (.frz od (.dK (rowK (Er.map fun q => (q.1, keys'.idxOf q.2)))))) := same_new hB9h
        refine s_app (i := 3) (l := pm) (U := rRow (Er.map fun q => (q.1, keys'.idxOf q.2))) rfl (by rw [del_ne (fun z => nhm z.symm)]; exact hv2) (ev_v rfl ⟨h, od, rfl, upd_same⟩) d10 (by omega) fun v11 B11 b11 d11 hv11 => ?_
        have sdel : Same M (del M9 h) := same_del ee.sm hMh0
        refine ⟨m.length - (mv.length + 1), _, B11, by omega, rfl, d11, same_upd sdel hMm0, bb.trans (b4.trans (b9.trans (sB.trans b11))), keys', kvs', mv ++ [Er.map fun q => (q.1, keys'.idxOf q.2)], rv ++ [v11], _, _, _, rfl, by rw [upd_ne (fun e => hmk e.symm), del_ne (fun z => nhk z.symm)]; exact hk2,
          by rw [upd_ne (fun e => hmn e.symm), del_ne (fun z => nhn z.symm)]; exact hn2, upd_same, ee.num, ?_, (alr.up (b4.trans (b9.trans (sB.trans b11)))).snoc hv11, by rw [List.length_append]; rfl⟩
        refine ⟨ee.nd, ee.mem, by rw [em]; exact List.mem_append_left _ ex.zero, by rw [em, List.length_append, List.length_append]; simp only [List.length_singleton]; omega, fun j hj => ?_⟩
        rw [List.length_append, List.length_singleton] at hj
        by_cases ej : j < mv.length
        · obtain ⟨k1, e1, e2, e3⟩ := ex.row j ej
          refine ⟨k1, ?_, ?_, fun q hq => ?_⟩
          · rw [em, List.getElem?_append_left (List.getElem?_eq_some_iff.mp e1).1]
            exact e1
          · rw [List.getElem?_append_left ej, e2, em, newRow_more e3]
          · rw [em]
            exact List.mem_append_left _ (e3 q hq)
        · have ej : j = mv.length := by omega
          subst ej
          refine ⟨k0, ?_, ?_, fun q hq => ?_⟩
          · rw [em, List.getElem?_append_left hlt]
            exact hk0
          · rw [List.getElem?_append_right (Nat.le_refl _), Nat.sub_self]
            unfold newRow
            rw [eE]
            rfl
          · rw [eE] at hq
            exact eall q hq
    · have hge : mv.length = keys.length := by
        have := of_decide_eq_false ht
        have := ex.le
        omega
      obtain ⟨e1, dP, sP⟩ := pub_all sM d5
      rw [e1]
      have rM : (rLst rRow mv).p (.ref pm) (pb B4 M M') := ⟨pm, rv, rfl, pb_at hMm0 hV, alr.up (b4.trans sP)⟩
      have rK : (rLst rNat keys).p (.ref pk) (pb B4 M M') := lst_nats (pb_at hMk hK)
      have lz : mv.length = (keys.map fun k => lastAt m (cls.idxOf k)).length := by rw [List.length_map]; exact hge
      refine s_ret (U := rEx (fun m' : Mach => ∃ h, Hom m m' h) fun m' => rPr (rLst rRow) (rLst rBl) (rows m', lasts m')) (Ev.to (ev_pr (R := rLst rRow) (S := rLst rBl) (x := mv) (y := keys.map fun k => lastAt m (cls.idxOf k)) (ev_v rfl rM) (EvN.lst ((en_lc1 (R := rNat) (S := fun k : Nat => rBl (lastAt m (cls.idxOf k))) (ei_list (ev_v (U := rLst rNat keys) rfl rK)) (by omega) (fun _ => rfl) fun k hk v6 M6 B6 _ b6 hv6 => ?_).to fun vs B7 h7 => Al.map (R := rBl) h7))) fun v B7 _ h7 => ?_) dP fun v B7 b7 d7 hv7 => q v B7 (bb.trans (b4.trans (sP.trans b7))) d7 hv7
      · exact ev_methQ (x := (m, cls)) (us := [rNat k]) (A := fun x : (Mach × List Nat) × Nat => [rQ c x.1, rNat x.2]) (R := fun x : (Mach × List Nat) × Nat => rBl (lastAt x.1.1 (x.1.2.idxOf x.2))) ((m, cls), k) (ev_v (U := rQ c (m, cls)) rfl (hQ (bb.trans (b4.trans (sP.trans b6))))) (ea_cons (ev_v (U := rNat k) rfl hv6) ea_nil) rfl ⟨cg, ex.mem k hk⟩
      · refine ⟨mv.zip (keys.map fun k => lastAt m (cls.idxOf k)), ⟨_, ex.hom vm cg hge⟩, ?_⟩
        have r1 : rows (mv.zip (keys.map fun k => lastAt m (cls.idxOf k))) = mv := List.map_fst_zip (Nat.le_of_eq lz)
        have r2 : lasts (mv.zip (keys.map fun k => lastAt m (cls.idxOf k))) = (keys.map fun k => lastAt m (cls.idxOf k)) := List.map_snd_zip (Nat.le_of_eq lz.symm)
        show (rPr (rLst rRow) (rLst rBl) (rows (mv.zip (keys.map fun k => lastAt m (cls.idxOf k))), lasts (mv.zip (keys.map fun k => lastAt m (cls.idxOf k))))).p v B7
        rw [r1, r2]
        exact h7
end
end Zb
end
section
set_option Elab.async false
set_option linter.all false
set_option maxRecDepth 100000
/-! Zs8: the walk: made_form, least. -/
namespace Zb
open PySem PySem.Spec PyProof.Rows L2 SlX
/-- what a machine leads onto -/
def Onto (m m' : Mach) : Prop := ∃ h, Hom m m' h
abbrev s_made_form : Stmt := top 42
theorem sc_made_form : FnScope ["moves", "lasts", "classes", "found"] ["moves", "lasts"] (defScope s_made_form) := ⟨rfl, rfl, rfl, by decide +kernel, rfl, by decide +kernel, by decide +kernel⟩
def sp_made_form (c : Cs) : Sp := spF (α := Mach) (fun m => [rLst rRow (rows m), rLst rBl (lasts m)]) Vm (fun m => rEx (Onto m) (rFm c c.CM))
abbrev s_Form_least : Stmt := inClass (top 37) 12
theorem sc_Form_least : FnScope ["self"] ["self"] (defScope s_Form_least) := ⟨rfl, rfl, rfl, by decide +kernel, rfl, by decide +kernel, by decide +kernel⟩
def sp_least (c : Cs) : Sp := spF (α := Mach) (fun m => [rForm c m]) Vm (fun m => rEx (Onto m) (rFm c c.CM))
section
variable {P : Program} {w : World} {K : PySem.W.Frag} {mg : Str → Option Value} {base : Heap} {c : Cs}
theorem c_made_form (D : Def K mg "made_form" s_made_form) (Kk : Kc K c) (T : Bt mg) (c_classes_of : Cal P w K mg base 2 "classes_of" sp_classes_of) (c_explored : Cal P w K mg base 2 "explored" (sp_explored c)) (c_Quotient : CalC P w K mg base 1 "Quotient" c.CQ (sp_Quotient c)) (c_MadeForm : CalC P w K mg base 1 "MadeForm" c.CM (sp_MadeForm c)) : Cal P w K mg base 3 "made_form" (sp_made_form c) :=
  cal_of D sc_made_form (fun _ _ _ _ _ _ us hl => match us, hl with | [_, _], _ => rfl) (spF_len fun _ => rfl) fun f cdv A outer s H vs Q E hr h => by
  obtain ⟨m, B, M, rfl, d, vm, al, q⟩ := h
  have sc := sc_made_form
  refine ⟨_, (pss_cons (ps_set (i := 2) sc.nd rfl (.inl rfl) (pe_cal c_classes_of hr (by decide) (by rfl) (pa_cons (pv 0) (pa_cons (pv 1) pa_nil))))
      (pss_cons (ps_if (pt_cmpR op_eq (pe_ix (kix_list K rfl) (pv 2) pe_int (fun _ _ => rfl)) pe_int (nomark _)) (pss_one ps_never) pss_nil)
      (pss_cons (ps_set (i := 3) sc.nd rfl (.inl rfl) (pe_cal c_explored hr (by decide) (by rfl) (pa_cons (pe_mk c_Quotient hr (by decide) (by rfl) (pa_cons (pv 0) (pa_cons (pv 1) (pa_cons (pv 2) pa_nil)))) pa_nil)))
      (pss_cons (ps_if (pt_cmpR op_gt (pe_callB (kc_len K rfl) (by rfl) T.len (by decide +kernel) (pa_cons (pe_ix (kix_tup K rfl) (pv 3) pe_int (fun _ _ => rfl)) pa_nil)) (pe_gv (by rfl) T.MAX_STATES) (nomark _)) (pss_one ps_never) pss_nil)
      (pss_one (ps_ret (pe_mk c_MadeForm hr (by decide) (by rfl) (pa_cons (pe_ix (kix_tup K rfl) (pv 3) pe_int (fun _ _ => rfl)) (pa_cons (pe_ix (kix_tup K rfl) (pv 3) pe_int (fun _ _ => rfl)) pa_nil))))))))), ?_⟩
  cases al with
  | cons h1 al => cases al with
  | cons h2 al =>
    cases al
    have hle := vm.le
    refine q_asg (ev_classes_of (ev_v (U := rLst rRow (rows m)) rfl h1) (ev_v (U := rLst rBl (lasts m)) rfl h2) vm) d fun cv B1 b1 d1 hcv => ?_
    obtain ⟨cls, cg, hcv⟩ := hcv
    have hcl : 0 < cls.length := by rw [cg.len]; exact vm.pos
    refine q_no (EvT.to (et_test (ev_eq (ev_ixL (R := rNat) (i := 0) (x := cls.getD 0 0) (ev_v (U := rLst rNat cls) rfl hcv) ev_c (getD_some hcl)) (ev_c (x := .int 0)) rfl)) ?_) d1 fun B2 b2 d2 => ?_
    · have := cg.pos 0 vm.pos
      refine decide_eq_false fun e => ?_
      injection e with e
      omega
    refine q_asg (U := rEx (Onto m) fun m' => rPr (rLst rRow) (rLst rBl) (rows m', lasts m')) (ev_call (A := fun x : Mach × List Nat => [rQ c x]) (R := fun x : Mach × List Nat => rEx (fun m' : Mach => ∃ h, Hom x.1 m' h) fun m' => rPr (rLst rRow) (rLst rBl) (rows m', lasts m')) (m, cls)
      (ea_cons (ev_make (A := fun x : Mach × List Nat => [rLst rRow (rows x.1), rLst rBl (lasts x.1), rLst rNat x.2]) (R := rQ c) (m, cls) (ea_cons (ev_v (U := rLst rRow (rows m)) rfl ((rLst rRow (rows m)).up (b1.trans b2) h1)) (ea_cons (ev_v (U := rLst rBl (lasts m)) rfl ((rLst rBl (lasts m)).up (b1.trans b2) h2)) (ea_cons (ev_v (U := rLst rNat cls) rfl ((rLst rNat cls).up b2 hcv)) ea_nil))) trivial) ea_nil) ⟨vm, cg⟩) d2 fun fv B3 b3 d3 hfv => ?_
    obtain ⟨m', ho, hfv⟩ := hfv
    have hml : m'.length ≤ m.length := by
      obtain ⟨h, ho⟩ := ho
      exact ho.le
    have n0 : (rows m').length = m'.length := List.length_map ..
    refine q_no (EvT.to (et_test (ev_I0 (g := fun i j => .bl (decide (i > j))) (ev_lenL (ev_ix0 (ev_v (U := rPr (rLst rRow) (rLst rBl) (rows m', lasts m')) rfl hfv) ev_c)) (ev_c (x := .int 40)))) (decide_eq_false (by show ¬ (((rows m').length : Nat) : Int) > 40; omega))) d3 fun B4 b4 d4 => ?_
    have hf4 := (rPr (rLst rRow) (rLst rBl) (rows m', lasts m')).up b4 hfv
    refine s_ret (U := rEx (Onto m) (rFm c c.CM)) (Ev.to (ev_MadeForm (c := c) (m := m') (ev_ix0 (ev_v (U := rPr (rLst rRow) (rLst rBl) (rows m', lasts m')) rfl hf4) ev_c) (ev_ix1 (ev_v (U := rPr (rLst rRow) (rLst rBl) (rows m', lasts m')) rfl hf4) ev_c)) fun v B5 _ h5 => ⟨m', ho, h5⟩) d4 fun v B5 b5 d5 hv => q v B5 (b1.trans (b2.trans (b3.trans (b4.trans b5)))) d5 hv
theorem c_least {C : Addr} (D : MDf K C "least" "Form.least" s_Form_least) (Kk : Kc K c) (c_made_form : Cal P w K mg base 3 "made_form" (sp_made_form c)) : CalM P w K mg base 4 C "least" (sp_least c) :=
  calm_of D sc_Form_least (fun _ _ _ _ _ _ us hl => match us, hl with | [_], _ => rfl) (spF_len fun _ => rfl) fun f cdv A outer s H vs Q E hr h => by
  obtain ⟨m, B, M, rfl, d, vm, al, q⟩ := h
  have sc := sc_Form_least
  refine ⟨_, (pss_one (ps_ret (pe_cal c_made_form hr (by decide) (by rfl) (pa_cons (kpe_sl K rfl (pv 0)) (pa_cons (kpe_sl K rfl (pv 0)) pa_nil))))), ?_⟩
  cases al with
  | cons h1 al =>
    cases al
    exact s_ret (U := rEx (Onto m) (rFm c c.CM)) (ev_call (A := fun m : Mach => [rLst rRow (rows m), rLst rBl (lasts m)]) (R := fun m : Mach => rEx (Onto m) (rFm c c.CM)) m (ea_cons (ev_moves Kk (ev_v (U := rForm c m) rfl h1)) (ea_cons (ev_lasts Kk (ev_v (U := rForm c m) rfl h1)) ea_nil)) vm) d q
end
end Zb
end
section
set_option Elab.async false
set_option linter.all false
/-! Zm3: rings of machines in plain words. -/
namespace Zb
noncomputable def dec (p : Prop) : Bool := @decide p (Classical.propDecidable p)
theorem dec_iff {p : Prop} : dec p = true ↔ p := by
  unfold dec
  exact @decide_eq_true_iff p (Classical.propDecidable p)
theorem dec_eq {p : Prop} {b : Bool} (h : b = true ↔ p) : b = dec p := by
  cases e : dec p with
  | true => exact h.mpr (dec_iff.mp e)
  | false =>
    cases z : b with
    | false => rfl
    | true =>
      rw [dec_iff.mpr (h.mp z)] at e
      cases e
/-- the states that go to s and back -/
noncomputable def conn (m : Mach) (s : Nat) : List Nat := (List.range m.length).filter fun t => dec (Pth m s t) && dec (Pth m t s)
theorem mem_conn {m : Mach} {s t : Nat} : t ∈ conn m s ↔ t < m.length ∧ Pth m s t ∧ Pth m t s := by
  unfold conn
  rw [List.mem_filter, List.mem_range, Bool.and_eq_true, dec_iff, dec_iff]
theorem conn_self {m : Mach} {s : Nat} (h : s < m.length) : s ∈ conn m s := mem_conn.mpr ⟨h, .refl s, .refl s⟩
theorem conn_asc {m : Mach} {s : Nat} : (conn m s).Pairwise (· < ·) := List.Pairwise.sublist List.filter_sublist List.pairwise_lt_range
theorem conn_len {m : Mach} {s : Nat} : (conn m s).length ≤ m.length := by
  have := List.length_filter_le (fun t => dec (Pth m s t) && dec (Pth m t s)) (List.range m.length)
  rw [List.length_range] at this
  exact this
theorem conn_eq {m : Mach} {s t : Nat} (h : t ∈ conn m s) : conn m t = conn m s := by
  obtain ⟨hl, h1, h2⟩ := mem_conn.mp h
  unfold conn
  refine List.filter_congr fun x _ => ?_
  rw [show dec (Pth m t x) = dec (Pth m s x) from dec_eq (dec_iff.trans ⟨fun h => h1.trans h, fun h => h2.trans h⟩), show dec (Pth m x t) = dec (Pth m x s) from dec_eq (dec_iff.trans ⟨fun h => h.trans h2, fun h => h.trans h1⟩)]
noncomputable def parts (m : Mach) : List (List Nat) := ((List.range m.length).filter fun s => decide ((conn m s).getD 0 0 = s)).map (conn m)
def movesIn (m : Mach) (p : List Nat) : Bool := (p.flatMap fun s => (rowAt m s).map fun q : Nat × Nat => decide (q.2 ∈ p)).any id
noncomputable def rings (m : Mach) : List (List Nat) := (parts m).filter (movesIn m)
theorem movesIn_iff {m : Mach} {p : List Nat} : movesIn m p = true ↔ ∃ s ∈ p, ∃ q ∈ rowAt m s, q.2 ∈ p := by
  unfold movesIn
  rw [List.any_eq_true]
  constructor
  · rintro ⟨b, hb, e⟩
    obtain ⟨s, hs, hb⟩ := List.mem_flatMap.mp hb
    obtain ⟨q, hq, rfl⟩ := List.mem_map.mp hb
    exact ⟨s, hs, q, hq, of_decide_eq_true e⟩
  · rintro ⟨s, hs, q, hq, h⟩
    exact ⟨_, List.mem_flatMap.mpr ⟨s, hs, List.mem_map.mpr ⟨q, hq, rfl⟩⟩, decide_eq_true h⟩
theorem asc_head {l : List Nat} (h : l.Pairwise (· < ·)) {x : Nat} (hx : x ∈ l) : l.getD 0 0 ∈ l ∧ l.getD 0 0 ≤ x := by
  cases l with
  | nil => cases hx
  | cons a l =>
    refine ⟨List.mem_cons_self, ?_⟩
    rcases List.mem_cons.mp hx with rfl | hx
    · exact Nat.le_refl _
    · exact Nat.le_of_lt ((List.pairwise_cons.mp h).1 x hx)
theorem mem_parts {m : Mach} {p : List Nat} : p ∈ parts m ↔ ∃ s, s < m.length ∧ p = conn m s := by
  unfold parts
  rw [List.mem_map]
  constructor
  · rintro ⟨s, hs, rfl⟩
    exact ⟨s, List.mem_range.mp (List.mem_filter.mp hs).1, rfl⟩
  · rintro ⟨s, hs, rfl⟩
    obtain ⟨h1, h2⟩ := asc_head conn_asc (conn_self hs)
    refine ⟨(conn m s).getD 0 0, List.mem_filter.mpr ⟨List.mem_range.mpr (by omega), decide_eq_true ?_⟩, conn_eq h1⟩
    rw [conn_eq h1]
theorem mem_rings {m : Mach} {p : List Nat} : p ∈ rings m ↔ p ∈ parts m ∧ movesIn m p = true := List.mem_filter
theorem part_asc {m : Mach} {p : List Nat} (h : p ∈ parts m) : p.Pairwise (· < ·) := by
  obtain ⟨s, _, rfl⟩ := mem_parts.mp h
  exact conn_asc
theorem part_ne {m : Mach} {p : List Nat} (h : p ∈ parts m) : p ≠ [] := by
  obtain ⟨s, hs, rfl⟩ := mem_parts.mp h
  exact List.ne_nil_of_mem (conn_self hs)
theorem part_lt {m : Mach} {p : List Nat} (h : p ∈ parts m) {x : Nat} (hx : x ∈ p) : x < m.length := by
  obtain ⟨s, hs, rfl⟩ := mem_parts.mp h
  exact (mem_conn.mp hx).1
theorem part_conn {m : Mach} {p : List Nat} (h : p ∈ parts m) {x : Nat} (hx : x ∈ p) : p = conn m x := by
  obtain ⟨s, hs, rfl⟩ := mem_parts.mp h
  exact (conn_eq hx).symm
theorem part_len {m : Mach} {p : List Nat} (h : p ∈ parts m) : p.length ≤ m.length := by
  obtain ⟨s, hs, rfl⟩ := mem_parts.mp h
  exact conn_len
theorem parts_len {m : Mach} : (parts m).length ≤ m.length := by
  unfold parts
  rw [List.length_map]
  have := List.length_filter_le (fun s => decide ((conn m s).getD 0 0 = s)) (List.range m.length)
  rw [List.length_range] at this
  exact this
/-! ### ways back, words between -/
/-- from where k moves may lead to g -/
def near (m : Mach) (g : Nat) : Nat → List Nat
  | 0 => [g]
  | k + 1 => (List.range m.length).filter fun s => ((rowAt m s).map fun q : Nat × Nat => decide (q.2 ∈ near m g k)).any id
def nears (m : Mach) (g n : Nat) : List (List Nat) := (List.range (n + 1)).map (near m g)
/-- the words of k signs from s to g, as they come -/
def wordsB (m : Mach) (g : Nat) : Nat → Nat → List (List Nat)
  | 0, s => if s ∈ near m g 0 then [[]] else []
  | k + 1, s => (rowAt m s).flatMap fun q => if q.2 ∈ near m g k then (wordsB m g k q.2).map (q.1 :: ·) else []
def loopsW (m : Mach) (s n : Nat) : List (List Nat) := (List.range n).flatMap fun i => wordsB m s (i + 1) s
/-! ### reading in a ring -/
def readOn (m : Mach) (ring states : List Nat) (c : Nat) : List Nat := ring.filter fun t => decide (t ∈ states.filterMap fun s => (rowAt m s).lookup c)
def readW (m : Mach) (ring : List Nat) : List Nat → List Nat → List Nat
  | states, [] => states
  | states, c :: w => readW m ring (readOn m ring states c) w
theorem readW_append {m : Mach} {ring states w u : List Nat} : readW m ring states (w ++ u) = readW m ring (readW m ring states w) u := by
  induction w generalizing states with
  | nil => rfl
  | cons c w ih => exact ih
end Zb
end
section
set_option Elab.async false
set_option linter.all false
set_option maxRecDepth 100000
/-! Zs9: the walk: states_from, ways_back, read_on. -/
namespace Zb
open PySem PySem.Spec PyProof.Rows L2 SlX
section
variable {K : PySem.W.Frag} {σ : L2.St} {M M1 B : Hp} {te : TE} {D : Ends} {tu tz : TS}
/-- for, what is walked told with a change of M -/
theorem s_forK {α : Type} {R : α → Up} {xs : List α} {wi : TI} {j : Nat} (hi : ∀ Rr : It → Hp → Prop, (∀ J B2, Same B B2 → Dj B2 M1 → Wk J B2 (xs.map R) → Rr J (jn B2 M1)) → wi σ (jn B M) Rr) (Pv : Nat → L2.St → Hp → Hp → Prop) (hm : ∀ i σ' M' B1 B2, Same B1 B2 → Pv i σ' M' B1 → Pv i σ' M' B2)
    (h0 : ∀ B', Same B B' → Dj B' M1 → Pv 0 σ M1 B')
    (hs : ∀ B0 i x v σ' M' B', xs[i]? = some x → Same B B0 → Same B0 B' → Dj B' M' → Pv i σ' M' B' → (R x).p v B' → tu { D with nx := Nx (Pv (i + 1)) B0, ct := Nx (Pv (i + 1)) B0, bk := D.nx } (σ'.set j (some v)) (jn B' M'))
    (hd : ∀ σ' M' B', Pv xs.length σ' M' B' → Same B B' → Dj B' M' → D.nx σ' (jn B' M')) : tFor wi (gName j) tu D σ (jn B M) :=
  hi _ fun J B2 b2 d2 wk => by
    refine ⟨fun i n σ' H => n + i = xs.length ∧ Nx (Pv i) B2 σ' H, ⟨xs.length, rfl, M1, B2, rfl, d2, Same.refl _, h0 B2 b2 d2⟩, ?_⟩
    rintro i n σ' H ⟨hn, M', B', rfl, d', b', hp⟩
    by_cases hlt : i < xs.length
    · have ex : xs[i]? = some xs[i] := List.getElem?_eq_getElem hlt
      refine .inr ⟨wk.go i M' B' b' d' (by rw [List.length_map]; exact hlt), Nx (Pv (i + 1)) B2, fun σ3 H3 h => ⟨n - 1, by omega, by omega, h⟩, fun v H' y => ?_⟩
      obtain ⟨B3, b3, d3, rfl, hu⟩ := wk.yl i (R xs[i]) M' B' v H' (by rw [List.getElem?_map, ex]; rfl) b' d' y
      exact hs B2 i xs[i] v σ' M' B3 ex b2 (b'.trans b3) d3 (hm _ _ _ _ _ b3 hp) hu
    · have e : i = xs.length := by omega
      subst e
      exact .inl ⟨by have := wk.st M' B' b' d'; rw [List.length_map] at this; exact this, hd σ' M' B' hp (b2.trans b') d'⟩
theorem vals_op {r : R2} {ta tb : TE} {H : Hp} {Rr : It → Hp → Prop} (h : ta σ H fun x H1 => tb σ H1 fun y H2 => r x y H2 fun v H3 => ∃ d o kvs, v = .ref d ∧ H3 d = some (.frz o (.dK kvs)) ∧ Rr (Itd d o kvs) H3) : iVals (tOp r ta tb) σ H Rr := h
theorem dpall_nats {H : Hp} : ∀ {xs : List Nat}, DpAll K H (nats xs) (xs.map nD)
  | [] => .nil
  | _ :: _ => .cons (.int _) dpall_nats
/-- xs != [], xs in M -/
theorem ev_neLM {i : Nat} {l : Addr} {xs : List Nat} (hσ : σ[i]? = some (some (.ref l))) (hM : M l = some (.lst (nats xs))) : Ev (tOp (rNeD K) (tVar i) (tLst tNil)) σ M B (rBl (!decide (xs = []))) := fun M1 B1 m b d Q q =>
  ⟨_, hσ, by show 0 ≤ _; exact Nat.zero_le _, fun p hp => by
    obtain ⟨hm, hb⟩ := jn_none hp
    have e := eqv_nats xs []
    rw [jn_updB hm]
    refine ⟨.list (xs.map nD), .list [], .lst (SqL.of (jn_m (m _ _ hM))) dpall_nats, .lst (SqL.of (jn_b (dj_b d hm) upd_same)) .nil, sh_lnats, rfl, ?_⟩
    rw [show PyData.eqv (.list (xs.map nD)) (.list []) = decide (xs = []) from e]
    exact q _ _ (same_new hb) (dj_b d hm) rfl⟩
end
abbrev s_states_from : Stmt := top 52
theorem sc_states_from : FnScope ["form", "state", "found", "waiting", "other"] ["form", "state"] (defScope s_states_from) := ⟨rfl, rfl, rfl, by decide +kernel, rfl, by decide +kernel, by decide +kernel⟩
def sp_states_from (c : Cs) : Sp := spF (α := Mach × Nat) (fun x => [rForm c x.1, rNat x.2]) (fun x => Wf x.1 ∧ x.2 < x.1.length) (fun x => rDom (Pth x.1 x.2))
/-- the keys of a dict -/
structure DomOk (L : List Nat) (kvs : List (Key × V)) : Prop where
  len : kvs.length ≤ L.length
  at_ : ∀ j : Nat, (valV kvs (Sum.inl (j : Int))).isSome = true ↔ j ∈ L
theorem DomOk.snoc {L : List Nat} {kvs : List (Key × V)} {k : Nat} {v : V} (h : DomOk L kvs) (hk : k ∉ L) : DomOk (L ++ [k]) (putK kvs (Sum.inl (k : Int)) v) := by
  refine ⟨?_, fun j => ?_⟩
  · have e : valV kvs (Sum.inl (k : Int)) = none := by
      cases z : valV kvs (Sum.inl (k : Int)) with
      | none => rfl
      | some u => exact absurd ((h.at_ k).mp (by rw [z]; rfl)) hk
    rw [putK_new _ e, List.length_append, List.length_append]
    have := h.len
    simp only [List.length_singleton]
    omega
  · rw [valV_put, List.mem_append, List.mem_singleton, ← h.at_ j]
    by_cases e : j = k
    · subst e
      rw [if_pos rfl]
      simp
    · rw [if_neg (fun z => e (by have := Sum.inl.inj z; omega))]
      simp [e]
/-- the search from s: L is met, W still waits -/
structure Sea (m : Mach) (s : Nat) (L W : List Nat) : Prop where
  nd : L.Nodup
  lt : ∀ j ∈ L, j < m.length
  pth : ∀ j ∈ L, Pth m s j
  st : s ∈ L
  wl : ∀ j ∈ W, j ∈ L
  wn : W.Nodup
  cl : ∀ j ∈ L, j ∉ W → ∀ q ∈ rowAt m j, q.2 ∈ L
theorem Sea.len {m : Mach} {s : Nat} {L W : List Nat} (h : Sea m s L W) : L.length ≤ m.length := by
  have := sub_len (L := List.range m.length) h.nd fun j hj => List.mem_range.mpr (h.lt j hj)
  rw [List.length_range] at this
  exact this
section
variable {P : Program} {w : World} {K : PySem.W.Frag} {mg : Str → Option Value} {base : Heap} {c : Cs}
theorem c_states_from (D : Def K mg "states_from" s_states_from) (Kk : Kc K c) (T : Bt mg) : Cal P w K mg base 1 "states_from" (sp_states_from c) :=
  cal_of D sc_states_from (fun _ _ _ _ _ _ us hl => match us, hl with | [_, _], _ => rfl) (spF_len fun _ => rfl) fun f cdv A outer s H vs Q E hr h => by
  obtain ⟨x, B, M, rfl, d, ⟨wf, hs⟩, al, q⟩ := h
  have sc := sc_states_from
  have hu := room_1 hr
  have hu64 := Nat.lt_of_succ_lt (room_u hr)
  refine ⟨_, (pss_cons (ps_set (i := 2) sc.nd rfl (.inl rfl) (pe_disp (pps_cons (pv 1) pe_bl pps_nil) rfl rfl (by decide) (by decide)))
      (pss_cons (ps_set (i := 3) sc.nd rfl (.inl rfl) (pe_lst (pa_cons (pv 1) pa_nil)))
      (pss_cons (ps_while PassesOwn.never (pt_cmpR (op_neD hu64) (pv 3) (pe_lst pa_nil) (nomark _)) (pss_one (ps_for PassesOwn.never rfl (pi_values (pe_ix (kix_list K rfl) (kpe_sl K rfl (pv 0)) (pe_bm0 PySem.F.plainAttrs_list PySem.F.slot_list_pop PySem.F.type_list_pop mt_pop (pv 3)) (fun _ _ => rfl))) (pg_name (i := 4) sc.nd rfl (.inl rfl)) (pss_one (ps_if (pt_cmp (pc_dnotin hu (pv 4) (pv 2))) (pss_cons (ps_dput hu (pv 2) (pv 4) pe_bl rfl)
      (pss_one (ps_expr (pe_bm PySem.F.plainAttrs_list PySem.F.slot_list_append PySem.F.type_list_append mt_append (pv 3) (pa_cons (pv 4) pa_nil))))) pss_nil)))))
      (pss_one (ps_ret (pv 2)))))), ?_⟩
  cases al with
  | cons h1 al => cases al with
  | cons h2 al =>
    cases al
    obtain ⟨m, st⟩ := x
    have wf : Wf m := wf
    have hs : st < m.length := hs
    have hle := wf.le
    cases (show _ = _ from h2)
    refine q_disp1 (k := Sum.inl ((st : Nat) : Int)) (U := rBl true) (fun {M1 B1} m1 b1 => ev_v (U := rNat st) rfl rfl) (fun _ _ => ev_c) d fun pf v0 B1 b1 d1 hMf hBf hv0 => ?_
    cases (show _ = _ from hv0)
    refine q_asgN (en_lst (ea_cons (ev_v (U := rNat st) rfl rfl) ea_nil) (by show 1 ≤ 1000; decide)) (dj_m d1 hBf) fun pw vs B2 b2 d2 hMw hBw hvs => ?_
    have hv1 : vs = nats [st] := by
      cases hvs with
      | cons a b => cases b; rw [show _ = _ from a]; rfl
    subst hv1
    have hwf : pw ≠ pf := fun e => by rw [e, upd_same] at hMw; cases hMw
    have hMw0 : M pw = none := by rw [upd_ne hwf] at hMw; exact hMw
    refine q_whileW (fun k σ' M' B' => Same B B' ∧ Same M M' ∧ ∃ L W kvs o4, σ' = [some _, some _, some (.ref pf), some (.ref pw), o4] ∧ M' pf = some (.dK kvs) ∧ M' pw = some (.lst (nats W)) ∧ DomOk L kvs ∧ Sea m st L W ∧ k = 2 * (m.length - L.length) + W.length) (2 * (m.length - 1) + 1)
      ⟨b1.trans b2, same_upd (same_new hMf) hMw0, [st], [st], [(Sum.inl ((st : Nat) : Int), V.bl true)], none, rfl, by rw [upd_ne (fun z => hwf z.symm)]; exact upd_same, upd_same, ⟨Nat.le_refl _, fun j => ?_⟩, ⟨by simp, fun j hj => by rw [List.mem_singleton.mp hj]; exact hs, fun j hj => by rw [List.mem_singleton.mp hj]; exact .refl st, List.mem_singleton.mpr rfl, fun j hj => hj, by simp, fun j hj hn => absurd hj hn⟩, rfl⟩ (dj_m d2 hBw) fun k σ' M' B' hp d' => ?_
    · by_cases e : j = st
      · subst e
        rw [valV_pos rfl]
        simp
      · rw [valV_neg (fun z => e (by have := Sum.inl.inj z; omega))]
        simp [e, valV_nil]
    obtain ⟨bb, sM, L, W, kvs, o4, rfl, hF, hW, dom, sea, ek⟩ := hp
    refine ⟨!decide (W = []), et_b (ev_neLM rfl hW), fun ht B4 b4 d4 => ?_, fun ht B4 b4 d4 => ?_⟩
    · have hne : W ≠ [] := by simpa using ht
      have hwl : 0 < W.length := List.length_pos_iff.mpr hne
      obtain ⟨x, hx⟩ : ∃ x, W[W.length - 1]? = some x := ⟨_, List.getElem?_eq_getElem (by omega)⟩
      have hxW : x ∈ W := List.mem_of_getElem? hx
      have hxl : x < m.length := sea.lt x (sea.wl x hxW)
      have nW : (nats W).length = W.length := List.length_map ..
      have ndl : (nats W).dropLast = nats W.dropLast := (List.map_dropLast ..).symm
      have hlast : ∀ j ∈ W, j ∉ W.dropLast → j = x := fun j hj hn => by
        have e : W = W.dropLast ++ [W.getLast hne] := (List.dropLast_concat_getLast hne).symm
        rw [e] at hj
        rcases List.mem_append.mp hj with z | z
        · exact absurd z hn
        · rw [List.mem_singleton.mp z, List.getLast_eq_getElem]
          rw [List.getElem?_eq_getElem (by omega)] at hx
          exact Option.some.inj hx
      have ro := wf.at x
      refine s_forK (R := fun q : Nat × Nat => rNat q.2) (xs := rowAt m x) (M1 := upd M' pw (.lst (nats W.dropLast))) (fun Rr k => ?_) (fun i σ9 M9 B9 => Same M M9 ∧ ∃ L2 kvs2 add o4, σ9 = [some _, some _, some (.ref pf), some (.ref pw), o4] ∧ M9 pf = some (.dK kvs2) ∧ M9 pw = some (.lst (nats (W.dropLast ++ add))) ∧ DomOk L2 kvs2 ∧ L2 = L ++ add ∧ L2.Nodup ∧ (∀ j ∈ L2, j < m.length) ∧ (∀ j ∈ L2, Pth m st j) ∧ ∀ q ∈ (rowAt m x).take i, q.2 ∈ L2)
        (fun _ _ _ _ _ _ h => h) (fun B9 b9 d9 => ⟨same_upd sM hMw0, L, kvs, [], _, rfl, by rw [upd_ne (fun z => hwf z.symm)]; exact hF, by rw [List.append_nil]; exact upd_same, dom, (List.append_nil L).symm, sea.nd, sea.lt, sea.pth, fun q hq => by simp at hq⟩)
        (fun B0 i y v σ9 M9 B9 exi b0 b9 d9 hp hv => ?_) fun σ9 M9 B9 hp b9 d9 => ?_
      · refine vals_op ?_
        refine ev_moves Kk (ev_v (i := 0) (M := M') (U := rForm c m) rfl ((rForm c m).up (bb.trans b4) h1)) M' B4 (Same.refl _) (Same.refl _) d4 _ fun v B5 b5 d5 ⟨a, us, ev, ha, al⟩ => ?_
        refine ⟨_, rfl, .inl ⟨rfl, nats W, SqL.of (jn_m hW)⟩, ?_⟩
        refine ⟨pw, nats W, V.int (x : Int), rfl, rfl, jn_m hW, by rw [nW, List.getElem?_map, hx]; rfl, ?_⟩
        rw [jn_updM, ndl]
        obtain ⟨w2, hw2, d2x, odx, e2, hd2⟩ := al.get (rows_at hxl)
        have dj5 : Dj B5 (upd M' pw (.lst (nats W.dropLast))) := dj_m d5 (dj_none d5 hW)
        refine ⟨a, us, x, w2, ev, rfl, SqL.of (jn_b dj5 ha), atI_nat hw2, d2x, odx, rowK (rowAt m x), e2, jn_b dj5 hd2, k _ B5 b5 dj5 (wk_vals hd2)⟩
      · obtain ⟨s9, L2, kvs2, add, o4', rfl, hF9, hW9, dom9, eL, nd9, lt9, pth9, all9⟩ := hp
        cases (show _ = _ from hv)
        have hyE : y ∈ rowAt m x := List.mem_of_getElem? exi
        have lL2 : L2.length ≤ m.length := by
          have := sub_len (L := List.range m.length) nd9 fun j hj => List.mem_range.mpr (lt9 j hj)
          rw [List.length_range] at this
          exact this
        have tk : ∀ L3 : List Nat, (∀ j ∈ L2, j ∈ L3) → y.2 ∈ L3 → ∀ q ∈ (rowAt m x).take (i + 1), q.2 ∈ L3 := fun L3 h1 h2 q hq => by
          rw [take_snoc exi] at hq
          rcases List.mem_append.mp hq with z | z
          · exact h1 _ (all9 q z)
          · rw [List.mem_singleton.mp z]
            exact h2
        refine s_if (b := !decide (y.2 ∈ L2)) (EvT.to (et_b (ev_dnotinM (k := Sum.inl ((y.2 : Nat) : Int)) rfl hF9 (ev_v (B := B9) (U := rNat y.2) rfl rfl))) ?_) d9 (fun hb B10 b10 d10 => ?_) fun hb B10 b10 d10 => ?_
        · congr 1
          have := dom9.at_ y.2
          by_cases e : y.2 ∈ L2
          · rw [decide_eq_true e, this.mpr e]
          · rw [decide_eq_false e]
            cases z : (valV kvs2 (Sum.inl ((y.2 : Nat) : Int))).isSome with
            | false => rfl
            | true => exact absurd (this.mp z) e
        · have hy : y.2 ∉ L2 := by simpa using hb
          refine q_dput (td := tVar 2) (i := 2) (l := pf) (k := Sum.inl ((y.2 : Nat) : Int)) (U := rBl true) rfl hF9 ev_c (ev_v (B := B10) (U := rNat y.2) rfl rfl) d10 (by have := dom9.len; omega) fun v11 B11 b11 d11 hv11 => ?_
          cases (show _ = _ from hv11)
          refine s_app (i := 3) (l := pw) (U := rNat y.2) rfl (by rw [upd_ne hwf]; exact hW9) (ev_v (U := rNat y.2) rfl rfl) d11 (by
            have e1 : (W.dropLast ++ add).length ≤ L2.length := by
              have := sub_len sea.wn sea.wl
              rw [eL, List.length_append, List.length_append, List.length_dropLast]
              omega
            rw [List.length_map]
            omega) fun v12 B12 b12 d12 hv12 => ?_
          cases (show _ = _ from hv12)
          refine ⟨_, B12, rfl, d12, b9.trans (b10.trans (b11.trans b12)), same_upd (same_upd s9 hMf) hMw0, L2 ++ [y.2], putK kvs2 (Sum.inl ((y.2 : Nat) : Int)) (V.bl true), add ++ [y.2], _, rfl, by rw [upd_ne (fun z => hwf z.symm)]; exact upd_same, by rw [upd_same, ← nats_snoc, List.append_assoc], dom9.snoc hy, by rw [eL, List.append_assoc], ?_, fun j hj => ?_, fun j hj => ?_, tk _ (fun j hj => List.mem_append_left _ hj) (List.mem_append_right _ (List.mem_singleton.mpr rfl))⟩
          · rw [List.nodup_append]
            refine ⟨nd9, by simp, fun a ha b hb z => ?_⟩
            rw [List.mem_singleton.mp hb] at z
            exact hy (z ▸ ha)
          · rcases List.mem_append.mp hj with z | z
            · exact lt9 j z
            · rw [List.mem_singleton.mp z]
              exact ro.to y hyE
          · rcases List.mem_append.mp hj with z | z
            · exact pth9 j z
            · rw [List.mem_singleton.mp z]
              exact (sea.pth x (sea.wl x hxW)).snoc (c := y.1) hyE
        · have hy : y.2 ∈ L2 := by simpa using hb
          exact ⟨_, B10, rfl, d10, b9.trans b10, s9, L2, kvs2, add, _, rfl, hF9, hW9, dom9, eL, nd9, lt9, pth9, tk _ (fun j hj => hj) hy⟩
      · obtain ⟨s9, L2, kvs2, add, o4', rfl, hF9, hW9, dom9, eL, nd9, lt9, pth9, all9⟩ := hp
        rw [List.take_length] at all9
        have lL2 : L2.length ≤ m.length := by
          have := sub_len (L := List.range m.length) nd9 fun j hj => List.mem_range.mpr (lt9 j hj)
          rw [List.length_range] at this
          exact this
        refine ⟨2 * (m.length - L2.length) + (W.dropLast ++ add).length, M9, B9, ?_, rfl, d9, bb.trans (b4.trans b9), s9, L2, W.dropLast ++ add, kvs2, _, rfl, hF9, hW9, dom9, ⟨nd9, lt9, pth9, by rw [eL]; exact List.mem_append_left _ sea.st, fun j hj => ?_, ?_, fun j hj hn => ?_⟩, rfl⟩
        · have e1 : L2.length = L.length + add.length := by rw [eL, List.length_append]
          rw [List.length_append, List.length_dropLast]
          omega
        · rw [eL]
          rcases List.mem_append.mp hj with z | z
          · exact List.mem_append_left _ (sea.wl j (List.dropLast_subset _ z))
          · exact List.mem_append_right _ z
        · rw [eL, List.nodup_append] at nd9
          rw [List.nodup_append]
          exact ⟨(List.dropLast_sublist W).nodup sea.wn, nd9.2.1, fun a ha b hb => nd9.2.2 a (sea.wl a (List.dropLast_subset _ ha)) b hb⟩
        · rw [List.mem_append, not_or] at hn
          rw [eL] at hj
          rcases List.mem_append.mp hj with z | z
          · by_cases hjW : j ∈ W
            · have := hlast j hjW hn.1
              subst this
              exact all9
            · intro q hq
              rw [eL]
              exact List.mem_append_left _ (sea.cl j z hjW q hq)
          · exact absurd z hn.2
    · have hW0 : W = [] := by simpa using ht
      subst hW0
      have hall : ∀ j, Pth m st j → j ∈ L := fun j p => by
        induction p with
        | refl => exact sea.st
        | snoc _ e ih => exact sea.cl _ ih (by simp) _ e
      obtain ⟨e1, dP, sP⟩ := pub_all sM d4
      rw [e1]
      refine s_ret (U := rDom (Pth m st)) (ev_v rfl ⟨pf, kvs, rfl, pb_at hMf hF, fun j => (dom.at_ j).trans ⟨fun h => sea.pth j h, fun h => hall j h⟩⟩) dP fun v B7 b7 d7 hv7 => q v B7 (bb.trans (b4.trans (sP.trans b7))) d7 hv7
end
end Zb
end
section
set_option Elab.async false
set_option linter.all false
set_option maxRecDepth 100000
/-! Zs10: the walk: ways_back, read_on. -/
namespace Zb
open PySem PySem.Spec PyProof.Rows L2 SlX
section
variable {K : PySem.W.Frag} {σ : L2.St} {M B : Hp} {ta tb : TE}
/-- xs[-1], xs a list in M of what stands in B -/
theorem ev_ixMn {α : Type} {R : α → Up} {i : Nat} {l : Addr} {xs : List α} {vs : List V} {k : Nat} {x : α} (hσ : σ[i]? = some (some (.ref l))) (hM : M l = some (.lst vs)) (al : Al R xs vs B) (hb : Ev tb σ M B (rInt (-(k : Int)))) (hk : 0 < k) (hl : k ≤ xs.length) (e : xs[xs.length - k]? = some x) : Ev (tOp (rIxL K) (tVar i) tb) σ M B (R x) := fun M1 B1 m b d Q q =>
  ⟨_, hσ, hb M1 B1 m b d _ fun y B2 b2 d2 hy => by
    obtain ⟨w, hw, hr⟩ := al.get e
    rw [al.length] at hw hl
    exact ⟨l, vs, -(k : Int), w, rfl, hy, SqL.of (jn_m (m _ _ hM)), atI_neg hk hl hw, q w B2 b2 d2 ((R x).up (b.trans b2) hr)⟩⟩
end
theorem rows_nth {m : Mach} {i : Nat} (h : i < m.length) : (rows m)[i]? = some (rowAt m i) := rows_at h
theorem enum_rows {m : Mach} : enumL (rows m) = (List.range m.length).map fun i => (i, rowAt m i) := by
  refine List.ext_getElem? fun i => ?_
  have n0 : (rows m).length = m.length := List.length_map ..
  by_cases h : i < m.length
  · rw [List.getElem?_map, List.getElem?_range h]
    unfold enumL
    have e : ((List.range (rows m).length).zip (rows m))[i]? = some (i, rowAt m i) := List.getElem?_zip_eq_some.mpr ⟨by rw [n0]; exact List.getElem?_range h, rows_at h⟩
    rw [e]
    rfl
  · rw [List.getElem?_eq_none (by rw [enumL_len, n0]; omega), List.getElem?_eq_none (by rw [List.length_map, List.length_range]; omega)]
theorem fm_filter {α β : Type} (g : α → Option β) (d : β) : ∀ xs : List α, (xs.filter fun x => (g x).isSome).map (fun x => (g x).getD d) = xs.filterMap g
  | [] => rfl
  | x :: xs => by
    have ih := fm_filter g d xs
    rw [List.filter_cons, List.filterMap_cons]
    cases h : g x with
    | none => simp [ih]
    | some y => simp [ih, h]
abbrev s_ways_back : Stmt := top 53
theorem sc_ways_back : FnScope ["form", "goal", "many", "found", "step", "near", "at", "moves", "to"] ["form", "goal", "many"] (defScope s_ways_back) := ⟨rfl, rfl, rfl, by decide +kernel, rfl, by decide +kernel, by decide +kernel⟩
def sp_ways_back (c : Cs) : Sp := spF (α := Mach × Nat × Nat) (fun x => [rForm c x.1, rNat x.2.1, rNat x.2.2]) (fun x => Wf x.1 ∧ x.2.2 ≤ 1000) (fun x => rLst (rLst rNat) (nears x.1 x.2.1 x.2.2))
abbrev s_read_on : Stmt := top 55
theorem sc_read_on : FnScope ["form", "ring", "states", "sign", "found", "state"] ["form", "ring", "states", "sign"] (defScope s_read_on) := ⟨rfl, rfl, rfl, by decide +kernel, rfl, by decide +kernel, by decide +kernel⟩
def sp_read_on (c : Cs) : Sp := spF (α := Mach × List Nat × List Nat × Nat) (fun x => [rForm c x.1, rTup rNat x.2.1, rTup rNat x.2.2.1, rTx [x.2.2.2]]) (fun x => Wf x.1 ∧ x.2.1.length ≤ 1000 ∧ x.2.2.1.length ≤ 1000 ∧ ∀ s ∈ x.2.2.1, s < x.1.length) (fun x => rTup rNat (readOn x.1 x.2.1 x.2.2.1 x.2.2.2))
section
variable {P : Program} {w : World} {K : PySem.W.Frag} {mg : Str → Option Value} {base : Heap} {c : Cs}
theorem c_ways_back (D : Def K mg "ways_back" s_ways_back) (Kk : Kc K c) (T : Bt mg) : Cal P w K mg base 1 "ways_back" (sp_ways_back c) :=
  cal_of D sc_ways_back (fun _ _ _ _ _ _ us hl => match us, hl with | [_, _, _], _ => rfl) (spF_len fun _ => rfl) fun f cdv A outer s H vs Q E hr h => by
  obtain ⟨x, B, M, rfl, d, ⟨wf, hn⟩, al, q⟩ := h
  have sc := sc_ways_back
  refine ⟨_, (pss_cons (ps_set (i := 3) sc.nd rfl (.inl rfl) (pe_lst (pa_cons (pe_lst (pa_cons (pv 1) pa_nil)) pa_nil)))
      (pss_cons (ps_for PassesOwn.never rfl (pi_range1 (by rfl) T.range (pa_cons (pv 2) pa_nil)) (pg_name (i := 4) sc.nd rfl (.inl rfl)) (pss_cons (ps_set (i := 5) sc.nd rfl (.inr rfl) (pe_ix (kix_list K rfl) (pv 3) (pe_un un_neg pe_int) (fun _ _ => rfl)))
      (pss_one (ps_expr (pe_bm PySem.F.plainAttrs_list PySem.F.slot_list_append PySem.F.type_list_append mt_append (pv 3) (pa_cons (pe_lc (own := [("at", 6), ("moves", 7)]) rfl sc.nd (kpi_enum K rfl (by rfl) T.enumerate (pa_cons (kpe_sl K rfl (pv 0)) pa_nil)) (blkOk_by (by kernel_rfl)) (fun _ _ _ _ _ => (kpg_tup (n := 2) K rfl rfl (pgs_cons (pg_name (i := 6) sc.nd rfl (.inl rfl)) (pgs_cons (pg_name (i := 7) sc.nd rfl (.inl rfl)) pgs_nil)))) (fun _ _ _ _ _ => (pts_one (pt_val (pe_callB (kc_any K rfl rfl) (by rfl) T.any (by decide +kernel) (pa_cons (pe_lc (own := [("to", 8)]) rfl sc.nd (pi_values (pv 7)) (blkOk_by (by kernel_rfl)) (fun _ _ _ _ _ => (pg_name (i := 8) sc.nd rfl (.inl rfl))) (fun _ _ _ _ _ => pts_nil) (fun _ _ _ _ _ => (pe_cmpR (kop_in K rfl) (pv 8) (pv 5) (by rfl)))) pa_nil))))) (fun _ _ _ _ _ => (pv 6))) pa_nil))))))
      (pss_one (ps_ret (pv 3))))), ?_⟩
  cases al with
  | cons h1 al => cases al with
  | cons h2 al => cases al with
  | cons h3 al =>
    cases al
    obtain ⟨m, g, n⟩ := x
    have wf : Wf m := wf
    have hn : n ≤ 1000 := hn
    have hle := wf.le
    have n0 : (rows m).length = m.length := List.length_map ..
    refine q_asgN (W := Al (rLst rNat) [near m g 0]) (EvN.to (en_lst (ea_cons (EvN.lst (R := rNat) (xs := [g]) (EvN.to (en_lst (ea_cons (ev_v (U := rNat g) rfl h2) ea_nil) (by show 1 ≤ 1000; decide)) fun vs B1 h => by cases h with | cons a b => (cases b; exact .cons a .nil))) ea_nil) (by show 1 ≤ 1000; decide)) fun vs B1 h => by cases h with | cons a b => (cases b; exact .cons a .nil)) d fun p vs B1 b1 d1 hMp hBp hvs => ?_
    have dj1 : Dj B1 (upd M p (.lst vs)) := dj_m d1 hBp
    have sv : ∀ {B9 : Hp}, Same B1 B9 → (rForm c m).p _ B9 := fun s9 => (rForm c m).up (b1.trans s9) h1
    refine q_for (R := rNat) (xs := List.range n) (ei_rng1 (ea_cons (ev_v (U := rNat n) rfl h3) ea_nil) (by omega)) dj1
      (fun i σ9 M9 B9 => ∃ vs9 o4 o5 o6 o7 o8, σ9 = [some _, some _, some _, some (.ref p), o4, o5, o6, o7, o8] ∧ M9 = upd M p (.lst vs9) ∧ Al (rLst rNat) (nears m g i) vs9 B9)
      (fun i σ9 M9 B8 B9 s89 ⟨vs9, o4, o5, o6, o7, o8, e1, e2, e3⟩ => ⟨vs9, o4, o5, o6, o7, o8, e1, e2, e3.up s89⟩) (fun B9 b9 d9 => ⟨vs, _, _, _, _, _, rfl, rfl, hvs.up b9⟩) (fun B0 i y v σ9 M9 B9 exi b0 b9 d9 hp hv => ?_) fun σ9 M9 B9 hp b9 d9 => ?_
    · obtain ⟨vs9, o4, o5, o6, o7, o8, rfl, rfl, al9⟩ := hp
      have hi : i < n := by
        have := (List.getElem?_eq_some_iff.mp exi).1
        rw [List.length_range] at this
        exact this
      have ln : (nears m g i).length = i + 1 := by unfold nears; rw [List.length_map, List.length_range]
      refine q_asg (ev_ixMn (l := p) (k := 1) (x := near m g i) rfl upd_same al9 (ev_un (g := fun j => .int (-j)) (ev_c (x := .int 1))) (by decide) (by omega) (by rw [ln]; unfold nears; rw [List.getElem?_map, List.getElem?_range (by omega)]; rfl)) d9 fun nv B10 b10 d10 hnv => ?_
      refine s_app (l := p) (U := rLst rNat (near m g (i + 1))) rfl upd_same (EvN.lst ?_) d10 (by rw [← al9.length, ln]; omega) fun v11 B11 b11 d11 hv11 => ?_
      · refine (en_lc2 (R := rNat) (T := rRow) (S := fun q : Nat × Row => rNat q.1) (xs := enumL (rows m)) (f := fun q : Nat × Row => (q.2.map fun p : Nat × Nat => decide (p.2 ∈ near m g i)).any id) (ei_enum (ea_cons (ev_moves Kk (ev_v (U := rForm c m) rfl (sv (b0.trans (b9.trans b10))))) ea_nil)) (by rw [enumL_len, n0]; omega) (fun _ _ => rfl) (fun q hq v6 z6 M6 B6 _ b6 hv6 hz6 => ?_) fun q hq _ v6 z6 M6 B6 _ b6 hv6 hz6 => ev_v (U := rNat q.1) rfl hv6).to fun vs B7 h7 => ?_
        · rw [enum_rows] at hq
          obtain ⟨j, hj, rfl⟩ := List.mem_map.mp hq
          have rok := wf.at j
          refine et_test (ev_any (EvN.lst ((en_lc1 (R := fun p : Nat × Nat => rNat p.2) (S := fun p : Nat × Nat => rBl (decide (p.2 ∈ near m g i))) (ei_vals (ev_v (U := rRow (rowAt m j)) rfl hz6)) (by have := rok.len; omega) (fun _ => rfl) fun p hp v8 M8 B8 _ b8 hv8 => ?_).to fun vs B8 h8 => Al.map (R := rBl) h8)))
          exact ev_inL (ev_v (U := rNat p.2) rfl hv8) (ev_v (U := rLst rNat (near m g i)) rfl ((rLst rNat (near m g i)).up (b6.trans b8) hnv))
        · have h8 := Al.map (R := rNat) (f := fun q : Nat × Row => q.1) h7
          rw [enum_rows, List.filter_map, List.map_map] at h8
          rw [show near m g (i + 1) = ((List.range m.length).filter fun s => ((rowAt m s).map fun q : Nat × Nat => decide (q.2 ∈ near m g i)).any id) from rfl]
          rw [show ((fun q : Nat × Row => q.1) ∘ fun i => (i, rowAt m i)) = id from rfl, List.map_id] at h8
          exact h8
      · refine ⟨_, B11, rfl, d11, b9.trans (b10.trans b11), vs9 ++ [v11], _, _, _, _, _, rfl, by rw [upd_upd], ?_⟩
        have := (al9.up (b10.trans b11)).snoc hv11
        unfold nears at this ⊢
        rw [List.range_succ, List.map_append]
        exact this
    · obtain ⟨vs9, o4, o5, o6, o7, o8, rfl, rfl, al9⟩ := hp
      rw [List.length_range] at al9
      have hB9 : B9 p = none := dj_none d9 upd_same
      rw [jn_pub hMp]
      have sB : Same B9 (upd B9 p (.lst vs9)) := same_new hB9
      exact s_ret (U := rLst (rLst rNat) (nears m g n)) (ev_v rfl ⟨p, vs9, rfl, upd_same, al9.up sB⟩) (dj_b (dj_sub hMp d9) hMp) fun v B10 b10 d10 hv10 => q v B10 (b1.trans (b9.trans (sB.trans b10))) d10 hv10
theorem c_read_on (D : Def K mg "read_on" s_read_on) (Kk : Kc K c) (T : Bt mg) : Cal P w K mg base 1 "read_on" (sp_read_on c) :=
  cal_of D sc_read_on (fun _ _ _ _ _ _ us hl => match us, hl with | [_, _, _, _], _ => rfl) (spF_len fun _ => rfl) fun f cdv A outer s H vs Q E hr h => by
  obtain ⟨x, B, M, rfl, d, ⟨wf, hl1, hl2, hlt⟩, al, q⟩ := h
  have sc := sc_read_on
  have hu := room_1 hr
  refine ⟨_, (pss_cons (ps_set (i := 4) sc.nd rfl (.inr rfl) (pe_lc (own := [("state", 5)]) rfl sc.nd (kpi_tup K rfl (pv 2)) (blkOk_by (by kernel_rfl)) (fun _ _ _ _ _ => (pg_name (i := 5) sc.nd rfl (.inl rfl))) (fun _ _ _ _ _ => (pts_one (pt_cmp (pc_din hu (pv 3) (pe_ix (kix_list K rfl) (kpe_sl K rfl (pv 0)) (pv 5) (fun _ _ => rfl)))))) (fun _ _ _ _ _ => (pe_dget hu (pe_ix (kix_list K rfl) (kpe_sl K rfl (pv 0)) (pv 5) (fun _ _ => rfl)) (pv 3) (fun _ _ => rfl)))))
      (pss_one (ps_ret (pe_callTy (kc_tup K rfl) (by rfl) T.tuple (by decide +kernel) (pa_cons (pe_lc (own := [("state", 5)]) rfl sc.nd (kpi_tup K rfl (pv 1)) (blkOk_by (by kernel_rfl)) (fun _ _ _ _ _ => (pg_name (i := 5) sc.nd rfl (.inl rfl))) (fun _ _ _ _ _ => (pts_one (pt_cmpR (kop_in K rfl) (pv 5) (pv 4) (by rfl)))) (fun _ _ _ _ _ => (pv 5))) pa_nil))))), ?_⟩
  cases al with
  | cons h1 al => cases al with
  | cons h2 al => cases al with
  | cons h3 al => cases al with
  | cons h4 al =>
    cases al
    obtain ⟨m, ring, states, sg⟩ := x
    have wf : Wf m := wf
    have hl1 : ring.length ≤ 1000 := hl1
    have hl2 : states.length ≤ 1000 := hl2
    have hlt : ∀ s ∈ states, s < m.length := hlt
    cases (show _ = _ from h4)
    refine q_asg (U := rLst rNat (states.filterMap fun s => (rowAt m s).lookup sg)) (EvN.lst ?_) d fun fv B1 b1 d1 hfv => ?_
    · refine (en_lc (R := rNat) (S := fun s : Nat => rNat (((rowAt m s).lookup sg).getD 0)) (xs := states) (f := fun s : Nat => ((rowAt m s).lookup sg).isSome) (ei_tup (ev_v (U := rTup rNat states) rfl h3)) (by omega) (fun _ => rfl) (fun s hs v6 M6 B6 _ b6 hv6 => ?_) fun s hs hf v6 M6 B6 _ b6 hv6 => ?_).to fun vs B7 h7 => ?_
      · exact et_b (ev_rin (ev_v (U := rTx [sg]) rfl rfl) (ev_ixL (R := rRow) (ev_moves Kk (ev_v (U := rForm c m) rfl ((rForm c m).up b6 h1))) (ev_v (U := rNat s) rfl hv6) (rows_at (hlt s hs))))
      · refine ev_rget (ev_ixL (R := rRow) (ev_moves Kk (ev_v (U := rForm c m) rfl ((rForm c m).up b6 h1))) (ev_v (U := rNat s) rfl hv6) (rows_at (hlt s hs))) (ev_v (U := rTx [sg]) rfl rfl) ?_
        cases z : (rowAt m s).lookup sg with
        | none => rw [z] at hf; cases hf
        | some t => rfl
      · have h8 := Al.map (R := rNat) (f := fun s : Nat => ((rowAt m s).lookup sg).getD 0) h7
        rw [fm_filter] at h8
        exact h8
    · refine s_ret (U := rTup rNat (readOn m ring states sg)) (ev_tupL (EvN.lst ?_)) d1 fun v B10 b10 d10 hv10 => q v B10 (b1.trans b10) d10 hv10
      exact en_lc (R := rNat) (S := rNat) (xs := ring) (f := fun t : Nat => decide (t ∈ states.filterMap fun s => (rowAt m s).lookup sg)) (ei_tup (ev_v (U := rTup rNat ring) rfl ((rTup rNat ring).up b1 h2))) (by omega) (fun _ => rfl) (fun s hs v6 M6 B6 _ b6 hv6 => et_test (ev_inL (ev_v (U := rNat s) rfl hv6) (ev_v (U := rLst rNat (states.filterMap fun s => (rowAt m s).lookup sg)) rfl ((rLst rNat _).up b6 hfv)))) fun s hs _ v6 M6 B6 _ b6 hv6 => ev_v (U := rNat s) rfl hv6
end
end Zb
end
section
set_option Elab.async false
set_option linter.all false
set_option maxRecDepth 100000
/-! Zs11: the walk: rings made. -/
namespace Zb
open PySem PySem.Spec PyProof.Rows L2 SlX
section
variable {X : Cx} {j k : Nat} {C : Addr} {m : Str} {sp : Sp} {o e : Expr} {es : List Expr} {apos pos : Pos} {ta : TE} {t : TA}
theorem pe_mth {pl : Sem Bool} (c : CalM X.prog X.w X.K X.mg X.base k C m sp) (hc : Cls X.K C) (hr : Room j X.A) (hk : k ≤ j) (he : PE X o ta) (ha : PA X (e :: es) t)
    (hst : starEach (e :: es) X.env = (false, eval e X.env) :: starEach es X.env := by rfl) (hpl : (backTo pos (starEach es X.env)).any (·.1) = false := by rfl)
    (ht : eval (.Call (.Attribute o m apos) (e :: es) [] pos) X.env = (do
      let ov ← eval o X.env
      standAt apos.atName
      let (f, first) ← holding [ov] (getMethod ov m pl)
      callWith pos f first (backTo pos (starEach (e :: es) X.env)) (backToKw pos (keywordEach [] X.env))) := by rfl) :
    PE X (.Call (.Attribute o m apos) (e :: es) [] pos) (tMeth C m sp [] E0 ta t) := by
  obtain ⟨f, fd, ps, F, hm, b⟩ := c.ex
  exact pe_meth (pl := pl) he hc hm F (hr.mono hk) b .nil pass0 ha hst hpl ht
theorem pe_mth0 {pl : Sem Bool} (c : CalM X.prog X.w X.K X.mg X.base k C m sp) (hc : Cls X.K C) (hr : Room j X.A) (hk : k ≤ j) (he : PE X o ta)
    (ht : eval (.Call (.Attribute o m apos) [] [] pos) X.env = (do
      let ov ← eval o X.env
      standAt apos.atName
      let (f, first) ← holding [ov] (getMethod ov m pl)
      callWith pos f first (backTo pos (starEach [] X.env)) (backToKw pos (keywordEach [] X.env))) := by rfl) :
    PE X (.Call (.Attribute o m apos) [] [] pos) (tMeth C m sp [] E0 ta tNil) := by
  obtain ⟨f, fd, ps, F, hm, b⟩ := c.ex
  exact pe_meth0 (pl := pl) he hc hm F (hr.mono hk) b .nil pass0 ht
end
theorem ps_fldR {X : Cx} {o value : Expr} {f : Str} {pos pos' : Pos} {ta tv : TE} (ha : PE X o ta) (hv : PE X value tv) (hs : swapsWith value (some (.Attribute o f pos')) pos.line X.env = pure false := by rfl) : PS X (.Assign [.Attribute o f pos'] value pos) (sFld X.K ta tv f) := ps_fld ha hv hs
/-! ### an instance with its own dict, wherever it stands -/
def Fls (fs : List (Str × V)) (B : Hp) (us : List (Str × Up)) : Prop := ∀ p ∈ us, ∃ v, fs.lookup p.1 = some v ∧ p.2.p v B
theorem Fls.up {fs : List (Str × V)} {B B' : Hp} {us : List (Str × Up)} (s : Same B B') (h : Fls fs B us) : Fls fs B' us := fun p hp => by
  obtain ⟨v, e, k⟩ := h p hp
  exact ⟨v, e, p.2.up s k⟩
def spJ {α : Type} (C : Addr) (F : α → List (Str × Up)) (A : α → List Up) (ok : α → Prop) (R : α → Up) : Sp := fun vs H Q _ => ∃ (x : α) (B M : Hp) (a dx : Addr) (fs : List (Str × V)) (ws : List V), H = jn B M ∧ Dj B M ∧ ok x ∧ vs = .ref a :: ws ∧ jn B M a = some (.ins C dx fs) ∧ Fls fs B (F x) ∧ Al id (A x) ws B ∧ ∀ v B', Same B B' → Dj B' M → (R x).p v B' → Q v (jn B' M)
theorem spJ_len {α : Type} {C : Addr} {F : α → List (Str × Up)} {A : α → List Up} {ok : α → Prop} {R : α → Up} {n : Nat} (h : ∀ x, (A x).length = n) : ∀ vs H Q E, spJ C F A ok R vs H Q E → vs.length = n + 1 := fun vs H Q E ⟨x, _, _, _, _, _, ws, _, _, _, e, _, _, al, _⟩ => by rw [e, List.length_cons, ← al.length, h]
theorem jn_keep {B B1 M M1 : Hp} {a : Addr} {o : HO} (m : Same M M1) (b : Same B B1) (d : Dj B1 M1) (h : jn B M a = some o) : jn B1 M1 a = some o := by
  cases z : M a with
  | some u =>
    rw [jn_m z] at h
    rw [jn_m (m _ _ z)]
    exact h
  | none =>
    rw [jn_n z] at h
    exact jn_b d (b _ _ h)
section
variable {K : PySem.W.Frag} {σ : L2.St} {M B : Hp} {te ta : TE} {tt : TA} {U : Up} {D : Ends} {tz : TS}
theorem ev_fldJ {M0 B0 : Hp} {i : Nat} {f : Str} {a C dx : Addr} {fs : List (Str × V)} {v : V} (hσ : σ[i]? = some (some (.ref a))) (hH : jn B0 M0 a = some (.ins C dx fs)) (m0 : Same M0 M) (b0 : Same B0 B) (c : Cls K C) (n : NoAttr K C f) (l : fs.lookup f = some v) (hv : U.p v B) : Ev (tFld K (tVar i) f) σ M B U := fun M1 B1 m b d Q q =>
  ⟨_, hσ, a, C, dx, fs, v, rfl, jn_keep (m0.trans m) (b0.trans b) d hH, c, n, l, q v B1 (Same.refl _) d (U.up b hv)⟩
theorem ev_methJ {M0 B0 : Hp} {α : Type} {C : Addr} {F : α → List (Str × Up)} {A : α → List Up} {ok : α → Prop} {R : α → Up} {E : XK} {i : Nat} {f : Str} {a dx : Addr} {fs : List (Str × V)} (x : α) (hσ : σ[i]? = some (some (.ref a))) (hH : jn B0 M0 a = some (.ins C dx fs)) (m0 : Same M0 M) (b0 : Same B0 B) (hn : fs.lookup f = none) (hf : Fls fs B (F x)) (ha : EvA tt σ M B (A x)) (o : ok x) :
    Ev (tMeth C f (spJ C F A ok R) [] E (tVar i) tt) σ M B (R x) := fun M1 B1 m b d Q q =>
  ⟨_, hσ, a, dx, fs, rfl, jn_keep (m0.trans m) (b0.trans b) d hH, hn, ha M1 B1 m b d _ fun ws B2 b2 d2 hw => ⟨x, B2, M1, a, dx, fs, ws, rfl, d2, o, by rw [List.append_nil], jn_keep (m0.trans m) (b0.trans (b.trans b2)) d2 hH, hf.up (b.trans b2), hw, fun v B3 b3 d3 hv => q v B3 (b2.trans b3) d3 hv⟩⟩
theorem s_fld {i : Nat} {f : Str} {a C dx : Addr} {fs : List (Str × V)} (hσ : σ[i]? = some (some (.ref a))) (hM : M a = some (.ins C dx fs)) (c : Cls K C) (n : NoAttr K C f) (hl : fs.length < 1000) (h : Ev te σ M B U) (d : Dj B M) (k : ∀ v B', Same B B' → Dj B' M → U.p v B' → D.nx σ (jn B' (upd M a (.ins C dx (putF f v fs))))) :
    sFld K (tVar i) te f D σ (jn B M) := h M B (Same.refl _) (Same.refl _) d _ fun v B' b d' hv => ⟨_, hσ, a, C, dx, fs, rfl, jn_m hM, c, n, hl, by
    rw [jn_updM]
    exact k v B' b d' hv⟩
theorem q_fld {i : Nat} {f : Str} {a C dx : Addr} {fs : List (Str × V)} (hσ : σ[i]? = some (some (.ref a))) (hM : M a = some (.ins C dx fs)) (c : Cls K C) (n : NoAttr K C f) (hl : fs.length < 1000) (h : Ev te σ M B U) (d : Dj B M) (k : ∀ v B', Same B B' → Dj B' M → U.p v B' → tz D σ (jn B' (upd M a (.ins C dx (putF f v fs))))) :
    tSeq (sFld K (tVar i) te f) tz D σ (jn B M) := s_fld (D := { D with nx := tz D }) hσ hM c n hl h d k
end
abbrev rReach (m : Mach) : Up := rLst (fun s : Nat => rDom (Pth m s)) (List.range m.length)
abbrev rPts (ps : List (List Nat)) : Up := rTup (rTup rNat) ps
abbrev s_Rings_all_parts : Stmt := inClass (top 56) 1
theorem sc_Rings_all_parts : FnScope ["self", "found", "state", "near", "to"] ["self"] (defScope s_Rings_all_parts) := ⟨rfl, rfl, rfl, by decide +kernel, rfl, by decide +kernel, by decide +kernel⟩
def sp_all_parts (c : Cs) : Sp := spJ (α := Mach) c.CR (fun m => [("own_reach", rReach m)]) (fun _ => []) Wf (fun m => rLst (rTup rNat) ((List.range m.length).map (conn m)))
abbrev s_Rings_has_move : Stmt := inClass (top 56) 2
theorem sc_Rings_has_move : FnScope ["self", "part", "state", "to"] ["self", "part"] (defScope s_Rings_has_move) := ⟨rfl, rfl, rfl, by decide +kernel, rfl, by decide +kernel, by decide +kernel⟩
def sp_has_move (c : Cs) : Sp := spJ (α := Mach × List Nat) c.CR (fun x => [("own_form", rForm c x.1)]) (fun x => [rTup rNat x.2]) (fun x => Wf x.1 ∧ x.2.length ≤ 1000 ∧ ∀ s ∈ x.2, s < x.1.length) (fun x => rBl (movesIn x.1 x.2))
section
variable {P : Program} {w : World} {K : PySem.W.Frag} {mg : Str → Option Value} {base : Heap} {c : Cs}
theorem c_all_parts (D : MDf K c.CR "all_parts" "Rings.all_parts" s_Rings_all_parts) (Kk : Kc K c) (T : Bt mg) : CalM P w K mg base 1 c.CR "all_parts" (sp_all_parts c) :=
  calm_of D sc_Rings_all_parts (fun _ _ _ _ _ _ us hl => match us, hl with | [_], _ => rfl) (spJ_len fun _ => rfl) fun f cdv A outer s H vs Q E hr h => by
  obtain ⟨m, B, M, a, dx, fs, ws, rfl, d, wf, rfl, hH, hf, al, q⟩ := h
  have sc := sc_Rings_all_parts
  have hu := room_1 hr
  refine ⟨_, (pss_cons (ps_set (i := 1) sc.nd rfl (.inl rfl) (pe_lst pa_nil))
      (pss_cons (ps_for PassesOwn.never rfl (kpi_enum K rfl (by rfl) T.enumerate (pa_cons (kpe_fld K rfl (pv 0)) pa_nil)) (kpg_tup (n := 2) K rfl rfl (pgs_cons (pg_name (i := 2) sc.nd rfl (.inr rfl)) (pgs_cons (pg_name (i := 3) sc.nd rfl (.inr rfl)) pgs_nil))) (pss_one (ps_expr (pe_bm PySem.F.plainAttrs_list PySem.F.slot_list_append PySem.F.type_list_append mt_append (pv 1) (pa_cons (pe_callTy (kc_tup K rfl) (by rfl) T.tuple (by decide +kernel) (pa_cons (pe_lc (own := [("to", 4)]) rfl sc.nd (pi_range1 (by rfl) T.range (pa_cons (pe_callB (kc_len K rfl) (by rfl) T.len (by decide +kernel) (pa_cons (kpe_fld K rfl (pv 0)) pa_nil)) pa_nil)) (blkOk_by (by kernel_rfl)) (fun _ _ _ _ _ => (pg_name (i := 4) sc.nd rfl (.inl rfl))) (fun _ _ _ _ _ => (pts_one (PW.pt (pw_and (pt_cmp (pc_din hu (pv 4) (pv 3))) (pw_and1 (pt_cmp (pc_din hu (pv 2) (pe_ix (kix_list K rfl) (kpe_fld K rfl (pv 0)) (pv 4) (fun _ _ => rfl))))))))) (fun _ _ _ _ _ => (pv 4))) pa_nil)) pa_nil)))))
      (pss_one (ps_ret (pv 1))))), ?_⟩
  cases al
  have hle := wf.le
  obtain ⟨rv, hl, hrv⟩ := hf ("own_reach", rReach m) List.mem_cons_self
  have nR : NoAttr K c.CR "own_reach" := Kk.rn _ (by decide)
  have n0 : (List.range m.length).length = m.length := List.length_range
  have fld : ∀ {σ9 : L2.St} {M9 B9 : Hp}, σ9[0]? = some (some (.ref a)) → Same M M9 → Same B B9 → Ev (tFld K (tVar 0) "own_reach") σ9 M9 B9 (rReach m) := fun e m9 b9 => ev_fldJ e hH m9 b9 Kk.rc nR hl ((rReach m).up b9 hrv)
  refine q_asgN (en_lst ea_nil (by show 0 ≤ 1000; decide)) d fun p vs0 B1 b1 d1 hMp hBp hvs => ?_
  cases hvs
  have sM : ∀ vs, Same M (upd M p (.lst vs)) := fun vs => same_new hMp
  refine q_for2 (R := rNat) (S := fun s : Nat => rDom (Pth m s)) (xs := enumL (List.range m.length)) (ei_enum (ea_cons (fld rfl (sM _) b1) ea_nil)) (dj_m d1 hBp)
    (fun i σ9 M9 B9 => ∃ vs9 o2 o3 o4, σ9 = [some (.ref a), some (.ref p), o2, o3, o4] ∧ M9 = upd M p (.lst vs9) ∧ Al (rTup rNat) ((List.range i).map (conn m)) vs9 B9)
    (fun i σ9 M9 B8 B9 s89 ⟨vs9, o2, o3, o4, e1, e2, e3⟩ => ⟨vs9, o2, o3, o4, e1, e2, e3.up s89⟩) (fun B9 b9 d9 => ⟨[], _, _, _, rfl, rfl, .nil⟩) (fun B0 i x v z σ9 M9 B9 exi b0 b9 d9 hp hv hz => ?_) fun σ9 M9 B9 hp b9 d9 => ?_
  · obtain ⟨vs9, o2, o3, o4, rfl, rfl, al9⟩ := hp
    obtain ⟨e1, e2⟩ := enumL_at exi
    have hi : i < m.length := by
      have := (List.getElem?_eq_some_iff.mp e2).1
      rw [n0] at this
      exact this
    rw [List.getElem?_range hi] at e2
    obtain ⟨x1, x2⟩ := x
    cases (show x1 = i from e1)
    cases (show i = x2 from Option.some.inj e2)
    refine s_app (l := p) (U := rTup rNat (conn m i)) rfl upd_same (ev_tupL (EvN.lst ?_)) d9 (by rw [← al9.length, List.length_map, List.length_range]; omega) fun v11 B11 b11 d11 hv11 => ?_
    · have hn : Ev (tCB (rLenS K) (tCons (tFld K (tVar 0) "own_reach") tNil)) ((([some (.ref a), some (.ref p), o2, o3, o4] : L2.St).set 2 (some v)).set 3 (some z)) (upd M p (.lst vs9)) B9 (rNat m.length) := n0 ▸ ev_lenL (fld rfl (sM _) (b1.trans (b0.trans b9)))
      exact en_lc (R := rNat) (S := rNat) (xs := List.range m.length) (f := fun t : Nat => dec (Pth m i t) && dec (Pth m t i)) (ei_rng1 (ea_cons hn ea_nil) (by omega)) (by rw [n0]; omega) (fun _ => rfl)
        (fun t ht v6 M6 B6 m6 b6 hv6 => et_and (et_b (ev_domIn (S := Pth m i) (ev_v (U := rNat t) rfl hv6) (ev_v (U := rDom (Pth m i)) rfl ((rDom (Pth m i)).up b6 hz)) dec_iff)) (fun _ => et_b (ev_domIn (S := Pth m t) (ev_v (U := rNat i) rfl hv) (ev_ixL (R := fun s : Nat => rDom (Pth m s)) (fld rfl ((sM _).trans m6) (b1.trans (b0.trans (b9.trans b6)))) (ev_v (U := rNat t) rfl hv6) (List.getElem?_range (List.mem_range.mp ht))) dec_iff))) fun t ht _ v6 M6 B6 _ b6 hv6 => ev_v (U := rNat t) rfl hv6
    · refine ⟨_, B11, rfl, d11, b9.trans b11, vs9 ++ [v11], _, _, _, rfl, by rw [upd_upd], ?_⟩
      rw [List.range_succ, List.map_append]
      exact (al9.up b11).snoc hv11
  · obtain ⟨vs9, o2, o3, o4, rfl, rfl, al9⟩ := hp
    rw [enumL_len, n0] at al9
    have hB9 : B9 p = none := dj_none d9 upd_same
    rw [jn_pub hMp]
    have sB : Same B9 (upd B9 p (.lst vs9)) := same_new hB9
    exact s_ret (U := rLst (rTup rNat) ((List.range m.length).map (conn m))) (ev_v rfl ⟨p, vs9, rfl, upd_same, al9.up sB⟩) (dj_b (dj_sub hMp d9) hMp) fun v B10 b10 d10 hv10 => q v B10 (b1.trans (b9.trans (sB.trans b10))) d10 hv10
theorem c_has_move (D : MDf K c.CR "has_move" "Rings.has_move" s_Rings_has_move) (Kk : Kc K c) (T : Bt mg) : CalM P w K mg base 1 c.CR "has_move" (sp_has_move c) :=
  calm_of D sc_Rings_has_move (fun _ _ _ _ _ _ us hl => match us, hl with | [_, _], _ => rfl) (spJ_len fun _ => rfl) fun f cdv A outer s H vs Q E hr h => by
  obtain ⟨⟨m, p⟩, B, M, a, dx, fs, ws, rfl, d, ⟨wf, hl1, hlt⟩, rfl, hH, hf, al, q⟩ := h
  have sc := sc_Rings_has_move
  refine ⟨_, (pss_one (ps_ret (pe_callB (kc_any K rfl rfl) (by rfl) T.any (by decide +kernel) (pa_cons (pe_lc2 (own := [("state", 2), ("to", 3)]) (vs1 := [3]) rfl sc.nd (kpi_tup K rfl (pv 1)) (blkOk_by (by kernel_rfl)) (by decide) (fun _ _ _ _ _ => (pg_name (i := 2) sc.nd rfl (.inl rfl))) (fun _ _ _ _ _ => pts_nil) (fun _ _ _ _ _ => (pi_values (pe_ix (kix_list K rfl) (kpe_sl K rfl (kpe_fld K rfl (pv 0))) (pv 2) (fun _ _ => rfl)))) (fun _ _ _ _ _ => (pg_name (i := 3) sc.nd rfl (.inl rfl))) (fun _ _ _ _ _ => pts_nil) (fun _ _ _ _ _ => (pe_cmpR (kop_in K rfl) (pv 3) (pv 1) (by rfl)))) pa_nil)))), ?_⟩
  cases al with
  | cons h1 al =>
    cases al
    have wf : Wf m := wf
    have hl1 : p.length ≤ 1000 := hl1
    have hlt : ∀ s ∈ p, s < m.length := hlt
    obtain ⟨fv, hl, hfv⟩ := hf ("own_form", rForm c m) List.mem_cons_self
    have nR : NoAttr K c.CR "own_form" := Kk.rn _ (by decide)
    have fld : ∀ {σ9 : L2.St} {M9 B9 : Hp}, σ9[0]? = some (some (.ref a)) → Same M M9 → Same B B9 → Ev (tFld K (tVar 0) "own_form") σ9 M9 B9 (rForm c m) := fun e m9 b9 => ev_fldJ e hH m9 b9 Kk.rc nR hl ((rForm c m).up b9 hfv)
    have hsum : (p.map fun s => (rowAt m s).length).sum ≤ 100000 := by
      have := sum_le (f := fun s => (rowAt m s).length) (c := 5) (xs := p) fun s _ => (wf.at s).len
      omega
    refine s_ret (U := rBl (movesIn m p)) (ev_any (EvN.lst ((en_lcT (R := rNat) (T := fun (s : Nat) (q : Nat × Nat) => rNat q.2) (S := fun (s : Nat) (q : Nat × Nat) => rBl (decide (q.2 ∈ p))) (xs := p) (ys := fun s => rowAt m s) (ei_tup (ev_v (U := rTup rNat p) rfl h1)) hsum (fun _ => rfl) (fun s hs v M1 B1 m1 b1 hv => ?_) (fun _ _ => rfl) fun s hs q hq v z M1 B1 m1 b1 hv hz => ?_).to fun vs B2 h2 => ?_))) d q
    · exact ei_vals (ev_ixL (R := rRow) (ev_moves Kk (fld rfl m1 b1)) (ev_v (U := rNat s) rfl hv) (rows_at (hlt s hs)))
    · exact ev_inT (ev_v (U := rNat q.2) rfl hz) (ev_v (U := rTup rNat p) rfl ((rTup rNat p).up b1 h1))
    · have := Al.map (R := rBl) (f := fun x : Nat × Nat × Nat => decide (x.2.2 ∈ p)) h2
      rw [flat_map (ys := fun s => rowAt m s) (g := fun (s : Nat) (q : Nat × Nat) => decide (q.2 ∈ p))] at this
      exact this
end
end Zb
end
section
set_option Elab.async false
set_option linter.all false
set_option maxRecDepth 100000
/-! Zs12: the walk: rings made; what is asked of them. -/
namespace Zb
open PySem PySem.Spec PyProof.Rows L2 SlX
theorem enum_range {α : Type} {n : Nat} {g : Nat → α} : enumL ((List.range n).map g) = (List.range n).map fun i => (i, g i) := by
  refine List.ext_getElem? fun i => ?_
  by_cases h : i < n
  · have e : (enumL ((List.range n).map g))[i]? = some (i, g i) := by
      unfold enumL
      exact List.getElem?_zip_eq_some.mpr ⟨by rw [List.length_map, List.length_range]; exact List.getElem?_range h, by rw [List.getElem?_map, List.getElem?_range h]; rfl⟩
    rw [e, List.getElem?_map, List.getElem?_range h]
    rfl
  · rw [List.getElem?_eq_none (by rw [enumL_len, List.length_map, List.length_range]; omega), List.getElem?_eq_none (by rw [List.length_map, List.length_range]; omega)]
theorem dj_re {B M : Hp} {p : Addr} {o u : HO} (d : Dj B (upd M p o)) : Dj B (upd M p u) := fun a x e => by
  have h := d a x e
  by_cases q : a = p
  · subst q
    rw [upd_same] at h
    cases h
  · rw [upd_ne q] at h ⊢
    exact h
theorem first_at {xs : List Nat} (h : xs ≠ []) : xs[0]? = some (xs.getD 0 0) := getD_some (List.length_pos_iff.mpr h)
def rgFs (v1 v2 v3 v4 : V) : List (Str × V) := [("own_form", v1), ("own_reach", v2), ("own_parts", v3), ("own_rings", v4)]
/-- rings of a form -/
def rRg (c : Cs) (m : Mach) : Up := ⟨fun v B => ∃ a dx v1 v2 v3 v4, v = .ref a ∧ B a = some (.ins c.CR dx (rgFs v1 v2 v3 v4)) ∧ (rForm c m).p v1 B ∧ (rReach m).p v2 B ∧ (rPts (parts m)).p v3 B ∧ (rPts (rings m)).p v4 B,
  fun s ⟨a, dx, v1, v2, v3, v4, e, h, h1, h2, h3, h4⟩ => ⟨a, dx, v1, v2, v3, v4, e, s _ _ h, (rForm c m).up s h1, (rReach m).up s h2, (rPts (parts m)).up s h3, (rPts (rings m)).up s h4⟩⟩
section
variable {K : PySem.W.Frag} {c : Cs} {σ : L2.St} {M B : Hp} {ta : TE} {m : Mach}
theorem ev_rgForm (k : Kc K c) (h : Ev ta σ M B (rRg c m)) : Ev (tFld K ta "own_form") σ M B (rForm c m) := fun M1 B1 mm b d Q q => h M1 B1 mm b d _ fun v B2 b2 d2 ⟨a, dx, v1, v2, v3, v4, e, h, h1, h2, h3, h4⟩ =>
  ⟨a, c.CR, dx, _, v1, e, jn_b d2 h, k.rc, k.rn _ (by decide), rfl, q v1 B2 b2 d2 h1⟩
theorem ev_rgReach (k : Kc K c) (h : Ev ta σ M B (rRg c m)) : Ev (tFld K ta "own_reach") σ M B (rReach m) := fun M1 B1 mm b d Q q => h M1 B1 mm b d _ fun v B2 b2 d2 ⟨a, dx, v1, v2, v3, v4, e, h, h1, h2, h3, h4⟩ =>
  ⟨a, c.CR, dx, _, v2, e, jn_b d2 h, k.rc, k.rn _ (by decide), by rfl, q v2 B2 b2 d2 h2⟩
theorem ev_rgParts (k : Kc K c) (h : Ev ta σ M B (rRg c m)) : Ev (tFld K ta "own_parts") σ M B (rPts (parts m)) := fun M1 B1 mm b d Q q => h M1 B1 mm b d _ fun v B2 b2 d2 ⟨a, dx, v1, v2, v3, v4, e, h, h1, h2, h3, h4⟩ =>
  ⟨a, c.CR, dx, _, v3, e, jn_b d2 h, k.rc, k.rn _ (by decide), by rfl, q v3 B2 b2 d2 h3⟩
theorem ev_rgRings (k : Kc K c) (h : Ev ta σ M B (rRg c m)) : Ev (tFld K ta "own_rings") σ M B (rPts (rings m)) := fun M1 B1 mm b d Q q => h M1 B1 mm b d _ fun v B2 b2 d2 ⟨a, dx, v1, v2, v3, v4, e, h, h1, h2, h3, h4⟩ =>
  ⟨a, c.CR, dx, _, v4, e, jn_b d2 h, k.rc, k.rn _ (by decide), by rfl, q v4 B2 b2 d2 h4⟩
theorem isI_rg {v : V} {M1 B1 : Hp} (d : Dj B1 M1) (h : (rRg c m).p v B1) : ∃ a, v = .ref a ∧ IsI (jn B1 M1) a c.CR := by
  obtain ⟨a, dx, v1, v2, v3, v4, e, h, _⟩ := h
  exact ⟨a, e, .inl ⟨dx, _, jn_b d h⟩⟩
end
abbrev s_Rings___init__ : Stmt := inClass (top 56) 0
theorem sc_Rings___init__ : FnScope ["self", "form", "state", "part"] ["self", "form"] (defScope s_Rings___init__) := ⟨rfl, rfl, rfl, by decide +kernel, rfl, by decide +kernel, by decide +kernel⟩
def sp_Rings (c : Cs) : Sp := spI (α := Mach) c.CR (fun m => [rForm c m]) Wf (fun m => rRg c m)
section
variable {P : Program} {w : World} {K : PySem.W.Frag} {mg : Str → Option Value} {base : Heap} {c : Cs}
theorem c_Rings_init (D : MDf K c.CR "__init__" "Rings.__init__" s_Rings___init__) (Kk : Kc K c) (T : Bt mg) (oL : ∀ C ∈ [c.CF, c.CM], Own P w K mg base 1 C "__len__" (sp_Form_len c)) (c_require_form : Cal P w K mg base 1 "require_form" (sp_require_form c)) (c_states_from : Cal P w K mg base 1 "states_from" (sp_states_from c))
    (c_all_parts : CalM P w K mg base 1 c.CR "all_parts" (sp_all_parts c)) (c_has_move : CalM P w K mg base 1 c.CR "has_move" (sp_has_move c)) : CalM P w K mg base 3 c.CR "__init__" (sp_Rings c) :=
  calm_of D sc_Rings___init__ (fun _ _ _ _ _ _ us hl => match us, hl with | [_, _], _ => rfl) (spI_len fun _ => rfl) fun f cdv A outer s H vs Q E hr h => by
  obtain ⟨m, B, M, a, dx, ws, rfl, d, hMa, hMd, hBa, hBd, hne, wf, rfl, al, q⟩ := h
  have sc := sc_Rings___init__
  refine ⟨_, (pss_cons (ps_expr (pe_cal c_require_form hr (by decide) (by rfl) (pa_cons (pv 1) pa_nil)))
      (pss_cons (ps_fldR (pv 0) (pv 1))
      (pss_cons (ps_fldR (pv 0) (pe_lc (own := [("state", 2)]) rfl sc.nd (pi_range1 (by rfl) T.range (pa_cons (pe_callB (cr_lenOwn oL (hr.mono (by decide))) (by rfl) T.len (by decide +kernel) (pa_cons (pv 1) pa_nil)) pa_nil)) (blkOk_by (by kernel_rfl)) (fun _ _ _ _ _ => (pg_name (i := 2) sc.nd rfl (.inl rfl))) (fun _ _ _ _ _ => pts_nil) (fun _ _ _ _ _ => (pe_cal c_states_from hr (by decide) (by rfl) (pa_cons (pv 1) (pa_cons (pv 2) pa_nil))))))
      (pss_cons (ps_fldR (pv 0) (pe_callTy (kc_tup K rfl) (by rfl) T.tuple (by decide +kernel) (pa_cons (pe_lc (own := [("state", 2), ("part", 3)]) rfl sc.nd (kpi_enum K rfl (by rfl) T.enumerate (pa_cons (pe_mth0 c_all_parts Kk.rc hr (by decide) (pv 0)) pa_nil)) (blkOk_by (by kernel_rfl)) (fun _ _ _ _ _ => (kpg_tup (n := 2) K rfl rfl (pgs_cons (pg_name (i := 2) sc.nd rfl (.inl rfl)) (pgs_cons (pg_name (i := 3) sc.nd rfl (.inl rfl)) pgs_nil)))) (fun _ _ _ _ _ => (pts_one (pt_cmpR op_eq (pe_ix (kix_tup K rfl) (pv 3) pe_int (fun _ _ => rfl)) (pv 2) (nomark _)))) (fun _ _ _ _ _ => (pv 3))) pa_nil)))
      (pss_one (ps_fldR (pv 0) (pe_callTy (kc_tup K rfl) (by rfl) T.tuple (by decide +kernel) (pa_cons (pe_lc (own := [("part", 3)]) rfl sc.nd (kpi_tup K rfl (kpe_fld K rfl (pv 0))) (blkOk_by (by kernel_rfl)) (fun _ _ _ _ _ => (pg_name (i := 3) sc.nd rfl (.inl rfl))) (fun _ _ _ _ _ => (pts_one (pt_val (pe_mth c_has_move Kk.rc hr (by decide) (pv 0) (pa_cons (pv 3) pa_nil))))) (fun _ _ _ _ _ => (pv 3))) pa_nil)))))))), ?_⟩
  cases al with
  | cons h1 al =>
    cases al
    have hle := wf.le
    have n0 : (List.range m.length).length = m.length := List.length_range
    have nF : NoAttr K c.CR "own_form" := Kk.rn _ (by decide)
    have nR : NoAttr K c.CR "own_reach" := Kk.rn _ (by decide)
    have nP : NoAttr K c.CR "own_parts" := Kk.rn _ (by decide)
    have nG : NoAttr K c.CR "own_rings" := Kk.rn _ (by decide)
    have hF : ∀ {B9 : Hp}, Same B B9 → (rForm c m).p _ B9 := fun s9 => (rForm c m).up s9 h1
    have d0 : Dj B (upd (upd M dx (.own a)) a (.ins c.CR dx [])) := dj_m (dj_m d hBd) hBa
    refine q_drop (ev_require_form (ev_v (U := rForm c m) rfl h1)) d0 fun B1 b1 d1 => ?_
    refine q_fld (i := 0) (a := a) (C := c.CR) (dx := dx) (fs := []) rfl upd_same Kk.rc nF (by decide) (U := rForm c m) (ev_v rfl (hF b1)) d1 fun v1 B2 b2 d2 hv1 => ?_
    rw [upd_upd]
    replace d2 := dj_re (u := .ins c.CR dx (putF "own_form" v1 [])) d2
    refine q_fld (i := 0) (a := a) (C := c.CR) (dx := dx) (fs := putF "own_form" v1 []) rfl upd_same Kk.rc nR (by show 1 < 1000; decide) (U := rReach m) (EvN.lst (en_lc1 (R := rNat) (S := fun s : Nat => rDom (Pth m s)) (xs := List.range m.length) (ei_rng1 (ea_cons (ev_lenForm (ev_v (U := rForm c m) rfl (hF (b1.trans b2))) (by omega)) ea_nil) (by omega)) (by rw [n0]; omega) (fun _ => rfl) fun t ht v6 M6 B6 _ b6 hv6 =>
      ev_call (A := fun x : Mach × Nat => [rForm c x.1, rNat x.2]) (R := fun x : Mach × Nat => rDom (Pth x.1 x.2)) (m, t) (ea_cons (ev_v (U := rForm c m) rfl (hF (b1.trans (b2.trans b6)))) (ea_cons (ev_v (U := rNat t) rfl hv6) ea_nil)) ⟨wf, List.mem_range.mp ht⟩)) d2 fun v2 B3 b3 d3 hv2 => ?_
    rw [upd_upd]
    replace d3 := dj_re (u := .ins c.CR dx (putF "own_reach" v2 (putF "own_form" v1 []))) d3
    have hH3 : jn B3 (upd (upd M dx (.own a)) a (.ins c.CR dx (putF "own_reach" v2 (putF "own_form" v1 [])))) a = some (.ins c.CR dx (putF "own_reach" v2 (putF "own_form" v1 []))) := jn_m upd_same
    refine q_fld (i := 0) (a := a) (C := c.CR) (dx := dx) (fs := putF "own_reach" v2 (putF "own_form" v1 [])) rfl upd_same Kk.rc nP (by show 2 < 1000; decide) (U := rPts (parts m)) (ev_tupL (EvN.lst ?_)) d3 fun v3 B4 b4 d4 hv3 => ?_
    · refine (en_lc2 (R := rNat) (T := rTup rNat) (S := fun q : Nat × List Nat => rTup rNat q.2) (xs := enumL ((List.range m.length).map (conn m))) (f := fun q : Nat × List Nat => decide (q.2.getD 0 0 = q.1)) (ei_enum (ea_cons (ev_methJ (F := fun m : Mach => [("own_reach", rReach m)]) (A := fun _ : Mach => []) (R := fun m : Mach => rLst (rTup rNat) ((List.range m.length).map (conn m))) m rfl hH3 (Same.refl _) (Same.refl _) (by rfl) (fun p hp => by rw [List.mem_singleton.mp hp]; exact ⟨v2, by rfl, hv2⟩) ea_nil wf) ea_nil)) (by rw [enumL_len, List.length_map, n0]; omega) (fun _ _ => rfl) (fun q hq v6 z6 M6 B6 _ b6 hv6 hz6 => ?_) fun q hq _ v6 z6 M6 B6 _ b6 hv6 hz6 => ev_v (U := rTup rNat q.2) rfl hz6).to fun vs B7 h7 => ?_
      · rw [enum_range] at hq
        obtain ⟨j, hj, rfl⟩ := List.mem_map.mp hq
        refine EvT.to (et_test (ev_eq (ev_ixT (R := rNat) (i := 0) (x := (conn m j).getD 0 0) (ev_v (U := rTup rNat (conn m j)) rfl hz6) ev_c (first_at (List.ne_nil_of_mem (conn_self (List.mem_range.mp hj))))) (ev_v (U := rNat j) rfl hv6) rfl)) ?_
        refine decide_eq_decide.mpr ⟨fun e => ?_, fun e => congrArg (fun n : Nat => V.int (n : Int)) e⟩
        injection e with e
        exact Int.ofNat.inj e
      · have h8 := Al.map (R := rTup rNat) (f := fun q : Nat × List Nat => q.2) h7
        rw [enum_range, List.filter_map, List.map_map] at h8
        exact h8
    rw [upd_upd]
    replace d4 := dj_re (u := .ins c.CR dx (putF "own_parts" v3 (putF "own_reach" v2 (putF "own_form" v1 [])))) d4
    have hH4 : jn B4 (upd (upd M dx (.own a)) a (.ins c.CR dx (putF "own_parts" v3 (putF "own_reach" v2 (putF "own_form" v1 []))))) a = some (.ins c.CR dx (putF "own_parts" v3 (putF "own_reach" v2 (putF "own_form" v1 [])))) := jn_m upd_same
    refine s_fld (i := 0) (a := a) (C := c.CR) (dx := dx) (fs := putF "own_parts" v3 (putF "own_reach" v2 (putF "own_form" v1 []))) rfl upd_same Kk.rc nG (by show 3 < 1000; decide) (U := rPts (rings m)) (ev_tupL (EvN.lst ?_)) d4 fun v4 B5 b5 d5 hv4 => ?_
    · refine en_lc (R := rTup rNat) (S := rTup rNat) (xs := parts m) (f := movesIn m) (ei_tup (ev_fldJ rfl hH4 (Same.refl _) (Same.refl _) Kk.rc nP (by rfl) hv3)) (by have := parts_len (m := m); omega) (fun _ => rfl) (fun p hp v6 M6 B6 m6 b6 hv6 => ?_) fun p hp _ v6 M6 B6 _ b6 hv6 => ev_v (U := rTup rNat p) rfl hv6
      exact et_test (ev_methJ (F := fun x : Mach × List Nat => [("own_form", rForm c x.1)]) (A := fun x : Mach × List Nat => [rTup rNat x.2]) (R := fun x : Mach × List Nat => rBl (movesIn x.1 x.2)) (m, p) rfl hH4 m6 b6 (by rfl) (fun p hp => by rw [List.mem_singleton.mp hp]; exact ⟨v1, by rfl, (rForm c m).up (b3.trans (b4.trans b6)) hv1⟩) (ea_cons (ev_v (U := rTup rNat p) rfl hv6) ea_nil) ⟨wf, by show p.length ≤ 1000; have := part_len hp; omega, fun s hs => part_lt hp hs⟩)
    rw [upd_upd]
    have hB5a : B5 a = none := dj_none d5 upd_same
    have hB5d : B5 dx = none := dj_none d5 (by rw [upd_ne hne]; exact upd_same)
    have d6 : Dj B5 M := fun b o e => (upd_none (upd_none (d5 b o e)).1).1
    rw [jn_pub2 hMa hMd hne]
    have sn : Same B5 (upd (upd B5 dx (.own a)) a (.ins c.CR dx (putF "own_rings" v4 (putF "own_parts" v3 (putF "own_reach" v2 (putF "own_form" v1 [])))))) := (same_new hB5d).trans (same_new (by rw [upd_ne (fun e => hne e.symm)]; exact hB5a))
    exact q _ ((b1.trans (b2.trans (b3.trans (b4.trans b5)))).trans sn) (dj_b (dj_b d6 hMd) hMa) ⟨a, dx, v1, v2, v3, v4, rfl, upd_same, (rForm c m).up (b3.trans (b4.trans (b5.trans sn))) hv1, (rReach m).up (b4.trans (b5.trans sn)) hv2, (rPts (parts m)).up (b5.trans sn) hv3, (rPts (rings m)).up sn hv4⟩
end
end Zb
end
section
set_option Elab.async false
set_option linter.all false
set_option maxRecDepth 100000
/-! Zd4: a tuple of numbers in a tuple of such. -/
namespace Zb
open PySem PySem.Spec PyProof.Rows L2
def rInDT (K : PySem.W.Frag) : R2 := fun x y H Q => ∃ d ds, Dp K H x d ∧ Dp K H y (.tuple ds) ∧ SeqAt.shaped d = true ∧ SeqAt.shaped (.tuple ds) = true ∧ Q (.bl (ds.any fun z => PyData.eqv z d)) H
theorem op_inDT {X : Cx} (K : PySem.W.Frag) (hK : X.K = K) (hu : X.A.units + 65 < cLine) : OpR X (compareOp .In) (rInDT K) := by
  subst hK
  intro pins s σ H x y v u Q I rx ry h
  obtain ⟨d, ds, hd, he, sd, se, q⟩ := h
  obtain ⟨as, r1⟩ := Dp.reads I d x v hd rx
  obtain ⟨bs, r2⟩ := Dp.reads I (.tuple ds) y u he ry
  exact SeqAt.in_tuple_reads r2 r1 (SeqAt.canLay_of_shaped se) (SeqAt.canLay_of_shaped sd) (room_in_shaped sd hu) ⟨.bl _, H, I, rfl, q⟩
def tD (p : List Nat) : PyData := .tuple (p.map nD)
theorem lay_tups : ∀ ps : List (List Nat), PyData.canLayAll0 (ps.map tD) = true
  | [] => rfl
  | p :: ps => by
    show (PyData.canLayAll0 (p.map nD) && PyData.canLayAll0 (ps.map tD)) = true
    rw [lay_nats, lay_tups ps]
    rfl
theorem depth_tups : ∀ ps : List (List Nat), PyData.depthAll (ps.map tD) ≤ 1
  | [] => Nat.zero_le _
  | p :: ps => by
    show max (PyData.depthAll (p.map nD) + 1) (PyData.depthAll (ps.map tD)) ≤ 1
    have := depth_tups ps
    rw [depth_nats]
    omega
theorem sh_ttups {ps : List (List Nat)} : SeqAt.shaped (.tuple (ps.map tD)) = true := by
  show (PyData.canLayAll0 (ps.map tD) && decide (PyData.depthAll (ps.map tD) + 1 ≤ 64)) = true
  have := depth_tups ps
  rw [lay_tups, decide_eq_true (by omega)]
  rfl
theorem any_tups {v : List Nat} : ∀ ps : List (List Nat), ((ps.map tD).any fun z => PyData.eqv z (tD v)) = decide (v ∈ ps)
  | [] => rfl
  | p :: ps => by
    rw [List.map_cons, List.any_cons, any_tups ps]
    have e : PyData.eqv (tD p) (tD v) = decide (p = v) := eqv_nats p v
    rw [e]
    by_cases h : p = v
    · subst h
      simp
    · have h2 : ¬ v = p := fun z => h z.symm
      simp [h, h2]
section
variable {K : PySem.W.Frag} {σ : L2.St} {M B : Hp} {ta tb : TE}
theorem ev_inTT {v : List Nat} {ps : List (List Nat)} (ha : Ev ta σ M B (rTup rNat v)) (hb : Ev tb σ M B (rTup (rTup rNat) ps)) : Ev (tOp (rInDT K) ta tb) σ M B (rBl (decide (v ∈ ps))) :=
  ev_op0 ha hb fun x y M1 B1 _ _ dj hx hy Q q => ⟨tD v, ps.map tD, (dat_tup fun _ _ => dat_int).h K x M1 B1 dj hx, (dat_tup (R := rTup rNat) (f := tD) fun p _ => dat_tup fun _ _ => dat_int).h K y M1 B1 dj hy, sh_tnats, sh_ttups, by
    rw [any_tups]
    exact q⟩
end
end Zb
end
section
set_option Elab.async false
set_option linter.all false
set_option maxRecDepth 100000
/-! Zs13: the walk: what is asked of rings. -/
namespace Zb
open PySem PySem.Spec PyProof.Rows L2 SlX
theorem room_65 {k : Nat} {A : Around} (h : Room k A) : A.units + 65 < cLine := room_u h
abbrev s_is_among : Stmt := top 58
theorem sc_is_among : FnScope ["parts", "value", "state"] ["parts", "value"] (defScope s_is_among) := ⟨rfl, rfl, rfl, by decide +kernel, rfl, by decide +kernel, by decide +kernel⟩
def sp_is_among : Sp := spF (α := List (List Nat) × List Nat) (fun x => [rPts x.1, rTup rNat x.2]) (fun x => x.2.length ≤ 1000 ∧ ∀ s ∈ x.2, s ≤ 1000000) (fun x => rBl (decide (x.2 ∈ x.1)))
abbrev s_Rings___contains__ : Stmt := inClass (top 56) 14
theorem sc_Rings___contains__ : FnScope ["self", "value"] ["self", "value"] (defScope s_Rings___contains__) := ⟨rfl, rfl, rfl, by decide +kernel, rfl, by decide +kernel, by decide +kernel⟩
def sp_Rings_in (c : Cs) : Sp := spF (α := Mach × List Nat) (fun x => [rRg c x.1, rTup rNat x.2]) (fun x => x.2.length ≤ 1000 ∧ ∀ s ∈ x.2, s ≤ 1000000) (fun x => rBl (decide (x.2 ∈ rings x.1)))
abbrev s_Rings___len__ : Stmt := inClass (top 56) 15
theorem sc_Rings___len__ : FnScope ["self"] ["self"] (defScope s_Rings___len__) := ⟨rfl, rfl, rfl, by decide +kernel, rfl, by decide +kernel, by decide +kernel⟩
def sp_Rings_len (c : Cs) : Sp := spF (α := Mach) (fun m => [rRg c m]) (fun m => (rings m).length ≤ 1000) (fun m => rNat (rings m).length)
abbrev s_Rings_rings : Stmt := inClass (top 56) 5
theorem sc_Rings_rings : FnScope ["self"] ["self"] (defScope s_Rings_rings) := ⟨rfl, rfl, rfl, by decide +kernel, rfl, by decide +kernel, by decide +kernel⟩
def sp_Rings_rings (c : Cs) : Sp := spF (α := Mach) (fun m => [rRg c m]) (fun _ => True) (fun m => rPts (rings m))
abbrev s_Rings_leads_to : Stmt := inClass (top 56) 7
theorem sc_Rings_leads_to : FnScope ["self", "one", "other"] ["self", "one", "other"] (defScope s_Rings_leads_to) := ⟨rfl, rfl, rfl, by decide +kernel, rfl, by decide +kernel, by decide +kernel⟩
def sp_leads_to (c : Cs) : Sp := spF (α := Mach × List Nat × List Nat) (fun x => [rRg c x.1, rTup rNat x.2.1, rTup rNat x.2.2]) (fun x => x.2.1 ≠ [] ∧ x.2.2 ≠ [] ∧ ∀ s ∈ x.2.1, s < x.1.length) (fun x => rBl (dec (Pth x.1 (x.2.1.getD 0 0) (x.2.2.getD 0 0))))
abbrev s_Rings___getitem__ : Stmt := inClass (top 56) 12
theorem sc_Rings___getitem__ : FnScope ["self", "index"] ["self", "index"] (defScope s_Rings___getitem__) := ⟨rfl, rfl, rfl, by decide +kernel, rfl, by decide +kernel, by decide +kernel⟩
def sp_Rings_at (c : Cs) : Sp := spF (α := Mach × Nat) (fun x => [rRg c x.1, rNat x.2]) (fun x => x.2 < (rings x.1).length ∧ (rings x.1).length ≤ 1000) (fun x => rTup rNat ((rings x.1).getD x.2 []))
abbrev s_require_state : Stmt := top 57
theorem sc_require_state : FnScope ["form", "value"] ["form", "value"] (defScope s_require_state) := ⟨rfl, rfl, rfl, by decide +kernel, rfl, by decide +kernel, by decide +kernel⟩
def sp_require_state (c : Cs) : Sp := spF (α := Mach × Nat) (fun x => [rForm c x.1, rNat x.2]) (fun x => x.2 < x.1.length ∧ x.1.length ≤ 1000) (fun _ => rNon)
section
variable {c : Cs} {K : PySem.W.Frag} {σ : L2.St} {M B : Hp} {ta tb : TE}
theorem ev_Rings {m : Mach} (h : Ev ta σ M B (rForm c m)) (wf : Wf m) : Ev (tMake c.CR (sp_Rings c) [] E0 (tCons ta tNil)) σ M B (rRg c m) :=
  ev_make (A := fun m : Mach => [rForm c m]) (R := fun m : Mach => rRg c m) m (ea_cons h ea_nil) wf
theorem ev_ringIn {m : Mach} {v : List Nat} {neg : Bool} (ha : Ev ta σ M B (rTup rNat v)) (hb : Ev tb σ M B (rRg c m)) (hl : v.length ≤ 1000) (hs : ∀ s ∈ v, s ≤ 1000000) : Ev (tOp (rInOwn [c.CR] (sp_Rings_in c) neg) ta tb) σ M B (rBl (if neg then !decide (v ∈ rings m) else decide (v ∈ rings m))) :=
  ev_op ha hb fun x y M1 B1 mm bb d hx hy Q q => by
    obtain ⟨a, e, hi⟩ := isI_rg d hy
    refine ⟨a, c.CR, e, List.mem_cons_self, hi, (m, v), B1, M1, rfl, d, ⟨hl, hs⟩, .cons hy (.cons hx .nil), fun z B2 b2 d2 hz => ⟨_, hz, q _ B2 b2 d2 rfl⟩⟩
theorem ev_lenRg {m : Mach} (h : Ev ta σ M B (rRg c m)) (hl : (rings m).length ≤ 1000) : Ev (tCB (rLenOwn [c.CR] (sp_Rings_len c)) (tCons ta tNil)) σ M B (rNat (rings m).length) := fun M1 B1 mm b d Q q => h M1 B1 mm b d _ fun v B2 b2 d2 hv => by
  obtain ⟨a, e, hi⟩ := isI_rg d2 hv
  refine ⟨a, c.CR, by rw [e], List.mem_cons_self, hi, m, B2, M1, rfl, d2, hl, .cons hv .nil, fun z B3 b3 d3 hz => ⟨(rings m).length, hz, by omega, q z B3 (b2.trans b3) d3 hz⟩⟩
theorem ev_rgRingsP {m : Mach} (h : Ev ta σ M B (rRg c m)) : Ev (tPropI [c.CR] (sp_Rings_rings c) ta) σ M B (rPts (rings m)) := fun M1 B1 mm b d Q q => h M1 B1 mm b d _ fun v B2 b2 d2 hv => by
  obtain ⟨a, e, hi⟩ := isI_rg d2 hv
  subst e
  exact ⟨a, c.CR, rfl, List.mem_cons_self, hi, m, B2, M1, rfl, d2, trivial, .cons hv .nil, fun z B3 b3 d3 hz => q z B3 (b2.trans b3) d3 hz⟩
theorem ev_rgAt {m : Mach} {i : Nat} (h : Ev ta σ M B (rRg c m)) (hb : Ev tb σ M B (rNat i)) (hi : i < (rings m).length) (hl : (rings m).length ≤ 1000) : Ev (tOp (rIxOwn c.CR (sp_Rings_at c)) ta tb) σ M B (rTup rNat ((rings m).getD i [])) :=
  ev_op h hb fun x y M1 B1 mm bb d hx hy Q q => by
    obtain ⟨a, e, hii⟩ := isI_rg d hx
    exact ⟨a, e, hii, (m, i), B1, M1, rfl, d, ⟨hi, hl⟩, .cons hx (.cons hy .nil), fun z B2 b2 d2 hz => q z B2 b2 d2 hz⟩
theorem ev_leads {m : Mach} {p q : List Nat} {tc : TE} (h : Ev ta σ M B (rRg c m)) (hb : Ev tb σ M B (rTup rNat p)) (hc : Ev tc σ M B (rTup rNat q)) (hp : p ≠ []) (hq : q ≠ []) (hlt : ∀ s ∈ p, s < m.length) : Ev (tMeth c.CR "leads_to" (sp_leads_to c) [] E0 ta (tCons tb (tCons tc tNil))) σ M B (rBl (dec (Pth m (p.getD 0 0) (q.getD 0 0)))) := fun M1 B1 mm b d Q k => h M1 B1 mm b d _ fun v B2 b2 d2 hv => by
  obtain ⟨a, dx, v1, v2, v3, v4, e, h0, _⟩ := id hv
  refine ⟨a, dx, _, e, jn_b d2 h0, by rfl, ea_cons hb (ea_cons hc ea_nil) M1 B2 mm (b.trans b2) d2 _ fun ws B3 b3 d3 hw => ⟨(m, p, q), B3, M1, rfl, d3, ⟨hp, hq, hlt⟩, by rw [List.append_nil]; exact .cons ((rRg c m).up b3 hv) hw, fun z B4 b4 d4 hz => k z B4 (b2.trans (b3.trans b4)) d4 hz⟩⟩
theorem all_truth {α : Type} : ∀ xs : List α, (xs.map fun _ => true).all id = true
  | [] => rfl
  | _ :: xs => all_truth xs
end
section
variable {P : Program} {w : World} {K : PySem.W.Frag} {mg : Str → Option Value} {base : Heap} {c : Cs}
theorem c_is_among (D : Def K mg "is_among" s_is_among) (T : Bt mg) (c_is_integer : Cal P w K mg base 1 "is_integer" sp_is_integer) : Cal P w K mg base 2 "is_among" sp_is_among :=
  cal_of D sc_is_among (fun _ _ _ _ _ _ us hl => match us, hl with | [_, _], _ => rfl) (spF_len fun _ => rfl) fun f cdv A outer s H vs Q E hr h => by
  obtain ⟨⟨ps, v⟩, B, M, rfl, d, ⟨hl, hs⟩, al, q⟩ := h
  have sc := sc_is_among
  have hu65 := room_65 hr
  refine ⟨_, (pss_cons (ps_if (PW.pt (pw_or (pt_not (pt_val (pe_callB (kc_isi K rfl) (by rfl) T.isinstance (by decide +kernel) (pa_cons (pv 1) (pa_cons (pe_bltn (v := .ty "tuple") (by rfl) T.tuple (by decide +kernel) rfl) pa_nil))))) (pw_or1 (pt_not (pt_val (pe_callB (kc_all K rfl rfl) (by rfl) T.all (by decide +kernel) (pa_cons (pe_lc (own := [("state", 2)]) rfl sc.nd (kpi_tup K rfl (pv 1)) (blkOk_by (by kernel_rfl)) (fun _ _ _ _ _ => (pg_name (i := 2) sc.nd rfl (.inl rfl))) (fun _ _ _ _ _ => pts_nil) (fun _ _ _ _ _ => (pe_cal c_is_integer hr (by decide) (by rfl) (pa_cons (pv 2) pa_nil)))) pa_nil))))))) (pss_one (ps_ret pe_bl)) pss_nil)
      (pss_one (ps_ret (pe_cmpR (op_inDT K rfl hu65) (pv 1) (pv 0) (by rfl))))), ?_⟩
  cases al with
  | cons h1 al => cases al with
  | cons h2 al =>
    cases al
    have hl : v.length ≤ 1000 := hl
    have hs : ∀ s ∈ v, s ≤ 1000000 := hs
    refine q_no (EvT.to (et_or (et_not (et_test (ev_isi (b := true) (ev_v (U := rTup rNat v) rfl h2) ty_tup (by decide +kernel)))) fun _ => et_not (et_test (ev_all (EvN.lst (R := rBl) (xs := v.map fun _ => true) ((en_lc1 (R := rNat) (S := fun _ : Nat => rBl true) (ei_tup (ev_v (U := rTup rNat v) rfl h2)) (by omega) (fun _ => rfl) fun t ht v6 M6 B6 _ b6 hv6 => ev_is_integer (ev_v (U := rNat t) rfl hv6) (hs t ht)).to fun vs B2 h2 => Al.map (R := rBl) (f := fun _ : Nat => true) h2))))) (by rw [all_truth]; rfl)) d fun B1 b1 d1 => ?_
    exact s_ret (U := rBl (decide (v ∈ ps))) (ev_inTT (ev_v (U := rTup rNat v) rfl ((rTup rNat v).up b1 h2)) (ev_v (U := rPts ps) rfl ((rPts ps).up b1 h1))) d1 fun v B2 b2 d2 hv => q v B2 (b1.trans b2) d2 hv
theorem c_Rings_in (D : MDf K c.CR "__contains__" "Rings.__contains__" s_Rings___contains__) (Kk : Kc K c) (c_is_among : Cal P w K mg base 2 "is_among" sp_is_among) : CalM P w K mg base 3 c.CR "__contains__" (sp_Rings_in c) :=
  calm_of D sc_Rings___contains__ (fun _ _ _ _ _ _ us hl => match us, hl with | [_, _], _ => rfl) (spF_len fun _ => rfl) fun f cdv A outer s H vs Q E hr h => by
  obtain ⟨⟨m, v⟩, B, M, rfl, d, ok, al, q⟩ := h
  have sc := sc_Rings___contains__
  refine ⟨_, (pss_one (ps_ret (pe_cal c_is_among hr (by decide) (by rfl) (pa_cons (kpe_fld K rfl (pv 0)) (pa_cons (pv 1) pa_nil))))), ?_⟩
  cases al with
  | cons h1 al => cases al with
  | cons h2 al =>
    cases al
    exact s_ret (U := rBl (decide (v ∈ rings m))) (ev_call (A := fun x : List (List Nat) × List Nat => [rPts x.1, rTup rNat x.2]) (R := fun x : List (List Nat) × List Nat => rBl (decide (x.2 ∈ x.1))) (rings m, v) (ea_cons (ev_rgRings Kk (ev_v (U := rRg c m) rfl h1)) (ea_cons (ev_v (U := rTup rNat v) rfl h2) ea_nil)) ok) d q
theorem c_Rings_len (D : MDf K c.CR "__len__" "Rings.__len__" s_Rings___len__) (Kk : Kc K c) (T : Bt mg) : CalM P w K mg base 1 c.CR "__len__" (sp_Rings_len c) :=
  calm_of D sc_Rings___len__ (fun _ _ _ _ _ _ us hl => match us, hl with | [_], _ => rfl) (spF_len fun _ => rfl) fun f cdv A outer s H vs Q E hr h => by
  obtain ⟨m, B, M, rfl, d, ok, al, q⟩ := h
  have sc := sc_Rings___len__
  refine ⟨_, (pss_one (ps_ret (pe_callB (kc_len K rfl) (by rfl) T.len (by decide +kernel) (pa_cons (kpe_fld K rfl (pv 0)) pa_nil)))), ?_⟩
  cases al with
  | cons h1 al =>
    cases al
    exact s_ret (U := rNat (rings m).length) (ev_lenT (ev_rgRings Kk (ev_v (U := rRg c m) rfl h1))) d q
theorem f_rings {f : Addr} {fd : FuncData} (F : FunD K "rings" "Rings.rings" (defArgs s_Rings_rings) (defBody s_Rings_rings) (defScope s_Rings_rings) [] [] f fd) (Kk : Kc K c) : FnR P w K mg base CX0 1 f (sp_Rings_rings c) := by
  have sc := sc_Rings_rings
  have F1 : FnOk P w K mg base CX0 1 f fd ["self"] (sp_Rings_rings c) := fnok_of F sc (spF_len fun _ => rfl) fun f cdv A outer s H vs Q E hr h => by
    obtain ⟨m, B, M, rfl, d, ok, al, q⟩ := h
    refine ⟨_, (pss_one (ps_ret (kpe_fld K rfl (pv 0)))), ?_⟩
    cases al with
    | cons h1 al =>
      cases al
      exact s_ret (U := rPts (rings m)) (ev_rgRings Kk (ev_v (U := rRg c m) rfl h1)) d q
  have := F1.raw (F.bindsN fun _ _ _ _ _ _ us hl => match us, hl with | [_], _ => rfl) .nil
  simpa using this
theorem c_leads_to (D : MDf K c.CR "leads_to" "Rings.leads_to" s_Rings_leads_to) (Kk : Kc K c) : CalM P w K mg base 1 c.CR "leads_to" (sp_leads_to c) :=
  calm_of D sc_Rings_leads_to (fun _ _ _ _ _ _ us hl => match us, hl with | [_, _, _], _ => rfl) (spF_len fun _ => rfl) fun f cdv A outer s H vs Q E hr h => by
  obtain ⟨⟨m, p, r⟩, B, M, rfl, d, ⟨hp, hq, hlt⟩, al, q⟩ := h
  have sc := sc_Rings_leads_to
  have hu := room_1 hr
  refine ⟨_, (pss_one (ps_ret (pe_cmp (pc_din hu (pe_ix (kix_tup K rfl) (pv 2) pe_int (fun _ _ => rfl)) (pe_ix (kix_list K rfl) (kpe_fld K rfl (pv 0)) (pe_ix (kix_tup K rfl) (pv 1) pe_int (fun _ _ => rfl)) (fun _ _ => rfl))) rfl))), ?_⟩
  cases al with
  | cons h1 al => cases al with
  | cons h2 al => cases al with
  | cons h3 al =>
    cases al
    have hp : p ≠ [] := hp
    have hq : r ≠ [] := hq
    have hlt : p.getD 0 0 < m.length := hlt _ (List.mem_of_getElem? (first_at hp))
    exact s_ret (U := rBl (dec (Pth m (p.getD 0 0) (r.getD 0 0)))) (ev_domIn (S := Pth m (p.getD 0 0)) (ev_ixT (R := rNat) (i := 0) (x := r.getD 0 0) (ev_v (U := rTup rNat r) rfl h3) ev_c (first_at hq)) (ev_ixL (R := fun s : Nat => rDom (Pth m s)) (ev_rgReach Kk (ev_v (U := rRg c m) rfl h1)) (ev_ixT (R := rNat) (i := 0) (x := p.getD 0 0) (ev_v (U := rTup rNat p) rfl h2) ev_c (first_at hp)) (List.getElem?_range hlt)) dec_iff) d q
theorem c_Rings_at (D : MDf K c.CR "__getitem__" "Rings.__getitem__" s_Rings___getitem__) (Kk : Kc K c) (T : Bt mg) (c_is_integer : Cal P w K mg base 1 "is_integer" sp_is_integer) : CalM P w K mg base 2 c.CR "__getitem__" (sp_Rings_at c) :=
  calm_of D sc_Rings___getitem__ (fun _ _ _ _ _ _ us hl => match us, hl with | [_, _], _ => rfl) (spF_len fun _ => rfl) fun f cdv A outer s H vs Q E hr h => by
  obtain ⟨⟨m, i⟩, B, M, rfl, d, ⟨hi, hl⟩, al, q⟩ := h
  have sc := sc_Rings___getitem__
  refine ⟨_, (pss_cons (ps_if (PW.pt (pw_or (pt_not (pt_val (pe_cal c_is_integer hr (by decide) (by rfl) (pa_cons (pv 1) pa_nil)))) (pw_or1 (pt_not (pt_chain op_le op_lt pe_int (pv 1) (pe_callB (kc_len K rfl) (by rfl) T.len (by decide +kernel) (pa_cons (kpe_fld K rfl (pv 0)) pa_nil))))))) (pss_one ps_never) pss_nil)
      (pss_one (ps_ret (pe_ix (kix_tup K rfl) (kpe_fld K rfl (pv 0)) (pv 1) (fun _ _ => rfl))))), ?_⟩
  cases al with
  | cons h1 al => cases al with
  | cons h2 al =>
    cases al
    have hi : i < (rings m).length := hi
    have hl : (rings m).length ≤ 1000 := hl
    refine q_no (EvT.to (et_or (et_not (et_test (ev_is_integer (ev_v (U := rNat i) rfl h2) (by omega)))) fun _ => et_not (et_test (ev_chI (g := fun i j => decide (i ≤ j)) (g' := fun i j => decide (i < j)) (ev_c (x := .int 0)) (ev_v (U := rNat i) rfl h2) (ev_lenT (ev_rgRings Kk (ev_v (U := rRg c m) rfl h1)))))) ?_) d fun B1 b1 d1 => ?_
    · rw [decide_eq_true (by omega : (0 : Int) ≤ ((i : Nat) : Int)), decide_eq_true (by omega : ((i : Nat) : Int) < (((rings m).length : Nat) : Int))]
      rfl
    · refine s_ret (U := rTup rNat ((rings m).getD i [])) (ev_ixT (R := rTup rNat) (i := i) (x := (rings m).getD i []) (ev_rgRings Kk (ev_v (U := rRg c m) rfl ((rRg c m).up b1 h1))) (ev_v (U := rNat i) rfl h2) ?_) d1 fun v B2 b2 d2 hv => q v B2 (b1.trans b2) d2 hv
      rw [List.getD_eq_getElem?_getD, List.getElem?_eq_getElem hi]
      rfl
theorem c_require_state (D : Def K mg "require_state" s_require_state) (T : Bt mg) (oL : ∀ C ∈ [c.CF, c.CM], Own P w K mg base 1 C "__len__" (sp_Form_len c)) (c_is_integer : Cal P w K mg base 1 "is_integer" sp_is_integer) : Cal P w K mg base 3 "require_state" (sp_require_state c) :=
  cal_of D sc_require_state (fun _ _ _ _ _ _ us hl => match us, hl with | [_, _], _ => rfl) (spF_len fun _ => rfl) fun f cdv A outer s H vs Q E hr h => by
  obtain ⟨⟨m, i⟩, B, M, rfl, d, ⟨hi, hl⟩, al, q⟩ := h
  have sc := sc_require_state
  refine ⟨_, (pss_one (ps_if (PW.pt (pw_or (pt_not (pt_val (pe_cal c_is_integer hr (by decide) (by rfl) (pa_cons (pv 1) pa_nil)))) (pw_or1 (pt_not (pt_chain op_le op_lt pe_int (pv 1) (pe_callB (cr_lenOwn oL (hr.mono (by decide))) (by rfl) T.len (by decide +kernel) (pa_cons (pv 0) pa_nil))))))) (pss_one ps_never) pss_nil)), ?_⟩
  cases al with
  | cons h1 al => cases al with
  | cons h2 al =>
    cases al
    have hi : i < m.length := hi
    have hl : m.length ≤ 1000 := hl
    refine s_no (EvT.to (et_or (et_not (et_test (ev_is_integer (ev_v (U := rNat i) rfl h2) (by omega)))) fun _ => et_not (et_test (ev_chI (g := fun i j => decide (i ≤ j)) (g' := fun i j => decide (i < j)) (ev_c (x := .int 0)) (ev_v (U := rNat i) rfl h2) (ev_lenForm (ev_v (U := rForm c m) rfl h1) hl)))) ?_) d fun B1 b1 d1 => ?_
    · rw [decide_eq_true (by omega : (0 : Int) ≤ ((i : Nat) : Int)), decide_eq_true (by omega : ((i : Nat) : Int) < ((m.length : Nat) : Int))]
      rfl
    · exact q .non B1 b1 d1 rfl
end
end Zb
end
section
set_option Elab.async false
set_option linter.all false
set_option maxRecDepth 100000
/-! Zs14: the walk: reads, require_rings. -/
namespace Zb
open PySem PySem.Spec PyProof.Rows L2 SlX
theorem readOn_sub {m : Mach} {ring states : List Nat} {k : Nat} : (∀ t ∈ readOn m ring states k, t ∈ ring) ∧ (readOn m ring states k).length ≤ ring.length := ⟨fun t h => (List.mem_filter.mp h).1, List.length_filter_le _ _⟩
theorem readW_sub {m : Mach} {ring : List Nat} : ∀ {w states : List Nat}, (∀ t ∈ states, t ∈ ring) → states.length ≤ ring.length → (∀ t ∈ readW m ring states w, t ∈ ring) ∧ (readW m ring states w).length ≤ ring.length
  | [], _, h, l => ⟨h, l⟩
  | k :: w, _, _, _ => readW_sub (w := w) readOn_sub.1 readOn_sub.2
theorem readW_snoc {m : Mach} {ring states w : List Nat} {k : Nat} : readW m ring states (w ++ [k]) = readOn m ring (readW m ring states w) k := by
  rw [readW_append]
  rfl
abbrev s_Rings_reads : Stmt := inClass (top 56) 10
theorem sc_Rings_reads : FnScope ["self", "ring", "word", "states", "sign"] ["self", "ring", "word"] (defScope s_Rings_reads) := ⟨rfl, rfl, rfl, by decide +kernel, rfl, by decide +kernel, by decide +kernel⟩
def sp_reads (c : Cs) : Sp := spF (α := Mach × List Nat × List Nat) (fun x => [rRg c x.1, rTup rNat x.2.1, rTx x.2.2]) (fun x => Wf x.1 ∧ x.2.1 ∈ rings x.1 ∧ x.2.2.length ≤ 100000 ∧ ∀ k ∈ x.2.2, k ∈ Alph) (fun x => rBl (!decide (readW x.1 x.2.1 x.2.1 x.2.2 = [])))
abbrev s_require_rings : Stmt := top 60
theorem sc_require_rings : FnScope ["target", "over", "source", "under"] ["target", "over", "source", "under"] (defScope s_require_rings) := ⟨rfl, rfl, rfl, by decide +kernel, rfl, by decide +kernel, by decide +kernel⟩
def sp_require_rings (c : Cs) : Sp := spF (α := Mach × List Nat × Mach × List Nat) (fun x => [rForm c x.1, rTup rNat x.2.1, rForm c x.2.2.1, rTup rNat x.2.2.2]) (fun x => Wf x.1 ∧ x.1.length ≤ 6 ∧ x.2.1 ∈ rings x.1 ∧ Wf x.2.2.1 ∧ x.2.2.1.length ≤ 6 ∧ x.2.2.2 ∈ rings x.2.2.1) (fun _ => rNon)
theorem ring_ok {m : Mach} {p : List Nat} (wf : Wf m) (h : p ∈ rings m) : p.length ≤ 40 ∧ ∀ s ∈ p, s < m.length := by
  have h1 := (mem_rings.mp h).1
  have := part_len h1
  have := wf.le
  exact ⟨by omega, fun s hs => part_lt h1 hs⟩
section
variable {c : Cs} {K : PySem.W.Frag} {σ : L2.St} {M B : Hp} {ta tb tc td : TE}
theorem ev_neT0 {xs : List Nat} (ha : Ev ta σ M B (rTup rNat xs)) : Ev (tOp (rNeD K) ta (tTup tNil)) σ M B (rBl (!decide (xs = []))) :=
  ev_neTn ha (ev_tup ea_nil (by show 0 ≤ 1000; decide) fun a vs B1 e h => by cases h; exact ⟨a, [], rfl, e, .nil⟩)
theorem ev_eqT0 {xs : List Nat} (ha : Ev ta σ M B (rTup rNat xs)) : Ev (tOp (rEqD K) ta (tTup tNil)) σ M B (rBl (decide (xs = []))) :=
  ev_eqTn ha (ev_tup ea_nil (by show 0 ≤ 1000; decide) fun a vs B1 e h => by cases h; exact ⟨a, [], rfl, e, .nil⟩)
theorem ev_read_on {m : Mach} {ring states : List Nat} {k : Nat} (h1 : Ev ta σ M B (rForm c m)) (h2 : Ev tb σ M B (rTup rNat ring)) (h3 : Ev tc σ M B (rTup rNat states)) (h4 : Ev td σ M B (rTx [k])) (wf : Wf m) (l1 : ring.length ≤ 1000) (l2 : states.length ≤ 1000) (lt : ∀ s ∈ states, s < m.length) :
    Ev (tCall (sp_read_on c) [] E0 (tCons ta (tCons tb (tCons tc (tCons td tNil))))) σ M B (rTup rNat (readOn m ring states k)) :=
  ev_call (A := fun x : Mach × List Nat × List Nat × Nat => [rForm c x.1, rTup rNat x.2.1, rTup rNat x.2.2.1, rTx [x.2.2.2]]) (R := fun x : Mach × List Nat × List Nat × Nat => rTup rNat (readOn x.1 x.2.1 x.2.2.1 x.2.2.2)) (m, ring, states, k) (ea_cons h1 (ea_cons h2 (ea_cons h3 (ea_cons h4 ea_nil)))) ⟨wf, l1, l2, lt⟩
end
section
variable {P : Program} {w : World} {K : PySem.W.Frag} {mg : Str → Option Value} {base : Heap} {c : Cs}
theorem c_reads (D : MDf K c.CR "reads" "Rings.reads" s_Rings_reads) (Kk : Kc K c) (T : Bt mg) (oC : ∀ C ∈ [c.CR], Own P w K mg base 3 C "__contains__" (sp_Rings_in c)) (c_is_word : Cal P w K mg base 1 "is_word" sp_is_word) (c_read_on : Cal P w K mg base 1 "read_on" (sp_read_on c)) : CalM P w K mg base 4 c.CR "reads" (sp_reads c) :=
  calm_of D sc_Rings_reads (fun _ _ _ _ _ _ us hl => match us, hl with | [_, _, _], _ => rfl) (spF_len fun _ => rfl) fun f cdv A outer s H vs Q E hr h => by
  obtain ⟨⟨m, ring, wd⟩, B, M, rfl, d, ⟨wf, hrg, hl, hsg⟩, al, q⟩ := h
  have sc := sc_Rings_reads
  have hu64 := Nat.lt_of_succ_lt (room_u hr)
  refine ⟨_, (pss_cons (ps_if (pt_cmpR (op_notInOwn (cs := [c.CR]) oC (hr.mono (by decide))) (pv 1) (pv 0) (by rfl)) (pss_one ps_never) pss_nil)
      (pss_cons (ps_if (pt_not (pt_val (pe_cal c_is_word hr (by decide) (by rfl) (pa_cons (pv 2) pa_nil)))) (pss_one ps_never) pss_nil)
      (pss_cons (ps_set (i := 3) sc.nd rfl (.inl rfl) (pv 1))
      (pss_cons (ps_for PassesOwn.never rfl (pi_str (pv 2)) (pg_name (i := 4) sc.nd rfl (.inl rfl)) (pss_one (ps_set (i := 3) sc.nd rfl (.inl rfl) (pe_cal c_read_on hr (by decide) (by rfl) (pa_cons (kpe_fld K rfl (pv 0)) (pa_cons (pv 1) (pa_cons (pv 3) (pa_cons (pv 4) pa_nil))))))))
      (pss_one (ps_ret (pe_cmpR (op_neD hu64) (pv 3) (pe_tup pa_nil) (nomark _)))))))), ?_⟩
  cases al with
  | cons h1 al => cases al with
  | cons h2 al => cases al with
  | cons h3 al =>
    cases al
    have wf : Wf m := wf
    have hrg : ring ∈ rings m := hrg
    have hl : wd.length ≤ 100000 := hl
    have hsg : ∀ k ∈ wd, k ∈ Alph := hsg
    have hle := wf.le
    obtain ⟨lr, ltr⟩ := ring_ok wf hrg
    refine q_no (EvT.to (et_test (ev_ringIn (m := m) (ev_v (U := rTup rNat ring) rfl h2) (ev_v (U := rRg c m) rfl h1) (by omega) fun s hs => by have := ltr s hs; omega)) (by rw [decide_eq_true hrg]; rfl)) d fun B1 b1 d1 => ?_
    refine q_no (EvT.to (et_not (et_test (ev_is_word (ev_v (U := rTx wd) rfl h3) hl hsg))) rfl) d1 fun B2 b2 d2 => ?_
    refine q_asg (ev_v (U := rTup rNat ring) rfl ((rTup rNat ring).up (b1.trans b2) h2)) d2 fun sv B3 b3 d3 hsv => ?_
    have sub : ∀ i, (∀ t ∈ readW m ring ring (wd.take i), t ∈ ring) ∧ (readW m ring ring (wd.take i)).length ≤ ring.length := fun i => readW_sub (fun t h => h) (Nat.le_refl _)
    refine q_for (R := fun k : Nat => rTx [k]) (xs := wd) (ei_str (ev_v (U := rTx wd) rfl h3)) d3 (fun i σ9 M9 B9 => M9 = M ∧ ∃ sv o4, σ9 = [some _, some _, some _, some sv, o4] ∧ (rTup rNat (readW m ring ring (wd.take i))).p sv B9)
      (fun i σ9 M9 B8 B9 s89 ⟨e0, sv, o4, e1, e2⟩ => ⟨e0, sv, o4, e1, (rTup rNat _).up s89 e2⟩) (fun B9 b9 d9 => ⟨rfl, sv, _, rfl, (rTup rNat ring).up b9 hsv⟩) (fun B0 i k v σ9 M9 B9 exi b0 b9 d9 hp hv => ?_) fun σ9 M9 B9 hp b9 d9 => ?_
    · obtain ⟨rfl, sv9, o4, rfl, hs9⟩ := hp
      have s9 : Same B B9 := b1.trans (b2.trans (b3.trans (b0.trans b9)))
      refine s_asg (ev_read_on (ev_rgForm Kk (ev_v (U := rRg c m) rfl ((rRg c m).up s9 h1))) (ev_v (U := rTup rNat ring) rfl ((rTup rNat ring).up s9 h2)) (ev_v (U := rTup rNat (readW m ring ring (wd.take i))) rfl hs9) (ev_v (U := rTx [k]) rfl hv) wf (by omega) (by have := (sub i).2; omega) fun s hs => ltr s ((sub i).1 s hs)) d9 fun v10 B10 b10 d10 hv10 => ?_
      refine ⟨_, B10, rfl, d10, b9.trans b10, rfl, v10, _, rfl, ?_⟩
      rw [take_snoc exi, readW_snoc]
      exact hv10
    · obtain ⟨rfl, sv9, o4, rfl, hs9⟩ := hp
      rw [List.take_length] at hs9
      exact s_ret (U := rBl (!decide (readW m ring ring wd = []))) (ev_neT0 (ev_v (U := rTup rNat (readW m ring ring wd)) rfl hs9)) d9 fun v B10 b10 d10 hv10 => q v B10 (b1.trans (b2.trans (b3.trans (b9.trans b10)))) d10 hv10
theorem c_require_rings (D : Def K mg "require_rings" s_require_rings) (oC : ∀ C ∈ [c.CR], Own P w K mg base 3 C "__contains__" (sp_Rings_in c)) (c_require_form : Cal P w K mg base 1 "require_form" (sp_require_form c)) (c_require_six : Cal P w K mg base 3 "require_six" (sp_require_six c)) (c_Rings : CalC P w K mg base 3 "Rings" c.CR (sp_Rings c)) : Cal P w K mg base 5 "require_rings" (sp_require_rings c) :=
  cal_of D sc_require_rings (fun _ _ _ _ _ _ us hl => match us, hl with | [_, _, _, _], _ => rfl) (spF_len fun _ => rfl) fun f cdv A outer s H vs Q E hr h => by
  obtain ⟨⟨m, over, m', under⟩, B, M, rfl, d, ⟨wf, h6, ho, wf', h6', hu'⟩, al, q⟩ := h
  have sc := sc_require_rings
  refine ⟨_, (pss_cons (ps_expr (pe_cal c_require_form hr (by decide) (by rfl) (pa_cons (pv 0) pa_nil)))
      (pss_cons (ps_if (pt_cmpR (op_notInOwn (cs := [c.CR]) oC (hr.mono (by decide))) (pv 1) (pe_mk c_Rings hr (by decide) (by rfl) (pa_cons (pv 0) pa_nil)) (by rfl)) (pss_one ps_never) pss_nil)
      (pss_cons (ps_expr (pe_cal c_require_form hr (by decide) (by rfl) (pa_cons (pv 2) pa_nil)))
      (pss_cons (ps_if (pt_cmpR (op_notInOwn (cs := [c.CR]) oC (hr.mono (by decide))) (pv 3) (pe_mk c_Rings hr (by decide) (by rfl) (pa_cons (pv 2) pa_nil)) (by rfl)) (pss_one ps_never) pss_nil)
      (pss_one (ps_expr (pe_cal c_require_six hr (by decide) (by rfl) (pa_cons (pv 2) (pa_cons (pv 0) pa_nil))))))))), ?_⟩
  cases al with
  | cons h1 al => cases al with
  | cons h2 al => cases al with
  | cons h3 al => cases al with
  | cons h4 al =>
    cases al
    have wf : Wf m := wf
    have ho : over ∈ rings m := ho
    have wf' : Wf m' := wf'
    have hu' : under ∈ rings m' := hu'
    obtain ⟨lr, ltr⟩ := ring_ok wf ho
    obtain ⟨lr', ltr'⟩ := ring_ok wf' hu'
    have hle := wf.le
    have hle' := wf'.le
    refine q_drop (ev_require_form (ev_v (U := rForm c m) rfl h1)) d fun B1 b1 d1 => ?_
    refine q_no (EvT.to (et_test (ev_ringIn (m := m) (neg := true) (ev_v (U := rTup rNat over) rfl ((rTup rNat over).up b1 h2)) (ev_Rings (ev_v (U := rForm c m) rfl ((rForm c m).up b1 h1)) wf) (by omega) fun s hs => by have := ltr s hs; omega)) (by rw [decide_eq_true ho]; rfl)) d1 fun B2 b2 d2 => ?_
    refine q_drop (ev_require_form (ev_v (U := rForm c m') rfl ((rForm c m').up (b1.trans b2) h3))) d2 fun B3 b3 d3 => ?_
    refine q_no (EvT.to (et_test (ev_ringIn (m := m') (neg := true) (ev_v (U := rTup rNat under) rfl ((rTup rNat under).up (b1.trans (b2.trans b3)) h4)) (ev_Rings (ev_v (U := rForm c m') rfl ((rForm c m').up (b1.trans (b2.trans b3)) h3)) wf') (by omega) fun s hs => by have := ltr' s hs; omega)) (by rw [decide_eq_true hu']; rfl)) d3 fun B4 b4 d4 => ?_
    refine s_drop (ev_require_six (ev_v (U := rForm c m') rfl ((rForm c m').up (b1.trans (b2.trans (b3.trans b4))) h3)) (ev_v (U := rForm c m) rfl ((rForm c m).up (b1.trans (b2.trans (b3.trans b4))) h1)) h6' h6) d4 fun B5 b5 d5 => ?_
    exact q .non B5 (b1.trans (b2.trans (b3.trans (b4.trans b5)))) d5 rfl
end
end Zb
end
section
set_option Elab.async false
set_option linter.all false
set_option maxRecDepth 100000
/-! Zt5: sorted(a tuple of texts). -/
namespace Zb
open PySem PySem.Spec PyProof.Rows L2
section
variable {prog : Program} {w : World} {A : Around} {E : Value → Shared → Prop} {s : Shared}
theorem collect_tup {l : Addr} {vs : List Value} {Q : List Value → Shared → Prop} (hl : s.heap.IsTuple l vs.toArray) (h : Q vs { s with heap := (s.heap.push (seqObj "list" #[] 0)).update s.heap.objs.size (Obj.mapSeq (· ++ vs.toArray)) }) (hsz : vs.length ≤ sizeLine) :
    wpAny (model prog w) A (collect (.ref l)) Q E s := by
  obtain ⟨o, ho, hc, n, hd⟩ := id hl
  have up : (s.heap.push (seqObj "list" #[] 0)).get? l = some o := Heap.get?_push_of_some _ ho
  have new : (s.heap.push (seqObj "list" #[] 0)).get? s.heap.objs.size = some (seqObj "list" #[] 0) := Heap.get?_push_size _ rfl
  unfold collect
  refine wpAny_bind (wpAny_runValue (codeAny_builtin entry_proto_collect' ?_))
  refine wpAny_bind (wpAny_newList (wpAny_pure ⟨Code.quiet_builtin _ (by decide +kernel), codeAny_builtin entry_list_iadd' ?_⟩))
  show wpAny _ _ (Builtin.List.listExtendWith (.ref s.heap.objs.size) (.ref l) (.ref s.heap.objs.size)) _ _ { s with heap := s.heap.push (seqObj "list" #[] 0) }
  unfold Builtin.List.listExtendWith
  refine wpAny_bind (wpAny_typeOf (T := "tuple") ⟨o, up, hc⟩ ?_)
  rw [show (Value.type "tuple" == Value.type "tuple") = true from by rfl, Bool.or_true, if_pos rfl]
  refine wpAny_bind (listItems_at up hd (wpAny_bind (listItems_at (xs := #[]) (n := 0) new rfl ?_)))
  rw [if_neg (by simp)]
  refine wpAny_bind (listUpdate_at (xs := #[]) (n := 0) new rfl (wpAny_pure ?_) (Nat.zero_le _) (by show (#[] ++ vs.toArray).size ≤ sizeLine + 1; simp only [Array.size_append, List.size_toArray, List.length_nil]; omega))
  refine wpAny_bind (wpAny_load (get?_update_seq new _) ?_)
  refine wpAny_pure ?_
  rw [show ((#[] : Array Value) ++ vs.toArray).toList = vs by simp]
  exact h
theorem sorted_tup {l : Addr} {vs : List Value} {ss : List Str} {Q : Value → Shared → Prop} (hl : s.heap.IsTuple l vs.toArray) (hS : StrsAre vs ss) (h64 : vs.length < 64)
    (k : ∀ (out : Array Value) (ys : List Str), StrsAre out.toList ys → ys.Perm ss → sortedS ys = true → Q (.ref (s.heap.objs.size + 1)) { s with heap := sortedAll s.heap vs out }) : wpAny (model prog w) A (call (.builtin "sorted") [.ref l]) Q E s := by
  have hz : vs.length ≤ sizeLine := Nat.le_trans (Nat.le_of_lt h64) (by decide)
  refine Calls.call_function_entry kind_sorted plain_sorted entry_sorted (args_sorted1 _) ?_
  unfold Builtin.«sorted»
  refine wpAny_bind (m := checkCount "sorted" 1 1 _) (wpAny_pure (wpAny_bind (collect_tup hl (wpAny_bind (wpAny_newList ?_ (by rw [sizeLine_eq]; omega))) hz)))
  have n1 : ((s.heap.push (seqObj "list" #[] 0)).update s.heap.objs.size (Obj.mapSeq (· ++ vs.toArray))).objs.size = s.heap.objs.size + 1 := by rw [Heap.size_update, size_push']
  have n2 : (((s.heap.push (seqObj "list" #[] 0)).update s.heap.objs.size (Obj.mapSeq (· ++ vs.toArray))).push (seqObj "list" vs.toArray 0)).get? (s.heap.objs.size + 1) = some (seqObj "list" vs.toArray 0) := n1 ▸ Heap.get?_push_size _ rfl
  show wpAny _ _ _ _ _ { s with heap := ((s.heap.push (seqObj "list" #[] 0)).update s.heap.objs.size (Obj.mapSeq (· ++ vs.toArray))).push (seqObj "list" vs.toArray 0) }
  rw [n1]
  refine wpAny_bind (wpAny_holding (wpAny_call_entry PyProof.Rows.slot_list_sort ⟨_, n2, rfl⟩ PyProof.Rows.entry_list_sort
    (list_sort_treeK strKind_oneLt n2 hS.keysOf (fun v₁ v₂ rest e => keyKind_strs (by rw [← e]; exact hS)) h64 fun st' hp hs => ?_) (PyProof.Rows.args_list_sort _)))
  obtain ⟨ys, y1, y2, y3⟩ := sorted_out_str hS hp hs
  exact ⟨_, rfl, wpAny_pure ⟨_, rfl, k _ ys y1 y2 y3⟩⟩
end
def rSortTT (K : PySem.W.Frag) : List V → Hp → VK → Prop := fun vs H Q => ∃ (a : Addr) (xs : List Str), vs = [V.ref a] ∧ SqT K H a (xs.map V.str) ∧ xs.length < 64 ∧ ∀ (ys : List Str) (p : Addr), ys.Perm xs → sortedS ys = true → H p = none → Q (.ref p) (upd H p (.lst (ys.map V.str)))
theorem cr_sortTT {X : Cx} (K : PySem.W.Frag) (hK : X.K = K) : CallR X (.builtin "sorted") (rSortTT K) := by
  subst hK
  intro pins s σ H vs us Q I r h
  obtain ⟨a, xs, rfl, hs, h64, q⟩ := h
  obtain ⟨its, rv, hl, _⟩ := I.tuple hs
  rw [Vals.ref1 r]
  have e0 : xs.length = its.length := by rw [← rv.length, List.length_map]
  refine sorted_tup hl rv.strs (by rw [← e0]; exact h64) fun out ys h1 h2 h3 => ?_
  obtain ⟨ep, he⟩ := PyProof.Rows.sortedAll_at s.heap its out
  have hz : (ys.map V.str).length ≤ sizeLine := by rw [List.length_map, h2.length_eq]; exact small64 h64
  exact ⟨.ref _, upd H (s.heap.objs.size + 1) (.lst (ys.map V.str)), I.laid (t' := s.toks) (fun _ _ => PyProof.Rows.sortedAll_old) (Nat.le_succ _) ⟨hz, out.toList, ep, vals_of_strs h1, he⟩, rfl, q ys _ h2 h3 (I.hok.fresh (Nat.le_succ _))⟩
/-- sorted(signs), a tuple of signs in order -/
theorem en_sortTT {K : PySem.W.Frag} {σ : L2.St} {M B : Hp} {ta : TE} {cs : List Nat} (ha : Ev ta σ M B (rTup (fun c => rTx [c]) cs)) (hc : cs.Pairwise (· < ·)) (h64 : cs.length < 64) : EvN (tCB (rSortTT K) (tCons ta tNil)) σ M B (Al (fun c => rTx [c]) cs) := fun M1 B1 m b d Q q => ha M1 B1 m b d _ fun v B2 b2 d2 ⟨a, vs, e, h, al⟩ =>
  ⟨a, cs.map fun c => tx [c], by rw [e], by
    rw [List.map_map]
    have ev : vs = cs.map fun c => V.str (tx [c]) := al.isV (f := fun c => V.str (tx [c]))
    rw [ev] at h
    exact SqT.of (jn_b d2 h), by rw [List.length_map]; exact h64, fun ys p hp hs hn => by
    obtain ⟨hm, hb⟩ := jn_none hn
    rw [jn_updM]
    refine q p _ B2 b2 d2 hm hb ?_
    rw [sorted_signs hc hp hs, List.map_map]
    exact Al.ofV (f := fun c => V.str (tx [c])) cs⟩
end Zb
end
section
set_option Elab.async false
set_option linter.all false
/-! Zm4: pieces that lack, the least one, the search for it by levels. -/
namespace Zb
/-- words of one length, in the order of a dictionary -/
def Lx : List Nat → List Nat → Prop
  | a :: u, b :: w => (a < b ∧ u.length = w.length) ∨ (a = b ∧ Lx u w)
  | _, _ => False
theorem Lx.len : ∀ {u w : List Nat}, Lx u w → u.length = w.length
  | [], _, h => h.elim
  | _ :: _, [], h => h.elim
  | a :: u, b :: w, h => by
    rcases h with h | h
    · rw [List.length_cons, List.length_cons, h.2]
    · rw [List.length_cons, List.length_cons, h.2.len]
theorem Lx.trans : ∀ {u w x : List Nat}, Lx u w → Lx w x → Lx u x
  | [], _, _, h, _ => h.elim
  | _ :: _, [], _, h, _ => h.elim
  | _ :: _, _ :: _, [], _, h => h.elim
  | a :: u, b :: w, d :: x, h, k => by
    rcases h with ⟨h1, h2⟩ | ⟨h1, h2⟩ <;> rcases k with ⟨k1, k2⟩ | ⟨k1, k2⟩
    · exact .inl ⟨Nat.lt_trans h1 k1, h2.trans k2⟩
    · exact .inl ⟨k1 ▸ h1, h2.trans k2.len⟩
    · exact .inl ⟨h1 ▸ k1, h2.len.trans k2⟩
    · exact .inr ⟨h1.trans k1, h2.trans k2⟩
theorem Lx.app {r s : List Nat} (e : r.length = s.length) : ∀ {u w : List Nat}, Lx u w → Lx (u ++ r) (w ++ s)
  | [], _, h => h.elim
  | _ :: _, [], h => h.elim
  | a :: u, b :: w, h => by
    rcases h with ⟨h1, h2⟩ | ⟨h1, h2⟩
    · exact .inl ⟨h1, by show (u ++ r).length = (w ++ s).length; rw [List.length_append, List.length_append, h2, e]⟩
    · exact .inr ⟨h1, h2.app e⟩
theorem Lx.last {c d : Nat} (h : c < d) : ∀ u : List Nat, Lx (u ++ [c]) (u ++ [d])
  | [] => .inl ⟨h, rfl⟩
  | a :: u => .inr ⟨rfl, Lx.last h u⟩
/-- shorter, or as long and no later -/
def Sle (u w : List Nat) : Prop := u.length < w.length ∨ u = w ∨ Lx u w
theorem Sle.refl (u : List Nat) : Sle u u := .inr (.inl rfl)
theorem Sle.le {u w : List Nat} (h : Sle u w) : u.length ≤ w.length := by
  rcases h with h | h | h
  · exact Nat.le_of_lt h
  · rw [h]; exact Nat.le_refl _
  · exact Nat.le_of_eq h.len
theorem Sle.trans {u w x : List Nat} (h : Sle u w) (k : Sle w x) : Sle u x := by
  rcases h with h | h | h
  · exact .inl (Nat.lt_of_lt_of_le h k.le)
  · rw [h]; exact k
  · rcases k with k | k | k
    · exact .inl (by rw [h.len]; exact k)
    · rw [← k]; exact .inr (.inr h)
    · exact .inr (.inr (h.trans k))
theorem Sle.snoc {u w : List Nat} {d : Nat} (h : Sle u w) : Sle (u ++ [d]) (w ++ [d]) := by
  rcases h with h | h | h
  · exact .inl (by rw [List.length_append, List.length_append]; simp only [List.length_singleton]; omega)
  · rw [h]; exact .refl _
  · exact .inr (.inr (h.app rfl))
section
variable (inn out : List Nat → List Nat)
/-- a search by words: what one word comes to depends on what its beginning came to -/
structure Red : Prop where
  step : ∀ u w d, inn u = inn w → out u = out w → inn (u ++ [d]) = inn (w ++ [d]) ∧ out (u ++ [d]) = out (w ++ [d])
  pre : ∀ u d, inn (u ++ [d]) ≠ [] → inn u ≠ []
def Lck (w : List Nat) : Prop := inn w ≠ [] ∧ out w = []
/-- the level k: what is done, what waits -/
structure Lvl (k : Nat) (done W : List (List Nat)) : Prop where
  no : ∀ v, v.length ≤ k → ¬ Lck inn out v
  rep : ∀ v, v.length ≤ k → inn v ≠ [] → ∃ v' ∈ done, inn v' = inn v ∧ out v' = out v ∧ Sle v' v
  lens : ∀ v ∈ done, v.length ≤ k
  wait : ∀ v ∈ done, v.length = k → v ∈ W
  wl : ∀ v ∈ W, v.length = k
  asc : W.Pairwise Lx
/-- what is behind once the words of Z have been looked at -/
structure Beh (done L Z : List (List Nat)) : Prop where
  no : ∀ z ∈ Z, ¬ Lck inn out z
  rep : ∀ z ∈ Z, inn z ≠ [] → ∃ v' ∈ done ++ L, inn v' = inn z ∧ out v' = out z ∧ Sle v' z
  sub : ∀ v ∈ L, v ∈ Z
  asc : L.Pairwise Lx
variable {inn out}
variable {k : Nat} {done W L Z : List (List Nat)}
theorem snoc_of {u : List Nat} {k : Nat} (h : u.length = k + 1) : ∃ v d, u = v ++ [d] ∧ v.length = k := by
  rcases List.eq_nil_or_concat u with rfl | ⟨v, d, rfl⟩
  · cases h
  · exact ⟨v, d, by rw [List.concat_eq_append], by rw [List.length_concat] at h; omega⟩
/-- the first lack that is met is the least -/
theorem Lvl.least (R : Red inn out) (l : Lvl inn out k done W) {f : List Nat} (hf : Lck inn out f) (hl : f.length = k + 1)
    (first : ∀ w ∈ W, ∀ d, Lck inn out (w ++ [d]) → f = w ++ [d] ∨ Lx f (w ++ [d])) : ∀ u, Lck inn out u → Sle f u := fun u hu => by
  by_cases h1 : u.length ≤ k
  · exact absurd hu (l.no u h1)
  · by_cases h2 : k + 1 < u.length
    · exact .inl (by rw [hl]; exact h2)
    · obtain ⟨v, d, rfl, hv⟩ := snoc_of (u := u) (k := k) (by omega)
      obtain ⟨v', hd, e1, e2, hs⟩ := l.rep v (by omega) (R.pre v d hu.1)
      obtain ⟨s1, s2⟩ := R.step v' v d e1 e2
      have hl' : Lck inn out (v' ++ [d]) := ⟨by rw [s1]; exact hu.1, by rw [s2]; exact hu.2⟩
      have hlen : v'.length = k := by
        have h3 := hs.le
        refine Nat.le_antisymm (by omega) (Nat.le_of_not_lt fun h4 => l.no _ ?_ hl')
        rw [List.length_append, List.length_singleton]
        omega
      rcases first v' (l.wait v' hd hlen) d hl' with e | e
      · rw [e]; exact hs.snoc
      · exact Sle.trans (.inr (.inr e)) hs.snoc
/-- one level more -/
theorem Lvl.next (R : Red inn out) (l : Lvl inn out k done W) (b : Beh inn out done L Z) (hZ : ∀ w ∈ W, ∀ d, inn (w ++ [d]) ≠ [] → w ++ [d] ∈ Z) (hZl : ∀ z ∈ Z, z.length = k + 1) : Lvl inn out (k + 1) (done ++ L) L where
  no := fun u hu hk => by
    by_cases h1 : u.length ≤ k
    · exact l.no u h1 hk
    · obtain ⟨v, d, rfl, hv⟩ := snoc_of (u := u) (k := k) (by omega)
      obtain ⟨v', hd, e1, e2, hs⟩ := l.rep v (by omega) (R.pre v d hk.1)
      obtain ⟨s1, s2⟩ := R.step v' v d e1 e2
      have hl' : Lck inn out (v' ++ [d]) := ⟨by rw [s1]; exact hk.1, by rw [s2]; exact hk.2⟩
      by_cases h3 : v'.length = k
      · exact b.no _ (hZ v' (l.wait v' hd h3) d hl'.1) hl'
      · have := hs.le
        exact l.no _ (by rw [List.length_append, List.length_singleton]; omega) hl'
  rep := fun u hu hi => by
    by_cases h1 : u.length ≤ k
    · obtain ⟨v', hd, h⟩ := l.rep u h1 hi
      exact ⟨v', List.mem_append_left _ hd, h⟩
    · obtain ⟨v, d, rfl, hv⟩ := snoc_of (u := u) (k := k) (by omega)
      obtain ⟨v', hd, e1, e2, hs⟩ := l.rep v (by omega) (R.pre v d hi)
      obtain ⟨s1, s2⟩ := R.step v' v d e1 e2
      have hi' : inn (v' ++ [d]) ≠ [] := by rw [s1]; exact hi
      by_cases h3 : v'.length = k
      · obtain ⟨x, hx, x1, x2, x3⟩ := b.rep _ (hZ v' (l.wait v' hd h3) d hi') hi'
        exact ⟨x, hx, x1.trans s1, x2.trans s2, x3.trans hs.snoc⟩
      · have h4 := hs.le
        obtain ⟨x, hx, x1, x2, x3⟩ := l.rep (v' ++ [d]) (by rw [List.length_append, List.length_singleton]; omega) hi'
        exact ⟨x, List.mem_append_left _ hx, x1.trans s1, x2.trans s2, x3.trans hs.snoc⟩
  lens := fun v hv => by
    rcases List.mem_append.mp hv with h | h
    · have := l.lens v h
      omega
    · exact Nat.le_of_eq (hZl v (b.sub v h))
  wait := fun v hv he => by
    rcases List.mem_append.mp hv with h | h
    · have := l.lens v h
      omega
    · exact h
  wl := fun v hv => hZl v (b.sub v hv)
  asc := b.asc
/-- nothing waits: there is no lack -/
theorem Lvl.none (R : Red inn out) (l : Lvl inn out k done []) : ∀ u, ¬ Lck inn out u := fun u => by
  have go : ∀ n, Lvl inn out (k + n) done [] := fun n => by
    induction n with
    | zero => exact l
    | succ n ih =>
      have := ih.next R (L := []) (Z := []) ⟨fun z h => by simp at h, fun z h => by simp at h, fun z h => by simp at h, .nil⟩ (fun w h => by simp at h) (fun z h => by simp at h)
      rw [List.append_nil] at this
      exact this
  exact (go u.length).no u (by omega)
end
end Zb
end
section
set_option Elab.async false
set_option linter.all false
/-! Zm5: one level of the search, word by word. -/
namespace Zb
def Zw (W : List (List Nat)) (sg : List Nat) (i j : Nat) (w : List Nat) : List (List Nat) := ((W.take i).flatMap fun v => sg.map fun d => v ++ [d]) ++ (sg.take j).map fun d => w ++ [d]
theorem take_in {α : Type} {xs : List α} {n : Nat} {x : α} (h : x ∈ xs.take n) : ∃ a, a < n ∧ xs[a]? = some x := by
  obtain ⟨a, ha, e⟩ := List.mem_iff_getElem.mp h
  rw [List.length_take] at ha
  rw [List.getElem_take] at e
  exact ⟨a, by omega, by rw [List.getElem?_eq_getElem (by omega), e]⟩
theorem in_take {α : Type} {xs : List α} {n a : Nat} {x : α} (h : a < n) (e : xs[a]? = some x) : x ∈ xs.take n := by
  refine List.mem_of_getElem? (i := a) ?_
  rw [List.getElem?_take, if_pos h, e]
theorem pw_at {α : Type} {R : α → α → Prop} {xs : List α} (h : xs.Pairwise R) {a b : Nat} {x y : α} (ha : xs[a]? = some x) (hb : xs[b]? = some y) (hl : a < b) : R x y := by
  obtain ⟨h1, rfl⟩ := List.getElem?_eq_some_iff.mp ha
  obtain ⟨h2, rfl⟩ := List.getElem?_eq_some_iff.mp hb
  exact List.pairwise_iff_getElem.mp h a b h1 h2 hl
section
variable {W : List (List Nat)} {sg w : List Nat} {i j d k : Nat}
theorem zw_lt (hW : W.Pairwise Lx) (hs : sg.Pairwise (· < ·)) (ei : W[i]? = some w) (ej : sg[j]? = some d) : ∀ z ∈ Zw W sg i j w, Lx z (w ++ [d]) := fun z hz => by
  rcases List.mem_append.mp hz with h | h
  · obtain ⟨v, hv, h⟩ := List.mem_flatMap.mp h
    obtain ⟨c, _, rfl⟩ := List.mem_map.mp h
    obtain ⟨a, ha, ea⟩ := take_in hv
    exact (pw_at hW ea ei ha).app (r := [c]) (s := [d]) rfl
  · obtain ⟨c, hc, rfl⟩ := List.mem_map.mp h
    obtain ⟨b, hb, eb⟩ := take_in hc
    exact Lx.last (pw_at hs eb ej hb) w
theorem zw_first (hW : W.Pairwise Lx) (hs : sg.Pairwise (· < ·)) (ei : W[i]? = some w) (ej : sg[j]? = some d) {v : List Nat} {c : Nat} (hv : v ∈ W) (hc : c ∈ sg) (hn : v ++ [c] ∉ Zw W sg i j w) : w ++ [d] = v ++ [c] ∨ Lx (w ++ [d]) (v ++ [c]) := by
  obtain ⟨a, ha, ea⟩ := List.mem_iff_getElem.mp hv
  obtain ⟨b, hb, eb⟩ := List.mem_iff_getElem.mp hc
  have ea' : W[a]? = some v := by rw [List.getElem?_eq_getElem ha, ea]
  have eb' : sg[b]? = some c := by rw [List.getElem?_eq_getElem hb, eb]
  by_cases h1 : a < i
  · exact absurd (show v ++ [c] ∈ Zw W sg i j w from List.mem_append_left _ (List.mem_flatMap.mpr ⟨v, in_take h1 ea', List.mem_map.mpr ⟨c, hc, rfl⟩⟩)) hn
  · by_cases h2 : i < a
    · exact .inr ((pw_at hW ei ea' h2).app (r := [d]) (s := [c]) rfl)
    · have e : a = i := by omega
      subst e
      rw [ei] at ea'
      cases ea'
      by_cases h3 : b < j
      · exact absurd (List.mem_append_right _ (List.mem_map.mpr ⟨c, in_take h3 eb', rfl⟩)) hn
      · by_cases h4 : j < b
        · exact .inr (Lx.last (pw_at hs ej eb' h4) w)
        · have e : b = j := by omega
          subst e
          rw [ej] at eb'
          cases eb'
          exact .inl rfl
theorem zw_succ (ej : sg[j]? = some d) : Zw W sg i (j + 1) w = Zw W sg i j w ++ [w ++ [d]] := by
  unfold Zw
  have e : sg.take (j + 1) = sg.take j ++ [d] := by rw [List.take_add_one, ej]; rfl
  rw [e, List.map_append, List.append_assoc]
  rfl
theorem zw_row (ei : W[i]? = some w) {v : List Nat} : Zw W sg (i + 1) 0 v = Zw W sg i sg.length w := by
  unfold Zw
  have e : W.take (i + 1) = W.take i ++ [w] := by rw [List.take_add_one, ei]; rfl
  rw [e, List.flatMap_append, List.take_length, List.take_zero, List.map_nil, List.append_nil, List.flatMap_singleton]
theorem zw_zero {v : List Nat} : Zw W sg 0 0 v = [] := rfl
variable {inn out : List Nat → List Nat} {done L Z : List (List Nat)} {f : List Nat}
theorem Beh.skip (b : Beh inn out done L Z) (hf : inn f = []) : Beh inn out done L (Z ++ [f]) where
  no := fun z hz => by
    rcases List.mem_append.mp hz with h | h
    · exact b.no z h
    · rw [List.mem_singleton.mp h]
      exact fun h => h.1 hf
  rep := fun z hz hi => by
    rcases List.mem_append.mp hz with h | h
    · exact b.rep z h hi
    · rw [List.mem_singleton.mp h] at hi
      exact absurd hf hi
  sub := fun v hv => List.mem_append_left _ (b.sub v hv)
  asc := b.asc
theorem Beh.seen (b : Beh inn out done L Z) (hf : ¬ Lck inn out f) (lt : ∀ z ∈ Z, Lx z f) (ld : ∀ v ∈ done, v.length < f.length) {v : List Nat} (hv : v ∈ done ++ L) (e1 : inn v = inn f) (e2 : out v = out f) : Beh inn out done L (Z ++ [f]) where
  no := fun z hz => by
    rcases List.mem_append.mp hz with h | h
    · exact b.no z h
    · rw [List.mem_singleton.mp h]
      exact hf
  rep := fun z hz hi => by
    rcases List.mem_append.mp hz with h | h
    · exact b.rep z h hi
    · rw [List.mem_singleton.mp h]
      refine ⟨v, hv, e1, e2, ?_⟩
      rcases List.mem_append.mp hv with h | h
      · exact .inl (ld v h)
      · exact .inr (.inr (lt v (b.sub v h)))
  sub := fun v hv => List.mem_append_left _ (b.sub v hv)
  asc := b.asc
theorem Beh.put (b : Beh inn out done L Z) (hf : ¬ Lck inn out f) (lt : ∀ z ∈ Z, Lx z f) : Beh inn out done (L ++ [f]) (Z ++ [f]) where
  no := fun z hz => by
    rcases List.mem_append.mp hz with h | h
    · exact b.no z h
    · rw [List.mem_singleton.mp h]
      exact hf
  rep := fun z hz hi => by
    rw [← List.append_assoc]
    rcases List.mem_append.mp hz with h | h
    · obtain ⟨v, hv, k⟩ := b.rep z h hi
      exact ⟨v, List.mem_append_left _ hv, k⟩
    · rw [List.mem_singleton.mp h]
      exact ⟨f, List.mem_append_right _ (List.mem_singleton.mpr rfl), rfl, rfl, .refl f⟩
  sub := fun v hv => by
    rcases List.mem_append.mp hv with h | h
    · exact List.mem_append_left _ (b.sub v h)
    · exact List.mem_append_right _ h
  asc := by
    rw [List.pairwise_append]
    refine ⟨b.asc, by simp, fun x hx y hy => ?_⟩
    rw [List.mem_singleton.mp hy]
    exact lt x (b.sub x hx)
theorem Beh.nil : Beh inn out done [] [] := ⟨fun z h => by simp at h, fun z h => by simp at h, fun z h => by simp at h, .nil⟩
end
/-! ### there are not many -/
def subsOf : List Nat → List (List Nat)
  | [] => [[]]
  | x :: l => subsOf l ++ (subsOf l).map (x :: ·)
theorem subs_len : ∀ l : List Nat, (subsOf l).length = 2 ^ l.length
  | [] => rfl
  | x :: l => by
    show (subsOf l ++ (subsOf l).map (x :: ·)).length = _
    rw [List.length_append, List.length_map, subs_len l, List.length_cons, Nat.pow_succ]
    omega
theorem filter_subs (p : Nat → Bool) : ∀ l : List Nat, l.filter p ∈ subsOf l
  | [] => List.mem_singleton.mpr rfl
  | x :: l => by
    rw [List.filter_cons]
    split
    · exact List.mem_append_right _ (List.mem_map.mpr ⟨_, filter_subs p l, rfl⟩)
    · exact List.mem_append_left _ (filter_subs p l)
theorem self_subs (l : List Nat) : l ∈ subsOf l := by
  have := filter_subs (fun _ => true) l
  rwa [List.filter_eq_self.mpr fun _ _ => rfl] at this
theorem read_subs {m : Mach} {ring : List Nat} (w : List Nat) : readW m ring ring w ∈ subsOf ring := by
  rcases List.eq_nil_or_concat w with rfl | ⟨v, d, rfl⟩
  · exact self_subs ring
  · rw [List.concat_eq_append, readW_append]
    exact filter_subs _ ring
def Pieces (m : Mach) (ring : List Nat) (w : List Nat) : Prop := readW m ring ring w ≠ []
theorem readOn_nil {m : Mach} {ring : List Nat} {d : Nat} : readOn m ring [] d = [] := by
  unfold readOn
  rw [List.filter_eq_nil_iff]
  intro a _
  simp
theorem red_of {m m' : Mach} {over under : List Nat} : Red (readW m' under under) (readW m over over) where
  step := fun u w d e1 e2 => by
    rw [readW_append, readW_append, readW_append, readW_append, e1, e2]
    exact ⟨rfl, rfl⟩
  pre := fun u d h e => h (by
    rw [readW_append, e]
    exact readOn_nil)
/-- what is told of a lack: the least, or that there is none -/
def Told (m : Mach) (over : List Nat) (m' : Mach) (under : List Nat) : Option (List Nat) → Prop
  | none => ∀ u, ¬ Lck (readW m' under under) (readW m over over) u
  | some f => Lck (readW m' under under) (readW m over over) f ∧ ∀ u, Lck (readW m' under under) (readW m over over) u → Sle f u
def pairsOf2 (a b : List Nat) : List (List Nat × List Nat) := (subsOf a).flatMap fun x => (subsOf b).map fun y => (x, y)
theorem pairs_len (a b : List Nat) : (pairsOf2 a b).length = 2 ^ a.length * 2 ^ b.length := by
  unfold pairsOf2
  rw [List.length_flatMap]
  have : ((subsOf a).map fun x => ((subsOf b).map fun y => (x, y)).length) = (subsOf a).map fun _ => 2 ^ b.length := List.map_congr_left fun x _ => by rw [List.length_map, subs_len]
  rw [this, ← subs_len a]
  generalize subsOf a = l
  induction l with
  | nil => simp
  | cons x l ih => rw [List.map_cons, List.sum_cons, ih, List.length_cons, Nat.succ_mul]; omega
theorem pairs_mem {m m' : Mach} {over under : List Nat} (w : List Nat) : (readW m' under under w, readW m over over w) ∈ pairsOf2 under over := List.mem_flatMap.mpr ⟨_, read_subs w, List.mem_map.mpr ⟨_, read_subs w, rfl⟩⟩
theorem done_len {m m' : Mach} {over under : List Nat} {done : List (List Nat)} (h : (done.map fun w => (readW m' under under w, readW m over over w)).Nodup) (h1 : under.length ≤ 6) (h2 : over.length ≤ 6) : done.length ≤ 4096 := by
  have h3 := sub_len (L := pairsOf2 under over) h fun x hx => by
    obtain ⟨w, _, rfl⟩ := List.mem_map.mp hx
    exact pairs_mem w
  rw [List.length_map, pairs_len] at h3
  have a1 : 2 ^ under.length ≤ 2 ^ 6 := Nat.pow_le_pow_right (by decide) h1
  have a2 : 2 ^ over.length ≤ 2 ^ 6 := Nat.pow_le_pow_right (by decide) h2
  have := Nat.mul_le_mul a1 a2
  omega
end Zb
end
section
set_option Elab.async false
set_option linter.all false
set_option maxRecDepth 100000
/-! Zs15: the walk: first_lack. -/
namespace Zb
open PySem PySem.Spec PyProof.Rows L2 SlX
/-! ### keys of pairs of tuples -/
def tupN (l : List Nat) : NestedKey := .tup (l.map fun n : Nat => .num (n : Int))
def pkey (a b : List Nat) : NestedKey := .tup [tupN a, tupN b]
theorem nums_inj : ∀ {a b : List Nat}, (a.map fun n : Nat => NestedKey.num (n : Int)) = b.map (fun n : Nat => NestedKey.num (n : Int)) → a = b
  | [], [], _ => rfl
  | [], _ :: _, h => nomatch h
  | _ :: _, [], h => nomatch h
  | x :: a, y :: b, h => by
    rw [List.map_cons, List.map_cons] at h
    injection h with h1 h2
    injection h1 with h1
    rw [nums_inj h2]
    congr 1
    omega
theorem tupN_inj {a b : List Nat} (h : tupN a = tupN b) : a = b := by
  unfold tupN at h
  injection h with h
  exact nums_inj h
theorem pkey_iff {a b x y : List Nat} : pkey a b = pkey x y ↔ a = x ∧ b = y := by
  constructor
  · intro h
    unfold pkey at h
    injection h with h
    injection h with h1 h
    injection h with h2 _
    exact ⟨tupN_inj h1, tupN_inj h2⟩
  · rintro ⟨rfl, rfl⟩
    rfl
theorem depthN : ∀ l : List Nat, NestedKey.depthAll (l.map fun n : Nat => NestedKey.num (n : Int)) = 0
  | [] => rfl
  | x :: l => by
    show max 0 (NestedKey.depthAll (l.map fun n : Nat => NestedKey.num (n : Int))) = 0
    rw [depthN l]
    rfl
theorem depth_pkey (a b : List Nat) : (pkey a b).depth ≤ 8 := by
  show max (NestedKey.depthAll (a.map fun n : Nat => NestedKey.num (n : Int)) + 1) (max (NestedKey.depthAll (b.map fun n : Nat => NestedKey.num (n : Int)) + 1) 0) + 1 ≤ 8
  rw [depthN, depthN]
  decide
theorem nkrs_nats {B : Hp} : ∀ {l : List Nat} {vs : List V}, Al rNat l vs B → NKrs B (l.map fun n : Nat => NestedKey.num (n : Int)) vs
  | _, _, .nil => .nil
  | _, _, .cons h t => by
    rw [show _ = _ from h]
    exact .cons (.num _) (nkrs_nats t)
theorem nd_some {k : NestedKey} : ∀ {kx : List NX}, (ndAt kx k).isSome = decide (k ∈ kx.map fun p : NX => p.1)
  | [] => by simp [ndAt]
  | p :: kx => by
    have ih := nd_some (k := k) (kx := kx)
    unfold ndAt at ih ⊢
    rw [List.find?_cons, List.map_cons]
    by_cases e : p.1 = k
    · simp [e]
    · have e2 : ¬ k = p.1 := fun z => e z.symm
      simp only [e, decide_false]
      rw [ih]
      simp [e2]
section
variable {K : PySem.W.Frag} {P : Program} {w : World} {σ : L2.St} {M B : Hp} {ta tb tk tv : TE} {D : Ends} {tz : TS}
theorem ev_tupNK {l : List Nat} (h : Ev ta σ M B (rTup rNat l)) : Ev ta σ M B (rNK (tupN l)) := h.to fun v B2 _ ⟨a, vs, e, h, al⟩ => by
  rw [e]
  exact .tup h (nkrs_nats al)
theorem ev_pkey {a b : List Nat} (h1 : Ev ta σ M B (rTup rNat a)) (h2 : Ev tb σ M B (rTup rNat b)) : Ev (tTup (tCons ta (tCons tb tNil))) σ M B (rNK (pkey a b)) :=
  ev_tup (ea_cons (ev_tupNK h1) (ea_cons (ev_tupNK h2) ea_nil)) (by show 2 ≤ 1000; decide) fun a vs B1 e h => by
    cases h with
    | cons h1 h => cases h with
      | cons h2 h =>
        cases h
        exact .tup e (.cons h1 (.cons h2 .nil))
theorem nkr_ref {a b : List Nat} {v : V} (h : (rNK (pkey a b)).p v B) : ∃ p, v = .ref p := by
  have h : NKr B (pkey a b) v := h
  unfold pkey at h
  cases h with
  | tup _ _ => exact ⟨_, rfl⟩
theorem q_ndDisp {i : Nat} {a b : List Nat} {y : V} (hk : ∀ {M1 B1}, Same M M1 → Same B B1 → Ev tk σ M1 B1 (rNK (pkey a b))) (hv : ∀ {M1 B1}, Same M M1 → Same B B1 → Ev tv σ M1 B1 (isV y)) (d : Dj B M)
    (k : ∀ p b' B', Same B B' → Dj B' M → M p = none → B' p = none → NKr B' (pkey a b) (.ref b') → tz D (σ.set i (some (.ref p))) (jn B' (upd M p (NDo P w p [(pkey a b, b', y)])))) : tSeq (tAsg (tNdDisp P w tk tv) (gName i)) tz D σ (jn B M) := fun p hp => by
  obtain ⟨hm, hb⟩ := jn_none hp
  rw [jn_updM]
  have d1 : Dj B (upd M p (NDo P w p [])) := dj_m d hb
  refine hk (same_new hm) (Same.refl _) _ B (Same.refl _) (Same.refl _) d1 _ fun x B2 b2 d2 hx => hv (same_new hm) b2 _ B2 (Same.refl _) (Same.refl _) d2 _ fun z B3 b3 d3 hz => ⟨jn_m upd_same, ?_⟩
  obtain ⟨b', rfl⟩ := nkr_ref hx
  have hx3 : NKr B3 (pkey a b) (.ref b') := (rNK (pkey a b)).up b3 hx
  refine ⟨b', pkey a b, rfl, hx3.up fun a xs e => jn_b d3 e, depth_pkey a b, ?_⟩
  rw [jn_updM, upd_upd, show z = _ from hz]
  exact k p b' B3 (b2.trans b3) (fun a o e => (upd_none (d3 a o e)).1) hm (dj_none d3 upd_same) hx3
/-- a key not in a dict of such keys -/
theorem ev_ndNotIn {i : Nat} {p : Addr} {kx : List NX} {a b : List Nat} (hσ : σ[i]? = some (some (.ref p))) (hM : M p = some (NDo P w p kx)) (hok : NOk B kx) (ha : Ev ta σ M B (rNK (pkey a b))) : Ev (tOp (rNdNotIn P w) ta (tVar i)) σ M B (rBl (!decide (pkey a b ∈ kx.map fun p : NX => p.1))) := fun M1 B1 m b1 d Q q =>
  ha M1 B1 m b1 d _ fun v B2 b2 d2 hv => by
    obtain ⟨b', rfl⟩ := nkr_ref hv
    have hv' : NKr B2 (pkey a b) (.ref b') := hv
    refine ⟨_, hσ, p, b', kx, pkey a b, rfl, rfl, ⟨jn_m (m _ _ hM), nok_up (fun a xs e => jn_b d2 e) (nok_up (fun a xs e => b2 _ _ (b1 _ _ e)) hok), hv'.up fun a xs e => jn_b d2 e, depth_pkey a b⟩, ?_⟩
    rw [nd_some]
    exact q _ B2 b2 d2 rfl
/-- d[key] = v, key new -/
theorem q_ndPut {i : Nat} {p : Addr} {kx : List NX} {a b : List Nat} {y : V} (hσ : σ[i]? = some (some (.ref p))) (hM : M p = some (NDo P w p kx)) (hok : NOk B kx) (hv : Ev tv σ M B (isV y)) (ha : ∀ {B1}, Same B B1 → Ev ta σ M B1 (rNK (pkey a b))) (hn : pkey a b ∉ kx.map fun p : NX => p.1) (hl : kx.length ≤ 100000) (d : Dj B M)
    (k : ∀ b' B', Same B B' → Dj B' (upd M p (NDo P w p (kx ++ [(pkey a b, b', y)]))) → NOk B' (kx ++ [(pkey a b, b', y)]) → tz D σ (jn B' (upd M p (NDo P w p (kx ++ [(pkey a b, b', y)]))))) : tSeq (tAsg tv (gSub (tVar i) ta (rNdPut P w))) tz D σ (jn B M) :=
  hv M B (Same.refl _) (Same.refl _) d _ fun z B1 b1 d1 hz => ⟨_, hσ, ha b1 M B1 (Same.refl _) (Same.refl _) d1 _ fun v B2 b2 d2 hv => by
    obtain ⟨b', rfl⟩ := nkr_ref hv
    have hv' : NKr B2 (pkey a b) (.ref b') := hv
    have hok2 : NOk B2 kx := nok_up (fun a xs e => b2 _ _ (b1 _ _ e)) hok
    refine ⟨p, b', kx, pkey a b, rfl, rfl, ⟨jn_m hM, nok_up (fun a xs e => jn_b d2 e) hok2, hv'.up fun a xs e => jn_b d2 e, depth_pkey a b⟩, ?_, hl, ?_⟩
    · cases z2 : ndAt kx (pkey a b) with
      | none => rfl
      | some u =>
        have := nd_some (k := pkey a b) (kx := kx)
        rw [z2] at this
        exact absurd (of_decide_eq_true this.symm) hn
    · rw [jn_updM, show z = _ from hz]
      refine k b' B2 (b1.trans b2) (dj_m d2 (dj_none d2 hM)) fun q hq => ?_
      rcases List.mem_append.mp hq with h | h
      · exact hok2 q h
      · rw [List.mem_singleton.mp h]
        exact ⟨hv', depth_pkey a b⟩⟩
end
/-! ### lists of words with their ends -/
abbrev rWait (ws : List (List Nat × List Nat × List Nat)) : Up := rLst (rTr rTx (rTup rNat) (rTup rNat)) ws
def wD (x : List Nat × List Nat × List Nat) : PyData := .tuple [.str (tx x.1), tD x.2.1, tD x.2.2]
theorem dat_wait {x : List Nat × List Nat × List Nat} : Dat (rTr rTx (rTup rNat) (rTup rNat) x) (wD x) := ⟨fun K v M B d ⟨a, y, z, u, e, h, h1, h2, h3⟩ => by
  rw [e]
  exact .tup (SqT.of (jn_b d h)) (.cons (dat_tx.h K y M B d h1) (.cons ((dat_tup fun _ _ => dat_int).h K z M B d h2) (.cons ((dat_tup fun _ _ => dat_int).h K u M B d h3) .nil)))⟩
def WOk (w : List Nat) : Prop := w.length ≤ 100000 ∧ ∀ c ∈ w, c ∈ Alph
theorem str_ok {w : List Nat} (h : WOk w) : PyData.canLay0 (.str (tx w)) = true := by
  show (w.toArray.all (· < 0x110000)) = true
  rw [List.all_toArray, List.all_eq_true]
  intro c hc
  have := h.2 c hc
  have z : ∀ c ∈ Alph, decide (c < 0x110000) = true := by decide
  exact z c this
theorem lay_wait : ∀ xs : List (List Nat × List Nat × List Nat), (∀ x ∈ xs, WOk x.1) → PyData.canLayAll0 (xs.map wD) = true
  | [], _ => rfl
  | x :: xs, h => by
    show ((PyData.canLay0 (.str (tx x.1)) && (PyData.canLayAll0 (x.2.1.map nD) && (PyData.canLayAll0 (x.2.2.map nD) && true))) && PyData.canLayAll0 (xs.map wD)) = true
    rw [lay_nats, lay_nats, lay_wait xs fun y hy => h y (List.mem_cons_of_mem _ hy), str_ok (h x List.mem_cons_self)]
    rfl
theorem depth_wait : ∀ xs : List (List Nat × List Nat × List Nat), PyData.depthAll (xs.map wD) ≤ 2
  | [] => Nat.zero_le _
  | x :: xs => by
    show max (max 0 (max (PyData.depthAll (x.2.1.map nD) + 1) (max (PyData.depthAll (x.2.2.map nD) + 1) 0)) + 1) (PyData.depthAll (xs.map wD)) ≤ 2
    have := depth_wait xs
    rw [depth_nats, depth_nats]
    omega
theorem sh_wait {xs : List (List Nat × List Nat × List Nat)} (h : ∀ x ∈ xs, WOk x.1) : SeqAt.shaped (.list (xs.map wD)) = true := by
  show (PyData.canLayAll0 (xs.map wD) && decide (PyData.depthAll (xs.map wD) + 1 ≤ 64)) = true
  have := depth_wait xs
  rw [lay_wait xs h, decide_eq_true (by omega)]
  rfl
theorem eqv_wait : ∀ xs : List (List Nat × List Nat × List Nat), PyData.eqv (.list (xs.map wD)) (.list []) = decide (xs = [])
  | [] => rfl
  | _ :: _ => rfl
section
variable {K : PySem.W.Frag} {σ : L2.St} {M B : Hp} {ta : TE}
theorem ev_neW {xs : List (List Nat × List Nat × List Nat)} (ha : Ev ta σ M B (rWait xs)) (h : ∀ x ∈ xs, WOk x.1) : Ev (tOp (rNeD K) ta (tLst tNil)) σ M B (rBl (!decide (xs = []))) := by
  rw [← eqv_wait]
  exact ev_neD (e := .list []) ha (EvN.lst (R := rTr rTx (rTup rNat) (rTup rNat)) (xs := []) ((en_lst ea_nil (by show 0 ≤ 1000; decide)).to fun vs B1 h => by cases h; exact .nil)) (dat_lst fun _ _ => dat_wait) (dat_lst (f := wD) (xs := []) fun x h => by cases h) (sh_wait h) rfl
end
end Zb
end
section
set_option Elab.async false
set_option linter.all false
set_option maxRecDepth 100000
/-! Zs16: the walk: first_lack, covers, lacking_piece. -/
namespace Zb
open PySem PySem.Spec PyProof.Rows L2 SlX
theorem q_for3 {α β γ : Type} {K : PySem.W.Frag} {σ : L2.St} {M B : Hp} {D : Ends} {tu tz : TS} {R : α → Up} {S : β → Up} {T : γ → Up} {xs : List (α × β × γ)} {wi : TI} {j k l : Nat} (hi : EvI wi σ M B (xs.map (rTr R S T))) (d : Dj B M) (Pv : Nat → L2.St → Hp → Hp → Prop) (hm : ∀ i σ' M' B1 B2, Same B1 B2 → Pv i σ' M' B1 → Pv i σ' M' B2)
    (h0 : ∀ B', Same B B' → Dj B' M → Pv 0 σ M B')
    (hs : ∀ B0 i x v w u σ' M' B', xs[i]? = some x → Same B B0 → Same B0 B' → Dj B' M' → Pv i σ' M' B' → (R x.1).p v B' → (S x.2.1).p w B' → (T x.2.2).p u B' →
      tu { D with nx := Nx (Pv (i + 1)) B0, ct := Nx (Pv (i + 1)) B0, bk := tz D } (((σ'.set j (some v)).set k (some w)).set l (some u)) (jn B' M'))
    (hd : ∀ σ' M' B', Pv xs.length σ' M' B' → Same B B' → Dj B' M' → tz D σ' (jn B' M')) : tSeq (tFor wi (gTup K 3 (gCons (gName j) (gCons (gName k) (gCons (gName l) gNil)))) tu) tz D σ (jn B M) :=
  s_for3 (D := { D with nx := tz D }) hi d Pv hm h0 hs hd
theorem q_par {σ : L2.St} {M B : Hp} {D : Ends} {tz : TS} {i j : Nat} {ta tb : TE} {U W : Up} (ha : Ev ta σ M B U) (hb : ∀ {B1}, Same B B1 → Ev tb σ M B1 W) (d : Dj B M) (k : ∀ v w B', Same B B' → Dj B' M → U.p v B' → W.p w B' → tz D ((σ.set i (some v)).set j (some w)) (jn B' M)) : tSeq (tPar i j (tCons ta (tCons tb tNil))) tz D σ (jn B M) :=
  ha M B (Same.refl _) (Same.refl _) d _ fun v B1 b1 d1 hv => hb b1 M B1 (Same.refl _) (Same.refl _) d1 _ fun w B2 b2 d2 hw => ⟨v, w, rfl, k v w B2 (b1.trans b2) d2 (U.up b2 hv) hw⟩
def rWd : Option (List Nat) → Up
  | none => rNon
  | some w => rTx w
section
variable (inn out : List Nat → List Nat)
abbrev tri (w : List Nat) : List Nat × List Nat × List Nat := (w, inn w, out w)
structure LvS (done L Z : List (List Nat)) (kx : List NX) (vl : List V) (B : Hp) : Prop where
  nok : NOk B kx
  keys : (kx.map fun p : NX => p.1) = (done ++ L).map fun w => pkey (inn w) (out w)
  nd : ((done ++ L).map fun w => (inn w, out w)).Nodup
  beh : Beh inn out done L Z
  al : Al (rTr rTx (rTup rNat) (rTup rNat)) (L.map (tri inn out)) vl B
  alph : ∀ w ∈ L, ∀ c ∈ w, c ∈ Alph
variable {inn out} {done L Z : List (List Nat)} {kx : List NX} {vl : List V} {B B' : Hp}
theorem LvS.up (s : Same B B') (h : LvS inn out done L Z kx vl B) : LvS inn out done L Z kx vl B' := ⟨nok_up (fun a xs e => s _ _ e) h.nok, h.keys, h.nd, h.beh, h.al.up s, h.alph⟩
theorem LvS.to {Z' : List (List Nat)} (h : LvS inn out done L Z kx vl B) (b : Beh inn out done L Z') : LvS inn out done L Z' kx vl B := ⟨h.nok, h.keys, h.nd, b, h.al, h.alph⟩
theorem LvS.has (h : LvS inn out done L Z kx vl B) {f : List Nat} : pkey (inn f) (out f) ∈ (kx.map fun p : NX => p.1) ↔ ∃ v ∈ done ++ L, inn v = inn f ∧ out v = out f := by
  rw [h.keys, List.mem_map]
  constructor
  · rintro ⟨v, hv, e⟩
    exact ⟨v, hv, pkey_iff.mp e⟩
  · rintro ⟨v, hv, e⟩
    exact ⟨v, hv, pkey_iff.mpr e⟩
theorem LvS.put (h : LvS inn out done L Z kx vl B) {f : List Nat} {b : Addr} {y v : V} (nf : pkey (inn f) (out f) ∉ (kx.map fun p : NX => p.1)) (nok : NOk B' (kx ++ [(pkey (inn f) (out f), b, y)])) (beh : Beh inn out done (L ++ [f]) (Z ++ [f])) (s : Same B B') (hv : (rTr rTx (rTup rNat) (rTup rNat) (tri inn out f)).p v B') (hf : ∀ c ∈ f, c ∈ Alph) :
    LvS inn out done (L ++ [f]) (Z ++ [f]) (kx ++ [(pkey (inn f) (out f), b, y)]) (vl ++ [v]) B' := by
  refine ⟨nok, ?_, ?_, beh, ?_, fun w hw => ?_⟩
  · rw [List.map_append, h.keys, ← List.append_assoc, List.map_append (l₂ := [f])]
    rfl
  · rw [← List.append_assoc, List.map_append, List.nodup_append]
    refine ⟨h.nd, by simp, fun a ha b hb e => nf (h.has.mpr ?_)⟩
    obtain ⟨u, hu, rfl⟩ := List.mem_map.mp ha
    rw [List.map_cons, List.map_nil, List.mem_singleton] at hb
    subst hb
    exact ⟨u, hu, (Prod.mk.inj e).1, (Prod.mk.inj e).2⟩
  · rw [List.map_append]
    exact (h.al.up s).snoc hv
  · rcases List.mem_append.mp hw with z | z
    · exact h.alph w z
    · rw [List.mem_singleton.mp z]
      exact hf
end
abbrev s_first_lack : Stmt := top 59
theorem sc_first_lack : FnScope ["target", "over", "source", "under", "seen", "waiting", "longer", "word", "below", "above", "sign", "inner", "outer"] ["target", "over", "source", "under"] (defScope s_first_lack) := ⟨rfl, rfl, rfl, by decide +kernel, rfl, by decide +kernel, by decide +kernel⟩
def okCov (x : Mach × List Nat × Mach × List Nat) : Prop := Wf x.1 ∧ x.1.length ≤ 6 ∧ x.2.1 ∈ rings x.1 ∧ Wf x.2.2.1 ∧ x.2.2.1.length ≤ 6 ∧ x.2.2.2 ∈ rings x.2.2.1
def aCov (c : Cs) (x : Mach × List Nat × Mach × List Nat) : List Up := [rForm c x.1, rTup rNat x.2.1, rForm c x.2.2.1, rTup rNat x.2.2.2]
def sp_first_lack (c : Cs) : Sp := spF (α := Mach × List Nat × Mach × List Nat) (aCov c) okCov (fun x => rEx (Told x.1 x.2.1 x.2.2.1 x.2.2.2) rWd)
theorem sign_of {m : Mach} (wf : Wf m) {ring states : List Nat} {d : Nat} (h : readOn m ring states d ≠ []) : d ∈ signsOf m := by
  obtain ⟨t, ht⟩ := List.exists_mem_of_ne_nil _ h
  have h2 := of_decide_eq_true (List.mem_filter.mp ht).2
  obtain ⟨s, _, e⟩ := List.mem_filterMap.mp h2
  have h3 := lookup_mem e
  have hlt : s < m.length := Nat.lt_of_not_le fun z => by rw [rowAt_none z] at h3; simp at h3
  rw [rowAt_get hlt] at h3
  exact (mem_signsOf wf).mpr ⟨m[s], List.getElem_mem hlt, _, h3, rfl⟩
section
variable {P : Program} {w : World} {K : PySem.W.Frag} {mg : Str → Option Value} {base : Heap} {c : Cs}
theorem c_first_lack (D : Def K mg "first_lack" s_first_lack) (Kk : Kc K c) (T : Bt mg) (oS : ∀ C ∈ [c.CF, c.CM], OwnP P w K mg base 1 C "signs" (sp_signs c)) (c_read_on : Cal P w K mg base 1 "read_on" (sp_read_on c)) : Cal P w K mg base 3 "first_lack" (sp_first_lack c) :=
  cal_of D sc_first_lack (fun _ _ _ _ _ _ us hl => match us, hl with | [_, _, _, _], _ => rfl) (spF_len fun _ => rfl) fun f cdv A outer s H vs Q E hr h => by
  obtain ⟨⟨m, over, m', under⟩, B, M, rfl, d, ⟨wf, h6, ho, wf', h6', hu'⟩, al, q⟩ := h
  have sc := sc_first_lack
  have hu64 := Nat.lt_of_succ_lt (room_u hr)
  refine ⟨_, (pss_cons (ps_set (i := 4) sc.nd rfl (.inl rfl) (pe_ndDisp hr (pe_tup (pa_cons (pv 3) (pa_cons (pv 1) pa_nil))) pe_bl))
      (pss_cons (ps_set (i := 5) sc.nd rfl (.inl rfl) (pe_lst (pa_cons (pe_tup (pa_cons pe_str (pa_cons (pv 3) (pa_cons (pv 1) pa_nil)))) pa_nil)))
      (pss_cons (ps_while PassesOwn.never (pt_cmpR (op_neD hu64) (pv 5) (pe_lst pa_nil) (nomark _)) (pss_cons (ps_set (i := 6) sc.nd rfl (.inl rfl) (pe_lst pa_nil))
      (pss_cons (ps_for PassesOwn.never rfl (kpi_list K rfl (pv 5)) (kpg_tup (n := 3) K rfl rfl (pgs_cons (pg_name (i := 7) sc.nd rfl (.inl rfl)) (pgs_cons (pg_name (i := 8) sc.nd rfl (.inl rfl)) (pgs_cons (pg_name (i := 9) sc.nd rfl (.inl rfl)) pgs_nil)))) (pss_one (ps_for PassesOwn.never rfl (kpi_list K rfl (pe_callB (cr_sortTT K rfl) (by rfl) T.sorted (by decide +kernel) (pa_cons (pe_propI (pv 2) oS (hr.mono (by decide))) pa_nil))) (pg_name (i := 10) sc.nd rfl (.inl rfl)) (pss_cons (ps_par (i := 11) (j := 12) rfl sc.nd rfl rfl (by decide) rfl rfl (pa_cons (pe_cal c_read_on hr (by decide) (by rfl) (pa_cons (pv 2) (pa_cons (pv 3) (pa_cons (pv 8) (pa_cons (pv 10) pa_nil))))) (pa_cons (pe_cal c_read_on hr (by decide) (by rfl) (pa_cons (pv 0) (pa_cons (pv 1) (pa_cons (pv 9) (pa_cons (pv 10) pa_nil))))) pa_nil)) (by rfl))
      (pss_cons (ps_if (PW.pt (pw_and (pt_cmpR (op_neD hu64) (pv 11) (pe_tup pa_nil) (nomark _)) (pw_and1 (pt_cmpR (op_eqD hu64) (pv 12) (pe_tup pa_nil) (nomark _))))) (pss_one (ps_ret (pe_op op_add_str (pv 7) (pv 10)))) pss_nil)
      (pss_one (ps_if (PW.pt (pw_and (pt_cmpR (op_neD hu64) (pv 11) (pe_tup pa_nil) (nomark _)) (pw_and1 (pt_cmpR (op_ndNotIn hr) (pe_tup (pa_cons (pv 11) (pa_cons (pv 12) pa_nil))) (pv 4) (by rfl))))) (pss_cons (ps_asg pe_bl (pg_sub (pv 4) (pe_tup (pa_cons (pv 11) (pa_cons (pv 12) pa_nil))) (set_nd hr)))
      (pss_one (ps_expr (pe_bm PySem.F.plainAttrs_list PySem.F.slot_list_append PySem.F.type_list_append mt_append (pv 6) (pa_cons (pe_tup (pa_cons (pe_op op_add_str (pv 7) (pv 10)) (pa_cons (pv 11) (pa_cons (pv 12) pa_nil)))) pa_nil))))) pss_nil)))))))
      (pss_one (ps_set (i := 5) sc.nd rfl (.inl rfl) (pe_callTy (kc_list K rfl) (by rfl) T.list (by decide +kernel) (pa_cons (pv 6) pa_nil)))))))
      (pss_one (ps_ret pe_non))))), ?_⟩
  cases al with
  | cons h1 al => cases al with
  | cons h2 al => cases al with
  | cons h3 al => cases al with
  | cons h4 al =>
    cases al
    have wf : Wf m := wf
    have wf' : Wf m' := wf'
    have h6 : m.length ≤ 6 := h6
    have h6' : m'.length ≤ 6 := h6'
    have ho : over ∈ rings m := ho
    have hu' : under ∈ rings m' := hu'
    have h1 : (rForm c m).p _ B := h1
    have h2 : (rTup rNat over).p _ B := h2
    have h3 : (rForm c m').p _ B := h3
    have h4 : (rTup rNat under).p _ B := h4
    obtain ⟨lo, lto⟩ := ring_ok wf ho
    obtain ⟨lu, ltu⟩ := ring_ok wf' hu'
    have lo6 : over.length ≤ 6 := by have := part_len (mem_rings.mp ho).1; omega
    have lu6 : under.length ≤ 6 := by have := part_len (mem_rings.mp hu').1; omega
    have neo : over ≠ [] := part_ne (mem_rings.mp ho).1
    have neu : under ≠ [] := part_ne (mem_rings.mp hu').1
    have red : Red (readW m' under under) (readW m over over) := red_of
    generalize einn : readW m' under under = inn at red
    generalize eout : readW m over over = out at red
    have inn0 : inn [] = under := by rw [← einn]; rfl
    have out0 : out [] = over := by rw [← eout]; rfl
    have innS : ∀ v k, inn (v ++ [k]) = readOn m' under (inn v) k := fun v k => by rw [← einn]; exact readW_snoc
    have outS : ∀ v k, out (v ++ [k]) = readOn m over (out v) k := fun v k => by rw [← eout]; exact readW_snoc
    have innL : ∀ v, (∀ t ∈ inn v, t ∈ under) ∧ (inn v).length ≤ under.length := fun v => by rw [← einn]; exact readW_sub (fun t h => h) (Nat.le_refl _)
    have outL : ∀ v, (∀ t ∈ out v, t ∈ over) ∧ (out v).length ≤ over.length := fun v => by rw [← eout]; exact readW_sub (fun t h => h) (Nat.le_refl _)
    have dlen : ∀ done : List (List Nat), (done.map fun w => (inn w, out w)).Nodup → done.length ≤ 4096 := fun done h => by
      rw [← einn, ← eout] at h
      exact done_len h lu6 lo6
    refine q_ndDisp (a := under) (b := over) (y := .bl true) (fun {M1 B1} m1 b1 => ev_pkey (ev_v (U := rTup rNat under) rfl ((rTup rNat under).up b1 h4)) (ev_v (U := rTup rNat over) rfl ((rTup rNat over).up b1 h2))) (fun _ _ => ev_c) d fun ps kb B1 b1 d1 hMs hBs hkb => ?_
    have d2 : Dj B1 (upd M ps (NDo P w ps [(pkey under over, kb, .bl true)])) := dj_m d1 hBs
    refine q_asg (U := rWait [([], under, over)]) (EvN.lst ((en_lst (ea_cons (ev_tr (R := rTx) (S := rTup rNat) (T := rTup rNat) (x := []) (y := under) (z := over) ev_c (ev_v (U := rTup rNat under) rfl ((rTup rNat under).up b1 h4)) (ev_v (U := rTup rNat over) rfl ((rTup rNat over).up b1 h2))) ea_nil) (by show 1 ≤ 1000; decide)).to fun vs B2 h => by cases h with | cons a b => (cases b; exact .cons a .nil))) d2 fun wv B2 b2 d3 hwv => ?_
    refine q_whileW (fun μ σ' M' B' => Same B B' ∧ ∃ k done W kx wv o6 o7 o8 o9 o10 o11 o12, M' = upd M ps (NDo P w ps kx) ∧ σ' = [some _, some _, some _, some _, some (.ref ps), some wv, o6, o7, o8, o9, o10, o11, o12] ∧ NOk B' kx ∧ (kx.map fun p : NX => p.1) = done.map (fun w => pkey (inn w) (out w)) ∧ (done.map fun w => (inn w, out w)).Nodup ∧
      Lvl inn out k done W ∧ (rWait (W.map (tri inn out))).p wv B' ∧ (W ≠ [] → k < done.length) ∧ (∀ w ∈ W, ∀ c ∈ w, c ∈ Alph) ∧ μ = 2 * (4097 - done.length) + (if W = [] then 0 else 1)) (2 * 4096 + 1)
      ⟨b1.trans b2, 0, [[]], [[]], _, wv, none, none, none, none, none, none, none, rfl, rfl, fun q hq => ?_, ?_, by simp, ⟨fun v hv => ?_, fun v hv hi => ?_, fun v hv => ?_, fun v hv _ => hv, fun v hv => ?_, by simp⟩, ?_, fun _ => by decide, fun w hw => ?_, rfl⟩ d3 fun μ σ' M' B' hp d' => ?_
    · rw [List.mem_singleton.mp hq]
      exact ⟨hkb.up fun a xs e => b2 _ _ e, depth_pkey under over⟩
    · rw [List.map_cons, List.map_cons, inn0, out0]
      rfl
    · rw [List.eq_nil_of_length_eq_zero (Nat.le_zero.mp hv)]
      exact fun h => neo (by rw [← out0]; exact h.2)
    · rw [List.eq_nil_of_length_eq_zero (Nat.le_zero.mp hv)]
      exact ⟨[], List.mem_singleton.mpr rfl, rfl, rfl, .refl _⟩
    · rw [List.mem_singleton.mp hv]; exact Nat.le_refl _
    · rw [List.mem_singleton.mp hv]; rfl
    · show (rWait [([], inn [], out [])]).p wv B2
      rw [inn0, out0]
      exact hwv
    · rw [List.mem_singleton.mp hw]
      intro c hc
      cases hc
    obtain ⟨bb, k, done, W, kx, wv, o6, o7, o8, o9, o10, o11, o12, rfl, rfl, nok, keys, nd, lvl, hW, hk, halph, eμ⟩ := hp
    have dl := dlen done nd
    have wok : ∀ x ∈ W.map (tri inn out), WOk x.1 := fun x hx => by
      obtain ⟨v, hv, rfl⟩ := List.mem_map.mp hx
      have := hk (List.ne_nil_of_mem hv)
      refine ⟨?_, halph v hv⟩
      show v.length ≤ 100000
      rw [lvl.wl v hv]
      omega
    refine ⟨!decide (W = []), EvT.to (et_test (ev_neW (ev_v (U := rWait (W.map (tri inn out))) rfl hW) wok)) (by simp), fun ht B4 b4 d4 => ?_, fun ht B4 b4 d4 => ?_⟩
    · have hne : W ≠ [] := by simpa using ht
      have hkd := hk hne
      refine q_asgN (en_lst ea_nil (by show 0 ≤ 1000; decide)) d4 fun pl vs0 B5 b5 d5 hMl hBl hvs => ?_
      cases hvs
      have hls : pl ≠ ps := fun e => by rw [e, upd_same] at hMl; cases hMl
      have hMl0 : M pl = none := by rw [upd_ne hls] at hMl; exact hMl
      have sgl : (signsOf m').length < 64 := by
        have := List.length_filter_le (fun c => m'.any fun q => q.1.any fun p => p.1 == c) Alph
        show (signsOf m').length < 64
        unfold signsOf
        simp only [List.length_cons, List.length_nil] at this
        omega
      have sasc : (signsOf m').Pairwise (· < ·) := signsOf_asc
      have salph : ∀ c ∈ signsOf m', c ∈ Alph := fun c hc => (List.mem_filter.mp hc).1
      generalize esg : signsOf m' = sg at sgl sasc salph
      have frm : ∀ {B9 : Hp}, Same B5 B9 → (rForm c m).p _ B9 ∧ (rTup rNat over).p _ B9 ∧ (rForm c m').p _ B9 ∧ (rTup rNat under).p _ B9 := fun s9 => ⟨(rForm c m).up (bb.trans (b4.trans (b5.trans s9))) h1, (rTup rNat over).up (bb.trans (b4.trans (b5.trans s9))) h2, (rForm c m').up (bb.trans (b4.trans (b5.trans s9))) h3, (rTup rNat under).up (bb.trans (b4.trans (b5.trans s9))) h4⟩
      refine q_for3 (R := rTx) (S := rTup rNat) (T := rTup rNat) (xs := W.map (tri inn out)) (ei_list (ev_v (U := rWait (W.map (tri inn out))) rfl ((rWait _).up (b4.trans b5) hW))) (dj_m d5 hBl)
        (fun i σ9 M9 B9 => ∃ L kx vl o7 o8 o9 o10 o11 o12, M9 = upd (upd M ps (NDo P w ps kx)) pl (.lst vl) ∧ σ9 = [some _, some _, some _, some _, some (.ref ps), some wv, some (.ref pl), o7, o8, o9, o10, o11, o12] ∧ LvS inn out done L (Zw W sg i 0 []) kx vl B9)
        (fun i σ9 M9 B8 B9 s89 ⟨L, kx, vl, o7, o8, o9, o10, o11, o12, e1, e2, e3⟩ => ⟨L, kx, vl, o7, o8, o9, o10, o11, o12, e1, e2, e3.up s89⟩)
        (fun B9 b9 d9 => ⟨[], kx, [], _, _, _, _, _, _, rfl, rfl, ⟨nok_up (fun a xs e => (b4.trans (b5.trans b9)) _ _ e) nok, by rw [List.append_nil]; exact keys, by rw [List.append_nil]; exact nd, Beh.nil, .nil, fun w hw => by cases hw⟩⟩) (fun B0 i x v7 v8 v9 σ9 M9 B9 exi b0 b9 d9 hp hv7 hv8 hv9 => ?_) fun σ9 M9 B9 hp b9 d9 => ?_
      · obtain ⟨L, kx, vl, o7, o8, o9, o10, o11, o12, rfl, rfl, lvs⟩ := hp
        rw [List.getElem?_map] at exi
        obtain ⟨wd, ewd, rfl⟩ := Option.map_eq_some_iff.mp exi
        have hwd : wd ∈ W := List.mem_of_getElem? ewd
        have wlen : wd.length = k := lvl.wl wd hwd
        have hv7 : v7 = .str (tx wd) := hv7
        subst hv7
        have hv8 : (rTup rNat (inn wd)).p v8 B9 := hv8
        have hv9 : (rTup rNat (out wd)).p v9 B9 := hv9
        refine s_for (R := fun k : Nat => rTx [k]) (xs := sg) (ei_list (EvN.lst (R := fun k : Nat => rTx [k]) (en_sortTT (esg ▸ ev_signs (ev_v (U := rForm c m') rfl (frm (b0.trans b9)).2.2.1) wf' (by omega)) sasc sgl))) d9
          (fun j σ9 M9 B9 => ∃ L kx vl o10 o11 o12, M9 = upd (upd M ps (NDo P w ps kx)) pl (.lst vl) ∧ σ9 = [some _, some _, some _, some _, some (.ref ps), some wv, some (.ref pl), some (.str (tx wd)), some v8, some v9, o10, o11, o12] ∧ LvS inn out done L (Zw W sg i j wd) kx vl B9)
          (fun j σ9 M9 B8 B9 s89 ⟨L, kx, vl, o10, o11, o12, e1, e2, e3⟩ => ⟨L, kx, vl, o10, o11, o12, e1, e2, e3.up s89⟩)
          (fun B10 b10 d10 => ⟨L, kx, vl, _, _, _, rfl, rfl, lvs.up b10⟩) (fun B0' j sgn v10 σ10 M10 B10 exj b0' b10 d10 hp hv10 => ?_) fun σ10 M10 B10 hp b10 d10 => ?_
        · obtain ⟨L, kx, vl, o10, o11, o12, rfl, rfl, lvs⟩ := hp
          have hv10 : v10 = .str (tx [sgn]) := hv10
          subst hv10
          have s10 : Same B5 B10 := b0.trans (b9.trans (b0'.trans b10))
          have s9' : Same B9 B10 := b0'.trans b10
          have hsg : sgn ∈ Alph := salph sgn (List.mem_of_getElem? exj)
          refine q_par (U := rTup rNat (inn (wd ++ [sgn]))) (W := rTup rNat (out (wd ++ [sgn])))
            (innS wd sgn ▸ ev_read_on (ev_v (U := rForm c m') rfl (frm s10).2.2.1) (ev_v (U := rTup rNat under) rfl (frm s10).2.2.2) (ev_v (U := rTup rNat (inn wd)) rfl ((rTup rNat (inn wd)).up s9' hv8)) (ev_v (U := rTx [sgn]) rfl rfl) wf' (by omega) (by have := (innL wd).2; omega) fun s hs => ltu s ((innL wd).1 s hs))
            (fun {B11} b11 => outS wd sgn ▸ ev_read_on (ev_v (U := rForm c m) rfl (frm (s10.trans b11)).1) (ev_v (U := rTup rNat over) rfl (frm (s10.trans b11)).2.1) (ev_v (U := rTup rNat (out wd)) rfl ((rTup rNat (out wd)).up (s9'.trans b11) hv9)) (ev_v (U := rTx [sgn]) rfl rfl) wf (by omega) (by have := (outL wd).2; omega) fun s hs => lto s ((outL wd).1 s hs)) d10 fun iv ov B11 b11 d11 hiv hov => ?_
          generalize ef : wd ++ [sgn] = fw at hiv hov
          have flen : fw.length = k + 1 := by rw [← ef, List.length_append, wlen]; rfl
          have falph : ∀ c ∈ fw, c ∈ Alph := fun c hc => by
            rw [← ef] at hc
            rcases List.mem_append.mp hc with z | z
            · exact halph wd hwd c z
            · rw [List.mem_singleton.mp z]; exact hsg
          have zlt : ∀ z ∈ Zw W sg i j wd, Lx z fw := ef ▸ zw_lt lvl.asc sasc ewd exj
          have zs : Zw W sg i (j + 1) wd = Zw W sg i j wd ++ [fw] := ef ▸ zw_succ exj
          have ld : ∀ v ∈ done, v.length < fw.length := fun v hv => by have := lvl.lens v hv; omega
          have lvs11 := lvs.up b11
          have wadd : ∀ {σ9 : L2.St} {M9 B9 : Hp}, σ9[7]? = some (some (.str (tx wd))) → σ9[10]? = some (some (.str (tx [sgn]))) → Ev (tOp (fun x y H Q => ∃ i j, x = .str i ∧ y = .str j ∧ i.length + j.length ≤ sizeLine ∧ Q (.str (i ++ j)) H) (tVar 7) (tVar 10)) σ9 M9 B9 (rTx fw) := fun {σ9 M9 B9} e1 e2 => ef ▸ ev_addS (ev_v (U := rTx wd) (B := B9) e1 rfl) (ev_v (U := rTx [sgn]) e2 rfl) (by rw [wlen]; show k + 1 ≤ 100000; omega)
          refine q_if (b := (!decide (inn fw = [])) && decide (out fw = [])) (et_and (et_test (ev_neT0 (ev_v (U := rTup rNat (inn fw)) rfl hiv))) fun _ => et_test (ev_eqT0 (ev_v (U := rTup rNat (out fw)) rfl hov))) d11 (fun hb B12 b12 d12 => ?_) fun hb B12 b12 d12 => ?_
          · rw [Bool.and_eq_true] at hb
            have hlk : Lck inn out fw := ⟨by simpa using hb.1, of_decide_eq_true hb.2⟩
            have sM : Same M (upd (upd M ps (NDo P w ps kx)) pl (.lst vl)) := same_upd (same_new hMs) hMl0
            refine s_ret (U := rTx fw) (wadd rfl rfl) d12 fun v B13 b13 d13 hv13 => ?_
            obtain ⟨e1, dP, sP⟩ := pub_all sM d13
            rw [e1]
            refine q v _ (bb.trans (b4.trans (b5.trans (s10.trans (b11.trans (b12.trans (b13.trans sP))))))) dP ⟨some fw, ?_, hv13⟩
            have hle := lvl.least red hlk flen fun u hu c hl => by
              rw [← ef]
              refine zw_first lvl.asc sasc ewd exj hu ?_ fun hz => lvs.beh.no _ hz hl
              rw [← esg]
              exact sign_of wf' (states := inn u) (by rw [← innS]; exact hl.1)
            rw [← einn, ← eout] at hlk hle
            exact ⟨hlk, hle⟩
          · have nlk : ¬ Lck inn out fw := fun h => by
              rw [h.2, decide_eq_true rfl, Bool.and_true] at hb
              exact h.1 (by simpa using hb)
            refine s_if (b := (!decide (inn fw = [])) && (!decide (pkey (inn fw) (out fw) ∈ kx.map fun p : NX => p.1))) (et_and (et_test (ev_neT0 (ev_v (U := rTup rNat (inn fw)) rfl ((rTup rNat (inn fw)).up b12 hiv)))) fun _ => et_test (ev_ndNotIn (p := ps) (kx := kx) rfl (by rw [upd_ne (fun e => hls e.symm)]; exact upd_same) (nok_up (fun a xs e => (b11.trans b12) _ _ e) lvs.nok) (ev_pkey (ev_v (U := rTup rNat (inn fw)) rfl ((rTup rNat (inn fw)).up b12 hiv)) (ev_v (U := rTup rNat (out fw)) rfl ((rTup rNat (out fw)).up b12 hov))))) d12 (fun hb2 B13 b13 d13 => ?_) fun hb2 B13 b13 d13 => ?_
            · rw [Bool.and_eq_true] at hb2
              have hin : inn fw ≠ [] := by simpa using hb2.1
              have hnk : pkey (inn fw) (out fw) ∉ kx.map fun p : NX => p.1 := by simpa using hb2.2
              have s13 : Same B10 B13 := b11.trans (b12.trans b13)
              have lkx : kx.length ≤ 4096 := by
                have e1 := dlen _ lvs.nd
                have e2 := congrArg List.length lvs.keys
                rw [List.length_map, List.length_map] at e2
                omega
              have lvl' : vl.length ≤ 4096 := by
                have e1 := dlen _ lvs.nd
                have e2 := lvs.al.length
                rw [List.length_map] at e2
                rw [List.length_append] at e1
                omega
              refine q_ndPut (p := ps) (kx := kx) (y := .bl true) rfl (by rw [upd_ne (fun e => hls e.symm)]; exact upd_same) (nok_up (fun a xs e => s13 _ _ e) lvs.nok) ev_c (fun {B14} b14 => ev_pkey (ev_v (U := rTup rNat (inn fw)) rfl ((rTup rNat (inn fw)).up (b12.trans (b13.trans b14)) hiv)) (ev_v (U := rTup rNat (out fw)) rfl ((rTup rNat (out fw)).up (b12.trans (b13.trans b14)) hov))) hnk (by omega) d13 fun b' B14 b14 d14 hok14 => ?_
              have s14 : Same B10 B14 := s13.trans b14
              refine s_app (l := pl) (xs := vl) (U := rTr rTx (rTup rNat) (rTup rNat) (tri inn out fw)) rfl (by rw [upd_ne hls]; exact upd_same) (ev_tr (R := rTx) (S := rTup rNat) (T := rTup rNat) (x := fw) (y := inn fw) (z := out fw) (wadd rfl rfl) (ev_v (U := rTup rNat (inn fw)) rfl ((rTup rNat (inn fw)).up (b12.trans (b13.trans b14)) hiv)) (ev_v (U := rTup rNat (out fw)) rfl ((rTup rNat (out fw)).up (b12.trans (b13.trans b14)) hov))) d14 (by omega) fun v15 B15 b15 d15 hv15 => ?_
              refine ⟨_, B15, rfl, d15, b10.trans (s14.trans b15), L ++ [fw], kx ++ [(pkey (inn fw) (out fw), b', .bl true)], vl ++ [v15], _, _, _, ?_, rfl, ?_⟩
              · funext a
                by_cases e1 : a = pl
                · subst e1
                  rw [upd_same, upd_same]
                · by_cases e2 : a = ps
                  · subst e2
                    rw [upd_ne e1, upd_same, upd_ne e1, upd_same]
                    all_goals rfl
                  · rw [upd_ne e1, upd_ne e2, upd_ne e1, upd_ne e2, upd_ne e1, upd_ne e2]
              · rw [zs]
                exact lvs.put hnk (nok_up (fun a xs e => b15 _ _ e) hok14) (lvs.beh.put nlk zlt) (s14.trans b15) hv15 falph
            · refine ⟨_, B13, rfl, d13, b10.trans (b11.trans (b12.trans b13)), L, kx, vl, _, _, _, rfl, rfl, ?_⟩
              rw [zs]
              refine (lvs11.up (b12.trans b13)).to ?_
              by_cases hin : inn fw = []
              · exact lvs.beh.skip hin
              · rw [decide_eq_false hin, Bool.not_false, Bool.true_and] at hb2
                have hk2 : pkey (inn fw) (out fw) ∈ kx.map fun p : NX => p.1 := by simpa using hb2
                obtain ⟨v, hv, e1, e2⟩ := lvs.has.mp hk2
                exact lvs.beh.seen nlk zlt ld hv e1 e2
        · obtain ⟨L, kx, vl, o10, o11, o12, rfl, rfl, lvs⟩ := hp
          exact ⟨_, B10, rfl, d10, b9.trans b10, L, kx, vl, _, _, _, _, _, _, rfl, rfl, (zw_row ewd (v := [])) ▸ lvs⟩
      · obtain ⟨L, kx, vl, o7, o8, o9, o10, o11, o12, rfl, rfl, lvs⟩ := hp
        rw [List.length_map] at lvs
        have hB9l : B9 pl = none := dj_none d9 upd_same
        have hMl1 : (upd M ps (NDo P w ps kx)) pl = none := by rw [upd_ne hls]; exact hMl0
        rw [jn_pub hMl1]
        have sB : Same B9 (upd B9 pl (.lst vl)) := same_new hB9l
        have dP : Dj (upd B9 pl (.lst vl)) (upd M ps (NDo P w ps kx)) := dj_b (dj_sub hMl1 d9) hMl1
        refine s_asg (U := rWait (L.map (tri inn out))) (EvN.lst (en_listL (ev_v (U := rWait (L.map (tri inn out))) rfl ⟨pl, vl, rfl, upd_same, lvs.al.up sB⟩))) dP fun v10 B10 b10 d10 hv10 => ?_
        have zmem : ∀ v ∈ W, ∀ d, inn (v ++ [d]) ≠ [] → v ++ [d] ∈ Zw W sg W.length 0 [] := fun v hv d hd => by
          refine List.mem_append_left _ (List.mem_flatMap.mpr ⟨v, by rw [List.take_length]; exact hv, List.mem_map.mpr ⟨d, ?_, rfl⟩⟩)
          rw [← esg]
          exact sign_of wf' (states := inn v) (by rw [← innS]; exact hd)
        have zlen : ∀ z ∈ Zw W sg W.length 0 [], z.length = k + 1 := fun z hz => by
          rcases List.mem_append.mp hz with h | h
          · obtain ⟨v, hv, h⟩ := List.mem_flatMap.mp h
            obtain ⟨d, _, rfl⟩ := List.mem_map.mp h
            rw [List.take_length] at hv
            rw [List.length_append, lvl.wl v hv]
            rfl
          · rw [List.take_zero] at h
            cases h
        have dl2 := dlen _ lvs.nd
        rw [List.length_append] at dl2
        refine ⟨2 * (4097 - (done ++ L).length) + (if L = [] then 0 else 1), _, B10, ?_, rfl, d10, bb.trans (b4.trans (b5.trans (b9.trans (sB.trans b10)))), k + 1, done ++ L, L, kx, v10, _, _, _, _, _, _, _, rfl, rfl, nok_up (fun a xs e => (sB.trans b10) _ _ e) lvs.nok, lvs.keys, lvs.nd, lvl.next red lvs.beh zmem zlen, hv10, fun h => ?_, lvs.alph, rfl⟩
        · rw [List.length_append, if_neg hne] at *
          by_cases hL : L = []
          · subst hL
            rw [if_pos rfl, List.length_nil]
            omega
          · have := List.length_pos_iff.mpr hL
            rw [if_neg hL]
            omega
        · have := List.length_pos_iff.mpr h
          rw [List.length_append]
          omega
    · have hW0 : W = [] := by simpa using ht
      subst hW0
      have hB4 : B4 ps = none := dj_none d4 upd_same
      rw [jn_pub hMs]
      have sB : Same B4 (upd B4 ps (NDo P w ps kx)) := same_new hB4
      refine s_ret (U := rEx (Told m over m' under) rWd) (Ev.to (ev_c (x := .non)) fun v B5 _ h5 => ⟨none, ?_, h5⟩) (dj_b (dj_sub hMs d4) hMs) fun v B5 b5 d5 hv => q v B5 (bb.trans (b4.trans (sB.trans b5))) d5 hv
      have := lvl.none red
      rw [← einn, ← eout] at this
      exact this
end
end Zb
end
section
set_option Elab.async false
set_option linter.all false
set_option maxRecDepth 100000
/-! Zs17: the walk: covers, lacking_piece. -/
namespace Zb
open PySem PySem.Spec PyProof.Rows L2 SlX
/-- each piece of the one is a piece of the other -/
def Cov (m : Mach) (over : List Nat) (m' : Mach) (under : List Nat) : Prop := ∀ w, Pieces m' under w → Pieces m over w
theorem told_none {m m' : Mach} {over under : List Nat} : Told m over m' under none ↔ Cov m over m' under := by
  constructor
  · intro h w hw
    exact fun e => h w ⟨hw, e⟩
  · intro h w hw
    exact h w hw.1 hw.2
abbrev s_lacking_piece : Stmt := top 61
theorem sc_lacking_piece : FnScope ["target", "over", "source", "under"] ["target", "over", "source", "under"] (defScope s_lacking_piece) := ⟨rfl, rfl, rfl, by decide +kernel, rfl, by decide +kernel, by decide +kernel⟩
def sp_lacking_piece (c : Cs) : Sp := spF (α := Mach × List Nat × Mach × List Nat) (aCov c) okCov (fun x => rEx (Told x.1 x.2.1 x.2.2.1 x.2.2.2) rWd)
abbrev s_covers : Stmt := top 62
theorem sc_covers : FnScope ["target", "over", "source", "under"] ["target", "over", "source", "under"] (defScope s_covers) := ⟨rfl, rfl, rfl, by decide +kernel, rfl, by decide +kernel, by decide +kernel⟩
def sp_covers (c : Cs) : Sp := spF (α := Mach × List Nat × Mach × List Nat) (aCov c) okCov (fun x => rBl (dec (Cov x.1 x.2.1 x.2.2.1 x.2.2.2)))
section
variable {c : Cs} {K : PySem.W.Frag} {σ : L2.St} {M B : Hp} {ta tb tc td : TE}
theorem ea_cov (x : Mach × List Nat × Mach × List Nat) (h1 : Ev ta σ M B (rForm c x.1)) (h2 : Ev tb σ M B (rTup rNat x.2.1)) (h3 : Ev tc σ M B (rForm c x.2.2.1)) (h4 : Ev td σ M B (rTup rNat x.2.2.2)) : EvA (tCons ta (tCons tb (tCons tc (tCons td tNil)))) σ M B (aCov c x) := ea_cons h1 (ea_cons h2 (ea_cons h3 (ea_cons h4 ea_nil)))
end
section
variable {P : Program} {w : World} {K : PySem.W.Frag} {mg : Str → Option Value} {base : Heap} {c : Cs}
theorem c_lacking_piece (D : Def K mg "lacking_piece" s_lacking_piece) (c_require_rings : Cal P w K mg base 5 "require_rings" (sp_require_rings c)) (c_first_lack : Cal P w K mg base 3 "first_lack" (sp_first_lack c)) : Cal P w K mg base 6 "lacking_piece" (sp_lacking_piece c) :=
  cal_of D sc_lacking_piece (fun _ _ _ _ _ _ us hl => match us, hl with | [_, _, _, _], _ => rfl) (spF_len fun _ => rfl) fun f cdv A outer s H vs Q E hr h => by
  obtain ⟨x, B, M, rfl, d, ok, al, q⟩ := h
  have sc := sc_lacking_piece
  refine ⟨_, (pss_cons (ps_expr (pe_cal c_require_rings hr (by decide) (by rfl) (pa_cons (pv 0) (pa_cons (pv 1) (pa_cons (pv 2) (pa_cons (pv 3) pa_nil))))))
      (pss_one (ps_ret (pe_cal c_first_lack hr (by decide) (by rfl) (pa_cons (pv 0) (pa_cons (pv 1) (pa_cons (pv 2) (pa_cons (pv 3) pa_nil)))))))), ?_⟩
  cases al with
  | cons h1 al => cases al with
  | cons h2 al => cases al with
  | cons h3 al => cases al with
  | cons h4 al =>
    cases al
    refine q_drop (ev_call (A := aCov c) (R := fun _ : Mach × List Nat × Mach × List Nat => rNon) x (ea_cov x (ev_v rfl h1) (ev_v rfl h2) (ev_v rfl h3) (ev_v rfl h4)) ok) d fun B1 b1 d1 => ?_
    exact s_ret (U := rEx (Told x.1 x.2.1 x.2.2.1 x.2.2.2) rWd) (ev_call (A := aCov c) (R := fun x : Mach × List Nat × Mach × List Nat => rEx (Told x.1 x.2.1 x.2.2.1 x.2.2.2) rWd) x (ea_cov x (ev_v rfl ((rForm c x.1).up b1 h1)) (ev_v rfl ((rTup rNat x.2.1).up b1 h2)) (ev_v rfl ((rForm c x.2.2.1).up b1 h3)) (ev_v rfl ((rTup rNat x.2.2.2).up b1 h4))) ok) d1 fun v B2 b2 d2 hv => q v B2 (b1.trans b2) d2 hv
theorem c_covers (D : Def K mg "covers" s_covers) (c_require_rings : Cal P w K mg base 5 "require_rings" (sp_require_rings c)) (c_first_lack : Cal P w K mg base 3 "first_lack" (sp_first_lack c)) : Cal P w K mg base 6 "covers" (sp_covers c) :=
  cal_of D sc_covers (fun _ _ _ _ _ _ us hl => match us, hl with | [_, _, _, _], _ => rfl) (spF_len fun _ => rfl) fun f cdv A outer s H vs Q E hr h => by
  obtain ⟨x, B, M, rfl, d, ok, al, q⟩ := h
  have sc := sc_covers
  refine ⟨_, (pss_cons (ps_expr (pe_cal c_require_rings hr (by decide) (by rfl) (pa_cons (pv 0) (pa_cons (pv 1) (pa_cons (pv 2) (pa_cons (pv 3) pa_nil))))))
      (pss_one (ps_ret (pe_cmpR op_isN (pe_cal c_first_lack hr (by decide) (by rfl) (pa_cons (pv 0) (pa_cons (pv 1) (pa_cons (pv 2) (pa_cons (pv 3) pa_nil))))) pe_non (nomark _))))), ?_⟩
  cases al with
  | cons h1 al => cases al with
  | cons h2 al => cases al with
  | cons h3 al => cases al with
  | cons h4 al =>
    cases al
    refine q_drop (ev_call (A := aCov c) (R := fun _ : Mach × List Nat × Mach × List Nat => rNon) x (ea_cov x (ev_v rfl h1) (ev_v rfl h2) (ev_v rfl h3) (ev_v rfl h4)) ok) d fun B1 b1 d1 => ?_
    refine s_ret (U := rBl (dec (Cov x.1 x.2.1 x.2.2.1 x.2.2.2))) (ev_op0 (z := .bl (dec (Cov x.1 x.2.1 x.2.2.1 x.2.2.2))) (Ub := rNon) (ev_call (A := aCov c) (R := fun x : Mach × List Nat × Mach × List Nat => rEx (Told x.1 x.2.1 x.2.2.1 x.2.2.2) rWd) x (ea_cov x (ev_v rfl ((rForm c x.1).up b1 h1)) (ev_v rfl ((rTup rNat x.2.1).up b1 h2)) (ev_v rfl ((rForm c x.2.2.1).up b1 h3)) (ev_v rfl ((rTup rNat x.2.2.2).up b1 h4))) ok) ev_c fun y z M2 B2 _ _ _ hy hz Q2 q2 => ?_) d1 fun v B2 b2 d2 hv => q v B2 (b1.trans b2) d2 hv
    obtain ⟨r, hr, hy⟩ := hy
    cases r with
    | none =>
      rw [dec_iff.mpr (told_none.mp hr)] at q2
      rw [show y = .non from hy]
      exact ⟨hz, q2⟩
    | some f =>
      have e : dec (Cov x.1 x.2.1 x.2.2.1 x.2.2.2) = false := by
        cases z2 : dec (Cov x.1 x.2.1 x.2.2.1 x.2.2.2) with
        | false => rfl
        | true => exact absurd hr.1 (told_none.mpr (dec_iff.mp z2) f)
      rw [e] at q2
      rw [show y = .str (tx f) from hy]
      exact ⟨hz, q2⟩
end
end Zb
end
section
set_option Elab.async false
set_option linter.all false
set_option maxRecDepth 100000
/-! Zr3: max(xs, default=d). -/
namespace Zb
open PySem PySem.Spec PyProof.Rows L2
def rMaxDf (K : PySem.W.Frag) : List V → List V → Hp → VK → Prop := fun xs zs H Q => ∃ (a : Addr) (ns : List Int) (d : Int), xs = [.ref a] ∧ zs = [.int d] ∧ SqL K H a (ns.map V.int) ∧ (ns = [] → Q (.int d) H) ∧ ∀ m, m ∈ ns → (∀ y, y ∈ ns → y ≤ m) → Q (.int m) H
theorem fold_max : ∀ (ns : List Int) (n : Int), (ns.foldl max n ∈ n :: ns) ∧ ∀ y ∈ n :: ns, y ≤ ns.foldl max n
  | [], n => ⟨List.mem_singleton.mpr rfl, fun y hy => by rw [List.mem_singleton.mp hy]; exact Int.le_refl _⟩
  | k :: ns, n => by
    obtain ⟨h1, h2⟩ := fold_max ns (max n k)
    have hm := h2 (max n k) List.mem_cons_self
    refine ⟨?_, fun y hy => ?_⟩
    · rcases List.mem_cons.mp h1 with e | e
      · show List.foldl max (max n k) ns ∈ _
        rw [e]
        by_cases z : n ≤ k
        · rw [Int.max_eq_right z]
          exact List.mem_cons_of_mem _ List.mem_cons_self
        · rw [Int.max_eq_left (by omega)]
          exact List.mem_cons_self
      · exact List.mem_cons_of_mem _ (List.mem_cons_of_mem _ e)
    · show y ≤ List.foldl max (max n k) ns
      rcases List.mem_cons.mp hy with rfl | hy
      · omega
      · rcases List.mem_cons.mp hy with rfl | hy
        · omega
        · exact h2 y (List.mem_cons_of_mem _ hy)
theorem alike_ints (ns : List Int) : PySem.W.AlikeAll (ns.map PyData.int) := ⟨fun x hx y hy => by
  obtain ⟨a, _, rfl⟩ := List.mem_map.mp hx
  obtain ⟨b, _, rfl⟩ := List.mem_map.mp hy
  rfl, fun x hx => by
  obtain ⟨a, _, rfl⟩ := List.mem_map.mp hx
  intro h
  cases h⟩
theorem depth_ints : ∀ ns : List Int, PyData.depthAll (ns.map PyData.int) = 0
  | [] => rfl
  | x :: ns => by
    show max 0 (PyData.depthAll (ns.map PyData.int)) = 0
    rw [depth_ints ns]
    rfl
theorem dpall_int {K : PySem.W.Frag} {H : Hp} : ∀ {ns : List Int}, DpAll K H (ns.map V.int) (ns.map PyData.int)
  | [] => .nil
  | _ :: _ => .cons (.int _) dpall_int
theorem cr_maxDf {X : Cx} (K : PySem.W.Frag) (hK : X.K = K) (hc : X.calm = true) (hu : X.A.units + 1 < cLine) : CallRK X (.builtin "max") [Str.ofString "default"] (rMaxDf K) := by
  subst hK
  intro pins s σ H xs zs us ws Q I rx rz h
  obtain ⟨a, ns, d, rfl, rfl, hs, q0, q⟩ := h
  rw [Vals.ref1 rx]
  obtain ⟨w, rfl, rw'⟩ := vals1 rz
  obtain ⟨t, rfl⟩ := rw'
  obtain ⟨its, rv, hl, _⟩ := I.list hs
  obtain ⟨as, ra⟩ := Dp.readsAll I (ns.map PyData.int) (ns.map V.int) its dpall_int rv
  refine PySem.W.max_list_default (A := X.A) (vs := its.toArray) (xs := ns.map PyData.int) (as := as) (I.ok.hd hc) hl.isList (by simpa using ra) (alike_ints ns) (by rw [depth_ints]; exact hu) (fun e h' tk k => ?_) fun y ys i v h' tk bs e hv r k => ?_
  · exact ⟨.int d, H, I.kept (t' := tk) k, ⟨t, rfl⟩, q0 (List.map_eq_nil_iff.mp e)⟩
  · cases ns with
    | nil => cases e
    | cons n ns =>
      rw [List.map_cons] at e
      injection e with e1 e2
      subst e1 e2
      rw [PySem.W.maxD_ints] at r
      obtain ⟨h1, h2⟩ := fold_max ns n
      cases r with
      | int => exact ⟨.int _, H, I.kept (t' := tk) k, ⟨_, rfl⟩, q _ h1 h2⟩
end Zb
end
section
set_option Elab.async false
set_option linter.all false
set_option maxRecDepth 100000
/-! Zr4: d.values() of a dict with tuple keys, the greatest of them. -/
namespace Zb
open PySem PySem.Spec PyProof.Rows L2
section
variable {X : Cx} {pins : List (Addr × Obj)} {σ : L2.St} {H : Hp} {s : Shared} {a : Addr} {kvs : List (List Key × V)}
/-- the dict's object, its entries' values -/
theorem dt_raw (I : Inv X pins σ H s) (h : H a = some (.dT kvs)) : (a == sysModules) = false ∧ ∃ o es ep, s.heap.get? a = some o ∧ o.ExactDict ∧ o.data = .dict es ep ∧ es.size = kvs.length ∧ ∀ (i : Nat) (k : List Key) (v : V), kvs[i]? = some (k, v) → ∃ e, es[i]? = some e ∧ RelV v e.val := by
  obtain ⟨_, hs, xs, r, o, es, ep, ho, hx, hd, he, _⟩ := (show ObjOk X.prog X.w H s.heap a (.dT kvs) from I.hok a _ h)
  have hl : es.size = xs.length := by
    have := congrArg List.length he
    rwa [Array.length_toList, List.length_map] at this
  refine ⟨hs, o, es, ep, ho, hx, hd, by rw [hl, Paired.length r], fun i k v hi => ?_⟩
  have go : ∀ {kvs : List (List Key × V)} {xs : List (List Key × Addr × Value)} (i : Nat), Paired (fun (p : List Key × V) (q : List Key × Addr × Value) => p.1 = q.1 ∧ H q.2.1 = some (.tup (p.1.map kV)) ∧ RelV p.2 q.2.2) kvs xs → ∀ p, kvs[i]? = some p → ∃ q, xs[i]? = some q ∧ RelV p.2 q.2.2 := by
    intro kvs xs i r
    induction r generalizing i with
    | nil => intro p h; simp at h
    | cons h t ih =>
      intro p hp
      cases i with
      | zero => simp at hp; subst hp; exact ⟨_, rfl, h.2.2⟩
      | succ i => simpa using ih i p (by simpa using hp)
  obtain ⟨q, hq, rq⟩ := go i r _ hi
  have e1 : es.toList[i]? = (xs.map (entryOfKey (tupleKind (mixKind X.prog X.w))))[i]? := by rw [he]
  rw [List.getElem?_map, hq, Array.getElem?_toList] at e1
  exact ⟨_, e1, rq⟩
def rValsT : V → List V → Hp → VK → Prop := fun x xs H Q => ∃ (a : Addr) (kvs : List (List Key × V)), x = .ref a ∧ xs = [] ∧ H a = some (.dT kvs) ∧ ∀ p, H p = none → Q (.ref p) (upd H p (viewO "dict_values" p a))
theorem mt_valuesT : MtR X "dict.values" rValsT := by
  intro pins s σ H x xs v us Q I rx rxs h
  obtain ⟨a, kvs, rfl, rfl, ha, q⟩ := h
  cases rxs
  cases (show v = Value.ref a from rx)
  obtain ⟨hs, o, es, ep, ho, hx, hd, _, _⟩ := dt_raw I ha
  refine call_meetsIn PySem.F.slot_dict_values ⟨o, ho, hx.1⟩ PySem.F.entry_dict_values (PySem.F.args_dict_values_1 _) (meets_dict_values_raw a hs) ⟨⟨es, ep, o, ho, hx, hd⟩, ?_⟩
  exact ⟨.ref s.heap.objs.size, _, I.laid (t' := s.toks) (fun b o q => Heap.get?_push_of_some _ q) (Nat.le_refl _) (viewO_ok (Heap.get?_push_size _ rfl)), rfl, q _ (I.hok.fresh (Nat.le_refl _))⟩
def rMaxVT : List V → Hp → VK → Prop := fun xs H Q => ∃ (p a : Addr) (kvs : List (List Key × V)) (ns : List Int), xs = [.ref p] ∧ H p = some (viewO "dict_values" p a) ∧ H a = some (.dT kvs) ∧ kvs.map Prod.snd = ns.map V.int ∧ 0 < ns.length ∧ ∀ m, m ∈ ns → (∀ y, y ∈ ns → y ≤ m) → Q (.int m) H
theorem cr_maxVT (hc : X.calm = true) : CallR X (.builtin "max") rMaxVT := by
  intro pins s σ H xs us Q I rx h
  obtain ⟨p, a, kvs, ns, rfl, hp, ha, hns, hne, q⟩ := h
  rw [Vals.ref1 rx]
  obtain ⟨hs, o, es, ep, ho, hx, hd, hsz0, hat⟩ := dt_raw I ha
  have hv : s.heap.get? p = some (DSub.viewOb "dict_values" a) := (show ObjOk X.prog X.w H s.heap p (viewO "dict_values" p a) from I.hok p _ hp).1
  have hkn : kvs.length = ns.length := by
    have e := congrArg List.length hns
    rwa [List.length_map, List.length_map] at e
  have hsz : es.size = ns.length := hsz0.trans hkn
  have hP : ∀ (i : Nat) (e : DictEntry), es[i]? = some e → ∃ t, e.val = .int (ns.getD i 0) t := fun i e he => by
    have hi : i < es.size := (Array.getElem?_eq_some_iff.mp he).1
    have hi2 : i < kvs.length := by omega
    have hi3 : i < ns.length := by omega
    obtain ⟨e', he', r⟩ := hat i kvs[i].1 kvs[i].2 (List.getElem?_eq_getElem hi2)
    rw [he] at he'
    cases he'
    have z : (kvs.map Prod.snd)[i]? = (ns.map V.int)[i]? := by rw [hns]
    rw [List.getElem?_map, List.getElem?_map, List.getElem?_eq_getElem hi2, List.getElem?_eq_getElem hi3] at z
    rw [show kvs[i].2 = V.int ns[i] from Option.some.inj z] at r
    rw [List.getD_eq_getElem?_getD, List.getElem?_eq_getElem hi3]
    exact r
  have hlt : a < s.heap.objs.size := Heap.lt_size ho
  refine call_max_walk (DSub.iter_vals hv ho hd ?_)
  refine ⟨s.heap.objs.size, [s.heap.objs.size, a], [s.heap.objs.size], es.size, fun i v => ∃ t, v = .int (ns.getD i 0) t, _, fun i j => decide (ns.getD i 0 > ns.getD j 0), rfl, DSub.walksVal (a := a) (show X.A.in1.handled = none from I.ok.hd hc) (Nat.ne_of_lt hlt) hd hP, ⟨Heap.get?_push_size _ rfl, Heap.get?_push_of_some _ ho⟩, fun b hb => ?_, by omega, CmpOf.ints_gt (fun i => ns.getD i 0) (fun i v z => z), fun v h' tk hv' hk => ?_⟩
  · rw [size_push']
    rcases List.mem_cons.mp hb with z | z
    · rw [z]
      exact Nat.lt_succ_of_le (Nat.le_refl _)
    · rw [List.mem_singleton.mp z]
      exact Nat.lt_succ_of_lt hlt
  · obtain ⟨t, rfl⟩ := hv'
    obtain ⟨m1, m2⟩ := argBest_gt (fun i => ns.getD i 0) (es.size - 1)
    refine ⟨.int _, H, I.kept (t' := tk) (fun b o e => hk b o (fun z => by rw [List.mem_singleton.mp z] at e; exact absurd (Heap.lt_size e) (Nat.lt_irrefl _)) (Heap.get?_push_of_some _ e)), ⟨t, rfl⟩, q _ (PySem.getD_mem (by have z : argBest (fun i j => decide (ns.getD i 0 > ns.getD j 0)) (es.size - 1) ≤ es.size - 1 := m1; omega)) fun y hy => ?_⟩
    obtain ⟨j, hj, e⟩ := List.mem_iff_getElem.mp hy
    have z := m2 j (by omega)
    have e3 : ns.getD j 0 = y := by rw [List.getD_eq_getElem?_getD, List.getElem?_eq_getElem hj, ← e]; rfl
    rw [e3] at z
    exact z
end
end Zb
end
section
set_option Elab.async false
set_option linter.all false
/-! Zp1: plain law: what reading in a ring is; a machine and what it leads onto cover each other's rings. -/
namespace Zb
/-- reading w from s to t, by states of R -/
def Rn (m : Mach) (R : Nat → Prop) : Nat → List Nat → Nat → Prop
  | s, [], t => s = t
  | s, c :: w, t => ∃ u, R u ∧ (rowAt m s).lookup c = some u ∧ Rn m R u w t
theorem mem_readOn {m : Mach} {ring states : List Nat} {c t : Nat} : t ∈ readOn m ring states c ↔ t ∈ ring ∧ ∃ s ∈ states, (rowAt m s).lookup c = some t := by
  unfold readOn
  rw [List.mem_filter, decide_eq_true_eq, List.mem_filterMap]
theorem mem_readW {m : Mach} {ring : List Nat} {t : Nat} : ∀ {w states : List Nat}, t ∈ readW m ring states w ↔ ∃ s ∈ states, Rn m (· ∈ ring) s w t
  | [], states => by
    show t ∈ states ↔ ∃ s ∈ states, s = t
    simp
  | c :: w, states => by
    show t ∈ readW m ring (readOn m ring states c) w ↔ _
    rw [mem_readW (w := w)]
    constructor
    · rintro ⟨u, hu, hr⟩
      obtain ⟨h1, s, hs, e⟩ := mem_readOn.mp hu
      exact ⟨s, hs, u, h1, e, hr⟩
    · rintro ⟨s, hs, u, h1, e, hr⟩
      exact ⟨u, mem_readOn.mpr ⟨h1, s, hs, e⟩, hr⟩
theorem pieces_iff {m : Mach} {ring w : List Nat} : Pieces m ring w ↔ ∃ s ∈ ring, ∃ t, Rn m (· ∈ ring) s w t := by
  unfold Pieces
  constructor
  · intro h
    obtain ⟨t, ht⟩ := List.exists_mem_of_ne_nil _ h
    obtain ⟨s, hs, hr⟩ := mem_readW.mp ht
    exact ⟨s, hs, t, hr⟩
  · rintro ⟨s, hs, t, hr⟩
    exact List.ne_nil_of_mem (mem_readW.mpr ⟨s, hs, hr⟩)
theorem Rn.imp {m : Mach} {R S : Nat → Prop} (h : ∀ x, R x → S x) : ∀ {w : List Nat} {s t : Nat}, Rn m R s w t → Rn m S s w t
  | [], _, _, e => e
  | _ :: _, _, _, ⟨u, hu, e, r⟩ => ⟨u, h u hu, e, Rn.imp h r⟩
theorem Rn.append {m : Mach} {R : Nat → Prop} {v : List Nat} {t x : Nat} : ∀ {w : List Nat} {s : Nat}, Rn m R s w t → Rn m R t v x → Rn m R s (w ++ v) x
  | [], _, e, k => by
    cases (show _ = _ from e)
    exact k
  | _ :: _, _, ⟨u, hu, e, r⟩, k => ⟨u, hu, e, Rn.append r k⟩
/-! ### a homomorphism and ways -/
theorem lookup_map {r : Row} {f : Nat → Nat} {c : Nat} : (r.map fun q => (q.1, f q.2)).lookup c = (r.lookup c).map f := by
  induction r with
  | nil => rfl
  | cons q r ih =>
    obtain ⟨a, b⟩ := q
    rw [List.map_cons, List.lookup_cons, List.lookup_cons]
    by_cases h : c = a
    · subst h
      simp
    · rw [beq_false_of_ne h]
      exact ih
section
variable {m m' : Mach} {h : Nat → Nat}
theorem Hom.edge (H : Hom m m' h) {s c t : Nat} (e : (c, t) ∈ rowAt m s) : (c, h t) ∈ rowAt m' (h s) := by
  have hs : s < m.length := Nat.lt_of_not_le fun z => by rw [rowAt_none z] at e; simp at e
  rw [H.row s hs]
  exact List.mem_map.mpr ⟨(c, t), e, rfl⟩
theorem Hom.pth (H : Hom m m' h) {s t : Nat} (p : Pth m s t) : Pth m' (h s) (h t) := by
  induction p with
  | refl => exact .refl _
  | snoc _ e ih => exact .snoc ih (H.edge e)
theorem Hom.look (H : Hom m m' h) {s c : Nat} (hs : s < m.length) : (rowAt m' (h s)).lookup c = ((rowAt m s).lookup c).map h := by
  rw [H.row s hs, lookup_map]
theorem Hom.run (H : Hom m m' h) (wf : Wf m) {R : Nat → Prop} {w : List Nat} {s t : Nat} (hs : s < m.length) (r : Rn m R s w t) : Rn m' (fun y => ∃ x, R x ∧ h x = y) (h s) w (h t) := by
  induction w generalizing s with
  | nil =>
    cases (show _ = _ from r)
    rfl
  | cons c w ih =>
    obtain ⟨u, hu, e, r⟩ := r
    exact ⟨h u, ⟨u, hu, rfl⟩, by rw [H.look hs, e]; rfl, ih (wf.to (lookup_mem e)) r⟩
/-- the ring of m' in which a ring of m lies -/
theorem cov_up (H : Hom m m' h) (wf : Wf m) {U : List Nat} (hU : U ∈ rings m) : ∃ O ∈ rings m', ∀ w, Pieces m U w → Pieces m' O w := by
  obtain ⟨h1, h2⟩ := mem_rings.mp hU
  obtain ⟨s, hs, q, hq, hq2⟩ := movesIn_iff.mp h2
  have hsl := part_lt h1 hs
  have inO : ∀ x ∈ U, h x ∈ conn m' (h s) := fun x hx => by
    have e := part_conn h1 hs
    rw [e] at hx
    obtain ⟨a1, a2, a3⟩ := mem_conn.mp hx
    exact mem_conn.mpr ⟨H.lt x a1, H.pth a2, H.pth a3⟩
  refine ⟨conn m' (h s), mem_rings.mpr ⟨mem_parts.mpr ⟨h s, H.lt s hsl, rfl⟩, movesIn_iff.mpr ⟨h s, inO s hs, (q.1, h q.2), H.edge hq, inO q.2 hq2⟩⟩, fun w hw => ?_⟩
  obtain ⟨x, hx, t, r⟩ := pieces_iff.mp hw
  exact pieces_iff.mpr ⟨h x, inO x hx, h t, (H.run wf (part_lt h1 hx) r).imp fun y ⟨z, hz, e⟩ => e ▸ inO z hz⟩
/-! ### a sink -/
inductive RP (m : Mach) (R : Nat → Prop) : Nat → Nat → Prop where
  | refl (i : Nat) : RP m R i i
  | snoc {i j c k : Nat} : RP m R i j → (c, k) ∈ rowAt m j → R k → RP m R i k
theorem RP.trans {R : Nat → Prop} {i j k : Nat} (a : RP m R i j) (b : RP m R j k) : RP m R i k := by
  induction b with
  | refl => exact a
  | snoc _ e r ih => exact .snoc ih e r
theorem RP.pth {R : Nat → Prop} {i j : Nat} (a : RP m R i j) : Pth m i j := by
  induction a with
  | refl => exact .refl _
  | snoc _ e _ ih => exact .snoc ih e
theorem RP.in {R : Nat → Prop} {i j : Nat} (a : RP m R i j) (hi : R i) : R j := by
  cases a with
  | refl => exact hi
  | snoc _ _ r => exact r
theorem least_of {α : Type} (f : α → Nat) : ∀ {xs : List α}, xs ≠ [] → ∃ u ∈ xs, ∀ v ∈ xs, f u ≤ f v
  | [], h => absurd rfl h
  | [x], _ => ⟨x, List.mem_singleton.mpr rfl, fun v hv => by rw [List.mem_singleton.mp hv]; exact Nat.le_refl _⟩
  | x :: y :: xs, _ => by
    obtain ⟨u, hu, hm⟩ := least_of f (xs := y :: xs) (by simp)
    by_cases h : f x ≤ f u
    · exact ⟨x, List.mem_cons_self, fun v hv => by
        rcases List.mem_cons.mp hv with rfl | hv
        · exact Nat.le_refl _
        · exact Nat.le_trans h (hm v hv)⟩
    · exact ⟨u, List.mem_cons_of_mem _ hu, fun v hv => by
        rcases List.mem_cons.mp hv with rfl | hv
        · omega
        · exact hm v hv⟩
/-- some state from which every way in R leads back -/
theorem sink (wf : Wf m) {R : Nat → Prop} {s : Nat} (hs : s < m.length) (hR : R s) : ∃ u, u < m.length ∧ R u ∧ ∀ t, RP m R u t → RP m R t u := by
  let A := (List.range m.length).filter fun t => dec (R t)
  let f : Nat → List Nat := fun u => (List.range m.length).filter fun t => dec (RP m R u t)
  have hA : ∀ x, x ∈ A ↔ x < m.length ∧ R x := fun x => by
    show x ∈ (List.range m.length).filter _ ↔ _
    rw [List.mem_filter, List.mem_range, dec_iff]
  have hf : ∀ u x, x ∈ f u ↔ x < m.length ∧ RP m R u x := fun u x => by
    show x ∈ (List.range m.length).filter _ ↔ _
    rw [List.mem_filter, List.mem_range, dec_iff]
  obtain ⟨u, hu, hm⟩ := least_of (fun u => (f u).length) (xs := A) (List.ne_nil_of_mem ((hA s).mpr ⟨hs, hR⟩))
  obtain ⟨ul, ur⟩ := (hA u).mp hu
  refine ⟨u, ul, ur, fun t ht => ?_⟩
  have tl : t < m.length := ht.pth.lt wf ul
  have le := hm t ((hA t).mpr ⟨tl, ht.in ur⟩)
  refine Classical.byContradiction fun hn => ?_
  have nd : (f t).Nodup := List.Nodup.sublist List.filter_sublist List.nodup_range
  have : (u :: f t).Nodup := List.nodup_cons.mpr ⟨fun h => hn ((hf t u).mp h).2, nd⟩
  have := sub_len this (L := f u) fun x hx => by
    rcases List.mem_cons.mp hx with rfl | hx
    · exact (hf x x).mpr ⟨ul, .refl _⟩
    · obtain ⟨h1, h2⟩ := (hf t x).mp hx
      exact (hf u x).mpr ⟨h1, ht.trans h2⟩
  rw [List.length_cons] at this
  omega
/-- the ring of m that covers a ring of m' -/
theorem cov_down (H : Hom m m' h) (wf : Wf m) {O : List Nat} (hO : O ∈ rings m') : ∃ U ∈ rings m, ∀ w, Pieces m' O w → Pieces m U w := by
  obtain ⟨h1, h2⟩ := mem_rings.mp hO
  obtain ⟨o, ho, q, hq, hq2⟩ := movesIn_iff.mp h2
  obtain ⟨s0, hs0, es0⟩ := H.onto o (part_lt h1 ho)
  obtain ⟨u, ul, ur, back⟩ := sink wf (R := fun x => h x ∈ O) hs0 (by show h s0 ∈ O; rw [es0]; exact ho)
  have ur : h u ∈ O := ur
  -- a way in m' from h u to a state of O is led by a way in m
  have lift : ∀ y, Pth m' (h u) y → y ∈ O → ∃ x, RP m (fun x => h x ∈ O) u x ∧ h x = y := fun y p => by
    induction p with
    | refl => exact fun _ => ⟨u, .refl _, rfl⟩
    | @snoc j c k p e ih =>
      intro hk
      have eO := part_conn h1 ur
      have hjl : j < m'.length := p.lt H.wf (H.lt u ul)
      have hj : j ∈ O := by
        rw [eO] at hk ⊢
        obtain ⟨_, _, a3⟩ := mem_conn.mp hk
        exact mem_conn.mpr ⟨hjl, p, Pth.trans (.snoc (.refl _) e) a3⟩
      obtain ⟨x, hx, ex⟩ := ih hj
      have xl : x < m.length := hx.pth.lt wf ul
      rw [← ex, H.row x xl] at e
      obtain ⟨q0, hq0, eq0⟩ := List.mem_map.mp e
      obtain ⟨e1, e2⟩ := Prod.mk.inj eq0
      exact ⟨q0.2, hx.snoc (c := q0.1) hq0 (by show h q0.2 ∈ O; rw [e2]; exact hk), e2⟩
  have inU : ∀ x, RP m (fun x => h x ∈ O) u x → x ∈ conn m u := fun x hx => mem_conn.mpr ⟨hx.pth.lt wf ul, hx.pth, (back x hx).pth⟩
  have run : ∀ (w : List Nat) (x t : Nat), RP m (fun x => h x ∈ O) u x → Rn m' (· ∈ O) (h x) w t → ∃ t', Rn m (· ∈ conn m u) x w t' := fun w => by
    induction w with
    | nil => exact fun x t _ _ => ⟨x, rfl⟩
    | cons c w ih =>
      rintro x t hx ⟨y, hy, e, r⟩
      have xl : x < m.length := hx.pth.lt wf ul
      rw [H.look xl] at e
      obtain ⟨z, ez, rfl⟩ := Option.map_eq_some_iff.mp e
      have hz := hx.snoc (c := c) (lookup_mem ez) hy
      obtain ⟨t', r'⟩ := ih z t hz r
      exact ⟨t', z, inU z hz, ez, r'⟩
  have cov : ∀ w, Pieces m' O w → Pieces m (conn m u) w := fun w hw => by
    obtain ⟨y, hy, t, r⟩ := pieces_iff.mp hw
    have hy2 := hy
    rw [part_conn h1 ur] at hy2
    obtain ⟨x, hx, rfl⟩ := lift y (mem_conn.mp hy2).2.1 hy
    obtain ⟨t', r'⟩ := run w x t hx r
    exact pieces_iff.mpr ⟨x, inU x hx, t', r'⟩
  refine ⟨conn m u, mem_rings.mpr ⟨mem_parts.mpr ⟨u, ul, rfl⟩, ?_⟩, cov⟩
  have p1 : Pieces m' O [q.1] := pieces_iff.mpr ⟨o, ho, q.2, q.2, hq2, mem_lookup (H.wf.at o).asc hq, rfl⟩
  obtain ⟨x, hx, t, z, hz, e, _⟩ := pieces_iff.mp (cov _ p1)
  exact movesIn_iff.mpr ⟨x, hx, (q.1, z), lookup_mem e, hz⟩
end
end Zb
end
section
set_option Elab.async false
set_option linter.all false
/-! Zp2: plain law: loops, said again and cut, are pieces. -/
namespace Zb
theorem Rn.pth {m : Mach} {R : Nat → Prop} : ∀ {w : List Nat} {s t : Nat}, Rn m R s w t → Pth m s t
  | [], s, _, e => (show s = _ from e) ▸ .refl s
  | c :: _, s, _, ⟨_, _, e, r⟩ => Pth.trans (.snoc (c := c) (.refl s) (lookup_mem e)) r.pth
theorem Rn.split {m : Mach} {R : Nat → Prop} {v : List Nat} {x : Nat} : ∀ {w : List Nat} {s : Nat}, Rn m R s (w ++ v) x → ∃ u, Rn m R s w u ∧ Rn m R u v x ∧ (R s → R u)
  | [], s, r => ⟨s, rfl, r, id⟩
  | _ :: _, _, ⟨y, hy, e, r⟩ => by
    obtain ⟨u, h1, h2, h3⟩ := Rn.split r
    exact ⟨u, ⟨y, hy, e, h1⟩, h2, fun _ => h3 hy⟩
theorem Pieces.pre {m : Mach} {ring w v : List Nat} (h : Pieces m ring (w ++ v)) : Pieces m ring w := by
  obtain ⟨s, hs, t, r⟩ := pieces_iff.mp h
  obtain ⟨u, h1, _, _⟩ := Rn.split r
  exact pieces_iff.mpr ⟨s, hs, u, h1⟩
theorem Pieces.suf {m : Mach} {ring w v : List Nat} (h : Pieces m ring (w ++ v)) : Pieces m ring v := by
  obtain ⟨s, hs, t, r⟩ := pieces_iff.mp h
  obtain ⟨u, _, h2, h3⟩ := Rn.split r
  exact pieces_iff.mpr ⟨u, h3 hs, t, h2⟩
theorem Pieces.cut {m : Mach} {ring w : List Nat} (h : Pieces m ring w) (a b : Nat) : Pieces m ring ((w.drop a).take b) := by
  rw [← List.take_append_drop a w] at h
  have h2 := h.suf
  rw [← List.take_append_drop b (w.drop a)] at h2
  exact h2.pre
/-- k times w -/
def timesW (w : List Nat) : Nat → List Nat
  | 0 => []
  | k + 1 => w ++ timesW w k
theorem Rn.times {m : Mach} {R : Nat → Prop} {w : List Nat} {x : Nat} (h : Rn m R x w x) : ∀ k, Rn m R x (timesW w k) x
  | 0 => rfl
  | k + 1 => h.append (Rn.times h k)
/-- a way from x to x stays in what goes to x and back -/
theorem Rn.stay {m : Mach} (wf : Wf m) {x : Nat} (hx : x < m.length) {t : Nat} (ht : Pth m t x) : ∀ {w : List Nat} {s : Nat}, Pth m x s → Rn m (fun _ => True) s w t → Rn m (· ∈ conn m x) s w t
  | [], _, _, e => e
  | c :: _, s, p, ⟨u, _, e, r⟩ => by
    have pu : Pth m x u := .snoc (c := c) p (lookup_mem e)
    exact ⟨u, mem_conn.mpr ⟨pu.lt wf hx, pu, r.pth.trans ht⟩, e, Rn.stay wf hx ht pu r⟩
theorem words_run {m : Mach} (wf : Wf m) {g : Nat} : ∀ {k s : Nat} {w : List Nat}, w ∈ wordsB m g k s → w.length = k ∧ Rn m (fun _ => True) s w g ∧ ∀ c ∈ w, c ∈ Alph
  | 0, s, w, h => by
    unfold wordsB at h
    split at h
    · rename_i hs
      rw [List.mem_singleton.mp h]
      exact ⟨rfl, List.mem_singleton.mp hs, fun c hc => by cases hc⟩
    · cases h
  | k + 1, s, w, h => by
    unfold wordsB at h
    obtain ⟨q, hq, h⟩ := List.mem_flatMap.mp h
    split at h
    · obtain ⟨v, hv, rfl⟩ := List.mem_map.mp h
      obtain ⟨h1, h2, h3⟩ := words_run wf hv
      refine ⟨by rw [List.length_cons, h1], ⟨q.2, trivial, mem_lookup (wf.at s).asc hq, h2⟩, fun c hc => ?_⟩
      rcases List.mem_cons.mp hc with rfl | hc
      · exact (wf.at s).sg q hq
      · exact h3 c hc
    · cases h
/-- what the loops of a state of a ring are good for -/
theorem loop_ok {m : Mach} (wf : Wf m) {ring : List Nat} (hr : ring ∈ rings m) {x n : Nat} (hx : x ∈ ring) {w : List Nat} (h : w ∈ loopsW m x n) : 0 < w.length ∧ w.length ≤ n ∧ (∀ c ∈ w, c ∈ Alph) ∧ ∀ k, Pieces m ring (timesW w k) := by
  unfold loopsW at h
  obtain ⟨i, hi, h⟩ := List.mem_flatMap.mp h
  obtain ⟨h1, h2, h3⟩ := words_run wf h
  have hp := (mem_rings.mp hr).1
  have hxl := part_lt hp hx
  have := List.mem_range.mp hi
  refine ⟨by omega, by omega, h3, fun k => ?_⟩
  have r := (Rn.stay wf hxl (.refl x) (.refl x) h2).times k
  rw [← part_conn hp hx] at r
  exact pieces_iff.mpr ⟨x, hx, x, r⟩
theorem times_len (w : List Nat) : ∀ k, (timesW w k).length = w.length * k
  | 0 => rfl
  | k + 1 => by
    show (w ++ timesW w k).length = _
    rw [List.length_append, times_len w k, Nat.mul_succ]
    omega
theorem times_mem {w : List Nat} {c : Nat} : ∀ {k}, c ∈ timesW w k → c ∈ w
  | k + 1, h => by
    rcases List.mem_append.mp (show c ∈ w ++ timesW w k from h) with h | h
    · exact h
    · exact times_mem h
end Zb
end
section
set_option Elab.async false
set_option linter.all false
/-! Zp3: plain law: a machine whose states and signs are renamed. -/
namespace Zb
structure Turn (m m2 : Mach) (π ν : Nat → Nat) (Sg : List Nat) : Prop where
  len : m2.length = m.length
  lt : ∀ s, s < m.length → π s < m.length
  inj : ∀ s t, s < m.length → t < m.length → π s = π t → s = t
  onto : ∀ t, t < m.length → ∃ s, s < m.length ∧ π s = t
  row : ∀ s, s < m.length → rowAt m2 (π s) = (rowAt m s).map fun q => (ν q.1, π q.2)
  sg : ∀ s, ∀ q ∈ rowAt m s, q.1 ∈ Sg
  mono : ∀ a ∈ Sg, ∀ b ∈ Sg, a < b → ν a < ν b
section
variable {m m2 : Mach} {π ν : Nat → Nat} {Sg : List Nat}
theorem Turn.nu (T : Turn m m2 π ν Sg) {a b : Nat} (ha : a ∈ Sg) (hb : b ∈ Sg) (e : ν a = ν b) : a = b := by
  rcases Nat.lt_trichotomy a b with h | h | h
  · have := T.mono a ha b hb h
    omega
  · exact h
  · have := T.mono b hb a ha h
    omega
theorem edge_lt {m : Mach} {s c t : Nat} (h : (c, t) ∈ rowAt m s) : s < m.length := Nat.lt_of_not_le fun z => by rw [rowAt_none z] at h; simp at h
theorem Turn.edge (T : Turn m m2 π ν Sg) {s c t : Nat} (h : (c, t) ∈ rowAt m s) : (ν c, π t) ∈ rowAt m2 (π s) := by
  rw [T.row s (edge_lt h)]
  exact List.mem_map.mpr ⟨(c, t), h, rfl⟩
theorem Turn.back (T : Turn m m2 π ν Sg) {s c t : Nat} (hs : s < m.length) (h : (c, t) ∈ rowAt m2 (π s)) : ∃ c0 t0, (c0, t0) ∈ rowAt m s ∧ ν c0 = c ∧ π t0 = t := by
  rw [T.row s hs] at h
  obtain ⟨q, hq, e⟩ := List.mem_map.mp h
  exact ⟨q.1, q.2, hq, (Prod.mk.inj e).1, (Prod.mk.inj e).2⟩
theorem Turn.pth (T : Turn m m2 π ν Sg) {s t : Nat} (p : Pth m s t) : Pth m2 (π s) (π t) := by
  induction p with
  | refl => exact .refl _
  | snoc _ e ih => exact .snoc ih (T.edge e)
theorem Turn.pthB (T : Turn m m2 π ν Sg) (wf : Wf m) {s y : Nat} (hs : s < m.length) (p : Pth m2 (π s) y) : ∃ t, t < m.length ∧ π t = y ∧ Pth m s t := by
  have go : ∀ x y, Pth m2 x y → x = π s → ∃ t, t < m.length ∧ π t = y ∧ Pth m s t := fun x y p => by
    induction p with
    | refl => exact fun e => ⟨s, hs, e.symm, .refl s⟩
    | snoc _ e ih =>
      intro h
      obtain ⟨t, ht, rfl, p⟩ := ih h
      obtain ⟨c0, t0, h0, _, rfl⟩ := T.back ht e
      exact ⟨t0, wf.to h0, rfl, .snoc p h0⟩
  exact go _ _ p rfl
theorem Turn.pthI (T : Turn m m2 π ν Sg) (wf : Wf m) {s t : Nat} (hs : s < m.length) (ht : t < m.length) : Pth m2 (π s) (π t) ↔ Pth m s t := by
  refine ⟨fun p => ?_, T.pth⟩
  obtain ⟨t', h1, h2, h3⟩ := T.pthB wf hs p
  rw [T.inj t' t h1 ht h2] at h3
  exact h3
/-- the image of some states, in order -/
def imgP (π : Nat → Nat) (n : Nat) (R : List Nat) : List Nat := below n (R.map π)
theorem Turn.mem_img (T : Turn m m2 π ν Sg) {R : List Nat} (hR : ∀ x ∈ R, x < m.length) {x : Nat} (hx : x < m.length) : π x ∈ imgP π m.length R ↔ x ∈ R := by
  unfold imgP
  rw [mem_below, List.mem_map]
  constructor
  · rintro ⟨_, y, hy, e⟩
    rw [← T.inj y x (hR y hy) hx e]
    exact hy
  · intro h
    exact ⟨T.lt x hx, x, h, rfl⟩
theorem Turn.img_of (T : Turn m m2 π ν Sg) {R : List Nat} (hR : ∀ x ∈ R, x < m.length) {y : Nat} (hy : y ∈ imgP π m.length R) : ∃ x, x ∈ R ∧ π x = y := by
  unfold imgP at hy
  rw [mem_below, List.mem_map] at hy
  obtain ⟨_, x, hx, e⟩ := hy
  exact ⟨x, hx, e⟩
theorem Turn.conn (T : Turn m m2 π ν Sg) (wf : Wf m) {s : Nat} (hs : s < m.length) : conn m2 (π s) = imgP π m.length (Zb.conn m s) := by
  refine asc_eq conn_asc below_asc fun k => ?_
  unfold imgP
  rw [mem_conn, mem_below, List.mem_map, T.len]
  constructor
  · rintro ⟨h1, h2, h3⟩
    obtain ⟨t, ht, rfl⟩ := T.onto k h1
    exact ⟨h1, t, mem_conn.mpr ⟨ht, (T.pthI wf hs ht).mp h2, (T.pthI wf ht hs).mp h3⟩, rfl⟩
  · rintro ⟨h1, t, ht, rfl⟩
    obtain ⟨a1, a2, a3⟩ := mem_conn.mp ht
    exact ⟨h1, T.pth a2, T.pth a3⟩
/-- the rings are the images -/
theorem Turn.rings (T : Turn m m2 π ν Sg) (wf : Wf m) {O : List Nat} : O ∈ rings m2 ↔ ∃ R ∈ Zb.rings m, O = imgP π m.length R := by
  constructor
  · intro h
    obtain ⟨h1, h2⟩ := mem_rings.mp h
    obtain ⟨y, hy, rfl⟩ := mem_parts.mp h1
    rw [T.len] at hy
    obtain ⟨s, hs, rfl⟩ := T.onto y hy
    refine ⟨Zb.conn m s, mem_rings.mpr ⟨mem_parts.mpr ⟨s, hs, rfl⟩, ?_⟩, T.conn wf hs⟩
    rw [T.conn wf hs] at h2
    obtain ⟨x, hx, q, hq, hq2⟩ := movesIn_iff.mp h2
    have hR : ∀ x ∈ Zb.conn m s, x < m.length := fun x hx => (mem_conn.mp hx).1
    obtain ⟨x0, hx0, rfl⟩ := T.img_of hR hx
    obtain ⟨c0, t0, h0, _, e2⟩ := T.back (hR x0 hx0) hq
    rw [← e2, T.mem_img hR (wf.to h0)] at hq2
    exact movesIn_iff.mpr ⟨x0, hx0, (c0, t0), h0, hq2⟩
  · rintro ⟨R, hR, rfl⟩
    obtain ⟨h1, h2⟩ := mem_rings.mp hR
    obtain ⟨s, hs, rfl⟩ := mem_parts.mp h1
    obtain ⟨x, hx, q, hq, hq2⟩ := movesIn_iff.mp h2
    have hRl : ∀ x ∈ Zb.conn m s, x < m.length := fun x hx => (mem_conn.mp hx).1
    refine mem_rings.mpr ⟨mem_parts.mpr ⟨π s, by rw [T.len]; exact T.lt s hs, (T.conn wf hs).symm⟩, movesIn_iff.mpr ⟨π x, (T.mem_img hRl (hRl x hx)).mpr hx, (ν q.1, π q.2), T.edge hq, (T.mem_img hRl (hRl _ hq2)).mpr hq2⟩⟩
/-! ### pieces -/
theorem Turn.run (T : Turn m m2 π ν Sg) (wf2 : Wf m2) {R : List Nat} (hR : ∀ x ∈ R, x < m.length) : ∀ {w : List Nat} {s t : Nat}, Rn m (· ∈ R) s w t → Rn m2 (· ∈ imgP π m.length R) (π s) (w.map ν) (π t)
  | [], _, _, e => by
    cases (show _ = _ from e)
    rfl
  | c :: w, s, t, ⟨u, hu, e, r⟩ => ⟨π u, (T.mem_img hR (hR u hu)).mpr hu, mem_lookup (wf2.at _).asc (T.edge (lookup_mem e)), T.run wf2 hR r⟩
theorem Turn.runB (T : Turn m m2 π ν Sg) (wf : Wf m) {R : List Nat} (hR : ∀ x ∈ R, x < m.length) : ∀ {w2 : List Nat} {s y : Nat}, s < m.length → Rn m2 (· ∈ imgP π m.length R) (π s) w2 y → ∃ w t, w2 = w.map ν ∧ (∀ c ∈ w, c ∈ Sg) ∧ Rn m (· ∈ R) s w t
  | [], s, _, _, _ => ⟨[], s, rfl, fun c h => (by cases h), rfl⟩
  | c :: w2, s, y, hs, ⟨u, hu, e, r⟩ => by
    obtain ⟨c0, t0, h0, rfl, rfl⟩ := T.back hs (lookup_mem e)
    have ht := wf.to h0
    obtain ⟨w, t, e1, e2, e3⟩ := T.runB wf hR ht r
    refine ⟨c0 :: w, t, by rw [e1]; rfl, fun c hc => ?_, t0, (T.mem_img hR ht).mp hu, mem_lookup (wf.at s).asc h0, e3⟩
    rcases List.mem_cons.mp hc with rfl | hc
    · exact T.sg s _ h0
    · exact e2 c hc
theorem map_nu (T : Turn m m2 π ν Sg) : ∀ {u w : List Nat}, (∀ c ∈ u, c ∈ Sg) → (∀ c ∈ w, c ∈ Sg) → u.map ν = w.map ν → u = w
  | [], [], _, _, _ => rfl
  | [], _ :: _, _, _, h => nomatch h
  | _ :: _, [], _, _, h => nomatch h
  | a :: u, b :: w, hu, hw, h => by
    rw [List.map_cons, List.map_cons] at h
    injection h with h1 h2
    rw [T.nu (hu a List.mem_cons_self) (hw b List.mem_cons_self) h1, map_nu T (fun c hc => hu c (List.mem_cons_of_mem _ hc)) (fun c hc => hw c (List.mem_cons_of_mem _ hc)) h2]
theorem Turn.pieces (T : Turn m m2 π ν Sg) (wf2 : Wf m2) {R w : List Nat} (hR : ∀ x ∈ R, x < m.length) (h : Pieces m R w) : Pieces m2 (imgP π m.length R) (w.map ν) := by
  obtain ⟨s, hs, t, r⟩ := pieces_iff.mp h
  exact pieces_iff.mpr ⟨π s, (T.mem_img hR (hR s hs)).mpr hs, π t, T.run wf2 hR r⟩
theorem Turn.piecesB (T : Turn m m2 π ν Sg) (wf : Wf m) {R w2 : List Nat} (hR : ∀ x ∈ R, x < m.length) (h : Pieces m2 (imgP π m.length R) w2) : ∃ w, w2 = w.map ν ∧ (∀ c ∈ w, c ∈ Sg) ∧ Pieces m R w := by
  obtain ⟨y, hy, t, r⟩ := pieces_iff.mp h
  obtain ⟨s, hs, rfl⟩ := T.img_of hR hy
  obtain ⟨w, t', e1, e2, e3⟩ := T.runB wf hR (hR s hs) r
  exact ⟨w, e1, e2, pieces_iff.mpr ⟨s, hs, t', e3⟩⟩
theorem piece_sg {m : Mach} {Sg R w : List Nat} (sg : ∀ s, ∀ q ∈ rowAt m s, q.1 ∈ Sg) (h : Pieces m R w) : ∀ c ∈ w, c ∈ Sg := by
  obtain ⟨s, _, t, r⟩ := pieces_iff.mp h
  have go : ∀ (w : List Nat) (s t : Nat), Rn m (· ∈ R) s w t → ∀ c ∈ w, c ∈ Sg := fun w => by
    induction w with
    | nil => intro _ _ _ c hc; cases hc
    | cons a w ih =>
      rintro s t ⟨u, _, e, r⟩ c hc
      rcases List.mem_cons.mp hc with rfl | hc
      · exact sg s _ (lookup_mem e)
      · exact ih u t r c hc
  exact go w s t r
/-! ### the least lack -/
theorem Lx.irr : ∀ {u : List Nat}, ¬ Lx u u
  | [], h => h
  | a :: u, h => by
    rcases h with h | h
    · exact Nat.lt_irrefl a h.1
    · exact Lx.irr h.2
theorem Sle.anti {u w : List Nat} (h : Sle u w) (k : Sle w u) : u = w := by
  have h1 := h.le
  have h2 := k.le
  rcases h with h | h | h
  · omega
  · exact h
  · rcases k with k | k | k
    · omega
    · exact k.symm
    · exact absurd (h.trans k) Lx.irr
theorem Lx.map {ν : Nat → Nat} {Sg : List Nat} (mono : ∀ a ∈ Sg, ∀ b ∈ Sg, a < b → ν a < ν b) : ∀ {u w : List Nat}, (∀ c ∈ u, c ∈ Sg) → (∀ c ∈ w, c ∈ Sg) → Lx u w → Lx (u.map ν) (w.map ν)
  | [], _, _, _, h => h.elim
  | _ :: _, [], _, _, h => h.elim
  | a :: u, b :: w, hu, hw, h => by
    rcases h with ⟨h1, h2⟩ | ⟨h1, h2⟩
    · exact .inl ⟨mono a (hu a List.mem_cons_self) b (hw b List.mem_cons_self) h1, by rw [List.length_map, List.length_map, h2]⟩
    · exact .inr ⟨by rw [h1], Lx.map mono (fun c hc => hu c (List.mem_cons_of_mem _ hc)) (fun c hc => hw c (List.mem_cons_of_mem _ hc)) h2⟩
theorem Sle.map {ν : Nat → Nat} {Sg : List Nat} (mono : ∀ a ∈ Sg, ∀ b ∈ Sg, a < b → ν a < ν b) {u w : List Nat} (hu : ∀ c ∈ u, c ∈ Sg) (hw : ∀ c ∈ w, c ∈ Sg) (h : Sle u w) : Sle (u.map ν) (w.map ν) := by
  rcases h with h | h | h
  · exact .inl (by rw [List.length_map, List.length_map]; exact h)
  · rw [h]; exact .refl _
  · exact .inr (.inr (h.map mono hu hw))
theorem lck_iff {m m' : Mach} {over under w : List Nat} : Lck (readW m' under under) (readW m over over) w ↔ Pieces m' under w ∧ ¬ Pieces m over w := by
  unfold Lck Pieces
  refine and_congr Iff.rfl ⟨fun h k => k h, fun h => Classical.not_not.mp h⟩
end
section
variable {m m2 m' m2' : Mach} {π π' ν : Nat → Nat} {Sg over under : List Nat} {r r2 : Option (List Nat)}
theorem told_turn (T : Turn m m2 π ν Sg) (T' : Turn m' m2' π' ν Sg) (wf : Wf m) (wf2 : Wf m2) (wf' : Wf m') (wf2' : Wf m2') (ho : ∀ x ∈ over, x < m.length) (hu : ∀ x ∈ under, x < m'.length)
    (h : Told m over m' under r) (h2 : Told m2 (imgP π m.length over) m2' (imgP π' m'.length under) r2) : r2 = r.map (List.map ν) := by
  have fw : ∀ w, Lck (readW m' under under) (readW m over over) w → Lck (readW m2' (imgP π' m'.length under) (imgP π' m'.length under)) (readW m2 (imgP π m.length over) (imgP π m.length over)) (w.map ν) := fun w hw => by
    rw [lck_iff] at hw ⊢
    refine ⟨T'.pieces wf2' hu hw.1, fun hp => hw.2 ?_⟩
    obtain ⟨v, e, hv, hp⟩ := T.piecesB wf ho hp
    rw [map_nu T (piece_sg T'.sg hw.1) hv e]
    exact hp
  have bw : ∀ w2, Lck (readW m2' (imgP π' m'.length under) (imgP π' m'.length under)) (readW m2 (imgP π m.length over) (imgP π m.length over)) w2 → ∃ w, w2 = w.map ν ∧ (∀ c ∈ w, c ∈ Sg) ∧ Lck (readW m' under under) (readW m over over) w := fun w2 hw => by
    rw [lck_iff] at hw
    obtain ⟨w, e, hs, hp⟩ := T'.piecesB wf' hu hw.1
    refine ⟨w, e, hs, lck_iff.mpr ⟨hp, fun ho' => hw.2 ?_⟩⟩
    rw [e]
    exact T.pieces wf2 ho ho'
  cases r with
  | none =>
    cases r2 with
    | none => rfl
    | some f2 =>
      obtain ⟨w, _, _, hw⟩ := bw f2 h2.1
      exact absurd hw (h w)
  | some f =>
    cases r2 with
    | none => exact absurd (fw f h.1) (h2 _)
    | some f2 =>
      obtain ⟨u, e, hs, hl⟩ := bw f2 h2.1
      have s1 := (h.2 u hl).map T.mono (piece_sg T'.sg (lck_iff.mp h.1).1) hs
      have s2 := h2.2 _ (fw f h.1)
      rw [e] at s2 ⊢
      exact congrArg some (s2.anti s1)
end
/-! ### chains -/
structure Chn (m : Mach) (l : List Nat) : Prop where
  lt : ∀ x ∈ l, x < m.length
  pw : l.Pairwise fun s t => Pth m s t ∧ ¬ Pth m t s
def IsLongest (m : Mach) (k : Nat) : Prop := (∃ l, Chn m l ∧ l.length = k) ∧ ∀ l, Chn m l → l.length ≤ k
theorem longest_one {m : Mach} {j k : Nat} (h : IsLongest m j) (h2 : IsLongest m k) : j = k := by
  obtain ⟨⟨l, a1, a2⟩, a3⟩ := h
  obtain ⟨⟨l', b1, b2⟩, b3⟩ := h2
  have := a3 l' b1
  have := b3 l a1
  omega
theorem longest_turn {m m2 : Mach} {π ν : Nat → Nat} {Sg : List Nat} (T : Turn m m2 π ν Sg) (wf : Wf m) {j k : Nat} (h : IsLongest m j) (h2 : IsLongest m2 k) : j = k := by
  have up : ∀ l, Chn m l → Chn m2 (l.map π) := fun l c => ⟨fun x hx => by
    obtain ⟨y, hy, rfl⟩ := List.mem_map.mp hx
    rw [T.len]
    exact T.lt y (c.lt y hy), by
    rw [List.pairwise_map]
    refine List.Pairwise.imp_of_mem (fun {a b} ha hb h => ?_) c.pw
    rw [T.pthI wf (c.lt a ha) (c.lt b hb), T.pthI wf (c.lt b hb) (c.lt a ha)]
    exact h⟩
  have pre : ∀ l2 : List Nat, (∀ x ∈ l2, x < m2.length) → ∃ l : List Nat, l2 = l.map π ∧ ∀ x ∈ l, x < m.length := fun l2 => by
    induction l2 with
    | nil => exact fun _ => ⟨[], rfl, fun x h => (by cases h)⟩
    | cons y l2 ih =>
      intro h
      obtain ⟨l, e, hl⟩ := ih fun x hx => h x (List.mem_cons_of_mem _ hx)
      obtain ⟨s, hs, rfl⟩ := T.onto y (by rw [← T.len]; exact h y List.mem_cons_self)
      refine ⟨s :: l, by rw [e]; rfl, fun x hx => ?_⟩
      rcases List.mem_cons.mp hx with rfl | hx
      · exact hs
      · exact hl x hx
  obtain ⟨⟨l, a1, a2⟩, a3⟩ := h
  obtain ⟨⟨l2, b1, b2⟩, b3⟩ := h2
  have h1 := b3 _ (up l a1)
  rw [List.length_map] at h1
  obtain ⟨l0, rfl, hl0⟩ := pre l2 b1.lt
  have c0 : Chn m l0 := ⟨hl0, by
    have := b1.pw
    rw [List.pairwise_map] at this
    refine List.Pairwise.imp_of_mem (fun {a b} ha hb h => ?_) this
    rw [T.pthI wf (hl0 a ha) (hl0 b hb), T.pthI wf (hl0 b hb) (hl0 a ha)] at h
    exact h⟩
  have h2 := a3 _ c0
  rw [List.length_map] at b2
  omega
end Zb
end
section
set_option Elab.async false
set_option linter.all false
/-! Zp4: plain law: a renamed machine is valid. -/
namespace Zb
theorem wf_at {m : Mach} (h0 : 0 < m.length) (hl : m.length ≤ 40) (h : ∀ s, s < m.length → RowOk m.length (rowAt m s)) : Wf m := ⟨h0, hl, fun q hq => by
  obtain ⟨i, hi, rfl⟩ := List.mem_iff_getElem.mp hq
  have := h i hi
  rw [rowAt_get hi] at this
  exact this⟩
section
variable {m m2 : Mach} {π ν : Nat → Nat} {Sg : List Nat}
theorem Turn.wf (T : Turn m m2 π ν Sg) (w : Wf m) (hν : ∀ c ∈ Sg, ν c ∈ Alph) : Wf m2 := by
  have hl := T.len
  refine wf_at (by rw [hl]; exact w.pos) (by rw [hl]; exact w.le) fun y hy => ?_
  rw [hl] at hy ⊢
  obtain ⟨s, hs, rfl⟩ := T.onto y hy
  rw [T.row s hs]
  have ro := w.at s
  refine ⟨?_, fun q hq => ?_, fun q hq => ?_⟩
  · rw [List.map_map, List.pairwise_map]
    have h2 := ro.asc
    rw [List.pairwise_map] at h2
    exact List.Pairwise.imp_of_mem (fun {a b} ha hb h => T.mono _ (T.sg s a ha) _ (T.sg s b hb) h) h2
  · obtain ⟨p, hp, rfl⟩ := List.mem_map.mp hq
    exact hν _ (T.sg s p hp)
  · obtain ⟨p, hp, rfl⟩ := List.mem_map.mp hq
    exact T.lt _ (ro.to p hp)
theorem Turn.vm (T : Turn m m2 π ν Sg) (v : Vm m) (hν : ∀ c ∈ Sg, ν c ∈ Alph) (h0 : π 0 = 0) (hl : ∀ s, s < m.length → lastAt m s = true → lastAt m2 (π s) = true) : Vm m2 where
  toWf := T.wf v.toWf hν
  reach := fun y hy => by
    rw [T.len] at hy
    obtain ⟨s, hs, rfl⟩ := T.onto y hy
    have := T.pth (v.reach s hs)
    rw [h0] at this
    exact this
  live := fun y hy => by
    rw [T.len] at hy
    obtain ⟨s, hs, rfl⟩ := T.onto y hy
    obtain ⟨j, p, e⟩ := v.live s hs
    exact ⟨π j, T.pth p, hl j (p.lt v.toWf hs) e⟩
end
/-! ### ascending heads: the order of the rings -/
theorem parts_heads {m : Mach} : (parts m).Pairwise fun p q => p.getD 0 0 < q.getD 0 0 := by
  unfold parts
  rw [List.pairwise_map]
  have h : ((List.range m.length).filter fun s => decide ((conn m s).getD 0 0 = s)).Pairwise (· < ·) := List.Pairwise.sublist List.filter_sublist List.pairwise_lt_range
  refine List.Pairwise.imp_of_mem (fun {a b} ha hb h => ?_) h
  have e1 := of_decide_eq_true (List.mem_filter.mp ha).2
  have e2 := of_decide_eq_true (List.mem_filter.mp hb).2
  rw [e1, e2]
  exact h
theorem rings_heads {m : Mach} : (rings m).Pairwise fun p q => p.getD 0 0 < q.getD 0 0 := List.Pairwise.sublist List.filter_sublist parts_heads
theorem rings_nodup {m : Mach} : (rings m).Nodup := rings_heads.imp fun {a b} h e => by
  rw [e] at h
  exact Nat.lt_irrefl _ h
theorem Turn.img_inj {m m2 : Mach} {π ν : Nat → Nat} {Sg : List Nat} (T : Turn m m2 π ν Sg) {R S : List Nat} (hR : ∀ x ∈ R, x < m.length) (hS : ∀ x ∈ S, x < m.length) (aR : R.Pairwise (· < ·)) (aS : S.Pairwise (· < ·)) (e : imgP π m.length R = imgP π m.length S) : R = S := by
  refine asc_eq aR aS fun k => ⟨fun h => ?_, fun h => ?_⟩
  · have := (T.mem_img hR (hR k h)).mpr h
    rw [e] at this
    exact (T.mem_img hS (hR k h)).mp this
  · have := (T.mem_img hS (hS k h)).mpr h
    rw [← e] at this
    exact (T.mem_img hR (hS k h)).mp this
/-- the images of the rings, in whatever order, are the rings -/
theorem Turn.perm {m m2 : Mach} {π ν : Nat → Nat} {Sg : List Nat} (T : Turn m m2 π ν Sg) (wf : Wf m) : ((Zb.rings m).map (imgP π m.length)).Perm (Zb.rings m2) := by
  refine (List.perm_ext_iff_of_nodup ?_ rings_nodup).mpr fun O => ?_
  · rw [List.Nodup, List.pairwise_map]
    refine List.Pairwise.imp_of_mem (fun {a b} ha hb h e => h ?_) (rings_nodup (m := m))
    have p1 := (mem_rings.mp ha).1
    have p2 := (mem_rings.mp hb).1
    exact T.img_inj (fun x hx => part_lt p1 hx) (fun x hx => part_lt p2 hx) (part_asc p1) (part_asc p2) e
  · rw [T.rings wf, List.mem_map]
    exact ⟨fun ⟨R, h, e⟩ => ⟨R, h, e.symm⟩, fun ⟨R, h, e⟩ => ⟨R, h, e.symm⟩⟩
end Zb
end
section
set_option Elab.async false
set_option linter.all false
/-! Zp5: plain law: a trimmed machine is valid. -/
namespace Zb
def Usf (m : Mach) (s : Nat) : Prop := ∃ j, Pth m s j ∧ lastAt m j = true
noncomputable def reachL (m : Mach) (s : Nat) : List Nat := (List.range m.length).filter fun t => dec (Pth m s t)
noncomputable def keptOf (m : Mach) : List Nat := (reachL m 0).filter fun t => dec (Usf m t)
theorem mem_reachL {m : Mach} {s t : Nat} : t ∈ reachL m s ↔ t < m.length ∧ Pth m s t := by
  unfold reachL
  rw [List.mem_filter, List.mem_range, dec_iff]
theorem mem_kept {m : Mach} {t : Nat} : t ∈ keptOf m ↔ t < m.length ∧ Pth m 0 t ∧ Usf m t := by
  unfold keptOf
  rw [List.mem_filter, mem_reachL, dec_iff, and_assoc]
theorem reachL_asc {m : Mach} {s : Nat} : (reachL m s).Pairwise (· < ·) := List.Pairwise.sublist List.filter_sublist List.pairwise_lt_range
theorem kept_asc {m : Mach} : (keptOf m).Pairwise (· < ·) := List.Pairwise.sublist List.filter_sublist reachL_asc
theorem kept_len {m : Mach} : (keptOf m).length ≤ m.length := by
  have h1 := List.length_filter_le (fun t => dec (Usf m t)) (reachL m 0)
  have h2 := List.length_filter_le (fun t => dec (Pth m 0 t)) (List.range m.length)
  rw [List.length_range] at h2
  exact Nat.le_trans h1 h2
/-- one row trimmed to what is kept -/
def trimR (kept : List Nat) (r : Row) : Row := (r.filter fun q => decide (q.2 ∈ kept)).map fun q => (q.1, kept.idxOf q.2)
noncomputable def trimM (m : Mach) : Mach := (keptOf m).map fun s => (trimR (keptOf m) (rowAt m s), lastAt m s)
theorem trim_len {m : Mach} : (trimM m).length = (keptOf m).length := List.length_map ..
theorem kept_nth {m : Mach} {s : Nat} (h : s ∈ keptOf m) : (keptOf m)[(keptOf m).idxOf s]? = some s := by
  rw [List.getElem?_eq_getElem (List.idxOf_lt_length_of_mem h), List.getElem_idxOf]
theorem trim_at {m : Mach} {s : Nat} (h : s ∈ keptOf m) : (trimM m)[(keptOf m).idxOf s]? = some (trimR (keptOf m) (rowAt m s), lastAt m s) := by
  unfold trimM
  rw [List.getElem?_map, kept_nth h]
  rfl
theorem trim_row {m : Mach} {s : Nat} (h : s ∈ keptOf m) : rowAt (trimM m) ((keptOf m).idxOf s) = trimR (keptOf m) (rowAt m s) := rowAt_of (trim_at h)
theorem trim_last {m : Mach} {s : Nat} (h : s ∈ keptOf m) : lastAt (trimM m) ((keptOf m).idxOf s) = lastAt m s := lastAt_of (trim_at h)
theorem trim_edge {m : Mach} {s c t : Nat} (hs : s ∈ keptOf m) (ht : t ∈ keptOf m) (e : (c, t) ∈ rowAt m s) : (c, (keptOf m).idxOf t) ∈ rowAt (trimM m) ((keptOf m).idxOf s) := by
  rw [trim_row hs]
  exact List.mem_map.mpr ⟨(c, t), List.mem_filter.mpr ⟨e, decide_eq_true ht⟩, rfl⟩
theorem kept_of_idx {m : Mach} {i : Nat} (h : i < (keptOf m).length) : ∃ s ∈ keptOf m, (keptOf m).idxOf s = i := by
  refine ⟨(keptOf m)[i], List.getElem_mem h, ?_⟩
  have nd : (keptOf m).Nodup := kept_asc.imp fun h => Nat.ne_of_lt h
  have h1 := kept_nth (List.getElem_mem h)
  rw [← List.getElem?_eq_getElem h] at h1
  exact (List.getElem?_inj (List.idxOf_lt_length_of_mem (List.getElem_mem h)) nd).mp h1
theorem trim_vm {m : Mach} (w : Wf m) (h0 : Usf m 0) : Vm (trimM m) := by
  have k0 : 0 ∈ keptOf m := mem_kept.mpr ⟨w.pos, .refl 0, h0⟩
  have i0 : (keptOf m).idxOf 0 = 0 := by
    have hl := List.idxOf_lt_length_of_mem k0
    refine Nat.le_antisymm (Nat.le_of_not_lt fun h => ?_) (Nat.zero_le _)
    have := pw_at kept_asc (List.getElem?_eq_getElem (Nat.lt_trans h hl)) (kept_nth k0) h
    exact Nat.not_lt_zero _ this
  have hlen := trim_len (m := m)
  have wf : Wf (trimM m) := by
    refine wf_at (by rw [hlen]; exact List.length_pos_of_mem k0) (by rw [hlen]; exact Nat.le_trans kept_len w.le) fun i hi => ?_
    rw [hlen] at hi ⊢
    obtain ⟨s, hs, rfl⟩ := kept_of_idx hi
    rw [trim_row hs]
    have ro := w.at s
    unfold trimR
    refine ⟨?_, fun q hq => ?_, fun q hq => ?_⟩
    · rw [List.map_map]
      exact List.Pairwise.sublist (List.filter_sublist.map (fun q : Nat × Nat => q.1)) ro.asc
    · obtain ⟨p, hp, rfl⟩ := List.mem_map.mp hq
      exact ro.sg p (List.mem_filter.mp hp).1
    · obtain ⟨p, hp, rfl⟩ := List.mem_map.mp hq
      exact List.idxOf_lt_length_of_mem (of_decide_eq_true (List.mem_filter.mp hp).2)
  -- a way between kept states is a way of the trimmed machine
  have way : ∀ s t, Pth m s t → s ∈ keptOf m → t ∈ keptOf m → Pth (trimM m) ((keptOf m).idxOf s) ((keptOf m).idxOf t) := fun s t p => by
    induction p with
    | refl => exact fun _ _ => .refl _
    | @snoc j c k p e ih =>
      intro hs hk
      have hj : j ∈ keptOf m := by
        obtain ⟨_, a2, _⟩ := mem_kept.mp hs
        obtain ⟨_, _, x, b1, b2⟩ := mem_kept.mp hk
        exact mem_kept.mpr ⟨edge_lt e, a2.trans p, x, Pth.trans (.snoc (.refl _) e) b1, b2⟩
      exact .snoc (ih hs hj) (trim_edge hj hk e)
  refine ⟨wf, fun i hi => ?_, fun i hi => ?_⟩
  · rw [hlen] at hi
    obtain ⟨s, hs, rfl⟩ := kept_of_idx hi
    have := way 0 s (mem_kept.mp hs).2.1 k0 hs
    rw [i0] at this
    exact this
  · rw [hlen] at hi
    obtain ⟨s, hs, rfl⟩ := kept_of_idx hi
    obtain ⟨a1, a2, x, b1, b2⟩ := mem_kept.mp hs
    have hx : x ∈ keptOf m := mem_kept.mpr ⟨b1.lt w a1, a2.trans b1, x, .refl x, b2⟩
    exact ⟨(keptOf m).idxOf x, way s x b1 hs hx, by rw [trim_last hx]; exact b2⟩
/-- the machine of one state -/
theorem one_vm {c : Nat} (h : c ∈ Alph) : Vm [([(c, 0)], true)] := by
  have wf : Wf [([(c, 0)], true)] := by
    refine ⟨by show 0 < 1; decide, by show 1 ≤ 40; decide, fun q hq => ?_⟩
    rw [List.mem_singleton.mp hq]
    refine ⟨by simp, fun p hp => ?_, fun p hp => ?_⟩
    · rw [List.mem_singleton.mp hp]; exact h
    · rw [List.mem_singleton.mp hp]; exact Nat.zero_lt_one
  refine ⟨wf, fun i hi => ?_, fun i hi => ?_⟩
  · have : i = 0 := by simp at hi; omega
    subst this
    exact .refl 0
  · have : i = 0 := by simp at hi; omega
    subst this
    exact ⟨0, .refl 0, rfl⟩
end Zb
end
section
set_option Elab.async false
set_option linter.all false
/-! Zp6: plain law: how the depths of parts grow. -/
namespace Zb
/-- a chain that begins in q -/
def ChIn (m : Mach) (q l : List Nat) : Prop := Chn m l ∧ ∃ x ∈ q, ∃ l', l = x :: l'
structure Deps (m : Mach) (t : Nat) (dep : List Nat → Nat) : Prop where
  snd : ∀ q ∈ parts m, ∃ l, ChIn m q l ∧ l.length = dep q
  cmp : ∀ q ∈ parts m, ∀ l, ChIn m q l → l.length ≤ t + 1 → l.length ≤ dep q
def leads (m : Mach) (p q : List Nat) : Prop := Pth m (p.getD 0 0) (q.getD 0 0)
theorem head_in {m : Mach} {p : List Nat} (hp : p ∈ parts m) : p.getD 0 0 ∈ p := by
  obtain ⟨s, hs, rfl⟩ := mem_parts.mp hp
  exact (asc_head conn_asc (conn_self hs)).1
theorem both_ways {m : Mach} {p : List Nat} (hp : p ∈ parts m) {x y : Nat} (hx : x ∈ p) (hy : y ∈ p) : Pth m x y := by
  rw [part_conn hp hx] at hy
  exact (mem_conn.mp hy).2.1
theorem leads_iff {m : Mach} {p q : List Nat} (hp : p ∈ parts m) (hq : q ∈ parts m) {x y : Nat} (hx : x ∈ p) (hy : y ∈ q) : leads m p q ↔ Pth m x y :=
  ⟨fun h => ((both_ways hp hx (head_in hp)).trans h).trans (both_ways hq (head_in hq) hy), fun h => ((both_ways hp (head_in hp) hx).trans h).trans (both_ways hq hy (head_in hq))⟩
theorem same_part {m : Mach} {p q : List Nat} (hp : p ∈ parts m) (hq : q ∈ parts m) {x y : Nat} (hx : x ∈ p) (hy : y ∈ q) (h1 : Pth m x y) (h2 : Pth m y x) : p = q := by
  rw [part_conn hp hx, part_conn hq hy]
  exact (conn_eq (mem_conn.mpr ⟨part_lt hq hy, h1, h2⟩)).symm
theorem deps_zero {m : Mach} : Deps m 0 (fun _ => 1) where
  snd := fun q hq => ⟨[q.getD 0 0], ⟨⟨fun x hx => by rw [List.mem_singleton.mp hx]; exact part_lt hq (head_in hq), by simp⟩, q.getD 0 0, head_in hq, [], rfl⟩, rfl⟩
  cmp := fun q hq l _ h => h
/-- a longer chain ahead of another part -/
theorem chain_cons {m : Mach} {p q l : List Nat} (hp : p ∈ parts m) (hq : q ∈ parts m) (hne : q ≠ p) (hl : leads m p q) (h : ChIn m q l) : ChIn m p (p.getD 0 0 :: l) := by
  obtain ⟨c, x, hx, l', rfl⟩ := h
  have hs := head_in hp
  have sx : Pth m (p.getD 0 0) x := (leads_iff hp hq hs hx).mp hl
  have nx : ¬ Pth m x (p.getD 0 0) := fun z => hne (same_part hq hp hx hs z sx)
  have pw := List.pairwise_cons.mp c.pw
  refine ⟨⟨fun y hy => ?_, List.pairwise_cons.mpr ⟨fun y hy => ?_, c.pw⟩⟩, _, hs, _, rfl⟩
  · rcases List.mem_cons.mp hy with rfl | hy
    · exact part_lt hp hs
    · exact c.lt y hy
  · rcases List.mem_cons.mp hy with rfl | hy
    · exact ⟨sx, nx⟩
    · exact ⟨sx.trans (pw.1 y hy).1, fun z => nx ((pw.1 y hy).1.trans z)⟩
/-- one part set anew -/
theorem deps_set {m : Mach} {t k : Nat} {dep : List Nat → Nat} {p : List Nat} (d : Deps m t dep) (hp : p ∈ parts m) (h1 : k = 1 ∨ ∃ q ∈ parts m, q ≠ p ∧ leads m p q ∧ k = 1 + dep q) (h0 : 1 ≤ k) (h2 : ∀ q ∈ parts m, q ≠ p → leads m p q → 1 + dep q ≤ k) :
    Deps m t (fun x => if x = p then k else dep x) ∧ ∀ l, ChIn m p l → l.length ≤ t + 2 → l.length ≤ k := by
  have big : ∀ l, ChIn m p l → l.length ≤ t + 2 → l.length ≤ k := fun l h hl => by
    obtain ⟨c, x, hx, l', rfl⟩ := h
    cases l' with
    | nil => exact h0
    | cons y l' =>
      have pw := List.pairwise_cons.mp c.pw
      have hxy := pw.1 y List.mem_cons_self
      have hyl := c.lt y (List.mem_cons_of_mem _ List.mem_cons_self)
      have hq : conn m y ∈ parts m := mem_parts.mpr ⟨y, hyl, rfl⟩
      have hy := conn_self hyl
      have ne : conn m y ≠ p := fun e => hxy.2 (by rw [← e] at hx hp; exact both_ways hp hy hx)
      have le := d.cmp _ hq (y :: l') ⟨⟨fun z hz => c.lt z (List.mem_cons_of_mem _ hz), pw.2⟩, y, hy, l', rfl⟩ (by rw [List.length_cons] at hl; omega)
      have := h2 _ hq ne ((leads_iff hp hq hx hy).mpr hxy.1)
      rw [List.length_cons]
      omega
  refine ⟨⟨fun q hq => ?_, fun q hq l h hl => ?_⟩, big⟩
  · by_cases e : q = p
    · subst e
      rw [if_pos rfl]
      rcases h1 with h1 | ⟨r, hr, hne, hld, h1⟩
      · rw [h1]
        exact (deps_zero (m := m)).snd q hq
      · obtain ⟨l, hl, e⟩ := d.snd r hr
        exact ⟨_, chain_cons hq hr hne hld hl, by rw [List.length_cons, e, h1, Nat.add_comm]⟩
    · rw [if_neg e]
      exact d.snd q hq
  · by_cases e : q = p
    · subst e
      rw [if_pos rfl]
      exact big l h (by omega)
    · rw [if_neg e]
      exact d.cmp q hq l h hl
/-- chains are not longer than there are parts -/
theorem chain_len {m : Mach} {l : List Nat} (c : Chn m l) : l.length ≤ (parts m).length := by
  have nd : (l.map (conn m)).Nodup := by
    rw [List.Nodup, List.pairwise_map]
    refine List.Pairwise.imp_of_mem (fun {a b} ha hb h e => h.2 ?_) c.pw
    have : a ∈ conn m b := by rw [← e]; exact conn_self (c.lt a ha)
    exact (mem_conn.mp this).2.1
  have := sub_len nd (L := parts m) fun x hx => by
    obtain ⟨s, hs, rfl⟩ := List.mem_map.mp hx
    exact mem_parts.mpr ⟨s, c.lt s hs, rfl⟩
  rwa [List.length_map] at this
theorem deps_end {m : Mach} {dep : List Nat → Nat} {t k : Nat} (d : Deps m t dep) (ht : (parts m).length ≤ t) (h1 : ∃ q ∈ parts m, k = dep q) (h2 : ∀ q ∈ parts m, dep q ≤ k) : IsLongest m k := by
  obtain ⟨q, hq, rfl⟩ := h1
  obtain ⟨l, hl, e⟩ := d.snd q hq
  refine ⟨⟨l, hl.1, e⟩, fun l c => ?_⟩
  cases l with
  | nil => exact Nat.zero_le _
  | cons x l =>
    have hx := c.lt x List.mem_cons_self
    have hp : conn m x ∈ parts m := mem_parts.mpr ⟨x, hx, rfl⟩
    have h3 := d.cmp _ hp (x :: l) ⟨c, x, conn_self hx, l, rfl⟩ (by have := chain_len c; omega)
    exact Nat.le_trans h3 (h2 _ hp)
end Zb
end
section
set_option Elab.async false
set_option linter.all false
set_option maxRecDepth 100000
/-! Zs18: rules for longest: a dict from parts to depths. -/
namespace Zb
open PySem PySem.Spec PyProof.Rows L2 SlX
theorem kop_neD {X : Cx} (K : PySem.W.Frag) (hK : X.K = K) (hu : X.A.units + 64 < cLine) : OpR X (compareOp .NotEq) (rNeD K) := hK ▸ op_neD hu
def keyT (p : List Nat) : List Key := p.map fun n : Nat => Sum.inl (n : Int)
def mkD (ps : List (List Nat)) (dep : List Nat → Nat) : List (List Key × V) := ps.map fun p => (keyT p, V.int ((dep p : Nat) : Int))
theorem keyT_inj : ∀ {p q : List Nat}, keyT p = keyT q → p = q
  | [], [], _ => rfl
  | [], _ :: _, h => nomatch h
  | _ :: _, [], h => nomatch h
  | a :: p, b :: q, h => by
    have h : (Sum.inl (a : Int) : Key) :: keyT p = Sum.inl (b : Int) :: keyT q := h
    injection h with h1 h2
    rw [keyT_inj h2]
    congr 1
    have := Sum.inl.inj h1
    omega
theorem mkD_at {ps : List (List Nat)} {dep : List Nat → Nat} {p : List Nat} : p ∈ ps → valV (mkD ps dep) (keyT p) = some (V.int ((dep p : Nat) : Int)) := by
  induction ps with
  | nil => intro h; cases h
  | cons q ps ih =>
    intro h
    show valV ((keyT q, V.int ((dep q : Nat) : Int)) :: mkD ps dep) (keyT p) = _
    by_cases e : q = p
    · subst e
      exact valV_pos rfl
    · rw [valV_neg (fun z => e (keyT_inj z))]
      exact ih ((List.mem_cons.mp h).resolve_left fun z => e z.symm)
theorem mkD_none {ps : List (List Nat)} {dep : List Nat → Nat} {p : List Nat} : p ∉ ps → valV (mkD ps dep) (keyT p) = none := by
  induction ps with
  | nil => intro _; rfl
  | cons q ps ih =>
    intro h
    show valV ((keyT q, V.int ((dep q : Nat) : Int)) :: mkD ps dep) (keyT p) = _
    rw [valV_neg (fun z => h (by rw [keyT_inj z]; exact List.mem_cons_self))]
    exact ih fun z => h (List.mem_cons_of_mem _ z)
theorem mkD_new {ps : List (List Nat)} {dep : List Nat → Nat} {p : List Nat} (h : p ∉ ps) : putK (mkD ps dep) (keyT p) (V.int ((dep p : Nat) : Int)) = mkD (ps ++ [p]) dep := by
  rw [putK_new _ (mkD_none h)]
  unfold mkD
  rw [List.map_append]
  rfl
theorem mkD_put {ps : List (List Nat)} {dep : List Nat → Nat} {p : List Nat} {k : Nat} (h : p ∈ ps) : putK (mkD ps dep) (keyT p) (V.int (k : Int)) = mkD ps (fun x => if x = p then k else dep x) := by
  unfold putK
  rw [valV_any, mkD_at h, Option.isSome_some, if_pos rfl]
  unfold mkD
  rw [List.map_map]
  refine List.map_congr_left fun q _ => ?_
  show (if keyT q = keyT p then (keyT q, V.int (k : Int)) else (keyT q, V.int ((dep q : Nat) : Int))) = (keyT q, V.int (((if q = p then k else dep q) : Nat) : Int))
  by_cases e : q = p
  · rw [if_pos (by rw [e]), if_pos e]
  · rw [if_neg (fun z => e (keyT_inj z)), if_neg e]
theorem tup_key {p : List Nat} {vs : List V} {B : Hp} (al : Al rNat p vs B) : vs = (keyT p).map kV := by
  rw [al_nat al]
  unfold keyT
  rw [List.map_map]
  rfl
section
variable {σ : L2.St} {M B : Hp} {tb tv td : TE} {D : Ends} {tz : TS} {U : Up}
theorem ev_dgetT {i : Nat} {l : Addr} {kvs : List (List Key × V)} {p : List Nat} {v : V} (hσ : σ[i]? = some (some (.ref l))) (hM : M l = some (.dT kvs)) (hb : Ev tb σ M B (rTup rNat p)) (e : valV kvs (keyT p) = some v) : Ev (tDGet (tVar i) tb) σ M B (isV v) := fun M1 B1 m b d Q q =>
  ⟨_, hσ, hb M1 B1 m b d _ fun y B2 b2 d2 ⟨a, vs, ey, h, al⟩ => ⟨l, v, rfl, by
    rw [tup_key al] at h
    have := DGet.t (k := keyT p) (jn_m (m _ _ hM)) (jn_b d2 h)
    rw [e] at this
    rw [ey]
    exact this, q _ B2 b2 d2 rfl⟩⟩
theorem s_dputT {i : Nat} {l : Addr} {kvs : List (List Key × V)} {p : List Nat} {tk : TE} (hσ : σ[i]? = some (some (.ref l))) (hl : M l = some (.dT kvs)) (hv : Ev tv σ M B U) (hk : Ev tk σ M B (rTup rNat p)) (d : Dj B M) (hz : kvs.length < 100000)
    (kk : ∀ v B', Same B B' → Dj B' (upd M l (.dT (putK kvs (keyT p) v))) → U.p v B' → D.nx σ (jn B' (upd M l (.dT (putK kvs (keyT p) v))))) : sDPut (tVar i) tk tv D σ (jn B M) :=
  hv M B (Same.refl _) (Same.refl _) d _ fun v B' b d' hv => ⟨_, hσ, hk M B' (Same.refl _) b d' _ fun y B2 b2 d2 ⟨a, vs, ey, h, al⟩ => ⟨l, upd (jn B2 M) l (.dT (putK kvs (keyT p) v)), rfl, by
    rw [tup_key al] at h
    rw [ey]
    exact DPut.t (jn_m hl) (jn_b d2 h) (Nat.lt_of_lt_of_le hz (by decide)), by
    rw [jn_updM]
    exact kk v B2 (b.trans b2) (dj_m d2 (dj_none d2 hl)) (U.up b2 hv)⟩⟩
/-- max(xs, default=0) -/
theorem ev_maxDf {K : PySem.W.Frag} {ta : TE} {xs : List Nat} (ha : Ev ta σ M B (rLst rNat xs)) : Ev (tCKw (rMaxDf K) (tCons ta tNil) (tCons (tC (.int 0)) tNil)) σ M B (rEx (fun k : Nat => (xs = [] ∧ k = 0) ∨ (k ∈ xs ∧ ∀ y ∈ xs, y ≤ k)) rNat) := fun M1 B1 m b d Q q =>
  ha M1 B1 m b d _ fun v B2 b2 d2 ⟨a, vs, e, h, al⟩ => ⟨a, xs.map fun i : Nat => (i : Int), 0, by rw [e], rfl, by rw [← al_int al]; exact SqL.of (jn_b d2 h), fun h0 => q _ B2 b2 d2 ⟨0, .inl ⟨List.map_eq_nil_iff.mp h0, rfl⟩, rfl⟩, fun k hk hm => by
    obtain ⟨j, hj, rfl⟩ := List.mem_map.mp hk
    refine q _ B2 b2 d2 ⟨j, .inr ⟨hj, fun y hy => ?_⟩, rfl⟩
    have := hm (y : Int) (List.mem_map.mpr ⟨y, hy, rfl⟩)
    omega⟩
/-- max(d.values()) -/
theorem ev_maxVT {K : PySem.W.Frag} {i : Nat} {p : Addr} {ps : List (List Nat)} {dep : List Nat → Nat} (hσ : σ[i]? = some (some (.ref p))) (hM : M p = some (.dT (mkD ps dep))) (hn : ps ≠ []) : Ev (tCB rMaxVT (tCons (tBM0 K "dict" rValsT (tVar i)) tNil)) σ M B (rEx (fun k : Nat => (∃ q ∈ ps, k = dep q) ∧ ∀ q ∈ ps, dep q ≤ k) rNat) := fun M1 B1 m b d Q q =>
  ⟨_, hσ, .inr (.inr (.inl ⟨rfl, .inr ⟨_, jn_m (m _ _ hM)⟩⟩)), p, _, rfl, rfl, jn_m (m _ _ hM), fun v hv => by
    obtain ⟨hm, hb⟩ := jn_none hv
    have hne : v ≠ p := fun e => by rw [e, m _ _ hM] at hm; cases hm
    rw [jn_updB hm]
    refine ⟨v, p, _, ps.map fun q => ((dep q : Nat) : Int), rfl, jn_b (dj_b d hm) upd_same, jn_m (m _ _ hM), ?_, ?_, fun k hk hmx => ?_⟩
    · unfold mkD
      rw [List.map_map, List.map_map]
      rfl
    · rw [List.length_map]
      exact List.length_pos_iff.mpr hn
    · obtain ⟨r, hr, rfl⟩ := List.mem_map.mp hk
      refine q _ _ (same_new hb) (dj_b d hm) ⟨dep r, ⟨⟨r, hr, rfl⟩, fun y hy => ?_⟩, rfl⟩
      have := hmx _ (List.mem_map.mpr ⟨y, hy, rfl⟩)
      omega⟩
end
end Zb
end
section
set_option Elab.async false
set_option linter.all false
set_option maxRecDepth 100000
/-! Zs19: the walk: longest. -/
namespace Zb
open PySem PySem.Spec PyProof.Rows L2 SlX
abbrev s_Rings_longest : Stmt := inClass (top 56) 6
theorem sc_Rings_longest : FnScope ["self", "depths", "part", "turn", "behind", "other"] ["self"] (defScope s_Rings_longest) := ⟨rfl, rfl, rfl, by decide +kernel, rfl, by decide +kernel, by decide +kernel⟩
def sp_longest (c : Cs) : Sp := spF (α := Mach) (fun m => [rRg c m]) Wf (fun m => rEx (IsLongest m) rNat)
section
variable {P : Program} {w : World} {K : PySem.W.Frag} {mg : Str → Option Value} {base : Heap} {c : Cs}
theorem walk_longest (Kk : Kc K c) (T : Bt mg) (c_leads_to : CalM P w K mg base 1 c.CR "leads_to" (sp_leads_to c)) (f : Addr) (cdv : Value) (A : Around) (outer : List Env) (s : Shared) (H : Hp) (vs : List V) (Q : VK) (E : XK) (hr : Room 1 (A.deeper (envOfC "Rings.longest" (defScope s_Rings_longest) s.heap.objs.size f cdv))) (h : sp_longest c vs H Q E) :
    ∃ t, PSs (cxOf CX0 P w K mg base ["self", "depths", "part", "turn", "behind", "other"] "Rings.longest" (defScope s_Rings_longest) f cdv A outer s H E).nox (defBody s_Rings_longest) t ∧ t { nx := fun _ H' => Q .non H', rt := Q } (start ["self", "depths", "part", "turn", "behind", "other"] vs) H := by
  obtain ⟨m, B, M, rfl, d, wf, al, q⟩ := h
  have sc := sc_Rings_longest
  have hu := room_1 hr
  have hu64 := Nat.lt_of_succ_lt (room_u hr)
  refine ⟨_, (pss_cons (ps_set (i := 1) sc.nd rfl (.inr rfl) pe_dnewT)
      (pss_cons (ps_for PassesOwn.never rfl (kpi_tup K rfl (kpe_fld K rfl (pv 0))) (pg_name (i := 2) sc.nd rfl (.inr rfl)) (pss_one (ps_dput hu (pv 1) (pv 2) pe_int rfl)))
      (pss_cons (ps_for PassesOwn.never rfl (pi_range1 (by rfl) T.range (pa_cons (pe_callB (kc_len K rfl) (by rfl) T.len (by decide +kernel) (pa_cons (kpe_fld K rfl (pv 0)) pa_nil)) pa_nil)) (pg_name (i := 3) sc.nd rfl (.inl rfl)) (pss_one (ps_for PassesOwn.never rfl (kpi_tup K rfl (kpe_fld K rfl (pv 0))) (pg_name (i := 2) sc.nd rfl (.inr rfl)) (pss_cons (ps_setLc (i := 4) (own := [("other", 5)]) rfl sc.nd rfl rfl (sw_true rfl rfl rfl (by decide +kernel)) (kpi_tup K rfl (kpe_fld K rfl (pv 0))) (blkOk_by (by kernel_rfl)) (fun _ _ _ _ _ => (pg_name (i := 5) sc.nd rfl (.inl rfl))) (fun _ _ _ _ _ => (pts_one (PW.pt (pw_and (pt_cmpR (kop_neD K rfl hu64) (pv 5) (pv 2) (nomark _)) (pw_and1 (pt_val (pe_mth c_leads_to Kk.rc hr (by decide) (pv 0) (pa_cons (pv 2) (pa_cons (pv 5) pa_nil))))))))) (fun _ _ _ _ _ => (pe_dget hu (pv 1) (pv 5) (fun _ _ => rfl))))
      (pss_one (ps_dput hu (pv 1) (pv 2) (pe_op op_add pe_int (pe_callBK (cr_maxDf K rfl rfl hu) (by rfl) T.max (by decide +kernel) (pa_cons (pv 4) pa_nil) (pk_cons pe_int pk_nil))) rfl))))))
      (pss_one (ps_ret (pe_callB (cr_maxVT rfl) (by rfl) T.max (by decide +kernel) (pa_cons (pe_bm0 PySem.F.plainAttrs_dict PySem.F.slot_dict_values PySem.F.type_dict_values mt_valuesT (pv 1)) pa_nil))))))), ?_⟩
  cases al with
  | cons h1 al =>
    cases al
    have hle := wf.le
    have npl := parts_len (m := m)
    have nd : (parts m).Nodup := parts_heads.imp fun {a b} h e => by rw [e] at h; exact Nat.lt_irrefl _ h
    have pne : parts m ≠ [] := List.ne_nil_of_mem (mem_parts.mpr ⟨0, wf.pos, rfl⟩)
    have self : ∀ {σ9 : L2.St} {M9 B9 : Hp} {v0 : V}, σ9[0]? = some (some v0) → (rRg c m).p v0 B9 → Ev (tVar 0) σ9 M9 B9 (rRg c m) := fun e h => ev_v e h
    refine q_dnewT fun p hMp hBp => ?_
    refine q_for (R := rTup rNat) (xs := parts m) (ei_tup (ev_rgParts Kk (ev_v (U := rRg c m) rfl h1))) (dj_m d hBp) (fun i σ9 M9 B9 => ∃ o2 o3 o4 o5, σ9 = [some _, some (.ref p), o2, o3, o4, o5] ∧ M9 = upd M p (.dT (mkD ((parts m).take i) fun _ => 1)))
      (fun _ _ _ _ _ _ h => h) (fun B9 b9 d9 => ⟨_, _, _, _, rfl, rfl⟩) (fun B0 i pt v σ9 M9 B9 exi b0 b9 d9 hp hv => ?_) fun σ9 M9 B1 hp b1 d1 => ?_
    · obtain ⟨o2, o3, o4, o5, rfl, rfl⟩ := hp
      have hn : pt ∉ (parts m).take i := fun h => by
        obtain ⟨a, ha, ea⟩ := take_in h
        exact (pw_at nd ea exi ha) rfl
      refine s_dputT (p := pt) (U := rNat 1) rfl upd_same ev_c (ev_v (U := rTup rNat pt) rfl hv) d9 (by unfold mkD; rw [List.length_map, List.length_take]; omega) fun v2 B10 b10 d10 hv2 => ?_
      cases (show _ = _ from hv2)
      refine ⟨_, B10, rfl, d10, b9.trans b10, _, _, _, _, rfl, ?_⟩
      rw [upd_upd, take_snoc exi, ← mkD_new hn]
    · obtain ⟨o2, o3, o4, o5, rfl, rfl⟩ := hp
      rw [List.take_length] at d1 ⊢
      refine q_for (R := rNat) (xs := List.range (parts m).length) (ei_rng1 (ea_cons (ev_lenT (ev_rgParts Kk (ev_v (U := rRg c m) rfl ((rRg c m).up b1 h1)))) ea_nil) (by omega)) d1 (fun t σ9 M9 B9 => ∃ o2 o3 o4 o5 dep, σ9 = [some _, some (.ref p), o2, o3, o4, o5] ∧ M9 = upd M p (.dT (mkD (parts m) dep)) ∧ Deps m t dep)
        (fun _ _ _ _ _ _ h => h) (fun B9 b9 d9 => ⟨_, _, _, _, _, rfl, rfl, deps_zero⟩) (fun B0 t tt v σ9 M9 B9 exi b0 b9 d9 hp hv => ?_) fun σ9 M9 B9 hp b9 d9 => ?_
      · obtain ⟨o2, o3, o4, o5, dep, rfl, rfl, dps⟩ := hp
        refine s_for (R := rTup rNat) (xs := parts m) (ei_tup (ev_rgParts Kk (ev_v (U := rRg c m) rfl ((rRg c m).up (b1.trans (b0.trans b9)) h1)))) d9 (fun i σ9 M9 B9 => ∃ o2 o3 o4 o5 dep, σ9 = [some _, some (.ref p), o2, o3, o4, o5] ∧ M9 = upd M p (.dT (mkD (parts m) dep)) ∧ Deps m t dep ∧ ∀ q ∈ (parts m).take i, ∀ l, ChIn m q l → l.length ≤ t + 2 → l.length ≤ dep q)
          (fun _ _ _ _ _ _ h => h) (fun B10 b10 d10 => ⟨_, _, _, _, dep, rfl, rfl, dps, fun q hq => by simp at hq⟩) (fun B0' i pt v σ9 M9 B10 exi b0' b10 d10 hp hv => ?_) fun σ9 M9 B10 hp b10 d10 => ?_
        · obtain ⟨o2, o3, o4, o5, dep, rfl, rfl, dps, hdone⟩ := hp
          have hpt : pt ∈ parts m := List.mem_of_getElem? exi
          have s10 : Same B B10 := b1.trans (b0.trans (b9.trans (b0'.trans b10)))
          refine q_asg (U := rLst rNat (((parts m).filter fun q => !decide (q = pt) && dec (leads m pt q)).map dep)) (EvN.lst ?_) d10 fun bv B11 b11 d11 hbv => ?_
          · refine (en_lc (R := rTup rNat) (S := fun q : List Nat => rNat (dep q)) (xs := parts m) (f := fun q => !decide (q = pt) && dec (leads m pt q)) (ei_tup (ev_rgParts Kk (ev_v (U := rRg c m) rfl ((rRg c m).up s10 h1)))) (by omega) (fun _ => rfl) (fun q hq v6 M6 B6 m6 b6 hv6 => ?_) fun q hq _ v6 M6 B6 m6 b6 hv6 => ?_).to fun vs B7 h7 => Al.map (R := rNat) (f := dep) h7
            · exact et_and (et_test (ev_neTn (ev_v (U := rTup rNat q) rfl hv6) (ev_v (U := rTup rNat pt) rfl ((rTup rNat pt).up b6 hv)))) fun _ => et_test (ev_leads (ev_v (U := rRg c m) rfl ((rRg c m).up (s10.trans b6) h1)) (ev_v (U := rTup rNat pt) rfl ((rTup rNat pt).up b6 hv)) (ev_v (U := rTup rNat q) rfl hv6) (part_ne hpt) (part_ne hq) fun s hs => part_lt hpt hs)
            · exact ev_dgetT (p := q) rfl (m6 _ _ upd_same) (ev_v (U := rTup rNat q) rfl hv6) (mkD_at hq)
          · refine s_dputT (p := pt) (U := rEx (fun k : Nat => ∃ j : Nat, k = 1 + j ∧ ((((parts m).filter fun q => !decide (q = pt) && dec (leads m pt q)).map dep = [] ∧ j = 0) ∨ (j ∈ ((parts m).filter fun q => !decide (q = pt) && dec (leads m pt q)).map dep ∧ ∀ y ∈ ((parts m).filter fun q => !decide (q = pt) && dec (leads m pt q)).map dep, y ≤ j))) rNat) rfl upd_same
              (ev_op (ev_c (x := .int 1)) (ev_maxDf (ev_v (U := rLst rNat (((parts m).filter fun q => !decide (q = pt) && dec (leads m pt q)).map dep)) rfl hbv)) fun x y M2 B2 _ _ d2 hx hy Q2 q2 => by
                obtain ⟨j, hj, hy⟩ := hy
                exact ⟨1, j, hx, hy, q2 _ B2 (Same.refl _) d2 ⟨1 + j, ⟨j, rfl, hj⟩, by show V.int (1 + (j : Int)) = V.int ((1 + j : Nat) : Int); congr 1⟩⟩)
              (ev_v (U := rTup rNat pt) rfl ((rTup rNat pt).up b11 hv)) d11 (by unfold mkD; rw [List.length_map]; omega) fun v12 B12 b12 d12 hv12 => ?_
            obtain ⟨k, ⟨j, rfl, hj⟩, hv12⟩ := hv12
            cases (show _ = _ from hv12)
            have memf : ∀ r, r ∈ ((parts m).filter fun q => !decide (q = pt) && dec (leads m pt q)) ↔ r ∈ parts m ∧ r ≠ pt ∧ leads m pt r := fun r => by
              rw [List.mem_filter, Bool.and_eq_true, dec_iff]
              simp
            have set := deps_set (k := 1 + j) dps hpt (by
              rcases hj with ⟨_, rfl⟩ | ⟨hj, _⟩
              · exact .inl rfl
              · obtain ⟨r, hr, rfl⟩ := List.mem_map.mp hj
                obtain ⟨a1, a2, a3⟩ := (memf r).mp hr
                exact .inr ⟨r, a1, a2, a3, rfl⟩) (by omega) (fun r hr hne hl => by
              have hr' := (memf r).mpr ⟨hr, hne, hl⟩
              rcases hj with ⟨h0, _⟩ | ⟨_, hj⟩
              · rw [List.map_eq_nil_iff] at h0
                rw [h0] at hr'
                cases hr'
              · have := hj _ (List.mem_map_of_mem (f := dep) hr')
                omega)
            refine ⟨_, B12, rfl, d12, b10.trans (b11.trans b12), _, _, _, _, _, rfl, by rw [upd_upd, mkD_put hpt], set.1, fun r hr l hl hle => ?_⟩
            rw [take_snoc exi] at hr
            by_cases e : r = pt
            · subst e
              show l.length ≤ if r = r then 1 + j else dep r
              rw [if_pos rfl]
              exact set.2 l hl hle
            · show l.length ≤ if r = pt then 1 + j else dep r
              rw [if_neg e]
              rcases List.mem_append.mp hr with z | z
              · exact hdone r z l hl hle
              · exact absurd (List.mem_singleton.mp z) e
        · obtain ⟨o2, o3, o4, o5, dep, rfl, rfl, dps, hdone⟩ := hp
          rw [List.take_length] at hdone
          exact ⟨_, B10, rfl, d10, b9.trans b10, _, _, _, _, dep, rfl, rfl, ⟨dps.snd, hdone⟩⟩
      · obtain ⟨o2, o3, o4, o5, dep, rfl, rfl, dps⟩ := hp
        rw [List.length_range] at dps
        have hB9 : B9 p = none := dj_none d9 upd_same
        refine s_ret (U := rEx (IsLongest m) rNat) (Ev.to (ev_maxVT (p := p) rfl upd_same pne) fun v B10 _ ⟨k, hk, hv⟩ => ⟨k, deps_end dps (Nat.le_refl _) hk.1 hk.2, hv⟩) d9 fun v B10 b10 d10 hv10 => ?_
        rw [jn_pub hMp]
        have sB : Same B10 (upd B10 p (.dT (mkD (parts m) dep))) := same_new (dj_none d10 upd_same)
        exact q v _ (b1.trans (b9.trans (b10.trans sB))) (dj_b (dj_sub hMp d10) hMp) ((rEx (IsLongest m) rNat).up sB hv10)
theorem f_longest {f : Addr} {fd : FuncData} (F : FunD K "longest" "Rings.longest" (defArgs s_Rings_longest) (defBody s_Rings_longest) (defScope s_Rings_longest) [] [] f fd) (Kk : Kc K c) (T : Bt mg) (c_leads_to : CalM P w K mg base 1 c.CR "leads_to" (sp_leads_to c)) : FnR P w K mg base CX0 2 f (sp_longest c) := by
  have F1 : FnOk P w K mg base CX0 2 f fd ["self"] (sp_longest c) := fnok_of F sc_Rings_longest (spF_len fun _ => rfl) fun f cdv A outer s H vs Q E hr h => walk_longest Kk T c_leads_to f cdv A outer s H vs Q E hr h
  have := F1.raw (F.bindsN fun _ _ _ _ _ _ us hl => match us, hl with | [_], _ => rfl) .nil
  simpa using this
end
end Zb
end
section
set_option Elab.async false
set_option linter.all false
set_option maxRecDepth 100000
/-! Zg1: generators whose consumers are generators: the base of each wake is the woken state. -/
namespace Zb
open PySem PySem.Spec PyProof.Rows L2 GenW

/-! ### an older heap's places, as they stand now -/
def cutH (h0 h : Heap) : Heap := { h0 with objs := Array.ofFn (n := h0.objs.size) fun i => match h0.get? i.val, h.get? i.val with
  | some _, some o => o
  | _, _ => { cls := .none, dict := none, data := .freed, slots := #[] } }
theorem cut_size {h0 h : Heap} : (cutH h0 h).objs.size = h0.objs.size := by
  show (Array.ofFn _).size = _
  simp
theorem live_at {h : Heap} {b : Addr} {o : Obj} (e : h.get? b = some o) : h.objs[b]? = some o := by
  unfold Heap.get? at e
  split at e
  · cases e
  · exact e
theorem cut_get {h0 h : Heap} {b : Addr} : (cutH h0 h).get? b = if (h0.get? b).isSome then h.get? b else none := by
  by_cases hb : b < h0.objs.size
  · have e : (cutH h0 h).objs[b]? = some (match h0.get? b, h.get? b with
      | some _, some o => o
      | _, _ => { cls := .none, dict := none, data := .freed, slots := #[] }) := by
      show (Array.ofFn _)[b]? = _
      simp [hb]
    have k : (cutH h0 h).get? b = (match (cutH h0 h).objs[b]? with | some ⟨_, _, .freed, _⟩ => none | o => o) := rfl
    rw [k, e]
    cases e1 : h0.get? b with
    | none => rfl
    | some o0 =>
      cases e2 : h.get? b with
      | none => rfl
      | some o =>
        have q := live_at e2
        have k2 : h.get? b = (match h.objs[b]? with | some ⟨_, _, .freed, _⟩ => none | o => o) := rfl
        rw [q] at k2
        show (match some o with | some ⟨_, _, .freed, _⟩ => none | o => o) = some o
        rw [← k2, e2]
  · have e1 : h0.get? b = none := Heap.get?_none_of_le (Nat.le_of_not_lt hb)
    rw [e1]
    exact Heap.get?_none_of_le (by rw [cut_size]; exact Nat.le_of_not_lt hb)
theorem cut_some {h0 h : Heap} {b : Addr} {o : Obj} (e : (cutH h0 h).get? b = some o) : (∃ o0, h0.get? b = some o0) ∧ h.get? b = some o := by
  rw [cut_get] at e
  cases q : h0.get? b with
  | none => rw [q] at e; cases e
  | some o0 => rw [q] at e; exact ⟨⟨o0, rfl⟩, e⟩
theorem cut_of {h0 h : Heap} {b : Addr} {o0 o : Obj} (e0 : h0.get? b = some o0) (e : h.get? b = some o) : (cutH h0 h).get? b = some o := by
  rw [cut_get, e0]
  exact e
theorem cut_funs {h0 h1 h base : Heap} : ∀ {l : List Env}, (cutH h0 h1).FunFrames base l → h.FunFrames base l → (cutH h0 h).FunFrames base l
  | [], _, _ => trivial
  | env :: r, ⟨_, ⟨L, o, hf, _, ho, _⟩, hr⟩, ⟨hk, ⟨L', o', hf', hn', ho', hd'⟩, hr'⟩ => by
    rw [hf] at hf'
    cases hf'
    obtain ⟨⟨o0, e0⟩, _⟩ := cut_some ho
    exact ⟨hk, ⟨L, o', hf, hn', cut_of e0 ho', hd'⟩, cut_funs hr hr'⟩

/-! ### a run's fixed things: X: the context at the call; C: what the consumer may change while we sleep; PA: what it made after the call and wants kept; g: our number; Gd: how the heap may have grown; T: all the texts -/
structure GF where
  X : Cx
  C : Addr → Prop
  PA : List Addr
  g : Nat
  Gd : Hp → Prop
  T : List (List Nat)
def rb (X : Cx) (s : Shared) : Cx := { X with s_0 := { s with heap := cutH X.s_0.heap s.heap }, xe := fun _ _ => False }
structure GOk (F : GF) : Prop where
  c : ∀ b, F.C b → ((∃ o, F.X.s_0.heap.get? b = some o) ∨ b ∈ F.PA) ∧ F.X.H_0 b = none ∧ F.X.base.get? b = none
  pa : ∀ b ∈ F.PA, F.X.s_0.heap.objs.size ≤ b ∧ b ≠ F.X.env.locals ∧ (∀ x c, F.X.env.cells.lookup x = some c → c ≠ b) ∧ ∀ p ∈ F.X.pn, p.1 ≠ b
  pn : ∀ p ∈ F.X.pn, F.X.s_0.heap.objs.size ≤ p.1
  ex : F.X.ex = []
  calm : F.X.calm = true
  fn : ∀ x, F.X.fn x = true
  gd : ∀ H', F.Gd H' → Same F.X.H_0 H'
/-- running, woken at s₀ -/
structure GnI (F : GF) (ip : List (Addr × Obj)) (σ : L2.St) (H : Hp) (s₀ s : Shared) : Prop where
  inv : ∃ pl, pl.map (·.1) = F.PA ∧ (∀ p ∈ pl, s₀.heap.get? p.1 = some p.2) ∧ Inv (rb F.X s₀) (pl ++ ip) σ H s
  g : F.g < s.gens.size
  ip : ∀ p ∈ ip, ¬ F.C p.1
  lives : ∀ b o, F.X.s_0.heap.get? b = some o → ∃ o', s₀.heap.get? b = some o'
/-- the consumer's doings while we sleep -/
structure GnS (F : GF) (s s' : Shared) : Prop where
  os : s'.os = s.os
  bare : AllBare s'.gens
  keep : ∀ b o, ¬ F.C b → s.heap.get? b = some o → s'.heap.get? b = some o
  thr : ∀ b o, s.heap.get? b = some o → ∃ o', s'.heap.get? b = some o'
  pa : ∀ b ∈ F.PA, ∃ o, s'.heap.get? b = some o ∧ ∀ v, o.data ≠ .cell v
  funs : s'.heap.FunFrames F.X.base F.X.outer
  gs : ∀ j, F.g < j → j < s.gens.size → s'.gens[j]? = s.gens[j]?
  gz : F.g < s'.gens.size
/-- our doings from a wake to the next hand-out or the end -/
structure GnK (F : GF) (s₀ s : Shared) (H' : Hp) : Prop where
  os : s.os = s₀.os
  bare : AllBare s.gens
  un : Un F.X.fs [] F.X.H_0 H' (cutH F.X.s_0.heap s₀.heap) s.heap
  hok : HOk F.X.prog F.X.w H' s.heap
  pa : ∀ b ∈ F.PA, s.heap.get? b = s₀.heap.get? b ∧ H' b = none
  pn : ∀ p ∈ F.X.pn, s.heap.get? p.1 = some p.2 ∧ H' p.1 = none
  lives : ∀ b o, F.X.s_0.heap.get? b = some o → ∃ o', s.heap.get? b = some o'
  gd : F.Gd H'
def GnY (F : GF) : Protocol := fun n s₀ v s kap => ∃ w H', F.T[F.T.length - (n + 1)]? = some w ∧ RelV (.str (tx w)) v ∧ GnK F s₀ s H' ∧ ∀ s', GnS F s s' → kap (.send .none) s'
def GnR (F : GF) : GenEnd := fun n s₀ r s => ((r = .ok (.ret .none) ∨ r = .ok .next) ∧ (n = 0 ∧ ∃ H', GnK F s₀ s H')) ∨ ∃ e, r = .error e ∧ False

theorem pinsAt_map {h : Heap} : ∀ {l : List Addr}, (∀ b ∈ l, ∃ o, h.get? b = some o) → (pinsAt l h).map (·.1) = l
  | [], _ => rfl
  | b :: r, k => by
    obtain ⟨o, e⟩ := k b List.mem_cons_self
    have ih := pinsAt_map (h := h) (l := r) fun c hc => k c (List.mem_cons_of_mem _ hc)
    unfold pinsAt at ih ⊢
    rw [List.filterMap_cons]
    simp only [e, Option.map_some, List.map_cons]
    rw [ih]
section
variable {F : GF} {ip : List (Addr × Obj)} {σ : L2.St} {H : Hp} {s₀ s s' : Shared}
theorem GOk.noC (G : GOk F) {b : Addr} (h : F.X.s_0.heap.objs.size ≤ b) (n : b ∉ F.PA) : ¬ F.C b := fun c => by
  rcases (G.c b c).1 with ⟨o, e⟩ | z
  · exact absurd (Nat.lt_of_lt_of_le (Heap.lt_size e) h) (Nat.lt_irrefl _)
  · exact n z
theorem GOk.noL (G : GOk F) (ok : (rb F.X s₀).Ok) : ¬ F.C F.X.env.locals := G.noC (by have := ok.above; rw [show (rb F.X s₀).s_0.heap.objs.size = F.X.s_0.heap.objs.size from cut_size] at this; exact this) fun z => (G.pa _ z).2.1 rfl
theorem GOk.noCell (G : GOk F) (ok : (rb F.X s₀).Ok) {x : Str} {c : Addr} (e : F.X.env.cells.lookup x = some c) : ¬ F.C c :=
  G.noC (by have := ok.cab x c (G.fn x) e; rw [show (rb F.X s₀).s_0.heap.objs.size = F.X.s_0.heap.objs.size from cut_size] at this; exact this) fun z => (G.pa _ z).2.2.1 x c e rfl
theorem GOk.noPn (G : GOk F) {p : Addr × Obj} (hp : p ∈ F.X.pn) : ¬ F.C p.1 := G.noC (G.pn p hp) fun z => (G.pa _ z).2.2.2 p hp rfl
/-- woken again -/
theorem GnI.wake (G : GOk F) (I0 : GnI F ip σ H s₀ s) (z : GnS F s s') : GnI F ip σ H s' s' := by
  obtain ⟨⟨pl, e1, e2, I⟩, hg, hip, hl⟩ := I0
  have ok := I.ok
  have hlS : ∀ b o, F.X.s_0.heap.get? b = some o → ∃ o', s.heap.get? b = some o' := fun b o e => by
    obtain ⟨o1, q1⟩ := hl b o e
    exact I.base.there b o1 (cut_of e q1) (by rw [show (rb F.X s₀).ex = [] from G.ex]; simp)
  have hl' : ∀ b o, F.X.s_0.heap.get? b = some o → ∃ o', s'.heap.get? b = some o' := fun b o e => by
    obtain ⟨o1, q1⟩ := hlS b o e
    exact z.thr b o1 q1
  have plx : ∀ b ∈ F.PA, ∃ p ∈ pl, p.1 = b := fun b hb => by
    rw [← e1] at hb
    obtain ⟨p, hp, q⟩ := List.mem_map.mp hb
    exact ⟨p, hp, q⟩
  have hC : ∀ b, F.C b → H b = none := fun b hb => by
    obtain ⟨q1, q2, _⟩ := G.c b hb
    rcases q1 with ⟨o, e⟩ | q1
    · obtain ⟨o', e'⟩ := hl b o e
      exact I.base.free b o' (cut_of e e') q2 (by rw [show (rb F.X s₀).ex = [] from G.ex]; simp)
    · obtain ⟨p, hp, rfl⟩ := plx b q1
      exact (I.pin p (List.mem_append_right _ (List.mem_append_left _ hp))).2.1
  have nH : ∀ b u, H b = some u → ¬ F.C b := fun b u e c => by rw [hC b c] at e; cases e
  have kp := z.keep
  refine ⟨⟨pinsAt F.PA s'.heap, pinsAt_map fun b hb => (z.pa b hb).imp fun o q => q.1, fun p hp => (of_pinsAt hp).2, ?_⟩, z.gz, hip, hl'⟩
  refine ⟨⟨ok.mod, ok.kind, ok.glob, ok.blt, ?_, ok.inj, ok.has, fun x c h e => ?_, ok.hd, ok.frames, ok.stk, ok.exf, fun b o e => ?_, ?_, ok.noex, ok.exfs, cut_funs ok.funs z.funs, ok.frf⟩, rfl, z.bare, ⟨fun b o e _ _ _ => (cut_some e).2, fun b o e _ _ _ => ⟨o.slots, (cut_some e).2⟩, fun b o e n _ => ?_, fun b o e _ => ⟨o, (cut_some e).2⟩, I.base.tups, I.base.frzs, I.base.tbls⟩, ?_,
    fun x c e => ?_, I.free, I.freeC, fun p hp => ?_, fun b u e => ?_, I.len⟩
  · have := ok.above
    rw [show (rb F.X s₀).s_0.heap.objs.size = F.X.s_0.heap.objs.size from cut_size] at this
    rw [show (rb F.X s').s_0.heap.objs.size = F.X.s_0.heap.objs.size from cut_size]
    exact this
  · have := ok.cab x c h e
    rw [show (rb F.X s₀).s_0.heap.objs.size = F.X.s_0.heap.objs.size from cut_size] at this
    rw [show (rb F.X s').s_0.heap.objs.size = F.X.s_0.heap.objs.size from cut_size]
    exact this
  · obtain ⟨q1, q2⟩ := ok.bs b o e
    obtain ⟨⟨o0, q0⟩, _⟩ := cut_some q1
    exact ⟨cut_of q0 (kp b o (fun c => by have e' : F.X.base.get? b = some o := e; rw [(G.c b c).2.2] at e'; cases e') (I.bk b o e)), q2⟩
  · have := ok.bsz
    rw [show (rb F.X s₀).s_0.heap.objs.size = F.X.s_0.heap.objs.size from cut_size] at this
    rw [show (rb F.X s').s_0.heap.objs.size = F.X.s_0.heap.objs.size from cut_size]
    exact this
  · obtain ⟨⟨o0, q0⟩, _⟩ := cut_some e
    obtain ⟨o1, q1⟩ := hl b o0 q0
    exact I.base.free b o1 (cut_of q0 q1) n (by rw [show (rb F.X s₀).ex = [] from G.ex]; simp)
  · obtain ⟨m, hn, hv⟩ := I.loc
    refine ⟨m, hn.at' fun o e => kp _ o (G.noL ok) e, fun i x v h1 h2 h3 => ?_⟩
    obtain ⟨u, r, l⟩ := hv i x v h1 h2 h3
    refine ⟨u, r, ?_⟩
    rcases l with l | ⟨k, c, e, o, ho, hd⟩
    · exact .inl l
    · exact .inr ⟨k, c, e, o, kp c o (G.noCell ok e) ho, hd⟩
  · obtain ⟨v, o, ho, hd⟩ := I.cell x c e
    exact ⟨v, o, kp c o (G.noCell ok e) ho, hd⟩
  · rcases List.mem_append.mp hp with hp1 | hp1
    · obtain ⟨a1, a2⟩ := I.pin p (List.mem_append_left _ hp1)
      exact ⟨kp _ _ (G.noPn hp1) a1, a2⟩
    · rcases List.mem_append.mp hp1 with hp2 | hp2
      · obtain ⟨hb, e⟩ := of_pinsAt hp2
        obtain ⟨p0, hp0, q0⟩ := plx p.1 hb
        obtain ⟨_, a2, a3, a4, _⟩ := I.pin p0 (List.mem_append_right _ (List.mem_append_left _ hp0))
        obtain ⟨o, eo, dn⟩ := z.pa p.1 hb
        rw [e] at eo
        cases eo
        rw [q0] at a2 a3 a4
        exact ⟨e, a2, a3, a4, dn⟩
      · obtain ⟨a1, a2⟩ := I.pin p (List.mem_append_right _ (List.mem_append_right _ hp2))
        exact ⟨kp _ _ (hip p hp2) a1, a2⟩
  · refine (I.hok b u e).stay (fun c v hc y => kp c v ?_ y) (fun _ y => y) fun _ _ y => y
    rcases hc with y | y
    · rw [y]; exact nH b u e
    · exact nH c _ y
/-- what a running one has kept -/
theorem GnI.kept (G : GOk F) (I0 : GnI F ip σ H s₀ s) (hg : F.Gd H) : GnK F s₀ s H := by
  obtain ⟨⟨pl, e1, e2, I⟩, _, _, hl⟩ := I0
  have un := I.base
  refine ⟨I.os, I.bare, ⟨fun b o e n f x => un.keep b o e n f (by rw [show (rb F.X s₀).ex = [] from G.ex]; exact x), fun b o e n f x => un.slot b o e n f (by rw [show (rb F.X s₀).ex = [] from G.ex]; exact x), fun b o e n x => un.free b o e n (by rw [show (rb F.X s₀).ex = [] from G.ex]; exact x),
    fun b o e x => un.there b o e (by rw [show (rb F.X s₀).ex = [] from G.ex]; exact x), un.tups, un.frzs, un.tbls⟩, I.hok, fun b hb => ?_, fun p hp => ?_, fun b o e => ?_, hg⟩
  · rw [← e1] at hb
    obtain ⟨p, hp, rfl⟩ := List.mem_map.mp hb
    obtain ⟨a1, a2, _⟩ := I.pin p (List.mem_append_right _ (List.mem_append_left _ hp))
    exact ⟨a1.trans (e2 p hp).symm, a2⟩
  · obtain ⟨a1, a2, _⟩ := I.pin p (List.mem_append_left _ hp)
    exact ⟨a1, a2⟩
  · obtain ⟨o1, q1⟩ := hl b o e
    exact un.there b o1 (cut_of e q1) (by rw [show (rb F.X s₀).ex = [] from G.ex]; simp)
end
end Zb
end
section
set_option Elab.async false
set_option linter.all false
set_option maxRecDepth 100000
/-! Zg2: statements of a generator's body. -/
namespace Zb
open PySem PySem.Spec PyProof.Rows L2 GenW

abbrev Txs : Type := List (List Nat)
/-- what is wanted behind a statement; the texts: what has still to be handed out -/
structure GE where
  nx : Txs → L2.St → Hp → Prop
  rt : Txs → VK
  bk : Txs → L2.St → Hp → Prop := fun _ _ _ => False
  ct : Txs → L2.St → Hp → Prop := fun _ _ _ => False
abbrev GT := GE → Txs → L2.St → Hp → Prop
def GE.at (D : GE) (ws : Txs) : Ends := { nx := D.nx ws, rt := D.rt ws, bk := D.bk ws, ct := D.ct ws }
def Rem (T ws : Txs) : Prop := ∃ pre, T = pre ++ ws
def GSp (F : GF) (ip : List (Addr × Obj)) (D : GE) (ws : Txs) (f : Flow) (s₀ s : Shared) : Prop :=
  match f with
  | .next => ∃ σ H, GnI F ip σ H s₀ s ∧ D.nx ws σ H
  | .brk => ∃ σ H, GnI F ip σ H s₀ s ∧ D.bk ws σ H
  | .cont => ∃ σ H, GnI F ip σ H s₀ s ∧ D.ct ws σ H
  | .ret u => ∃ v σ H, GnI F ip σ H s₀ s ∧ RelV v u ∧ D.rt ws v H
/-- where the code stands -/
structure GC (F : GF) (A : Around) (c : Code) (fs : List Frame) (gd : Bool → Bool) : Prop where
  ok : GOk F
  over : A.over c fs = F.X.A
  split : splitAtGen fs = none
  guard : fs.any Frame.guarded = false
  gd : gd false = false
abbrev SegF (F : GF) (A : Around) (ws : Txs) (s₀ : Shared) (c : Code) (t : Sem PySem.Fin) (fs : List Frame) (s : Shared) : Prop := Seg (model F.X.prog F.X.w) A (GnR F) (GnY F) ws.length s₀ c t fs s
def GKo (F : GF) (ip : List (Addr × Obj)) (A : Around) (c : Code) (fs : List Frame) (K : Flow → Sem PySem.Fin) (D : GE) : Prop :=
  ∀ (ws : Txs) (s₀ s : Shared) (f : Flow), Rem F.T ws → GSp F ip D ws f s₀ s → SegF F A ws s₀ c (K f) fs s
structure GS (F : GF) (st : Stmt) (t : GT) : Prop where
  run : ∀ (A : Around) (c : Code) (fs : List Frame) (K : Flow → Sem PySem.Fin) (J : Value → Sem PySem.Fin) (gd : Bool → Bool) (lv : List Value → List Value) (s₀ s : Shared) (σ : L2.St) (H : Hp) (ip : List (Addr × Obj)) (ws : Txs) (D : GE),
    GC F A c fs gd → Rem F.T ws → GKo F ip A c fs K D → GnI F ip σ H s₀ s → t D ws σ H → SegF F A ws s₀ c ((exec st F.X.env).wrap K J gd lv) fs s
structure GSs (F : GF) (st : List Stmt) (t : GT) : Prop where
  run : ∀ (A : Around) (c : Code) (fs : List Frame) (K : Flow → Sem PySem.Fin) (J : Value → Sem PySem.Fin) (gd : Bool → Bool) (lv : List Value → List Value) (s₀ s : Shared) (σ : L2.St) (H : Hp) (ip : List (Addr × Obj)) (ws : Txs) (D : GE),
    GC F A c fs gd → Rem F.T ws → GKo F ip A c fs K D → GnI F ip σ H s₀ s → t D ws σ H → SegF F A ws s₀ c ((execs st F.X.env).wrap K J gd lv) fs s
section
variable {F : GF} {st : Stmt} {rest : List Stmt} {ip : List (Addr × Obj)} {σ σ' : L2.St} {H H' : Hp} {s₀ s s' : Shared}
/-- a plain piece of the body: what it keeps -/
theorem GnI.piece {α : Type} {m : Sem α} {P : α → List (Addr × Obj) → Shared → Prop} (I : GnI F ip σ H s₀ s)
    (h : ∀ pl, pl.map (·.1) = F.PA → (∀ p ∈ pl, s₀.heap.get? p.1 = some p.2) → Inv (rb F.X s₀) (pl ++ ip) σ H s → wpAny (model F.X.prog F.X.w) F.X.A m (fun a s' => P a pl s') (fun _ _ => False) s) :
    ∃ pl, pl.map (·.1) = F.PA ∧ (∀ p ∈ pl, s₀.heap.get? p.1 = some p.2) ∧ wpAny (model F.X.prog F.X.w) F.X.A m (fun a s' => F.g < s'.gens.size ∧ P a pl s') (fun _ _ => False) s := by
  obtain ⟨⟨pl, e1, e2, J⟩, hg, _, _⟩ := I
  refine ⟨pl, e1, e2, wpAny_gsz (n := F.g + 1) hg (wpAny_mono (h pl e1 e2 J) (fun a s' q hz => ⟨hz, q⟩) fun _ _ z => z.elim)⟩
theorem GnI.of {ip' : List (Addr × Obj)} (I : GnI F ip σ H s₀ s) {pl : List (Addr × Obj)} (e1 : pl.map (·.1) = F.PA) (e2 : ∀ p ∈ pl, s₀.heap.get? p.1 = some p.2) (hz : F.g < s'.gens.size) (J : Inv (rb F.X s₀) (pl ++ ip') σ' H' s') (hi : ∀ p ∈ ip', ¬ F.C p.1) : GnI F ip' σ' H' s₀ s' :=
  ⟨⟨pl, e1, e2, J⟩, hz, hi, I.lives⟩
def gPs (t : TS) : GT := fun D ws σ H => t (D.at ws) σ H
theorem gsp_of (I : GnI F ip σ H s₀ s) {pl : List (Addr × Obj)} (e1 : pl.map (·.1) = F.PA) (e2 : ∀ p ∈ pl, s₀.heap.get? p.1 = some p.2) (hz : F.g < s'.gens.size) {D : GE} {ws : Txs} {f : Flow} (h : SP (rb F.X s₀) (pl ++ ip) (D.at ws) f s') : GSp F ip D ws f s₀ s' := by
  cases f with
  | next => obtain ⟨σ, H, J, q⟩ := h; exact ⟨σ, H, I.of e1 e2 hz J I.ip, q⟩
  | brk => obtain ⟨σ, H, J, q⟩ := h; exact ⟨σ, H, I.of e1 e2 hz J I.ip, q⟩
  | cont => obtain ⟨σ, H, J, q⟩ := h; exact ⟨σ, H, I.of e1 e2 hz J I.ip, q⟩
  | ret u => obtain ⟨v, σ, H, J, r, q⟩ := h; exact ⟨v, σ, H, I.of e1 e2 hz J I.ip, r, q⟩
theorem gs_ps {t : TS} (h : ∀ z, PS (rb F.X z) st t) : GS F st (gPs t) := ⟨fun A c fs K J gd lv s₀ s σ H ip ws D g hr k I ht => by
  obtain ⟨pl, e1, e2, w⟩ := I.piece (P := fun f pl s' => SP (rb F.X s₀) (pl ++ ip) (D.at ws) f s') fun pl _ _ J => (h s₀).run _ s σ H (D.at ws) J ht
  refine seg_wrap ?_
  rw [g.over]
  exact wpAny_mono w (fun f s' q => k ws s₀ s' f hr (gsp_of I e1 e2 q.1 q.2)) fun _ _ z => z.elim⟩
theorem gss_pss {t : TS} (h : ∀ z, PSs (rb F.X z) rest t) : GSs F rest (gPs t) := ⟨fun A c fs K J gd lv s₀ s σ H ip ws D g hr k I ht => by
  obtain ⟨pl, e1, e2, w⟩ := I.piece (P := fun f pl s' => SP (rb F.X s₀) (pl ++ ip) (D.at ws) f s') fun pl _ _ J => (h s₀).run _ s σ H (D.at ws) J ht
  refine seg_wrap ?_
  rw [g.over]
  exact wpAny_mono w (fun f s' q => k ws s₀ s' f hr (gsp_of I e1 e2 q.1 q.2)) fun _ _ z => z.elim⟩
def gzNil : GT := fun D ws σ H => D.nx ws σ H
theorem gss_nil : GSs F [] gzNil := ⟨fun A c fs K J gd lv s₀ s σ H ip ws D g hr k I ht => seg_execs_nil (k ws s₀ s .next hr ⟨σ, H, I, ht⟩)⟩
def gSeq (t u : GT) : GT := fun D ws σ H => t { D with nx := u D } ws σ H
theorem gss_cons {t u : GT} (a : GS F st t) (b : GSs F rest u) : GSs F (st :: rest) (gSeq t u) := ⟨fun A c fs K J gd lv s₀ s σ H ip ws D g hr k I ht => by
  refine seg_execs_cons (a.run A c fs _ J gd lv s₀ s σ H ip ws { D with nx := u D } g hr (fun ws' s₀' s' f hr' q => ?_) I ht)
  cases f with
  | next =>
    obtain ⟨σ', H', I', q⟩ := q
    exact b.run A c fs K J gd lv s₀' s' σ' H' ip ws' D g hr' k I' q
  | brk => exact k ws' s₀' s' .brk hr' q
  | cont => exact k ws' s₀' s' .cont hr' q
  | ret u => exact k ws' s₀' s' (.ret u) hr' q⟩
theorem gss_one {t : GT} (a : GS F st t) : GSs F [st] (gSeq t gzNil) := gss_cons a gss_nil
/-- if -/
def gIf (tc : TT) (t u : GT) : GT := fun D ws σ H => tc σ H fun b H1 => if b = true then t D ws σ H1 else u D ws σ H1
theorem gs_if {test : Expr} {body orelse : List Stmt} {pos : Pos} {tc : TT} {t u : GT} (hc : ∀ z, PT (rb F.X z) test tc) (h1 : GSs F body t) (h2 : GSs F orelse u) : GS F (.If test body orelse pos) (gIf tc t u) := ⟨fun A c fs K J gd lv s₀ s σ H ip ws D g hr k I ht => by
  obtain ⟨pl, e1, e2, w⟩ := I.piece (P := fun b pl s' => ∃ H', Inv (rb F.X s₀) (pl ++ ip) σ H' s' ∧ (if b = true then t D ws σ H' else u D ws σ H')) fun pl _ _ J => (hc s₀).run _ s σ H _ J ht
  refine seg_at ?_
  show SegF F A ws s₀ c (((isTrue test F.X.env (eval test F.X.env)) >>= fun b => if b = true then execs body F.X.env else execs orelse F.X.env).wrap K J gd lv) fs s
  refine seg_bind_wrap ?_
  rw [g.over]
  refine wpAny_mono w (fun b s' ⟨hz, H', J', q⟩ => ?_) fun _ _ z => z.elim
  have I' := I.of e1 e2 hz J' I.ip
  cases b with
  | true =>
    rw [if_pos rfl] at q ⊢
    exact h1.run A c fs K J gd lv s₀ s' σ H' ip ws D g hr k I' q
  | false =>
    rw [if_neg Bool.false_ne_true] at q ⊢
    exact h2.run A c fs K J gd lv s₀ s' σ H' ip ws D g hr k I' q⟩
/-- yield -/
def gYield (Gd : Hp → Prop) (te : TE) : GT := fun D ws σ H => ∃ w ws', ws = w :: ws' ∧ te σ H fun x H1 => x = .str (tx w) ∧ Gd H1 ∧ D.nx ws' σ H1
theorem rem_at {T ws' : Txs} {w : List Nat} (h : Rem T (w :: ws')) : T[T.length - (ws'.length + 1)]? = some w ∧ Rem T ws' := by
  obtain ⟨pre, rfl⟩ := h
  refine ⟨?_, pre ++ [w], by simp⟩
  rw [List.length_append, List.length_cons, Nat.add_sub_cancel, List.getElem?_append_right (Nat.le_refl _), Nat.sub_self]
  rfl
theorem gs_yield {e : Expr} {yp pos : Pos} {te : TE} (he : ∀ z, PE (rb F.X z) e te) (hco : F.X.env.scope.isCoroutine = false := by rfl) (hi : interactive F.X.env = false := by rfl) : GS F (.Expr (.Yield (some e) yp) pos) (gYield F.Gd te) := ⟨fun A c fs K J gd lv s₀ s σ H ip ws D g hr k I ht => by
  obtain ⟨w, ws', rfl, ht⟩ := ht
  obtain ⟨q1, q2⟩ := rem_at hr
  obtain ⟨pl, e1, e2, wp⟩ := I.piece (P := fun v pl s' => EP (rb F.X s₀) (pl ++ ip) σ (fun x H1 => x = .str (tx w) ∧ F.Gd H1 ∧ D.nx ws' σ H1) v s') fun pl _ _ J => (he s₀).run _ s σ H _ J ht
  refine seg_Expr_Yield g.split g.gd g.guard ?_ hco hi
  rw [g.over]
  refine wpAny_mono wp (fun v s' ⟨hz, x, H1, J', r, ex, gd, nx⟩ => ?_) fun _ _ z => z.elim
  subst ex
  have I' := I.of e1 e2 hz J' I.ip
  exact fun kap hk => ⟨w, H1, q1, r, I'.kept g.ok gd, fun s2 z => hk .none s2 (k ws' s2 s2 .next q2 ⟨σ, H1, I'.wake g.ok z, nx⟩)⟩⟩
end
end Zb
end
section
set_option Elab.async false
set_option linter.all false
set_option maxRecDepth 100000
/-! Zg3: for over a plain walk, in a generator's body. -/
namespace Zb
open PySem PySem.Spec PyProof.Rows L2 GenW

section
variable {prog : Program} {w : World} {A : Around} {R : GenEnd} {Y : Protocol} {n : Nat} {s₀ : Shared} {fs : List Frame} {s : Shared} {env : Env}
/-- one turn of a for -/
theorem seg_forTurn {target : Expr} {it : Value} {body : List Stmt}
    (h : wpAny (model prog w) (A.over (.forLoop target it body [] env) fs) (pyNext it) (fun r s1 => match r with
      | none => ∀ c', Seg (model prog w) A R Y n s₀ c' (.pure (.done .next)) fs s1
      | some v => wpAny (model prog w) (A.over (.forLoop target it body [] env) fs) (letOwnedTupleGo target it v) (fun _ s2 => wpAny (model prog w) (A.over (.forLoop target it body [] env) fs) (assign target env v)
          (fun _ s3 => ∀ J', Seg (model prog w) A R Y n s₀ (.forLoop target it body [] env) ((execs body env).wrap (fun f => match f with
            | .next | .cont => .pure (.again (.forLoop target it body [] env))
            | .brk => .pure (.done .next)
            | .ret v => .pure (.done (.ret v))) J' id id) fs s3) (fun _ _ => False) s2) (fun _ _ => False) s1) (fun _ _ => False) s) :
    Seg (model prog w) A R Y n s₀ (.forLoop target it body [] env) ((model prog w).den (.forLoop target it body [] env)) fs s := by
  show Seg _ A R Y n s₀ _ ((forTurn target it body [] env).onRaise (fun x => do noteFrame x env; theTreesLotGoes x)) fs s
  unfold forTurn
  rw [Sem.onRaise_eq_wrap]
  refine seg_bind_wrap (wpAny_standAt ?_)
  refine seg_bind_wrap (wpAny_onRaise (wpAny_mono h (fun r s1 h1 => ?_) fun _ _ z => False.elim z))
  cases r with
  | none =>
    refine seg_again rfl ?_
    exact h1 _
  | some v =>
    refine seg_bind_wrap (wpAny_mono h1 (fun _ s2 h2 => ?_) fun _ _ z => False.elim z)
    refine seg_bind_wrap (wpAny_mono h2 (fun _ s3 h3 => ?_) fun _ _ z => False.elim z)
    rw [Sem.bind_eq_wrap', Sem.wrap_wrap]
    rw [Sem.wrap_congr (execs body env) _ _ (K' := fun f => match f with
            | .next | .cont => .pure (.again (.forLoop target it body [] env))
            | .brk => .pure (.done .next)
            | .ret v => .pure (.done (.ret v))) (H' := _) (fun f => by cases f <;> rfl) (fun _ => rfl)]
    exact h3 _
end
section
variable {F : GF} {st : Stmt} {rest : List Stmt} {ip : List (Addr × Obj)} {σ σ' : L2.St} {H H' : Hp} {s₀ s s' : Shared}
theorem gc_inner {A : Around} {c c' : Code} {fs : List Frame} {gd : Bool → Bool} {k : Result → Sem PySem.Fin} {l kp : List Value} {p : Pos} (g : GC F A c fs gd) (hw : c'.weight = 0) (hu : c'.cUnits = 0) : GC F A c' (.ret k none (gd false) l c p kp :: fs) id where
  ok := g.ok
  over := (over_loop hw hu).trans g.over
  split := by
    show (splitAtGen fs).map _ = none
    rw [g.split]; rfl
  guard := by
    show (gd false || fs.any Frame.guarded) = false
    rw [g.gd, g.guard]; rfl
  gd := rfl
def gFor (wi : TI) (g : TG) (tb : GT) : GT := fun D ws σ H => wi σ H fun J H1 => ∃ W : Nat → Nat → Txs → L2.St → Hp → Prop, (∃ m, W 0 m ws σ H1) ∧ ∀ i m ws σ H, W i m ws σ H →
  (J.stop i H ∧ D.nx ws σ H) ∨ (J.go i H ∧ ∃ N : Txs → L2.St → Hp → Prop, (∀ ws' σ' H', N ws' σ' H' → ∃ m', m' < m ∧ W (i + 1) m' ws' σ' H') ∧ ∀ x H', J.yld i H x H' → g x σ H' fun σ2 H2 => tb { D with nx := N, ct := N, bk := D.nx } ws σ2 H2)
/-- what is constant of a walk's own things -/
structure FpS (F : GF) (ip : List (Addr × Obj)) (b : Addr) : Prop where
  nl : b ≠ F.X.env.locals
  nf : b ∉ F.X.fs
  sz : F.X.s_0.heap.objs.size ≤ b
  nc : ∀ x c, F.X.env.cells.lookup x = some c → c ≠ b
  np : ∀ p ∈ F.X.pn, p.1 ≠ b
  na : b ∉ F.PA
  ni : ∀ p ∈ ip, p.1 ≠ b
theorem FpS.ok {b : Addr} {pl : List (Addr × Obj)} (f : FpS F ip b) (e1 : pl.map (·.1) = F.PA) (hH : H b = none) : FpOk (rb F.X s₀) (pl ++ ip) H b := by
  refine ⟨hH, f.nl, f.nf, .inr ?_, f.nc, fun p hp => ?_⟩
  · rw [show (rb F.X s₀).s_0.heap.objs.size = F.X.s_0.heap.objs.size from cut_size]
    exact f.sz
  · rcases List.mem_append.mp hp with hp | hp
    · exact f.np p hp
    · rcases List.mem_append.mp hp with hp | hp
      · exact fun z => f.na (by rw [← e1, ← z]; exact List.mem_map_of_mem hp)
      · exact f.ni p hp
theorem FpS.of {b : Addr} {pl : List (Addr × Obj)} (G : GOk F) (e1 : pl.map (·.1) = F.PA) (f : FpOk (rb F.X s₀) (pl ++ ip) H b) : FpS F ip b := by
  obtain ⟨_, f1, f2, f3, f4, f5⟩ := f
  refine ⟨f1, f2, ?_, f4, fun p hp => f5 p (List.mem_append_left _ hp), fun z => ?_, fun p hp => f5 p (List.mem_append_right _ (List.mem_append_right _ hp))⟩
  · rcases f3 with z | z
    · rw [show (rb F.X s₀).ex = [] from G.ex] at z
      simp at z
    · rw [show (rb F.X s₀).s_0.heap.objs.size = F.X.s_0.heap.objs.size from cut_size] at z
      exact z
  · rw [← e1] at z
    obtain ⟨p, hp, q⟩ := List.mem_map.mp z
    exact f5 p (List.mem_append_right _ (List.mem_append_left _ hp)) q
theorem gs_for {tg iter : Expr} {body : List Stmt} {wi : TI} {g : TG} {tb : GT} {pos : Pos} (hi : ∀ z, PI (rb F.X z) tg iter wi) (hg : ∀ z, PG (rb F.X z) tg g) (hb : GSs F body tb)
    (hs : ∀ x, foldedSetIterable iter F.X.env x = pure x := by intro _; rfl) : GS F (.For tg iter body [] pos) (gFor wi g tb) := ⟨fun A c fs K J gd lv s₀ s σ H ip ws D G hr k I ht => by
  obtain ⟨pl, e1, e2, w⟩ := I.piece (P := fun v pl s' => wpAny (model F.X.prog F.X.w) F.X.A (pyIter v) (PIE (rb F.X s₀) (pl ++ ip) σ tg fun J H1 => ∃ W : Nat → Nat → Txs → L2.St → Hp → Prop, (∃ m, W 0 m ws σ H1) ∧ ∀ i m ws σ H, W i m ws σ H →
    (J.stop i H ∧ D.nx ws σ H) ∨ (J.go i H ∧ ∃ N : Txs → L2.St → Hp → Prop, (∀ ws' σ' H', N ws' σ' H' → ∃ m', m' < m ∧ W (i + 1) m' ws' σ' H') ∧ ∀ x H', J.yld i H x H' → g x σ H' fun σ2 H2 => tb { D with nx := N, ct := N, bk := D.nx } ws σ2 H2)) (fun _ _ => False) s') fun pl _ _ J => (hi s₀).run _ s σ H _ J ht
  rw [exec_For]
  refine seg_bind_wrap (wpAny_standAt ?_)
  refine seg_bind_wrap ?_
  rw [G.over]
  refine wpAny_mono w (fun v s1 ⟨hz1, h1⟩ => ?_) fun _ _ z => False.elim z
  refine seg_bind_wrap (wpAny_of_eq (hs v) ?_)
  refine seg_bind_wrap (wpAny_standAt ?_)
  refine seg_bind_wrap (wpAny_holding ?_)
  rw [G.over]
  refine wpAny_gsz (n := F.g + 1) hz1 (wpAny_mono h1 (fun itv s2 h2 hz2 => ?_) fun _ _ z => False.elim z)
  obtain ⟨it, fp, tn, JJ, H2, rfl, I2, T, st2, f2, W, ⟨m0, w0⟩, turn⟩ := h2
  have fst : ∀ b ∈ fp, FpS F ip b := fun b hb => FpS.of G.ok e1 (f2 b hb)
  refine seg_call fun p => ?_
  have gl := fun (kk : Result → Sem PySem.Fin) => gc_inner (k := kk) (c' := .forLoop tg (.ref it) body [] F.X.env) (l := lv []) (kp := []) (p := p) G rfl rfl
  have loop : ∀ (m i : Nat) (ws : Txs) (s₀ s : Shared) (σ : L2.St) (H : Hp), Rem F.T ws → W i m ws σ H → GnI F ip σ H s₀ s → tn i s.heap → (∀ b ∈ fp, H b = none) →
      SegF F A ws s₀ (.forLoop tg (.ref it) body [] F.X.env) ((model F.X.prog F.X.w).den (.forLoop tg (.ref it) body [] F.X.env))
        (.ret (fun r => ((match r with | .ok f => (.pure f : Sem Flow) | .error e => .raise e).onRaise (cameBack F.X.env)).wrap K J gd lv) none (gd false) (lv []) c p [] :: fs) s := by
    intro m
    induction m using Nat.strongRecOn with
    | ind m ih =>
      intro i ws s₀ s σ H hr hw I hst hfr
      have ip' : ∀ (h : Heap), ∀ p ∈ ip ++ pinsAt fp h, ¬ F.C p.1 := fun h p hp => by
        rcases List.mem_append.mp hp with hp | hp
        · exact I.ip p hp
        · have f := fst p.1 (of_pinsAt hp).1
          exact G.ok.noC f.sz f.na
      refine seg_forTurn ?_
      rw [(gl _).over]
      rcases turn i m ws σ H hw with ⟨stop, qn⟩ | ⟨go, N, hN, step⟩
      · obtain ⟨pl, e1, e2, wp⟩ := I.piece (P := fun r pl s' => r = none ∧ Inv (rb F.X s₀) (pl ++ ip) σ H s') fun pl e1 _ J =>
          T.done (rb F.X s₀) rfl rfl rfl G.ok.calm i (pl ++ ip) s σ H (fun _ _ => False) J (fun b hb => (fst b hb).ok e1 (hfr b hb)) hst stop
        refine wpAny_mono wp (fun r s1 ⟨hz, hr0, J1⟩ => ?_) fun _ _ z => False.elim z
        subst hr0
        exact fun c' => seg_leaf (.ok .next) (k ws s₀ s1 .next hr ⟨σ, H, I.of e1 e2 hz J1 I.ip, qn⟩)
      · obtain ⟨pl, e1, e2, wp⟩ := I.piece (P := fun r pl s1 => ∃ u, r = some u ∧ wpAny (model F.X.prog F.X.w) F.X.A (letOwnedTupleGo tg (.ref it) u) (fun _ s2 => ∃ x H', Inv (rb F.X s₀) (pl ++ ip) σ H' s2 ∧ RelV x u ∧ JJ.yld i H x H' ∧ tn (i + 1) s2.heap ∧ ∀ b ∈ fp, H' b = none) (fun _ _ => False) s1) fun pl e1 _ J =>
          T.item (rb F.X s₀) rfl rfl rfl G.ok.calm i (pl ++ ip) s σ H (fun _ _ => False) J (fun b hb => (fst b hb).ok e1 (hfr b hb)) hst go
        refine wpAny_mono wp (fun r s1 ⟨hz, u, hr0, h4⟩ => ?_) fun _ _ z => False.elim z
        subst hr0
        refine wpAny_gsz (n := F.g + 1) hz (wpAny_mono h4 (fun _ s5 h5 hz5 => ?_) fun _ _ z => False.elim z)
        obtain ⟨x, H5, J5, r5, y5, st5, fr5⟩ := h5
        have J5' : Inv (rb F.X s₀) (pl ++ (ip ++ pinsAt fp s5.heap)) σ H5 s5 := by
          rw [← List.append_assoc]
          exact J5.pinned (fun b hb => (fst b hb).ok e1 (fr5 b hb)) (T.obj _ _ st5)
        refine wpAny_gsz (n := F.g + 1) hz5 (wpAny_mono ((hg s₀).run _ s5 σ H5 x u _ J5' r5 (step x H5 y5)) (fun _ s6 h6 hz6 => ?_) fun _ _ z => False.elim z)
        obtain ⟨σ6, H6, J6, q6⟩ := h6
        intro J'
        refine hb.run A _ _ _ J' id id s₀ s6 σ6 H6 (ip ++ pinsAt fp s5.heap) ws { D with nx := N, ct := N, bk := D.nx } (gl _) hr (fun ws' s₀' s7 f hr' hs => ?_) (I.of e1 e2 hz6 J6 (ip' _)) q6
        have out : ∀ {σ7 : L2.St} {H7 : Hp}, GnI F (ip ++ pinsAt fp s5.heap) σ7 H7 s₀' s7 → GnI F ip σ7 H7 s₀' s7 ∧ tn (i + 1) s7.heap ∧ ∀ b ∈ fp, H7 b = none := fun {σ7 H7} I7 => by
          obtain ⟨⟨pl7, a1, a2, J7⟩, a3, a4, a5⟩ := I7
          rw [← List.append_assoc] at J7
          have pin7 := fun b (hb : b ∈ fp) o (e : s5.heap.get? b = some o) => J7.pin (b, o) (List.mem_append_right _ (List.mem_append_right _ (mem_pinsAt hb e)))
          refine ⟨⟨⟨pl7, a1, a2, J7.unpinned⟩, a3, fun p hp => I.ip p hp, a5⟩, T.keep _ _ _ st5 fun b hb o e => (pin7 b hb o e).1, fun b hb => ?_⟩
          obtain ⟨o, e, _⟩ := T.obj _ _ st5 b hb
          exact (pin7 b hb o e).2.1
        cases f with
        | next =>
          obtain ⟨σ7, H7, I7, n7⟩ := hs
          obtain ⟨m', hm, w7⟩ := hN ws' σ7 H7 n7
          obtain ⟨o1, o2, o3⟩ := out I7
          exact seg_again rfl (ih m' hm (i + 1) ws' s₀' s7 σ7 H7 hr' w7 o1 o2 o3)
        | cont =>
          obtain ⟨σ7, H7, I7, n7⟩ := hs
          obtain ⟨m', hm, w7⟩ := hN ws' σ7 H7 n7
          obtain ⟨o1, o2, o3⟩ := out I7
          exact seg_again rfl (ih m' hm (i + 1) ws' s₀' s7 σ7 H7 hr' w7 o1 o2 o3)
        | brk =>
          obtain ⟨σ7, H7, I7, n7⟩ := hs
          exact seg_leaf (.ok .next) (k ws' s₀' s7 .next hr' ⟨σ7, H7, (out I7).1, n7⟩)
        | ret v =>
          obtain ⟨x7, σ7, H7, I7, r7, n7⟩ := hs
          exact seg_leaf (.ok (.ret v)) (k ws' s₀' s7 (.ret v) hr' ⟨x7, σ7, H7, (out I7).1, r7, n7⟩)
  exact loop m0 0 ws s₀ s2 σ H2 hr w0 (I.of e1 e2 hz2 I2 I.ip) st2 fun b hb => (f2 b hb).1⟩
end
end Zb
end
section
set_option Elab.async false
set_option linter.all false
set_option maxRecDepth 100000
set_option maxHeartbeats 1000000
/-! Zg4: a generator def's promise by its body. -/
namespace Zb
open PySem PySem.Spec PyProof.Rows L2 GenW

/-- the context of a generator's body -/
def gcx (P : Program) (w : World) (K : PySem.W.Frag) (mg : Str → Option Value) (base : Heap) (N : List Str) (qual : Str) (scope : Scope) (f : Addr) (cd : Value) (A : Around) (outer : List Env) (s : Shared) (H : Hp) (pn : List (Addr × Obj)) : Cx :=
  { cxOf CX0 P w K mg base N qual scope f cd A outer s H E0 with
    pn := pn
    xe := fun _ _ => False }
/-- the arguments, the heap; how the heap may grow, what is handed out -/
abbrev SpZ := List V → Hp → (Hp → Prop) → Txs → Prop
/-- what stands where the consumer first wakes it -/
structure First (base : Heap) (H : Hp) (s s' : Shared) (C : Addr → Prop) (PA : List Addr) (g : Nat) (s2 : Shared) : Prop where
  keep : ∀ b o, s'.heap.get? b = some o → s2.heap.get? b = some o
  os : s2.os = s.os
  bare : AllBare s2.gens
  g : g < s2.gens.size
  c : ∀ b, C b → ((∃ o, s.heap.get? b = some o) ∨ b ∈ PA) ∧ H b = none ∧ base.get? b = none
  pa : ∀ b ∈ PA, s'.heap.objs.size ≤ b ∧ ∃ o, s2.heap.get? b = some o ∧ ∀ v, o.data ≠ .cell v
/-- a generator that has not begun -/
def Made (P : Program) (w : World) (K : PySem.W.Frag) (mg : Str → Option Value) (base : Heap) (k : Nat) (outer : List Env) (H : Hp) (s : Shared) (Gd : Hp → Prop) (T : Txs) (u : Value) (s' : Shared) : Prop :=
  ∃ (N : List Str) (qual : Str) (scope : Scope) (f : Addr) (cd : Value) (a g : Nat) (go : Obj) (c : Code), u = .ref a ∧ s.heap.objs.size ≤ a ∧ a < s'.heap.objs.size ∧ s'.heap.get? a = some go ∧ (∀ v, go.data ≠ .cell v) ∧ (∀ h : Heap, h.get? a = some go → h.IsGen a g) ∧
    s.gens.size ≤ g ∧ s'.gens[g]? = some (.fresh c) ∧ s'.os = s.os ∧ AllBare s'.gens ∧ s'.heap.NoLimit ∧ (∀ b o, s.heap.get? b = some o → s'.heap.get? b = some o) ∧ (∀ H', Gd H' → Same H H') ∧
    ∀ (A : Around) (C : Addr → Prop) (PA : List Addr) (s2 : Shared), Room k A → A.frames = some outer → First base H s s' C PA g s2 →
      Seg (model P w) A (GnR ⟨gcx P w K mg base N qual scope f cd A outer s H [(a, go)], C, PA, g, Gd, T⟩) (GnY ⟨gcx P w K mg base N qual scope f cd A outer s H [(a, go)], C, PA, g, Gd, T⟩) T.length s2 c ((model P w).den c) [] s2
structure GFz (P : Program) (w : World) (K : PySem.W.Frag) (mg : Str → Option Value) (base : Heap) (k : Nat) (f : Addr) (fd : FuncData) (ps : List Str) (sp : SpZ) : Prop where
  len : ∀ vs H Gd T, sp vs H Gd T → vs.length = ps.length
  run : ∀ (A : Around) (outer : List Env) (s : Shared) (H : Hp) (args : Args) (us : List Value) (vs : List V) (Gd : Hp → Prop) (T : Txs), Room k A → Env0 P w K mg base A outer s H → BindsTo s fd args (ps.zip us) → Vals vs us → sp vs H Gd T →
    codeAny (model P w) A (.call (.ref f) args) (fun r s' => match r with | .ok (.ret u) => Made P w K mg base k outer H s Gd T u s' | _ => False) s

section
variable {P : Program} {w : World} {K : PySem.W.Frag} {mg : Str → Option Value} {base : Heap} {N ps : List Str} {qual : Str} {scope : Scope} {f : Addr} {cd : Value} {A : Around} {outer : List Env} {s s1 s2 : Shared} {H : Hp} {vs : List V} {σ : L2.St}
/-- the first wake -/
theorem gni_first {C : Addr → Prop} {PA : List Addr} {g : Nat} {Gd : Hp → Prop} {T : Txs} {a : Addr} {go : Obj} {s' : Shared} (I : Inv (gcxOf P w K mg base N qual scope f cd A outer s H E0 []) [] σ H s2) (x1 : Inv (gcxOf P w K mg base N qual scope f cd A outer s H E0 []) [] σ H s1)
    (hs1 : s1.heap.objs.size ≤ a) (ha : a < s'.heap.objs.size) (hgo : s2.heap.get? a = some go) (hgd : ∀ v, go.data ≠ .cell v) (Fi : First base H s s' C PA g s2) (hk : ∀ b o, s.heap.get? b = some o → s'.heap.get? b = some o) (gd : ∀ H', Gd H' → Same H H') :
    GOk ⟨gcx P w K mg base N qual scope f cd A outer s H [(a, go)], C, PA, g, Gd, T⟩ ∧ GnI ⟨gcx P w K mg base N qual scope f cd A outer s H [(a, go)], C, PA, g, Gd, T⟩ [] σ H s2 s2 := by
  have young : ∀ b, s1.heap.objs.size ≤ b → H b = none ∧ s.heap.objs.size ≤ b ∧ b ≠ (envOfC qual scope s.heap.objs.size f cd).locals ∧ (∀ x c, (envOfC qual scope s.heap.objs.size f cd).cells.lookup x = some c → c ≠ b) ∧ b ∉ frs outer := fun b hb => by
    refine ⟨x1.hok.fresh hb, Nat.le_trans x1.sz hb, Nat.ne_of_gt (Nat.lt_of_lt_of_le x1.lt hb), fun x c e z => ?_, x1.nofs hb⟩
    obtain ⟨v, o, ho, _⟩ := x1.cell x c e
    have q := Heap.lt_size ho
    rw [z] at q
    exact absurd (Nat.lt_of_lt_of_le q hb) (Nat.lt_irrefl _)
  have hsP : ∀ b ∈ PA, s1.heap.objs.size ≤ b := fun b hb => Nat.le_trans hs1 (Nat.le_trans (Nat.le_of_lt ha) (Fi.pa b hb).1)
  have G : GOk ⟨gcx P w K mg base N qual scope f cd A outer s H [(a, go)], C, PA, g, Gd, T⟩ := {
    c := Fi.c
    pa := fun b hb => by
      obtain ⟨_, y2, y3, y4, _⟩ := young b (hsP b hb)
      refine ⟨y2, y3, y4, fun p hp => ?_⟩
      rw [List.mem_singleton.mp hp]
      exact Nat.ne_of_lt (Nat.lt_of_lt_of_le ha (Fi.pa b hb).1)
    pn := fun p hp => by
      rw [List.mem_singleton.mp hp]
      exact (young a hs1).2.1
    ex := rfl
    calm := rfl
    fn := fun _ => rfl
    gd := gd }
  refine ⟨G, ⟨pinsAt PA s2.heap, pinsAt_map fun b hb => (Fi.pa b hb).2.imp fun o q => q.1, fun p hp => (of_pinsAt hp).2, ?_⟩, Fi.g, fun p hp => by simp at hp, fun b o e => ⟨o, Fi.keep b o (hk b o e)⟩⟩
  have ok := I.ok
  have kp : ∀ b o, s.heap.get? b = some o → s2.heap.get? b = some o := fun b o e => Fi.keep b o (hk b o e)
  refine ⟨⟨ok.mod, ok.kind, ok.glob, ok.blt, ?_, ok.inj, ok.has, fun x c h e => ?_, ok.hd, ok.frames, ok.stk, ok.exf, fun b o e => ?_, ?_, ok.noex, ok.exfs, ?_, ok.frf⟩, rfl, Fi.bare, ⟨fun b o e _ _ _ => (cut_some e).2, fun b o e _ _ _ => ⟨o.slots, (cut_some e).2⟩, fun b o e n _ => ?_, fun b o e _ => ⟨o, (cut_some e).2⟩, I.base.tups, I.base.frzs, I.base.tbls⟩, I.loc,
    I.cell, I.free, I.freeC, fun p hp => ?_, I.hok, I.len⟩
  · have := ok.above
    show (cutH s.heap s2.heap).objs.size ≤ _
    rw [cut_size]; exact this
  · have := ok.cab x c h e
    show (cutH s.heap s2.heap).objs.size ≤ _
    rw [cut_size]; exact this
  · obtain ⟨q1, q2⟩ := ok.bs b o e
    exact ⟨cut_of q1 (kp b o q1), q2⟩
  · have := ok.bsz
    show _ ≤ (cutH s.heap s2.heap).objs.size
    rw [cut_size]; exact this
  · exact ok.funs.of_keeps fun b o e _ => ⟨o, cut_of e (kp b o e), rfl⟩
  · obtain ⟨⟨o0, q0⟩, _⟩ := cut_some e
    exact n
  · rcases List.mem_append.mp hp with hp | hp
    · rw [List.mem_singleton.mp hp]
      obtain ⟨y1, _, y3, _, y5⟩ := young a hs1
      exact ⟨hgo, y1, y3, y5, hgd⟩
    · rw [List.append_nil] at hp
      obtain ⟨hb, e⟩ := of_pinsAt hp
      obtain ⟨y1, _, y3, _, y5⟩ := young p.1 (hsP _ hb)
      obtain ⟨o, eo, dn⟩ := (Fi.pa p.1 hb).2
      rw [e] at eo
      cases eo
      exact ⟨e, y1, y3, y5, dn⟩
end
/-- a generator def by its body -/
theorem gfz_of {P : Program} {w : World} {K : PySem.W.Frag} {mg : Str → Option Value} {base : Heap} {k : Nat} {f : Addr} {name qual : Str} {params : Arguments} {body : List Stmt} {scope : Scope} {dV kV doc pm cdv ct oc : Value} {an od : Option Addr}
    {osl : Array (Option Value)} {N ps : List Str} {sp : SpZ} (lk : K.lookup f = some ⟨oc, od, .func (PySem.W.fnOf name qual params body scope dV kV doc pm an cdv ct), osl⟩) (hcd : PySem.W.codeIn K cdv qual = true) (S : GScope N ps scope)
    (len : ∀ vs H Gd T, sp vs H Gd T → vs.length = ps.length) (sgd : ∀ vs H Gd T, sp vs H Gd T → ∀ H', Gd H' → Same H H')
    (hbody : ∀ (A : Around) (outer : List Env) (s : Shared) (H : Hp) (vs : List V) (Gd : Hp → Prop) (T : Txs) (pn : List (Addr × Obj)) (C : Addr → Prop) (PA : List Addr) (g : Nat), Room k (A.deeper (envOfC qual scope s.heap.objs.size f cdv)) → sp vs H Gd T →
      ∃ t, GSs ⟨gcx P w K mg base N qual scope f cdv A outer s H pn, C, PA, g, Gd, T⟩ body t ∧ t { nx := fun ws _ H' => ws = [] ∧ Gd H', rt := fun ws v H' => ws = [] ∧ v = .non ∧ Gd H' } T (start N vs) H) :
    GFz P w K mg base (k + 1) f (PySem.W.fnOf name qual params body scope dV kV doc pm an cdv ct) ps sp := by
  refine ⟨len, fun A outer s H args us vs Gd T hr e0 hb r hsp => ?_⟩
  have hl := len _ _ _ _ hsp
  have gd := sgd _ _ _ _ hsp
  have KX : K.In s.heap := e0.mod.kin.keeps fun b o e => (e0.bs b o e).1
  have lim : s.heap.NoLimit := e0.mod.nolimit.keeps fun b o e => (e0.bs b o e).1
  have hkind : ∀ y ∈ ps.zip us, scope.names.lookup y.1 = some .local ∨ (scope.names.lookup y.1 = some .cell ∧ ((cellsFrom (s.heap.objs.size + 1) scope.names []).lookup y.1).isSome = true) := by
    rintro ⟨n, v⟩ hy
    exact (S.par n (List.of_mem_zip hy).1).imp id fun q => ⟨q, PySem.W.cellsFrom_some _ _ _ (.inl q)⟩
  refine codeAny_call_generator hr.depth (KX _ _ lk) rfl S.co S.gen rfl (PySem.W.codeRec_of KX hcd) (hb _ _ _ _ (wpAny_newFunctionEnv_cells S.kind hkind fun env he s1 x => ?_))
  subst he
  have lim1 : s1.heap.NoLimit := lim.keeps x.toInCall.keep
  obtain ⟨h1, tk, es1, hk1⟩ := x.done
  have os1 : s1.os = s.os := by rw [es1]
  have gen1 : s1.gens = s.gens := by rw [es1]
  have kp1 : ∀ b o, s.heap.get? b = some o → s1.heap.get? b = some o := x.toInCall.keep
  refine ⟨lim1, ?_⟩
  have main : ∀ (go : Obj) (nm qn : Value) (tk2 : Nat), go.cls = .type "generator" → go.data = .fields #[.int s1.gens.size 0, nm, qn] → go.slots = #[] → (∀ h : Heap, (h.push go).get? h.objs.size = some go) →
      Made P w K mg base (k + 1) outer H s Gd T (.ref s1.heap.objs.size) { s1 with gens := s1.gens.push (.fresh (.func body (envOfC qual scope s.heap.objs.size f cdv))), toks := tk2, heap := s1.heap.push go } := by
    intro go nm qn tk2 hgc hgd0 hgs hgp
    have hgd : ∀ v, go.data ≠ .cell v := fun v q => by rw [hgd0] at q; cases q
    have hpushed : (s1.heap.push go).get? s1.heap.objs.size = some go := hgp _
    have sz1 : s.heap.objs.size ≤ s1.heap.objs.size := Nat.le_of_lt x.toInCall.ns.lt
    have lta : s1.heap.objs.size < (s1.heap.push go).objs.size := by rw [Heap.size_push]; exact Nat.lt_succ_self _
    have kpa : ∀ b o, s.heap.get? b = some o → (s1.heap.push go).get? b = some o := fun b o e => Heap.get?_push_of_some _ (kp1 b o e)
    refine ⟨N, qual, scope, f, cdv, s1.heap.objs.size, s1.gens.size, go, _, rfl, sz1, lta, hpushed, hgd, fun h e => ⟨go, nm, qn, e, hgc, hgd0, hgs⟩, by rw [gen1]; exact Nat.le_refl _, Array.getElem?_push_size .., os1, AllBare.push (by rw [gen1]; exact e0.bare) rfl, lim1.keeps fun b o e => Heap.get?_push_of_some _ e, kpa, gd, ?_⟩
    intro Aw C PA s2 hrw hfr Fi
    have e0w : Env0 P w K mg base Aw outer s H := ⟨hfr, e0.mod, e0.bs, e0.bsz, e0.funs, e0.frf, e0.hok, e0.bare⟩
    have kp2 : ∀ b o, s1.heap.get? b = some o → s2.heap.get? b = some o := fun b o e => Fi.keep b o (Heap.get?_push_of_some _ e)
    have I1 : Inv (gcxOf P w K mg base N qual scope f cdv Aw outer s H E0 []) [] (start N vs) H s1 := inv_startG S hrw.hd e0w hl r x
    have I2 : Inv (gcxOf P w K mg base N qual scope f cdv Aw outer s H E0 []) [] (start N vs) H s2 :=
      I1.call' (ch := []) (Fi.os.trans os1.symm) (Un.kept kp2) (I1.hok.kept kp2) Fi.bare fun b z => by simp at z
    obtain ⟨G, I⟩ := gni_first (T := T) I2 I1 (Nat.le_refl _) lta (Fi.keep _ _ hpushed) hgd Fi kpa gd
    obtain ⟨t, ht, hq⟩ := hbody Aw outer s H vs Gd T [(s1.heap.objs.size, go)] C PA s1.gens.size (hrw.deeper _) hsp
    refine seg_func ?_
    refine ht.run Aw _ [] _ _ id id s2 s2 (start N vs) H [] T _ ⟨G, over_func, rfl, rfl, rfl⟩ ⟨[], rfl⟩ (fun ws s₀ s' fl _ hs => ?_) I hq
    cases fl with
    | next =>
      obtain ⟨σ', H', I', rfl, q⟩ := hs
      exact seg_end (.ok (.ret .none)) (.inl ⟨.inl rfl, rfl, H', I'.kept G q⟩)
    | brk => obtain ⟨_, _, _, q⟩ := hs; exact False.elim q
    | cont => obtain ⟨_, _, _, q⟩ := hs; exact False.elim q
    | ret u =>
      obtain ⟨v, σ', H', I', rv, rfl, rfl, q⟩ := hs
      have eu : u = Value.none := rv
      subst eu
      exact seg_end (.ok (.ret .none)) (.inl ⟨.inl rfl, rfl, H', I'.kept G q⟩)
  exact main _ _ _ _ rfl rfl rfl fun h => Heap.get?_push_size _ rfl
end Zb
end
section
set_option Elab.async false
set_option linter.all false
set_option maxRecDepth 100000
set_option maxHeartbeats 1000000
/-! Zg5: calls of generator defs; for over such a one in a generator's body. -/
namespace Zb
open PySem PySem.Spec PyProof.Rows L2 GenW

structure CalG (P : Program) (w : World) (K : PySem.W.Frag) (mg : Str → Option Value) (base : Heap) (k : Nat) (x : Str) (sp : SpZ) : Prop where
  ex : ∃ f fd ps, GFz P w K mg base k f fd ps sp ∧ mg x = some (.ref f) ∧ PySem.W.keepIn K (.ref f) = true ∧ Binds K fd ps []
/-- an expression whose value is a generator that has not begun -/
abbrev TZ := L2.St → Hp → ((Hp → Prop) → Txs → Hp → Prop) → Prop
def tCallZ (sp : SpZ) (t : TA) : TZ := fun σ H cont => t σ H fun vs H1 => ∃ Gd T, sp vs H1 Gd T ∧ cont Gd T H1
structure PGz (X : Cx) (k : Nat) (e : Expr) (tg : TZ) : Prop where
  run : ∀ (pins : List (Addr × Obj)) (s : Shared) (σ : L2.St) (H : Hp) (cont : (Hp → Prop) → Txs → Hp → Prop), Inv X pins σ H s → tg σ H cont → wpAny (model X.prog X.w) X.A (eval e X.env)
    (fun u s' => ∃ H1 sc Gd T, Inv X pins σ H1 sc ∧ s.gens.size ≤ sc.gens.size ∧ Made X.prog X.w X.K X.mg X.base k X.stack H1 sc Gd T u s' ∧ cont Gd T H1) X.xe s
section
variable {X : Cx} {k : Nat} {f : Addr} {fd : FuncData} {ps : List Str} {sp : SpZ} {x : Str} {p pos : Pos} {e : Expr} {es : List Expr} {t : TA}
theorem run_gfz {pins : List (Addr × Obj)} {σ : L2.St} {H : Hp} {s : Shared} {us : List Value} {vs : List V} {Gd : Hp → Prop} {T : Txs} {Q : Value → Shared → Prop} {E1 : Value → Shared → Prop} (F : GFz X.prog X.w X.K X.mg X.base k f fd ps sp) (hr : Room k X.A) (hb : Binds X.K fd ps [])
    (I : Inv X pins σ H s) (r : Vals vs us) (h : sp vs H Gd T) (hQ : ∀ u s', Made X.prog X.w X.K X.mg X.base k X.stack H s Gd T u s' → Q u s') : wpAny (model X.prog X.w) X.A (call (.ref f) us) Q E1 s := by
  have hl : us.length = ps.length := by rw [← r.length]; exact F.len _ _ _ _ h
  have hb2 := hb s us I.kIn (by rw [List.append_nil]; exact hl)
  rw [List.append_nil] at hb2
  refine wpAny_call (codeAny_mono (F.run X.A X.stack s H ⟨us, []⟩ us vs Gd T hr I.env0 hb2 r h) fun r s' hq => ?_)
  cases r with
  | error e => exact False.elim hq
  | ok fl =>
    cases fl with
    | ret u => exact hQ u s' hq
    | next => exact False.elim hq
    | brk => exact False.elim hq
    | cont => exact False.elim hq
theorem pgz_call {j : Nat} (c : CalG X.prog X.w X.K X.mg X.base k x sp) (hr : Room j X.A) (hk : k ≤ j) (hg : Gl X x) (ha : PA X (e :: es) t)
    (hdb : (x == ("__debug__" : Str)) = false := by decide) (he : starEach (e :: es) X.env = (false, eval e X.env) :: starEach es X.env := by rfl) (hpl : (backTo pos (starEach es X.env)).any (·.1) = false := by rfl) :
    PGz X k (.Call (.Name x p) (e :: es) [] pos) (tCallZ sp t) := by
  obtain ⟨f, fd, ps, F, hm, kp, b⟩ := c.ex
  refine ⟨fun pins s σ H cont I h => ?_⟩
  refine wpAny_Call_Name_kw (ld_glob I hg hm ?_ hdb)
  refine PySem.W.callWith_K (h₀ := X.base) I.ok.mod.kin kp (wpAny_gsz (n := s.gens.size) (Nat.le_refl _) (wpAny_mono (ha.run pos pins s σ H _ I h) (fun us s1 hq hz => ?_) fun _ _ q _ => q)) he hpl
  obtain ⟨vs, H1, I1, r, Gd, T, hs, hc⟩ := hq
  refine ⟨I1.kIn, ?_⟩
  exact run_gfz F (hr.mono hk) b I1 r hs fun u s' M => ⟨H1, s1, Gd, T, I1, hz, M, hc⟩
/-! ### an expression that changes nothing -/
structure PQ (X : Cx) (e : Expr) (t : L2.St → V → Prop) : Prop where
  run : ∀ (pins : List (Addr × Obj)) (s : Shared) (σ : L2.St) (H : Hp) (x : V), Inv X pins σ H s → t σ x →
    wpAny (model X.prog X.w) X.A (eval e X.env) (fun v s1 => RelV x v ∧ s1.heap = s.heap ∧ s1.gens = s.gens ∧ s1.os = s.os ∧ Inv X pins σ H s1) (fun _ _ => False) s
theorem pq_var {X : Cx} {i : Nat} {x : Str} {pos : Pos} (hN : X.N[i]? = some x) (hv : Vis X.env.scope x) (hd : (x == ("__debug__" : Str)) = false := by decide) (hcd : (x == ("__classdict__" : Str)) = false := by decide) : PQ X (.Name x pos) (fun σ y => σ[i]? = some (some y)) := by
  refine ⟨fun pins s σ H y I e => ?_⟩
  obtain ⟨m, hn, hl⟩ := I.loc
  obtain ⟨u, r, l⟩ := hl i x y hN e hv
  have fin : RelV y u ∧ s.heap = s.heap ∧ s.gens = s.gens ∧ s.os = s.os ∧ Inv X pins σ H s := ⟨r, rfl, rfl, rfl, I⟩
  rcases l with ⟨hk, hm⟩ | ⟨hk | hk, c, hc, hcell⟩
  · exact wpAny_Name (wpAny_loadName_local I.ok.kind hk hn hm fin) hd
  · exact wpAny_Name (wpAny_loadName_cell I.ok.kind hk hc hcell fin) hd
  · exact wpAny_Name (wpAny_loadName_free I.ok.kind hk hc hcell fin hcd) hd
theorem pq_cat {X : Cx} {a b : Expr} {ta tb : L2.St → V → Prop} {pos : Pos} (ha : PQ X a ta) (hb : PQ X b tb) : PQ X (.BinOp a .Add b pos) (fun σ y => ∃ i j : Str, ta σ (.str i) ∧ tb σ (.str j) ∧ i.length + j.length ≤ sizeLine ∧ y = .str (i ++ j)) := by
  refine ⟨fun pins s σ H y I ⟨i, j, h1, h2, hz, ey⟩ => ?_⟩
  subst ey
  refine wpAny_BinOp (wpAny_mono (ha.run pins s σ H _ I h1) (fun v s1 ⟨r1, a1, a2, a3, I1⟩ => wpAny_mono (hb.run pins s1 σ H _ I1 h2) (fun u s2 ⟨r2, b1, b2, b3, I2⟩ => ?_) fun _ _ z => z) fun _ _ z => z)
  obtain ⟨t, rfl⟩ := r1
  obtain ⟨t', rfl⟩ := r2
  exact add_str (fun t' tk => ⟨⟨_, rfl⟩, b1.trans a1, b2.trans a2, b3.trans a3, I2.tok _⟩) hz
end
end Zb
end
section
set_option Elab.async false
set_option linter.all false
set_option maxRecDepth 100000
set_option maxHeartbeats 1000000
/-! Zg6: for x in f(..): yield e, in a generator's body. -/
namespace Zb
open PySem PySem.Spec PyProof.Rows L2 GenW

section
variable {F : GF} {ip : List (Addr × Obj)} {σ : L2.St} {H H1 H' : Hp} {s₀ s s' sc : Shared}
/-- what was so when the inner one was made -/
structure Crea (F : GF) (ip : List (Addr × Obj)) (H1 : Hp) (sc : Shared) : Prop where
  ex : ∃ s₀ pl σ, pl.map (·.1) = F.PA ∧ (∀ b o, F.X.s_0.heap.get? b = some o → ∃ o', s₀.heap.get? b = some o') ∧ Inv (rb F.X s₀) (pl ++ ip) σ H1 sc
/-- the inner one's fixed things -/
def innerC (F : GF) : Addr → Prop := fun b => F.C b ∨ b ∈ F.PA ∨ b = F.X.env.locals ∨ ∃ x, F.X.env.cells.lookup x = some b
structure Crea1 (F : GF) (ip : List (Addr × Obj)) (H1 : Hp) (sc : Shared) : Prop where
  old : ∀ b o, F.X.s_0.heap.get? b = some o → ∃ o', sc.heap.get? b = some o'
  free : ∀ b o, F.X.s_0.heap.get? b = some o → F.X.H_0 b = none → H1 b = none
  loc : H1 F.X.env.locals = none ∧ ∃ o, sc.heap.get? F.X.env.locals = some o
  cell : ∀ x c, F.X.env.cells.lookup x = some c → H1 c = none ∧ ∃ o, sc.heap.get? c = some o
  pn : ∀ p ∈ F.X.pn, H1 p.1 = none ∧ ∃ o, sc.heap.get? p.1 = some o
  ip : ∀ p ∈ ip, H1 p.1 = none ∧ ∃ o, sc.heap.get? p.1 = some o
  pa : ∀ b ∈ F.PA, H1 b = none ∧ ∃ o, sc.heap.get? b = some o
  tups : ∀ b xs, F.X.H_0 b = some (.tup xs) → H1 b = some (.tup xs)
  frzs : ∀ b o u, F.X.H_0 b = some (.frz o u) → H1 b = some (.frz o u)
  tbls : ∀ b ps, F.X.H_0 b = some (.tbl ps) → ∃ more, H1 b = some (.tbl (ps ++ more))
  inC : ∀ b, innerC F b → ((∃ o, sc.heap.get? b = some o) ∨ b ∈ ([] : List Addr)) ∧ H1 b = none ∧ F.X.base.get? b = none
theorem Crea.get (G : GOk F) (c : Crea F ip H1 sc) : Crea1 F ip H1 sc := by
  obtain ⟨s₀, pl, σ, e1, hl, I⟩ := c.ex
  have ex0 : ∀ b, b ∉ (rb F.X s₀).ex := fun b => by rw [show (rb F.X s₀).ex = [] from G.ex]; simp
  have old : ∀ b o, F.X.s_0.heap.get? b = some o → ∃ o', sc.heap.get? b = some o' := fun b o e => by
    obtain ⟨o1, q1⟩ := hl b o e
    exact I.base.there b o1 (cut_of e q1) (ex0 b)
  have free : ∀ b o, F.X.s_0.heap.get? b = some o → F.X.H_0 b = none → H1 b = none := fun b o e n => by
    obtain ⟨o1, q1⟩ := hl b o e
    exact I.base.free b o1 (cut_of e q1) n (ex0 b)
  have pa : ∀ b ∈ F.PA, H1 b = none ∧ ∃ o, sc.heap.get? b = some o := fun b hb => by
    rw [← e1] at hb
    obtain ⟨p, hp, rfl⟩ := List.mem_map.mp hb
    obtain ⟨a1, a2, _⟩ := I.pin p (List.mem_append_right _ (List.mem_append_left _ hp))
    exact ⟨a2, _, a1⟩
  have loc : H1 F.X.env.locals = none ∧ ∃ o, sc.heap.get? F.X.env.locals = some o := by
    obtain ⟨m, ⟨o, es, ep, e, _⟩, _⟩ := I.loc
    exact ⟨I.free, o, e⟩
  have cell : ∀ x c, F.X.env.cells.lookup x = some c → H1 c = none ∧ ∃ o, sc.heap.get? c = some o := fun x c e => by
    obtain ⟨v, o, ho, _⟩ := I.cell x c e
    exact ⟨I.freeC x c e, o, ho⟩
  have nb : ∀ b, F.X.s_0.heap.objs.size ≤ b → F.X.base.get? b = none := fun b hb => by
    refine Heap.get?_none_of_le (Nat.le_trans ?_ hb)
    have := I.ok.bsz
    rw [show (rb F.X s₀).s_0.heap.objs.size = F.X.s_0.heap.objs.size from cut_size] at this
    exact this
  refine ⟨old, free, loc, cell, fun p hp => ?_, fun p hp => ?_, pa, I.base.tups, I.base.frzs, I.base.tbls, fun b hb => ?_⟩
  · obtain ⟨a1, a2, _⟩ := I.pin p (List.mem_append_left _ hp)
    exact ⟨a2, _, a1⟩
  · obtain ⟨a1, a2, _⟩ := I.pin p (List.mem_append_right _ (List.mem_append_right _ hp))
    exact ⟨a2, _, a1⟩
  · rcases hb with hb | hb | hb | ⟨x, hb⟩
    · obtain ⟨q1, q2, q3⟩ := G.c b hb
      rcases q1 with ⟨o, e⟩ | q1
      · exact ⟨.inl (old b o e), free b o e q2, q3⟩
      · exact ⟨.inl (pa b q1).2, (pa b q1).1, q3⟩
    · exact ⟨.inl (pa b hb).2, (pa b hb).1, nb b (G.pa b hb).1⟩
    · rw [hb]
      refine ⟨.inl loc.2, loc.1, nb _ ?_⟩
      have := I.ok.above
      rw [show (rb F.X s₀).s_0.heap.objs.size = F.X.s_0.heap.objs.size from cut_size] at this
      exact this
    · refine ⟨.inl (cell x b hb).2, (cell x b hb).1, nb b ?_⟩
      have := I.ok.cab x b (G.fn x) hb
      rw [show (rb F.X s₀).s_0.heap.objs.size = F.X.s_0.heap.objs.size from cut_size] at this
      exact this
/-- behind the inner one's doings -/
theorem GnI.after {F1 : GF} (G : GOk F) (hst : F.X.stack = F.X.env :: F.X.outer) (hfr : F.X.env.frame = some F.X.env.locals) (c : Crea1 F ip H1 sc) {a : Addr} {go : Obj} {sw s₁ : Shared} (I0 : GnI F (ip ++ [(a, go)]) σ H s₀ s) (hw : sw.heap = s.heap) (hwo : sw.os = s.os)
    (hP : F1.X.prog = F.X.prog) (hW : F1.X.w = F.X.w) (h0 : F1.X.H_0 = H1) (hs : F1.X.s_0 = sc) (ho : F1.X.outer = F.X.stack) (hpn : F1.X.pn = [(a, go)]) (hgd : ∀ H', F1.Gd H' → Same H1 H')
    (Kk : GnK F1 sw s₁ H') (kp : ∀ b o, s₁.heap.get? b = some o → s'.heap.get? b = some o) (os : s'.os = s₁.os) (bare : AllBare s'.gens) (gz : F.g < s'.gens.size) : GnI F (ip ++ [(a, go)]) σ H' s₀ s' := by
  obtain ⟨⟨pl, e1, e2, I⟩, hg, hip, hl⟩ := I0
  obtain ⟨k1, k2, un, hok, _, kpn, kl, kgd⟩ := Kk
  have sm := hgd H' kgd
  rw [h0, hs, hw] at un
  rw [hP, hW] at hok
  rw [hpn] at kpn
  have fsE : F1.X.fs = F.X.env.locals :: F.X.fs := by
    show frs F1.X.outer = _
    rw [ho, hst]
    unfold frs
    rw [List.filterMap_cons, hfr]
    rfl
  rw [fsE] at un
  have ex0 : ∀ b, b ∉ (rb F.X s₀).ex := fun b => by rw [show (rb F.X s₀).ex = [] from G.ex]; simp
  have cutS : ∀ b o, (∃ o0, sc.heap.get? b = some o0) → s.heap.get? b = some o → (cutH sc.heap s.heap).get? b = some o := fun b o ⟨o0, e0⟩ e => cut_of e0 e
  have keepS : ∀ b o, (∃ o0, sc.heap.get? b = some o0) → s.heap.get? b = some o → H1 b = none → b ≠ F.X.env.locals → b ∉ F.X.fs → s'.heap.get? b = some o := fun b o x e n nl nf =>
    kp b o (un.keep b o (cutS b o x e) n (fun hm => (List.mem_cons.mp hm).elim nl nf) (by simp))
  have anyS : ∀ b o, (∃ o0, sc.heap.get? b = some o0) → s.heap.get? b = some o → H1 b = none → ∃ sl, s'.heap.get? b = some { o with slots := sl } := fun b o x e n => by
    obtain ⟨sl, q⟩ := un.any (cutS b o x e) n (by simp)
    exact ⟨sl, kp b _ q⟩
  have abv : F.X.s_0.heap.objs.size ≤ F.X.env.locals := by
    have := I.ok.above
    rw [show (rb F.X s₀).s_0.heap.objs.size = F.X.s_0.heap.objs.size from cut_size] at this
    exact this
  refine ⟨⟨pl, e1, e2, ⟨I.ok, (os.trans k1).trans (hwo.trans I.os), bare, ⟨fun b o e n f x => ?_, fun b o e n f x => ?_, fun b o e n x => ?_, fun b o e x => ?_, fun b xs e => sm _ _ (c.tups b xs e), fun b o u e => sm _ _ (c.frzs b o u e), fun b ps e => ?_⟩, ?_, fun x cc e => ?_, ?_, fun x cc e => ?_, fun p hp => ?_, hok.kept kp, I.len⟩⟩, gz, hip, hl⟩
  · obtain ⟨⟨o0, q0⟩, _⟩ := cut_some e
    exact keepS b o (c.old b o0 q0) (I.base.keep b o e n f x) (c.free b o0 q0 n) (Nat.ne_of_lt (Nat.lt_of_lt_of_le (Heap.lt_size q0) abv)) f
  · obtain ⟨⟨o0, q0⟩, _⟩ := cut_some e
    obtain ⟨sl, e1⟩ := I.base.slot b o e n f x
    obtain ⟨sl2, e2⟩ := anyS b _ (c.old b o0 q0) e1 (c.free b o0 q0 n)
    exact ⟨sl2, e2⟩
  · obtain ⟨⟨o0, q0⟩, _⟩ := cut_some e
    obtain ⟨o', e'⟩ := I.base.there b o e x
    exact un.free b o' (cutS b o' (c.old b o0 q0) e') (c.free b o0 q0 n) (by simp)
  · obtain ⟨⟨o0, q0⟩, _⟩ := cut_some e
    obtain ⟨o', e'⟩ := I.base.there b o e x
    obtain ⟨o2, q2⟩ := un.there b o' (cutS b o' (c.old b o0 q0) e') (by simp)
    exact ⟨o2, kp b o2 q2⟩
  · obtain ⟨more, q⟩ := c.tbls b ps e
    exact ⟨more, sm _ _ q⟩
  · obtain ⟨m, ⟨o, es, ep, e, r⟩, hv⟩ := I.loc
    obtain ⟨sl, q⟩ := anyS _ o c.loc.2 e c.loc.1
    refine ⟨m, ⟨_, es, ep, q, r⟩, fun i x v h1 h2 h3 => ?_⟩
    obtain ⟨u, r, l⟩ := hv i x v h1 h2 h3
    refine ⟨u, r, ?_⟩
    rcases l with l | ⟨k, cc, e, oc, hoc, hd⟩
    · exact .inl l
    · obtain ⟨q1, q2⟩ := c.cell x cc e
      obtain ⟨sl, q⟩ := anyS cc oc q2 hoc q1
      exact .inr ⟨k, cc, e, _, q, hd⟩
  · obtain ⟨v, oc, hoc, hd⟩ := I.cell x cc e
    obtain ⟨q1, q2⟩ := c.cell x cc e
    obtain ⟨sl, q⟩ := anyS cc oc q2 hoc q1
    exact ⟨v, _, q, hd⟩
  · obtain ⟨q1, o0, q2⟩ := c.loc
    obtain ⟨m, ⟨o, es, ep, e, r⟩, hv⟩ := I.loc
    exact un.free _ o (cutS _ o ⟨o0, q2⟩ e) q1 (by simp)
  · obtain ⟨v, oc, hoc, hd⟩ := I.cell x cc e
    obtain ⟨q1, q2⟩ := c.cell x cc e
    exact un.free _ oc (cutS _ oc q2 hoc) q1 (by simp)
  · obtain ⟨a1, a2, a3, a4, a5⟩ := I.pin p hp
    have fin : H1 p.1 = none → (∃ o, sc.heap.get? p.1 = some o) → s'.heap.get? p.1 = some p.2 ∧ H' p.1 = none ∧ p.1 ≠ F.X.env.locals ∧ p.1 ∉ F.X.fs ∧ ∀ v, p.2.data ≠ .cell v := fun n x =>
      ⟨keepS _ _ x a1 n a3 a4, un.free _ _ (cutS _ _ x a1) n (by simp), a3, a4, a5⟩
    rcases List.mem_append.mp hp with hp1 | hp1
    · exact fin (c.pn p hp1).1 (c.pn p hp1).2
    · rcases List.mem_append.mp hp1 with hp2 | hp2
      · have hb : p.1 ∈ F.PA := by rw [← e1]; exact List.mem_map_of_mem hp2
        exact fin (c.pa _ hb).1 (c.pa _ hb).2
      · rcases List.mem_append.mp hp2 with hp3 | hp3
        · exact fin (c.ip p hp3).1 (c.ip p hp3).2
        · obtain ⟨b1, b2⟩ := kpn p hp3
          exact ⟨kp _ _ b1, b2, a3, a4, a5⟩
/-- a local name is stored: what changes -/
theorem store_plain {X : Cx} {pins : List (Addr × Obj)} {M : Model} {A : Around} {E : Value → Shared → Prop} {i : Nat} {x : Str} {v : V} {u : Value} {Q : Unit → Shared → Prop} (I : Inv X pins σ H s) (hN : X.N.Nodup) (hi : X.N[i]? = some x) (hk : X.env.scope.names.lookup x = some .local) (r : RelV v u)
    (h : ∀ h' tk, Inv X pins (σ.set i (some v)) H { s with heap := h', toks := tk } → Heap.SameBut X.env.locals s.heap h' → (∃ o, h'.get? X.env.locals = some o) → Q () { s with heap := h', toks := tk }) : wpAny M A (storeName X.env x u) Q E s := by
  obtain ⟨m, hn, hl⟩ := id I.loc
  have hcls : (X.env.scope.kind == .class || (X.env.scope.kind == .module && X.env.locals != X.env.globals)) = false := by rw [I.ok.kind]; rfl
  have hiσ : i < σ.length := by rw [I.len]; exact (List.getElem?_eq_some_iff.mp hi).1
  refine wpAny_storeName_local hk hn (fun h' hn' hs => ?_) hcls
  have ne0 : ∀ b o, X.s_0.heap.get? b = some o → b ≠ X.env.locals := fun b o e => Nat.ne_of_lt (Nat.lt_of_lt_of_le (Heap.lt_size e) I.ok.above)
  refine h h' _ ⟨I.ok, I.os, I.bare, ⟨fun b o e n hb hx => (hs.2 b (ne0 b o e)).trans (I.base.keep b o e n hb hx), fun b o e n hb hx => (I.base.slot b o e n hb hx).imp fun sl q => (hs.2 b (ne0 b o e)).trans q, I.base.free, fun b o e hx => (I.base.there b o e hx).imp fun o' q => (hs.2 b (ne0 b o e)).trans q, I.base.tups, I.base.frzs, I.base.tbls⟩,
    ⟨_, hn', fun j y v' d1 d2 d3 => ?_⟩, fun y c e => ?_, I.free, I.freeC, fun p hp => ?_, fun b ob e => ?_, by rw [List.length_set]; exact I.len⟩ hs (let ⟨o, _, _, z, _⟩ := hn'; ⟨o, z⟩)
  · rcases Decidable.em (j = i) with hj | hj
    · subst hj
      rw [hi] at d1; cases d1
      rw [List.getElem?_set_self hiσ] at d2
      cases d2
      exact ⟨u, r, .inl ⟨hk, by simp⟩⟩
    · rw [List.getElem?_set_ne (Ne.symm hj)] at d2
      obtain ⟨u', r', q⟩ := hl j y v' d1 d2 d3
      refine ⟨u', r', q.imp (fun ⟨k, e⟩ => ⟨k, ?_⟩) fun ⟨k, c, e, z⟩ => ⟨k, c, e, z.sameBut hs (I.cne y c e)⟩⟩
      have nyx : y ≠ x := fun e => hj (nodup_ix hN d1 (e ▸ hi))
      simp [nyx, e]
  · exact (I.cell y c e).imp fun w' z => z.sameBut hs (I.cne y c e)
  · obtain ⟨e, n, ne, nf, d⟩ := I.pin p hp
    exact ⟨(hs.2 p.1 ne).trans e, n, ne, nf, d⟩
  · refine (I.hok b ob e).stay (fun c w' hc q => (hs.2 c ?_).trans q) (fun _ q => q) fun _ _ q => q
    rintro rfl
    have nf := I.free
    rcases hc with rfl | hc
    · rw [nf] at e; cases e
    · rw [nf] at hc; cases hc
end
end Zb
end
section
set_option Elab.async false
set_option linter.all false
set_option maxRecDepth 100000
set_option maxHeartbeats 1000000
/-! Zg7: the rule of for x in f(..): yield e. -/
namespace Zb
open PySem PySem.Spec PyProof.Rows L2 GenW

def gForG (j : Nat) (tq : L2.St → V → Prop) (Gd0 : Hp → Prop) (tg : TZ) : GT := fun D ws σ H => tg σ H fun Gd T H1 => ∃ (f : List Nat → List Nat) (ws' : Txs), ws = T.map f ++ ws' ∧ (∀ H', Gd H' → Gd0 H') ∧
  (∀ w ∈ T, tq (σ.set j (some (.str (tx w)))) (.str (tx (f w)))) ∧ ∀ H' σ', Gd H' → (σ' = σ ∨ ∃ o, σ' = σ.set j o) → D.nx ws' σ' H'
theorem room_in1 {k : Nat} {A : Around} (h : Room (k + 1) A) : Room k A.in1 := by
  refine ⟨h.hd, ?_, ?_⟩
  · have := h.dp
    show A.depth + 3 * k + 5 < _
    omega
  · have := h.un
    show A.units + 1 + 16 * k + 200 < _
    omega
theorem setGen_other {s : Shared} {g j : Nat} {x : GenState} (h : g ≠ j) : (s.setGen g x).gens[j]? = s.gens[j]? := by
  show (s.gens.setIfInBounds g x)[j]? = _
  rw [Array.getElem?_setIfInBounds_ne h]
section
variable {F : GF}
theorem gs_forG {k j : Nat} {x : Str} {iter ey : Expr} {pos np yp ep : Pos} {tg : TZ} {tq : L2.St → V → Prop} (hst : F.X.stack = F.X.env :: F.X.outer) (hfr : F.X.env.frame = some F.X.env.locals)
    (hi : ∀ z, PGz (rb F.X z) k iter tg) (hr : Room (k + 1) F.X.A) (hN : F.X.N.Nodup) (hj : F.X.N[j]? = some x) (hk : F.X.env.scope.names.lookup x = some .local) (hy : ∀ z, PQ (rb F.X z) ey tq)
    (hs : ∀ x, foldedSetIterable iter F.X.env x = pure x := by intro _; rfl) (hco : F.X.env.scope.isCoroutine = false := by rfl) (hin : interactive F.X.env = false := by rfl) :
    GS F (.For (.Name x np) iter [.Expr (.Yield (some ey) yp) ep] [] pos) (gForG j tq F.Gd tg) := ⟨fun A c fs K J gd lv s₀ s σ H ip ws D G hrem kk I ht => by
  obtain ⟨pl, e1, e2, w⟩ := I.piece (P := fun u pl s' => ∃ H1 sc Gd T, Inv (rb F.X s₀) (pl ++ ip) σ H1 sc ∧ s.gens.size ≤ sc.gens.size ∧ Made F.X.prog F.X.w F.X.K F.X.mg F.X.base k F.X.stack H1 sc Gd T u s' ∧
    ∃ (f : List Nat → List Nat) (ws' : Txs), ws = T.map f ++ ws' ∧ (∀ H', Gd H' → F.Gd H') ∧ (∀ w ∈ T, tq (σ.set j (some (.str (tx w)))) (.str (tx (f w)))) ∧ ∀ H' σ', Gd H' → (σ' = σ ∨ ∃ o, σ' = σ.set j o) → D.nx ws' σ' H') fun pl _ _ J => (hi s₀).run _ s σ H _ J ht
  rw [exec_For]
  refine seg_bind_wrap (wpAny_standAt ?_)
  refine seg_bind_wrap ?_
  rw [G.over]
  refine wpAny_mono w (fun v s1 ⟨hz1, h1⟩ => ?_) fun _ _ z => False.elim z
  refine seg_bind_wrap (wpAny_of_eq (hs v) ?_)
  refine seg_bind_wrap (wpAny_standAt ?_)
  obtain ⟨H1, sc, Gd, T, I1, hgsz, Md, f, ws', ews, hgd, htq, hend⟩ := h1
  obtain ⟨N, qual, scope, fa, cd, a, g1, go, cc, rfl, ha1, ha2, hgo, hgoc, hgen, hg1, hfresh, hos, hbare, hlim, hkp, hsm, wake⟩ := Md
  refine seg_bind_wrap (wpAny_holding ?_)
  rw [G.over]
  refine wpAny_pyIter_gen (hgen _ hgo) ?_
  have hgg : F.g < g1 := Nat.lt_of_lt_of_le I.g (Nat.le_trans hgsz hg1)
  have abv : F.X.s_0.heap.objs.size ≤ sc.heap.objs.size := by
    have := I1.sz
    rw [show (rb F.X s₀).s_0.heap.objs.size = F.X.s_0.heap.objs.size from cut_size] at this
    exact this
  have Is1 : Inv (rb F.X s₀) (pl ++ ip) σ H1 s1 := I1.call' (ch := []) hos (Un.kept hkp) (I1.hok.kept hkp) hbare fun b z => by simp at z
  have crea : Crea F ip H1 sc := ⟨s₀, pl, σ, e1, I.lives, I1⟩
  have cr := crea.get G.ok
  have haC : ¬ F.C a := G.ok.noC (Nat.le_trans abv ha1) fun z => by
    obtain ⟨_, o, e⟩ := cr.pa a z
    exact absurd (Nat.lt_of_lt_of_le (Heap.lt_size e) ha1) (Nat.lt_irrefl _)
  have Ia : GnI F (ip ++ [(a, go)]) σ H1 s₀ s1 := by
    refine ⟨⟨pl, e1, e2, ?_⟩, hz1, fun p hp => ?_, I.lives⟩
    · refine Is1.pins_of fun p hp => ?_
      rw [← List.append_assoc] at hp
      rcases List.mem_append.mp hp with hp | hp
      · exact Is1.pin p (List.mem_append_right _ hp)
      · rw [List.mem_singleton.mp hp]
        exact ⟨hgo, I1.hok.fresh ha1, Nat.ne_of_gt (Nat.lt_of_lt_of_le I1.lt ha1), I1.nofs ha1, hgoc⟩
    · rcases List.mem_append.mp hp with hp | hp
      · exact I.ip p hp
      · rw [List.mem_singleton.mp hp]
        exact haC
  refine seg_call fun p => ?_
  have gl := fun (kk : Result → Sem PySem.Fin) => gc_inner (k := kk) (c' := .forLoop (.Name x np) (.ref a) [.Expr (.Yield (some ey) yp) ep] [] F.X.env) (l := lv []) (kp := []) (p := p) G rfl rfl
  have hh : F.X.A.handled = none := I1.ok.hd G.ok.calm
  have hframes : F.X.A.frames = some F.X.stack := I1.ok.frames
  have hdep : F.X.A.depth < recursionLimit := hr.depth
  generalize eF1 : (⟨gcx F.X.prog F.X.w F.X.K F.X.mg F.X.base N qual scope fa cd F.X.A.in1 F.X.stack sc H1 [(a, go)], innerC F, [], g1, Gd, T⟩ : GF) = F1
  have aft : ∀ {σc : L2.St} {H H' : Hp} {s₀ s s₁ s' : Shared}, GnI F (ip ++ [(a, go)]) σc H s₀ s → GnK F1 (s.setGen g1 .running) s₁ H' → (∀ b o, s₁.heap.get? b = some o → s'.heap.get? b = some o) → s'.os = s₁.os → AllBare s'.gens → F.g < s'.gens.size →
      GnI F (ip ++ [(a, go)]) σc H' s₀ s' := by
    subst eF1
    intro σc H H' s₀ s s₁ s' I Kk k1 k2 k3 k4
    exact I.after (F1 := ⟨gcx F.X.prog F.X.w F.X.K F.X.mg F.X.base N qual scope fa cd F.X.A.in1 F.X.stack sc H1 [(a, go)], innerC F, [], g1, Gd, T⟩) (sw := s.setGen g1 .running) G.ok hst hfr cr rfl rfl rfl rfl rfl rfl rfl rfl hsm Kk k1 k2 k3 k4
  have loop : ∀ (r ws : Txs) (s₀ s : Shared) (σc : L2.St) (H : Hp) (gs : GenState), ws = r.map f ++ ws' → Rem F.T ws → Rem T r → (σc = σ ∨ ∃ o, σc = σ.set j o) → GnI F (ip ++ [(a, go)]) σc H s₀ s → s.gens[g1]? = some gs →
      gs.Goes (model F.X.prog F.X.w) F.X.A.in1 (GnR F1) (GnY F1) r.length (.send .none) (s.setGen g1 .running) →
      SegF F A ws s₀ (.forLoop (.Name x np) (.ref a) [.Expr (.Yield (some ey) yp) ep] [] F.X.env) ((model F.X.prog F.X.w).den (.forLoop (.Name x np) (.ref a) [.Expr (.Yield (some ey) yp) ep] [] F.X.env))
        (.ret (fun r => ((match r with | .ok f => (.pure f : Sem Flow) | .error e => .raise e).onRaise (cameBack F.X.env)).wrap K J gd lv) none (gd false) (lv []) c p [] :: fs) s := by
    intro r
    induction r with
    | nil =>
      intro ws s₀ s σc H gs ews hrem hrT hσ I hgs hgo1
      have hlt : g1 < s.gens.size := (Array.getElem?_eq_some_iff.mp hgs).1
      obtain ⟨pl, b1, b2, J0⟩ := I.inv
      have hga : s.heap.get? a = some go := (J0.pin (a, go) (List.mem_append_right _ (List.mem_append_right _ (List.mem_append_right _ (List.mem_singleton.mpr rfl))))).1
      refine seg_forTurn ?_
      rw [(gl _).over]
      refine wpAny_gsz (n := g1 + 1) hlt (next_genG (A := F.X.A) hh J0.nolimit hdep (hgen _ hga) hgs hgo1 (fun v s₁ gs' hb hY hsz => ?_) (fun s₁ hF h' hk' hsz => ?_) fun e s₁ hE => False.elim hE)
      · obtain ⟨w0, H', _, _, Kk, kap⟩ := hY
        have hsz1 : g1 < s₁.gens.size := by
          rw [← setGen_size s₁ g1 gs']; exact hsz
        have I1' : GnI F (ip ++ [(a, go)]) σc H' s₀ s₁ := aft I Kk (fun _ _ e => e) rfl Kk.bare (Nat.lt_trans hgg hsz1)
        obtain ⟨_, _, _, J1⟩ := I1'.inv
        subst eF1
        exact False.elim (kap s₁ ⟨rfl, Kk.bare, fun _ _ _ e => e, fun b o e => ⟨o, e⟩, fun b hb => by simp at hb, J1.stack, fun _ _ _ => rfl, hsz1⟩)
      · obtain ⟨_, H', Kk⟩ := hF
        have hsz1 : g1 < s₁.gens.size := by
          rw [← setGen_size s₁ g1 .finished]; exact hsz
        have I1' : GnI F (ip ++ [(a, go)]) σc H' s₀ { s₁.setGen g1 .finished with heap := h' } := aft I Kk hk' rfl (allBare_setGen Kk.bare rfl) (by show F.g < (s₁.setGen g1 .finished).gens.size; rw [setGen_size]; exact Nat.lt_trans hgg hsz1)
        obtain ⟨pl', c1, c2, J1⟩ := I1'.inv
        rw [← List.append_assoc] at J1
        have I2 : GnI F ip σc H' s₀ { s₁.setGen g1 .finished with heap := h' } := ⟨⟨pl', c1, c2, J1.unpinned⟩, I1'.g, fun p hp => I1'.ip p (List.mem_append_left _ hp), I1'.lives⟩
        have ews' : ws = ws' := ews
        subst ews'
        exact fun c' => seg_leaf (.ok .next) (kk ws s₀ _ .next hrem ⟨σc, H', I2, hend H' σc (by subst eF1; exact Kk.gd) hσ⟩)
    | cons w1 r ih =>
      intro ws s₀ s σc H gs ews hrem hrT hσ I hgs hgo1
      have hlt : g1 < s.gens.size := (Array.getElem?_eq_some_iff.mp hgs).1
      obtain ⟨pl, b1, b2, J0⟩ := I.inv
      have hga : s.heap.get? a = some go := (J0.pin (a, go) (List.mem_append_right _ (List.mem_append_right _ (List.mem_append_right _ (List.mem_singleton.mpr rfl))))).1
      refine seg_forTurn ?_
      rw [(gl _).over]
      refine wpAny_gsz (n := g1 + 1) hlt (next_genG (A := F.X.A) hh J0.nolimit hdep (hgen _ hga) hgs hgo1 (fun v s₁ gs' hb hY hsz => ?_) (fun s₁ hF h' hk' hsz => ?_) fun e s₁ hE => False.elim hE)
      · have ews2 : ws = f w1 :: (r.map f ++ ws') := ews
        subst ews2
        have eT : F1.T = T := by rw [← eF1]
        obtain ⟨w0, H', hw0, rv, Kk, kap⟩ := hY
        obtain ⟨q1, q2⟩ := rem_at hrT
        have hw1 : w0 = w1 := by
          rw [eT] at hw0
          have : (w1 :: r).length - 1 + 1 = r.length + 1 := by simp
          rw [this, q1] at hw0
          exact (Option.some.inj hw0).symm
        subst hw1
        have hsz1 : g1 < s₁.gens.size := by
          rw [← setGen_size s₁ g1 gs']; exact hsz
        have I1' : GnI F (ip ++ [(a, go)]) σc H' s₀ (s₁.setGen g1 gs') := by
          exact aft I Kk (fun _ _ e => e) rfl (allBare_setGen Kk.bare hb) (by rw [setGen_size]; exact Nat.lt_trans hgg hsz1)
        obtain ⟨pl1, c1, c2, J1⟩ := I1'.inv
        show wpAny _ _ (pure ()) _ _ _
        refine wpAny_pure ?_
        refine wpAny_assign_Name (store_plain (X := rb F.X s₀) J1 hN hj hk rv fun h3 tk3 J3 hsb hloc => ?_)
        intro J'
        refine seg_execs_cons ?_
        refine seg_Expr_Yield (gl _).split rfl (gl _).guard ?_ hco hin
        rw [(gl _).over]
        have hset : σc.set j (some (.str (tx w0))) = σ.set j (some (.str (tx w0))) := by
          rcases hσ with rfl | ⟨o, rfl⟩
          · rfl
          · rw [List.set_set]
        rw [hset] at J3
        refine wpAny_mono ((hy s₀).run _ _ _ H' _ J3 (htq w0 (by obtain ⟨pre, e⟩ := hrT; rw [e]; simp))) (fun v4 s4 ⟨r4, a1, a2, a3, J4⟩ => ?_) fun _ _ z => False.elim z
        have gz4 : s4.gens = (s₁.setGen g1 gs').gens := a2
        have os4 : s4.os = s₁.os := a3
        have hp4 : s4.heap = h3 := a1
        have I4 : GnI F (ip ++ [(a, go)]) (σ.set j (some (.str (tx w0)))) H' s₀ s4 := ⟨⟨pl1, c1, c2, J4⟩, by rw [gz4, setGen_size]; exact Nat.lt_trans hgg hsz1, I1'.ip, I1'.lives⟩
        obtain ⟨p1, p2⟩ := rem_at hrem
        have kgd : Gd H' := by subst eF1; exact Kk.gd
        refine fun kap2 hk2 => ⟨f w0, H', p1, r4, I4.kept G.ok (hgd H' kgd), fun s6 z => hk2 .none s6 ?_⟩
        have I6 := I4.wake G.ok z
        refine seg_execs_nil (seg_again rfl (ih (r.map f ++ ws') s6 s6 _ H' gs' rfl p2 q2 (.inr ⟨_, rfl⟩) I6 ?_ ?_))
        · rw [z.gs g1 hgg (by rw [gz4, setGen_size]; exact hsz1), gz4]
          exact setGen_at hsz1
        · obtain ⟨_, _, _, J6⟩ := I6.inv
          have gn : GnS F1 s₁ (s6.setGen g1 .running) := by
            subst eF1
            refine ⟨z.os.trans os4, allBare_setGen z.bare rfl, fun b o hb e => ?_, fun b o e => ?_, fun b hb => by simp at hb, J6.stack, fun i hi1 hi2 => ?_, ?_⟩
            · refine z.keep b o (fun y => hb (.inl y)) ?_
              rw [hp4]
              exact (hsb.2 b fun y => hb (.inr (.inr (.inl y)))).trans e
            · refine (?_ : ∃ o', s4.heap.get? b = some o').elim fun o' q => z.thr b o' q
              rw [hp4]
              by_cases y : b = F.X.env.locals
              · rw [y]; exact hloc
              · exact ⟨o, (hsb.2 b y).trans e⟩
            · have hi1' : g1 < i := hi1
              rw [setGen_other (Nat.ne_of_lt hi1'), z.gs i (Nat.lt_trans hgg hi1') (by rw [gz4, setGen_size]; exact hi2), gz4, setGen_other (Nat.ne_of_lt hi1')]
            · show g1 < _
              rw [setGen_size]
              have q := z.gs g1 hgg (by rw [gz4, setGen_size]; exact hsz1)
              rw [gz4, setGen_at hsz1] at q
              exact (Array.getElem?_eq_some_iff.mp q).1
          exact kap _ gn
      · obtain ⟨h0, _⟩ := hF
        exact absurd h0 (by simp)
  subst eF1
  have hg1lt : g1 < s1.gens.size := (Array.getElem?_eq_some_iff.mp hfresh).1
  refine loop T ws s₀ s1 σ H1 (.fresh cc) ews hrem ⟨[], rfl⟩ (.inl rfl) Ia hfresh ⟨rfl, ?_⟩
  exact wake F.X.A.in1 (innerC F) [] (s1.setGen g1 .running) (room_in1 hr) hframes ⟨fun _ _ e => e, hos, allBare_setGen hbare rfl, by rw [setGen_size]; exact hg1lt, cr.inC, fun b hb => by simp at hb⟩⟩
end
end Zb
end
section
set_option Elab.async false
set_option linter.all false
set_option maxRecDepth 100000
set_option maxHeartbeats 1000000
/-! Zg8: list(g). -/
namespace Zb
open PySem PySem.Spec PyProof.Rows L2 GenW

theorem funs_un {fs : List Addr} {H H' : Hp} {h h' base : Heap} (u : Un fs [] H H' h h') : ∀ {l : List Env}, (∀ b ∈ frs l, H b = none) → h.FunFrames base l → h'.FunFrames base l
  | [], _, _ => trivial
  | env :: r, hn, ⟨hk, ⟨L, o, hf, hb, ho, hd⟩, hr⟩ => by
    have mem : ∀ b ∈ frs r, b ∈ frs (env :: r) := fun b z => by
      unfold frs at z ⊢
      rw [List.filterMap_cons, hf]
      exact List.mem_cons_of_mem _ z
    have hL : L ∈ frs (env :: r) := by
      unfold frs
      rw [List.filterMap_cons, hf]
      exact List.mem_cons_self
    obtain ⟨sl, e⟩ := u.any ho (hn L hL) (by simp)
    exact ⟨hk, ⟨L, _, hf, hb, e, hd⟩, funs_un u (fun b z => hn b (mem b z)) hr⟩
/-- from the making to a hand-out: through what the consumer did -/
theorem un_cut {fs : List Addr} {H1 H' : Hp} {h0 h h1 : Heap} (u : Un fs [] H1 H1 h0 h) (k : Un fs [] H1 H' (cutH h0 h) h1) : Un fs [] H1 H' h0 h1 := by
  refine ⟨fun b o e n f x => k.keep b o (cut_of e (u.keep b o e n f x)) n f x, fun b o e n f x => ?_, fun b o e n x => ?_, fun b o e x => ?_, k.tups, k.frzs, k.tbls⟩
  · obtain ⟨sl, q⟩ := u.slot b o e n f x
    obtain ⟨sl2, q2⟩ := k.slot b _ (cut_of e q) n f x
    exact ⟨sl2, q2⟩
  · obtain ⟨o', q⟩ := u.there b o e x
    exact k.free b o' (cut_of e q) n x
  · obtain ⟨o', q⟩ := u.there b o e x
    exact k.there b o' (cut_of e q) x
theorem un_weak {fs : List Addr} {H1 H' : Hp} {h0 h1 h2 : Heap} (u : Un fs [] H1 H' h0 h1) (k : ∀ b o0 o, h0.get? b = some o0 → h1.get? b = some o → h2.get? b = some o) : Un fs [] H1 H1 h0 h2 :=
  ⟨fun b o e n f x => k b o o e (u.keep b o e n f x), fun b o e n f x => (u.slot b o e n f x).imp fun sl q => k b o _ e q, fun _ _ _ n _ => n, fun b o e x => (u.there b o e x).imp fun o' q => k b o o' e q, fun _ _ q => q, fun _ _ _ q => q, fun b ps q => ⟨#[], by rw [q]; simp⟩⟩

section
variable {P : Program} {w : World} {K : PySem.W.Frag} {mg : Str → Option Value} {base : Heap} {outer : List Env} {H1 : Hp} {sc : Shared} {Gd : Hp → Prop} {T : Txs} {N : List Str} {qual : Str} {scope : Scope} {fa : Addr} {cd : Value}
/-- what the consumer knows at its end -/
structure Drained (P : Program) (w : World) (outer : List Env) (H1 : Hp) (sc : Shared) (Gd : Hp → Prop) (T : Txs) (S : Addr) (s' : Shared) : Prop where
  ex : ∃ H' acc c, Gd H' ∧ s'.os = sc.os ∧ AllBare s'.gens ∧ Un (frs outer) [] H1 H' sc.heap s'.heap ∧ HOk P w H' s'.heap ∧ H' S = none ∧ s'.heap.get? S = some (lstObj acc c) ∧ Vals (T.map fun x => V.str (tx x)) acc.toList
theorem drainZ {A : Around} {R : Result → Shared → Prop} {S a g : Nat} {go : Obj} {res : Value} (hh : A.handled = none) (hd : A.depth < recursionLimit) (hgen : ∀ h : Heap, h.get? a = some go → h.IsGen a g) (hSs : sc.heap.objs.size ≤ S) (hSa : S ≠ a) (has : sc.heap.objs.size ≤ a)
    (hT : T.length ≤ 100000) (e0 : Env0 P w K mg base A outer sc H1) (hbf : ∀ b o, base.get? b = some o → b ∉ frs outer) (hend : ∀ s', Drained P w outer H1 sc Gd T S s' → R (.ok (.ret res)) s') (G0 : GF) (eF : G0 = ⟨gcx P w K mg base N qual scope fa cd A.in1.in1 outer sc H1 [(a, go)], (· = S), [S], g, Gd, T⟩) :
    ∀ (r : Txs) (s : Shared) (acc : Array Value) (c : Nat) (pre : Txs) (gs : GenState), T = pre ++ r → s.heap.get? a = some go → s.os = sc.os → Un (frs outer) [] H1 H1 sc.heap s.heap → s.heap.get? S = some (lstObj acc c) → Vals (pre.map fun x => V.str (tx x)) acc.toList → AllBare s.gens →
      s.gens[g]? = some gs → gs.Goes (model P w) A.in1.in1 (GnR G0) (GnY G0) r.length (.send .none) (s.setGen g .running) →
      codeAny (model P w) A (.builtin "list.extend.loop" ⟨[.ref S, .ref a, res], []⟩) R s := by
  have lim : ∀ {h : Heap} {H' : Hp}, Un (frs outer) [] H1 H' sc.heap h → h.NoLimit := fun {h H'} u => e0.mod.nolimit.keeps fun b o e => u.keep b o (e0.bs b o e).1 (e0.bs b o e).2 (hbf b o e) (by simp)
  have fn : ∀ {h : Heap} {H' : Hp}, Un (frs outer) [] H1 H' sc.heap h → h.FunFrames base outer := fun u => funs_un u e0.frf e0.funs
  have nS : ∀ {h h2 : Heap} {f : Obj → Obj}, h2 = h.update S f → ∀ b o0 o, sc.heap.get? b = some o0 → h.get? b = some o → h2.get? b = some o := fun {h h2 f} e b o0 o q1 q2 => by
    rw [e]
    exact (Heap.get?_update_other _ _ fun z => Nat.lt_irrefl _ (Nat.lt_of_lt_of_le (Heap.lt_size q1) (by rw [← z]; exact hSs))).trans q2
  have turn : ∀ (r : Txs) (s : Shared) (acc : Array Value) (c : Nat) (pre : Txs) (gs : GenState), T = pre ++ r → s.heap.get? a = some go → s.os = sc.os → Un (frs outer) [] H1 H1 sc.heap s.heap → s.heap.get? S = some (lstObj acc c) → Vals (pre.map fun x => V.str (tx x)) acc.toList →
      ∀ (s₁ : Shared) (H' : Hp), GnK G0 (s.setGen g .running) s₁ H' → Un (frs outer) [] H1 H' sc.heap s₁.heap ∧ s₁.heap.get? a = some go ∧ H' S = none ∧ s₁.heap.get? S = some (lstObj acc c) ∧ s₁.os = sc.os := by
    subst eF
    intro r s acc c pre gs eT hga hos hun hS hv s₁ H' Kk
    obtain ⟨p1, p2⟩ := Kk.pa S (List.mem_singleton.mpr rfl)
    exact ⟨un_cut hun Kk.un, (Kk.pn (a, go) (List.mem_singleton.mpr rfl)).1, p2, p1.trans hS, Kk.os.trans hos⟩
  have lt1 : ∀ {s : Shared} {x : GenState}, g + 1 ≤ (s.setGen g x).gens.size → g < s.gens.size := fun {s x} h => by
    rw [setGen_size] at h
    exact h
  intro r
  induction r with
  | nil =>
    intro s acc c pre gs eT hga hos hun hS hv hb hgs hgo
    have hgl : g < s.gens.size := (Array.getElem?_eq_some_iff.mp hgs).1
    refine codeAny_builtin PySem.F.entry_extend_loop ?_
    rw [Around.under_plainId PySem.F.plain_extend_loop _]
    show wpAny (model P w) A.in1 (pyNext (.ref a) >>= _) _ _ s
    refine wpAny_bind (wpAny_gsz (n := g + 1) hgl (next_genG (A := A.in1) hh (lim hun) hd (hgen _ hga) hgs hgo (fun v s₁ gs' hb1 hY hsz => ?_) (fun s₁ hF h' hk hsz => ?_) fun e s₁ hE => False.elim hE))
    · obtain ⟨w0, H', _, _, Kk, kap⟩ := hY
      obtain ⟨t1, t2, t3, t4, t5⟩ := turn [] s acc c pre gs eT hga hos hun hS hv s₁ H' Kk
      have sl := kap s₁
      subst eF
      exact False.elim (sl ⟨rfl, Kk.bare, fun _ _ _ e => e, fun b o e => ⟨o, e⟩, fun b hb => by rw [List.mem_singleton.mp hb]; exact ⟨_, t4, fun v q => by cases q⟩, fn t1, fun _ _ _ => rfl, lt1 hsz⟩)
    · obtain ⟨_, H', Kk⟩ := hF
      obtain ⟨t1, t2, t3, t4, t5⟩ := turn [] s acc c pre gs eT hga hos hun hS hv s₁ H' Kk
      have hg' : Gd H' := by subst eF; exact Kk.gd
      have hok : HOk P w H' s₁.heap := by subst eF; exact Kk.hok
      rw [List.append_nil] at eT
      refine wpAny_pure (hend _ ⟨H', acc, c, hg', t5, allBare_setGen Kk.bare rfl, t1.trans (Un.kept hk), hok.kept hk, t3, hk _ _ t4, ?_⟩)
      rw [eT]
      exact hv
  | cons w1 r ih =>
    intro s acc c pre gs eT hga hos hun hS hv hb hgs hgo
    have hgl : g < s.gens.size := (Array.getElem?_eq_some_iff.mp hgs).1
    refine codeAny_builtin PySem.F.entry_extend_loop ?_
    rw [Around.under_plainId PySem.F.plain_extend_loop _]
    show wpAny (model P w) A.in1 (pyNext (.ref a) >>= _) _ _ s
    refine wpAny_bind (wpAny_gsz (n := g + 1) hgl (next_genG (A := A.in1) hh (lim hun) hd (hgen _ hga) hgs hgo (fun v s₁ gs' hb1 hY hsz => ?_) (fun s₁ hF h' hk hsz => ?_) fun e s₁ hE => False.elim hE))
    · obtain ⟨w0, H', hw0, rv, Kk, kap⟩ := hY
      obtain ⟨t1, t2, t3, t4, t5⟩ := turn (w1 :: r) s acc c pre gs eT hga hos hun hS hv s₁ H' Kk
      have eT0 : G0.T = T := by rw [eF]
      rw [eT0] at hw0
      have q1 := (rem_at (T := T) (ws' := r) (w := w1) ⟨pre, eT⟩).1
      have ew : w0 = w1 := by
        have z : (w1 :: r).length - 1 + 1 = r.length + 1 := by simp
        rw [z, q1] at hw0
        exact (Option.some.inj hw0).symm
      subst ew
      have hn : pre.length = acc.size := by
        have q := hv.length
        rw [List.length_map] at q
        rw [q]
        simp
      have hTl := congrArg List.length eT
      rw [List.length_append, List.length_cons] at hTl
      have hza : acc.size + 1 ≤ sizeLine := Nat.le_trans (by omega : acc.size + 1 ≤ 100000) (by decide)
      show wpAny (model P w) A.in1 (updateSeq S (·.push v) >>= _) _ _ _
      refine wpAny_bind (wpAny_updateSeq t4 rfl (wpAny_pure ⟨plainId_quiet PySem.F.plain_extend_loop _, ?_⟩) (by show acc.size ≤ _; omega) (by show (acc.push v).size ≤ sizeLine + 1; rw [Array.size_push]; omega))
      have hS2 : (s₁.heap.update S (Obj.mapSeq (·.push v))).get? S = some (lstObj (acc.push v) _) := Heap.get?_update_self _ t4 rfl
      have kS : ∀ b o, b ≠ S → s₁.heap.get? b = some o → (s₁.heap.update S (Obj.mapSeq (·.push v))).get? b = some o := fun b o n e => (Heap.get?_update_other s₁.heap _ fun z => n z.symm).trans e
      have hun2 : Un (frs outer) [] H1 H1 sc.heap (s₁.heap.update S (Obj.mapSeq (·.push v))) := un_weak t1 (nS rfl)
      refine ih { s₁.setGen g gs' with heap := s₁.heap.update S (Obj.mapSeq (·.push v)) } (acc.push v) _ (pre ++ [w0]) gs' (by rw [eT]; simp) (kS a _ (fun z => hSa z.symm) t2) t5 hun2 hS2 ?_ (allBare_setGen Kk.bare hb1) (setGen_at (lt1 hsz)) ?_
      · rw [List.map_append, Array.toList_push]
        exact hv.append (.cons rv .nil)
      · have sl := kap (Shared.setGen { s₁.setGen g gs' with heap := s₁.heap.update S (Obj.mapSeq (·.push v)) } g .running)
        subst eF
        refine sl ⟨rfl, allBare_setGen (allBare_setGen (s := s₁) Kk.bare hb1) rfl, fun b o hb e => kS b o hb e, fun b o e => ?_, fun b hb => ?_, fn hun2, fun i hi _ => ?_, ?_⟩
        · by_cases z : b = S
          · rw [z]; exact ⟨_, hS2⟩
          · exact ⟨o, kS b o z e⟩
        · rw [List.mem_singleton.mp hb]
          exact ⟨_, hS2, fun v q => by cases q⟩
        · have hi' : g < i := hi
          rw [setGen_other (Nat.ne_of_lt hi')]
          exact setGen_other (s := s₁) (Nat.ne_of_lt hi')
        · show g < (Shared.setGen _ g .running).gens.size
          rw [setGen_size]
          exact hsz
    · obtain ⟨h0, _⟩ := hF
      exact absurd h0 (by simp)
/-- list(g) of one that has not begun -/
theorem call_listZ {s : Shared} {A : Around} {k : Nat} {u : Value} {Q' : Value → Shared → Prop} {E : Value → Shared → Prop} (hr : Room (k + 3) A) (hfr : A.frames = some outer) (e0 : Env0 P w K mg base A outer sc H1) (hbf : ∀ b o, base.get? b = some o → b ∉ frs outer) (hT : T.length ≤ 100000)
    (h : Made P w K mg base k outer H1 sc Gd T u s) (hQ : ∀ S s', sc.heap.objs.size ≤ S → Drained P w outer H1 sc Gd T S s' → Q' (.ref S) s') : wpAny (model P w) A (call (.type "list") [u]) Q' E s := by
  obtain ⟨N, qual, scope, fa, cd, a, g, go, c, rfl, ha1, ha2, hgo, hgoc, hgen, hg1, hfresh, hos, hbare, hl, hkp, hsm, wake⟩ := h
  have hg := hgen _ hgo
  have hSa : s.heap.objs.size ≠ a := Nat.ne_of_gt ha2
  have hss : sc.heap.objs.size ≤ s.heap.objs.size := Nat.le_trans ha1 (Nat.le_of_lt ha2)
  have hgl : g < s.gens.size := (Array.getElem?_eq_some_iff.mp hfresh).1
  generalize eS : s.heap.objs.size = S at *
  refine callType_codes (Q₁ := fun obj s₁ => obj = .ref S ∧ s₁ = { s with heap := s.heap.push { cls := .type "list", data := .seq #[] } }) PySem.F.called_list (PySem.F.typeCall_list_1 _) PySem.F.entry_list_init (code_list_new _ ⟨by rw [eS], rfl⟩) fun obj s₁ h₁ => ?_
  obtain ⟨rfl, rfl⟩ := h₁
  have hS : (s.heap.push { cls := .type "list", data := .seq #[] }).get? S = some { cls := .type "list", data := .seq #[] } := by rw [← eS]; exact Heap.get?_push_size _ rfl
  refine ⟨⟨_, hS, rfl⟩, PySem.F.args_list_init_2 _ _, ?_⟩
  show wpAny (model P w) A.in1.in1 (do let old ← Builtin.List.listItems (.ref S); Builtin.List.listUpdate (.ref S) (fun _ => #[]); letGo old.toList.reverse; Builtin.List.listExtendWith (.ref S) (.ref a) .none) _ _ _
  unfold Builtin.List.listItems Builtin.List.listExtendWith Builtin.List.listLengthHint
  refine wpAny_bind (wpAny_bind (wpAny_seqItems hS rfl (wpAny_pure ?_)))
  show wpAny (model P w) A.in1.in1 (updateSeq S (fun _ => #[]) >>= fun _ => letGo (#[] : Array Value).toList.reverse >>= fun _ => _) _ _ _
  refine wpAny_bind (wpAny_updateSeq hS rfl (wpAny_bind (wpAny_letGo ?_)))
  have hS2 := Heap.get?_update_self (Obj.mapSeq (fun _ => (#[] : Array Value))) hS rfl
  have up : ∀ (h : Heap) (f : Obj → Obj), (∀ b o, s.heap.get? b = some o → h.get? b = some o) → ∀ b o, s.heap.get? b = some o → (h.update S f).get? b = some o := fun h f q b o e =>
    (Heap.get?_update_other h _ fun z => Nat.lt_irrefl _ (Nat.lt_of_lt_of_le (Heap.lt_size e) (by rw [eS, z]; exact Nat.le_refl _))).trans (q b o e)
  have kpush : ∀ b o, s.heap.get? b = some o → (s.heap.push { cls := .type "list", data := .seq #[] }).get? b = some o := fun b o e => Heap.get?_push_of_some _ e
  have k2 := up _ (Obj.mapSeq (fun _ => (#[] : Array Value))) kpush
  have gk : ∀ {h : Heap}, (∀ b o, s.heap.get? b = some o → h.get? b = some o) → ∀ {g' : Array GenState} {t' : Nat}, ({ s with heap := h, gens := g', toks := t' } : Shared).TypeIs (.ref a) "generator" := fun {h} q g' t' => Heap.IsGen.typeIs (s := { s with heap := h, gens := g', toks := t' }) (hg.keeps q)
  refine wpAny_bind (wpAny_typeOf (gk k2) ?_)
  have z1 : Builtin.List.listSameRef (.ref S) (.ref a) = false := by simp [Builtin.List.listSameRef, hSa]
  have z2 : (Value.type "generator" == Value.type "list") = false := by decide
  have z3 : (Value.type "generator" == Value.type "tuple") = false := by decide
  simp only [z1, z2, z3, Bool.or_false, Bool.false_eq_true, if_false]
  refine wpAny_bind (wpAny_pyIter_gen (s := { s with heap := _ }) (hg.keeps k2) (wpAny_bind (wpAny_holding ?_)))
  refine wpAny_bind (wpAny_specialOf (gk k2) PySem.F.gen_no_len ?_)
  show wpAny (model P w) A.in1.in1 (specialOf (Value.ref a) (Str.ofString "__length_hint__") >>= _) _ _ _
  refine wpAny_bind (wpAny_specialOf (gk k2) PySem.F.gen_no_hint (wpAny_pure ?_))
  show wpAny (model P w) A.in1.in1 (rule "list.extend.makes-room" >>= fun _ => Builtin.List.listTouch (.ref S) >>= fun _ => again (.builtin "list.extend.loop" ⟨[.ref S, .ref a, .none], []⟩)) _ _ _
  refine wpAny_bind (wpAny_rule (wpAny_bind ?_))
  show wpAny (model P w) A.in1.in1 (updateSeq S (·.push .none) >>= fun _ => updateSeq S (·.pop)) _ _ _
  refine wpAny_bind (wpAny_updateSeq hS2 rfl ?_)
  have hS3 := Heap.get?_update_self (Obj.mapSeq (·.push Value.none)) hS2 rfl
  refine wpAny_updateSeq (hz := by seq_fits) hS3 rfl (wpAny_pure ⟨plainId_quiet PySem.F.plain_extend_loop _, ?_⟩)
  have hS4 := Heap.get?_update_self (Obj.mapSeq (·.pop)) hS3 rfl
  have k4 := up _ (Obj.mapSeq (·.pop)) (up _ (Obj.mapSeq (·.push Value.none)) k2)
  have kc : ∀ b o, sc.heap.get? b = some o → _ := fun b o e => k4 b o (hkp b o e)
  refine drainZ (P := P) (w := w) (K := K) (mg := mg) (base := base) (outer := outer) (H1 := H1) (sc := sc) (Gd := Gd) (T := T) (A := A.in1) (N := N) (qual := qual) (scope := scope) (fa := fa) (cd := cd) (a := a) (g := g) (go := go) hr.hd (by have q := hr.dp; show A.depth < _; omega) hgen hss hSa ha1 hT
    ⟨e0.frames, e0.mod, e0.bs, e0.bsz, e0.funs, e0.frf, e0.hok, e0.bare⟩ hbf (fun s' D => ⟨rfl, hQ S s' hss D⟩) _ rfl T _ #[] _ [] _ rfl (k4 a go hgo) hos (un_weak (Un.kept (fs := frs outer) (H := H1) (fun _ _ e => e)) fun b o0 o e e1 => kc b o e1) hS4 .nil hbare hfresh ⟨rfl, ?_⟩
  refine wake _ _ _ _ ⟨hr.hd, ?_, ?_⟩ hfr ⟨k4, hos, allBare_setGen hbare rfl, by rw [setGen_size]; exact hgl, fun b hb => ?_, fun b hb => ?_⟩
  · have q := hr.dp
    show A.depth + 3 * k + 5 < _
    omega
  · have q := hr.un
    show A.units + 1 + 1 + 1 + 16 * k + 200 < _
    omega
  · have hb' : b = S := hb
    subst hb'
    exact ⟨.inr (List.mem_singleton.mpr rfl), e0.hok.fresh hss, Heap.get?_none_of_le (Nat.le_trans e0.bsz hss)⟩
  · rw [List.mem_singleton.mp hb]
    exact ⟨by rw [eS]; exact Nat.le_refl _, _, hS4, fun v q => by cases q⟩
end
section
variable {X : Cx} {k : Nat} {p pos : Pos}
def tListZ (tg : TZ) : TE := fun σ H Q => tg σ H fun Gd T H1 => T.length ≤ 100000 ∧ ∀ H' p, Gd H' → H' p = none → Q (.ref p) (upd H' p (.lst (T.map fun x => V.str (tx x))))
theorem pe_listZ {e : Expr} {tg : TZ} (h : PGz X k e tg) (hr : Room (k + 3) X.A) (hg : Gl X "list") (hmg : X.mg "list" = none) (he : starEach [e] X.env = (false, eval e X.env) :: starEach [] X.env := by rfl) : PE X (.Call (.Name "list" p) [e] [] pos) (tListZ tg) := by
  refine ⟨fun pins s σ H Q I hq => wpAny_Call_Name_kw (ld_blt I hg hmg (by rfl) (PyProof.Rows.callWith_type1 ?_ he rfl) (by decide) (by decide))⟩
  rw [he]
  show wpAny (model X.prog X.w) X.A (spliced ((false, eval e X.env) :: backTo pos (starEach [] X.env))) _ _ s
  refine Calls.spliced_cons (thn (h.run pins s σ H _ I hq) fun u s1 ⟨H1, sc, Gd, T, I1, _, M, hT, hc⟩ => Calls.spliced_nil ?_)
  refine call_listZ (k := k) hr I1.ok.frames I1.env0 (fun b o eb hm => ?_) hT M fun S s' hS D => ?_
  · rcases List.mem_cons.mp (I1.stkSub b hm) with z | z
    · rw [z] at eb
      exact Nat.lt_irrefl _ (Nat.lt_of_lt_of_le (Heap.lt_size eb) (Nat.le_trans I1.ok.bsz I1.ok.above))
    · exact I1.ok.nofr eb z
  · obtain ⟨H', acc, c, hgd, os, hb, un, hok, hn, hS4, hv⟩ := D.ex
    exact ⟨.ref S, _, I1.drained hS (by rw [List.length_map]; exact Nat.le_trans hT (by decide)) hS4 hv ExOk.nil os hb un hok hn, rfl, hc H' S hgd hn⟩
end
end Zb
end
section
set_option Elab.async false
set_option linter.all false
set_option maxRecDepth 100000
set_option maxHeartbeats 1000000
/-! Zg9: generator methods called. -/
namespace Zb
open PySem PySem.Spec PyProof.Rows L2 GenW
structure CalGM (P : Program) (w : World) (K : PySem.W.Frag) (mg : Str → Option Value) (base : Heap) (k : Nat) (C : Addr) (m : Str) (sp : SpZ) : Prop where
  ex : ∃ f fd ps, GFz P w K mg base k f fd ps sp ∧ Meth K C m f ∧ Binds K fd ps []
def tMethZ (C : Addr) (m : Str) (sp : SpZ) (ta : TE) (t : TA) : TZ := fun σ H cont => ta σ H fun x H1 => ∃ a dx fs, x = .ref a ∧ H1 a = some (.ins C dx fs) ∧ fs.lookup m = none ∧ t σ H1 fun ws H2 => ∃ Gd T, sp (x :: ws) H2 Gd T ∧ cont Gd T H2
section
variable {X : Cx} {k : Nat} {sp : SpZ} {m : Str} {C : Addr} {p pos apos : Pos} {o e : Expr} {es : List Expr} {ta : TE} {t : TA}
theorem pgz_meth {j : Nat} {pl : Sem Bool} (c : CalGM X.prog X.w X.K X.mg X.base k C m sp) (hc : Cls X.K C) (hr : Room j X.A) (hk : k ≤ j) (he : PE X o ta) (ha : PA X (e :: es) t)
    (hst : starEach (e :: es) X.env = (false, eval e X.env) :: starEach es X.env := by rfl) (hpl : (backTo pos (starEach es X.env)).any (·.1) = false := by rfl)
    (ht : eval (.Call (.Attribute o m apos) (e :: es) [] pos) X.env = (do
      let ov ← eval o X.env
      standAt apos.atName
      let (f, first) ← holding [ov] (getMethod ov m pl)
      callWith pos f first (backTo pos (starEach (e :: es) X.env)) (backToKw pos (keywordEach [] X.env))) := by rfl) :
    PGz X k (.Call (.Attribute o m apos) (e :: es) [] pos) (tMethZ C m sp ta t) := by
  obtain ⟨f, fd, ps, F, hm, b⟩ := c.ex
  refine ⟨fun pins s σ H cont I h => ?_⟩
  refine PySem.W.methodCall_KW (pl := pl) (wpAny_gsz (n := s.gens.size) (Nat.le_refl _) (wpAny_mono (he.run pins s σ H _ I h) (fun u s1 hq hz1 => ?_) fun _ _ q _ => q)) ht
  obtain ⟨x, H1, I1, rx, a, dx, fs, ex, ea, l, q⟩ := hq
  subst ex
  obtain rfl : u = Value.ref a := rx
  refine getmeth_ok I1 ea hc hm l ?_
  refine PySem.W.callWith_K (first := [.ref a]) (h₀ := X.base) I.ok.mod.kin hm.kp (wpAny_gsz (n := s.gens.size) hz1 (wpAny_mono (ha.run pos pins s1 σ H1 _ I1 q) (fun us s2 hq hz2 => ?_) fun _ _ q _ => q)) hst hpl
  obtain ⟨ws, H2, I2, r, Gd, T, hs, hc2⟩ := hq
  refine ⟨I2.kIn, ?_⟩
  exact run_gfz (us := .ref a :: us) (vs := .ref a :: ws) F (hr.mono hk) b I2 (.cons rfl r) hs fun u s' M => ⟨H2, s2, Gd, T, I2, hz2, M, hc2⟩
end
end Zb
end
section
set_option Elab.async false
set_option linter.all false
set_option maxRecDepth 100000
/-! Zl1: the list of the draws, which whoever draws changes; _law_lots, _law_lot. -/
namespace Zb
open PySem PySem.Spec PyProof.Rows L2 SlX

abbrev Lt3 : Type := Nat × Nat × Nat
def lotO (t : Lt3) : HO := .lst [.int (t.1 : Int), .int (t.2.1 : Int), .int (t.2.2 : Int)]
structure DjL (l : Addr) (B M : Hp) : Prop where
  d : Dj B M
  b : B l = none
  m : M l = none
theorem DjL.dj {l : Addr} {B M : Hp} (h : DjL l B M) (t : Lt3) : Dj B (upd M l (lotO t)) := dj_m h.d h.b
theorem DjL.of {l : Addr} {B M : Hp} {t : Lt3} (hm : M l = none) (d : Dj B (upd M l (lotO t))) : DjL l B M := ⟨dj_sub hm d, dj_none d upd_same, hm⟩
theorem upd_swap {H : Hp} {p l : Addr} {o u : HO} (h : p ≠ l) : upd (upd H l o) p u = upd (upd H p u) l o := by
  funext a
  unfold upd
  by_cases h1 : a = p
  · subst h1
    rw [if_pos rfl, if_neg h, if_pos rfl]
  · rw [if_neg h1]
    by_cases h2 : a = l
    · rw [if_pos h2, if_pos h2]
    · rw [if_neg h2, if_neg h2, if_neg h1]
/-- some natural number -/
abbrev rAN : Up := rEx (fun _ : Nat => True) rNat
abbrev rAI : Up := rEx (fun _ : Int => True) rInt
/-- what evaluates to what, while the draws may change -/
def EvL (l : Addr) (te : TE) (σ : L2.St) (M B : Hp) (U : Up) : Prop := ∀ M1 B1 t, Same M M1 → Same B B1 → DjL l B1 M1 → ∀ Q : VK, (∀ v t' B2, Same B1 B2 → DjL l B2 M1 → U.p v B2 → Q v (jn B2 (upd M1 l (lotO t')))) → te σ (jn B1 (upd M1 l (lotO t))) Q
/-- .. a test whose outcome is left open -/
def EvTL (l : Addr) (tt : TT) (σ : L2.St) (M B : Hp) : Prop := ∀ M1 B1 t, Same M M1 → Same B B1 → DjL l B1 M1 → ∀ Q : Bool → Hp → Prop, (∀ b t' B2, Same B1 B2 → DjL l B2 M1 → Q b (jn B2 (upd M1 l (lotO t')))) → tt σ (jn B1 (upd M1 l (lotO t))) Q
/-- a promise of a def that draws -/
def spL.{u} {α : Type u} (A : α → List Up) (ok : α → Prop) (R : α → Up) : Sp := fun vs H Q _ => ∃ (x : α) (B M : Hp) (l : Addr) (t : Lt3) (ws : List V), H = jn B (upd M l (lotO t)) ∧ DjL l B M ∧ ok x ∧ vs = .ref l :: ws ∧ Al id (A x) ws B ∧
  ∀ v t' B', Same B B' → DjL l B' M → (R x).p v B' → Q v (jn B' (upd M l (lotO t')))
theorem spL_len.{u} {α : Type u} {A : α → List Up} {ok : α → Prop} {R : α → Up} {n : Nat} (h : ∀ x, (A x).length = n) : ∀ vs H Q E, spL A ok R vs H Q E → vs.length = n + 1 := fun vs H Q E ⟨x, _, _, _, _, ws, _, _, _, e, al, _⟩ => by rw [e, List.length_cons, ← al.length, h]
section
variable {l : Addr} {σ : L2.St} {M M' B B' : Hp} {te ta tb : TE} {U Ua Ub W : Up} {D : Ends} {tu tw tz : TS} {tc : TT} {t : Lt3}
theorem el_of (h : Ev te σ M B U) : EvL l te σ M B U := fun M1 B1 t m b d Q q => h (upd M1 l (lotO t)) B1 (m.trans (same_new d.m)) b (d.dj t) Q fun v B2 b2 d2 hv => q v t B2 b2 (DjL.of d.m d2) hv
theorem EvL.to (h : EvL l te σ M B U) (k : ∀ v B2, Same B B2 → U.p v B2 → W.p v B2) : EvL l te σ M B W := fun M1 B1 t m b d Q q => h M1 B1 t m b d Q fun v t' B2 b2 d2 hv => q v t' B2 b2 d2 (k v B2 (b.trans b2) hv)
theorem EvL.mono (m : Same M M') (b : Same B B') (h : EvL l te σ M B U) : EvL l te σ M' B' U := fun M1 B1 t m1 b1 d Q q => h M1 B1 t (m.trans m1) (b.trans b1) d Q q
theorem el_op {r : R2} (ha : EvL l ta σ M B Ua) (hb : EvL l tb σ M B Ub) (hr : ∀ x y M1 B1, Same M M1 → Same B B1 → Dj B1 M1 → Ua.p x B1 → Ub.p y B1 → ∀ Q : VK, (∀ v B2, Same B1 B2 → Dj B2 M1 → U.p v B2 → Q v (jn B2 M1)) → r x y (jn B1 M1) Q) : EvL l (tOp r ta tb) σ M B U := fun M1 B1 t m b d Q q =>
  ha M1 B1 t m b d _ fun x t2 B2 b2 d2 hx => hb M1 B2 t2 m (b.trans b2) d2 _ fun y t3 B3 b3 d3 hy => hr x y (upd M1 l (lotO t3)) B3 (m.trans (same_new d.m)) (b.trans (b2.trans b3)) (d3.dj t3) (Ua.up b3 hx) hy Q fun v B4 b4 d4 hv => q v t3 B4 (b2.trans (b3.trans b4)) (DjL.of d.m d4) hv
theorem el_call.{u} {α : Type u} {A : α → List Up} {ok : α → Prop} {R : α → Up} {E : XK} {ta : TA} {i : Nat} (x : α) (hσ : σ[i]? = some (some (.ref l))) (h : EvA ta σ M B (A x)) (o : ok x) : EvL l (tCall (spL A ok R) [] E (tCons (tVar i) ta)) σ M B (R x) := fun M1 B1 t m b d Q q =>
  ⟨_, hσ, h (upd M1 l (lotO t)) B1 (m.trans (same_new d.m)) b (d.dj t) _ fun vs B2 b2 d2 al => ⟨x, B2, M1, l, t, vs, rfl, DjL.of d.m d2, o, by rw [List.append_nil], al, fun v t' B3 b3 d3 hv => q v t' B3 (b2.trans b3) d3 hv⟩⟩
theorem etl_test {P : Bool → Prop} (h : EvL l te σ M B (rEx P rBl)) : EvTL l (tTest te) σ M B := fun M1 B1 t m b d Q q => h M1 B1 t m b d _ fun v t' B2 b2 d2 ⟨k, _, hv⟩ => ⟨k, hv, q k t' B2 b2 d2⟩
theorem lq_asg {i : Nat} (h : EvL l te σ M B U) (d : DjL l B M) (k : ∀ v t' B', Same B B' → DjL l B' M → U.p v B' → tz D (σ.set i (some v)) (jn B' (upd M l (lotO t')))) : tSeq (tAsg te (gName i)) tz D σ (jn B (upd M l (lotO t))) := h M B t (Same.refl _) (Same.refl _) d _ k
theorem l_ret (h : EvL l te σ M B U) (d : DjL l B M) (k : ∀ v t' B', Same B B' → DjL l B' M → U.p v B' → D.rt v (jn B' (upd M l (lotO t')))) : tRet te D σ (jn B (upd M l (lotO t))) := h M B t (Same.refl _) (Same.refl _) d _ k
theorem s_retN {W : List V → Hp → Prop} (h : EvN te σ M B W) (d : Dj B M) (k : ∀ p vs B', Same B B' → Dj B' M → M p = none → B' p = none → W vs B' → D.rt (.ref p) (jn B' (upd M p (.lst vs)))) : tRet te D σ (jn B M) := h M B (Same.refl _) (Same.refl _) d _ fun p vs B' b d' hm hb w => k p vs B' b d' hm hb w
theorem lq_if (h : EvTL l tc σ M B) (d : DjL l B M) (h1 : ∀ t' B', Same B B' → DjL l B' M → tu { D with nx := tz D } σ (jn B' (upd M l (lotO t')))) (h2 : ∀ t' B', Same B B' → DjL l B' M → tw { D with nx := tz D } σ (jn B' (upd M l (lotO t')))) : tSeq (tIfS tc tu tw) tz D σ (jn B (upd M l (lotO t))) :=
  h M B t (Same.refl _) (Same.refl _) d _ fun b t' B' s d' => by
    cases b with
    | true => exact iteT (h1 t' B' s d')
    | false => exact iteF (h2 t' B' s d')
theorem l_if (h : EvTL l tc σ M B) (d : DjL l B M) (h1 : ∀ t' B', Same B B' → DjL l B' M → tu D σ (jn B' (upd M l (lotO t')))) (h2 : ∀ t' B', Same B B' → DjL l B' M → tw D σ (jn B' (upd M l (lotO t')))) : tIfS tc tu tw D σ (jn B (upd M l (lotO t))) :=
  h M B t (Same.refl _) (Same.refl _) d _ fun b t' B' s d' => by
    cases b with
    | true => exact iteT (h1 t' B' s d')
    | false => exact iteF (h2 t' B' s d')
/-- xs.append(e), e with draws -/
theorem l_app {K : PySem.W.Frag} {p : Addr} {xs : List V} {i : Nat} (hσ : σ[i]? = some (some (.ref p))) (hl : M p = some (.lst xs)) (h : EvL l te σ M B U) (d : DjL l B M) (hz : xs.length < 100000)
    (k : ∀ v t' B', Same B B' → DjL l B' (upd M p (.lst (xs ++ [v]))) → U.p v B' → D.nx σ (jn B' (upd (upd M p (.lst (xs ++ [v]))) l (lotO t')))) : tDrop (tBM K "list" rAppend (tVar i) (tCons te tNil)) D σ (jn B (upd M l (lotO t))) := by
  have ne : p ≠ l := fun e => by rw [e, d.m] at hl; cases hl
  have at_ : ∀ t' : Lt3, upd M l (lotO t') p = some (.lst xs) := fun t' => by rw [upd_ne ne]; exact hl
  refine ⟨_, hσ, .inl ⟨rfl, xs, SqL.of (jn_m (at_ t))⟩, h M B t (Same.refl _) (Same.refl _) d _ fun v t' B' b d' hv => ⟨p, xs, v, rfl, rfl, jn_m (at_ t'), Nat.lt_of_lt_of_le hz (by decide), ?_⟩⟩
  rw [jn_updM, upd_swap ne]
  exact k v t' B' b ⟨dj_m d'.d (dj_none d'.d hl), d'.b, by rw [upd_ne (Ne.symm ne)]; exact d'.m⟩ hv
/-- d[k] = e, e with draws -/
theorem l_dput {p : Addr} {kvs : List (Key × V)} {i : Nat} {k : Key} {tk : TE} (hσ : σ[i]? = some (some (.ref p))) (hl : M p = some (.dK kvs)) (h : EvL l te σ M B U) (hk : Ev tk σ M B (isV (kV k))) (d : DjL l B M) (hz : kvs.length < 100000)
    (kk : ∀ v t' B', Same B B' → DjL l B' (upd M p (.dK (putK kvs k v))) → U.p v B' → D.nx σ (jn B' (upd (upd M p (.dK (putK kvs k v))) l (lotO t')))) : sDPut (tVar i) tk te D σ (jn B (upd M l (lotO t))) := by
  have ne : p ≠ l := fun e => by rw [e, d.m] at hl; cases hl
  refine h M B t (Same.refl _) (Same.refl _) d _ fun v t' B' b d' hv => ⟨_, hσ, hk (upd M l (lotO t')) B' (same_new d.m) b (d'.dj t') _ fun y B2 b2 d2 hy => ?_⟩
  have at_ : upd M l (lotO t') p = some (.dK kvs) := by rw [upd_ne ne]; exact hl
  refine ⟨p, upd (jn B2 (upd M l (lotO t'))) p (.dK (putK kvs k v)), rfl, by rw [show y = kV k from hy]; exact DPut.k (jn_m at_) (Nat.lt_of_lt_of_le hz (by decide)), ?_⟩
  rw [jn_updM, upd_swap ne]
  have d3 : DjL l B2 M := DjL.of d.m d2
  exact kk v t' B2 (b.trans b2) ⟨dj_m d3.d (dj_none d3.d hl), d3.b, by rw [upd_ne (Ne.symm ne)]; exact d3.m⟩ (U.up b2 hv)
end
/-! ### numbers -/
section
variable {K : PySem.W.Frag} {σ : L2.St} {M B : Hp} {ta tb : TE}
theorem ev_abs {i : Int} (ha : Ev ta σ M B (rInt i)) : Ev (tCB (fun xs H Q => ∃ i, xs = [.int i] ∧ Q (.int (if i < 0 then -i else i)) H) (tCons ta tNil)) σ M B (rInt (if i < 0 then -i else i)) :=
  ev_cb1 ha fun x M1 B1 _ _ _ hx Q q => ⟨i, by rw [show x = _ from hx], q⟩
theorem ev_addN {a b : Nat} (ha : Ev ta σ M B (rNat a)) (hb : Ev tb σ M B (rNat b)) : Ev (tOp (rI0 fun i j => .int (i + j)) ta tb) σ M B (rNat (a + b)) := ev_I0 (g := fun i j => .int (i + j)) ha hb
theorem ev_mulN {a b : Nat} (ha : Ev ta σ M B (rNat a)) (hb : Ev tb σ M B (rNat b)) (h : a < 2 ^ 64) : Ev (tOp (rI CMul fun i j => .int (i * j)) ta tb) σ M B (rNat (a * b)) := (ev_I (C := CMul) (g := fun i j => .int (i * j)) ha hb (.inl ⟨by omega, by omega⟩)).to fun v B2 _ hv => by
  rw [show v = _ from hv]
  show V.int ((a : Int) * (b : Int)) = V.int ((a * b : Nat) : Int)
  rw [Int.natCast_mul]
theorem ev_modN {a b : Nat} (ha : Ev ta σ M B (rNat a)) (hb : Ev tb σ M B (rNat b)) (h : 0 < b) : Ev (tOp (rI (fun _ j => 0 < j) fun i j => .int (i % j)) ta tb) σ M B (rNat (a % b)) := ev_I (C := fun _ j => 0 < j) (g := fun i j => .int (i % j)) ha hb (by omega)
theorem ev_divN {a b : Nat} (ha : Ev ta σ M B (rNat a)) (hb : Ev tb σ M B (rNat b)) (h : 0 < b) (h2 : b < 1073741824) : Ev (tOp (rI CDiv fun i j => .int (i / j)) ta tb) σ M B (rNat (a / b)) := ev_I (C := CDiv) (g := fun i j => .int (i / j)) ha hb ⟨by omega, by omega⟩
theorem ev_gtI {i j : Int} (ha : Ev ta σ M B (rInt i)) (hb : Ev tb σ M B (rInt j)) : Ev (tOp (rI0 fun i j => .bl (decide (j < i))) ta tb) σ M B (rBl (decide (j < i))) := ev_I0 (g := fun i j => .bl (decide (j < i))) ha hb
theorem ev_ltI {i j : Int} (ha : Ev ta σ M B (rInt i)) (hb : Ev tb σ M B (rInt j)) : Ev (tOp (rI0 fun i j => .bl (decide (i < j))) ta tb) σ M B (rBl (decide (i < j))) := ev_I0 (g := fun i j => .bl (decide (i < j))) ha hb
/-- the place i of the draws -/
theorem ev_lotAt {l : Addr} {t : Lt3} {j : Nat} {n : Nat} {k : Nat} (hσ : σ[j]? = some (some (.ref l))) (hM : M l = some (lotO t)) (hb : Ev tb σ M B (rNat k)) (e : ([t.1, t.2.1, t.2.2] : List Nat)[k]? = some n) : Ev (tOp (rIxL K) (tVar j) tb) σ M B (rNat n) := fun M1 B1 m b d Q q =>
  ⟨_, hσ, hb M1 B1 m b d _ fun y B2 b2 d2 hy => ⟨l, [t.1, t.2.1, t.2.2].map fun i : Nat => V.int (i : Int), (k : Int), V.int (n : Int), rfl, hy, SqL.of (jn_m (m _ _ hM)), atI_nat (by rw [List.getElem?_map, e]; rfl), q _ B2 b2 d2 rfl⟩⟩
end
section
variable {σ : L2.St} {M B : Hp} {ta tb te : TE} {D : Ends} {tz : TS} {U : Up}
/-- the draws' place k is stored -/
theorem q_lotSet {l : Addr} {t : Lt3} {j k n : Nat} (hσ : σ[j]? = some (some (.ref l))) (h : Ev te σ (upd M l (lotO t)) B (rNat n)) (hb : Ev tb σ (upd M l (lotO t)) B (rNat k)) (d : DjL l B M) (hk : k < 3)
    (kk : ∀ B' t', Same B B' → DjL l B' M → (t' = if k = 0 then (n, t.2.1, t.2.2) else if k = 1 then (t.1, n, t.2.2) else (t.1, t.2.1, n)) → tz D σ (jn B' (upd M l (lotO t')))) : tSeq (tAsg te (gSub (tVar j) tb L2.rSetL)) tz D σ (jn B (upd M l (lotO t))) :=
  h _ B (Same.refl _) (Same.refl _) (d.dj t) _ fun v B1 b1 d1 hv => ⟨_, hσ, hb _ B1 (Same.refl _) b1 d1 _ fun y B2 b2 d2 hy => by
    have hi : ixN ([V.int (t.1 : Int), V.int (t.2.1 : Int), V.int (t.2.2 : Int)] : List V).length (k : Int) = some k := by
      show ixN 3 (k : Int) = some k
      unfold ixN
      rw [if_pos (by omega), if_pos (by omega)]
      congr 1
    refine ⟨l, _, (k : Int), k, rfl, hy, jn_m upd_same, hi, ?_⟩
    cases (show v = _ from hv)
    rw [jn_updM, upd_upd]
    have kx := kk B2 (if k = 0 then (n, t.2.1, t.2.2) else if k = 1 then (t.1, n, t.2.2) else (t.1, t.2.1, n)) (b1.trans b2) (DjL.of d.m d2) rfl
    have ke : HO.lst (([V.int (t.1 : Int), V.int (t.2.1 : Int), V.int (t.2.2 : Int)] : List V).set k (V.int (n : Int))) = lotO (if k = 0 then (n, t.2.1, t.2.2) else if k = 1 then (t.1, n, t.2.2) else (t.1, t.2.1, n)) := by
      match k, hk with
      | 0, _ => rfl
      | 1, _ => rfl
      | 2, _ => rfl
    rw [ke]
    exact kx⟩
end
/-- the script: ints in a list that nobody changes, frozen or not -/
def rSc (K : PySem.W.Frag) (xs : List Int) : Up := ⟨fun v B => ∃ a, v = .ref a ∧ SqL K B a (xs.map V.int), fun s ⟨a, e, h⟩ => ⟨a, e, by
  rcases h with (h | ⟨o, h⟩) | h
  · exact .inl (.inl (s _ _ h))
  · exact .inl (.inr ⟨o, s _ _ h⟩)
  · exact .inr h⟩⟩
theorem sc_jn {K : PySem.W.Frag} {B M : Hp} {a : Addr} {xs : List V} (d : Dj B M) (h : SqL K B a xs) : SqL K (jn B M) a xs := by
  rcases h with (h | ⟨o, h⟩) | h
  · exact .inl (.inl (jn_b d h))
  · exact .inl (.inr ⟨o, jn_b d h⟩)
  · exact .inr h
section
variable {K : PySem.W.Frag} {σ : L2.St} {M B : Hp} {ta tb : TE}
theorem ev_lenSc {xs : List Int} (ha : Ev ta σ M B (rSc K xs)) : Ev (tCB (rLenS K) (tCons ta tNil)) σ M B (rNat xs.length) :=
  ev_cb1 ha fun x M1 B1 _ _ d ⟨a, e, h⟩ Q q => ⟨a, xs.map V.int, by rw [e], .inl (sc_jn d h), by rw [List.length_map]; exact q⟩
theorem ev_ixSc {xs : List Int} {i : Nat} {x : Int} (ha : Ev ta σ M B (rSc K xs)) (hb : Ev tb σ M B (rNat i)) (e : xs[i]? = some x) : Ev (tOp (rIxL K) ta tb) σ M B (rInt x) :=
  ev_op ha hb fun v y M1 B1 _ _ d ⟨a, ev, h⟩ hy Q q => ⟨a, _, i, _, ev, hy, sc_jn d h, atI_nat (by rw [List.getElem?_map, e]; rfl), q _ B1 (Same.refl _) d rfl⟩
end
abbrev s__law_lots : Stmt := top 64
theorem sc__law_lots : FnScope ["_law_script", "_law_at", "_law_cell", "_law_great", "_law_seed"] ["_law_script", "_law_at"] (defScope s__law_lots) := ⟨rfl, rfl, rfl, by decide +kernel, rfl, by decide +kernel, by decide +kernel⟩
def sp_lots (K : PySem.W.Frag) : Sp := fun vs H Q _ => ∃ (xs : List Int) (i : Nat) (B M : Hp), H = jn B M ∧ Dj B M ∧ (xs.length ≤ 1000 ∧ i ≤ 100) ∧ Al id [rSc K xs, rNat i] vs B ∧ ∀ p t B', Same B B' → DjL p B' M → Q (.ref p) (jn B' (upd M p (lotO t)))
abbrev s__law_lot : Stmt := top 65
theorem sc__law_lot : FnScope ["_law_lots_here", "_law_total", "_law_found", "_law_mixed"] ["_law_lots_here", "_law_total"] (defScope s__law_lot) := ⟨rfl, rfl, rfl, by decide +kernel, rfl, by decide +kernel, by decide +kernel⟩
def sp_lot : Sp := spL (α := Nat) (fun n => [rNat n]) (fun n => 0 < n ∧ n ≤ 100000) (fun n => rEx (· < n) rNat)
section
variable {P : Program} {w : World} {K : PySem.W.Frag} {mg : Str → Option Value} {base : Heap}
theorem c_lots (D : Def K mg "_law_lots" s__law_lots) (T : Bt mg) : Cal P w K mg base 1 "_law_lots" (sp_lots K) :=
  cal_of D sc__law_lots (fun _ _ _ _ _ _ us hl => match us, hl with | [_, _], _ => rfl) (fun vs H Q E ⟨_, _, _, _, _, _, _, al, _⟩ => by rw [← al.length]; rfl) fun f cdv A outer s H vs Q E hr h => by
  obtain ⟨xs, i, B, M, rfl, d, ⟨hx, hi⟩, al, q⟩ := h
  have sc := sc__law_lots
  refine ⟨_, (pss_cons (ps_set (i := 2) sc.nd rfl (.inl rfl) (pe_ifExp (pt_cmpR op_lt (pv 1) (pe_callB (kc_len K rfl) (by rfl) T.len (by decide +kernel) (pa_cons (pv 0) pa_nil)) (nomark _)) (pe_ix (kix_list K rfl) (pv 0) (pv 1) (fun _ _ => rfl)) (pe_op op_add (pe_op op_mul pe_int (pv 1)) pe_int)))
      (pss_cons (ps_set (i := 3) sc.nd rfl (.inl rfl) (pe_op op_mod (pe_callTy call_int1 (by rfl) T.int (by decide +kernel) (pa_cons (pe_callB call_abs (by rfl) T.abs (by decide +kernel) (pa_cons (pv 2) pa_nil)) pa_nil)) (pe_op op_mulW (pe_op op_pow pe_int pe_int) (pe_op op_pow pe_int pe_int))))
      (pss_cons (ps_set (i := 4) sc.nd rfl (.inl rfl) (pe_op op_mod (pe_callTy call_int1 (by rfl) T.int (by decide +kernel) (pa_cons (pe_op op_add (pe_op op_add (pe_op op_add (pv 3) (pe_op op_mul pe_int (pv 1))) (pe_op op_mul pe_int (pe_callTy call_int1 (by rfl) T.int (by decide +kernel) (pa_cons (pe_cmpR op_lt (pv 2) pe_int (nomark _)) pa_nil)))) pe_int) pa_nil)) (pe_op op_add (pe_op op_pow pe_int pe_int) pe_int)))
      (pss_one (ps_ret (pe_lst (pa_cons (pe_ifExp (pt_cmpR op_gt (pv 3) (pe_op op_pow pe_int pe_int) (nomark _)) (pe_op op_sub (pv 3) (pe_op op_pow pe_int pe_int)) pe_int) (pa_cons (pv 4) (pa_cons pe_int pa_nil))))))))), ?_⟩
  cases al with
  | cons h1 al => cases al with
  | cons h2 al =>
    cases al
    cases (show _ = _ from h2)
    have pw : ∀ {σ9 : L2.St} {M9 B9 : Hp} (a b : Int), 0 ≤ b → b ≤ 1000000 → a.natAbs < 2 ^ 64 → Ev (tOp (rI CPow fun i j => .int (i ^ j.toNat)) (tC (.int a)) (tC (.int b))) σ9 M9 B9 (rInt (a ^ b.toNat)) := fun a b h1 h2 h3 => ev_I (C := CPow) (g := fun i j => .int (i ^ j.toNat)) ev_c ev_c ⟨h1, h2, h3⟩
    refine q_asg (U := rAI) (ev_if (et_test (ev_ltI (ev_v (U := rNat i) rfl rfl) (ev_lenSc (ev_v (U := rSc K xs) rfl h1)))) (fun e => ?_) fun e => ?_) d fun v B1 b1 d1 hv => ?_
    · have e := of_decide_eq_true e
      have hi : i < xs.length := by omega
      exact (ev_ixSc (i := i) (x := xs[i]) (ev_v (U := rSc K xs) rfl h1) (ev_v (U := rNat i) rfl rfl) (List.getElem?_eq_getElem hi)).to fun v B2 _ hv => ⟨_, trivial, hv⟩
    · exact (ev_I0 (g := fun i j => .int (i + j)) (ev_I (C := CMul) (g := fun i j => .int (i * j)) (ev_c (x := .int 41)) (ev_v (U := rNat i) rfl rfl) (.inl ⟨by omega, by omega⟩)) (ev_c (x := .int 17))).to fun v B2 _ hv => ⟨_, trivial, hv⟩
    · obtain ⟨c, _, hv⟩ := hv
      cases (show _ = _ from hv)
      refine q_asg (U := rAN) ((ev_I (C := fun _ j => 0 < j) (g := fun i j => .int (i % j)) (ev_intI (ev_abs (ev_v (U := rInt c) rfl rfl))) (ev_I (C := CMulW) (g := fun i j => .int (i * j)) (pw 10 60 (by decide) (by decide) (by decide)) (pw 10 60 (by decide) (by decide) (by decide)) (wide_mul (a := 300) (b := 300) (by decide +kernel) (by decide +kernel) (by decide) (by decide) (by decide))) (by decide +kernel)).to fun v B2 _ hv => ?_) d1 fun v B2 b2 d2 hv => ?_
      · obtain ⟨g, hg⟩ := Int.eq_ofNat_of_zero_le (Int.emod_nonneg (if c < 0 then -c else c) (b := (10 : Int) ^ (60 : Int).toNat * (10 : Int) ^ (60 : Int).toNat) (by decide +kernel))
        exact ⟨g, trivial, by rw [show v = _ from hv, hg]; rfl⟩
      · obtain ⟨g, _, hv⟩ := hv
        cases (show _ = _ from hv)
        refine q_asg (U := rAN) ((ev_I (C := fun _ j => 0 < j) (g := fun i j => .int (i % j)) (ev_intI (ev_addN (a := g + 7368787 * i + 15485867 * (decide (c < 0)).toNat) (b := 101) (ev_addN (a := g + 7368787 * i) (b := 15485867 * (decide (c < 0)).toNat) (ev_addN (a := g) (b := 7368787 * i) (ev_v (U := rNat g) rfl rfl) (ev_mulN (a := 7368787) (ev_c (x := .int 7368787)) (ev_v (U := rNat i) rfl rfl) (by decide))) (ev_mulN (a := 15485867) (ev_c (x := .int 15485867)) (ev_intB (b := decide (c < 0)) (ev_ltI (ev_v (U := rInt c) rfl rfl) (ev_c (x := .int 0)))) (by decide))) (ev_c (x := .int 101)))) (ev_I0 (g := fun i j => .int (i + j)) (pw 10 18 (by decide) (by decide) (by decide)) (ev_c (x := .int 9))) (by decide +kernel)).to fun v B2 _ hv => ?_) d2 fun v B3 b3 d3 hv => ?_
        · obtain ⟨s, hs⟩ := Int.eq_ofNat_of_zero_le (Int.emod_nonneg (((g + 7368787 * i + 15485867 * (decide (c < 0)).toNat + 101 : Nat) : Int)) (b := (10 : Int) ^ (18 : Int).toNat + 9) (by decide +kernel))
          exact ⟨s, trivial, by rw [show v = _ from hv, hs]; rfl⟩
        · obtain ⟨s, _, hv⟩ := hv
          cases (show _ = _ from hv)
          refine s_retN (W := Al id [rAN, rNat s, rNat 0]) (en_lst (ea_cons (ev_if (U := rAN) (et_test (ev_gtI (ev_v (i := 3) (U := rNat g) rfl rfl) (pw 10 18 (by decide) (by decide) (by decide)))) (fun e => (ev_I0 (g := fun i j => .int (i - j)) (ev_v (i := 3) (U := rNat g) rfl rfl) (pw 10 18 (by decide) (by decide) (by decide))).to fun v B2 _ hv => by
              have e := of_decide_eq_true e
              obtain ⟨n, hn⟩ := Int.eq_ofNat_of_zero_le (Int.sub_nonneg_of_le (Int.le_of_lt e))
              exact ⟨n, trivial, by rw [show v = _ from hv, hn]; rfl⟩) fun _ => (ev_c (x := .int 0)).to fun v B2 _ hv => ⟨0, trivial, hv⟩) (ea_cons (ev_v (i := 4) (U := rNat s) rfl rfl) (ea_cons (ev_c (x := .int 0)) ea_nil))) (by show 3 ≤ 1000; decide)) d3 fun p vs B4 b4 d4 hm hb hvs => ?_
          cases hvs with
          | cons k1 hvs => cases hvs with
          | cons k2 hvs => cases hvs with
          | cons k3 hvs =>
            cases hvs
            obtain ⟨n, _, k1⟩ := k1
            cases (show _ = _ from k1)
            cases (show _ = _ from k2)
            cases (show _ = _ from k3)
            exact q p (n, s, 0) B4 (b1.trans (b2.trans (b3.trans b4))) ⟨d4, hb, hm⟩
theorem c_lot (D : Def K mg "_law_lot" s__law_lot) (T : Bt mg) : Cal P w K mg base 1 "_law_lot" sp_lot :=
  cal_of D sc__law_lot (fun _ _ _ _ _ _ us hl => match us, hl with | [_, _], _ => rfl) (spL_len fun _ => rfl) fun f cdv A outer s H vs Q E hr h => by
  obtain ⟨n, B, M, l, t, ws, rfl, d, ⟨h0, hn⟩, rfl, al, q⟩ := h
  have sc := sc__law_lot
  refine ⟨_, (pss_cons (ps_if (pt_cmpR op_gt (pe_ix (kix_list K rfl) (pv 0) pe_int (fun _ _ => rfl)) pe_int (nomark _)) (pss_cons (ps_set (i := 2) sc.nd rfl (.inl rfl) (pe_op op_mod (pe_callTy call_int1 (by rfl) T.int (by decide +kernel) (pa_cons (pe_ix (kix_list K rfl) (pv 0) pe_int (fun _ _ => rfl)) pa_nil)) (pv 1)))
      (pss_cons (ps_asg (pe_op op_fdiv (pe_ix (kix_list K rfl) (pv 0) pe_int (fun _ _ => rfl)) (pv 1)) (pg_sub (pv 0) pe_int (set_list)))
      (pss_one (ps_ret (pv 2))))) pss_nil)
      (pss_cons (ps_asg (pe_op op_add (pe_ix (kix_list K rfl) (pv 0) pe_int (fun _ _ => rfl)) pe_int) (pg_sub (pv 0) pe_int (set_list)))
      (pss_cons (ps_set (i := 3) sc.nd rfl (.inl rfl) (pe_op op_mod (pe_callTy call_int1 (by rfl) T.int (by decide +kernel) (pa_cons (pe_op op_add (pe_ix (kix_list K rfl) (pv 0) pe_int (fun _ _ => rfl)) (pe_op op_mul pe_int (pe_ix (kix_list K rfl) (pv 0) pe_int (fun _ _ => rfl)))) pa_nil)) pe_int))
      (pss_cons (ps_set (i := 3) sc.nd rfl (.inl rfl) (pe_op op_mod (pe_callTy call_int1 (by rfl) T.int (by decide +kernel) (pa_cons (pe_op op_add (pe_op op_add (pe_op op_mul (pv 3) (pv 3)) (pe_op op_mul pe_int (pe_ix (kix_list K rfl) (pv 0) pe_int (fun _ _ => rfl)))) (pe_op op_fdiv (pe_ix (kix_list K rfl) (pv 0) pe_int (fun _ _ => rfl)) pe_int)) pa_nil)) pe_int))
      (pss_one (ps_ret (pe_op op_mod (pe_callTy call_int1 (by rfl) T.int (by decide +kernel) (pa_cons (pe_op op_fdiv (pv 3) pe_int) pa_nil)) (pv 1)))))))), ?_⟩
  cases al with
  | cons h1 al =>
    cases al
    cases (show _ = _ from h1)
    refine q_if (b := decide ((0 : Int) < (t.1 : Int))) (et_test (ev_gtI (ev_lotAt (k := 0) (n := t.1) rfl upd_same (ev_c (x := .int 0)) rfl) (ev_c (x := .int 0)))) (d.dj t) (fun _ B1 b1 d1 => ?_) fun _ B1 b1 d1 => ?_
    · refine q_asg (U := rNat (t.1 % n)) (ev_modN (ev_intI (ev_lotAt (k := 0) (n := t.1) rfl upd_same (ev_c (x := .int 0)) rfl)) (ev_v (U := rNat n) rfl rfl) h0) d1 fun v B2 b2 d2 hv => ?_
      cases (show _ = _ from hv)
      refine q_lotSet (k := 0) (n := t.1 / n) rfl (ev_divN (ev_lotAt (k := 0) (n := t.1) rfl upd_same (ev_c (x := .int 0)) rfl) (ev_v (U := rNat n) rfl rfl) h0 (by omega)) (ev_c (x := .int 0)) (DjL.of d.m d2) (by decide) fun B3 t' b3 d3 et => ?_
      exact s_ret (U := rEx (· < n) rNat) (ev_v rfl ⟨t.1 % n, Nat.mod_lt _ h0, rfl⟩) (d3.dj t') fun v B4 b4 d4 hv => q v t' B4 (b1.trans (b2.trans (b3.trans b4))) (DjL.of d.m d4) hv
    · refine q_lotSet (k := 2) (n := t.2.2 + 1) rfl (ev_addN (b := 1) (ev_lotAt (k := 2) (n := t.2.2) rfl upd_same (ev_c (x := .int 2)) rfl) (ev_c (x := .int 1))) (ev_c (x := .int 2)) (DjL.of d.m d1) (by decide) fun B2 t' b2 d2 et => ?_
      have dj := d2.dj t'
      refine q_asg (U := rEx (· < 1000000007) rNat) (((ev_modN (b := 1000000007) (ev_intI (ev_addN (ev_lotAt (k := 1) (n := t'.2.1) rfl upd_same (ev_c (x := .int 1)) rfl) (ev_mulN (a := 2654435761) (ev_c (x := .int 2654435761)) (ev_lotAt (k := 2) (n := t'.2.2) rfl upd_same (ev_c (x := .int 2)) rfl) (by decide)))) (ev_c (x := .int 1000000007)) (by decide))).to fun v B3 _ hv => ⟨_, Nat.mod_lt _ (by decide), hv⟩) dj fun v B3 b3 d3 hv => ?_
      obtain ⟨m, hm, hv⟩ := hv
      cases (show _ = _ from hv)
      refine q_asg (U := rAN) ((ev_modN (b := 998244353) (ev_intI (ev_addN (ev_addN (ev_mulN (ev_v (U := rNat m) rfl rfl) (ev_v (U := rNat m) rfl rfl) (Nat.lt_trans hm (by decide))) (ev_mulN (a := 48611) (ev_c (x := .int 48611)) (ev_lotAt (k := 2) (n := t'.2.2) rfl upd_same (ev_c (x := .int 2)) rfl) (by decide))) (ev_divN (b := 1000003) (ev_lotAt (k := 1) (n := t'.2.1) rfl upd_same (ev_c (x := .int 1)) rfl) (ev_c (x := .int 1000003)) (by decide) (by decide)))) (ev_c (x := .int 998244353)) (by decide)).to fun v B3 _ hv => ⟨_, trivial, hv⟩) d3 fun v B4 b4 d4 hv => ?_
      obtain ⟨m2, _, hv⟩ := hv
      cases (show _ = _ from hv)
      exact s_ret (U := rEx (· < n) rNat) ((ev_modN (ev_intI (ev_divN (b := 97) (ev_v (U := rNat m2) rfl rfl) (ev_c (x := .int 97)) (by decide) (by decide))) (ev_v (U := rNat n) rfl rfl) h0).to fun v B5 _ hv => ⟨_, Nat.mod_lt _ h0, hv⟩) d4 fun v B5 b5 d5 hv => q v t' B5 (b1.trans (b2.trans (b3.trans (b4.trans b5)))) (DjL.of d.m d5) hv
end
end Zb
end
section
set_option Elab.async false
set_option linter.all false
set_option maxRecDepth 100000
set_option maxHeartbeats 1000000
/-! Zg10: the walk: words_between. -/
namespace Zb
open PySem PySem.Spec PyProof.Rows L2 SlX GenW
theorem ksl_list {X : Cx} (K : PySem.W.Frag) (hK : X.K = K) : SlR X (rSlL K) := hK ▸ sl_list
/-! ### statements of a generator's body -/
section
variable {σ : L2.St} {M B : Hp} {D : GE} {ws : Txs} {tc : TT} {t u tz : GT} {te : TE} {U : Up}
theorem g_if {b : Bool} (h : EvT tc σ M B b) (d : Dj B M) (h1 : b = true → ∀ B', Same B B' → Dj B' M → t D ws σ (jn B' M)) (h2 : b = false → ∀ B', Same B B' → Dj B' M → u D ws σ (jn B' M)) : gIf tc t u D ws σ (jn B M) := h M B (Same.refl _) (Same.refl _) d _ fun B' s d' => by
  cases b with
  | true => exact iteT (h1 rfl B' s d')
  | false => exact iteF (h2 rfl B' s d')
theorem gq_if {b : Bool} (h : EvT tc σ M B b) (d : Dj B M) (h1 : b = true → ∀ B', Same B B' → Dj B' M → t { D with nx := tz D } ws σ (jn B' M)) (h2 : b = false → ∀ B', Same B B' → Dj B' M → u { D with nx := tz D } ws σ (jn B' M)) : gSeq (gIf tc t u) tz D ws σ (jn B M) := g_if (D := { D with nx := tz D }) h d h1 h2
theorem gq_asg {i : Nat} (h : Ev te σ M B U) (d : Dj B M) (k : ∀ v B', Same B B' → Dj B' M → U.p v B' → tz D ws (σ.set i (some v)) (jn B' M)) : gSeq (gPs (tAsg te (gName i))) tz D ws σ (jn B M) := h M B (Same.refl _) (Same.refl _) d _ k
theorem gq_drop (h : Ev te σ M B U) (d : Dj B M) (k : ∀ B', Same B B' → Dj B' M → tz D ws σ (jn B' M)) : gSeq (gPs (tDrop te)) tz D ws σ (jn B M) := h M B (Same.refl _) (Same.refl _) d _ fun _ B' b d' _ => k B' b d'
theorem gq_no {tu : TS} {tt : TT} (h : EvT tt σ M B false) (d : Dj B M) (k : ∀ B', Same B B' → Dj B' M → tz D ws σ (jn B' M)) : gSeq (gPs (tIfS tt tu tNext)) tz D ws σ (jn B M) := h M B (Same.refl _) (Same.refl _) d _ fun B' s d' => iteF (k B' s d')
theorem gq_yield {w : List Nat} {ws' : Txs} {Gd : Hp → Prop} (e : ws = w :: ws') (h : Ev te σ M B (rTx w)) (d : Dj B M) (k : ∀ B', Same B B' → Dj B' M → Gd (jn B' M) ∧ tz D ws' σ (jn B' M)) : gSeq (gYield Gd te) tz D ws σ (jn B M) := ⟨w, ws', e, h M B (Same.refl _) (Same.refl _) d _ fun v B' b d' hv => ⟨hv, k B' b d'⟩⟩
/-- where a loop of a generator's body stands -/
def NxG (Pv : Txs → L2.St → Prop) (M B0 : Hp) : Txs → L2.St → Hp → Prop := fun ws σ H => ∃ B', H = jn B' M ∧ Same B0 B' ∧ Dj B' M ∧ Pv ws σ
theorem gq_for {α : Type} {R : α → Up} {xs : List α} {wi : TI} {j : Nat} (hi : EvI wi σ M B (xs.map R)) (d : Dj B M) (Pv : Nat → Txs → L2.St → Prop) (h0 : Pv 0 ws σ)
    (hs : ∀ B0 i x v ws' σ' B', xs[i]? = some x → Same B B0 → Same B0 B' → Dj B' M → Pv i ws' σ' → (R x).p v B' → t { D with nx := NxG (Pv (i + 1)) M B0, ct := NxG (Pv (i + 1)) M B0, bk := tz D } ws' (σ'.set j (some v)) (jn B' M))
    (hd : ∀ ws' σ' B', Pv xs.length ws' σ' → Same B B' → Dj B' M → tz D ws' σ' (jn B' M)) : gSeq (gFor wi (gName j) t) tz D ws σ (jn B M) :=
  hi M B (Same.refl _) (Same.refl _) d _ fun J B2 b2 d2 wk => by
    refine ⟨fun i n ws' σ' H => n + i = xs.length ∧ NxG (Pv i) M B2 ws' σ' H, ⟨xs.length, rfl, B2, rfl, Same.refl _, d2, h0⟩, ?_⟩
    rintro i n ws' σ' H ⟨hn, B', rfl, b', d', hp⟩
    by_cases hlt : i < xs.length
    · have ex : xs[i]? = some xs[i] := List.getElem?_eq_getElem hlt
      refine .inr ⟨wk.go i M B' b' d' (by rw [List.length_map]; exact hlt), NxG (Pv (i + 1)) M B2, fun ws3 σ3 H3 h => ⟨n - 1, by omega, by omega, h⟩, fun v H' y => ?_⟩
      obtain ⟨B3, b3, d3, rfl, hu⟩ := wk.yl i (R xs[i]) M B' v H' (by rw [List.getElem?_map, ex]; rfl) b' d' y
      exact hs B2 i xs[i] v ws' σ' B3 ex b2 (b'.trans b3) d3 hp hu
    · have e : i = xs.length := by omega
      subst e
      exact .inl ⟨by have := wk.st M B' b' d'; rw [List.length_map] at this; exact this, hd ws' σ' B' hp (b2.trans b') d'⟩
/-- a generator def's promise: the heap grows, what is handed out -/
def gdOf (M B : Hp) : Hp → Prop := fun H' => ∃ B', H' = jn B' M ∧ Same B B' ∧ Dj B' M
def spZ {α : Type} (A : α → List Up) (ok : α → Prop) (T : α → Txs) : SpZ := fun vs H Gd Tx => ∃ (x : α) (B M : Hp), H = jn B M ∧ Dj B M ∧ ok x ∧ Al id (A x) vs B ∧ Gd = gdOf M B ∧ Tx = T x
theorem spZ_len {α : Type} {A : α → List Up} {ok : α → Prop} {T : α → Txs} {n : Nat} (h : ∀ x, (A x).length = n) : ∀ vs H Gd Tx, spZ A ok T vs H Gd Tx → vs.length = n := fun vs H Gd Tx ⟨x, _, _, _, _, _, al, _⟩ => by rw [← al.length, h]
theorem spZ_gd {α : Type} {A : α → List Up} {ok : α → Prop} {T : α → Txs} : ∀ vs H Gd Tx, spZ A ok T vs H Gd Tx → ∀ H', Gd H' → Same H H' := fun vs H Gd Tx ⟨x, B, M, e, d, _, _, eg, _⟩ H' h => by
  subst eg
  obtain ⟨B', e', s, d'⟩ := h
  subst e e'
  intro a o h
  cases z : M a with
  | some u => rw [jn_m z] at h ⊢; exact h
  | none => rw [jn_n z] at h ⊢; exact s a o h
theorem gq_forG {α : Type} {A : α → List Up} {ok : α → Prop} {T : α → Txs} {ta : TA} {j : Nat} {tq : L2.St → V → Prop} {Gd0 : Hp → Prop} {ws' : Txs} (x : α) (f : List Nat → List Nat) (h : EvA ta σ M B (A x)) (o : ok x) (d : Dj B M) (hG : ∀ B', Same B B' → Dj B' M → Gd0 (jn B' M))
    (hq : ∀ w ∈ T x, tq (σ.set j (some (.str (tx w)))) (.str (tx (f w)))) (e : ws = (T x).map f ++ ws') (k : ∀ B' σ', Same B B' → Dj B' M → (σ' = σ ∨ ∃ o, σ' = σ.set j o) → tz D ws' σ' (jn B' M)) : gSeq (gForG j tq Gd0 (tCallZ (spZ A ok T) ta)) tz D ws σ (jn B M) :=
  h M B (Same.refl _) (Same.refl _) d _ fun vs B2 b2 d2 al => ⟨_, _, ⟨x, B2, M, rfl, d2, o, al, rfl, rfl⟩, f, ws', e, fun H' ⟨B', e, s, d'⟩ => e ▸ hG B' (b2.trans s) d', hq, fun H' σ' ⟨B', e, s, d'⟩ hσ => e ▸ k B' σ' (b2.trans s) d' hσ⟩
end
section
variable {P : Program} {w : World} {K : PySem.W.Frag} {mg : Str → Option Value} {base : Heap}
theorem calg_of {x : Str} {st : Stmt} {N ps : List Str} {k : Nat} {sp : SpZ} (D : Def K mg x st) (S : GScope N ps (defScope st))
    (b : ∀ (kV doc pm : Value) (an : Option Addr) (cdv ct : Value) (us : List Value), us.length = ps.length → bindArgs (PySem.W.fnOf x x (defArgs st) (defBody st) (defScope st) .none kV doc pm an cdv ct) ⟨us, []⟩ = pure (ps.zip us))
    (len : ∀ vs H Gd T, sp vs H Gd T → vs.length = ps.length) (sgd : ∀ vs H Gd T, sp vs H Gd T → ∀ H', Gd H' → Same H H')
    (hbody : ∀ (f : Addr) (cdv : Value) (A : Around) (outer : List Env) (s : Shared) (H : Hp) (vs : List V) (Gd : Hp → Prop) (T : Txs) (pn : List (Addr × Obj)) (C : Addr → Prop) (PA : List Addr) (g : Nat), Room k (A.deeper (envOfC x (defScope st) s.heap.objs.size f cdv)) → sp vs H Gd T →
      ∃ t, GSs ⟨gcx P w K mg base N x (defScope st) f cdv A outer s H pn, C, PA, g, Gd, T⟩ (defBody st) t ∧ t { nx := fun ws _ H' => ws = [] ∧ Gd H', rt := fun ws v H' => ws = [] ∧ v = .non ∧ Gd H' } T (start N vs) H) : CalG P w K mg base (k + 1) x sp := by
  obtain ⟨f, fd, F, hm⟩ := D.ex
  have kp := F.kp
  have bd := F.bindsN b
  obtain ⟨oc, od, dV, kV, doc, pm, an, cdv, ct, osl, rfl, lk, hcd, _, _⟩ := F.ex
  exact ⟨f, _, ps, gfz_of lk hcd S len sgd fun A outer s H vs Gd T pn C PA g hr hsp => hbody f cdv A outer s H vs Gd T pn C PA g hr hsp, hm, kp, bd⟩
theorem calgm_of {C : Addr} {x qual : Str} {st : Stmt} {N ps : List Str} {k : Nat} {sp : SpZ} (D : MDf K C x qual st) (S : GScope N ps (defScope st))
    (b : ∀ (kV doc pm : Value) (an : Option Addr) (cdv ct : Value) (us : List Value), us.length = ps.length → bindArgs (PySem.W.fnOf x qual (defArgs st) (defBody st) (defScope st) .none kV doc pm an cdv ct) ⟨us, []⟩ = pure (ps.zip us))
    (len : ∀ vs H Gd T, sp vs H Gd T → vs.length = ps.length) (sgd : ∀ vs H Gd T, sp vs H Gd T → ∀ H', Gd H' → Same H H')
    (hbody : ∀ (f : Addr) (cdv : Value) (A : Around) (outer : List Env) (s : Shared) (H : Hp) (vs : List V) (Gd : Hp → Prop) (T : Txs) (pn : List (Addr × Obj)) (C : Addr → Prop) (PA : List Addr) (g : Nat), Room k (A.deeper (envOfC qual (defScope st) s.heap.objs.size f cdv)) → sp vs H Gd T →
      ∃ t, GSs ⟨gcx P w K mg base N qual (defScope st) f cdv A outer s H pn, C, PA, g, Gd, T⟩ (defBody st) t ∧ t { nx := fun ws _ H' => ws = [] ∧ Gd H', rt := fun ws v H' => ws = [] ∧ v = .non ∧ Gd H' } T (start N vs) H) : CalGM P w K mg base (k + 1) C x sp := by
  obtain ⟨f, fd, F, hm⟩ := D.ex
  have bd := F.bindsN b
  obtain ⟨oc, od, dV, kV, doc, pm, an, cdv, ct, osl, rfl, lk, hcd, _, _⟩ := F.ex
  exact ⟨f, _, ps, gfz_of lk hcd S len sgd fun A outer s H vs Gd T pn C PA g hr hsp => hbody f cdv A outer s H vs Gd T pn C PA g hr hsp, hm, bd⟩
end
section
variable {K : PySem.W.Frag} {σ : L2.St} {M B : Hp} {ta tb : TE}
/-- xs[:-k] -/
theorem ev_slLn {α : Type} {R : α → Up} {xs : List α} {k : Nat} (ha : Ev ta σ M B (rLst R xs)) (hb : Ev tb σ M B (rInt (-(k : Int)))) (hk : 0 < k) (hl : k ≤ xs.length) {zs : List α} (ez : xs.take (xs.length - k) = zs) : Ev (L2.tSl (rSlL K) ta tNoPart (tPart tb)) σ M B (rLst R zs) := fun M1 B1 m b d Q q =>
  ha M1 B1 m b d _ fun v B2 b2 d2 ⟨a, vs, e, h, al⟩ => hb M1 B2 m (b.trans b2) d2 _ fun y B3 b3 d3 hy => ⟨_, hy, a, vs, e, SqL.of (jn_b d3 (b3 _ _ h)), fun p hp => by
    obtain ⟨hm, hbb⟩ := jn_none hp
    rw [jn_updB hm]
    have e1 : HT.sIx vs.length vs.length (some (-(k : Int))) = vs.length - k := by
      show (if (-(k : Int)) < 0 then (-(k : Int) + (vs.length : Int)).toNat else min (-(k : Int)).toNat vs.length) = _
      rw [if_pos (by omega)]
      omega
    have ec : cutV vs none (some (-(k : Int))) = vs.take (xs.length - k) := by
      unfold cutV
      rw [e1, HT.sIx_none, al.length, List.drop_zero, Nat.sub_zero]
    rw [ec]
    subst ez
    exact q _ _ (b2.trans (b3.trans (same_new hbb))) (dj_b d3 hm) ⟨p, _, rfl, upd_same, (al.up (b3.trans (same_new hbb))).take _⟩⟩
end
theorem nears_len {m : Mach} {g n : Nat} : (nears m g n).length = n + 1 := by unfold nears; rw [List.length_map, List.length_range]
theorem nears_at {m : Mach} {g n i : Nat} (h : i ≤ n) : (nears m g n)[i]? = some (near m g i) := by
  unfold nears
  rw [List.getElem?_map, List.getElem?_range (by omega)]
  rfl
theorem nears_take {m : Mach} {g n : Nat} : (nears m g (n + 1)).take ((nears m g (n + 1)).length - 1) = nears m g n := by
  rw [nears_len]
  unfold nears
  rw [List.range_succ, List.map_append, List.take_left']
  rw [List.length_map, List.length_range]
  rfl
abbrev s_words_between : Stmt := top 54
theorem sc_words_between : GScope ["form", "state", "near", "sign", "to", "word"] ["form", "state", "near"] (defScope s_words_between) := ⟨rfl, rfl, rfl, by decide +kernel, rfl, by decide +kernel, by decide +kernel⟩
/-- (machine, goal, how many signs, state) -/
def sp_words (c : Cs) (N : Nat) : SpZ := spZ (α := Mach × Nat × Nat × Nat) (fun x => [rForm c x.1, rNat x.2.2.2, rLst (rLst rNat) (nears x.1 x.2.1 x.2.2.1)]) (fun x => (Wf x.1 ∧ N ≤ 1000) ∧ x.2.2.2 < x.1.length ∧ x.2.2.1 < N) (fun x => wordsB x.1 x.2.1 x.2.2.1 x.2.2.2)
section
variable {P : Program} {w : World} {K : PySem.W.Frag} {mg : Str → Option Value} {base : Heap} {c : Cs}
theorem c_words (D : Def K mg "words_between" s_words_between) (Kk : Kc K c) (T : Bt mg) : ∀ N, CalG P w K mg base (2 * N) "words_between" (sp_words c N)
  | 0 => by
    obtain ⟨f, fd, F, hm⟩ := D.ex
    exact ⟨f, fd, ["form", "state", "near"], ⟨fun vs H Gd Tx ⟨_, _, _, _, _, ⟨_, _, h⟩, _⟩ => absurd h (Nat.not_lt_zero _), fun A outer s H args us vs Gd Tx _ _ _ _ ⟨_, _, _, _, _, ⟨_, _, h⟩, _⟩ => absurd h (Nat.not_lt_zero _)⟩, hm, F.kp, F.bindsN fun _ _ _ _ _ _ us hl => match us, hl with | [_, _, _], _ => rfl⟩
  | N + 1 => by
    have cW := c_words D Kk T N
    refine calg_of (k := 2 * N + 1) D sc_words_between (fun _ _ _ _ _ _ us hl => match us, hl with | [_, _, _], _ => rfl) (spZ_len fun _ => rfl) spZ_gd fun f cdv A outer s H vs Gd Tx pn C PA gg hr h => ?_
    obtain ⟨⟨m, g, n, st⟩, B, M, rfl, d, ⟨⟨wf, hN⟩, hs, hn⟩, al, rfl, rfl⟩ := h
    have wf : Wf m := wf
    have hs : st < m.length := hs
    have hn : n < N + 1 := hn
    have sc := sc_words_between
    have hu := room_1 hr
    refine ⟨_, (gss_cons (gs_if (fun _ => (pt_cmpR op_eq (pe_callB (kc_len K rfl) (by rfl) T.len (by decide +kernel) (pa_cons (pv 2) pa_nil)) pe_int (nomark _))) (gss_cons (gs_if (fun _ => (pt_cmpR (kop_in K rfl) (pv 1) (pe_ix (kix_list K rfl) (pv 2) pe_int (fun _ _ => rfl)) (by rfl))) (gss_one (gs_yield (fun _ => pe_str))) gss_nil)
      (gss_one (gs_ps (fun _ => ps_retN)))) gss_nil)
      (gss_one (gs_for (fun _ => (kpi_list K rfl (pe_callB (call_sortedD rfl) (by rfl) T.sorted (by decide +kernel) (pa_cons (pe_ix (kix_list K rfl) (kpe_sl K rfl (pv 0)) (pv 1) (fun _ _ => rfl)) pa_nil)))) (fun _ => (pg_name (i := 3) sc.nd rfl (.inl rfl))) (gss_cons (gs_ps (fun _ => (ps_set (i := 4) sc.nd rfl (.inl rfl) (pe_dget hu (pe_ix (kix_list K rfl) (kpe_sl K rfl (pv 0)) (pv 1) (fun _ _ => rfl)) (pv 3) (fun _ _ => rfl)))))
      (gss_one (gs_if (fun _ => (pt_cmpR (kop_in K rfl) (pv 4) (pe_ix (kix_list K rfl) (pv 2) (pe_un un_neg pe_int) (fun _ _ => rfl)) (by rfl))) (gss_one (gs_forG rfl rfl (fun _ => pgz_call cW hr (by omega) (by rfl) (pa_cons (pv 0) (pa_cons (pv 4) (pa_cons (pe_slice (ksl_list K rfl) (pv 2) po_none (po_some (pe_un un_neg pe_int))) pa_nil)))) hr sc.nd (j := 5) rfl rfl (fun _ => (pq_cat (pq_var (i := 3) rfl (.inl rfl)) (pq_var (i := 5) rfl (.inl rfl)))))) gss_nil)))))), ?_⟩
    cases al with
    | cons h1 al => cases al with
    | cons h2 al => cases al with
    | cons h3 al =>
      cases al
      cases n with
      | zero =>
        refine gq_if (b := true) (EvT.to (et_test (ev_eq (y := .int 1) (ev_lenL (R := rLst rNat) (xs := nears m g 0) (ev_v (U := rLst (rLst rNat) (nears m g 0)) rfl h3)) ev_c rfl)) (by rw [nears_len]; rfl)) d (fun _ B1 b1 d1 => ?_) fun e => nomatch e
        refine gq_if (b := decide (st ∈ near m g 0)) (et_test (ev_inL (ev_v (U := rNat st) rfl h2) (ev_ixL (R := rLst rNat) (i := 0) (x := near m g 0) (ev_v (U := rLst (rLst rNat) (nears m g 0)) rfl ((rLst (rLst rNat) (nears m g 0)).up b1 h3)) ev_c rfl))) d1 (fun e B2 b2 d2 => ?_) fun e B2 b2 d2 => ?_
        · have e0 : wordsB m g 0 st = [[]] := if_pos (of_decide_eq_true e)
          refine gq_yield (w := []) (ws' := []) e0 ev_c d2 fun B3 b3 d3 => ⟨⟨B3, rfl, b1.trans (b2.trans b3), d3⟩, ?_⟩
          exact ⟨rfl, rfl, B3, rfl, b1.trans (b2.trans b3), d3⟩
        · have e0 : wordsB m g 0 st = [] := if_neg (of_decide_eq_false e)
          exact ⟨e0, rfl, B2, rfl, b1.trans b2, d2⟩
      | succ n =>
        refine gq_if (b := false) (EvT.to (et_test (ev_eq (y := .int 1) (ev_lenL (R := rLst rNat) (xs := nears m g (n + 1)) (ev_v (U := rLst (rLst rNat) (nears m g (n + 1))) rfl h3)) ev_c rfl)) (by rw [nears_len]; exact decide_eq_false fun e => by injection e with e; omega)) d (fun e => nomatch e) fun _ B1 b1 d1 => ?_
        have rok : RowOk m.length (rowAt m st) := Wf.at wf st
        refine gq_for (R := fun q : Nat × Nat => rTx [q.1]) (xs := rowAt m st) (ei_list (EvN.lst (en_sortRow (ev_ixL (R := rRow) (ev_moves Kk (ev_v (U := rForm c m) rfl ((rForm c m).up b1 h1))) (ev_v (U := rNat st) rfl h2) (rows_at hs)) rok.asc (by have := rok.len; omega)))) d1
          (fun i ws σ => ∃ o3 o4 o5, σ = [some _, some _, some _, o3, o4, o5] ∧ ws = ((rowAt m st).drop i).flatMap fun q => if q.2 ∈ near m g n then (wordsB m g n q.2).map (q.1 :: ·) else []) ⟨_, _, _, rfl, rfl⟩ (fun B0 i q v ws σ B2 ex b0 b2 d2 hp hv => ?_) fun ws σ B2 hp b2 d2 => ?_
        · obtain ⟨o3, o4, o5, rfl, rfl⟩ := hp
          cases (show _ = _ from hv)
          have s2 : Same B B2 := b1.trans (b0.trans b2)
          have hq : q ∈ rowAt m st := List.mem_of_getElem? ex
          have hl := (List.getElem?_eq_some_iff.mp ex)
          obtain ⟨hil, hiq⟩ := hl
          have ed : ((rowAt m st).drop i).flatMap (fun q : Nat × Nat => if q.2 ∈ near m g n then (wordsB m g n q.2).map (q.1 :: ·) else []) = (if q.2 ∈ near m g n then (wordsB m g n q.2).map (q.1 :: ·) else []) ++ ((rowAt m st).drop (i + 1)).flatMap (fun q : Nat × Nat => if q.2 ∈ near m g n then (wordsB m g n q.2).map (q.1 :: ·) else []) := by
            rw [List.drop_eq_getElem_cons hil, hiq, List.flatMap_cons]
          refine gq_asg (ev_rget (ev_ixL (R := rRow) (ev_moves Kk (ev_v (U := rForm c m) rfl ((rForm c m).up s2 h1))) (ev_v (U := rNat st) rfl h2) (rows_at hs)) (ev_v (U := rTx [q.1]) rfl rfl) (mem_lookup rok.asc hq)) d2 fun v3 B3 b3 d3 hv3 => ?_
          cases (show _ = _ from hv3)
          refine gq_if (b := decide (q.2 ∈ near m g n)) (et_test (ev_inL (ev_v (U := rNat q.2) rfl rfl) (ev_ixLn (R := rLst rNat) (k := 2) (x := near m g n) (ev_v (U := rLst (rLst rNat) (nears m g (n + 1))) rfl ((rLst (rLst rNat) (nears m g (n + 1))).up (s2.trans b3) h3)) (ev_un (g := fun j => .int (-j)) (ev_c (x := .int 2))) (by decide) (by rw [nears_len]; omega) (by rw [nears_len]; exact nears_at (by omega))))) d3 (fun e B4 b4 d4 => ?_) fun e B4 b4 d4 => ?_
          · have em := of_decide_eq_true e
            refine gq_forG (m, g, n, q.2) (fun w => q.1 :: w) (ea_cons (ev_v (U := rForm c m) rfl ((rForm c m).up (s2.trans (b3.trans b4)) h1)) (ea_cons (ev_v (U := rNat q.2) rfl rfl) (ea_cons (ev_slLn (R := rLst rNat) (xs := nears m g (n + 1)) (k := 1) (ev_v (U := rLst (rLst rNat) (nears m g (n + 1))) rfl ((rLst (rLst rNat) (nears m g (n + 1))).up (s2.trans (b3.trans b4)) h3)) (ev_un (g := fun j => .int (-j)) (ev_c (x := .int 1))) (by decide) (by rw [nears_len]; omega) nears_take) ea_nil))) ⟨⟨wf, by omega⟩, wf.to (show (q.1, q.2) ∈ rowAt m st from hq), by show n < N; omega⟩ d4 (fun B5 b5 d5 => ⟨B5, rfl, s2.trans (b3.trans (b4.trans b5)), d5⟩) (fun u hu => ?_) (ws' := ((rowAt m st).drop (i + 1)).flatMap fun q => if q.2 ∈ near m g n then (wordsB m g n q.2).map (q.1 :: ·) else []) (by rw [ed, if_pos em]) fun B5 σ5 b5 d5 hσ => ?_
            · have hul := (words_run wf hu).1
              refine ⟨tx [q.1], tx u, rfl, rfl, ?_, ?_⟩
              · show ([q.1].toArray).size + u.toArray.size ≤ sizeLine
                have hul : u.length = n := hul
                have hn' : n < N := by omega
                simp
                exact Nat.le_trans (by omega : 1 + u.length ≤ 100000) (by decide)
              · show V.str (tx (q.1 :: u)) = V.str (tx [q.1] ++ tx u)
                rw [show (tx [q.1] ++ tx u : Str) = tx ([q.1] ++ u) by
                  show (⟨[q.1].toArray ++ u.toArray⟩ : Str) = ⟨([q.1] ++ u).toArray⟩
                  simp]
                rfl
            · refine ⟨B5, rfl, b2.trans (b3.trans (b4.trans b5)), d5, ?_⟩
              rcases hσ with rfl | ⟨o, rfl⟩
              · exact ⟨_, _, _, rfl, rfl⟩
              · exact ⟨_, _, _, rfl, rfl⟩
          · have em := of_decide_eq_false e
            refine ⟨B4, rfl, b2.trans (b3.trans b4), d4, _, _, _, rfl, ?_⟩
            rw [ed, if_neg em]
            rfl
        · obtain ⟨o3, o4, o5, rfl, rfl⟩ := hp
          rw [List.drop_length]
          exact ⟨rfl, B2, rfl, b1.trans b2, d2⟩
end
end Zb
end
section
set_option Elab.async false
set_option linter.all false
set_option maxRecDepth 100000
set_option maxHeartbeats 1000000
/-! Zg11: the walk: Rings.loops. -/
namespace Zb
open PySem PySem.Spec PyProof.Rows L2 SlX GenW
abbrev s_Rings_loops : Stmt := inClass (top 56) 11
theorem sc_Rings_loops : GScope ["self", "state", "many", "length", "word"] ["self", "state", "many"] (defScope s_Rings_loops) := ⟨rfl, rfl, rfl, by decide +kernel, rfl, by decide +kernel, by decide +kernel⟩
def sp_loops (c : Cs) : SpZ := spZ (α := Mach × Nat × Nat) (fun x => [rRg c x.1, rNat x.2.1, rNat x.2.2]) (fun x => Wf x.1 ∧ x.2.1 < x.1.length ∧ x.2.2 ≤ 4) (fun x => loopsW x.1 x.2.1 x.2.2)
section
variable {P : Program} {w : World} {K : PySem.W.Frag} {mg : Str → Option Value} {base : Heap} {c : Cs}
theorem c_loops (D : MDf K c.CR "loops" "Rings.loops" s_Rings_loops) (Kk : Kc K c) (T : Bt mg) (c_require_state : Cal P w K mg base 3 "require_state" (sp_require_state c)) (c_is_integer : Cal P w K mg base 1 "is_integer" sp_is_integer) (c_ways_back : Cal P w K mg base 1 "ways_back" (sp_ways_back c))
    (cW : CalG P w K mg base 10 "words_between" (sp_words c 5)) : CalGM P w K mg base 12 c.CR "loops" (sp_loops c) := by
  refine calgm_of (k := 11) D sc_Rings_loops (fun _ _ _ _ _ _ us hl => match us, hl with | [_, _, _], _ => rfl) (spZ_len fun _ => rfl) spZ_gd fun f cdv A outer s H vs Gd Tx pn C PA gg hr h => ?_
  obtain ⟨⟨m, st, n⟩, B, M, rfl, d, ⟨wf, hs, hn⟩, al, rfl, rfl⟩ := h
  have wf : Wf m := wf
  have hs : st < m.length := hs
  have hn : n ≤ 4 := hn
  have hle := wf.le
  have sc := sc_Rings_loops
  have hu := room_1 hr
  refine ⟨_, (gss_cons (gs_ps (fun _ => (ps_expr (pe_cal c_require_state hr (by decide) (by rfl) (pa_cons (kpe_fld K rfl (pv 0)) (pa_cons (pv 1) pa_nil))))))
      (gss_cons (gs_ps (fun _ => (ps_if (PW.pt (pw_or (pt_not (pt_val (pe_cal c_is_integer hr (by decide) (by rfl) (pa_cons (pv 2) pa_nil)))) (pw_or1 (pt_not (pt_chain op_le op_le pe_int (pv 2) (pe_gv (by rfl) T.MAX_LOOP)))))) (pss_one ps_never) pss_nil)))
      (gss_one (gs_for (fun _ => (pi_range2 (by rfl) T.range (pa_cons pe_int (pa_cons (pe_op op_add (pv 2) pe_int) pa_nil)))) (fun _ => (pg_name (i := 3) sc.nd rfl (.inl rfl))) (gss_one (gs_forG rfl rfl (fun _ => pgz_call cW hr (by omega) (by rfl) (pa_cons (kpe_fld K rfl (pv 0)) (pa_cons (pv 1) (pa_cons (pe_cal c_ways_back hr (by decide) (by rfl) (pa_cons (kpe_fld K rfl (pv 0)) (pa_cons (pv 1) (pa_cons (pv 3) pa_nil)))) pa_nil)))) hr sc.nd (j := 4) rfl rfl (fun _ => (pq_var (i := 4) rfl (.inl rfl))))))))), ?_⟩
  cases al with
  | cons h1 al => cases al with
  | cons h2 al => cases al with
  | cons h3 al =>
    cases al
    refine gq_drop (ev_call (A := fun x : Mach × Nat => [rForm c x.1, rNat x.2]) (R := fun _ => rNon) (m, st) (ea_cons (ev_rgForm Kk (ev_v (U := rRg c m) rfl h1)) (ea_cons (ev_v (U := rNat st) rfl h2) ea_nil)) ⟨hs, by show m.length ≤ 1000; omega⟩) d fun B1 b1 d1 => ?_
    refine gq_no (EvT.to (et_or (et_not (et_test (ev_is_integer (ev_v (U := rNat n) rfl h3) (by omega)))) fun _ => et_not (et_test (ev_chI (g := fun i j => decide (i ≤ j)) (g' := fun i j => decide (i ≤ j)) (ev_c (x := .int 0)) (ev_v (U := rNat n) rfl h3) (ev_c (x := .int 12))))) ?_) d1 fun B2 b2 d2 => ?_
    · rw [decide_eq_true (by omega : (0 : Int) ≤ ((n : Nat) : Int)), decide_eq_true (by omega : ((n : Nat) : Int) ≤ 12)]
      rfl
    · refine gq_for (R := fun i : Nat => rNat (1 + i)) (xs := List.range (n + 1 - 1)) (ei_rng2 (lo := 1) (n := n + 1) (ea_cons (ev_c (x := .int 1)) (ea_cons (ev_addN (a := n) (b := 1) (ev_v (U := rNat n) rfl h3) (ev_c (x := .int 1))) ea_nil)) (by omega) (by omega)) d2
        (fun i ws σ => ∃ o3 o4, σ = [some _, some _, some _, o3, o4] ∧ ws = ((List.range n).drop i).flatMap fun i => wordsB m st (i + 1) st) ⟨_, _, rfl, rfl⟩ (fun B0 i y v ws σ B3 ex b0 b3 d3 hp hv => ?_) fun ws σ B3 hp b3 d3 => ?_
      · obtain ⟨o3, o4, rfl, rfl⟩ := hp
        have hl := (List.getElem?_eq_some_iff.mp ex).1
        rw [List.length_range] at hl
        rw [List.getElem?_range hl] at ex
        cases ex
        have hl : i < n := hl
        cases (show _ = _ from hv)
        have s3 : Same B B3 := b1.trans (b2.trans (b0.trans b3))
        have ed : ((List.range n).drop i).flatMap (fun i => wordsB m st (i + 1) st) = wordsB m st (1 + i) st ++ ((List.range n).drop (i + 1)).flatMap (fun i => wordsB m st (i + 1) st) := by
          rw [List.drop_eq_getElem_cons (by rw [List.length_range]; exact hl), List.getElem_range, List.flatMap_cons, Nat.add_comm 1 i]
        refine gq_forG (m, st, 1 + i, st) (fun w => w) (ea_cons (ev_rgForm Kk (ev_v (U := rRg c m) rfl ((rRg c m).up s3 h1))) (ea_cons (ev_v (U := rNat st) rfl h2) (ea_cons (ev_call (A := fun x : Mach × Nat × Nat => [rForm c x.1, rNat x.2.1, rNat x.2.2]) (R := fun x : Mach × Nat × Nat => rLst (rLst rNat) (nears x.1 x.2.1 x.2.2)) (m, st, 1 + i) (ea_cons (ev_rgForm Kk (ev_v (U := rRg c m) rfl ((rRg c m).up s3 h1))) (ea_cons (ev_v (U := rNat st) rfl h2) (ea_cons (ev_v (U := rNat (1 + i)) rfl rfl) ea_nil))) ⟨wf, by show 1 + i ≤ 1000; omega⟩) ea_nil))) ⟨⟨wf, by omega⟩, hs, by show 1 + i < 5; omega⟩ d3 (fun B4 b4 d4 => ⟨B4, rfl, s3.trans b4, d4⟩) (fun u hu => rfl) (ws' := ((List.range n).drop (i + 1)).flatMap fun i => wordsB m st (i + 1) st) (by rw [ed, List.map_id']) fun B4 σ4 b4 d4 hσ => ?_
        refine ⟨B4, rfl, b3.trans b4, d4, ?_⟩
        rcases hσ with rfl | ⟨o, rfl⟩
        · exact ⟨_, _, rfl, rfl⟩
        · exact ⟨_, _, rfl, rfl⟩
      · obtain ⟨o3, o4, rfl, rfl⟩ := hp
        have e : ((List.range n).drop (List.range (n + 1 - 1)).length) = [] := by
          rw [List.length_range]
          exact List.drop_eq_nil_of_le (by rw [List.length_range]; omega)
        rw [e]
        exact ⟨rfl, B3, rfl, b1.trans (b2.trans b3), d3⟩
/-- list(rings.loops(e, n)) -/
theorem ev_loops {X : Cx} {σ : L2.St} {M B : Hp} {ta : TE} {t : TA} {m : Mach} {st n : Nat} (h : Ev ta σ M B (rRg c m)) (ht : EvA t σ M B [rNat st, rNat n]) (ok : Wf m ∧ st < m.length ∧ n ≤ 4) (hl : (loopsW m st n).length ≤ 100000) : Ev (tListZ (tMethZ c.CR "loops" (sp_loops c) ta t)) σ M B (rLst rTx (loopsW m st n)) := fun M1 B1 mm b d Q q =>
  h M1 B1 mm b d _ fun v B2 b2 d2 hv => by
    obtain ⟨a, dx, v1, v2, v3, v4, e, h0, _⟩ := id hv
    refine ⟨a, dx, _, e, jn_b d2 h0, by rfl, ht M1 B2 mm (b.trans b2) d2 _ fun ws B3 b3 d3 hw => ⟨_, _, ⟨(m, st, n), B3, M1, rfl, d3, ok, .cons ((rRg c m).up b3 hv) hw, rfl, rfl⟩, hl, fun H' p hg hp => ?_⟩⟩
    obtain ⟨B', rfl, b', d'⟩ := hg
    obtain ⟨hm, hb⟩ := jn_none hp
    rw [jn_updB hm]
    exact q _ _ (b2.trans (b3.trans (b'.trans (same_new hb)))) (dj_b d' hm) ⟨p, _, rfl, upd_same, Al.ofV (f := fun x => V.str (tx x)) (loopsW m st n)⟩
end
end Zb
end
section
set_option Elab.async false
set_option linter.all false
set_option maxRecDepth 100000
/-! Zl2: the walk: _law_one, _law_some. -/
namespace Zb
open PySem PySem.Spec PyProof.Rows L2 SlX

/-- items one by one, in a list or a tuple -/
def rSeq (us : List Up) : Up := ⟨fun v B => ∃ a vs, v = .ref a ∧ (B a = some (.lst vs) ∨ B a = some (.tup vs)) ∧ Al id us vs B, fun s ⟨a, vs, e, h, k⟩ => ⟨a, vs, e, h.imp (s _ _) (s _ _), k.up s⟩⟩
def rOf (us : List Up) : Up := ⟨fun v B => ∃ u ∈ us, u.p v B, fun s ⟨u, m, h⟩ => ⟨u, m, u.up s h⟩⟩
theorem seq_lst {α : Type} {R : α → Up} {xs : List α} {v : V} {B : Hp} (h : (rLst R xs).p v B) : (rSeq (xs.map R)).p v B := by
  obtain ⟨a, vs, e, h, al⟩ := h
  exact ⟨a, vs, e, .inl h, Al.map (R := id) al⟩
theorem seq_tup {α : Type} {R : α → Up} {xs : List α} {v : V} {B : Hp} (h : (rTup R xs).p v B) : (rSeq (xs.map R)).p v B := by
  obtain ⟨a, vs, e, h, al⟩ := h
  exact ⟨a, vs, e, .inr h, Al.map (R := id) al⟩
theorem of_map {α : Type} {R : α → Up} {xs : List α} {v : V} {B : Hp} (h : (rOf (xs.map R)).p v B) : ∃ x ∈ xs, (R x).p v B := by
  obtain ⟨u, m, h⟩ := h
  obtain ⟨x, hx, rfl⟩ := List.mem_map.mp m
  exact ⟨x, hx, h⟩
theorem kix_or {X : Cx} (K : PySem.W.Frag) (hK : X.K = K) : IxR X (fun x y H Q => rIxL K x y H Q ∨ rIxT K x y H Q) := hK ▸ IxR.or ix_list ix_tup
section
variable {K : PySem.W.Frag} {σ : L2.St} {M B : Hp} {ta tb : TE}
theorem ev_lenSeq {us : List Up} (ha : Ev ta σ M B (rSeq us)) : Ev (tCB (rLenS K) (tCons ta tNil)) σ M B (rNat us.length) :=
  ev_cb1 ha fun x M1 B1 _ _ d ⟨a, vs, e, h, al⟩ Q q => ⟨a, vs, by rw [e], h.imp (fun h => SqL.of (jn_b d h)) (fun h => SqT.of (jn_b d h)), by rw [← al.length]; exact q⟩
theorem el_ixSeq {l : Addr} {us : List Up} {n : Nat} (hn : n ≤ us.length) (ha : EvL l ta σ M B (rSeq us)) (hb : EvL l tb σ M B (rEx (· < n) rNat)) : EvL l (tOp (fun x y H Q => rIxL K x y H Q ∨ rIxT K x y H Q) ta tb) σ M B (rOf us) :=
  el_op ha hb fun x y M1 B1 _ _ d ⟨a, vs, e, h, al⟩ ⟨i, hi, hy⟩ Q q => by
    have hi : i < us.length := Nat.lt_of_lt_of_le hi hn
    obtain ⟨w, hw, hr⟩ := al.get (List.getElem?_eq_getElem hi)
    have q' := q w B1 (Same.refl _) d ⟨us[i], List.getElem_mem hi, hr⟩
    rcases h with h | h
    · exact .inl ⟨a, vs, i, w, e, hy, SqL.of (jn_b d h), atI_nat hw, q'⟩
    · exact .inr ⟨a, vs, i, w, e, hy, SqT.of (jn_b d h), atI_nat hw, q'⟩
theorem ev_min {a b : Nat} (ha : Ev ta σ M B (rNat a)) (hb : Ev tb σ M B (rNat b)) : Ev (tCB (fun xs H Q => ∃ i j, xs = [.int i, .int j] ∧ Q (.int (if j < i then j else i)) H) (tCons ta (tCons tb tNil))) σ M B (rNat (min a b)) :=
  ev_cb2 ha hb fun x y M1 B1 _ _ _ hx hy Q q => ⟨a, b, by rw [show x = _ from hx, show y = _ from hy], by
    have e : (if (b : Int) < (a : Int) then (b : Int) else (a : Int)) = ((min a b : Nat) : Int) := by
      split <;> omega
    rw [e]
    exact q⟩
theorem ev_max {a b : Nat} (ha : Ev ta σ M B (rNat a)) (hb : Ev tb σ M B (rNat b)) : Ev (tCB (fun xs H Q => ∃ i j, xs = [.int i, .int j] ∧ Q (.int (if j > i then j else i)) H) (tCons ta (tCons tb tNil))) σ M B (rNat (max a b)) :=
  ev_cb2 ha hb fun x y M1 B1 _ _ _ hx hy Q q => ⟨a, b, by rw [show x = _ from hx, show y = _ from hy], by
    have e : (if (b : Int) > (a : Int) then (b : Int) else (a : Int)) = ((max a b : Nat) : Int) := by
      split <;> omega
    rw [e]
    exact q⟩
end
theorem Al.eraseIdx {α : Type} {R : α → Up} {B : Hp} {xs : List α} {vs : List V} (k : Nat) (h : Al R xs vs B) : Al R (xs.eraseIdx k) (vs.eraseIdx k) B := by
  rw [List.eraseIdx_eq_take_drop_succ, List.eraseIdx_eq_take_drop_succ]
  exact (h.take k).append (h.drop (k + 1))
theorem erase_perm {α : Type} {xs : List α} {k : Nat} (h : k < xs.length) : ([xs[k]] ++ xs.eraseIdx k).Perm xs := by
  have e : xs = xs.take k ++ xs[k] :: xs.drop (k + 1) := by rw [← List.drop_eq_getElem_cons h, List.take_append_drop]
  rw [List.eraseIdx_eq_take_drop_succ]
  have q : (xs[k] :: (xs.take k ++ xs.drop (k + 1))).Perm (xs.take k ++ xs[k] :: xs.drop (k + 1)) := List.perm_middle.symm
  exact q.trans (List.Perm.of_eq e.symm)
theorem upd3 {M : Hp} {p q l : Addr} {o1 o2 o3 u1 u2 : HO} (h1 : p ≠ q) (h2 : p ≠ l) (h3 : q ≠ l) : upd (upd (upd (upd (upd M p o1) q o2) l o3) p u1) q u2 = upd (upd (upd M p u1) q u2) l o3 := by
  rw [upd_swap h2, upd_swap h1, upd_upd, upd_swap h3, upd_upd]
theorem jnl_pub {l p : Addr} {B M : Hp} {o : HO} {t : Lt3} (h : M p = none) (ne : p ≠ l) : jn B (upd (upd M p o) l (lotO t)) = jn (upd B p o) (upd M l (lotO t)) := by
  rw [← upd_swap ne, jn_pub (by rw [upd_ne ne]; exact h)]
theorem DjL.ne {l p : Addr} {B M : Hp} {o : HO} (d : DjL l B (upd M p o)) : p ≠ l := fun e => (upd_none d.m).2 e.symm
theorem DjL.pub {l p : Addr} {B M : Hp} {o : HO} (d : DjL l B (upd M p o)) (h : M p = none) : DjL l (upd B p o) M where
  d := dj_b (dj_sub h d.d) h
  b := by rw [upd_ne (Ne.symm d.ne)]; exact d.b
  m := (upd_none d.m).1
abbrev s__law_one : Stmt := top 66
theorem sc__law_one : FnScope ["_law_lots_here", "_law_items"] ["_law_lots_here", "_law_items"] (defScope s__law_one) := ⟨rfl, rfl, rfl, by decide +kernel, rfl, by decide +kernel, by decide +kernel⟩
def sp_one : Sp := spL (α := List Up) (fun us => [rSeq us]) (fun us => us ≠ [] ∧ us.length ≤ 100000) rOf
abbrev s__law_some : Stmt := top 67
theorem sc__law_some : FnScope ["_law_lots_here", "_law_items", "_law_many", "_law_left", "_law_found", "_law_turn"] ["_law_lots_here", "_law_items", "_law_many"] (defScope s__law_some) := ⟨rfl, rfl, rfl, by decide +kernel, rfl, by decide +kernel, by decide +kernel⟩
/-- up to so many of some items, each place once, in some order -/
def sp_some : Sp := fun vs H Q _ => ∃ (α : Type) (R : α → Up) (xs : List α) (many : Nat) (B M : Hp) (l : Addr) (t : Lt3) (v1 v2 : V), H = jn B (upd M l (lotO t)) ∧ DjL l B M ∧ (xs.length ≤ 100000 ∧ many ≤ 1000) ∧ vs = [.ref l, v1, v2] ∧ (rLst R xs).p v1 B ∧ (rNat many).p v2 B ∧
  ∀ v ys rest t' B', Same B B' → DjL l B' M → (ys ++ rest).Perm xs → ys.length = min many xs.length → (rLst R ys).p v B' → Q v (jn B' (upd M l (lotO t')))
section
variable {P : Program} {w : World} {K : PySem.W.Frag} {mg : Str → Option Value} {base : Heap}
theorem c_one (D : Def K mg "_law_one" s__law_one) (T : Bt mg) (c_lot : Cal P w K mg base 1 "_law_lot" sp_lot) : Cal P w K mg base 2 "_law_one" sp_one :=
  cal_of D sc__law_one (fun _ _ _ _ _ _ us hl => match us, hl with | [_, _], _ => rfl) (spL_len fun _ => rfl) fun f cdv A outer s H vs Q E hr h => by
  obtain ⟨us, B, M, l, t, ws, rfl, d, ⟨hne, hle⟩, rfl, al, q⟩ := h
  have sc := sc__law_one
  refine ⟨_, (pss_one (ps_ret (pe_ix (kix_or K rfl) (pv 1) (pe_cal c_lot hr (by decide) (by rfl) (pa_cons (pv 0) (pa_cons (pe_callB (kc_len K rfl) (by rfl) T.len (by decide +kernel) (pa_cons (pv 1) pa_nil)) pa_nil))) (fun _ _ => rfl)))), ?_⟩
  cases al with
  | cons h1 al =>
    cases al
    exact l_ret (U := rOf us) (el_ixSeq (n := us.length) (Nat.le_refl _) (el_of (ev_v (U := rSeq us) rfl h1)) (el_call (A := fun n : Nat => [rNat n]) (R := fun n : Nat => rEx (· < n) rNat) us.length rfl (ea_cons (ev_lenSeq (ev_v (U := rSeq us) rfl h1)) ea_nil) ⟨List.length_pos_iff.mpr hne, hle⟩)) d q
theorem c_some (D : Def K mg "_law_some" s__law_some) (T : Bt mg) (c_lot : Cal P w K mg base 1 "_law_lot" sp_lot) : Cal P w K mg base 2 "_law_some" sp_some :=
  cal_of D sc__law_some (fun _ _ _ _ _ _ us hl => match us, hl with | [_, _, _], _ => rfl) (fun vs H Q E ⟨_, _, _, _, _, _, _, _, _, _, _, _, _, e, _⟩ => by rw [e]; rfl) fun f cdv A outer s H vs Q E hr h => by
  obtain ⟨α, R, xs, many, B, M, l, t, v1, v2, rfl, d, ⟨hx, hm⟩, rfl, h1, h2, q⟩ := h
  have sc := sc__law_some
  refine ⟨_, (pss_cons (ps_par (i := 3) (j := 4) rfl sc.nd rfl rfl (by decide) rfl rfl (pa_cons (pe_callTy (kc_list K rfl) (by rfl) T.list (by decide +kernel) (pa_cons (pv 1) pa_nil)) (pa_cons (pe_lst pa_nil) pa_nil)) (by rfl))
      (pss_cons (ps_for PassesOwn.never rfl (pi_range1 (by rfl) T.range (pa_cons (pe_callB (call_min2 rfl) (by rfl) T.min (by decide +kernel) (pa_cons (pv 2) (pa_cons (pe_callB (kc_len K rfl) (by rfl) T.len (by decide +kernel) (pa_cons (pv 1) pa_nil)) pa_nil))) pa_nil)) (pg_name (i := 5) sc.nd rfl (.inl rfl)) (pss_one (ps_expr (pe_bm PySem.F.plainAttrs_list PySem.F.slot_list_append PySem.F.type_list_append mt_append (pv 4) (pa_cons (pe_bm PySem.F.plainAttrs_list PySem.F.slot_list_pop PySem.F.type_list_pop mt_popAt (pv 3) (pa_cons (pe_cal c_lot hr (by decide) (by rfl) (pa_cons (pv 0) (pa_cons (pe_callB (kc_len K rfl) (by rfl) T.len (by decide +kernel) (pa_cons (pv 3) pa_nil)) pa_nil))) pa_nil)) pa_nil)))))
      (pss_one (ps_ret (pv 4))))), ?_⟩
  cases (show _ = _ from h2)
  obtain ⟨a1, ls, rfl, hl1, al1⟩ := id h1
  -- list(items), []
  refine ⟨_, rfl, a1, ls, rfl, .inl (SqL.of (jn_b (d.dj t) hl1)), fun pL hpL => ?_⟩
  rw [jn_updM]
  obtain ⟨hLm, hLb⟩ := jn_none hpL
  have neL : pL ≠ l := (upd_none hLm).2
  have hLm : M pL = none := (upd_none hLm).1
  refine ⟨by show 0 ≤ sizeLine; decide, fun pF hpF => ?_⟩
  rw [jn_updM]
  obtain ⟨hFm, hFb⟩ := jn_none hpF
  have neLF : pL ≠ pF := fun e => (upd_none hFm).2 e.symm
  have hFm := (upd_none hFm).1
  have neF : pF ≠ l := (upd_none hFm).2
  have hFm : M pF = none := (upd_none hFm).1
  refine ⟨_, _, rfl, ?_⟩
  have e0 : upd (upd (upd M l (lotO t)) pL (.lst ls)) pF (.lst []) = upd (upd (upd M pL (.lst ls)) pF (.lst [])) l (lotO t) := by rw [upd_swap neL, upd_swap neF]
  rw [e0]
  have dl : ∀ {B9 : Hp} {ws us : List V}, DjL l B9 M → B9 pL = none → B9 pF = none → DjL l B9 (upd (upd M pL (.lst ws)) pF (.lst us)) := fun d9 n1 n2 => ⟨dj_m (dj_m d9.d n1) n2, d9.b, by rw [upd_ne (Ne.symm neF), upd_ne (Ne.symm neL)]; exact d9.m⟩
  have d0 : DjL l B (upd (upd M pL (.lst ls)) pF (.lst [])) := dl d hLb hFb
  have atL : ∀ {ws us : List V}, upd (upd M pL (.lst ws)) pF (.lst us) pL = some (.lst ws) := by
    intro ws us
    rw [upd_ne neLF, upd_same]
  refine q_for (R := rNat) (xs := List.range (min many xs.length)) (ei_rng1 (ea_cons (ev_min (ev_v (U := rNat many) rfl rfl) (ev_lenL (ev_v (U := rLst R xs) rfl h1))) ea_nil) (by omega)) (d0.dj t)
    (fun i σ9 M9 B9 => ∃ o5 t9 ls9 fs9 rest ys, σ9 = [some _, some _, some _, some (.ref pL), some (.ref pF), o5] ∧ M9 = upd (upd (upd M pL (.lst ls9)) pF (.lst fs9)) l (lotO t9) ∧ Al R rest ls9 B9 ∧ Al R ys fs9 B9 ∧ (ys ++ rest).Perm xs ∧ ys.length = i)
    (fun i σ9 M9 B8 B9 s89 ⟨o5, t9, ls9, fs9, rest, ys, e1, e2, e3, e4, e5, e6⟩ => ⟨o5, t9, ls9, fs9, rest, ys, e1, e2, e3.up s89, e4.up s89, e5, e6⟩)
    (fun B9 b9 d9 => ⟨_, t, ls, [], xs, [], rfl, rfl, al1.up b9, .nil, .refl _, rfl⟩) (fun B0 i y v σ9 M9 B9 exi b0 b9 d9 hp hv => ?_) fun σ9 M9 B9 hp b9 d9 => ?_
  · obtain ⟨o5, t9, ls9, fs9, rest, ys, rfl, rfl, ar, ay, hperm, hlen⟩ := hp
    have hi := (List.getElem?_eq_some_iff.mp exi).1
    rw [List.length_range] at hi
    have hsum := hperm.length_eq
    rw [List.length_append] at hsum
    have hrest : 0 < rest.length := by omega
    have d9' : DjL l B9 (upd (upd M pL (.lst ls9)) pF (.lst fs9)) := DjL.of (by rw [upd_ne (Ne.symm neF), upd_ne (Ne.symm neL)]; exact d.m) d9
    refine ⟨_, rfl, .inl ⟨rfl, fs9, SqL.of (jn_m (by rw [upd_ne neF, upd_same]))⟩, _, rfl, .inl ⟨rfl, ls9, SqL.of (jn_m (by rw [upd_ne neL]; exact atL))⟩, ?_⟩
    have lotE := el_call (l := l) (σ := [some (.ref l), some (.ref a1), some (.int (many : Int)), some (.ref pL), some (.ref pF), some v]) (M := upd (upd M pL (.lst ls9)) pF (.lst fs9)) (B := B9) (E := E0) (A := fun n : Nat => [rNat n]) (R := fun n : Nat => rEx (· < n) rNat) (ok := fun n => 0 < n ∧ n ≤ 100000) (i := 0) ls9.length rfl (ea_cons (ev_lenM (K := K) (i := 3) (l := pL) (vs := ls9) rfl atL) ea_nil) ⟨by rw [← ar.length]; exact hrest, by rw [← ar.length]; omega⟩
    refine lotE _ B9 t9 (Same.refl _) (Same.refl _) d9' _ fun kv t2 B10 b10 d10 hk => ?_
    obtain ⟨k, hk, hkv⟩ := hk
    cases (show _ = _ from hkv)
    have hk2 : k < rest.length := by rw [ar.length]; exact hk
    obtain ⟨y1, hy1, hry⟩ := (ar.up b10).get (List.getElem?_eq_getElem hk2)
    refine ⟨pL, ls9, (k : Int), k, y1, rfl, rfl, jn_m (by rw [upd_ne neL]; exact atL), by omega, by omega, ?_, hy1, pF, fs9, y1, rfl, rfl, ?_, ?_, ?_⟩
    · exact seqIndex_of (by omega) (by omega)
    · rw [jn_updM]
      exact jn_m (by rw [upd_ne (Ne.symm neLF), upd_ne neF, upd_same])
    · exact Nat.lt_of_lt_of_le (show fs9.length < 100000 by rw [← ay.length]; omega) (by decide)
    · rw [jn_updM, jn_updM, upd3 neLF neL neF]
      have hn1 : B10 pL = none := dj_none d10.d atL
      have hn2 : B10 pF = none := dj_none d10.d upd_same
      have dM : DjL l B10 M := ⟨dj_sub hLm (dj_sub (by rw [upd_ne (Ne.symm neLF)]; exact hFm) d10.d), d10.b, d.m⟩
      refine ⟨_, B10, rfl, (dl dM hn1 hn2).dj t2, b9.trans b10, _, t2, _, _, rest.eraseIdx k, ys ++ [rest[k]], rfl, rfl, (ar.up b10).eraseIdx k, (ay.up b10).snoc hry, ?_, by rw [List.length_append, hlen]; rfl⟩
      refine List.Perm.trans ?_ hperm
      rw [List.append_assoc]
      exact List.Perm.append_left ys (erase_perm hk2)
  · obtain ⟨o5, t9, ls9, fs9, rest, ys, rfl, rfl, ar, ay, hperm, hlen⟩ := hp
    rw [List.length_range] at hlen
    have hmL : upd (upd M pL (.lst ls9)) pF (.lst fs9) l = none := by rw [upd_ne (Ne.symm neF), upd_ne (Ne.symm neL)]; exact d.m
    have d9' := DjL.of hmL d9
    rw [jnl_pub (by rw [upd_ne (Ne.symm neLF)]; exact hFm) neF]
    have d8 := d9'.pub (by rw [upd_ne (Ne.symm neLF)]; exact hFm)
    rw [jnl_pub hLm neL]
    have d7 := d8.pub hLm
    have s1 : Same B9 (upd B9 pF (.lst fs9)) := same_new (dj_none d9'.d upd_same)
    have s2 : Same (upd B9 pF (.lst fs9)) (upd (upd B9 pF (.lst fs9)) pL (.lst ls9)) := same_new (dj_none d8.d upd_same)
    refine s_ret (U := rLst R ys) (ev_v rfl ⟨pF, fs9, rfl, s2 _ _ upd_same, ay.up (s1.trans s2)⟩) (d7.dj t9) fun v B10 b10 d10 hv10 => ?_
    exact q v ys rest t9 B10 (b9.trans (s1.trans (s2.trans b10))) (DjL.of d.m d10) hperm hlen hv10
end
end Zb
end
section
set_option Elab.async false
set_option linter.all false
set_option maxRecDepth 100000
/-! Zr5: list(d.values()), list(d.items()), d read only (frozen or not). -/
namespace Zb
open PySem PySem.Spec PyProof.Rows L2 LiI
def tListVals (te : TE) : TE := fun σ H Q => te σ H fun x H1 => ∃ (d : Addr) (kvs : List (Key × V)), x = .ref d ∧ Rd H1 d (.dK kvs) ∧ ∀ p, H1 p = none → Q (.ref p) (upd H1 p (.lst (kvs.map (·.2))))
def tListItemsR (te : TE) : TE := fun σ H Q => te σ H fun x H1 => ∃ (d : Addr) (kvs : List (Key × V)), x = .ref d ∧ Rd H1 d (.dK kvs) ∧
  ∀ (H' : Hp) (p : Addr) (ts : List Addr), Same H1 H' → H1 p = none → (∀ t ∈ ts, H1 t = none) → p ∉ ts → H' p = some (.lst (ts.map V.ref)) → Paired (fun (t : Addr) (q : Key × V) => H' t = some (.tup [kV q.1, q.2])) ts kvs → Q (.ref p) H'
theorem vals_second : ∀ {kvs : List (Key × V)} {vs : List (Key × Value)}, KV kvs vs → Vals (kvs.map (·.2)) (vs.map (·.2))
  | _, _, .nil => .nil
  | _, _, .cons h t => .cons h.2 (vals_second t)
section
variable {X : Cx} {e : Expr} {te : TE} {p apos cpos pos : Pos}
theorem pe_listVals (hc : X.calm = true) (he : PE X e te) (hg : Gl X "list") (hm : X.mg "list" = none) (hbase : attributeBase e "values" X.env (eval e X.env) = eval e X.env := by rfl) (hline : (apos.endLine == cpos.line) = true := by rfl)
    (hs : starEach [.Call (.Attribute e "values" apos) [] [] cpos] X.env = (false, eval (.Call (.Attribute e "values" apos) [] [] cpos) X.env) :: starEach [] X.env := by rfl) :
    PE X (.Call (.Name "list" p) [.Call (.Attribute e "values" apos) [] [] cpos] [] pos) (tListVals te) := by
  refine ⟨fun pins s σ H Q I hq => ?_⟩
  refine wpAny_Call_Name_kw (ld_blt I hg hm (by rfl) (PyProof.Rows.callWith_type1 ?_ hs rfl))
  rw [hs]
  show wpAny _ _ (spliced ((false, eval (.Call (.Attribute e "values" apos) [] [] cpos) X.env) :: backTo pos (starEach [] X.env))) _ _ s
  refine Calls.spliced_cons (wpAny_Call_method (T := "dict") (id := "dict.values") hbase rfl hline PySem.F.plainAttrs_dict PySem.F.slot_dict_values PySem.F.type_dict_values (thn (he.run pins s σ H _ I hq) fun u s1 ⟨x, H1, I1, rx, d, kvs, ex, hd, q⟩ => ?_))
  subst ex
  obtain rfl : u = Value.ref d := rx
  obtain ⟨hz, hs0, vs, kv, hdo⟩ := dk_rd I1.hok hd
  obtain ⟨ep, hat⟩ := hdo.dictAt
  have lk : kvs.length = vs.length := Paired.length kv
  refine ⟨hdo.typeIs, hdo.mapOf.noDict, ?_⟩
  show wpAny _ _ (callWith cpos (.builtin "dict.values") [.ref d] [] []) _ X.xe s1
  refine method_meetsIn PySem.F.slot_dict_values PySem.F.entry_dict_values rfl (PySem.evalArgs_none ⟨rfl, hdo.typeIs, PySem.F.args_dict_values_1 _, _, meets_dict_values (mixKind X.prog X.w) d hs0, ⟨vs, hdo⟩, ?_⟩)
  refine Calls.spliced_nil ?_
  have I2 : Inv X pins σ H1 { s1 with heap := s1.heap.push { cls := .type "dict_values", data := .fields #[.ref d] } } := I1.kept (t' := s1.toks) fun b ob q => Heap.get?_push_of_some _ q
  refine PySem.W.kdl_call (PySem.W.kdl_values (knd := mixKind X.prog X.w) (r := s1.heap.objs.size) (kvs := vs) (ep := ep)) (I1.ok.hd hc) ⟨⟨_, Heap.get?_push_size _ rfl, rfl, rfl⟩, hat.push _⟩ (by omega) fun h' tk acc c hk hD hacc => ?_
  have hv : acc.toList = vs.map (·.2) := PySem.W.kdl_vals_eq acc.toList (by rw [Array.length_toList]; exact hacc.1) fun j v e => hacc.2 j v (by rw [← Array.getElem?_toList]; exact e)
  refine ⟨.ref _, _, I2.laid (t' := tk) (o := .lst (kvs.map (·.2))) hk (Nat.le_refl _) ⟨by rw [List.length_map]; exact hz, acc.toList, c, by rw [hv]; exact vals_second kv, by rw [Array.toArray_toList]; exact hD⟩, rfl, q _ (I2.hok.fresh (Nat.le_refl _))⟩
theorem pe_listItemsR (hc : X.calm = true) (he : PE X e te) (hg : Gl X "list") (hm : X.mg "list" = none) (hbase : attributeBase e "items" X.env (eval e X.env) = eval e X.env := by rfl) (hline : (apos.endLine == cpos.line) = true := by rfl)
    (hs : starEach [.Call (.Attribute e "items" apos) [] [] cpos] X.env = (false, eval (.Call (.Attribute e "items" apos) [] [] cpos) X.env) :: starEach [] X.env := by rfl) :
    PE X (.Call (.Name "list" p) [.Call (.Attribute e "items" apos) [] [] cpos] [] pos) (tListItemsR te) := by
  refine ⟨fun pins s σ H Q I hq => ?_⟩
  refine wpAny_Call_Name_kw (ld_blt I hg hm (by rfl) (PyProof.Rows.callWith_type1 ?_ hs rfl))
  rw [hs]
  show wpAny _ _ (spliced ((false, eval (.Call (.Attribute e "items" apos) [] [] cpos) X.env) :: backTo pos (starEach [] X.env))) _ _ s
  refine Calls.spliced_cons (wpAny_Call_method (T := "dict") (id := "dict.items") hbase rfl hline PySem.F.plainAttrs_dict PySem.F.slot_dict_items PySem.F.type_dict_items (thn (he.run pins s σ H _ I hq) fun u s1 ⟨x, H1, I1, rx, d, kvs, ex, hd, q⟩ => ?_))
  subst ex
  obtain rfl : u = Value.ref d := rx
  obtain ⟨hz, hs0, vs, kv, hdo⟩ := dk_rd I1.hok hd
  obtain ⟨ep, hat⟩ := hdo.dictAt
  have lk : kvs.length = vs.length := Paired.length kv
  refine ⟨hdo.typeIs, hdo.mapOf.noDict, ?_⟩
  show wpAny _ _ (callWith cpos (.builtin "dict.items") [.ref d] [] []) _ X.xe s1
  refine method_meetsIn PySem.F.slot_dict_items PySem.F.entry_dict_items rfl (PySem.evalArgs_none ⟨rfl, hdo.typeIs, PySem.F.args_dict_items_1 _, _, meets_dict_items (mixKind X.prog X.w) d hs0, ⟨vs, hdo⟩, ?_⟩)
  refine Calls.spliced_nil ?_
  have I2 : Inv X pins σ H1 { s1 with heap := s1.heap.push { cls := .type "dict_items", data := .fields #[.ref d] } } := I1.kept (t' := s1.toks) fun b ob q => Heap.get?_push_of_some _ q
  refine PySem.W.kdx_call (knd := mixKind X.prog X.w) (kvs := vs) (ep := ep) (I1.ok.hd hc) ⟨_, Heap.get?_push_size _ rfl, rfl, rfl⟩ (hat.push _) (by omega) fun h' tk acc c as hk hS hl hG hacc => ?_
  obtain ⟨H', k1, k2, k3, k4, k5, k6, J⟩ := items_laid (tk := tk) I2 hz kv hk hS hl hG hacc
  exact ⟨.ref _, H', J, rfl, q H' _ as k1 k2 k3 k4 k5 k6⟩
end
/-! ### over rows -/
section
variable {K : PySem.W.Frag} {σ : L2.St} {M B : Hp} {ta tb : TE}
theorem en_listVals {r : Row} (ha : Ev ta σ M B (rRow r)) : EvN (tListVals ta) σ M B (Al rNat (r.map (·.2))) := fun M1 B1 m b d Q q => ha M1 B1 m b d _ fun v B2 b2 d2 ⟨a, od, e, h⟩ => ⟨a, rowK r, e, .inr ⟨od, jn_b d2 h⟩, fun p hp => by
  obtain ⟨hm, hb⟩ := jn_none hp
  rw [jn_updM]
  refine q p _ B2 b2 d2 hm hb ?_
  unfold rowK
  rw [List.map_map]
  have := al_nats (xs := r.map (·.2)) (B := B2)
  rw [List.map_map] at this
  exact this⟩
end
end Zb
end
section
set_option Elab.async false
set_option linter.all false
set_option maxRecDepth 100000
/-! Zl3: the walk: _law_from, _law_useful, _law_trimmed. -/
namespace Zb
open PySem PySem.Spec PyProof.Rows L2 SlX

/-- a plain machine: a list of pairs -/
abbrev rRs (m : Mach) : Up := rLst (rPr rRow rBl) m
theorem mach_at {m : Mach} {i : Nat} (h : i < m.length) : m[i]? = some (rowAt m i, lastAt m i) := by
  rw [List.getElem?_eq_getElem h, rowAt_get h, lastAt_get h]
section
variable {K : PySem.W.Frag} {σ : L2.St} {M B : Hp} {ta tb : TE}
theorem ev_cat {α : Type} {R : α → Up} {xs ys : List α} (ha : Ev ta σ M B (rLst R xs)) (hb : Ev tb σ M B (rLst R ys)) (hl : xs.length + ys.length ≤ 100000) : Ev (tOp rCat ta tb) σ M B (rLst R (xs ++ ys)) :=
  ev_op ha hb fun v y M1 B1 _ _ d ⟨a, vs, ev, h, al⟩ ⟨a2, ws, ev2, h2, al2⟩ Q q => ⟨a, a2, vs, ws, ev, ev2, jn_b d h, jn_b d h2, by
    rw [← al.length, ← al2.length]
    exact Nat.le_trans hl (by decide), fun p hp => by
    obtain ⟨hm, hb⟩ := jn_none hp
    rw [jn_updB hm]
    exact q _ _ (same_new hb) (dj_b d hm) ⟨p, _, rfl, upd_same, (al.append al2).up (same_new hb)⟩⟩
theorem ev_nilL {α : Type} (R : α → Up) : Ev (tLst tNil) σ M B (rLst R []) := EvN.lst ((en_lst ea_nil (by show 0 ≤ 1000; decide)).to fun vs B1 h => by cases h; exact .nil)
theorem ev_rsRow {m : Mach} {i : Nat} (ha : Ev ta σ M B (rRs m)) (hb : Ev tb σ M B (rNat i)) (h : i < m.length) : Ev (tOp (rIxT K) (tOp (rIxL K) ta tb) (tC (.int 0))) σ M B (rRow (rowAt m i)) :=
  ev_ix0 (x := (rowAt m i, lastAt m i)) (ev_ixL (R := rPr rRow rBl) ha hb (mach_at h)) ev_c
theorem ev_rsLast {m : Mach} {i : Nat} (ha : Ev ta σ M B (rRs m)) (hb : Ev tb σ M B (rNat i)) (h : i < m.length) : Ev (tOp (rIxT K) (tOp (rIxL K) ta tb) (tC (.int 1))) σ M B (rBl (lastAt m i)) :=
  ev_ix1 (x := (rowAt m i, lastAt m i)) (ev_ixL (R := rPr rRow rBl) ha hb (mach_at h)) ev_c
end
/-! ### the growth of what is led to -/
def Closed (m : Mach) (F : List Nat) : Prop := ∀ x ∈ F, ∀ q ∈ rowAt m x, q.2 ∈ F
structure FrI (m : Mach) (s i : Nat) (F : List Nat) : Prop where
  asc : F.Pairwise (· < ·)
  has : s ∈ F
  pth : ∀ x ∈ F, x < m.length ∧ Pth m s x
  big : Closed m F ∨ i + 1 ≤ F.length
theorem FrI.zero {m : Mach} {s : Nat} (h : s < m.length) : FrI m s 0 [s] := ⟨by simp, List.mem_singleton.mpr rfl, fun x hx => by rw [List.mem_singleton.mp hx]; exact ⟨h, .refl s⟩, .inr (Nat.le_refl _)⟩
theorem FrI.next {m : Mach} (wf : Wf m) {s i : Nat} {F : List Nat} (h : FrI m s i F) : FrI m s (i + 1) (below m.length (F ++ outs m F)) := by
  have inF : ∀ x ∈ F, x ∈ below m.length (F ++ outs m F) := fun x hx => mem_below.mpr ⟨(h.pth x hx).1, List.mem_append_left _ hx⟩
  have ofO : ∀ x, x ∈ outs m F → ∃ y ∈ F, ∃ q ∈ rowAt m y, q.2 = x := fun x hx => by
    obtain ⟨y, hy, hx⟩ := List.mem_flatMap.mp hx
    obtain ⟨q, hq, e⟩ := List.mem_map.mp hx
    exact ⟨y, hy, q, hq, e⟩
  refine ⟨below_asc, inF s h.has, fun x hx => ?_, ?_⟩
  · obtain ⟨hl, hx⟩ := mem_below.mp hx
    refine ⟨hl, ?_⟩
    rcases List.mem_append.mp hx with hx | hx
    · exact (h.pth x hx).2
    · obtain ⟨y, hy, q, hq, rfl⟩ := ofO x hx
      exact .snoc (c := q.1) (h.pth y hy).2 hq
  · by_cases c : Closed m F
    · have e : below m.length (F ++ outs m F) = F := asc_eq below_asc h.asc fun k => ⟨fun hk => by
        obtain ⟨_, hk⟩ := mem_below.mp hk
        rcases List.mem_append.mp hk with hk | hk
        · exact hk
        · obtain ⟨y, hy, q, hq, rfl⟩ := ofO k hk
          exact c y hy q hq, inF k⟩
      rw [e]
      exact .inl c
    · have hb : i + 1 ≤ F.length := h.big.resolve_left c
      have : ∃ x ∈ F, ∃ q ∈ rowAt m x, q.2 ∉ F := Classical.byContradiction fun n => c fun x hx q hq => Classical.byContradiction fun z => n ⟨x, hx, q, hq, z⟩
      obtain ⟨x, hx, q, hq, hn⟩ := this
      have nd : (q.2 :: F).Nodup := List.nodup_cons.mpr ⟨hn, h.asc.imp fun h => Nat.ne_of_lt h⟩
      have := sub_len (L := below m.length (F ++ outs m F)) nd fun z hz => by
        rcases List.mem_cons.mp hz with rfl | hz
        · exact mem_below.mpr ⟨(wf.at x).to q hq, List.mem_append_right _ (List.mem_flatMap.mpr ⟨x, hx, List.mem_map.mpr ⟨q, hq, rfl⟩⟩)⟩
        · exact inF z hz
      rw [List.length_cons] at this
      exact .inr (by omega)
theorem FrI.end {m : Mach} {s : Nat} {F : List Nat} (h : FrI m s m.length F) : F = reachL m s := by
  have hl := nodup_le (h.asc.imp fun h => Nat.ne_of_lt h) fun x hx => (h.pth x hx).1
  have c : Closed m F := h.big.resolve_right (by omega)
  refine asc_eq h.asc reachL_asc fun k => ⟨fun hk => mem_reachL.mpr (h.pth k hk), fun hk => ?_⟩
  have p := (mem_reachL.mp hk).2
  clear hk
  induction p with
  | refl => exact h.has
  | snoc _ e ih => exact c _ ih _ e
theorem outs_snoc {m : Mach} {F : List Nat} {i x : Nat} (h : F[i]? = some x) : outs m (F.take (i + 1)) = outs m (F.take i) ++ (rowAt m x).map (·.2) := by
  unfold outs
  rw [take_snoc h, List.flatMap_append, List.flatMap_singleton]
theorem outs_le {m : Mach} (w : Wf m) (F : List Nat) : (outs m F).length ≤ 5 * F.length := by
  unfold outs
  rw [List.length_flatMap]
  have := sum_le (f := fun s => ((rowAt m s).map fun q : Nat × Nat => q.2).length) (c := 5) (xs := F) fun s _ => by rw [List.length_map]; exact (w.at s).len
  omega
theorem del_upd {X : Hp} {h : Addr} {o : HO} (hx : X h = none) : del (upd X h o) h = X := by
  funext a
  by_cases e : a = h
  · rw [e, del_same, hx]
  · rw [del_ne e, upd_ne e]
theorem trimR_snoc {kept : List Nat} {r : Row} {i : Nat} {q : Nat × Nat} (h : r[i]? = some q) : trimR kept (r.take (i + 1)) = trimR kept (r.take i) ++ if q.2 ∈ kept then [(q.1, kept.idxOf q.2)] else [] := by
  unfold trimR
  rw [take_snoc h, List.filter_append, List.map_append]
  congr 1
  by_cases e : q.2 ∈ kept
  · rw [if_pos e]
    simp [e]
  · rw [if_neg e]
    simp [e]
noncomputable def trimOf (m : Mach) (c : Nat) : Mach := if dec (Usf m 0) = true then trimM m else [([(c, 0)], true)]
abbrev s__law_from : Stmt := top 68
theorem sc__law_from : FnScope ["_law_rows", "_law_state", "_law_found", "_law_turn", "_law_near", "_law_at"] ["_law_rows", "_law_state"] (defScope s__law_from) := ⟨rfl, rfl, rfl, by decide +kernel, rfl, by decide +kernel, by decide +kernel⟩
def sp_from : Sp := spF (α := Mach × Nat) (fun x => [rRs x.1, rNat x.2]) (fun x => Wf x.1 ∧ x.1.length ≤ 8 ∧ x.2 < x.1.length) (fun x => rLst rNat (reachL x.1 x.2))
abbrev s__law_useful : Stmt := top 69
theorem sc__law_useful : FnScope ["_law_rows", "_law_state", "_law_at"] ["_law_rows", "_law_state"] (defScope s__law_useful) := ⟨rfl, rfl, rfl, by decide +kernel, rfl, by decide +kernel, by decide +kernel⟩
def sp_lawUseful : Sp := spF (α := Mach × Nat) (fun x => [rRs x.1, rNat x.2]) (fun x => Wf x.1 ∧ x.1.length ≤ 8 ∧ x.2 < x.1.length) (fun x => rBl (dec (Usf x.1 x.2)))
abbrev s__law_trimmed : Stmt := top 70
theorem sc__law_trimmed : FnScope ["_law_rows", "_law_sign", "_law_kept", "_law_found", "_law_at", "_law_moves", "_law_here"] ["_law_rows", "_law_sign"] (defScope s__law_trimmed) := ⟨rfl, rfl, rfl, by decide +kernel, rfl, by decide +kernel, by decide +kernel⟩
def sp_trimmed : Sp := spF (α := Mach × Nat) (fun x => [rRs x.1, rTx [x.2]]) (fun x => Wf x.1 ∧ x.1.length ≤ 8) (fun x => rRs (trimOf x.1 x.2))
section
variable {P : Program} {w : World} {K : PySem.W.Frag} {mg : Str → Option Value} {base : Heap}
theorem c_from (D : Def K mg "_law_from" s__law_from) (T : Bt mg) : Cal P w K mg base 1 "_law_from" sp_from :=
  cal_of D sc__law_from (fun _ _ _ _ _ _ us hl => match us, hl with | [_, _], _ => rfl) (spF_len fun _ => rfl) fun f cdv A outer s H vs Q E hr h => by
  obtain ⟨⟨m, st⟩, B, M, rfl, d, ⟨wf, h8, hs⟩, al, q⟩ := h
  have wf : Wf m := wf
  have h8 : m.length ≤ 8 := h8
  have hs : st < m.length := hs
  have sc := sc__law_from
  refine ⟨_, (pss_cons (ps_set (i := 2) sc.nd rfl (.inl rfl) (pe_lst (pa_cons (pv 1) pa_nil)))
      (pss_cons (ps_for PassesOwn.never rfl (pi_range1 (by rfl) T.range (pa_cons (pe_callB (kc_len K rfl) (by rfl) T.len (by decide +kernel) (pa_cons (pv 0) pa_nil)) pa_nil)) (pg_name (i := 3) sc.nd rfl (.inl rfl)) (pss_cons (ps_set (i := 4) sc.nd rfl (.inl rfl) (pe_callTy (kc_list K rfl) (by rfl) T.list (by decide +kernel) (pa_cons (pv 2) pa_nil)))
      (pss_cons (ps_for PassesOwn.never rfl (kpi_list K rfl (pv 2)) (pg_name (i := 5) sc.nd rfl (.inl rfl)) (pss_one (ps_set (i := 4) sc.nd rfl (.inl rfl) (pe_op op_cat (pv 4) (pe_listVals rfl (pe_ix (kix_tup K rfl) (pe_ix (kix_list K rfl) (pv 0) (pv 5) (fun _ _ => rfl)) pe_int (fun _ _ => rfl)) (by rfl) T.list)))))
      (pss_one (ps_set (i := 2) sc.nd rfl (.inl rfl) (pe_callB (cr_sortedSet rfl) (by rfl) T.sorted (by decide +kernel) (pa_cons (pe_callTy (cr_setL rfl) (by rfl) T.set (by decide +kernel) (pa_cons (pv 4) pa_nil)) pa_nil)))))))
      (pss_one (ps_ret (pv 2))))), ?_⟩
  cases al with
  | cons h1 al => cases al with
  | cons h2 al =>
    cases al
    refine q_asg (U := rLst rNat [st]) (EvN.lst (EvN.to (en_lst (ea_cons (ev_v (U := rNat st) rfl h2) ea_nil) (by show 1 ≤ 1000; decide)) fun vs B1 h => by cases h with | cons a b => (cases b; exact .cons a .nil))) d fun vF B1 b1 d1 hF => ?_
    refine q_for (R := rNat) (xs := List.range m.length) (ei_rng1 (ea_cons (ev_lenL (R := rPr rRow rBl) (xs := m) (ev_v (U := rRs m) rfl ((rRs m).up b1 h1))) ea_nil) (by omega)) d1
      (fun i σ9 M9 B9 => M = M9 ∧ ∃ vF F o3 o4 o5, σ9 = [some _, some _, some vF, o3, o4, o5] ∧ (rLst rNat F).p vF B9 ∧ FrI m st i F)
      (fun i σ9 M9 B8 B9 s89 ⟨e, vF, F, o3, o4, o5, e1, e2, e3⟩ => ⟨e, vF, F, o3, o4, o5, e1, (rLst rNat F).up s89 e2, e3⟩) (fun B9 b9 d9 => ⟨rfl, vF, [st], _, _, _, rfl, (rLst rNat [st]).up b9 hF, FrI.zero hs⟩) (fun B0 i y v σ9 M9 B9 exi b0 b9 d9 hp hv => ?_) fun σ9 M9 B9 hp b9 d9 => ?_
    · obtain ⟨rfl, vF, F, o3, o4, o5, rfl, hF, fr⟩ := hp
      have hFl : F.length ≤ m.length := nodup_le (fr.asc.imp fun h => Nat.ne_of_lt h) fun x hx => (fr.pth x hx).1
      have hol := outs_le wf F
      have sB : Same B B9 := b1.trans (b0.trans b9)
      refine q_asg (U := rLst rNat F) (EvN.lst (en_listL (ev_v (U := rLst rNat F) rfl hF))) d9 fun vN B10 b10 d10 hN => ?_
      refine q_for (R := rNat) (xs := F) (ei_list (ev_v (U := rLst rNat F) rfl ((rLst rNat F).up b10 hF))) d10
        (fun j σ9 M9 B9 => M = M9 ∧ ∃ vN o5, σ9 = [some _, some _, some vF, some v, some vN, o5] ∧ (rLst rNat (F ++ outs m (F.take j))).p vN B9)
        (fun j σ9 M9 B8 B9 s89 ⟨e, vN, o5, e1, e2⟩ => ⟨e, vN, o5, e1, (rLst rNat (F ++ outs m (F.take j))).up s89 e2⟩) (fun B11 b11 d11 => ⟨rfl, vN, _, rfl, by rw [show F ++ outs m (F.take 0) = F by rw [List.take_zero]; exact List.append_nil F]; exact (rLst rNat F).up b11 hN⟩) (fun B0' j x z σ9 M9 B11 exj b0' b11 d11 hp hz => ?_) fun σ9 M9 B11 hp b11 d11 => ?_
      · obtain ⟨rfl, vN, o5, rfl, hN⟩ := hp
        have hx : x ∈ F := List.mem_of_getElem? exj
        have ho2 := outs_le wf (F.take j)
        rw [List.length_take] at ho2
        have hrl := (wf.at x).len
        refine s_asg (U := rLst rNat ((F ++ outs m (F.take j)) ++ (rowAt m x).map (·.2))) (ev_cat (ev_v (U := rLst rNat (F ++ outs m (F.take j))) rfl hN) (EvN.lst (en_listVals (ev_rsRow (ev_v (U := rRs m) rfl ((rRs m).up (sB.trans (b10.trans (b0'.trans b11))) h1)) (ev_v (U := rNat x) rfl hz) (fr.pth x hx).1))) (by rw [List.length_append, List.length_map]; omega)) d11 fun vN2 B12 b12 d12 hN2 => ?_
        refine ⟨_, B12, rfl, d12, b11.trans b12, rfl, vN2, _, rfl, ?_⟩
        rw [outs_snoc exj, ← List.append_assoc]
        exact hN2
      · obtain ⟨rfl, vN, o5, rfl, hN⟩ := hp
        rw [List.take_length] at hN
        refine s_asg (U := rLst rNat (below m.length (F ++ outs m F))) (EvN.lst (en_sortSetN (ev_v (U := rLst rNat (F ++ outs m F)) rfl hN) (by rw [List.length_append]; omega) fun k hk => ?_)) d11 fun v2 B12 b12 d12 hv2 => ?_
        · rcases List.mem_append.mp hk with hk | hk
          · exact (fr.pth k hk).1
          · obtain ⟨y, hy, hk⟩ := List.mem_flatMap.mp hk
            obtain ⟨q, hq, rfl⟩ := List.mem_map.mp hk
            exact (wf.at y).to q hq
        · exact ⟨_, B12, rfl, d12, b9.trans (b10.trans (b11.trans b12)), rfl, v2, _, _, _, _, rfl, hv2, fr.next wf⟩
    · obtain ⟨rfl, vF, F, o3, o4, o5, rfl, hF, fr⟩ := hp
      rw [List.length_range] at fr
      have e := fr.end
      subst e
      exact s_ret (U := rLst rNat (reachL m st)) (ev_v rfl hF) d9 fun v B10 b10 d10 hv => q v B10 (b1.trans (b9.trans b10)) d10 hv
theorem c_lawUseful (D : Def K mg "_law_useful" s__law_useful) (T : Bt mg) (c_from : Cal P w K mg base 1 "_law_from" sp_from) : Cal P w K mg base 2 "_law_useful" sp_lawUseful :=
  cal_of D sc__law_useful (fun _ _ _ _ _ _ us hl => match us, hl with | [_, _], _ => rfl) (spF_len fun _ => rfl) fun f cdv A outer s H vs Q E hr h => by
  obtain ⟨⟨m, st⟩, B, M, rfl, d, ⟨wf, h8, hs⟩, al, q⟩ := h
  have wf : Wf m := wf
  have h8 : m.length ≤ 8 := h8
  have hs : st < m.length := hs
  have sc := sc__law_useful
  have hu64 := Nat.lt_of_succ_lt (room_u hr)
  refine ⟨_, (pss_one (ps_ret (pe_cmpR (op_neD hu64) (pe_lc (own := [("_law_at", 2)]) rfl sc.nd (kpi_list K rfl (pe_cal c_from hr (by decide) (by rfl) (pa_cons (pv 0) (pa_cons (pv 1) pa_nil)))) (blkOk_by (by kernel_rfl)) (fun _ _ _ _ _ => (pg_name (i := 2) sc.nd rfl (.inl rfl))) (fun _ _ _ _ _ => (pts_one (pt_val (pe_ix (kix_tup K rfl) (pe_ix (kix_list K rfl) (pv 0) (pv 2) (fun _ _ => rfl)) pe_int (fun _ _ => rfl))))) (fun _ _ _ _ _ => (pv 2))) (pe_lst pa_nil) (nomark _)))), ?_⟩
  cases al with
  | cons h1 al => cases al with
  | cons h2 al =>
    cases al
    have hl : (reachL m st).length ≤ m.length := nodup_le (reachL_asc.imp fun h => Nat.ne_of_lt h) fun x hx => (mem_reachL.mp hx).1
    have e : (!decide ((reachL m st).filter (fun t => lastAt m t) = [])) = dec (Usf m st) := by
      refine dec_eq ?_
      simp only [Bool.not_eq_true', decide_eq_false_iff_not]
      constructor
      · intro h
        obtain ⟨x, hx⟩ := List.exists_mem_of_ne_nil _ h
        obtain ⟨hx, hl⟩ := List.mem_filter.mp hx
        exact ⟨x, (mem_reachL.mp hx).2, hl⟩
      · rintro ⟨x, p, hl⟩ h
        have : x ∈ (reachL m st).filter (fun t => lastAt m t) := List.mem_filter.mpr ⟨mem_reachL.mpr ⟨p.lt wf hs, p⟩, hl⟩
        rw [h] at this
        cases this
    refine s_ret (U := rBl (dec (Usf m st))) (Ev.to (ev_neLn (K := K) (xs := (reachL m st).filter fun t => lastAt m t) (ys := []) (EvN.lst (en_lc (R := rNat) (S := rNat) (xs := reachL m st) (f := fun t => lastAt m t) (ei_list (ev_call (A := fun x : Mach × Nat => [rRs x.1, rNat x.2]) (R := fun x : Mach × Nat => rLst rNat (reachL x.1 x.2)) (m, st) (ea_cons (ev_v (U := rRs m) rfl h1) (ea_cons (ev_v (U := rNat st) rfl h2) ea_nil)) ⟨wf, h8, hs⟩)) (by omega) (fun _ => rfl) (fun t ht v6 M6 B6 _ b6 hv6 => et_test (ev_rsLast (ev_v (U := rRs m) rfl ((rRs m).up b6 h1)) (ev_v (U := rNat t) rfl hv6) (mem_reachL.mp ht).1)) fun t ht _ v6 M6 B6 _ b6 hv6 => ev_v (U := rNat t) rfl hv6)) (ev_nilL rNat)) fun v B2 _ hv => by rw [← e]; exact hv) d fun v B2 b2 d2 hv => q v B2 b2 d2 hv
end
end Zb
end
section
set_option Elab.async false
set_option linter.all false
set_option maxRecDepth 100000
/-! Zl4: the walk: _law_trimmed. -/
namespace Zb
open PySem PySem.Spec PyProof.Rows L2 SlX
section
variable {K : PySem.W.Frag} {σ : L2.St} {M B : Hp} {tk tv : TE}
theorem ev_dispRow {c t : Nat} (hk : Ev tk σ M B (rTx [c])) (hv : Ev tv σ M B (rNat t)) : Ev (tFrzV (tDisp [(tk, tv)])) σ M B (rRow [(c, t)]) := fun M1 B1 m b d Q q p hp => by
  obtain ⟨hm, hb⟩ := jn_none hp
  rw [jn_updM]
  have d1 : Dj B1 (upd M1 p (.dK [])) := dj_m d hb
  refine hk _ B1 (m.trans (same_new hm)) b d1 _ fun y B2 b2 d2 hy => hv _ B2 (m.trans (same_new hm)) (b.trans b2) d2 _ fun z B3 b3 d3 hz => ⟨jn_m upd_same, [(Sum.inr (tx [c]), z)], by rw [show y = _ from hy]; rfl, by show 1 ≤ 15; decide, p, .dK [(Sum.inr (tx [c]), z)], rfl, upd_same, trivial, fun od => ?_⟩
  cases (show z = _ from hz)
  rw [upd_upd, jn_updM, upd_upd, jn_pub hm]
  exact q _ _ (b2.trans (b3.trans (same_new (dj_none d3 upd_same)))) (dj_b (dj_sub hm d3) hm) ⟨p, od, rfl, upd_same⟩
end
theorem trimR_new {kept : List Nat} {r : Row} {j : Nat} {q : Nat × Nat} (asc : (r.map (·.1)).Pairwise (· < ·)) (h : r[j]? = some q) : q.1 ∉ (trimR kept (r.take j)).map fun q : Nat × Nat => q.1 := fun hm => by
  obtain ⟨p, hp, e⟩ := List.mem_map.mp hm
  unfold trimR at hp
  obtain ⟨p0, hp0, rfl⟩ := List.mem_map.mp hp
  obtain ⟨a, ha, ea⟩ := take_in (List.mem_filter.mp hp0).1
  have e1 : (r.map (·.1))[a]? = some p0.1 := by rw [List.getElem?_map, ea]; rfl
  have e2 : (r.map (·.1))[j]? = some q.1 := by rw [List.getElem?_map, h]; rfl
  have := pw_at asc e1 e2 ha
  have e : p0.1 = q.1 := e
  omega
section
variable {P : Program} {w : World} {K : PySem.W.Frag} {mg : Str → Option Value} {base : Heap}
theorem c_trimmed (D : Def K mg "_law_trimmed" s__law_trimmed) (T : Bt mg) (c_from : Cal P w K mg base 1 "_law_from" sp_from) (c_useful : Cal P w K mg base 2 "_law_useful" sp_lawUseful) : Cal P w K mg base 3 "_law_trimmed" sp_trimmed :=
  cal_of D sc__law_trimmed (fun _ _ _ _ _ _ us hl => match us, hl with | [_, _], _ => rfl) (spF_len fun _ => rfl) fun f cdv A outer s H vs Q E hr h => by
  obtain ⟨⟨m, c⟩, B, M, rfl, d, ⟨wf, h8⟩, al, q⟩ := h
  have wf : Wf m := wf
  have h8 : m.length ≤ 8 := h8
  have sc := sc__law_trimmed
  have hu := room_1 hr
  refine ⟨_, (pss_cons (ps_if (pt_not (pt_val (pe_cal c_useful hr (by decide) (by rfl) (pa_cons (pv 0) (pa_cons pe_int pa_nil))))) (pss_one (ps_ret (pe_lst (pa_cons (pe_tup (pa_cons (pe_frzV (pe_disp (pps_cons (pv 1) pe_int pps_nil) rfl rfl (by decide) (by decide))) (pa_cons pe_bl pa_nil))) pa_nil)))) pss_nil)
      (pss_cons (ps_setLc (i := 2) (own := [("_law_at", 4)]) rfl sc.nd rfl rfl (sw_true rfl rfl rfl (by decide +kernel)) (kpi_list K rfl (pe_cal c_from hr (by decide) (by rfl) (pa_cons (pv 0) (pa_cons pe_int pa_nil)))) (blkOk_by (by kernel_rfl)) (fun _ _ _ _ _ => (pg_name (i := 4) sc.nd rfl (.inl rfl))) (fun _ _ _ _ _ => (pts_one (pt_val (pe_cal c_useful hr (by decide) (by rfl) (pa_cons (pv 0) (pa_cons (pv 4) pa_nil)))))) (fun _ _ _ _ _ => (pv 4)))
      (pss_cons (ps_set (i := 3) sc.nd rfl (.inl rfl) (pe_lst pa_nil))
      (pss_cons (ps_for PassesOwn.never rfl (kpi_list K rfl (pv 2)) (pg_name (i := 4) sc.nd rfl (.inl rfl)) (pss_cons (ps_set (i := 5) sc.nd rfl (.inl rfl) pe_dnewK)
      (pss_cons (ps_for PassesOwn.never rfl (kpi_list K rfl (pe_callB (call_sortedD rfl) (by rfl) T.sorted (by decide +kernel) (pa_cons (pe_ix (kix_tup K rfl) (pe_ix (kix_list K rfl) (pv 0) (pv 4) (fun _ _ => rfl)) pe_int (fun _ _ => rfl)) pa_nil))) (pg_name (i := 6) sc.nd rfl (.inl rfl)) (pss_one (ps_if (pt_cmpR (kop_in K rfl) (pe_dget hu (pe_ix (kix_tup K rfl) (pe_ix (kix_list K rfl) (pv 0) (pv 4) (fun _ _ => rfl)) pe_int (fun _ _ => rfl)) (pv 6) (fun _ _ => rfl)) (pv 2) (by rfl)) (pss_one (ps_dput hu (pv 5) (pv 6) (pe_bm PySem.F.plainAttrs_list PySem.F.slot_list_index PySem.F.type_list_index mt_index (pv 2) (pa_cons (pe_dget hu (pe_ix (kix_tup K rfl) (pe_ix (kix_list K rfl) (pv 0) (pv 4) (fun _ _ => rfl)) pe_int (fun _ _ => rfl)) (pv 6) (fun _ _ => rfl)) pa_nil)) rfl)) pss_nil)))
      (pss_one (ps_freeze (ps_expr (pe_bm PySem.F.plainAttrs_list PySem.F.slot_list_append PySem.F.type_list_append mt_append (pv 3) (pa_cons (pe_tup (pa_cons (pv 5) (pa_cons (pe_ix (kix_tup K rfl) (pe_ix (kix_list K rfl) (pv 0) (pv 4) (fun _ _ => rfl)) pe_int (fun _ _ => rfl)) pa_nil))) pa_nil))))))))
      (pss_one (ps_ret (pv 3))))))), ?_⟩
  cases al with
  | cons h1 al => cases al with
  | cons h2 al =>
    cases al
    cases (show _ = _ from h2)
    refine q_if (b := !dec (Usf m 0)) (et_not (et_test (ev_call (A := fun x : Mach × Nat => [rRs x.1, rNat x.2]) (R := fun x : Mach × Nat => rBl (dec (Usf x.1 x.2))) (m, 0) (ea_cons (ev_v (U := rRs m) rfl h1) (ea_cons (ev_c (x := .int 0)) ea_nil)) ⟨wf, h8, wf.pos⟩))) d (fun e B1 b1 d1 => ?_) fun e B1 b1 d1 => ?_
    · have e0 : trimOf m c = [([(c, 0)], true)] := if_neg (by rw [Bool.not_eq_true'] at e; rw [e]; exact Bool.false_ne_true)
      refine s_ret (U := rRs [([(c, 0)], true)]) (EvN.lst ((en_lst (ea_cons (ev_pr (R := rRow) (S := rBl) (x := [(c, 0)]) (y := true) (ev_dispRow (ev_v (U := rTx [c]) rfl rfl) (ev_c (x := .int 0))) (ev_c (x := .bl true))) ea_nil) (by show 1 ≤ 1000; decide)).to fun vs B1 h => by cases h with | cons a b => (cases b; exact .cons a .nil))) d1 fun v B2 b2 d2 hv => q v B2 (b1.trans b2) d2 (by show (rRs (trimOf m c)).p v B2; rw [e0]; exact hv)
    · have eu : dec (Usf m 0) = true := by
        rw [Bool.not_eq_false'] at e
        exact e
      have hrl : (reachL m 0).length ≤ m.length := nodup_le (reachL_asc.imp fun h => Nat.ne_of_lt h) fun x hx => (mem_reachL.mp hx).1
      have hkl := kept_len (m := m)
      refine q_asg (U := rLst rNat (keptOf m)) (EvN.lst (en_lc (R := rNat) (S := rNat) (xs := reachL m 0) (f := fun t => dec (Usf m t)) (ei_list (ev_call (A := fun x : Mach × Nat => [rRs x.1, rNat x.2]) (R := fun x : Mach × Nat => rLst rNat (reachL x.1 x.2)) (m, 0) (ea_cons (ev_v (U := rRs m) rfl ((rRs m).up b1 h1)) (ea_cons (ev_c (x := .int 0)) ea_nil)) ⟨wf, h8, wf.pos⟩)) (by omega) (fun _ => rfl)
        (fun t ht v6 M6 B6 _ b6 hv6 => et_test (ev_call (A := fun x : Mach × Nat => [rRs x.1, rNat x.2]) (R := fun x : Mach × Nat => rBl (dec (Usf x.1 x.2))) (m, t) (ea_cons (ev_v (U := rRs m) rfl ((rRs m).up (b1.trans b6) h1)) (ea_cons (ev_v (U := rNat t) rfl hv6) ea_nil)) ⟨wf, h8, (mem_reachL.mp ht).1⟩)) fun t ht _ v6 M6 B6 _ b6 hv6 => ev_v (U := rNat t) rfl hv6)) d1 fun vK B2 b2 d2 hK => ?_
      refine q_asgN (en_lst ea_nil (by show 0 ≤ 1000; decide)) d2 fun pF vs B3 b3 d3 hMF hBF hvs => ?_
      cases hvs
      refine q_for (R := rNat) (xs := keptOf m) (ei_list (ev_v (U := rLst rNat (keptOf m)) rfl ((rLst rNat (keptOf m)).up b3 hK))) (dj_m d3 hBF)
        (fun i σ9 M9 B9 => ∃ o4 o5 o6 rv, σ9 = [some _, some _, some vK, some (.ref pF), o4, o5, o6] ∧ M9 = upd M pF (.lst rv) ∧ Al (rPr rRow rBl) (((keptOf m).take i).map fun s => (trimR (keptOf m) (rowAt m s), lastAt m s)) rv B9)
        (fun i σ9 M9 B8 B9 s89 ⟨o4, o5, o6, rv, e1, e2, e3⟩ => ⟨o4, o5, o6, rv, e1, e2, e3.up s89⟩) (fun B9 b9 d9 => ⟨_, _, _, [], rfl, rfl, .nil⟩) (fun B0 i x v σ9 M9 B9 exi b0 b9 d9 hp hv => ?_) fun σ9 M9 B9 hp b9 d9 => ?_
      · obtain ⟨o4, o5, o6, rv, rfl, rfl, arv⟩ := hp
        have hx : x ∈ keptOf m := List.mem_of_getElem? exi
        have hxl : x < m.length := (mem_kept.mp hx).1
        have hil := (List.getElem?_eq_some_iff.mp exi).1
        have rok := wf.at x
        have sB : Same B B9 := b1.trans (b2.trans (b3.trans (b0.trans b9)))
        have sK : Same B2 B9 := b3.trans (b0.trans b9)
        refine q_dnew fun h hMh hBh => ?_
        refine q_for (R := fun q : Nat × Nat => rTx [q.1]) (xs := rowAt m x) (ei_list (EvN.lst (en_sortRow (ev_rsRow (ev_v (U := rRs m) rfl ((rRs m).up sB h1)) (ev_v (U := rNat x) rfl hv) hxl) rok.asc (by have := rok.len; omega)))) (dj_m d9 hBh)
          (fun j σ9 M9 B9 => ∃ o6, σ9 = [some _, some _, some vK, some (.ref pF), some v, some (.ref h), o6] ∧ M9 = upd (upd M pF (.lst rv)) h (.dK (rowK (trimR (keptOf m) ((rowAt m x).take j)))))
          (fun _ _ _ _ _ _ h => h) (fun B10 b10 d10 => ⟨_, rfl, rfl⟩) (fun B0' j p vp σ9 M9 B10 exj b0' b10 d10 hp hvp => ?_) fun σ9 M9 B10 hp b10 d10 => ?_
        · obtain ⟨o6, rfl, rfl⟩ := hp
          have hq : p ∈ rowAt m x := List.mem_of_getElem? exj
          have s10 : Same B9 B10 := b0'.trans b10
          have dg : ∀ {B11 : Hp}, Same B10 B11 → Ev _ _ _ B11 (rNat p.2) := fun {B11} s11 => ev_rget (M := upd (upd M pF (.lst rv)) h (.dK (rowK (trimR (keptOf m) ((rowAt m x).take j))))) (σ := [some _, some (.str (tx [c])), some vK, some (.ref pF), some v, some (.ref h), some vp]) (ev_rsRow (K := K) (ev_v (i := 0) (U := rRs m) rfl ((rRs m).up (sB.trans (s10.trans s11)) h1)) (ev_v (i := 4) (U := rNat x) rfl hv) hxl) (ev_v (i := 6) (U := rTx [p.1]) rfl hvp) (mem_lookup rok.asc hq)
          refine s_if (b := decide (p.2 ∈ keptOf m)) (et_test (ev_inL (dg (Same.refl _)) (ev_v (U := rLst rNat (keptOf m)) rfl ((rLst rNat (keptOf m)).up (sK.trans s10) hK)))) d10 (fun eb B11 b11 d11 => ?_) fun eb B11 b11 d11 => ?_
          · have eb := of_decide_eq_true eb
            refine s_dput (td := tVar 5) (i := 5) (l := h) (k := Sum.inr (tx [p.1])) (U := rNat ((keptOf m).idxOf p.2)) rfl upd_same (ev_index (ev_v (U := rLst rNat (keptOf m)) rfl ((rLst rNat (keptOf m)).up (sK.trans (s10.trans b11)) hK)) (dg b11) eb) (ev_v (U := rTx [p.1]) rfl hvp) d11 ?_ fun v12 B12 b12 d12 hv12 => ?_
            · have := rok.len
              have h2 := List.length_filter_le (fun q : Nat × Nat => decide (q.2 ∈ keptOf m)) ((rowAt m x).take j)
              have h3 : ((rowAt m x).take j).length ≤ 5 := by rw [List.length_take]; omega
              unfold rowK trimR
              rw [List.length_map, List.length_map]
              omega
            · cases (show _ = _ from hv12)
              refine ⟨_, B12, rfl, d12, b10.trans (b11.trans b12), _, rfl, ?_⟩
              rw [upd_upd, putK_row (trimR_new rok.asc exj), trimR_snoc exj, if_pos eb]
          · have eb := of_decide_eq_false eb
            refine ⟨_, B11, rfl, d11, b10.trans b11, _, rfl, ?_⟩
            rw [trimR_snoc exj, if_neg eb, List.append_nil]
        · obtain ⟨o6, rfl, rfl⟩ := hp
          rw [List.take_length] at d10 ⊢
          refine s_freeze upd_same trivial d10 fun od d11 => ?_
          rw [del_upd hMh] at d11 ⊢
          have sF : Same B10 (upd B10 h (.frz od (.dK (rowK (trimR (keptOf m) (rowAt m x)))))) := same_new (dj_none d10 upd_same)
          refine s_app (i := 3) (l := pF) (U := rPr rRow rBl (trimR (keptOf m) (rowAt m x), lastAt m x)) rfl upd_same (ev_pr (R := rRow) (S := rBl) (ev_v rfl ⟨h, od, rfl, upd_same⟩) (ev_rsLast (ev_v (U := rRs m) rfl ((rRs m).up (sB.trans (b10.trans sF)) h1)) (ev_v (U := rNat x) rfl hv) hxl)) d11 (by rw [← arv.length, List.length_map, List.length_take]; omega) fun v12 B12 b12 d12 hv12 => ?_
          refine ⟨_, B12, rfl, d12, b9.trans (b10.trans (sF.trans b12)), _, _, _, rv ++ [v12], rfl, by rw [upd_upd], ?_⟩
          rw [take_snoc exi, List.map_append]
          exact (arv.up (b10.trans (sF.trans b12))).snoc hv12
      · obtain ⟨o4, o5, o6, rv, rfl, rfl, arv⟩ := hp
        rw [List.take_length] at arv
        have e0 : trimOf m c = trimM m := if_pos eu
        rw [jn_pub hMF]
        have sF : Same B9 (upd B9 pF (.lst rv)) := same_new (dj_none d9 upd_same)
        exact s_ret (U := rRs (trimM m)) (ev_v rfl ⟨pF, rv, rfl, upd_same, arv.up sF⟩) (dj_b (dj_sub hMF d9) hMF) fun v B10 b10 d10 hv => q v B10 (b1.trans (b2.trans (b3.trans (b9.trans (sF.trans b10))))) d10 (by show (rRs (trimOf m c)).p v B10; rw [e0]; exact hv)
end
end Zb
end
section
set_option Elab.async false
set_option linter.all false
set_option maxRecDepth 100000
/-! Zl5: the walk: _law_plain, _law_made. -/
namespace Zb
open PySem PySem.Spec PyProof.Rows L2 SlX
theorem kcall_dictP {X : Cx} (K : PySem.W.Frag) (hK : X.K = K) (hc : X.calm = true) : CallR X (.type "dict") (fun xs H Q => ∃ (a : Addr) (ps : List Addr) (kvs : List (Key × V)), xs = [.ref a] ∧ SqL K H a (ps.map V.ref) ∧ Paired (fun p kv => SqT K H p [kV kv.1, kv.2]) ps kvs ∧ ∀ p, H p = none → Q (.ref p) (upd H p (.dK (mergeK [] kvs)))) := hK ▸ call_dictP hc
/-- a heap that has grown behind what changes -/
theorem ext_jn {B M H' : Hp} (d : Dj B M) (s : Same (jn B M) H') : ∃ B', H' = jn B' M ∧ Same B B' ∧ Dj B' M := by
  refine ⟨fun a => match M a with | some _ => none | none => H' a, ?_, fun a o e => ?_, fun a o e => ?_⟩
  · funext a
    cases h : M a with
    | some u => rw [jn_m h]; exact s a u (jn_m h)
    | none =>
      rw [jn_n h]
      show H' a = (match M a with | some _ => none | none => H' a)
      rw [h]
  · show (match M a with | some _ => none | none => H' a) = some o
    rw [d a o e]
    exact s a o (jn_b d e)
  · cases h : M a with
    | none => rfl
    | some u =>
      have e' : (match M a with | some _ => none | none => H' a) = some o := e
      rw [h] at e'
      cases e'
theorem paired_imp {α β : Type} {R S : α → β → Prop} (h : ∀ a b, R a b → S a b) : ∀ {xs : List α} {ys : List β}, Paired R xs ys → Paired S xs ys
  | _, _, .nil => .nil
  | _, _, .cons x t => .cons (h _ _ x) (paired_imp h t)
theorem row_fold : ∀ (r acc : Row), ((acc ++ r).map (·.1)).Pairwise (· < ·) → mergeK (rowK acc) (rowK r) = rowK (acc ++ r)
  | [], acc, _ => by rw [List.append_nil]; rfl
  | (c, t) :: r, acc, h => by
    have hn : c ∉ acc.map fun q : Nat × Nat => q.1 := fun hm => by
      rw [List.map_append, List.pairwise_append] at h
      exact Nat.lt_irrefl _ (h.2.2 c hm c List.mem_cons_self)
    show mergeK (putK (rowK acc) (Sum.inr (tx [c])) (.int (t : Int))) (rowK r) = _
    rw [putK_row hn, row_fold r (acc ++ [(c, t)]) (by rw [List.append_assoc]; exact h), List.append_assoc]
    rfl
section
variable {K : PySem.W.Frag} {l : Addr} {σ : L2.St} {M B : Hp} {te ta tb : TE} {U Ua Ub : Up}
theorem el_lot {i n : Nat} (hσ : σ[i]? = some (some (.ref l))) (h : Ev ta σ M B (rNat n)) (h0 : 0 < n) (hn : n ≤ 100000) : EvL l (tCall sp_lot [] E0 (tCons (tVar i) (tCons ta tNil))) σ M B (rEx (· < n) rNat) :=
  el_call (A := fun n : Nat => [rNat n]) (R := fun n : Nat => rEx (· < n) rNat) n hσ (ea_cons h ea_nil) ⟨h0, hn⟩
theorem el_gt {P : Nat → Prop} {k : Int} (h : EvL l ta σ M B (rEx P rNat)) : EvL l (tOp (rI0 fun i j => .bl (decide (j < i))) ta (tC (.int k))) σ M B (rEx (fun _ : Bool => True) rBl) :=
  el_op h (el_of (ev_c (x := .int k))) fun x y M1 B1 _ _ d ⟨n, _, hx⟩ hy Q q => ⟨n, k, hx, hy, q _ B1 (Same.refl _) d ⟨_, trivial, rfl⟩⟩
theorem el_eqC {P : Nat → Prop} {k : Int} (h : EvL l ta σ M B (rEx P rNat)) : EvL l (tOp rEq ta (tC (.int k))) σ M B (rEx (fun _ : Bool => True) rBl) :=
  el_op h (el_of (ev_c (x := .int k))) fun x y M1 B1 _ _ d ⟨n, _, hx⟩ hy Q q => by
    rw [show x = _ from hx, show y = _ from hy]
    exact ⟨rfl, q _ B1 (Same.refl _) d ⟨_, trivial, rfl⟩⟩
theorem el_add1 {n : Nat} (h : EvL l ta σ M B (rEx (· < n) rNat)) : EvL l (tOp (rI0 fun i j => .int (i + j)) (tC (.int 1)) ta) σ M B (rEx (fun k => 0 < k ∧ k ≤ n) rNat) :=
  el_op (el_of (ev_c (x := .int 1))) h fun x y M1 B1 _ _ d hx ⟨k, hk, hy⟩ Q q => ⟨1, k, hx, hy, q _ B1 (Same.refl _) d ⟨1 + k, ⟨by omega, by omega⟩, by show V.int (1 + (k : Int)) = V.int ((1 + k : Nat) : Int); congr 1⟩⟩
/-- a pair with draws -/
theorem el_pr (ha : EvL l ta σ M B Ua) (hb : EvL l tb σ M B Ub) (k : ∀ a y z B1, B1 a = some (.tup [y, z]) → Ua.p y B1 → Ub.p z B1 → U.p (.ref a) B1) : EvL l (tTup (tCons ta (tCons tb tNil))) σ M B U := fun M1 B1 t m b d Q q =>
  ha M1 B1 t m b d _ fun y t2 B2 b2 d2 hy => hb M1 B2 t2 m (b.trans b2) d2 _ fun z t3 B3 b3 d3 hz => ⟨by show 2 ≤ sizeLine; decide, fun p hp => by
    obtain ⟨hm, hb⟩ := jn_none hp
    rw [jn_updB hm]
    obtain ⟨hm0, hne⟩ := upd_none hm
    have s3 : Same B3 (upd B3 p (.tup [y, z])) := same_new hb
    exact q _ t3 _ (b2.trans (b3.trans s3)) ⟨dj_b d3.d hm0, by rw [upd_ne (Ne.symm hne)]; exact d3.b, d3.m⟩ (k p y z _ upd_same (Ua.up (b3.trans s3) hy) (Ub.up s3 hz))⟩
/-- dict(list(row.items())) -/
theorem ev_dictItems {r : Row} (ha : Ev ta σ M B (rRow r)) (asc : (r.map (·.1)).Pairwise (· < ·)) : Ev (tFrzV (tCB (fun xs H Q => ∃ (a : Addr) (ps : List Addr) (kvs : List (Key × V)), xs = [.ref a] ∧ SqL K H a (ps.map V.ref) ∧ Paired (fun p kv => SqT K H p [kV kv.1, kv.2]) ps kvs ∧ ∀ p, H p = none → Q (.ref p) (upd H p (.dK (mergeK [] kvs)))) (tCons (tListItemsR ta) tNil))) σ M B (rRow r) := fun M1 B1 m b d Q q =>
  ha M1 B1 m b d _ fun v B2 b2 d2 ⟨a, od, e, h⟩ => ⟨a, rowK r, e, .inr ⟨od, jn_b d2 h⟩, fun H' p ts s hp hts hpt hlst hpr => by
    obtain ⟨B', rfl, s', d'⟩ := ext_jn d2 s
    obtain ⟨hm, hb⟩ := jn_none hp
    have hlB : B' p = some (.lst (ts.map V.ref)) := by rw [jn_n hm] at hlst; exact hlst
    refine ⟨p, ts, rowK r, rfl, SqL.of (jn_b d' hlB), ?_, fun p2 hp2 => ?_⟩
    · exact paired_imp (fun _ _ h => SqT.of h) hpr
    · obtain ⟨hm2, hb2⟩ := jn_none hp2
      have e : mergeK [] (rowK r) = rowK r := row_fold r [] asc
      rw [e]
      refine ⟨p2, .dK (rowK r), rfl, upd_same, trivial, fun od2 => ?_⟩
      rw [upd_upd, jn_updB hm2]
      exact q _ _ (b2.trans (s'.trans (same_new hb2))) (dj_b d' hm2) ⟨p2, od2, rfl, upd_same⟩⟩
end
/-! ### the drawn machine -/
def ROk (n : Nat) (r : Row) : Prop := (r.map (·.1)).Sublist [97, 98] ∧ ∀ q ∈ r, q.2 < n
theorem ROk.ok {n : Nat} {r : Row} (h : ROk n r) : RowOk n r := ⟨List.Pairwise.sublist h.1 (by decide), fun q hq => by
  have := h.1.subset (List.mem_map_of_mem (f := (·.1)) hq)
  revert this
  simp
  omega, h.2⟩
/-- a machine over the signs a, b -/
def AB (m : Mach) : Prop := Vm m ∧ m.length ≤ 4 ∧ ∀ s, ∀ q ∈ rowAt m s, q.1 ∈ [97, 98]
theorem trim_ab {m : Mach} {n : Nat} (h0 : 0 < n) (h4 : n ≤ 4) (hl : m.length = n) (hr : ∀ q ∈ m, ROk n q.1) : Wf m ∧ AB (trimOf m 97) := by
  have wf : Wf m := ⟨by omega, by omega, fun q hq => by rw [hl]; exact (hr q hq).ok⟩
  refine ⟨wf, ?_⟩
  unfold trimOf
  by_cases e : dec (Usf m 0) = true
  · rw [if_pos e]
    refine ⟨trim_vm wf (dec_iff.mp e), by rw [trim_len]; have := kept_len (m := m); omega, fun s q hq => ?_⟩
    by_cases hs : s < (keptOf m).length
    · obtain ⟨x, hx, rfl⟩ := kept_of_idx hs
      rw [trim_row hx] at hq
      unfold trimR at hq
      obtain ⟨p, hp, rfl⟩ := List.mem_map.mp hq
      have hp := (List.mem_filter.mp hp).1
      have hx2 := (mem_kept.mp hx).1
      rw [rowAt_get hx2] at hp
      exact (hr _ (List.getElem_mem hx2)).1.subset (List.mem_map_of_mem (f := (·.1)) hp)
    · rw [rowAt_none (by rw [trim_len]; omega)] at hq
      cases hq
  · rw [if_neg e]
    refine ⟨one_vm (by decide), by show 1 ≤ 4; decide, fun s q hq => ?_⟩
    cases s with
    | zero =>
      have : q ∈ ([(97, 0)] : Row) := hq
      rw [List.mem_singleton.mp this]
      decide
    | succ s =>
      rw [rowAt_none (by show 1 ≤ s + 1; omega)] at hq
      cases hq
theorem row_new {r : Row} {j c : Nat} (h : (r.map (·.1)).Sublist (([97, 98] : List Nat).take j)) (e : ([97, 98] : List Nat)[j]? = some c) : c ∉ r.map fun q : Nat × Nat => q.1 := fun hm => by
  obtain ⟨a, ha, ea⟩ := take_in (h.subset hm)
  have := pw_at (xs := ([97, 98] : List Nat)) (R := (· < ·)) (by decide) ea e ha
  omega
abbrev s__law_plain : Stmt := top 71
theorem sc__law_plain : FnScope ["_law_lots_here", "_law_signs", "_law_top", "_law_thin", "_law_many", "_law_rows", "_law_at", "_law_moves", "_law_sign"] ["_law_lots_here", "_law_signs", "_law_top", "_law_thin"] (defScope s__law_plain) := ⟨rfl, rfl, rfl, by decide +kernel, rfl, by decide +kernel, by decide +kernel⟩
def sp_plain : Sp := spL (α := Unit) (fun _ => [rLst (fun c : Nat => rTx [c]) [97, 98], rNat 4, rNat 3]) (fun _ => True) (fun _ => rEx AB rRs)
abbrev s__law_made : Stmt := top 72
theorem sc__law_made : FnScope ["_law_rows", "_law_moves", "_law_last"] ["_law_rows"] (defScope s__law_made) := ⟨rfl, rfl, rfl, by decide +kernel, rfl, by decide +kernel, by decide +kernel⟩
def sp_made (c : Cs) : Sp := spF (α := Mach) (fun m => [rRs m]) (fun m => Vm m ∧ m.length ≤ 8) (fun m => rFm c c.CF m)
section
variable {P : Program} {w : World} {K : PySem.W.Frag} {mg : Str → Option Value} {base : Heap} {c : Cs}
theorem c_made (D : Def K mg "_law_made" s__law_made) (T : Bt mg) (c_Form : CalC P w K mg base 4 "Form" c.CF (sp_Form c)) : Cal P w K mg base 6 "_law_made" (sp_made c) :=
  cal_of D sc__law_made (fun _ _ _ _ _ _ us hl => match us, hl with | [_], _ => rfl) (spF_len fun _ => rfl) fun f cdv A outer s H vs Q E hr h => by
  obtain ⟨m, B, M, rfl, d, ⟨vm, h8⟩, al, q⟩ := h
  have sc := sc__law_made
  refine ⟨_, (pss_one (ps_ret (pe_mk c_Form hr (by decide) (by rfl) (pa_cons (pe_callTy (kc_tup K rfl) (by rfl) T.tuple (by decide +kernel) (pa_cons (pe_lc (own := [("_law_moves", 1), ("_law_last", 2)]) rfl sc.nd (kpi_list K rfl (pv 0)) (blkOk_by (by kernel_rfl)) (fun _ _ _ _ _ => (kpg_tup (n := 2) K rfl rfl (pgs_cons (pg_name (i := 1) sc.nd rfl (.inl rfl)) (pgs_cons (pg_name (i := 2) sc.nd rfl (.inl rfl)) pgs_nil)))) (fun _ _ _ _ _ => pts_nil) (fun _ _ _ _ _ => (pe_tup (pa_cons (pe_frzV (pe_callTy (kcall_dictP K rfl rfl) (by rfl) T.dict (by decide +kernel) (pa_cons (pe_listItemsR rfl (pv 1) (by rfl) T.list) pa_nil))) (pa_cons (pv 2) pa_nil))))) pa_nil)) pa_nil)))), ?_⟩
  cases al with
  | cons h1 al =>
    cases al
    refine s_ret (U := rFm c c.CF m) (ev_Form (ev_tupL (EvN.lst (en_lc21 (R := rRow) (T := rBl) (S := rPr rRow rBl) (xs := m) (ei_list (ev_v (U := rRs m) rfl h1)) (by omega) (fun _ _ => rfl) fun x hx v u M1 B1 _ b1 hv hu => ?_))) vm h8) d q
    exact ev_pr (R := rRow) (S := rBl) (x := x.1) (y := x.2) (ev_dictItems (ev_v (U := rRow x.1) rfl hv) (vm.row x hx).asc) (ev_v (U := rBl x.2) rfl hu)
theorem c_plain (D : Def K mg "_law_plain" s__law_plain) (T : Bt mg) (c_lot : Cal P w K mg base 1 "_law_lot" sp_lot) (c_trimmed : Cal P w K mg base 3 "_law_trimmed" sp_trimmed) : Cal P w K mg base 4 "_law_plain" sp_plain :=
  cal_of D sc__law_plain (fun _ _ _ _ _ _ us hl => match us, hl with | [_, _, _, _], _ => rfl) (spL_len fun _ => rfl) fun f cdv A outer s H vs Q E hr h => by
  obtain ⟨_, B, M, l, t, ws, rfl, d, _, rfl, al, q⟩ := h
  have sc := sc__law_plain
  have hu := room_1 hr
  refine ⟨_, (pss_cons (ps_par (i := 4) (j := 5) rfl sc.nd rfl rfl (by decide) rfl rfl (pa_cons (pe_op op_add pe_int (pe_cal c_lot hr (by decide) (by rfl) (pa_cons (pv 0) (pa_cons (pv 2) pa_nil)))) (pa_cons (pe_lst pa_nil) pa_nil)) (by rfl))
      (pss_cons (ps_for PassesOwn.never rfl (pi_range1 (by rfl) T.range (pa_cons (pv 4) pa_nil)) (pg_name (i := 6) sc.nd rfl (.inl rfl)) (pss_cons (ps_set (i := 7) sc.nd rfl (.inl rfl) pe_dnewK)
      (pss_cons (ps_for PassesOwn.never rfl (kpi_list K rfl (pv 1)) (pg_name (i := 8) sc.nd rfl (.inl rfl)) (pss_one (ps_if (pt_cmpR op_gt (pe_cal c_lot hr (by decide) (by rfl) (pa_cons (pv 0) (pa_cons (pv 3) pa_nil))) pe_int (nomark _)) (pss_one (ps_dput hu (pv 7) (pv 8) (pe_cal c_lot hr (by decide) (by rfl) (pa_cons (pv 0) (pa_cons (pv 4) pa_nil))) rfl)) pss_nil)))
      (pss_one (ps_freeze (ps_expr (pe_bm PySem.F.plainAttrs_list PySem.F.slot_list_append PySem.F.type_list_append mt_append (pv 5) (pa_cons (pe_tup (pa_cons (pv 7) (pa_cons (pe_cmpR op_eq (pe_cal c_lot hr (by decide) (by rfl) (pa_cons (pv 0) (pa_cons pe_int pa_nil))) pe_int (nomark _)) pa_nil))) pa_nil))))))))
      (pss_one (ps_ret (pe_cal c_trimmed hr (by decide) (by rfl) (pa_cons (pv 5) (pa_cons (pe_ix (kix_list K rfl) (pv 1) pe_int (fun _ _ => rfl)) pa_nil))))))), ?_⟩
  cases al with
  | cons h1 al => cases al with
  | cons h2 al => cases al with
  | cons h3 al =>
    cases al
    cases (show _ = _ from h2)
    cases (show _ = _ from h3)
    obtain ⟨a1, ls, rfl, hl1, al1⟩ := id h1
    refine el_add1 (el_lot (M := M) (B := B) (n := 4) rfl (ev_v (i := 2) (U := rNat 4) rfl rfl) (by decide) (by decide)) M B t (Same.refl _) (Same.refl _) d _ fun v t1 B1 b1 d1 hv => ?_
    obtain ⟨n, ⟨n0, n4⟩, hv⟩ := hv
    cases (show _ = _ from hv)
    refine ⟨by show 0 ≤ sizeLine; decide, fun pR hpR => ?_⟩
    rw [jn_updM]
    obtain ⟨hRm, hRb⟩ := jn_none hpR
    have neR : pR ≠ l := (upd_none hRm).2
    have hRm : M pR = none := (upd_none hRm).1
    refine ⟨_, _, rfl, ?_⟩
    rw [upd_swap neR]
    have dl : ∀ {B9 : Hp} {us : List V}, DjL l B9 M → B9 pR = none → DjL l B9 (upd M pR (.lst us)) := fun d9 n1 => ⟨dj_m d9.d n1, d9.b, by rw [upd_ne (Ne.symm neR)]; exact d9.m⟩
    have dR : DjL l B1 (upd M pR (.lst [])) := dl d1 hRb
    have hmR : ∀ {us : List V}, upd M pR (.lst us) l = none := by
      intro us
      rw [upd_ne (Ne.symm neR)]
      exact d.m
    refine q_for (R := rNat) (xs := List.range n) (ei_rng1 (ea_cons (ev_v (U := rNat n) rfl rfl) ea_nil) (by omega)) (dR.dj t1)
      (fun i σ9 M9 B9 => ∃ o6 o7 o8 t9 rv rs, σ9 = [some (.ref l), some (.ref a1), some (.int 4), some (.int 3), some (.int (n : Int)), some (.ref pR), o6, o7, o8] ∧ M9 = upd (upd M pR (.lst rv)) l (lotO t9) ∧ Al (rPr rRow rBl) rs rv B9 ∧ rs.length = i ∧ ∀ q ∈ rs, ROk n q.1)
      (fun i σ9 M9 B8 B9 s89 ⟨o6, o7, o8, t9, rv, rs, e1, e2, e3, e4, e5⟩ => ⟨o6, o7, o8, t9, rv, rs, e1, e2, e3.up s89, e4, e5⟩) (fun B9 b9 d9 => ⟨_, _, _, t1, [], [], rfl, rfl, .nil, rfl, fun q hq => by cases hq⟩) (fun B0 i x v σ9 M9 B9 exi b0 b9 d9 hp hv => ?_) fun σ9 M9 B9 hp b9 d9 => ?_
    · obtain ⟨o6, o7, o8, t9, rv, rs, rfl, rfl, arv, hrs, hok⟩ := hp
      have hi := (List.getElem?_eq_some_iff.mp exi).1
      rw [List.length_range] at hi
      refine q_dnew fun h hMh hBh => ?_
      have neh : h ≠ l := (upd_none hMh).2
      have hMh : upd M pR (.lst rv) h = none := (upd_none hMh).1
      rw [upd_swap neh]
      have d9' : DjL l B9 (upd M pR (.lst rv)) := DjL.of hmR d9
      have dh : ∀ {B10 : Hp} {u : HO}, DjL l B10 (upd M pR (.lst rv)) → B10 h = none → DjL l B10 (upd (upd M pR (.lst rv)) h u) := fun d10 n1 => ⟨dj_m d10.d n1, d10.b, by rw [upd_ne (Ne.symm neh)]; exact d10.m⟩
      refine q_for (R := fun c : Nat => rTx [c]) (xs := ([97, 98] : List Nat)) (ei_list (ev_v (U := rLst (fun c : Nat => rTx [c]) [97, 98]) rfl ((rLst (fun c : Nat => rTx [c]) [97, 98]).up (b1.trans (b0.trans b9)) h1))) ((dh d9' hBh).dj t9)
        (fun j σ9 M9 B9 => ∃ (o8 : Option V) (t9 : Lt3) (r : Row), σ9 = [some (.ref l), some (.ref a1), some (.int 4), some (.int 3), some (.int (n : Int)), some (.ref pR), some v, some (.ref h), o8] ∧ M9 = upd (upd (upd M pR (.lst rv)) h (.dK (rowK r))) l (lotO t9) ∧ (r.map fun q : Nat × Nat => q.1).Sublist (([97, 98] : List Nat).take j) ∧ ∀ q ∈ r, q.2 < n)
        (fun _ _ _ _ _ _ h => h) (fun B10 b10 d10 => ⟨_, t9, [], rfl, rfl, List.nil_sublist _, fun q hq => by cases hq⟩) (fun B0' j sg vs σ9 M9 B10 exj b0' b10 d10 hp hvs => ?_) fun σ9 M9 B10 hp b10 d10 => ?_
      · obtain ⟨o8, t10, r, rfl, rfl, hsub, hlt⟩ := hp
        have d10' : DjL l B10 (upd (upd M pR (.lst rv)) h (.dK (rowK r))) := DjL.of (by rw [upd_ne (Ne.symm neh)]; exact hmR) d10
        have hsubl := hsub.length_le
        have htk : (([97, 98] : List Nat).take j).length ≤ 2 := by rw [List.length_take]; exact Nat.min_le_right _ _
        have hrl : r.length ≤ 2 := by rw [List.length_map] at hsubl; omega
        have sub1 : (r.map (·.1)).Sublist (([97, 98] : List Nat).take (j + 1)) := by
          rw [take_snoc exj]
          exact hsub.trans (List.sublist_append_left _ _)
        refine l_if (etl_test (el_gt (el_lot (n := 3) rfl (ev_v (i := 3) (U := rNat 3) rfl rfl) (by decide) (by decide)))) d10' (fun t11 B11 b11 d11 => ?_) fun t11 B11 b11 d11 => ?_
        · refine l_dput (p := h) (k := Sum.inr (tx [sg])) (U := rEx (· < n) rNat) rfl upd_same (el_lot (n := n) rfl (ev_v (i := 4) (U := rNat n) rfl rfl) n0 (by omega)) (ev_v (U := rTx [sg]) rfl hvs) d11 (by unfold rowK; rw [List.length_map]; omega) fun v12 t12 B12 b12 d12 hv12 => ?_
          obtain ⟨k, hk, hv12⟩ := hv12
          cases (show _ = _ from hv12)
          refine ⟨_, B12, rfl, d12.dj t12, b10.trans (b11.trans b12), _, t12, r ++ [(sg, k)], rfl, ?_, ?_, fun q hq => ?_⟩
          · rw [upd_upd, putK_row (row_new hsub exj)]
          · rw [take_snoc exj, List.map_append]
            exact hsub.append (List.Sublist.refl _)
          · rcases List.mem_append.mp hq with hq | hq
            · exact hlt q hq
            · rw [List.mem_singleton.mp hq]
              exact hk
        · exact ⟨_, B11, rfl, d11.dj t11, b10.trans b11, _, t11, r, rfl, rfl, sub1, hlt⟩
      · obtain ⟨o8, t10, r, rfl, rfl, hsub, hlt⟩ := hp
        have hMl : upd (upd (upd M pR (.lst rv)) h (.dK (rowK r))) l (lotO t10) h = some (.dK (rowK r)) := by rw [upd_ne neh, upd_same]
        refine s_freeze hMl trivial d10 fun od d11 => ?_
        have edel : del (upd (upd (upd M pR (.lst rv)) h (.dK (rowK r))) l (lotO t10)) h = upd (upd M pR (.lst rv)) l (lotO t10) := by
          rw [← upd_swap neh, del_upd (by rw [upd_ne neh]; exact hMh)]
        rw [edel] at d11 ⊢
        have sF : Same B10 (upd B10 h (.frz od (.dK (rowK r)))) := same_new (dj_none d10 hMl)
        have d11' : DjL l (upd B10 h (.frz od (.dK (rowK r)))) (upd M pR (.lst rv)) := DjL.of hmR d11
        refine l_app (i := 5) (p := pR) (U := rEx (fun b : Bool => True) fun b => rPr rRow rBl (r, b)) rfl upd_same (el_pr (Ua := rRow r) (Ub := rEx (fun _ : Bool => True) rBl) (el_of (ev_v rfl ⟨h, od, rfl, upd_same⟩)) (el_eqC (el_lot (n := 2) rfl (ev_c (x := .int 2)) (by decide) (by decide))) fun a y z B1 ha hy ⟨b, _, hz⟩ => ⟨b, trivial, a, y, z, rfl, ha, hy, hz⟩) d11' (by rw [← arv.length]; omega) fun v12 t12 B12 b12 d12 hv12 => ?_
        obtain ⟨b, _, hv12⟩ := hv12
        have d12' : DjL l B12 (upd M pR (.lst (rv ++ [v12]))) := by
          rw [upd_upd] at d12
          exact d12
        refine ⟨_, B12, rfl, by rw [upd_upd]; exact d12'.dj t12, b9.trans (b10.trans (sF.trans b12)), _, _, _, t12, rv ++ [v12], rs ++ [(r, b)], rfl, by rw [upd_upd], (arv.up (b10.trans (sF.trans b12))).snoc hv12, by rw [List.length_append, hrs]; rfl, fun q hq => ?_⟩
        rcases List.mem_append.mp hq with hq | hq
        · exact hok q hq
        · rw [List.mem_singleton.mp hq]
          exact ⟨hsub, hlt⟩
    · obtain ⟨o6, o7, o8, t9, rv, rs, rfl, rfl, arv, hrs, hok⟩ := hp
      rw [List.length_range] at hrs
      have d9' : DjL l B9 (upd M pR (.lst rv)) := DjL.of hmR d9
      rw [jnl_pub hRm neR]
      have d8 := d9'.pub hRm
      have sF : Same B9 (upd B9 pR (.lst rv)) := same_new (dj_none d9'.d upd_same)
      obtain ⟨wf, ab⟩ := trim_ab n0 n4 hrs hok
      refine s_ret (U := rRs (trimOf rs 97)) (ev_call (A := fun x : Mach × Nat => [rRs x.1, rTx [x.2]]) (R := fun x : Mach × Nat => rRs (trimOf x.1 x.2)) (rs, 97) (ea_cons (ev_v rfl ⟨pR, rv, rfl, upd_same, arv.up sF⟩) (ea_cons (ev_ixL (R := fun c : Nat => rTx [c]) (i := 0) (x := 97) (ev_v (U := rLst (fun c : Nat => rTx [c]) [97, 98]) rfl ((rLst (fun c : Nat => rTx [c]) [97, 98]).up (b1.trans (b9.trans sF)) h1)) (ev_c (x := .int 0)) rfl) ea_nil)) ⟨wf, by show rs.length ≤ 8; omega⟩) (d8.dj t9) fun v B10 b10 d10 hv => ?_
      exact q v t9 B10 (b1.trans (b9.trans (sF.trans b10))) (DjL.of d.m d10) ⟨_, ab, hv⟩
end
end Zb
end
section
set_option Elab.async false
set_option linter.all false
set_option maxRecDepth 100000
/-! Zl6: the walk: _law_goes_on, _law_least_right. -/
namespace Zb
open PySem PySem.Spec PyProof.Rows L2 SlX
/-- a form with one of its rings -/
abbrev rFR (c : Cs) : Mach × List Nat → Up := rPr (rForm c) (rTup rNat)
theorem Cov.refl {m : Mach} {r : List Nat} : Cov m r m r := fun _ h => h
theorem Cov.trans {m1 m2 m3 : Mach} {r1 r2 r3 : List Nat} (h : Cov m1 r1 m2 r2) (k : Cov m2 r2 m3 r3) : Cov m1 r1 m3 r3 := fun w hw => h w (k w hw)
theorem eqv_tups : ∀ xs : List (List Nat), PyData.eqv (.list (xs.map tD)) (.list []) = decide (xs = [])
  | [] => rfl
  | _ :: _ => rfl
theorem sh_ltups {ps : List (List Nat)} : SeqAt.shaped (.list (ps.map tD)) = true := by
  show (PyData.canLayAll0 (ps.map tD) && decide (PyData.depthAll (ps.map tD) + 1 ≤ 64)) = true
  have := depth_tups ps
  rw [lay_tups, decide_eq_true (by omega)]
  rfl
section
variable {K : PySem.W.Frag} {c : Cs} {σ : L2.St} {M B : Hp} {ta tb tc td : TE} {ts : TA}
theorem ev_covers {m m' : Mach} {r r' : List Nat} (h1 : Ev ta σ M B (rForm c m)) (h2 : Ev tb σ M B (rTup rNat r)) (h3 : Ev tc σ M B (rForm c m')) (h4 : Ev td σ M B (rTup rNat r')) (ok : okCov (m, r, m', r')) : Ev (tCall (sp_covers c) [] E0 (tCons ta (tCons tb (tCons tc (tCons td tNil))))) σ M B (rBl (dec (Cov m r m' r'))) :=
  ev_call (A := aCov c) (R := fun x : Mach × List Nat × Mach × List Nat => rBl (dec (Cov x.1 x.2.1 x.2.2.1 x.2.2.2))) (m, r, m', r') (ea_cov (m, r, m', r') h1 h2 h3 h4) ok
/-- two truth values are both true -/
theorem ev_both {a b : Bool} (ha : Ev ta σ M B (rLst rBl [a, b])) : Ev (tOp (rEqD K) ta (tLst (tCons (tC (.bl true)) (tCons (tC (.bl true)) tNil)))) σ M B (rBl (a && b)) :=
  (ev_eqD (d := .list ([a, b].map PyData.bool)) (e := .list ([true, true].map PyData.bool)) ha (EvN.lst (R := rBl) (xs := [true, true]) ((en_lst (ea_cons (ev_c (x := .bl true)) (ea_cons (ev_c (x := .bl true)) ea_nil)) (by show 2 ≤ 1000; decide)).to fun vs B1 h => by
    cases h with | cons h1 h => cases h with | cons h2 h => (cases h; exact .cons h1 (.cons h2 .nil)))) (dat_lst fun _ _ => dat_bl) (dat_lst fun _ _ => dat_bl) rfl rfl).to fun v B2 _ hv => by
      cases a <;> cases b <;> exact hv
/-- xs == [], xs a list of tuples of numbers -/
theorem ev_eqTsNil {xs : List (List Nat)} (ha : Ev ta σ M B (rLst (rTup rNat) xs)) : Ev (tOp (rEqD K) ta (tLst tNil)) σ M B (rBl (decide (xs = []))) := by
  rw [← eqv_tups]
  exact ev_eqD (e := .list []) ha (ev_nilL (rTup rNat)) (dat_lst fun _ _ => dat_tup fun _ _ => dat_int) (dat_lst (f := tD) (xs := []) fun x h => by cases h) sh_ltups rfl
theorem ev_least {m : Mach} (h : Ev ta σ M B (rFm c c.CF m)) (vm : Vm m) : Ev (tMethSl c.CF (sp_least c) E0 ta tNil) σ M B (rEx (Onto m) (rFm c c.CM)) := fun M1 B1 mm b d Q q => h M1 B1 mm b d _ fun v B2 b2 d2 hv => by
  obtain ⟨a, dx, vs, l1, l2, e1, h1, h2, _⟩ := id hv
  exact ⟨a, dx, vs, e1, .inr ⟨jn_b d2 h1, jn_b d2 h2⟩, ea_nil M1 B2 mm (b.trans b2) d2 _ fun ws B3 b3 d3 hw => ⟨m, B3, M1, rfl, d3, vm, .cons ((rForm c m).up b3 ⟨c.CF, List.mem_cons_self, hv⟩) hw, fun z B4 b4 d4 hz => q z B4 (b2.trans (b3.trans b4)) d4 hz⟩⟩
end
abbrev s__law_goes_on : Stmt := top 73
theorem sc__law_goes_on : FnScope ["_law_some_here", "_law_one_here", "_law_two", "_law_three", "_law_told"] ["_law_some_here"] (defScope s__law_goes_on) := ⟨rfl, rfl, rfl, by decide +kernel, rfl, by decide +kernel, by decide +kernel⟩
def okFR (q : Mach × List Nat) : Prop := Wf q.1 ∧ q.1.length ≤ 6 ∧ q.2 ∈ rings q.1
def sp_goes_on (c : Cs) : Sp := spF (α := List (Mach × List Nat)) (fun xs => [rLst (rFR c) xs]) (fun xs => xs.length ≤ 1000 ∧ ∀ q ∈ xs, okFR q) (fun _ => rBl true)
abbrev s__law_least_right : Stmt := top 78
theorem sc__law_least_right : FnScope ["_law_form", "_law_least", "_law_one_here", "_law_other", "_law_under", "_law_over"] ["_law_form"] (defScope s__law_least_right) := ⟨rfl, rfl, rfl, by decide +kernel, rfl, by decide +kernel, by decide +kernel⟩
def sp_least_right (c : Cs) : Sp := spF (α := Mach) (fun m => [rFm c c.CF m]) (fun m => Vm m ∧ m.length ≤ 4) (fun _ => rBl true)
section
variable {P : Program} {w : World} {K : PySem.W.Frag} {mg : Str → Option Value} {base : Heap} {c : Cs}
theorem c_goes_on (D : Def K mg "_law_goes_on" s__law_goes_on) (T : Bt mg) (c_covers : Cal P w K mg base 6 "covers" (sp_covers c)) : Cal P w K mg base 7 "_law_goes_on" (sp_goes_on c) :=
  cal_of D sc__law_goes_on (fun _ _ _ _ _ _ us hl => match us, hl with | [_], _ => rfl) (spF_len fun _ => rfl) fun f cdv A outer s H vs Q E hr h => by
  obtain ⟨xs, B, M, rfl, d, ⟨hl, ok⟩, al, q⟩ := h
  have hl : xs.length ≤ 1000 := hl
  have ok : ∀ q ∈ xs, okFR q := ok
  have sc := sc__law_goes_on
  have hu64 := Nat.lt_of_succ_lt (room_u hr)
  refine ⟨_, (pss_cons (ps_for PassesOwn.never rfl (kpi_list K rfl (pv 0)) (pg_name (i := 1) sc.nd rfl (.inl rfl)) (pss_cons (ps_if (pt_not (pt_val (pe_cal c_covers hr (by decide) (by rfl) (pa_cons (pe_ix (kix_tup K rfl) (pv 1) pe_int (fun _ _ => rfl)) (pa_cons (pe_ix (kix_tup K rfl) (pv 1) pe_int (fun _ _ => rfl)) (pa_cons (pe_ix (kix_tup K rfl) (pv 1) pe_int (fun _ _ => rfl)) (pa_cons (pe_ix (kix_tup K rfl) (pv 1) pe_int (fun _ _ => rfl)) pa_nil))))))) (pss_one (ps_ret pe_bl)) pss_nil)
      (pss_one (ps_for PassesOwn.never rfl (kpi_list K rfl (pv 0)) (pg_name (i := 2) sc.nd rfl (.inl rfl)) (pss_one (ps_for PassesOwn.never rfl (kpi_list K rfl (pv 0)) (pg_name (i := 3) sc.nd rfl (.inl rfl)) (pss_cons (ps_set (i := 4) sc.nd rfl (.inl rfl) (pe_lst (pa_cons (pe_cal c_covers hr (by decide) (by rfl) (pa_cons (pe_ix (kix_tup K rfl) (pv 1) pe_int (fun _ _ => rfl)) (pa_cons (pe_ix (kix_tup K rfl) (pv 1) pe_int (fun _ _ => rfl)) (pa_cons (pe_ix (kix_tup K rfl) (pv 2) pe_int (fun _ _ => rfl)) (pa_cons (pe_ix (kix_tup K rfl) (pv 2) pe_int (fun _ _ => rfl)) pa_nil))))) (pa_cons (pe_cal c_covers hr (by decide) (by rfl) (pa_cons (pe_ix (kix_tup K rfl) (pv 2) pe_int (fun _ _ => rfl)) (pa_cons (pe_ix (kix_tup K rfl) (pv 2) pe_int (fun _ _ => rfl)) (pa_cons (pe_ix (kix_tup K rfl) (pv 3) pe_int (fun _ _ => rfl)) (pa_cons (pe_ix (kix_tup K rfl) (pv 3) pe_int (fun _ _ => rfl)) pa_nil))))) pa_nil))))
      (pss_one (ps_if (PW.pt (pw_and (pt_cmpR (op_eqD hu64) (pv 4) (pe_lst (pa_cons pe_bl (pa_cons pe_bl pa_nil))) (nomark _)) (pw_and1 (pt_not (pt_val (pe_cal c_covers hr (by decide) (by rfl) (pa_cons (pe_ix (kix_tup K rfl) (pv 1) pe_int (fun _ _ => rfl)) (pa_cons (pe_ix (kix_tup K rfl) (pv 1) pe_int (fun _ _ => rfl)) (pa_cons (pe_ix (kix_tup K rfl) (pv 3) pe_int (fun _ _ => rfl)) (pa_cons (pe_ix (kix_tup K rfl) (pv 3) pe_int (fun _ _ => rfl)) pa_nil)))))))))) (pss_one (ps_ret pe_bl)) pss_nil)))))))))
      (pss_one (ps_ret pe_bl))), ?_⟩
  cases al with
  | cons h1 al =>
    cases al
    have cv : ∀ {σ9 : L2.St} {M9 B9 : Hp} {i j : Nat} {x y : Mach × List Nat} {vx vy : V}, x ∈ xs → y ∈ xs → σ9[i]? = some (some vx) → σ9[j]? = some (some vy) → (rFR c x).p vx B9 → (rFR c y).p vy B9 → Ev (tCall (sp_covers c) [] E0 (tCons (tOp (rIxT K) (tVar i) (tC (.int 0))) (tCons (tOp (rIxT K) (tVar i) (tC (.int 1))) (tCons (tOp (rIxT K) (tVar j) (tC (.int 0))) (tCons (tOp (rIxT K) (tVar j) (tC (.int 1))) tNil))))) σ9 M9 B9 (rBl (dec (Cov x.1 x.2 y.1 y.2))) := fun {σ9 M9 B9 i j x y vx vy} hx hy ex ey hvx hvy =>
      ev_covers (ev_ix0 (x := x) (ev_v (U := rFR c x) ex hvx) ev_c) (ev_ix1 (x := x) (ev_v (U := rFR c x) ex hvx) ev_c) (ev_ix0 (x := y) (ev_v (U := rFR c y) ey hvy) ev_c) (ev_ix1 (x := y) (ev_v (U := rFR c y) ey hvy) ev_c) ⟨(ok x hx).1, (ok x hx).2.1, (ok x hx).2.2, (ok y hy).1, (ok y hy).2.1, (ok y hy).2.2⟩
    refine q_for (R := rFR c) (xs := xs) (ei_list (ev_v (U := rLst (rFR c) xs) rfl h1)) d (fun i σ9 M9 B9 => M = M9 ∧ ∃ o1 o2 o3 o4, σ9 = [some _, o1, o2, o3, o4]) (fun _ _ _ _ _ _ h => h) (fun _ _ _ => ⟨rfl, _, _, _, _, rfl⟩) (fun B0 i x v σ9 M9 B9 exi b0 b9 d9 hp hv => ?_) fun σ9 M9 B9 hp b9 d9 => ?_
    · obtain ⟨rfl, o1, o2, o3, o4, rfl⟩ := hp
      have hx := List.mem_of_getElem? exi
      refine q_no (EvT.to (et_not (et_test (cv (i := 1) (j := 1) hx hx rfl rfl hv hv))) (by rw [dec_iff.mpr Cov.refl]; rfl)) d9 fun B10 b10 d10 => ?_
      have s10 : Same B B10 := b0.trans (b9.trans b10)
      refine s_for (R := rFR c) (xs := xs) (ei_list (ev_v (U := rLst (rFR c) xs) rfl ((rLst (rFR c) xs).up s10 h1))) d10 (fun i σ9 M9 B9 => M = M9 ∧ ∃ o2 o3 o4, σ9 = [some _, some v, o2, o3, o4]) (fun _ _ _ _ _ _ h => h) (fun _ _ _ => ⟨rfl, _, _, _, rfl⟩) (fun B0' j y u σ9 M9 B11 exj b0' b11 d11 hp hu => ?_) fun σ9 M9 B11 hp b11 d11 => ?_
      · obtain ⟨rfl, o2, o3, o4, rfl⟩ := hp
        have hy := List.mem_of_getElem? exj
        have s11 : Same B10 B11 := b0'.trans b11
        refine s_for (R := rFR c) (xs := xs) (ei_list (ev_v (U := rLst (rFR c) xs) rfl ((rLst (rFR c) xs).up (s10.trans s11) h1))) d11 (fun i σ9 M9 B9 => M = M9 ∧ ∃ o3 o4, σ9 = [some _, some v, some u, o3, o4]) (fun _ _ _ _ _ _ h => h) (fun _ _ _ => ⟨rfl, _, _, rfl⟩) (fun B0'' k z t σ9 M9 B12 exk b0'' b12 d12 hp ht => ?_) fun σ9 M9 B12 hp b12 d12 => ?_
        · obtain ⟨rfl, o3, o4, rfl⟩ := hp
          have hz := List.mem_of_getElem? exk
          have s12 : Same B11 B12 := b0''.trans b12
          have hv12 := (rFR c x).up (b10.trans (s11.trans s12)) hv
          have hu12 := (rFR c y).up s12 hu
          refine q_asg (U := rLst rBl [dec (Cov x.1 x.2 y.1 y.2), dec (Cov y.1 y.2 z.1 z.2)]) (EvN.lst ((en_lst (ea_cons (cv (i := 1) (j := 2) hx hy rfl rfl hv12 hu12) (ea_cons (cv (i := 2) (j := 3) hy hz rfl rfl hu12 ht) ea_nil)) (by show 2 ≤ 1000; decide)).to fun vs B1 h => by
            cases h with | cons k1 h => cases h with | cons k2 h => (cases h; exact .cons k1 (.cons k2 .nil)))) d12 fun vt B13 b13 d13 hvt => ?_
          refine s_no (EvT.to (et_and (et_test (ev_both (ev_v (U := rLst rBl [dec (Cov x.1 x.2 y.1 y.2), dec (Cov y.1 y.2 z.1 z.2)]) rfl hvt))) fun _ => et_not (et_test (cv (i := 1) (j := 3) hx hz rfl rfl ((rFR c x).up b13 hv12) ((rFR c z).up b13 ht)))) ?_) d13 fun B14 b14 d14 => ?_
          · cases e1 : dec (Cov x.1 x.2 y.1 y.2) with
            | false => rfl
            | true =>
              cases e2 : dec (Cov y.1 y.2 z.1 z.2) with
              | false => rfl
              | true =>
                rw [dec_iff.mpr ((dec_iff.mp e1).trans (dec_iff.mp e2))]
                rfl
          · exact ⟨_, B14, rfl, d14, b12.trans (b13.trans b14), rfl, _, _, rfl⟩
        · obtain ⟨rfl, o3, o4, rfl⟩ := hp
          exact ⟨_, B12, rfl, d12, b11.trans b12, rfl, _, _, _, rfl⟩
      · obtain ⟨rfl, o2, o3, o4, rfl⟩ := hp
        exact ⟨_, B11, rfl, d11, b9.trans (b10.trans b11), rfl, _, _, _, _, rfl⟩
    · obtain ⟨rfl, o1, o2, o3, o4, rfl⟩ := hp
      exact s_ret (U := rBl true) ev_c d9 fun v B10 b10 d10 hv => q v B10 (b9.trans b10) d10 hv
theorem c_least_right (D : Def K mg "_law_least_right" s__law_least_right) (Kk : Kc K c) (T : Bt mg) (c_least : CalM P w K mg base 4 c.CF "least" (sp_least c)) (c_Rings : CalC P w K mg base 3 "Rings" c.CR (sp_Rings c)) (oR : ∀ C ∈ [c.CR], OwnP P w K mg base 1 C "rings" (sp_Rings_rings c)) (c_covers : Cal P w K mg base 6 "covers" (sp_covers c)) : Cal P w K mg base 7 "_law_least_right" (sp_least_right c) :=
  cal_of D sc__law_least_right (fun _ _ _ _ _ _ us hl => match us, hl with | [_], _ => rfl) (spF_len fun _ => rfl) fun f cdv A outer s H vs Q E hr h => by
  obtain ⟨m, B, M, rfl, d, ⟨vm, h4⟩, al, q⟩ := h
  have vm : Vm m := vm
  have h4 : m.length ≤ 4 := h4
  have sc := sc__law_least_right
  have hu64 := Nat.lt_of_succ_lt (room_u hr)
  obtain ⟨gL, mL, FL⟩ := c_least.fnr
  refine ⟨_, (pss_cons (ps_set (i := 1) sc.nd rfl (.inl rfl) (pe_methSl0 (pv 0) (Kk.fc c.CF List.mem_cons_self).sc mL FL (hr.mono (by decide)) pass0))
      (pss_cons (ps_for PassesOwn.never rfl (kpi_tup K rfl (pe_tup (pa_cons (pe_tup (pa_cons (pv 0) (pa_cons (pv 1) pa_nil))) (pa_cons (pe_tup (pa_cons (pv 1) (pa_cons (pv 0) pa_nil))) pa_nil)))) (kpg_tup (n := 2) K rfl rfl (pgs_cons (pg_name (i := 2) sc.nd rfl (.inr rfl)) (pgs_cons (pg_name (i := 3) sc.nd rfl (.inr rfl)) pgs_nil))) (pss_one (ps_for PassesOwn.never rfl (kpi_tup K rfl (pe_propI (pe_mk c_Rings hr (by decide) (by rfl) (pa_cons (pv 2) pa_nil)) oR (hr.mono (by decide)))) (pg_name (i := 4) sc.nd rfl (.inr rfl)) (pss_one (ps_if (pt_cmpR (op_eqD hu64) (pe_lc (own := [("_law_over", 5)]) rfl sc.nd (kpi_tup K rfl (pe_propI (pe_mk c_Rings hr (by decide) (by rfl) (pa_cons (pv 3) pa_nil)) oR (hr.mono (by decide)))) (blkOk_by (by kernel_rfl)) (fun _ _ _ _ _ => (pg_name (i := 5) sc.nd rfl (.inl rfl))) (fun _ _ _ _ _ => (pts_one (pt_val (pe_cal c_covers hr (by decide) (by rfl) (pa_cons (pv 3) (pa_cons (pv 5) (pa_cons (pv 2) (pa_cons (pv 4) pa_nil)))))))) (fun _ _ _ _ _ => (pv 5))) (pe_lst pa_nil) (nomark _)) (pss_one (ps_ret pe_bl)) pss_nil)))))
      (pss_one (ps_ret pe_bl)))), ?_⟩
  cases al with
  | cons h1 al =>
    cases al
    refine q_asg (U := rEx (Onto m) (rFm c c.CM)) (ev_least (ev_v (U := rFm c c.CF m) rfl h1) vm) d fun v1 B1 b1 d1 hv1 => ?_
    obtain ⟨m', ⟨g, hom⟩, hv1⟩ := hv1
    have wf := vm.toWf
    have wf' := hom.wf
    have hle := hom.le
    have f0 : ∀ {B9 : Hp}, Same B B9 → (rForm c m).p _ B9 := fun s9 => (rForm c m).up s9 ⟨c.CF, List.mem_cons_self, h1⟩
    have f1 : ∀ {B9 : Hp}, Same B1 B9 → (rForm c m').p v1 B9 := fun s9 => (rForm c m').up s9 ⟨c.CM, List.mem_cons_of_mem _ List.mem_cons_self, hv1⟩
    have okp : ∀ x ∈ ([(m, m'), (m', m)] : List (Mach × Mach)), Wf x.1 ∧ Wf x.2 ∧ x.1.length ≤ 4 ∧ x.2.length ≤ 4 ∧ ∀ U ∈ rings x.1, ∃ O ∈ rings x.2, Cov x.2 O x.1 U := fun x hx => by
      rcases List.mem_cons.mp hx with rfl | hx
      · exact ⟨wf, wf', h4, by show m'.length ≤ 4; omega, fun U hU => cov_up hom wf hU⟩
      · rw [List.mem_singleton.mp hx]
        exact ⟨wf', wf, by show m'.length ≤ 4; omega, h4, fun U hU => cov_down hom wf hU⟩
    refine q_for2 (R := rForm c) (S := rForm c) (xs := [(m, m'), (m', m)]) (ei_tup (R := rPr (rForm c) (rForm c)) (ev_tup (ea_cons (ev_pr (R := rForm c) (S := rForm c) (x := m) (y := m') (ev_v rfl (f0 b1)) (ev_v rfl (f1 (Same.refl _)))) (ea_cons (ev_pr (R := rForm c) (S := rForm c) (x := m') (y := m) (ev_v rfl (f1 (Same.refl _))) (ev_v rfl (f0 b1))) ea_nil)) (by show 2 ≤ 1000; decide) fun a vs B9 e h => ⟨a, vs, rfl, e, by cases h with | cons k1 h => cases h with | cons k2 h => (cases h; exact .cons k1 (.cons k2 .nil))⟩)) d1
      (fun i σ9 M9 B9 => M = M9 ∧ ∃ o2 o3 o4 o5, σ9 = [some _, some v1, o2, o3, o4, o5]) (fun _ _ _ _ _ _ h => h) (fun _ _ _ => ⟨rfl, _, _, _, _, rfl⟩) (fun B0 i x v u σ9 M9 B9 exi b0 b9 d9 hp hv hu => ?_) fun σ9 M9 B9 hp b9 d9 => ?_
    · obtain ⟨rfl, o2, o3, o4, o5, rfl⟩ := hp
      obtain ⟨w1, w2, l1, l2, cv⟩ := okp x (List.mem_of_getElem? exi)
      refine s_for (R := rTup rNat) (xs := rings x.1) (ei_tup (ev_rgRingsP (ev_Rings (ev_v (U := rForm c x.1) rfl hv) w1))) d9 (fun i σ9 M9 B9 => M = M9 ∧ ∃ o4 o5, σ9 = [some _, some v1, some v, some u, o4, o5]) (fun _ _ _ _ _ _ h => h) (fun _ _ _ => ⟨rfl, _, _, rfl⟩) (fun B0' j U t σ9 M9 B10 exj b0' b10 d10 hp ht => ?_) fun σ9 M9 B10 hp b10 d10 => ?_
      · obtain ⟨rfl, o4, o5, rfl⟩ := hp
        have hU := List.mem_of_getElem? exj
        have s10 : Same B9 B10 := b0'.trans b10
        have hrl : (rings x.2).length ≤ 1000 := by
          have h1 := parts_len (m := x.2)
          have h2 : (rings x.2).length ≤ (parts x.2).length := List.length_filter_le _ _
          omega
        refine s_no (EvT.to (et_test (ev_eqTsNil (xs := (rings x.2).filter fun O => dec (Cov x.2 O x.1 U)) (EvN.lst (en_lc (R := rTup rNat) (S := rTup rNat) (xs := rings x.2) (f := fun O => dec (Cov x.2 O x.1 U)) (ei_tup (ev_rgRingsP (ev_Rings (ev_v (U := rForm c x.2) rfl ((rForm c x.2).up s10 hu)) w2))) (by omega) (fun _ => rfl)
          (fun O hO v6 M6 B6 _ b6 hv6 => et_test (ev_covers (ev_v (U := rForm c x.2) rfl ((rForm c x.2).up (s10.trans b6) hu)) (ev_v (U := rTup rNat O) rfl hv6) (ev_v (U := rForm c x.1) rfl ((rForm c x.1).up (s10.trans b6) hv)) (ev_v (U := rTup rNat U) rfl ((rTup rNat U).up b6 ht)) ⟨w2, by show x.2.length ≤ 6; omega, hO, w1, by show x.1.length ≤ 6; omega, hU⟩)) fun O hO _ v6 M6 B6 _ b6 hv6 => ev_v (U := rTup rNat O) rfl hv6)))) ?_) d10 fun B11 b11 d11 => ?_
        · obtain ⟨O, hO, hc⟩ := cv U hU
          refine decide_eq_false fun e => ?_
          have : O ∈ (rings x.2).filter fun O => dec (Cov x.2 O x.1 U) := List.mem_filter.mpr ⟨hO, dec_iff.mpr hc⟩
          rw [e] at this
          cases this
        · exact ⟨_, B11, rfl, d11, b10.trans b11, rfl, _, _, rfl⟩
      · obtain ⟨rfl, o4, o5, rfl⟩ := hp
        exact ⟨_, B10, rfl, d10, b9.trans b10, rfl, _, _, _, _, rfl⟩
    · obtain ⟨rfl, o2, o3, o4, o5, rfl⟩ := hp
      exact s_ret (U := rBl true) ev_c d9 fun v B10 b10 d10 hv => q v B10 (b1.trans (b9.trans b10)) d10 hv
end
end Zb
end
section
set_option Elab.async false
set_option linter.all false
set_option maxRecDepth 100000
/-! Zl7: the walk: _law_loops_right. -/
namespace Zb
open PySem PySem.Spec PyProof.Rows L2 SlX GenW
/-! ### text * int -/
def rMulS : R2 := fun x y H Q => ∃ (i : Str) (n : Int), x = .str i ∧ y = .int n ∧ MulOk i n ∧ Q (.str (Txt.mul i n)) H
theorem op_mulS {X : Cx} : OpR X (binaryOp .Mult) rMulS := by
  intro pins s σ H x y v u Q I rx ry h
  obtain ⟨i, n, rfl, rfl, hz, q⟩ := h
  obtain ⟨t, rfl⟩ := rx
  obtain ⟨t', rfl⟩ := ry
  exact SB.mul hz fun t2 k => ⟨.str (Txt.mul i n), H, I.tok _, ⟨_, rfl⟩, q⟩
theorem fold_times (w : List Nat) : ∀ (k : Nat) (acc : List Nat), List.foldl (fun x1 x2 : Array Nat => x1 ++ x2) acc.toArray (List.replicate k w.toArray) = (acc ++ timesW w k).toArray
  | 0, acc => by simp [timesW]
  | k + 1, acc => by
    show List.foldl _ (acc.toArray ++ w.toArray) (List.replicate k w.toArray) = _
    rw [show acc.toArray ++ w.toArray = (acc ++ w).toArray by simp, fold_times w k (acc ++ w)]
    simp [timesW]
theorem mul_times {w : List Nat} {k : Nat} (h : 0 < k) : Txt.mul (tx w) (k : Int) = tx (timesW w k) := by
  unfold Txt.mul
  rw [if_neg (by omega)]
  by_cases e : (((k : Int) == 1) || ((tx w).length == 0)) = true
  · rw [if_pos e]
    rw [Bool.or_eq_true] at e
    rcases e with e | e
    · have : k = 1 := by
        have := eq_of_beq e
        omega
      subst this
      show tx w = tx (w ++ [])
      rw [List.append_nil]
    · have e := eq_of_beq e
      have : w.length = 0 := by
        have : w.toArray.size = 0 := e
        simpa using this
      have : w = [] := List.eq_nil_of_length_eq_zero this
      subst this
      have : ∀ k, timesW [] k = [] := fun k => by
        induction k with
        | zero => rfl
        | succ k ih => exact ih
      rw [this]
  · rw [if_neg e]
    have := fold_times w k []
    rw [List.nil_append] at this
    show (⟨(List.replicate (k : Int).toNat w.toArray).foldl (· ++ ·) #[]⟩ : Str) = ⟨(timesW w k).toArray⟩
    rw [Int.toNat_natCast]
    congr 1
/-! ### how many loops -/
theorem words_len {m : Mach} (wf : Wf m) {g : Nat} : ∀ (k s : Nat), (wordsB m g k s).length ≤ 5 ^ k
  | 0, s => by
    unfold wordsB
    split <;> simp
  | k + 1, s => by
    unfold wordsB
    rw [List.length_flatMap]
    have h : ∀ (r : Row), (r.map fun q : Nat × Nat => (if q.2 ∈ near m g k then (wordsB m g k q.2).map (q.1 :: ·) else []).length).sum ≤ r.length * 5 ^ k := fun r => by
      induction r with
      | nil => simp
      | cons q r ih =>
        rw [List.map_cons, List.sum_cons, List.length_cons, Nat.succ_mul]
        have := words_len wf (g := g) k q.2
        have h2 : (if q.2 ∈ near m g k then (wordsB m g k q.2).map (q.1 :: ·) else []).length ≤ 5 ^ k := by
          split
          · rw [List.length_map]; exact this
          · exact Nat.zero_le _
        omega
    have h1 := h (rowAt m s)
    have h2 := Nat.mul_le_mul_right (5 ^ k) (wf.at s).len
    rw [Nat.pow_succ, Nat.mul_comm (5 ^ k) 5]
    omega
theorem loops_len {m : Mach} (wf : Wf m) {s : Nat} : (loopsW m s 4).length ≤ 1000 := by
  unfold loopsW
  rw [List.length_flatMap]
  have h0 : (wordsB m s (0 + 1) s).length ≤ 5 := words_len wf 1 s
  have h1 : (wordsB m s (1 + 1) s).length ≤ 25 := words_len wf 2 s
  have h2 : (wordsB m s (2 + 1) s).length ≤ 125 := words_len wf 3 s
  have h3 : (wordsB m s (3 + 1) s).length ≤ 625 := words_len wf 4 s
  show (([0, 1, 2, 3] : List Nat).map fun i => (wordsB m s (i + 1) s).length).sum ≤ 1000
  simp only [List.map_cons, List.map_nil, List.sum_cons, List.sum_nil]
  omega
section
variable {K : PySem.W.Frag} {c : Cs} {l : Addr} {σ : L2.St} {M B : Hp} {te ta tb tc : TE} {U : Up} {D : Ends}
theorem ev_cU {v : V} (h : U.p v B) : Ev (tC v) σ M B U := fun M1 B1 _ b d Q q => q v B1 (Same.refl _) d (U.up b h)
/-- for .. in e, e with draws -/
theorem l_forL {g : TG} {tu : TS} {t : Lt3} (h : EvL l te σ M B U) (d : DjL l B M) (k : ∀ v t' B', Same B B' → DjL l B' M → U.p v B' → tFor (iList K (tC v)) g tu D σ (jn B' (upd M l (lotO t')))) : tFor (iList K te) g tu D σ (jn B (upd M l (lotO t))) :=
  h M B t (Same.refl _) (Same.refl _) d _ k
theorem el_some {α : Type} {R : α → Up} {xs : List α} {many i : Nat} (hσ : σ[i]? = some (some (.ref l))) (h : Ev ta σ M B (rLst R xs)) (hm : Ev tb σ M B (rNat many)) (hl : xs.length ≤ 100000 ∧ many ≤ 1000) :
    EvL l (tCall sp_some [] E0 (tCons (tVar i) (tCons ta (tCons tb tNil)))) σ M B (rEx (fun ys : List α => (∃ rest, (ys ++ rest).Perm xs) ∧ ys.length = min many xs.length) (rLst R)) := fun M1 B1 t mm b d Q q =>
  ⟨_, hσ, h (upd M1 l (lotO t)) B1 (mm.trans (same_new d.m)) b (d.dj t) _ fun v1 B2 b2 d2 h1 => hm (upd M1 l (lotO t)) B2 (mm.trans (same_new d.m)) (b.trans b2) d2 _ fun v2 B3 b3 d3 h2 =>
    ⟨α, R, xs, many, B3, M1, l, t, v1, v2, rfl, DjL.of d.m d3, hl, rfl, (rLst R xs).up b3 h1, h2, fun v ys rest t' B4 b4 d4 hp hlen hv => q v t' B4 (b2.trans (b3.trans b4)) d4 ⟨ys, ⟨⟨rest, hp⟩, hlen⟩, hv⟩⟩⟩
theorem el_mulS {w : List Nat} {n : Nat} (ha : EvL l ta σ M B (rTx w)) (hb : EvL l tb σ M B (rEx (fun k => 0 < k ∧ k ≤ n) rNat)) (hl : w.length ≤ 1000) (hn : n ≤ 1000) : EvL l (tOp rMulS ta tb) σ M B (rEx (fun k => 0 < k ∧ k ≤ n) fun k => rTx (timesW w k)) :=
  el_op ha hb fun x y M1 B1 _ _ d hx ⟨k, hk, hy⟩ Q q => ⟨tx w, k, hx, hy, mulOk_of 1000 1000 (by show w.toArray.size ≤ 1000; simpa using hl) (by omega) (by omega) (by decide) (by decide), by
    rw [mul_times hk.1]
    exact q _ B1 (Same.refl _) d ⟨k, hk, rfl⟩⟩
theorem el_addS {a n : Nat} (ha : Ev ta σ M B (rNat a)) (hb : EvL l tb σ M B (rEx (· < n) rNat)) : EvL l (tOp (rI0 fun i j => .int (i + j)) ta tb) σ M B (rEx (fun e => a ≤ e ∧ e < a + n) rNat) :=
  el_op (el_of ha) hb fun x y M1 B1 _ _ d hx ⟨k, hk, hy⟩ Q q => ⟨a, k, hx, hy, q _ B1 (Same.refl _) d ⟨a + k, ⟨by omega, by omega⟩, rfl⟩⟩
/-- a piece of a text -/
theorem el_slS {w : List Nat} {a : Nat} (hx : Ev te σ M B (rTx w)) (ha : Ev ta σ M B (rNat a)) (hb : EvL l tb σ M B (rEx (fun e => a ≤ e ∧ e ≤ w.length) rNat)) (hl : w.length ≤ 100000) : EvL l (L2.tSl rSlS te (tPart ta) (tPart tb)) σ M B (rEx (fun p => ∃ k, p = (w.drop a).take k) rTx) := fun M1 B1 t mm b d Q q =>
  hx (upd M1 l (lotO t)) B1 (mm.trans (same_new d.m)) b (d.dj t) _ fun v B2 b2 d2 hv => ha (upd M1 l (lotO t)) B2 (mm.trans (same_new d.m)) (b.trans b2) d2 _ fun y B3 b3 d3 hy => ⟨_, hy, hb M1 B3 t mm (b.trans (b2.trans b3)) (DjL.of d.m d3) _ fun z t' B4 b4 d4 ⟨e, ⟨h1, h2⟩, hz⟩ => ⟨_, hz, tx w, hv, by
    show w.toArray.size ≤ sizeLine
    simp
    exact Nat.le_trans hl (by decide), by
    have ec : cutS (tx w) (some (a : Int)) (some (e : Int)) = tx ((w.drop a).take (e - a)) := by
      have hs : (tx w).length = w.length := by show w.toArray.size = w.length; simp
      unfold cutS
      rw [HT.sIx_nat, HT.sIx_nat, hs, show min a w.length = a from Nat.min_eq_left (by omega), show min e w.length = e from Nat.min_eq_left h2]
      show (⟨((w.toArray.toList.drop a).take (e - a)).toArray⟩ : Str) = _
      simp [tx]
    rw [ec]
    exact q _ t' B4 (b2.trans (b3.trans b4)) d4 ⟨_, ⟨_, rfl⟩, rfl⟩⟩⟩
theorem ev_reads {m : Mach} {ring w : List Nat} (h : Ev ta σ M B (rRg c m)) (hb : Ev tb σ M B (rTup rNat ring)) (hc : Ev tc σ M B (rTx w)) (ok : Wf m ∧ ring ∈ rings m ∧ w.length ≤ 100000 ∧ ∀ k ∈ w, k ∈ Alph) : Ev (tMeth c.CR "reads" (sp_reads c) [] E0 ta (tCons tb (tCons tc tNil))) σ M B (rBl (!decide (readW m ring ring w = []))) := fun M1 B1 mm b d Q k => h M1 B1 mm b d _ fun v B2 b2 d2 hv => by
  obtain ⟨a, dx, v1, v2, v3, v4, e, h0, _⟩ := id hv
  exact ⟨a, dx, _, e, jn_b d2 h0, by rfl, ea_cons hb (ea_cons hc ea_nil) M1 B2 mm (b.trans b2) d2 _ fun ws B3 b3 d3 hw => ⟨(m, ring, w), B3, M1, rfl, d3, ok, by rw [List.append_nil]; exact .cons ((rRg c m).up b3 hv) hw, fun z B4 b4 d4 hz => k z B4 (b2.trans (b3.trans b4)) d4 hz⟩⟩
theorem el_loops {m : Mach} {ring : List Nat} (h : Ev ta σ M B (rRg c m)) (h1 : EvL l tb σ M B (rEx (· ∈ ring) rNat)) (wf : Wf m) (hr : ∀ x ∈ ring, x < m.length) : EvL l (tListZ (tMethZ c.CR "loops" (sp_loops c) ta (tCons tb (tCons (tC (.int 4)) tNil)))) σ M B (rEx (fun ws => ∃ x ∈ ring, ws = loopsW m x 4) (rLst rTx)) := fun M1 B1 t mm b d Q q =>
  h (upd M1 l (lotO t)) B1 (mm.trans (same_new d.m)) b (d.dj t) _ fun v B2 b2 d2 hv => by
    obtain ⟨a, dx, v1, v2, v3, v4, e, h0, _⟩ := id hv
    refine ⟨a, dx, _, e, jn_b d2 h0, by rfl, ?_⟩
    refine h1 M1 B2 t mm (b.trans b2) (DjL.of d.m d2) _ fun y t2 B3 b3 d3 hy => ?_
    obtain ⟨x, hx, hy⟩ := hy
    refine ⟨gdOf (upd M1 l (lotO t2)) B3, _, ⟨(m, x, 4), B3, upd M1 l (lotO t2), rfl, d3.dj t2, ⟨wf, hr x hx, Nat.le_refl _⟩, .cons ((rRg c m).up b3 hv) (.cons hy (.cons rfl .nil)), rfl, rfl⟩, Nat.le_trans (loops_len wf) (by decide), fun H' p hg hp => ?_⟩
    obtain ⟨B', rfl, b', d'⟩ := hg
    obtain ⟨hm, hb⟩ := jn_none hp
    obtain ⟨hm0, hne⟩ := upd_none hm
    rw [jn_updB hm]
    have d0 := DjL.of d.m d'
    exact q _ t2 _ (b2.trans (b3.trans (b'.trans (same_new hb)))) ⟨dj_b d0.d hm0, by rw [upd_ne (Ne.symm hne)]; exact d0.b, d0.m⟩ ⟨loopsW m x 4, ⟨x, hx, rfl⟩, p, _, rfl, upd_same, Al.ofV (f := fun x => V.str (tx x)) (loopsW m x 4)⟩
end
abbrev s__law_loops_right : Stmt := top 74
theorem sc__law_loops_right : FnScope ["_law_lots_here", "_law_form", "_law_told", "_law_at", "_law_loops", "_law_word", "_law_long", "_law_start", "_law_piece"] ["_law_lots_here", "_law_form"] (defScope s__law_loops_right) := ⟨rfl, rfl, rfl, by decide +kernel, rfl, by decide +kernel, by decide +kernel⟩
def sp_loops_right (c : Cs) : Sp := spL (α := Mach) (fun m => [rForm c m]) (fun m => Wf m ∧ m.length ≤ 8) (fun _ => rBl true)
section
variable {P : Program} {w : World} {K : PySem.W.Frag} {mg : Str → Option Value} {base : Heap} {c : Cs}
theorem c_loops_right (D : Def K mg "_law_loops_right" s__law_loops_right) (Kk : Kc K c) (T : Bt mg) (c_lot : Cal P w K mg base 1 "_law_lot" sp_lot) (c_one : Cal P w K mg base 2 "_law_one" sp_one) (c_some : Cal P w K mg base 2 "_law_some" sp_some) (c_Rings : CalC P w K mg base 3 "Rings" c.CR (sp_Rings c)) (oN : ∀ C ∈ [c.CR], Own P w K mg base 1 C "__len__" (sp_Rings_len c)) (oG : OwnG P w K mg base 2 c.CR (sp_Rings_at c))
    (cL : CalGM P w K mg base 12 c.CR "loops" (sp_loops c)) (c_reads : CalM P w K mg base 4 c.CR "reads" (sp_reads c)) : Cal P w K mg base 16 "_law_loops_right" (sp_loops_right c) :=
  cal_of (k := 15) D sc__law_loops_right (fun _ _ _ _ _ _ us hl => match us, hl with | [_, _], _ => rfl) (spL_len fun _ => rfl) fun f cdv A outer s H vs Q E hr h => by
  obtain ⟨m, B, M, l, t, ws, rfl, d, ⟨wf, h8⟩, rfl, al, q⟩ := h
  have sc := sc__law_loops_right
  refine ⟨_, (pss_cons (ps_set (i := 2) sc.nd rfl (.inl rfl) (pe_mk c_Rings hr (by decide) (by rfl) (pa_cons (pv 1) pa_nil)))
      (pss_cons (ps_for PassesOwn.never rfl (pi_range1 (by rfl) T.range (pa_cons (pe_callB (cr_lenOwn oN (hr.mono (by decide))) (by rfl) T.len (by decide +kernel) (pa_cons (pv 2) pa_nil)) pa_nil)) (pg_name (i := 3) sc.nd rfl (.inl rfl)) (pss_cons (ps_set (i := 4) sc.nd rfl (.inl rfl) (pe_listZ (pgz_meth cL Kk.rc hr (by decide) (pv 2) (pa_cons (pe_cal c_one hr (by decide) (by rfl) (pa_cons (pv 0) (pa_cons (pe_ixOwn oG (hr.mono (by decide)) (pv 2) (pv 3)) pa_nil))) (pa_cons pe_int pa_nil))) hr (by rfl) T.list))
      (pss_one (ps_for PassesOwn.never rfl (kpi_list K rfl (pe_cal c_some hr (by decide) (by rfl) (pa_cons (pv 0) (pa_cons (pv 4) (pa_cons pe_int pa_nil))))) (pg_name (i := 5) sc.nd rfl (.inl rfl)) (pss_cons (ps_set (i := 6) sc.nd rfl (.inl rfl) (pe_op op_mulS (pv 5) (pe_op op_add pe_int (pe_cal c_lot hr (by decide) (by rfl) (pa_cons (pv 0) (pa_cons pe_int pa_nil))))))
      (pss_cons (ps_set (i := 7) sc.nd rfl (.inl rfl) (pe_cal c_lot hr (by decide) (by rfl) (pa_cons (pv 0) (pa_cons (pe_callB call_len_str (by rfl) T.len (by decide +kernel) (pa_cons (pv 6) pa_nil)) pa_nil))))
      (pss_cons (ps_set (i := 8) sc.nd rfl (.inl rfl) (pe_slice sl_str (pv 6) (po_some (pv 7)) (po_some (pe_op op_add (pv 7) (pe_cal c_lot hr (by decide) (by rfl) (pa_cons (pv 0) (pa_cons (pe_op op_add (pe_op op_sub (pe_callB call_len_str (by rfl) T.len (by decide +kernel) (pa_cons (pv 6) pa_nil)) (pv 7)) pe_int) pa_nil)))))))
      (pss_one (ps_if (PW.pt (pw_or (pt_not (pt_val (pe_mth c_reads Kk.rc hr (by decide) (pv 2) (pa_cons (pe_ixOwn oG (hr.mono (by decide)) (pv 2) (pv 3)) (pa_cons (pv 6) pa_nil))))) (pw_or1 (pt_not (pt_val (pe_mth c_reads Kk.rc hr (by decide) (pv 2) (pa_cons (pe_ixOwn oG (hr.mono (by decide)) (pv 2) (pv 3)) (pa_cons (pv 8) pa_nil)))))))) (pss_one (ps_ret pe_bl)) pss_nil)))))))))
      (pss_one (ps_ret pe_bl)))), ?_⟩
  cases al with
  | cons h1 al =>
    cases al
    have hrl : (rings m).length ≤ 1000 := by
      have h1 := parts_len (m := m)
      have h2 : (rings m).length ≤ (parts m).length := List.length_filter_le _ _
      omega
    refine q_asg (U := rRg c m) (ev_Rings (ev_v (U := rForm c m) rfl h1) wf) (d.dj t) fun vR B1 b1 d1 hR => ?_
    refine q_for (R := rNat) (xs := List.range (rings m).length) (ei_rng1 (ea_cons (ev_lenRg (ev_v (U := rRg c m) rfl hR) hrl) ea_nil) (by omega)) d1
      (fun i σ9 M9 B9 => ∃ o3 o4 o5 o6 o7 o8 t9, σ9 = [some (.ref l), some _, some vR, o3, o4, o5, o6, o7, o8] ∧ M9 = upd M l (lotO t9)) (fun _ _ _ _ _ _ h => h) (fun B9 b9 d9 => ⟨_, _, _, _, _, _, t, rfl, rfl⟩) (fun B0 i x v σ9 M9 B9 exi b0 b9 d9 hp hv => ?_) fun σ9 M9 B9 hp b9 d9 => ?_
    · obtain ⟨o3, o4, o5, o6, o7, o8, t9, rfl, rfl⟩ := hp
      have hi := (List.getElem?_eq_some_iff.mp exi).1
      rw [List.length_range] at hi
      rw [List.getElem?_range hi] at exi
      cases exi
      have d9' := DjL.of d.m d9
      have hR9 := (rRg c m).up (b0.trans b9) hR
      have hring : (rings m).getD i [] ∈ rings m := by
        rw [List.getD_eq_getElem?_getD, List.getElem?_eq_getElem hi]
        exact List.getElem_mem hi
      have hpart := (mem_rings.mp hring).1
      have hlen : ((rings m).getD i []).length ≤ m.length := part_len hpart
      refine lq_asg (U := rEx (fun ws => ∃ x ∈ (rings m).getD i [], ws = loopsW m x 4) (rLst rTx)) (el_loops (ev_v (U := rRg c m) rfl hR9) (EvL.to (el_call (A := fun us : List Up => [rSeq us]) (R := rOf) (((rings m).getD i []).map rNat) rfl (ea_cons ((ev_rgAt (ev_v (U := rRg c m) rfl hR9) (ev_v (U := rNat i) rfl hv) hi hrl).to fun v B2 _ hv => seq_tup hv) ea_nil) ⟨by simpa using part_ne hpart, by rw [List.length_map]; omega⟩) fun v B2 _ hv => of_map hv) wf fun x hx => part_lt hpart hx) d9' fun vL t10 B10 b10 d10 hL => ?_
      obtain ⟨W, ⟨x0, hx0, rfl⟩, hL⟩ := hL
      have lok : ∀ {u : List Nat}, u ∈ loopsW m x0 4 → _ := fun hu => loop_ok wf hring hx0 hu
      refine l_forL (el_some (R := rTx) (xs := loopsW m x0 4) (many := 3) rfl (ev_v (U := rLst rTx (loopsW m x0 4)) rfl hL) (ev_c (x := .int 3)) ⟨Nat.le_trans (loops_len wf) (by decide), by decide⟩) d10 fun vS t11 B11 b11 d11 hS => ?_
      obtain ⟨ys, ⟨⟨rest, hperm⟩, _⟩, hS⟩ := hS
      have hR11 := (rRg c m).up (b10.trans b11) hR9
      refine s_for (R := rTx) (xs := ys) (ei_list (ev_cU (U := rLst rTx ys) hS)) (d11.dj t11) (fun j σ9 M9 B9 => ∃ o5 o6 o7 o8 t9, σ9 = [some (.ref l), some _, some vR, some v, some vL, o5, o6, o7, o8] ∧ M9 = upd M l (lotO t9)) (fun _ _ _ _ _ _ h => h) (fun B9 b9 d9 => ⟨_, _, _, _, t11, rfl, rfl⟩) (fun B0' j u vu σ9 M9 B12 exj b0' b12 d12 hp hvu => ?_) fun σ9 M9 B12 hp b12 d12 => ?_
      · obtain ⟨o5, o6, o7, o8, t12, rfl, rfl⟩ := hp
        have hu : u ∈ loopsW m x0 4 := hperm.subset (List.mem_append_left _ (List.mem_of_getElem? exj))
        obtain ⟨u0, u4, uA, uP⟩ := lok hu
        have d12' := DjL.of d.m d12
        have s12 : Same B11 B12 := b0'.trans b12
        refine lq_asg (U := rEx (fun k => 0 < k ∧ k ≤ 3) fun k => rTx (timesW u k)) (el_mulS (n := 3) (el_of (ev_v (U := rTx u) rfl hvu)) (el_add1 (el_lot (n := 3) rfl (ev_c (x := .int 3)) (by decide) (by decide))) (by omega) (by decide)) d12' fun vW t13 B13 b13 d13 hW => ?_
        obtain ⟨k, ⟨k0, k3⟩, hW⟩ := hW
        have hWl := times_len u k
        have hWl1 : (timesW u k).length ≤ 12 := by
          rw [hWl]
          exact Nat.mul_le_mul u4 k3
        have hWl0 : 0 < (timesW u k).length := by
          rw [hWl]
          exact Nat.mul_pos u0 k0
        refine lq_asg (U := rEx (· < (timesW u k).length) rNat) (el_lot rfl (ev_lenX (ev_v (U := rTx (timesW u k)) rfl hW) (by omega)) hWl0 (by omega)) d13 fun vA t14 B14 b14 d14 hA => ?_
        obtain ⟨a, ha, hA⟩ := hA
        refine lq_asg (U := rEx (fun p => ∃ k', p = ((timesW u k).drop a).take k') rTx) (el_slS (ev_v (U := rTx (timesW u k)) rfl ((rTx (timesW u k)).up b14 hW)) (ev_v (U := rNat a) rfl hA) (EvL.to (el_addS (n := (timesW u k).length - a + 1) (ev_v (U := rNat a) rfl hA) (el_lot rfl (ev_addN (a := (timesW u k).length - a) (b := 1) ((ev_I0 (g := fun i j => .int (i - j)) (ev_lenX (ev_v (U := rTx (timesW u k)) rfl ((rTx (timesW u k)).up b14 hW)) (by omega)) (ev_v (U := rNat a) rfl hA)).to fun v B2 _ hv => by
            rw [show v = _ from hv]
            show V.int (((timesW u k).length : Int) - (a : Int)) = V.int (((timesW u k).length - a : Nat) : Int)
            congr 1
            omega) (ev_c (x := .int 1))) (by omega) (by omega))) fun v B2 _ ⟨e, he, hv⟩ => ⟨e, ⟨he.1, by omega⟩, hv⟩) (by omega)) d14 fun vP t15 B15 b15 d15 hP => ?_
        obtain ⟨p, ⟨k', rfl⟩, hP⟩ := hP
        have hR15 := (rRg c m).up (s12.trans (b13.trans (b14.trans b15))) hR11
        have ring15 : ∀ {M9 B9 : Hp} {o5 o6 o7 o8 : Option V} {vF : V}, Same B15 B9 → Ev _ [some (.ref l), some vF, some vR, some v, some vL, o5, o6, o7, o8] M9 B9 (rTup rNat ((rings m).getD i [])) := fun s9 => ev_rgAt (c := c) (ta := tVar 2) (tb := tVar 3) (ev_v (U := rRg c m) rfl ((rRg c m).up s9 hR15)) (ev_v (U := rNat i) rfl hv) hi hrl
        refine s_no (EvT.to (et_or (et_not (et_test (ev_reads (ev_v (U := rRg c m) rfl hR15) (ring15 (Same.refl _)) (ev_v (U := rTx (timesW u k)) rfl ((rTx (timesW u k)).up (b14.trans b15) hW)) ⟨wf, hring, by omega, fun z hz => uA z (times_mem hz)⟩))) fun _ => et_not (et_test (ev_reads (ev_v (U := rRg c m) rfl hR15) (ring15 (Same.refl _)) (ev_v (U := rTx (((timesW u k).drop a).take k')) rfl hP) ⟨wf, hring, by
            have h1 := List.length_take_le k' ((timesW u k).drop a)
            have h2 : ((timesW u k).drop a).length = (timesW u k).length - a := List.length_drop
            have h3 : (((timesW u k).drop a).take k').length ≤ ((timesW u k).drop a).length := by rw [List.length_take]; exact Nat.min_le_right _ _
            omega, fun z hz => uA z (times_mem (List.mem_of_mem_drop (List.mem_of_mem_take hz)))⟩)))
          (by rw [decide_eq_false (uP k), decide_eq_false ((uP k).cut a k')]; rfl)) (d15.dj t15) fun B16 b16 d16 => ?_
        exact ⟨_, B16, rfl, d16, b12.trans (b13.trans (b14.trans (b15.trans b16))), _, _, _, _, t15, rfl, rfl⟩
      · obtain ⟨o5, o6, o7, o8, t12, rfl, rfl⟩ := hp
        exact ⟨_, B12, rfl, d12, b9.trans (b10.trans (b11.trans b12)), _, _, _, _, _, _, t12, rfl, rfl⟩
    · obtain ⟨o3, o4, o5, o6, o7, o8, t9, rfl, rfl⟩ := hp
      exact s_ret (U := rBl true) ev_c d9 fun v B10 b10 d10 hv => q v t9 B10 (b1.trans (b9.trans b10)) (DjL.of d.m d10) hv
end
end Zb
end
section
set_option Elab.async false
set_option linter.all false
set_option maxRecDepth 100000
/-! Zl8: names of signs; how long a least lack is; the walk: _law_spelled. -/
namespace Zb
open PySem PySem.Spec PyProof.Rows L2 SlX
/-! ### the least lack is short -/
theorem told_len {m m' : Mach} {over under f : List Nat} (h : Told m over m' under (some f)) (h1 : under.length ≤ 6) (h2 : over.length ≤ 6) : f.length ≤ 4096 := by
  have key : ∀ i j, i < j → j ≤ f.length → readW m' under under (f.take i) = readW m' under under (f.take j) → readW m over over (f.take i) = readW m over over (f.take j) → False := fun i j hij hj e1 e2 => by
    have q := h.1
    rw [← List.take_append_drop j f] at q
    have l2 : Lck (readW m' under under) (readW m over over) (f.take i ++ f.drop j) := by
      unfold Lck at q ⊢
      rw [readW_append, readW_append] at q ⊢
      rw [e1, e2]
      exact q
    have := (h.2 _ l2).le
    rw [List.length_append, List.length_take, List.length_drop] at this
    omega
  have nd : (((List.range (f.length + 1)).map fun i => f.take i).map fun w => (readW m' under under w, readW m over over w)).Nodup := by
    rw [List.map_map]
    refine List.pairwise_map.mpr (List.Pairwise.imp_of_mem (fun {i j} hi hj hij e => ?_) List.pairwise_lt_range)
    have hj' := List.mem_range.mp hj
    exact key i j hij (by omega) (Prod.mk.inj e).1 (Prod.mk.inj e).2
  have := done_len nd h1 h2
  rw [List.length_map, List.length_range] at this
  omega
/-! ### names -/
def nuOf (p : Nat × Nat) (c : Nat) : Nat := if c = 97 then p.1 else p.2
def nmK (p : Nat × Nat) : List (Key × V) := [(Sum.inr (tx [97]), V.str (tx [p.1])), (Sum.inr (tx [98]), V.str (tx [p.2]))]
def rNm (p : Nat × Nat) : Up := ⟨fun v B => ∃ d, v = .ref d ∧ B d = some (.dK (nmK p)), fun s ⟨d, e, h⟩ => ⟨d, e, s _ _ h⟩⟩
def okNm (p : Nat × Nat) : Prop := p.1 < p.2 ∧ p.1 ∈ Alph ∧ p.2 ∈ Alph
theorem nm_val {p : Nat × Nat} {c : Nat} (h : c ∈ ([97, 98] : List Nat)) : valV (nmK p) (Sum.inr (tx [c])) = some (V.str (tx [nuOf p c])) := by
  simp at h
  rcases h with rfl | rfl
  · exact valV_pos rfl
  · show valV ((Sum.inr (tx [97]), V.str (tx [p.1])) :: [(Sum.inr (tx [98]), V.str (tx [p.2]))]) (Sum.inr (tx [98])) = _
    rw [valV_neg (fun e => by have := tx_inj (Sum.inr.inj e); simp at this)]
    exact valV_pos rfl
theorem nu_mono {p : Nat × Nat} (h : okNm p) : ∀ a ∈ ([97, 98] : List Nat), ∀ b ∈ ([97, 98] : List Nat), a < b → nuOf p a < nuOf p b := fun a ha b hb hab => by
  simp at ha hb
  rcases ha with rfl | rfl <;> rcases hb with rfl | rfl
  · omega
  · exact h.1
  · omega
  · omega
theorem nu_alph {p : Nat × Nat} (h : okNm p) (c : Nat) : nuOf p c ∈ Alph := by
  unfold nuOf
  split
  · exact h.2.1
  · exact h.2.2
section
variable {K : PySem.W.Frag} {σ : L2.St} {M B : Hp} {ta tb : TE}
theorem ev_nget {p : Nat × Nat} {c : Nat} (ha : Ev ta σ M B (rNm p)) (hb : Ev tb σ M B (rTx [c])) (h : c ∈ ([97, 98] : List Nat)) : Ev (tDGet ta tb) σ M B (rTx [nuOf p c]) := fun M1 B1 m b d Q q =>
  ha M1 B1 m b d _ fun x B2 b2 d2 ⟨a, ex, hd⟩ => hb M1 B2 m (b.trans b2) d2 _ fun y B3 b3 d3 hy => ⟨a, V.str (tx [nuOf p c]), ex, by
    rw [show y = _ from hy]
    exact .inl ⟨nmK p, Sum.inr (tx [c]), .inl (jn_b d3 (b3 _ _ hd)), rfl, (nm_val h).symm⟩, q _ B3 (b2.trans b3) d3 rfl⟩
end
theorem joinL_one : ∀ ws : List Nat, TL.joinL [] (ws.map fun c => [c]) = ws
  | [] => rfl
  | [c] => rfl
  | c :: d :: ws => by
    have ih := joinL_one (d :: ws)
    show [c] ++ [] ++ TL.joinL [] ((d :: ws).map fun c => [c]) = _
    rw [ih]
    rfl
theorem join_one (ws : List Nat) : Txt.join (tx []) (ws.map fun c => tx [c]) = tx ws := by
  have h := SX.join_S [] (ws.map fun c => [c])
  rw [List.map_map, joinL_one] at h
  exact h
section
variable {K : PySem.W.Frag} {σ : L2.St} {M B : Hp} {ta : TE}
/-- "".join(signs) -/
theorem ev_join {ws : List Nat} (ha : Ev ta σ M B (rLst (fun c : Nat => rTx [c]) ws)) (hl : ws.length ≤ 100000) : Ev (tM1 (fun x xs H Q => ∃ a p, ∃ ys : List Str, x = .str a ∧ xs = [.ref p] ∧ (SqL K H p (ys.map V.str) ∨ SqT K H p (ys.map V.str)) ∧ (ys.map (·.length)).sum + ys.length * a.length ≤ 16777216 ∧ Q (.str (Txt.join a ys)) H) (tC (.str (tx []))) ta) σ M B (rTx ws) := fun M1 B1 m b d Q q =>
  ⟨⟨_, rfl⟩, ha M1 B1 m b d _ fun v B2 b2 d2 ⟨p, vs, e, h, al⟩ => ⟨tx [], p, ws.map fun c => tx [c], rfl, by rw [e], .inl (by
    rw [List.map_map]
    have := al.isV (f := fun c : Nat => V.str (tx [c]))
    rw [this] at h
    exact SqL.of (jn_b d2 h)), by
    have e1 : ∀ l : List Nat, ((l.map fun c => tx [c]).map (·.length)).sum = l.length := fun l => by
      induction l with
      | nil => rfl
      | cons c l ih =>
        rw [List.map_cons, List.map_cons, List.sum_cons, ih, List.length_cons]
        show 1 + l.length = _
        omega
    rw [e1]
    show ws.length + _ * 0 ≤ _
    omega, by
    rw [join_one]
    exact q _ B2 b2 d2 rfl⟩⟩
end
abbrev s__law_spelled : Stmt := top 76
theorem sc__law_spelled : FnScope ["_law_word", "_law_names", "_law_sign"] ["_law_word", "_law_names"] (defScope s__law_spelled) := ⟨rfl, rfl, rfl, by decide +kernel, rfl, by decide +kernel, by decide +kernel⟩
def sp_spelled : Sp := spF (α := Option (List Nat) × (Nat × Nat)) (fun x => [rWd x.1, rNm x.2]) (fun x => ∀ w, x.1 = some w → w.length ≤ 10000 ∧ ∀ c ∈ w, c ∈ ([97, 98] : List Nat)) (fun x => rWd (x.1.map (List.map (nuOf x.2))))
section
variable {P : Program} {w : World} {K : PySem.W.Frag} {mg : Str → Option Value} {base : Heap} {c : Cs}
theorem c_spelled (D : Def K mg "_law_spelled" s__law_spelled) (T : Bt mg) : Cal P w K mg base 1 "_law_spelled" sp_spelled :=
  cal_of D sc__law_spelled (fun _ _ _ _ _ _ us hl => match us, hl with | [_, _], _ => rfl) (spF_len fun _ => rfl) fun f cdv A outer s H vs Q E hr h => by
  obtain ⟨⟨r, p⟩, B, M, rfl, d, ok, al, q⟩ := h
  have sc := sc__law_spelled
  have hu := room_1 hr
  refine ⟨_, (pss_one (ps_ret (pe_ifExp (pt_cmpR op_isN (pv 0) pe_non (nomark _)) pe_non (pe_join pe_str (pe_lc (own := [("_law_sign", 2)]) rfl sc.nd (pi_str (pv 0)) (blkOk_by (by kernel_rfl)) (fun _ _ _ _ _ => (pg_name (i := 2) sc.nd rfl (.inl rfl))) (fun _ _ _ _ _ => pts_nil) (fun _ _ _ _ _ => (pe_dget hu (pv 1) (pv 2) (fun _ _ => rfl)))))))), ?_⟩
  cases al with
  | cons h1 al => cases al with
  | cons h2 al =>
    cases al
    cases r with
    | none =>
      cases (show _ = _ from h1)
      exact s_ret (U := rNon) (ev_if (b := true) (et_test (ev_op0 (Ub := rNon) (ev_v (U := rNon) rfl rfl) ev_c fun x y M1 B1 _ _ _ hx hy Q q => ⟨hy, by rw [show x = _ from hx]; exact q⟩)) (fun _ => ev_c) fun e => nomatch e) d q
    | some u =>
      obtain ⟨hl, hs⟩ := ok u rfl
      cases (show _ = _ from h1)
      refine s_ret (U := rTx (u.map (nuOf p))) (ev_if (b := false) (et_test (ev_op0 (Ub := rNon) (ev_v (U := rTx u) rfl rfl) ev_c fun x y M1 B1 _ _ _ hx hy Q q => ⟨hy, by rw [show x = _ from hx]; exact q⟩)) (fun e => nomatch e) fun _ => ev_join (EvN.lst ((en_lc1 (R := fun c : Nat => rTx [c]) (S := fun c : Nat => rTx [nuOf p c]) (xs := u) (ei_str (ev_v (U := rTx u) rfl rfl)) (by omega) (fun _ => rfl) fun z hz v6 M6 B6 _ b6 hv6 => ?_).to fun vs B2 h2 => Al.map (R := fun c : Nat => rTx [c]) (f := nuOf p) h2)) (by rw [List.length_map]; omega)) d q
      exact ev_nget (ev_v (U := rNm p) rfl ((rNm p).up b6 h2)) (ev_v (U := rTx [z]) rfl hv6) (hs z hz)
end
end Zb
end
section
set_option Elab.async false
set_option linter.all false
set_option maxRecDepth 100000
set_option maxHeartbeats 1000000
/-! Zl9: the walk: _law_turned. -/
namespace Zb
open PySem PySem.Spec PyProof.Rows L2 SlX
/-! ### places -/
structure Plc (n : Nat) (pl : List Nat) : Prop where
  len : pl.length = n
  nd : pl.Nodup
  lt : ∀ x ∈ pl, x < n
  z : pl.getD 0 0 = 0
theorem Plc.at {n : Nat} {pl : List Nat} (h : Plc n pl) {s : Nat} (hs : s < n) : pl[s]? = some (pl.getD s 0) := by
  have := h.len
  rw [List.getD_eq_getElem?_getD, List.getElem?_eq_getElem (by omega)]
  rfl
theorem Plc.mem {n : Nat} {pl : List Nat} (h : Plc n pl) {s : Nat} (hs : s < n) : pl.getD s 0 ∈ pl := List.mem_of_getElem? (h.at hs)
theorem Plc.idx {n : Nat} {pl : List Nat} (h : Plc n pl) {s : Nat} (hs : s < n) : pl.idxOf (pl.getD s 0) = s := by
  have hl := h.len
  have h1 : pl.getD s 0 = pl[s]'(by omega) := by
    rw [List.getD_eq_getElem?_getD, List.getElem?_eq_getElem (by omega)]
    rfl
  rw [h1]
  exact h.nd.idxOf_getElem s (by omega)
theorem Plc.inj {n : Nat} {pl : List Nat} (h : Plc n pl) {s t : Nat} (hs : s < n) (ht : t < n) (e : pl.getD s 0 = pl.getD t 0) : s = t := by
  rw [← h.idx hs, e, h.idx ht]
theorem Plc.all {n : Nat} {pl : List Nat} (h : Plc n pl) {j : Nat} (hj : j < n) : j ∈ pl := by
  refine Classical.byContradiction fun hm => ?_
  have := nodup_le (n := n) (l := j :: pl) (List.nodup_cons.mpr ⟨hm, h.nd⟩) fun x hx => by
    rcases List.mem_cons.mp hx with rfl | hx
    · exact hj
    · exact h.lt x hx
  rw [List.length_cons, h.len] at this
  omega
theorem plc_of {n : Nat} (h0 : 0 < n) {ys : List Nat} (h : ys.Perm ((List.range (n - 1)).map (1 + ·))) : Plc n ([0] ++ ys) := by
  refine ⟨?_, ?_, fun x hx => ?_, rfl⟩
  · have := h.length_eq
    rw [List.length_map, List.length_range] at this
    rw [List.length_append, this]
    simp
    omega
  · show (0 :: ys).Nodup
    refine List.nodup_cons.mpr ⟨fun hm => ?_, h.nodup_iff.mpr ?_⟩
    · obtain ⟨k, _, e⟩ := List.mem_map.mp (h.mem_iff.mp hm)
      omega
    · exact List.pairwise_map.mpr (List.Pairwise.imp (fun {a b} (hab : a < b) => by omega) List.pairwise_lt_range)
  · rcases List.mem_cons.mp (show x ∈ 0 :: ys from hx) with rfl | hx
    · exact h0
    · obtain ⟨k, hk, e⟩ := List.mem_map.mp (h.mem_iff.mp hx)
      have := List.mem_range.mp hk
      omega
/-! ### the turned machine -/
def trow (m : Mach) (pl : List Nat) (p : Nat × Nat) (s : Nat) : Row := (rowAt m s).map fun q => (nuOf p q.1, pl.getD q.2 0)
def turnM (m : Mach) (pl : List Nat) (p : Nat × Nat) (bs : Nat → Bool) : Mach := (List.range m.length).map fun j => (trow m pl p (pl.idxOf j), bs (pl.idxOf j))
def TurnOk (m m2 : Mach) (pl : List Nat) (p : Nat × Nat) : Prop := Turn m m2 (fun s => pl.getD s 0) (nuOf p) [97, 98] ∧ Vm m2 ∧ Plc m.length pl
theorem turn_at {m : Mach} {pl : List Nat} {p : Nat × Nat} {bs : Nat → Bool} (h : Plc m.length pl) {s : Nat} (hs : s < m.length) : (turnM m pl p bs)[pl.getD s 0]? = some (trow m pl p s, bs s) := by
  unfold turnM
  rw [List.getElem?_map, List.getElem?_range (h.lt _ (h.mem hs))]
  show some (trow m pl p (pl.idxOf (pl.getD s 0)), bs (pl.idxOf (pl.getD s 0))) = _
  rw [h.idx hs]
theorem turn_ok {m : Mach} {pl : List Nat} {p : Nat × Nat} {bs : Nat → Bool} (ab : AB m) (ok : okNm p) (h : Plc m.length pl) (hb : ∀ s, s < m.length → lastAt m s = true → bs s = true) : TurnOk m (turnM m pl p bs) pl p := by
  obtain ⟨vm, _, sg⟩ := ab
  have T : Turn m (turnM m pl p bs) (fun s => pl.getD s 0) (nuOf p) [97, 98] := ⟨by unfold turnM; rw [List.length_map, List.length_range], fun s hs => h.lt _ (h.mem hs), fun s t hs ht e => h.inj hs ht e, fun t ht => ⟨pl.idxOf t, by
      have hm := h.all ht
      have := List.idxOf_lt_length_of_mem hm
      rw [h.len] at this
      exact ⟨this, getD_idx hm⟩⟩, fun s hs => rowAt_of (turn_at h hs), sg, nu_mono ok⟩
  exact ⟨T, T.vm vm (fun c _ => nu_alph ok c) h.z fun s hs hl => by rw [lastAt_of (turn_at (p := p) (bs := bs) h hs)]; exact hb s hs hl, h⟩
theorem trow_asc {m : Mach} {pl : List Nat} {p : Nat × Nat} (ab : AB m) (ok : okNm p) (s : Nat) : ((trow m pl p s).map fun q : Nat × Nat => q.1).Pairwise (· < ·) := by
  unfold trow
  rw [List.map_map]
  have a := (ab.1.toWf.at s).asc
  have sg := ab.2.2 s
  rw [List.pairwise_map] at a ⊢
  exact List.Pairwise.imp_of_mem (fun {x y} hx hy h => nu_mono ok _ (sg x hx) _ (sg y hy) h) a
theorem take_new {r : Row} {j : Nat} {q : Nat × Nat} (asc : (r.map fun q : Nat × Nat => q.1).Pairwise (· < ·)) (h : r[j]? = some q) : q.1 ∉ (r.take j).map fun q : Nat × Nat => q.1 := fun hm => by
  obtain ⟨p, hp, e⟩ := List.mem_map.mp hm
  obtain ⟨a, ha, ea⟩ := take_in hp
  have e1 : (r.map fun q : Nat × Nat => q.1)[a]? = some p.1 := by rw [List.getElem?_map, ea]; rfl
  have e2 : (r.map fun q : Nat × Nat => q.1)[j]? = some q.1 := by rw [List.getElem?_map, h]; rfl
  have := pw_at asc e1 e2 ha
  omega
theorem al_of_get {α : Type} {R : α → Up} {B : Hp} : ∀ {xs : List α} {vs : List V}, xs.length = vs.length → (∀ (i : Nat) (x : α), xs[i]? = some x → ∃ v, vs[i]? = some v ∧ (R x).p v B) → Al R xs vs B
  | [], [], _, _ => .nil
  | [], _ :: _, h, _ => nomatch h
  | _ :: _, [], h, _ => nomatch h
  | x :: xs, v :: vs, h, k => by
    obtain ⟨v0, e0, h0⟩ := k 0 x rfl
    simp at e0
    subst e0
    exact .cons h0 (al_of_get (Nat.succ.inj h) fun i y e => by
      obtain ⟨w, ew, hw⟩ := k (i + 1) y (by simpa using e)
      exact ⟨w, by simpa using ew, hw⟩)
/-! ### rules -/
/-- a list of two unlike things -/
def rL2 (U W : Up) : Up := ⟨fun v B => ∃ a y z, v = .ref a ∧ B a = some (.lst [y, z]) ∧ U.p y B ∧ W.p z B, fun s ⟨a, y, z, e, h, k, l⟩ => ⟨a, y, z, e, s _ _ h, U.up s k, W.up s l⟩⟩
section
variable {K : PySem.W.Frag} {l : Addr} {σ : L2.St} {M B : Hp} {te ta tb : TE} {U W : Up}
theorem ev_l2 (ha : Ev ta σ M B U) (hb : Ev tb σ M B W) : Ev (tLst (tCons ta (tCons tb tNil))) σ M B (rL2 U W) := (en_lst (ea_cons ha (ea_cons hb ea_nil)) (by show 2 ≤ 1000; decide)).ev fun a vs B1 B2 e s h => by
  cases h with
  | cons h1 h => cases h with
    | cons h2 h => cases h; exact ⟨a, _, _, rfl, e, U.up s h1, W.up s h2⟩
theorem ev_listRg {n : Nat} (hb : Ev tb σ M B (rNat n)) (hn : n ≤ 100000) : Ev (tLstRg (tRg2 (tC (.int 1)) tb)) σ M B (rLst rNat ((List.range (n - 1)).map (1 + ·))) := fun M1 B1 m b d Q q =>
  hb M1 B1 m b d _ fun y B2 b2 d2 hy => ⟨1, n, rfl, hy, RgOk.of_le (by omega) (by omega) (by omega) (by omega), fun p hp => by
    obtain ⟨hm, hbb⟩ := jn_none hp
    rw [jn_updB hm]
    have e : rgV 1 (n : Int) = ((List.range (n - 1)).map (1 + ·)).map fun i : Nat => V.int (i : Int) := by
      unfold rgV
      rw [List.map_map, show ((n : Int) - 1).toNat = n - 1 by omega]
      rfl
    rw [e]
    exact q _ _ (b2.trans (same_new hbb)) (dj_b d2 hm) (lst_nats upd_same)⟩
theorem en_rep {n : Nat} (hb : Ev tb σ M B (rNat n)) (hn : n ≤ 100000) : EvN (tOp rRep (tLst (tCons (tC .non) tNil)) tb) σ M B (fun vs _ => vs = List.replicate n V.non) := fun M1 B1 m b d Q q =>
  (EvN.lst (R := fun _ : Unit => rNon) (xs := [()]) ((en_lst (ea_cons (ev_c (σ := σ) (M := M) (B := B) (x := .non)) ea_nil) (by show 1 ≤ 1000; decide)).to fun vs B1 h => by cases h with | cons k h => (cases h; exact .cons k .nil))) M1 B1 m b d _ fun x B2 b2 d2 ⟨a, vs, e, h, al⟩ => hb M1 B2 m (b.trans b2) d2 _ fun y B3 b3 d3 hy => ⟨a, n, vs, e, hy, jn_b d3 (b3 _ _ h), by omega, by omega, by
    rw [← al.length]
    show 1 * ((n : Int)).toNat ≤ sizeLine
    exact Nat.le_trans (by omega : 1 * ((n : Int)).toNat ≤ 100000) (by decide), fun p hp => by
    obtain ⟨hm, hbb⟩ := jn_none hp
    rw [jn_updM]
    refine q p _ B3 (b2.trans b3) d3 hm hbb ?_
    cases al with
    | cons k al =>
      cases al
      cases (show _ = _ from k)
      rw [Int.toNat_natCast]
      exact List.flatten_replicate_singleton⟩
theorem el_cat {α : Type} {R : α → Up} {xs : List α} {P : List α → Prop} (ha : Ev ta σ M B (rLst R xs)) (hb : EvL l tb σ M B (rEx P (rLst R))) (hl : ∀ ys, P ys → xs.length + ys.length ≤ 100000) : EvL l (tOp rCat ta tb) σ M B (rEx (fun zs => ∃ ys, P ys ∧ zs = xs ++ ys) (rLst R)) :=
  el_op (el_of ha) hb fun x y M1 B1 _ _ d ⟨a, vs, ev, h, al⟩ ⟨ys, hP, a2, ws, ev2, h2, al2⟩ Q q => ⟨a, a2, vs, ws, ev, ev2, jn_b d h, jn_b d h2, by
    rw [← al.length, ← al2.length]
    exact Nat.le_trans (hl ys hP) (by decide), fun p hp => by
    obtain ⟨hm, hbb⟩ := jn_none hp
    rw [jn_updB hm]
    exact q _ _ (same_new hbb) (dj_b d hm) ⟨xs ++ ys, ⟨ys, hP, rfl⟩, p, _, rfl, upd_same, (al.append al2).up (same_new hbb)⟩⟩
theorem el_int {P : Nat → Prop} (ha : EvL l ta σ M B (rEx P rNat)) : EvL l (tCB rInt1 (tCons ta tNil)) σ M B (rEx P rNat) := fun M1 B1 t m b d Q q =>
  ha M1 B1 t m b d _ fun x t2 B2 b2 d2 ⟨k, hk, hx⟩ => .inl ⟨k, by rw [show x = _ from hx], q _ t2 B2 b2 d2 ⟨k, hk, rfl⟩⟩
theorem el_or {b2 : Bool} (ha : EvL l ta σ M B (rEx (fun _ : Bool => True) rBl)) (hb : Ev tb σ M B (rBl b2)) : EvL l (tOrV ta tb) σ M B (rEx (fun b : Bool => b2 = true → b = true) rBl) := fun M1 B1 t m b d Q q =>
  ha M1 B1 t m b d _ fun x t2 B2 s2 d2 ⟨k, _, hx⟩ => ⟨k, hx, by
    cases k with
    | true => exact iteT (q _ t2 B2 s2 d2 ⟨true, fun _ => rfl, rfl⟩)
    | false => exact iteF (hb (upd M1 l (lotO t2)) B2 (m.trans (same_new d.m)) (b.trans s2) (d2.dj t2) _ fun z B3 b3 d3 hz => q z t2 B3 (s2.trans b3) (DjL.of d.m d3) ⟨b2, id, hz⟩)⟩
end
abbrev s__law_turned : Stmt := top 75
theorem sc__law_turned : FnScope ["_law_lots_here", "_law_rows", "_law_names", "_law_places", "_law_found", "_law_at", "_law_moves", "_law_sign"] ["_law_lots_here", "_law_rows", "_law_names"] (defScope s__law_turned) := ⟨rfl, rfl, rfl, by decide +kernel, rfl, by decide +kernel, by decide +kernel⟩
def sp_turned : Sp := spL (α := Mach × (Nat × Nat)) (fun x => [rRs x.1, rNm x.2]) (fun x => AB x.1 ∧ okNm x.2) (fun x => rEx (fun y : Mach × List Nat => TurnOk x.1 y.1 y.2 x.2) fun y => rL2 (rRs y.1) (rLst rNat y.2))
section
variable {P : Program} {w : World} {K : PySem.W.Frag} {mg : Str → Option Value} {base : Heap} {c : Cs}
theorem c_turned (D : Def K mg "_law_turned" s__law_turned) (T : Bt mg) (c_lot : Cal P w K mg base 1 "_law_lot" sp_lot) (c_some : Cal P w K mg base 2 "_law_some" sp_some) : Cal P w K mg base 3 "_law_turned" sp_turned :=
  cal_of D sc__law_turned (fun _ _ _ _ _ _ us hl => match us, hl with | [_, _, _], _ => rfl) (spL_len fun _ => rfl) fun f cdv A outer s H vs Q E hr h => by
  obtain ⟨⟨m, p⟩, B, M, l, t, ws, rfl, d, ⟨ab, okp⟩, rfl, al, q⟩ := h
  have ab : AB m := ab
  have okp : okNm p := okp
  have sc := sc__law_turned
  have hu := room_1 hr
  have wf := ab.1.toWf
  have h4 := ab.2.1
  have n0 := wf.pos
  refine ⟨_, (pss_cons (ps_set (i := 3) sc.nd rfl (.inl rfl) (pe_op op_cat (pe_lst (pa_cons pe_int pa_nil)) (pe_cal c_some hr (by decide) (by rfl) (pa_cons (pv 0) (pa_cons (pe_listRg rfl (by rfl) T.list (prg_2 (by rfl) T.range pe_int (pe_callB (kc_len K rfl) (by rfl) T.len (by decide +kernel) (pa_cons (pv 1) pa_nil)))) (pa_cons (pe_callB (kc_len K rfl) (by rfl) T.len (by decide +kernel) (pa_cons (pv 1) pa_nil)) pa_nil))))))
      (pss_cons (ps_set (i := 4) sc.nd rfl (.inl rfl) (pe_op op_rep (pe_lst (pa_cons pe_non pa_nil)) (pe_callB (kc_len K rfl) (by rfl) T.len (by decide +kernel) (pa_cons (pv 1) pa_nil))))
      (pss_cons (ps_for PassesOwn.never rfl (pi_range1 (by rfl) T.range (pa_cons (pe_callB (kc_len K rfl) (by rfl) T.len (by decide +kernel) (pa_cons (pv 1) pa_nil)) pa_nil)) (pg_name (i := 5) sc.nd rfl (.inl rfl)) (pss_cons (ps_set (i := 6) sc.nd rfl (.inl rfl) pe_dnewK)
      (pss_cons (ps_for PassesOwn.never rfl (pi_keys (pe_ix (kix_tup K rfl) (pe_ix (kix_list K rfl) (pv 1) (pv 5) (fun _ _ => rfl)) pe_int (fun _ _ => rfl))) (pg_name (i := 7) sc.nd rfl (.inl rfl)) (pss_one (ps_dput hu (pv 6) (pe_dget hu (pv 2) (pv 7) (fun _ _ => rfl)) (pe_ix (kix_list K rfl) (pv 3) (pe_dget hu (pe_ix (kix_tup K rfl) (pe_ix (kix_list K rfl) (pv 1) (pv 5) (fun _ _ => rfl)) pe_int (fun _ _ => rfl)) (pv 7) (fun _ _ => rfl)) (fun _ _ => rfl)) rfl)))
      (pss_one (ps_freeze (ps_asg (pe_tup (pa_cons (pv 6) (pa_cons (pe_or (pe_cmpR op_eq (pe_callTy call_int1 (by rfl) T.int (by decide +kernel) (pa_cons (pe_cal c_lot hr (by decide) (by rfl) (pa_cons (pv 0) (pa_cons pe_int pa_nil))) pa_nil)) pe_int (nomark _)) (pe_one (pe_ix (kix_tup K rfl) (pe_ix (kix_list K rfl) (pv 1) (pv 5) (fun _ _ => rfl)) pe_int (fun _ _ => rfl)))) pa_nil))) (pg_sub (pv 4) (pe_ix (kix_list K rfl) (pv 3) (pv 5) (fun _ _ => rfl)) (set_list))))))))
      (pss_one (ps_ret (pe_lst (pa_cons (pv 4) (pa_cons (pv 3) pa_nil)))))))), ?_⟩
  cases al with
  | cons h1 al => cases al with
  | cons h2 al =>
    cases al
    have h1 : (rRs m).p _ B := h1
    have h2 : (rNm p).p _ B := h2
    obtain ⟨aR, lsR, rfl, hlR, alR⟩ := id h1
    obtain ⟨aN, rfl, hlN⟩ := id h2
    refine lq_asg (U := rEx (Plc m.length) (rLst rNat)) (EvL.to (el_cat (R := rNat) (xs := [0]) (P := fun ys => (∃ rest, (ys ++ rest).Perm ((List.range (m.length - 1)).map (1 + ·))) ∧ ys.length = min m.length ((List.range (m.length - 1)).map (1 + ·)).length) (EvN.lst ((en_lst (ea_cons (ev_c (x := .int 0)) ea_nil) (by show 1 ≤ 1000; decide)).to fun vs B1 h => by cases h with | cons k h => (cases h; exact .cons k .nil)))
      (el_some (R := rNat) rfl (ev_listRg (ev_lenL (R := rPr rRow rBl) (xs := m) (ev_v (U := rRs m) rfl h1)) (by omega)) (ev_lenL (R := rPr rRow rBl) (xs := m) (ev_v (U := rRs m) rfl h1)) ⟨by rw [List.length_map, List.length_range]; omega, by omega⟩) fun ys hy => by rw [hy.2, List.length_map, List.length_range]; simp; omega) fun v B2 _ hv => ?_) d fun vP t1 B1 b1 d1 hP => ?_
    · obtain ⟨zs, ⟨ys, ⟨⟨rest, hp⟩, hl⟩, rfl⟩, hv⟩ := hv
      have hl2 := hp.length_eq
      rw [List.length_append, hl, List.length_map, List.length_range] at hl2
      have hr0 : rest = [] := List.eq_nil_of_length_eq_zero (by omega)
      subst hr0
      rw [List.append_nil] at hp
      exact ⟨_, plc_of n0 hp, hv⟩
    obtain ⟨pl, plc, hP⟩ := hP
    refine q_asgN (en_rep (ev_lenL (R := rPr rRow rBl) (xs := m) (ev_v (U := rRs m) rfl ((rRs m).up b1 h1))) (by omega)) (d1.dj t1) fun pF fs0 B2 b2 d2 hMF hBF hvs => ?_
    subst hvs
    obtain ⟨hMF0, neF⟩ := upd_none hMF
    rw [upd_swap neF]
    have hmF : ∀ {us : List V}, upd M pF (.lst us) l = none := by
      intro us
      rw [upd_ne (Ne.symm neF)]
      exact d.m
    have d2' : DjL l B2 M := DjL.of d.m d2
    have dF : ∀ {B9 : Hp} {us : List V}, DjL l B9 M → B9 pF = none → DjL l B9 (upd M pF (.lst us)) := fun d9 n1 => ⟨dj_m d9.d n1, d9.b, hmF⟩
    have s12 : Same B B2 := b1.trans b2
    refine q_for (R := rNat) (xs := List.range m.length) (ei_rng1 (ea_cons (ev_lenL (R := rPr rRow rBl) (xs := m) (ev_v (U := rRs m) rfl ((rRs m).up s12 h1))) ea_nil) (by omega)) ((dF d2' hBF).dj t1)
      (fun i σ9 M9 B9 => ∃ (o5 o6 o7 : Option V) (t9 : Lt3) (fs : List V) (bs : Nat → Bool), σ9 = [some (.ref l), some (.ref aR), some (.ref aN), some vP, some (.ref pF), o5, o6, o7] ∧ M9 = upd (upd M pF (.lst fs)) l (lotO t9) ∧ fs.length = m.length ∧ ∀ s, s < i → (lastAt m s = true → bs s = true) ∧ ∃ v, fs[pl.getD s 0]? = some v ∧ (rPr rRow rBl (trow m pl p s, bs s)).p v B9)
      (fun i σ9 M9 B8 B9 s89 ⟨o5, o6, o7, t9, fs, bs, e1, e2, e3, e4⟩ => ⟨o5, o6, o7, t9, fs, bs, e1, e2, e3, fun s hs => ⟨(e4 s hs).1, by
        obtain ⟨v, k1, k2⟩ := (e4 s hs).2
        exact ⟨v, k1, (rPr rRow rBl (trow m pl p s, bs s)).up s89 k2⟩⟩⟩)
      (fun B9 b9 d9 => ⟨_, _, _, t1, _, fun _ => false, rfl, rfl, List.length_replicate, fun s hs => absurd hs (Nat.not_lt_zero _)⟩) (fun B0 i x v σ9 M9 B9 exi b0 b9 d9 hp hv => ?_) fun σ9 M9 B9 hp b9 d9 => ?_
    · obtain ⟨o5, o6, o7, t9, fs, bs, rfl, rfl, hfl, hdone⟩ := hp
      have hi := (List.getElem?_eq_some_iff.mp exi).1
      rw [List.length_range] at hi
      rw [List.getElem?_range hi] at exi
      cases exi
      have s9 : Same B B9 := s12.trans (b0.trans b9)
      have s29 : Same B1 B9 := b2.trans (b0.trans b9)
      have rok := wf.at i
      have sg := ab.2.2 i
      refine q_dnew fun h hMh hBh => ?_
      obtain ⟨hMh0, neh⟩ := upd_none hMh
      rw [upd_swap neh]
      have d9' : DjL l B9 (upd M pF (.lst fs)) := DjL.of hmF d9
      have hmh : ∀ {u : HO}, upd (upd M pF (.lst fs)) h u l = none := by
        intro u
        rw [upd_ne (Ne.symm neh)]
        exact hmF
      have tl : (trow m pl p i).length = (rowAt m i).length := List.length_map ..
      refine q_for (R := fun q : Nat × Nat => rTx [q.1]) (xs := rowAt m i) (ei_keys (ev_rsRow (ev_v (U := rRs m) rfl ((rRs m).up s9 h1)) (ev_v (U := rNat i) rfl hv) hi)) ((DjL.mk (dj_m d9'.d hBh) d9'.b hmh).dj t9)
        (fun j σ9 M9 B9 => ∃ (o7 : Option V), σ9 = [some (.ref l), some (.ref aR), some (.ref aN), some vP, some (.ref pF), some v, some (.ref h), o7] ∧ M9 = upd (upd (upd M pF (.lst fs)) h (.dK (rowK ((trow m pl p i).take j)))) l (lotO t9))
        (fun _ _ _ _ _ _ h => h) (fun B10 b10 d10 => ⟨_, rfl, rfl⟩) (fun B0' j qv vs σ9 M9 B10 exj b0' b10 d10 hp hvs => ?_) fun σ9 M9 B10 hp b10 d10 => ?_
      · obtain ⟨o7, rfl, rfl⟩ := hp
        have hq : qv ∈ rowAt m i := List.mem_of_getElem? exj
        have s10 : Same B9 B10 := b0'.trans b10
        have exT : (trow m pl p i)[j]? = some (nuOf p qv.1, pl.getD qv.2 0) := by unfold trow; rw [List.getElem?_map, exj]; rfl
        have hrl := rok.len
        refine s_dput (td := tVar 6) (i := 6) (l := h) (k := Sum.inr (tx [nuOf p qv.1])) (U := rNat (pl.getD qv.2 0)) rfl (by rw [upd_ne neh, upd_same]) (ev_ixL (R := rNat) (i := qv.2) (x := pl.getD qv.2 0) (ev_v (U := rLst rNat pl) rfl ((rLst rNat pl).up (s29.trans s10) hP)) (ev_rget (ev_rsRow (ev_v (U := rRs m) rfl ((rRs m).up (s9.trans s10) h1)) (ev_v (U := rNat i) rfl hv) hi) (ev_v (U := rTx [qv.1]) rfl hvs) (mem_lookup rok.asc hq)) (plc.at (rok.to qv hq))) (ev_nget (ev_v (U := rNm p) rfl ((rNm p).up (s9.trans s10) h2)) (ev_v (U := rTx [qv.1]) rfl hvs) (sg qv hq)) d10 (by unfold rowK; rw [List.length_map, List.length_take]; omega) fun v11 B11 b11 d11 hv11 => ?_
        cases (show _ = _ from hv11)
        have en := putK_row (r := (trow m pl p i).take j) (c := nuOf p qv.1) (t := pl.getD qv.2 0) (take_new (trow_asc ab okp i) exT)
        have eH : upd (upd (upd (upd M pF (.lst fs)) h (.dK (rowK ((trow m pl p i).take j)))) l (lotO t9)) h (.dK (putK (rowK ((trow m pl p i).take j)) (Sum.inr (tx [nuOf p qv.1])) (V.int ((pl.getD qv.2 0 : Nat) : Int)))) = upd (upd (upd M pF (.lst fs)) h (.dK (rowK ((trow m pl p i).take (j + 1))))) l (lotO t9) := by
          rw [upd_swap neh, upd_upd, en, take_snoc exT]
        rw [eH] at d11 ⊢
        exact ⟨_, B11, rfl, d11, b10.trans b11, _, rfl, rfl⟩
      · obtain ⟨o7, rfl, rfl⟩ := hp
        rw [show (trow m pl p i).take (rowAt m i).length = trow m pl p i by rw [← tl, List.take_length]] at d10 ⊢
        have hMl : upd (upd (upd M pF (.lst fs)) h (.dK (rowK (trow m pl p i)))) l (lotO t9) h = some (.dK (rowK (trow m pl p i))) := by rw [upd_ne neh, upd_same]
        refine s_freeze hMl trivial d10 fun od d11 => ?_
        have edel : del (upd (upd (upd M pF (.lst fs)) h (.dK (rowK (trow m pl p i)))) l (lotO t9)) h = upd (upd M pF (.lst fs)) l (lotO t9) := by
          rw [← upd_swap neh, del_upd (by rw [upd_ne neh]; exact hMh0)]
        rw [edel] at d11 ⊢
        have sF : Same B10 (upd B10 h (.frz od (.dK (rowK (trow m pl p i))))) := same_new (dj_none d10 hMl)
        have d11' : DjL l (upd B10 h (.frz od (.dK (rowK (trow m pl p i))))) (upd M pF (.lst fs)) := DjL.of hmF d11
        have sU : Same B9 (upd B10 h (.frz od (.dK (rowK (trow m pl p i))))) := b10.trans sF
        have epr := el_pr (l := l) (σ := [some (.ref l), some (.ref aR), some (.ref aN), some vP, some (.ref pF), some v, some (.ref h), o7]) (M := upd M pF (.lst fs)) (B := upd B10 h (.frz od (.dK (rowK (trow m pl p i))))) (U := rEx (fun b : Bool => lastAt m i = true → b = true) fun b => rPr rRow rBl (trow m pl p i, b)) (Ua := rRow (trow m pl p i)) (Ub := rEx (fun b : Bool => lastAt m i = true → b = true) rBl) (el_of (ev_v (i := 6) rfl ⟨h, od, rfl, upd_same⟩)) (el_or (el_eqC (k := 0) (el_int (el_lot (n := 3) (i := 0) rfl (ev_c (x := .int 3)) (by decide) (by decide)))) (ev_rsLast (K := K) (ev_v (i := 1) (U := rRs m) rfl ((rRs m).up (s9.trans sU) h1)) (ev_v (i := 5) (U := rNat i) rfl hv) hi)) fun a y z B1 ha hy ⟨b, hb, hz⟩ => ⟨b, hb, a, y, z, rfl, ha, hy, hz⟩
        refine epr _ _ t9 (Same.refl _) (Same.refl _) d11' _ fun v12 t12 B12 b12 d12 hv12 => ?_
        obtain ⟨b, hb, hv12⟩ := hv12
        refine ⟨_, rfl, ?_⟩
        have ix := ev_ixL (K := K) (σ := [some (.ref l), some (.ref aR), some (.ref aN), some vP, some (.ref pF), some v, some (.ref h), o7]) (M := upd (upd M pF (.lst fs)) l (lotO t12)) (B := B12) (R := rNat) (i := i) (x := pl.getD i 0) (ev_v (i := 3) (U := rLst rNat pl) rfl ((rLst rNat pl).up (s29.trans (sU.trans b12)) hP)) (ev_v (i := 5) (U := rNat i) rfl hv) (plc.at hi)
        refine ix _ _ (Same.refl _) (Same.refl _) (d12.dj t12) _ fun y B13 b13 d13 hy => ?_
        have hk : pl.getD i 0 < m.length := plc.lt _ (plc.mem hi)
        refine ⟨pF, fs, ((pl.getD i 0 : Nat) : Int), pl.getD i 0, rfl, hy, jn_m (by rw [upd_ne neF, upd_same]), by
          unfold ixN
          rw [if_pos (by omega), if_pos (by omega)]
          congr 1, ?_⟩
        rw [jn_updM, upd_swap neF, upd_upd]
        have d13' : DjL l B13 (upd M pF (.lst fs)) := DjL.of hmF d13
        have dM : DjL l B13 M := ⟨dj_sub hMF0 d13'.d, d13'.b, d.m⟩
        refine ⟨_, B13, rfl, (dF dM (dj_none d13'.d upd_same)).dj t12, b9.trans (sU.trans (b12.trans b13)), _, _, _, t12, fs.set (pl.getD i 0) v12, fun s => if s = i then b else bs s, rfl, rfl, by rw [List.length_set]; exact hfl, fun s hs => ?_⟩
        by_cases e : s = i
        · subst e
          show (lastAt m s = true → (if s = s then b else bs s) = true) ∧ ∃ v, (fs.set (pl.getD s 0) v12)[pl.getD s 0]? = some v ∧ (rPr rRow rBl (trow m pl p s, if s = s then b else bs s)).p v B13
          rw [if_pos rfl]
          exact ⟨hb, v12, by rw [List.getElem?_set_self (by omega)], (rPr rRow rBl (trow m pl p s, b)).up b13 hv12⟩
        · show (lastAt m s = true → (if s = i then b else bs s) = true) ∧ ∃ v, (fs.set (pl.getD i 0) v12)[pl.getD s 0]? = some v ∧ (rPr rRow rBl (trow m pl p s, if s = i then b else bs s)).p v B13
          rw [if_neg e]
          obtain ⟨k1, v0, k2, k3⟩ := hdone s (by omega)
          exact ⟨k1, v0, by rw [List.getElem?_set_ne (fun z => e (plc.inj (by omega) hi z.symm))]; exact k2, (rPr rRow rBl (trow m pl p s, bs s)).up (sU.trans (b12.trans b13)) k3⟩
    · obtain ⟨o5, o6, o7, t9, fs, bs, rfl, rfl, hfl, hdone⟩ := hp
      rw [List.length_range] at hdone
      have d9' : DjL l B9 (upd M pF (.lst fs)) := DjL.of hmF d9
      rw [jnl_pub hMF0 neF]
      have d8 := d9'.pub hMF0
      have sF : Same B9 (upd B9 pF (.lst fs)) := same_new (dj_none d9'.d upd_same)
      have tlen : (turnM m pl p bs).length = m.length := by unfold turnM; rw [List.length_map, List.length_range]
      have alm : Al (rPr rRow rBl) (turnM m pl p bs) fs B9 := al_of_get (by rw [tlen, hfl]) fun j y ej => by
        have hj := (List.getElem?_eq_some_iff.mp ej).1
        rw [tlen] at hj
        have hm := plc.all hj
        have hx : pl.idxOf j < m.length := by
          have := List.idxOf_lt_length_of_mem hm
          rw [plc.len] at this
          exact this
        obtain ⟨_, v, k1, k2⟩ := hdone (pl.idxOf j) hx
        rw [getD_idx hm] at k1
        have e := turn_at (p := p) (bs := bs) plc hx
        rw [getD_idx hm, ej] at e
        cases e
        exact ⟨v, k1, k2⟩
      have tk := turn_ok (bs := bs) ab okp plc fun s hs => (hdone s hs).1
      exact s_ret (U := rEx (fun y : Mach × List Nat => TurnOk m y.1 y.2 p) fun y => rL2 (rRs y.1) (rLst rNat y.2)) ((ev_l2 (U := rRs (turnM m pl p bs)) (W := rLst rNat pl) (ev_v rfl ⟨pF, fs, rfl, upd_same, alm.up sF⟩) (ev_v (U := rLst rNat pl) rfl ((rLst rNat pl).up (b2.trans (b9.trans sF)) hP))).to fun v B10 _ hv => ⟨(turnM m pl p bs, pl), tk, hv⟩) (d8.dj t9) fun v B10 b10 d10 hv => q v t9 B10 (b1.trans (b2.trans (b9.trans (sF.trans b10)))) (DjL.of d.m d10) hv
end
end Zb
end
section
set_option Elab.async false
set_option linter.all false
set_option maxRecDepth 100000
set_option maxHeartbeats 1000000
/-! Zr6: enumerate(tuple). -/
namespace Zb
open PySem PySem.Spec PyProof.Rows L2
open Sem (wp)
theorem meets_enum1 {v : Value} {o : Obj} {H : Heap → Prop} (B : Begins v o H) :
    Meets (Builtin.«enumerate.__new__» ⟨[.type "enumerate", v], []⟩) (fun _ R s => H s.heap ∧
      R (.ok (.ret (.ref (s.heap.push o).objs.size))) { s with heap := (s.heap.push o).push { cls := .type "enumerate", data := .fields #[.none, .bool false, .ref s.heap.objs.size, rawInt 0, .none, .none] } }) :=
  .of_wp fun prog w A R s h => by
    obtain ⟨hp, g, d, tk, os⟩ := s
    obtain ⟨h1, h⟩ := h
    have hsub := sub_enumerate
    have q1 : ∀ {A' : Around} {E : Value → Shared → Prop} {Q : Value → Shared → Prop}, Q (.ref hp.objs.size) ⟨(hp.push o), g, d, tk, os⟩ → wpAny (model prog w) A' (pyIter v) Q E ⟨hp, g, d, tk, os⟩ := fun q => B.iter prog w _ _ ⟨hp, g, d, tk, os⟩ _ h1 q
    wp_walk
    refine wpAny_stack_any fun st => wpAny_pure ?_
    split
    · rename_i c _ _ _ _ _
      cases (c == Value.type "enumerate")
      · wp_walk using q1
        exact ⟨_, rfl, h⟩
      · wp_walk using q1
        exact ⟨_, rfl, h⟩
    · wp_walk using q1
      exact ⟨_, rfl, h⟩
section
variable {prog : Program} {w : World} {A : Around} {E : Value → Shared → Prop} {s : Shared}
theorem call_enum1 {v : Value} {o : Obj} {H : Heap → Prop} {Q : Value → Shared → Prop} (B : Begins v o H) (h1 : H s.heap)
    (h : ∀ h', IsEnum h' (s.heap.objs.size + 1) s.heap.objs.size 0 .none → h'.get? s.heap.objs.size = some o → (∀ b o, s.heap.get? b = some o → h'.get? b = some o) → Q (.ref (s.heap.objs.size + 1)) { s with heap := h' }) :
    wpAny (model prog w) A (call (.type "enumerate") [v]) Q E s := by
  refine callType_new F.called_enumerate (by decide) (F.typeCall_enumerate_1 _) (F.newCall_enumerate_1 _) (fun obj => F.args_object_init_2 obj _) F.entry_enumerate_new (meets_enum1 B) ⟨h1, ?_⟩
  have hz : (s.heap.push o).objs.size = s.heap.objs.size + 1 := Heap.size_push ..
  show _ ∧ _
  rw [hz]
  have he : IsEnum ((s.heap.push o).push { cls := .type "enumerate", data := .fields #[.none, .bool false, .ref s.heap.objs.size, rawInt 0, .none, .none] }) (s.heap.objs.size + 1) s.heap.objs.size 0 .none := by
    have q := Heap.get?_push_size (s.heap.push o) (o := { cls := .type "enumerate", data := .fields #[.none, .bool false, .ref s.heap.objs.size, rawInt 0, .none, .none] }) rfl
    rw [hz] at q
    exact q
  exact ⟨⟨_, he, rfl⟩, h _ he (Heap.get?_push_of_some _ (Heap.get?_push_size _ B.free)) fun b o x => Heap.get?_push_of_some _ (Heap.get?_push_of_some _ x)⟩
end
/-- the tuple at a, each item in a new pair -/
def Itet (K : PySem.W.Frag) (a : Addr) : It :=
  ⟨fun i H => ∃ (xs : List V) (x : V), SqT K H a xs ∧ xs[i]? = some x, fun i H v H' => ∃ T x, v = .ref T ∧ H T = none ∧ H' = upd H T (.tup [.int (i : Nat), x]) ∧ ∀ xs, SqT K H a xs → xs[i]? = some x, fun i H => ∃ xs : List V, SqT K H a xs ∧ xs.length ≤ i⟩
theorem turn_enumT {P : Program} {w : World} {K : PySem.W.Frag} {elts : List Expr} {kk : Nat} {tpos : Pos} (a e it : Addr) :
    L2.Turn P w K (.Tuple elts kk tpos) (Itet K a) [e, it] e (fun i h => (∃ old, IsEnum h e it ((i : Nat) : Int) old) ∧ h.IsTupleIter it a i ∧ e ≠ it) where
  mem := by simp
  obj := fun i h st b hb => by
    obtain ⟨⟨old, he⟩, ⟨o, ho, hc, hd⟩, _⟩ := st
    have e' : b = e ∨ b = it := by simpa using hb
    rcases e' with z | z
    · rw [z]; exact ⟨_, he, fun v q => nomatch q⟩
    · rw [z]; exact ⟨o, ho, fun v q => by rw [hd] at q; cases q⟩
  keep := fun i h h' st k => let ⟨⟨old, he⟩, hi, hne⟩ := st; ⟨⟨old, k e (by simp) _ he⟩, hi.at fun o q => k it (by simp) o q, hne⟩
  item := by
    intro X hP hw hK hc i pins s σ H E I hf st hg
    subst hP hw hK
    obtain ⟨⟨old, he⟩, hit, hne⟩ := st
    obtain ⟨xs, x, hq, hx⟩ := hg
    obtain ⟨its, rv, p, hz⟩ := I.tuple hq
    have pT : s.heap.IsTuple a its.toArray := p
    obtain ⟨u, hu, ru⟩ := rv.get hx
    have hel : e < s.heap.objs.size := Heap.lt_size he
    have hil : it < s.heap.objs.size := by obtain ⟨_, q, _⟩ := hit; exact Heap.lt_size q
    have ha : ∀ b ∈ [e, it], a ≠ b := fun b hb z => by
      obtain ⟨o, ho, hcl, _⟩ := pT
      have e' : b = e ∨ b = it := by simpa using hb
      rcases e' with q | q
      · rw [z, q] at ho
        have := ho.symm.trans he
        cases this
        exact absurd (Value.type.inj hcl) (by decide)
      · obtain ⟨o2, ho2, hc2, _⟩ := id hit
        rw [z, q] at ho
        have := ho.symm.trans ho2
        cases this
        rw [hcl] at hc2
        exact absurd (Value.type.inj hc2) (by decide)
    have D := Draws.tuple (prog := X.prog) (w := X.w) (A := X.A.in1) (I.ok.hd hc) it a (ha it (by simp)) its.toArray
    refine wpAny_pyNext_enum_itemD D he ⟨hit, pT⟩ (by have := (List.getElem?_eq_some_iff.mp hu).1; simpa using this) hne (by simp; exact ⟨hne, fun z => ha e (by simp) z.symm⟩) fun y h' tk hy ho hst hT hsz hk => ?_
    have hyu : y = u := by
      have : its.toArray[i]? = some y := hy
      rw [List.getElem?_toArray, hu] at this
      exact (Option.some.inj this).symm
    subst hyu
    refine ⟨_, rfl, wpAny_letOwnedTupleGo_enum (s := { s with heap := h', toks := tk + 1 }) ho fun h'' he' sb => ?_⟩
    have hT2 : h''.get? s.heap.objs.size = some { cls := .type "tuple", data := .seq #[.int i tk, y] } := (sb.2 _ (Nat.ne_of_gt hel)).trans hT
    have new : ObjOk X.prog X.w (upd H s.heap.objs.size (.tup [.int (i : Nat), x])) h'' s.heap.objs.size (.tup [.int (i : Nat), x]) :=
      ⟨by show 2 ≤ sizeLine; decide, [.int i tk, y], .cons ⟨_, rfl⟩ (.cons ru .nil), ⟨_, hT2, rfl, _, rfl⟩⟩
    have I1 : Inv X pins σ (upd H s.heap.objs.size (.tup [.int (i : Nat), x])) { s with heap := h'', toks := tk + 1 } :=
      I.turnedNew (ch := [e, it]) (fun b ob hb q => (sb.2 b (fun z => hb (by simp [z]))).trans (hk b ob (fun z => hb (by simp [z])) (fun z => hb (by simp [z])) q)) hf (Nat.le_refl _) new
    refine ⟨.ref s.heap.objs.size, _, I1, rfl, ⟨_, x, rfl, I.hok.fresh (Nat.le_refl _), rfl, fun ys hy => by rw [I.tuple_inj hy hq]; exact hx⟩, ⟨⟨y, ?_⟩, hst.1.at fun o q => (sb.2 it (Ne.symm hne)).trans q, hne⟩, fun b hb => ?_⟩
    · have e1 : ((i + 1 : Nat) : Int) = (i : Int) + 1 := by omega
      rw [e1]; exact he'
    · have hb' : b < s.heap.objs.size := by
        have e' : b = e ∨ b = it := by simpa using hb
        rcases e' with z | z
        · rw [z]; exact hel
        · rw [z]; exact hil
      rw [upd_ne (Nat.ne_of_lt hb')]
      exact (hf b hb).1
  done := by
    intro X hP hw hK hc i pins s σ H E I hf st hg
    subst hP hw hK
    obtain ⟨⟨old, he⟩, hit, hne⟩ := st
    obtain ⟨xs, hq, hx⟩ := hg
    obtain ⟨its, rv, p, hz⟩ := I.tuple hq
    have pT : s.heap.IsTuple a its.toArray := p
    obtain ⟨f0, f1, f2, f3, f4, f5⟩ := hf it (by simp)
    have hl := rv.length
    have hai : a ≠ it := fun z => by
      obtain ⟨o, ho, hcl, _⟩ := pT
      obtain ⟨o2, ho2, hc2, _⟩ := id hit
      rw [z] at ho
      have := ho.symm.trans ho2
      cases this
      rw [hcl] at hc2
      exact absurd (Value.type.inj hc2) (by decide)
    have e0 : wpAny (model X.prog X.w) X.A (pyNext (.ref e)) (fun r s' => r = none ∧ Inv X pins σ H s') E s := by
      unfold pyNext
      have hT : s.TypeIs (.ref e) "enumerate" := ⟨_, he, rfl⟩
      refine wpAny_bind (wpAny_attempt (wpAny_callSpecial?_slot (name := Str.ofString "__next__") hT F.slot_enumerate_next (wpAny_call_entry F.slot_enumerate_next hT F.entry_enumerate_next ?_ (F.args_enumerate_next_1 _))))
      show wpAny _ _ (field (.ref e) 2 >>= _) _ _ _
      refine wpAny_bind (wpAny_field he rfl (x := .ref it) rfl ?_)
      refine wpAny_bind (wpAny_nextOf_tuple_end (I.ok.hd hc) hit pT (by simp; omega) fun h' y he2 hx2 => ?_)
      obtain ⟨o, ho, hcc⟩ := hx2
      refine wpAny_bind (wpAny_isInstance (T := "StopIteration") (b := true) ⟨o, ho, hcc⟩ isSubtype_stop ?_)
      exact wpAny_pure ⟨rfl, I.turned (t' := s.toks) (fun b o hb q => he2 b o hb q) f0 f1 f3 f4 f5⟩
    exact e0
  self := fun A i s Q E st h => let ⟨⟨_, he⟩, _⟩ := st; wpAny_pyIter_enum he h
def iEnumT (K : PySem.W.Frag) (ta : TA) : TI := fun σ H R => ta σ H fun vs H1 => ∃ a xs, vs = [.ref a] ∧ SqT K H1 a xs ∧ R (Itet K a) H1
theorem pi_enumT {X : Cx} (K : PySem.W.Frag) (hK : X.K = K) {e : Expr} {ta : TA} {p pos tpos : Pos} {elts : List Expr} {kk : Nat} (hg : Gl X "enumerate") (hm : X.mg "enumerate" = none) (ha : PA X [e] ta) (hs : starEach [e] X.env = [(false, eval e X.env)] := by rfl) :
    PI X (.Tuple elts kk tpos) (.Call (.Name "enumerate" p) [e] [] pos) (iEnumT K ta) := by
  subst hK
  refine ⟨fun pins s σ H R I h => ?_⟩
  refine Call_ (ld_blt I hg hm boot_enumerate (PyProof.Rows.callWith_type1 (thn (ha.run pos pins s σ H _ I h) fun us s1 ⟨vs, H1, I1, r1, q1⟩ => ?_) hs rfl))
  obtain ⟨a, xs, ex, hq, q⟩ := q1
  subst ex
  cases r1 with
  | cons r rr =>
    cases rr
    cases r
    obtain ⟨its, rv, p', hz⟩ := I1.tuple hq
    refine call_enum1 (begins_tuple a its.toArray) p' fun h' he hit hk => wpAny_pyIter_enum he ?_
    have I2 : Inv X pins σ H1 { s1 with heap := h' } := I1.kept (t' := s1.toks) hk
    refine ⟨s1.heap.objs.size + 1, [s1.heap.objs.size + 1, s1.heap.objs.size], _, _, H1, rfl, I2, turn_enumT a (s1.heap.objs.size + 1) s1.heap.objs.size, ⟨⟨.none, he⟩, ⟨_, hit, rfl, rfl⟩, Nat.succ_ne_self _⟩, fun b hb => ?_, q⟩
    have e' : b = s1.heap.objs.size + 1 ∨ b = s1.heap.objs.size := by simpa using hb
    have hle : s1.heap.objs.size ≤ b := by
      rcases e' with z | z
      · rw [z]; exact Nat.le_add_right _ _
      · rw [z]; exact Nat.le_refl _
    exact I1.fpOk hle (I1.hok.fresh hle)
section
variable {K : PySem.W.Frag} {σ : L2.St} {M B : Hp}
theorem wk_enumT {α : Type} {R : α → Up} {xs : List α} {a : Addr} {vs : List V} (h : B a = some (.tup vs)) (al : Al R xs vs B) : Wk (Itet K a) B ((enumL xs).map (rPr rNat R)) :=
  wk_of (fun i M B1 s d hi => by
      rw [enumL_len] at hi
      exact ⟨vs, vs[i]'(by rw [← al.length]; exact hi), SqT.of (jn_b d (s _ _ h)), by simp⟩)
    (fun i q M B1 v H' e s d y => by
      obtain ⟨h1, h2⟩ := enumL_at e
      obtain ⟨T, x, rfl, hn, he, hx⟩ := y
      obtain ⟨w, hw, hr⟩ := al.get h2
      have z := hx vs (SqT.of (jn_b d (s _ _ h)))
      rw [hw] at z
      cases z
      obtain ⟨s2, d2, e2⟩ := new_pair d hn he
      exact ⟨_, s2, d2, e2, T, _, _, rfl, upd_same, by rw [h1]; rfl, (R q.2).up (s.trans s2) hr⟩)
    (fun M B1 s d => by
      rw [enumL_len]
      exact ⟨vs, SqT.of (jn_b d (s _ _ h)), by rw [al.length]; exact Nat.le_refl _⟩)
theorem ei_enumT {α : Type} {ta : TA} {R : α → Up} {xs : List α} (h : EvA ta σ M B [rTup R xs]) : EvI (iEnumT K ta) σ M B ((enumL xs).map (rPr rNat R)) := fun M1 B1 m b d Rr q => h M1 B1 m b d _ fun vs B2 b2 d2 hv => by
  cases hv with
  | cons h1 h2 =>
    cases h2
    obtain ⟨a, ws, rfl, ha, al⟩ := h1
    exact ⟨a, ws, rfl, SqT.of (jn_b d2 ha), q _ B2 b2 d2 (wk_enumT ha al)⟩
end
end Zb
end
section
set_option Elab.async false
set_option linter.all false
set_option maxRecDepth 100000
/-! Zr7: sorted(list of tuples of numbers whose first ones differ). -/
namespace Zb
open PySem PySem.Spec PyProof.Rows L2

def IsRw (h : Heap) (v : Value) (x : Int) : Prop := ∃ a o its t n, v = .ref a ∧ h.get? a = some o ∧ o.cls = .type "tuple" ∧ o.data = .seq ((Value.int x t :: its) : List Value).toArray n ∧ ∀ u ∈ its, ∃ y r, u = Value.int y r
theorem IsRw.keeps {h h' : Heap} {v : Value} {x : Int} (p : IsRw h v x) (k : ∀ b o, h.get? b = some o → o.cls = .type "tuple" → h'.get? b = some o) : IsRw h' v x := by
  obtain ⟨a, o, its, t, n, e, ho, hc, hd, hi⟩ := p
  exact ⟨a, o, its, t, n, e, k a o ho hc, hc, hd, hi⟩
section
variable {prog : Program} {w : World} {A : Around} {s : Shared}
theorem kat_same {b fin : Bool} {Q : Bool → Shared → Prop} : ∀ (l : List Value) (i : Nat), (∀ u ∈ l, ∃ y r, u = Value.int y r) → Q fin s → PySem.W.KatLex prog w A b fin Q (l.zip l) i s
  | [], _, _, h => PySem.W.kat_nil h
  | u :: l, i, k, h => by
    obtain ⟨y, r, rfl⟩ := k u List.mem_cons_self
    refine PySem.W.kat_cons (SeqAt.EqAt.int_int y r y r prog w _ _ ?_)
    refine PySem.W.kat_go (fun _ => PySem.W.kat_yes (kat_same l (i + 1) (fun v hv => k v (List.mem_cons_of_mem _ hv)) h)) fun e => ?_
    simp at e
theorem rw_cmp {vs : List Value} {k : Value → Int} (hp : ∀ v ∈ vs, IsRw s.heap v (k v)) (hd : ∀ u ∈ vs, ∀ v ∈ vs, k u = k v → u = v) : SrtO.Cmp prog w A s (tuples' true) (fun p => p.1 ∈ vs) (SrtO.lt2 fun v u => decide (k v < k u)) := by
  intro p q hm hm'
  show wpAny (model prog w) A (keyLt' (tuples' true) p.1 q.1) (fun r s' => s' = s ∧ r = decide (k p.1 < k q.1)) (fun _ _ => False) s
  by_cases e : k p.1 = k q.1
  · have e2 := hd _ hm _ hm' e
    rw [← e2]
    obtain ⟨a, o, its, t, n, ea, ho, hc, hda, hi⟩ := hp _ hm
    rw [show decide (k p.1 < k p.1) = false from decide_eq_false (Int.lt_irrefl _)]
    rw [ea]
    refine PySem.W.kat_lt ho hda ho hda ?_
    refine kat_same _ 0 (fun u hu => ?_) ⟨rfl, decide_eq_false (Nat.lt_irrefl _)⟩
    have hu : u ∈ Value.int (k p.1) t :: its := by simpa using hu
    rcases List.mem_cons.mp hu with rfl | hu
    · exact ⟨_, _, rfl⟩
    · exact hi u hu
  · obtain ⟨a, o, its, t, n, ea, ho, hc, hda, hi⟩ := hp _ hm
    obtain ⟨a', o', its', t', n', ea', ho', hc', hda', hi'⟩ := hp _ hm'
    generalize k p.1 = x at *
    generalize k q.1 = y at *
    rw [ea, ea']
    refine PySem.W.kat_lt ho hda ho' hda' ?_
    show PySem.W.KatLex prog w A true _ _ ((Value.int x t, Value.int y t') :: its.zip its') 0 s
    refine PySem.W.kat_cons (SeqAt.EqAt.int_int x t y t' prog w _ _ ?_)
    refine PySem.W.kat_go (fun e1 => ?_) fun _ => PySem.W.kat_no (oneLt_int ⟨rfl, rfl⟩)
    have : x = y := by simpa using e1
    exact absurd this e
theorem rw_firsts {h : Heap} {k : Value → Int} : ∀ {vs : List Value}, (∀ v ∈ vs, IsRw h v (k v)) → ∃ fs : List Value, PySem.W.KatTups h vs fs ∧ fs.length = vs.length ∧ ∀ f ∈ fs, ∃ x t, f = Value.int x t
  | [], _ => ⟨[], PySem.W.KatTups.nil, rfl, fun _ hm => by simp at hm⟩
  | v :: vs, hp => by
    obtain ⟨fs, h1, h2, h3⟩ := rw_firsts (vs := vs) fun v' hm => hp v' (List.mem_cons_of_mem _ hm)
    obtain ⟨a, o, its, t, n, e, ho, hc, hd, _⟩ := hp v List.mem_cons_self
    refine ⟨.int (k v) t :: fs, ?_, by rw [List.length_cons, List.length_cons, h2], fun f hm => ?_⟩
    · generalize k v = x at hd ⊢
      subst e
      exact PySem.W.KatTups.cons ho hc hd rfl h1
    · rcases List.mem_cons.mp hm with rfl | hm
      · exact ⟨_, t, rfl⟩
      · exact h3 f hm
theorem rw_sortable {a : Addr} {vs : List Value} {k : Value → Int} (h0 : 0 < vs.length) (hp : ∀ v ∈ vs, IsRw s.heap v (k v)) (hd : ∀ u ∈ vs, ∀ v ∈ vs, k u = k v → u = v) (ha : ∀ o, s.heap.get? a = some o → o.cls ≠ .type "tuple") : SrtO.SortableO prog w A s a vs fun v u => decide (k v < k u) := by
  intro h' keep
  have hp' : ∀ v ∈ vs, IsRw h' v (k v) := fun v hm => (hp v hm).keeps fun b o e c => keep b o (fun z => by subst z; exact ha o e c) e
  obtain ⟨fs, h1, h2, h3⟩ := rw_firsts hp'
  refine ⟨tuples' true, fun Q E hq => ?_, rw_cmp hp' hd⟩
  refine PySem.W.kat_kind (T := .type "int") h1 (by omega) (fun f hm => ?_) (by rfl) ?_
  · obtain ⟨x, t, rfl⟩ := h3 f hm
    exact PySem.W.Looks.now
  · have e : (Value.type "int" != Value.type "tuple") = true := by first | decide +kernel | rfl | decide
    rw [e]
    exact hq
end
theorem swo_one (k : Value → Int) : SrtO.Swo fun v u => decide (k v < k u) := by
  refine ⟨fun x y h => ?_, fun x y z h1 h2 => ?_⟩
  · have := of_decide_eq_true h
    exact decide_eq_false (by omega)
  · have a := of_decide_eq_false h1
    have b := of_decide_eq_false h2
    exact decide_eq_false (by omega)
def rSortH (K : PySem.W.Frag) : List V → Hp → VK → Prop := fun vs H Q => ∃ (a : Addr) (xs : List V) (k : V → Int), vs = [V.ref a] ∧ SqL K H a xs ∧ (∀ x ∈ xs, ∃ (t : Addr) (ns : List Int), x = V.ref t ∧ H t = some (.tup (V.int (k x) :: ns.map V.int))) ∧ (∀ x ∈ xs, ∀ y ∈ xs, k x = k y → x = y) ∧
  ∀ ys p, ys.Perm xs → ys.Pairwise (fun x y => k x ≤ k y) → H p = none → Q (.ref p) (upd H p (.lst ys))
theorem vals_ints : ∀ {ns : List Int} {us : List Value}, Vals (ns.map V.int) us → ∀ u ∈ us, ∃ y r, u = Value.int y r
  | [], _, h, u, hu => by cases h; cases hu
  | n :: ns, _, h, u, hu => by
    cases h with
    | cons a b =>
      rcases List.mem_cons.mp hu with rfl | hu
      · obtain ⟨t, e⟩ := a
        exact ⟨n, t, e⟩
      · exact vals_ints b u hu
theorem cr_sortH {X : Cx} (K : PySem.W.Frag) (hK : X.K = K) : CallR X (.builtin "sorted") (rSortH K) := by
  subst hK
  intro pins s σ H vs us Q I r h
  obtain ⟨a, xs, k, rfl, hs, hx, hk, q⟩ := h
  obtain ⟨its, rv, hl, hz⟩ := I.list hs
  obtain ⟨u, rfl, ru⟩ := vals1 r
  obtain rfl : u = Value.ref a := ru
  obtain ⟨e1, e2⟩ := refs_back rv fun x m => by
    obtain ⟨t, ns, e, _⟩ := hx x m
    exact ⟨t, e⟩
  have mem : ∀ v ∈ its, backV v ∈ xs := fun v hv => by rw [e1]; exact List.mem_map.mpr ⟨_, hv, rfl⟩
  have hp : ∀ v ∈ its, IsRw s.heap v (k (backV v)) := fun v hv => by
    obtain ⟨t, rfl⟩ := e2 v hv
    obtain ⟨t', ns, e, ht⟩ := hx _ (mem _ hv)
    cases e
    obtain ⟨_, its2, r2, o, ho, hc, n, hd⟩ := I.hok _ _ ht
    cases r2 with
    | cons ra rb =>
      obtain ⟨t1, rfl⟩ := ra
      exact ⟨t, o, _, t1, n, rfl, ho, hc, hd, vals_ints rb⟩
  have hdist : ∀ u ∈ its, ∀ v ∈ its, k (backV u) = k (backV v) → u = v := fun u hu v hv e => by
    have z := hk _ (mem u hu) _ (mem v hv) e
    obtain ⟨t, rfl⟩ := e2 u hu
    obtain ⟨t2, rfl⟩ := e2 v hv
    cases z
    rfl
  have hz' : its.length ≤ sizeLine := by rw [← rv.length]; exact hz
  refine SrtO.sorted_ord (swo_one fun u => k (backV u)) hl.isList hz' (fun h2 h₁ b hb kk => ?_) fun out h1 h2 => ?_
  · refine rw_sortable (s := { s with heap := h₁ }) (by omega) (fun v hm => (hp v hm).keeps fun b o e _ => (kk b o e).2) hdist fun o e => ?_
    have e' : some o = some (seqObj "list" its.toArray 0) := e.symm.trans hb
    cases e'
    intro c
    exact absurd (Value.type.inj c) (by decide)
  · have h3 : ∀ u ∈ out, ∃ a, u = Value.ref a := fun u hu => e2 u (h2.perm.mem_iff.mp hu)
    obtain ⟨n, hn⟩ := sortedAll_at s.heap its out.toArray
    have hb : (out.map backV).Perm xs := by rw [e1]; exact h2.perm.map backV
    refine ⟨.ref _, upd H (s.heap.objs.size + 1) (.lst (out.map backV)), I.laid (t' := s.toks) (fun _ _ => sortedAll_old) (Nat.le_succ _) ⟨by rw [hb.length_eq]; exact hz, out, n, vals_back h3, hn⟩, rfl, q _ _ hb ?_ (I.hok.fresh (Nat.le_succ _))⟩
    rw [List.pairwise_map]
    exact List.Pairwise.imp (fun {x y} hxy => by have := of_decide_eq_false hxy; omega) h1
/-! ### rows -/
theorem perm_inv {α β : Type} {g : α → β} {l l2 : List β} (h : l.Perm l2) : ∀ ks : List α, l2 = ks.map g → ∃ ks' : List α, ks'.Perm ks ∧ l = ks'.map g := by
  induction h with
  | nil => intro ks e; exact ⟨[], by rw [List.map_eq_nil_iff.mp e.symm], rfl⟩
  | cons x h ih =>
    intro ks e
    match ks, e with
    | k :: ks, e =>
      rw [List.map_cons] at e
      injection e with e1 e2
      obtain ⟨ks', p, e3⟩ := ih ks e2
      exact ⟨k :: ks', p.cons k, by rw [List.map_cons, ← e3, e1]⟩
  | swap x y l =>
    intro ks e
    match ks, e with
    | [_], e => cases e
    | a :: b :: ks, e =>
      rw [List.map_cons, List.map_cons] at e
      injection e with e1 e2
      injection e2 with e2 e3
      exact ⟨b :: a :: ks, List.Perm.swap a b ks, by rw [List.map_cons, List.map_cons, ← e1, ← e2, ← e3]⟩
  | trans h1 h2 ih1 ih2 =>
    intro ks e
    obtain ⟨k1, p1, e1⟩ := ih2 ks e
    obtain ⟨k2, p2, e2⟩ := ih1 k1 e1
    exact ⟨k2, p2.trans p1, e2⟩
def hdV (B : Hp) : V → Int
  | .ref t => match B t with
    | some (.tup (.int i :: _)) => i
    | _ => 0
  | _ => 0
theorem hd_row {r : List Nat} {v : V} {B : Hp} (h : (rTup rNat r).p v B) (hn : r ≠ []) : hdV B v = ((r.getD 0 0 : Nat) : Int) ∧ ∃ (t : Addr) (ns : List Int), v = V.ref t ∧ B t = some (.tup (V.int (hdV B v) :: ns.map V.int)) := by
  obtain ⟨t, vs, rfl, ht, al⟩ := h
  match r, hn with
  | x :: r, _ =>
    cases al with
    | cons a b =>
      cases (show _ = _ from a)
      have e : hdV B (.ref t) = (x : Int) := by
        show (match B t with | some (.tup (.int i :: _)) => i | _ => 0) = _
        rw [ht]
      refine ⟨e, t, r.map fun i : Nat => (i : Int), rfl, ?_⟩
      rw [e, ht, al_nat b, List.map_map]
      rfl
section
variable {K : PySem.W.Frag} {σ : L2.St} {M B : Hp} {ta : TE}
theorem en_sortRows {rs : List (List Nat)} (ha : Ev ta σ M B (rLst (rTup rNat) rs)) (hn : ∀ r ∈ rs, r ≠ []) (hd : (rs.map fun r => r.getD 0 0).Nodup) :
    EvN (tCB (rSortH K) (tCons ta tNil)) σ M B (fun vs B1 => ∃ rs' : List (List Nat), rs'.Perm rs ∧ rs'.Pairwise (fun p q => p.getD 0 0 ≤ q.getD 0 0) ∧ Al (rTup rNat) rs' vs B1) := fun M1 B1 m b d Q q => ha M1 B1 m b d _ fun v B2 b2 d2 ⟨a, xs, e, h, al⟩ => by
  have hl := al.length
  have prj : xs = (rs.zip xs).map (·.2) := (List.map_snd_zip (Nat.le_of_eq hl.symm)).symm
  have prj1 : rs = (rs.zip xs).map (·.1) := (List.map_fst_zip (Nat.le_of_eq hl)).symm
  have each : ∀ z ∈ rs.zip xs, (rTup rNat z.1).p z.2 B2 ∧ z.1 ≠ [] := fun z hz => by
    obtain ⟨i, hi⟩ := List.getElem?_of_mem hz
    rw [List.getElem?_zip_eq_some] at hi
    obtain ⟨w, hw, hr⟩ := al.get hi.1
    rw [hi.2] at hw
    cases hw
    exact ⟨hr, hn _ (List.mem_of_getElem? hi.1)⟩
  have lift : ∀ x ∈ xs, ∃ z ∈ rs.zip xs, z.2 = x := fun x hx => by
    rw [prj] at hx
    obtain ⟨z, hz, e⟩ := List.mem_map.mp hx
    exact ⟨z, hz, e⟩
  have toJ : ∀ {t : Addr} {o : HO}, B2 t = some o → jn B2 M1 t = some o := fun h => jn_b d2 h
  have hd2 : ((rs.zip xs).map fun z => z.1.getD 0 0).Nodup := by
    have : (rs.zip xs).map (fun z => z.1.getD 0 0) = ((rs.zip xs).map (·.1)).map fun r => r.getD 0 0 := by rw [List.map_map]; rfl
    rw [this, ← prj1]
    exact hd
  refine ⟨a, xs, hdV B2, by rw [e], SqL.of (jn_b d2 h), fun x hx => ?_, fun x hx y hy exy => ?_, fun ys p hp hs hpn => ?_⟩
  · obtain ⟨z, hz, rfl⟩ := lift x hx
    obtain ⟨_, t, ns, e1, e2⟩ := hd_row (each z hz).1 (each z hz).2
    exact ⟨t, ns, e1, toJ e2⟩
  · obtain ⟨z, hz, rfl⟩ := lift x hx
    obtain ⟨z2, hz2, rfl⟩ := lift y hy
    rw [(hd_row (each z hz).1 (each z hz).2).1, (hd_row (each z2 hz2).1 (each z2 hz2).2).1] at exy
    obtain ⟨i, hi⟩ := List.getElem?_of_mem hz
    obtain ⟨j, hj⟩ := List.getElem?_of_mem hz2
    have ei : ((rs.zip xs).map fun z => z.1.getD 0 0)[i]? = some (z.1.getD 0 0) := by rw [List.getElem?_map, hi]; rfl
    have ej : ((rs.zip xs).map fun z => z.1.getD 0 0)[j]? = some (z2.1.getD 0 0) := by rw [List.getElem?_map, hj]; rfl
    have e3 : z.1.getD 0 0 = z2.1.getD 0 0 := by omega
    rw [e3] at ei
    have eij : i = j := by
      obtain ⟨li, ei⟩ := List.getElem?_eq_some_iff.mp ei
      obtain ⟨lj, ej⟩ := List.getElem?_eq_some_iff.mp ej
      have hpw := List.pairwise_iff_getElem.mp hd2
      rcases Nat.lt_trichotomy i j with z1 | z1 | z1
      · exact absurd (ei.trans ej.symm) (hpw i j li lj z1)
      · exact z1
      · exact absurd (ej.trans ei.symm) (hpw j i lj li z1)
    subst eij
    rw [hi] at hj
    cases hj
    rfl
  · obtain ⟨zs, pz, ey⟩ := perm_inv hp (rs.zip xs) prj
    obtain ⟨hm, hb⟩ := jn_none hpn
    rw [jn_updM]
    refine q p ys B2 b2 d2 hm hb ⟨zs.map (·.1), by conv => rhs; rw [prj1]
                                                   exact pz.map (·.1), ?_, ?_⟩
    · rw [ey, List.pairwise_map] at hs
      rw [List.pairwise_map]
      refine List.Pairwise.imp_of_mem (fun {z z2} hz hz2 h => ?_) hs
      have k1 := each z (pz.mem_iff.mp hz)
      have k2 := each z2 (pz.mem_iff.mp hz2)
      rw [(hd_row k1.1 k1.2).1, (hd_row k2.1 k2.2).1] at h
      omega
    · rw [ey]
      clear hs ey hp
      have each2 : ∀ z ∈ zs, (rTup rNat z.1).p z.2 B2 := fun z hz => (each z (pz.mem_iff.mp hz)).1
      clear pz
      induction zs with
      | nil => exact .nil
      | cons z zs ih => exact .cons (each2 z List.mem_cons_self) (ih fun y hy => each2 y (List.mem_cons_of_mem _ hy))
end
end Zb
end
section
set_option Elab.async false
set_option linter.all false
set_option maxRecDepth 100000
set_option maxHeartbeats 1000000
/-! Zl10: the walk: _law_alike. -/
namespace Zb
open PySem PySem.Spec PyProof.Rows L2 SlX
theorem kcr_sorted {X : Cx} (K : PySem.W.Frag) (hK : X.K = K) : CallR X (.builtin "sorted") (rSorted K) := hK ▸ cr_sorted
theorem eqv_tupss : ∀ (xs ys : List (List Nat)), PyData.eqvAll (xs.map tD) (ys.map tD) = decide (xs = ys)
  | [], [] => rfl
  | [], _ :: _ => rfl
  | _ :: _, [] => rfl
  | x :: xs, y :: ys => by
    show (PyData.eqv (tD x) (tD y) && PyData.eqvAll (xs.map tD) (ys.map tD)) = _
    rw [eqv_tupss xs ys, show PyData.eqv (tD x) (tD y) = decide (x = y) from eqv_nats x y]
    by_cases h : x = y
    · subst h
      simp
    · simp [h]
theorem pw_inj {α : Type} {f : α → Nat} {L : List α} (h : L.Pairwise fun p q => f p < f q) {a b : α} (ha : a ∈ L) (hb : b ∈ L) (e : f a = f b) : a = b := by
  obtain ⟨i, hi⟩ := List.getElem?_of_mem ha
  obtain ⟨j, hj⟩ := List.getElem?_of_mem hb
  rcases Nat.lt_trichotomy i j with z | z | z
  · have := pw_at h hi hj z
    omega
  · subst z
    rw [hi] at hj
    cases hj
    rfl
  · have := pw_at h hj hi z
    omega
theorem below_perm {n : Nat} {xs : List Nat} (nd : xs.Nodup) (h : ∀ k ∈ xs, k < n) : (below n xs).Perm xs :=
  (List.perm_ext_iff_of_nodup (below_asc.imp fun h => Nat.ne_of_lt h) nd).mpr fun k => ⟨fun hk => (mem_below.mp hk).2, fun hk => mem_below.mpr ⟨h k hk, hk⟩⟩
section
variable {K : PySem.W.Frag} {c : Cs} {σ : L2.St} {M B : Hp} {ta tb tc td : TE} {U W : Up}
theorem ev_neTs {xs ys : List (List Nat)} (ha : Ev ta σ M B (rLst (rTup rNat) xs)) (hb : Ev tb σ M B (rLst (rTup rNat) ys)) : Ev (tOp (rNeD K) ta tb) σ M B (rBl (!decide (xs = ys))) := by
  rw [← eqv_tupss]
  exact ev_neD ha hb (dat_lst fun _ _ => dat_tup fun _ _ => dat_int) (dat_lst fun _ _ => dat_tup fun _ _ => dat_int) sh_ltups sh_ltups
/-- sorted(xs), xs numbers that differ -/
theorem en_sortI {n : Nat} {xs : List Nat} (ha : Ev ta σ M B (rLst rNat xs)) (hl : xs.length < 64) (nd : xs.Nodup) (hn : ∀ k ∈ xs, k < n) : EvN (tCB (rSorted K) (tCons ta tNil)) σ M B (Al rNat (below n xs)) := fun M1 B1 m b dj Q q =>
  ha M1 B1 m b dj _ fun v B2 b2 d2 ⟨a, vs, e, h, al⟩ => ⟨a, xs.map fun i : Nat => (i : Int), by rw [e], by rw [← al_int al]; exact SqL.of (jn_b d2 h), by rw [List.length_map]; exact hl, fun ns p hp hs hpn => by
    obtain ⟨hm, hb⟩ := jn_none hpn
    rw [jn_updM]
    have e : ns = (below n xs).map fun i : Nat => (i : Int) := by
      refine List.Perm.eq_of_pairwise (le := fun a b : Int => a ≤ b) (fun a b _ _ h1 h2 => Int.le_antisymm h1 h2) hs ?_ (hp.trans ((below_perm nd hn).map _).symm)
      rw [List.pairwise_map]
      exact below_asc.imp fun h => by omega
    subst e
    refine q p _ B2 b2 d2 hm hb ?_
    rw [List.map_map]
    exact al_nats⟩
theorem ev_l2a (ha : Ev ta σ M B (rL2 U W)) : Ev (tOp (rIxL K) ta (tC (.int 0))) σ M B U :=
  ev_op ha (ev_c (x := .int 0)) fun v y M1 B1 _ _ d ⟨a, y1, z1, ev, h, h1, h2⟩ hy Q q => ⟨a, _, 0, y1, ev, hy, SqL.of (jn_b d h), rfl, q y1 B1 (Same.refl _) d h1⟩
theorem ev_l2b (ha : Ev ta σ M B (rL2 U W)) : Ev (tOp (rIxL K) ta (tC (.int 1))) σ M B W :=
  ev_op ha (ev_c (x := .int 1)) fun v y M1 B1 _ _ d ⟨a, y1, z1, ev, h, h1, h2⟩ hy Q q => ⟨a, _, 1, z1, ev, hy, SqL.of (jn_b d h), rfl, q z1 B1 (Same.refl _) d h2⟩
theorem ev_neWd {r : Option (List Nat)} (ha : Ev ta σ M B (rWd r)) (hb : Ev tb σ M B (rWd r)) : Ev (tOp rNe ta tb) σ M B (rBl false) :=
  ev_op0 ha hb fun x y M1 B1 _ _ d hx hy Q q => by
    cases r with
    | none =>
      rw [show x = .non from hx, show y = .non from hy]
      exact ⟨rfl, by rw [decide_eq_true rfl]; exact q⟩
    | some w =>
      rw [show x = .str (tx w) from hx, show y = .str (tx w) from hy]
      exact ⟨rfl, by rw [decide_eq_true rfl]; exact q⟩
theorem ev_rgLongest {m : Mach} (h : Ev ta σ M B (rRg c m)) (wf : Wf m) : Ev (tPropI [c.CR] (sp_longest c) ta) σ M B (rEx (IsLongest m) rNat) := fun M1 B1 mm b d Q q => h M1 B1 mm b d _ fun v B2 b2 d2 hv => by
  obtain ⟨a, e, hi⟩ := isI_rg d2 hv
  subst e
  exact ⟨a, c.CR, rfl, List.mem_cons_self, hi, m, B2, M1, rfl, d2, wf, .cons hv .nil, fun z B3 b3 d3 hz => q z B3 (b2.trans b3) d3 hz⟩
theorem ev_lack {m m' : Mach} {r r' : List Nat} (h1 : Ev ta σ M B (rForm c m)) (h2 : Ev tb σ M B (rTup rNat r)) (h3 : Ev tc σ M B (rForm c m')) (h4 : Ev td σ M B (rTup rNat r')) (ok : okCov (m, r, m', r')) : Ev (tCall (sp_lacking_piece c) [] E0 (tCons ta (tCons tb (tCons tc (tCons td tNil))))) σ M B (rEx (Told m r m' r') rWd) :=
  ev_call (A := aCov c) (R := fun x : Mach × List Nat × Mach × List Nat => rEx (Told x.1 x.2.1 x.2.2.1 x.2.2.2) rWd) (m, r, m', r') (ea_cov (m, r, m', r') h1 h2 h3 h4) ok
end
/-! ### turned machines -/
abbrev Tn : Type := Mach × Mach × List Nat
def piT (y : Tn) (s : Nat) : Nat := y.2.2.getD s 0
noncomputable def imgs (y : Tn) : List (List Nat) := (rings y.1).map (imgP (piT y) y.1.length)
def okT (p : Nat × Nat) (y : Tn) : Prop := AB y.1 ∧ TurnOk y.1 y.2.1 y.2.2 p
theorem okT.turn {p : Nat × Nat} {y : Tn} (h : okT p y) : Turn y.1 y.2.1 (piT y) (nuOf p) [97, 98] := h.2.1
theorem imgs_perm {p : Nat × Nat} {y : Tn} (h : okT p y) : (imgs y).Perm (rings y.2.1) := h.turn.perm h.1.1.toWf
theorem imgs_heads {p : Nat × Nat} {y : Tn} (h : okT p y) : ((imgs y).map fun r => r.getD 0 0).Nodup := by
  refine ((imgs_perm h).map _).nodup_iff.mpr ?_
  exact List.pairwise_map.mpr (rings_heads.imp fun h => Nat.ne_of_lt h)
theorem imgs_ne {p : Nat × Nat} {y : Tn} (h : okT p y) : ∀ r ∈ imgs y, r ≠ [] := fun r hr => part_ne (mem_rings.mp ((imgs_perm h).mem_iff.mp hr)).1
theorem sorted_imgs {p : Nat × Nat} {y : Tn} (h : okT p y) {rs : List (List Nat)} (hp : rs.Perm (imgs y)) (hs : rs.Pairwise fun p q => p.getD 0 0 ≤ q.getD 0 0) : rs = rings y.2.1 := by
  have hp2 := hp.trans (imgs_perm h)
  refine List.Perm.eq_of_pairwise (le := fun p q : List Nat => p.getD 0 0 ≤ q.getD 0 0) (fun a b ha hb h1 h2 => pw_inj (f := fun r : List Nat => r.getD 0 0) rings_heads (hp2.mem_iff.mp ha) hb (Nat.le_antisymm h1 h2)) hs (rings_heads.imp fun h => Nat.le_of_lt h) hp2
abbrev s__law_alike : Stmt := top 77
theorem sc__law_alike : FnScope ["_law_plains", "_law_turns", "_law_names", "_law_forms", "_law_others", "_law_moved", "_law_at", "_law_places", "_law_ring_rows", "_law_ring", "_law_one_here", "_law_over", "_law_two", "_law_under", "_law_piece", "_law_other", "_law_rows", "_law_turn", "_law_state"] ["_law_plains", "_law_turns", "_law_names"] (defScope s__law_alike) := ⟨rfl, rfl, rfl, by decide +kernel, rfl, by decide +kernel, by decide +kernel⟩
abbrev rTn (y : Tn) : Up := rL2 (rRs y.2.1) (rLst rNat y.2.2)
def sp_alike : Sp := spF (α := Tn × Tn × (Nat × Nat)) (fun x => [rLst (fun y : Tn => rRs y.1) [x.1, x.2.1], rLst rTn [x.1, x.2.1], rNm x.2.2]) (fun x => okT x.2.2 x.1 ∧ okT x.2.2 x.2.1 ∧ okNm x.2.2) (fun _ => rBl true)
section
variable {P : Program} {w : World} {K : PySem.W.Frag} {mg : Str → Option Value} {base : Heap} {c : Cs}
theorem c_alike (D : Def K mg "_law_alike" s__law_alike) (T : Bt mg) (c_made : Cal P w K mg base 6 "_law_made" (sp_made c)) (c_spelled : Cal P w K mg base 1 "_law_spelled" sp_spelled) (c_lacking_piece : Cal P w K mg base 6 "lacking_piece" (sp_lacking_piece c)) (c_Rings : CalC P w K mg base 3 "Rings" c.CR (sp_Rings c))
    (oR : ∀ C ∈ [c.CR], OwnP P w K mg base 1 C "rings" (sp_Rings_rings c)) (oX : ∀ C ∈ [c.CR], OwnP P w K mg base 2 C "longest" (sp_longest c)) : Cal P w K mg base 7 "_law_alike" sp_alike :=
  cal_of D sc__law_alike (fun _ _ _ _ _ _ us hl => match us, hl with | [_, _, _], _ => rfl) (spF_len fun _ => rfl) fun f cdv A outer s H vs Q E hr h => by
  obtain ⟨⟨y0, y1, p⟩, B, M, rfl, d, ⟨k0, k1, okp⟩, al, q⟩ := h
  have k0 : okT p y0 := k0
  have k1 : okT p y1 := k1
  have okp : okNm p := okp
  have sc := sc__law_alike
  have hu64 := Nat.lt_of_succ_lt (room_u hr)
  have kall : ∀ y ∈ ([y0, y1] : List Tn), okT p y := fun y hy => by
    rcases List.mem_cons.mp hy with rfl | hy
    · exact k0
    · rw [List.mem_singleton.mp hy]; exact k1
  refine ⟨_, (pss_cons (ps_par (i := 3) (j := 4) rfl sc.nd rfl rfl (by decide) rfl rfl (pa_cons (pe_lc (own := [("_law_rows", 16)]) rfl sc.nd (kpi_list K rfl (pv 0)) (blkOk_by (by kernel_rfl)) (fun _ _ _ _ _ => (pg_name (i := 16) sc.nd rfl (.inl rfl))) (fun _ _ _ _ _ => pts_nil) (fun _ _ _ _ _ => (pe_cal c_made hr (by decide) (by rfl) (pa_cons (pv 16) pa_nil)))) (pa_cons (pe_lc (own := [("_law_turn", 17)]) rfl sc.nd (kpi_list K rfl (pv 1)) (blkOk_by (by kernel_rfl)) (fun _ _ _ _ _ => (pg_name (i := 17) sc.nd rfl (.inl rfl))) (fun _ _ _ _ _ => pts_nil) (fun _ _ _ _ _ => (pe_cal c_made hr (by decide) (by rfl) (pa_cons (pe_ix (kix_list K rfl) (pv 17) pe_int (fun _ _ => rfl)) pa_nil)))) pa_nil)) (by rfl))
      (pss_cons (ps_set (i := 5) sc.nd rfl (.inl rfl) (pe_lst pa_nil))
      (pss_cons (ps_for PassesOwn.never rfl (pi_range1 (by rfl) T.range (pa_cons pe_int pa_nil)) (pg_name (i := 6) sc.nd rfl (.inl rfl)) (pss_cons (ps_asg (pe_tup (pa_cons (pe_ix (kix_list K rfl) (pe_ix (kix_list K rfl) (pv 1) (pv 6) (fun _ _ => rfl)) pe_int (fun _ _ => rfl)) (pa_cons (pe_lst pa_nil) pa_nil))) (kpg_tup (n := 2) K rfl rfl (pgs_cons (pg_name (i := 7) sc.nd rfl (.inr rfl)) (pgs_cons (pg_name (i := 8) sc.nd rfl (.inl rfl)) pgs_nil))))
      (pss_cons (ps_for PassesOwn.never rfl (kpi_tup K rfl (pe_propI (pe_mk c_Rings hr (by decide) (by rfl) (pa_cons (pe_ix (kix_list K rfl) (pv 3) (pv 6) (fun _ _ => rfl)) pa_nil)) oR (hr.mono (by decide)))) (pg_name (i := 9) sc.nd rfl (.inl rfl)) (pss_one (ps_expr (pe_bm PySem.F.plainAttrs_list PySem.F.slot_list_append PySem.F.type_list_append mt_append (pv 8) (pa_cons (pe_callTy (kc_tup K rfl) (by rfl) T.tuple (by decide +kernel) (pa_cons (pe_callB (kcr_sorted K rfl) (by rfl) T.sorted (by decide +kernel) (pa_cons (pe_lc (own := [("_law_state", 18)]) rfl sc.nd (kpi_tup K rfl (pv 9)) (blkOk_by (by kernel_rfl)) (fun _ _ _ _ _ => (pg_name (i := 18) sc.nd rfl (.inl rfl))) (fun _ _ _ _ _ => pts_nil) (fun _ _ _ _ _ => (pe_ix (kix_list K rfl) (pv 7) (pv 18) (fun _ _ => rfl)))) pa_nil)) pa_nil)) pa_nil)))))
      (pss_cons (ps_if (pt_cmpR (kop_neD K rfl hu64) (pe_callB (cr_sortH K rfl) (by rfl) T.sorted (by decide +kernel) (pa_cons (pv 8) pa_nil)) (pe_callTy (kc_list K rfl) (by rfl) T.list (by decide +kernel) (pa_cons (pe_propI (pe_mk c_Rings hr (by decide) (by rfl) (pa_cons (pe_ix (kix_list K rfl) (pv 4) (pv 6) (fun _ _ => rfl)) pa_nil)) oR (hr.mono (by decide))) pa_nil)) (nomark _)) (pss_one (ps_ret pe_bl)) pss_nil)
      (pss_one (ps_expr (pe_bm PySem.F.plainAttrs_list PySem.F.slot_list_append PySem.F.type_list_append mt_append (pv 5) (pa_cons (pv 8) pa_nil))))))))
      (pss_cons (ps_for PassesOwn.never rfl (pi_enumT K rfl (by rfl) T.enumerate (pa_cons (pe_propI (pe_mk c_Rings hr (by decide) (by rfl) (pa_cons (pe_ix (kix_list K rfl) (pv 3) pe_int (fun _ _ => rfl)) pa_nil)) oR (hr.mono (by decide))) pa_nil)) (kpg_tup (n := 2) K rfl rfl (pgs_cons (pg_name (i := 10) sc.nd rfl (.inl rfl)) (pgs_cons (pg_name (i := 11) sc.nd rfl (.inl rfl)) pgs_nil))) (pss_one (ps_for PassesOwn.never rfl (pi_enumT K rfl (by rfl) T.enumerate (pa_cons (pe_propI (pe_mk c_Rings hr (by decide) (by rfl) (pa_cons (pe_ix (kix_list K rfl) (pv 3) pe_int (fun _ _ => rfl)) pa_nil)) oR (hr.mono (by decide))) pa_nil)) (kpg_tup (n := 2) K rfl rfl (pgs_cons (pg_name (i := 12) sc.nd rfl (.inl rfl)) (pgs_cons (pg_name (i := 13) sc.nd rfl (.inl rfl)) pgs_nil))) (pss_cons (ps_set (i := 14) sc.nd rfl (.inl rfl) (pe_cal c_lacking_piece hr (by decide) (by rfl) (pa_cons (pe_ix (kix_list K rfl) (pv 3) pe_int (fun _ _ => rfl)) (pa_cons (pv 11) (pa_cons (pe_ix (kix_list K rfl) (pv 3) pe_int (fun _ _ => rfl)) (pa_cons (pv 13) pa_nil))))))
      (pss_cons (ps_set (i := 15) sc.nd rfl (.inl rfl) (pe_cal c_lacking_piece hr (by decide) (by rfl) (pa_cons (pe_ix (kix_list K rfl) (pv 4) pe_int (fun _ _ => rfl)) (pa_cons (pe_ix (kix_list K rfl) (pe_ix (kix_list K rfl) (pv 5) pe_int (fun _ _ => rfl)) (pv 10) (fun _ _ => rfl)) (pa_cons (pe_ix (kix_list K rfl) (pv 4) pe_int (fun _ _ => rfl)) (pa_cons (pe_ix (kix_list K rfl) (pe_ix (kix_list K rfl) (pv 5) pe_int (fun _ _ => rfl)) (pv 12) (fun _ _ => rfl)) pa_nil))))))
      (pss_one (ps_if (pt_cmpR op_ne (pv 15) (pe_cal c_spelled hr (by decide) (by rfl) (pa_cons (pv 14) (pa_cons (pv 2) pa_nil))) (nomark _)) (pss_one (ps_ret pe_bl)) pss_nil)))))))
      (pss_one (ps_ret (pe_cmpR op_eq (pe_propI (pe_mk c_Rings hr (by decide) (by rfl) (pa_cons (pe_ix (kix_list K rfl) (pv 3) pe_int (fun _ _ => rfl)) pa_nil)) oX (hr.mono (by decide))) (pe_propI (pe_mk c_Rings hr (by decide) (by rfl) (pa_cons (pe_ix (kix_list K rfl) (pv 4) pe_int (fun _ _ => rfl)) pa_nil)) oX (hr.mono (by decide))) (nomark _)))))))), ?_⟩
  cases al with
  | cons h1 al => cases al with
  | cons h2 al => cases al with
  | cons h3 al =>
    cases al
    have h1 : (rLst (fun y : Tn => rRs y.1) [y0, y1]).p _ B := h1
    have h2 : (rLst rTn [y0, y1]).p _ B := h2
    have h3 : (rNm p).p _ B := h3
    obtain ⟨a1, ls1, rfl, hl1, alr1⟩ := id h1
    obtain ⟨a2, ls2, rfl, hl2, alr2⟩ := id h2
    obtain ⟨a3, rfl, hl3⟩ := id h3
    refine q_par (U := rLst (fun y : Tn => rFm c c.CF y.1) [y0, y1]) (W := rLst (fun y : Tn => rFm c c.CF y.2.1) [y0, y1]) (EvN.lst (en_lc1 (R := fun y : Tn => rRs y.1) (S := fun y : Tn => rFm c c.CF y.1) (xs := [y0, y1]) (ei_list (ev_v (U := rLst (fun y : Tn => rRs y.1) [y0, y1]) rfl h1)) (by show 2 ≤ 100000; decide) (fun _ => rfl) fun y hy v6 M6 B6 _ b6 hv6 => ?_)) (fun {B1} b1 => EvN.lst (en_lc1 (R := rTn) (S := fun y : Tn => rFm c c.CF y.2.1) (xs := [y0, y1]) (ei_list (ev_v (U := rLst rTn [y0, y1]) rfl ((rLst rTn [y0, y1]).up b1 h2))) (by show 2 ≤ 100000; decide) (fun _ => rfl) fun y hy v6 M6 B6 _ b6 hv6 => ?_)) d fun vF vO B1 b1 d1 hF hO => ?_
    · have k := kall y hy
      exact ev_call (A := fun m : Mach => [rRs m]) (R := fun m : Mach => rFm c c.CF m) y.1 (ea_cons (ev_v (U := rRs y.1) rfl hv6) ea_nil) ⟨k.1.1, by have := k.1.2.1; omega⟩
    · have k := kall y hy
      exact ev_call (A := fun m : Mach => [rRs m]) (R := fun m : Mach => rFm c c.CF m) y.2.1 (ea_cons (ev_l2a (ev_v (U := rTn y) rfl hv6)) ea_nil) ⟨k.2.2.1, by have h1 := k.1.2.1; have h2 := k.turn.len; omega⟩
    -- forms and rings by place
    have fm : ∀ {σ9 : L2.St} {M9 B9 : Hp} {te : TE} {i : Nat} {y : Tn}, Same B1 B9 → σ9[3]? = some (some vF) → ([y0, y1] : List Tn)[i]? = some y → Ev te σ9 M9 B9 (rNat i) → Ev (tOp (rIxL K) (tVar 3) te) σ9 M9 B9 (rForm c y.1) := fun s9 e ey he => ev_form (C := c.CF) List.mem_cons_self (ev_ixL (R := fun y : Tn => rFm c c.CF y.1) (ev_v (U := rLst (fun y : Tn => rFm c c.CF y.1) [y0, y1]) e ((rLst (fun y : Tn => rFm c c.CF y.1) [y0, y1]).up s9 hF)) he ey)
    have fo : ∀ {σ9 : L2.St} {M9 B9 : Hp} {te : TE} {i : Nat} {y : Tn}, Same B1 B9 → σ9[4]? = some (some vO) → ([y0, y1] : List Tn)[i]? = some y → Ev te σ9 M9 B9 (rNat i) → Ev (tOp (rIxL K) (tVar 4) te) σ9 M9 B9 (rForm c y.2.1) := fun s9 e ey he => ev_form (C := c.CF) List.mem_cons_self (ev_ixL (R := fun y : Tn => rFm c c.CF y.2.1) (ev_v (U := rLst (fun y : Tn => rFm c c.CF y.2.1) [y0, y1]) e ((rLst (fun y : Tn => rFm c c.CF y.2.1) [y0, y1]).up s9 hO)) he ey)
    refine q_asgN (en_lst ea_nil (by show 0 ≤ 1000; decide)) d1 fun pM vs B2 b2 d2 hMM hBM hvs => ?_
    cases hvs
    refine q_for (R := rNat) (xs := List.range 2) (ei_rng1 (ea_cons (ev_c (x := .int 2)) ea_nil) (by decide)) (dj_m d2 hBM)
      (fun i σ9 M9 B9 => ∃ o6 o7 o8 o9 rv, σ9 = [some (.ref a1), some (.ref a2), some (.ref a3), some vF, some vO, some (.ref pM), o6, o7, o8, o9, none, none, none, none, none, none, none, none, none] ∧ M9 = upd M pM (.lst rv) ∧ Al (rLst (rTup rNat)) ((([y0, y1] : List Tn).take i).map imgs) rv B9)
      (fun i σ9 M9 B8 B9 s89 ⟨o6, o7, o8, o9, rv, e1, e2, e3⟩ => ⟨o6, o7, o8, o9, rv, e1, e2, e3.up s89⟩) (fun B9 b9 d9 => ⟨_, _, _, _, [], rfl, rfl, .nil⟩) (fun B0 i x v σ9 M9 B9 exi b0 b9 d9 hp hv => ?_) fun σ9 M9 B9 hp b9 d9 => ?_
    · obtain ⟨o6, o7, o8, o9, rv, rfl, rfl, arv⟩ := hp
      have hi := (List.getElem?_eq_some_iff.mp exi).1
      rw [List.length_range] at hi
      rw [List.getElem?_range hi] at exi
      cases exi
      obtain ⟨y, ey⟩ : ∃ y, ([y0, y1] : List Tn)[i]? = some y := ⟨_, List.getElem?_eq_getElem (by show i < 2; exact hi)⟩
      have k := kall y (List.mem_of_getElem? ey)
      have wf := k.1.1.toWf
      have wf2 := k.2.2.1.toWf
      have hl4 := k.1.2.1
      have plc := k.2.2.2
      have s9 : Same B1 B9 := b2.trans (b0.trans b9)
      have tk : ∀ {B8 : Hp}, Same B9 B8 → Ev (tOp (rIxL K) (tOp (rIxL K) (tVar 1) (tVar 6)) (tC (.int 1))) [some (.ref a1), some (.ref a2), some (.ref a3), some vF, some vO, some (.ref pM), some v, o7, o8, o9, none, none, none, none, none, none, none, none, none] (upd M pM (.lst rv)) B8 (rLst rNat y.2.2) := fun s8 => ev_l2b (U := rRs y.2.1) (ev_ixL (R := rTn) (ev_v (U := rLst rTn [y0, y1]) rfl ((rLst rTn [y0, y1]).up (b1.trans (s9.trans s8)) h2)) (ev_v (U := rNat i) rfl ((rNat i).up s8 hv)) ey)
      refine tk (Same.refl _) _ _ (Same.refl _) (Same.refl _) d9 _ fun vP B10 b10 d10 hP => ?_
      refine ⟨by show 0 ≤ sizeLine; decide, fun pQ hpQ => ?_⟩
      rw [jn_updM]
      obtain ⟨hQm, hQb⟩ := jn_none hpQ
      refine ⟨by show 2 ≤ sizeLine; decide, fun pT hpT => ?_⟩
      obtain ⟨hTm, hTb⟩ := jn_none hpT
      rw [jn_updB hTm]
      have s11 : Same B10 (upd B10 pT (.tup [vP, .ref pQ])) := same_new hTb
      have d11 : Dj (upd B10 pT (.tup [vP, .ref pQ])) (upd (upd M pM (.lst rv)) pQ (.lst [])) := dj_b (dj_m d10 hQb) hTm
      refine ⟨pT, [vP, .ref pQ], rfl, SqT.of (jn_b d11 upd_same), rfl, vP, [.ref pQ], rfl, .ref pQ, [], rfl, rfl, ?_⟩
      have hP11 := (rLst rNat y.2.2).up s11 hP
      have hring : ∀ r ∈ rings y.1, ∀ t ∈ r, t < y.1.length := fun r hr t ht => part_lt (mem_rings.mp hr).1 ht
      have hrlen : (rings y.1).length ≤ 40 := by
        have h1 := parts_len (m := y.1)
        have h2 : (rings y.1).length ≤ (parts y.1).length := List.length_filter_le _ _
        omega
      refine q_for (R := rTup rNat) (xs := rings y.1) (ei_tup (ev_rgRingsP (ev_Rings (fm (s9.trans (b10.trans s11)) rfl ey (ev_v (U := rNat i) rfl hv)) wf))) d11
        (fun j σ9 M9 B9 => ∃ o9 fs, σ9 = [some (.ref a1), some (.ref a2), some (.ref a3), some vF, some vO, some (.ref pM), some v, some vP, some (.ref pQ), o9, none, none, none, none, none, none, none, none, none] ∧ M9 = upd (upd M pM (.lst rv)) pQ (.lst fs) ∧ Al (rTup rNat) (((rings y.1).take j).map (imgP (piT y) y.1.length)) fs B9)
        (fun i σ9 M9 B8 B9 s89 ⟨o9, fs, e1, e2, e3⟩ => ⟨o9, fs, e1, e2, e3.up s89⟩) (fun B12 b12 d12 => ⟨_, [], rfl, rfl, .nil⟩) (fun B0' j r vr σ9 M9 B12 exj b0' b12 d12 hp hvr => ?_) fun σ9 M9 B12 hp b12 d12 => ?_
      · obtain ⟨o9, fs, rfl, rfl, afs⟩ := hp
        have hr := List.mem_of_getElem? exj
        have hjl := (List.getElem?_eq_some_iff.mp exj).1
        have hpr := (mem_rings.mp hr).1
        have hrl := part_len hpr
        have hP12 := (rLst rNat y.2.2).up (b0'.trans b12) hP11
        have nd : (r.map (piT y)).Nodup := by
          refine List.pairwise_map.mpr (List.Pairwise.imp_of_mem (fun {a b} ha hb hab e => ?_) (part_asc hpr))
          have := plc.inj (hring r hr a ha) (hring r hr b hb) e
          omega
        refine s_app (i := 8) (l := pQ) (U := rTup rNat (imgP (piT y) y.1.length r)) rfl upd_same (ev_tupL (EvN.lst (en_sortI (n := y.1.length) (xs := r.map (piT y)) (EvN.lst ((en_lc1 (R := rNat) (S := fun t : Nat => rNat (piT y t)) (xs := r) (ei_tup (ev_v (U := rTup rNat r) rfl hvr)) (by omega) (fun _ => rfl) fun t ht v6 M6 B6 _ b6 hv6 => ?_).to fun vs B7 h7 => Al.map (R := rNat) (f := piT y) h7)) (by rw [List.length_map]; omega) nd fun z hz => ?_))) d12 (by rw [← afs.length, List.length_map, List.length_take]; omega) fun v13 B13 b13 d13 hv13 => ?_
        · exact ev_ixL (R := rNat) (i := t) (x := piT y t) (ev_v (U := rLst rNat y.2.2) rfl ((rLst rNat y.2.2).up b6 hP12)) (ev_v (U := rNat t) rfl hv6) (plc.at (hring r hr t ht))
        · obtain ⟨t, ht, rfl⟩ := List.mem_map.mp hz
          exact plc.lt _ (plc.mem (hring r hr t ht))
        · refine ⟨_, B13, rfl, d13, b12.trans b13, _, fs ++ [v13], rfl, by rw [upd_upd], ?_⟩
          rw [take_snoc exj, List.map_append]
          exact (afs.up b13).snoc hv13
      · obtain ⟨o9, fs, rfl, rfl, afs⟩ := hp
        rw [List.take_length] at afs
        rw [jn_pub hQm]
        have sQ : Same B12 (upd B12 pQ (.lst fs)) := same_new (dj_none d12 upd_same)
        have d13 : Dj (upd B12 pQ (.lst fs)) (upd M pM (.lst rv)) := dj_b (dj_sub hQm d12) hQm
        have hQ : ∀ {B8 : Hp}, Same (upd B12 pQ (.lst fs)) B8 → (rLst (rTup rNat) (imgs y)).p (.ref pQ) B8 := fun s8 => (rLst (rTup rNat) (imgs y)).up s8 ⟨pQ, fs, rfl, upd_same, afs.up sQ⟩
        have s13 : Same B9 (upd B12 pQ (.lst fs)) := b10.trans (s11.trans (b12.trans sQ))
        refine q_no (EvT.to (et_test (ev_neTs (xs := rings y.2.1) (ys := rings y.2.1) ((en_sortRows (ev_v (U := rLst (rTup rNat) (imgs y)) rfl (hQ (Same.refl _))) (imgs_ne k) (imgs_heads k)).ev fun a vs B7 B8 e7 s7 ⟨rs, hp, hs, al⟩ => ?_) (EvN.lst (en_listT (ev_rgRingsP (ev_Rings (fo (s9.trans s13) rfl ey (ev_v (U := rNat i) rfl hv)) wf2)))))) (by simp)) d13 fun B14 b14 d14 => ?_
        · have e := sorted_imgs k hp hs
          subst e
          exact ⟨a, vs, rfl, e7, al.up s7⟩
        · refine s_app (i := 5) (l := pM) (U := rLst (rTup rNat) (imgs y)) rfl upd_same (ev_v rfl (hQ b14)) d14 (by rw [← arv.length, List.length_map, List.length_take]; omega) fun v15 B15 b15 d15 hv15 => ?_
          refine ⟨_, B15, rfl, d15, b9.trans (s13.trans (b14.trans b15)), _, _, _, _, rv ++ [v15], rfl, by rw [upd_upd], ?_⟩
          rw [take_snoc ey, List.map_append]
          exact (arv.up (s13.trans (b14.trans b15))).snoc hv15
    · obtain ⟨o6, o7, o8, o9, rv, rfl, rfl, arv⟩ := hp
      rw [List.length_range] at arv
      have arv : Al (rLst (rTup rNat)) [imgs y0, imgs y1] rv B9 := arv
      rw [jn_pub hMM]
      have sP : Same B9 (upd B9 pM (.lst rv)) := same_new (dj_none d9 upd_same)
      have d10 : Dj (upd B9 pM (.lst rv)) M := dj_b (dj_sub hMM d9) hMM
      have hM : ∀ {B8 : Hp}, Same (upd B9 pM (.lst rv)) B8 → (rLst (rLst (rTup rNat)) [imgs y0, imgs y1]).p (.ref pM) B8 := fun s8 => (rLst (rLst (rTup rNat)) [imgs y0, imgs y1]).up s8 ⟨pM, rv, rfl, upd_same, arv.up sP⟩
      have s1 : Same B1 (upd B9 pM (.lst rv)) := b2.trans (b9.trans sP)
      have wf0 := k0.1.1.toWf
      have wf1 := k1.1.1.toWf
      have wf0' := k0.2.2.1.toWf
      have wf1' := k1.2.2.1.toWf
      have l0 := k0.1.2.1
      have l1 := k1.1.2.1
      have l0' := k0.turn.len
      have l1' := k1.turn.len
      refine q_for2 (R := rNat) (S := rTup rNat) (xs := enumL (rings y0.1)) (ei_enumT (R := rTup rNat) (ea_cons (ev_rgRingsP (ev_Rings (fm s1 rfl (i := 0) (y := y0) rfl (ev_c (x := .int 0))) wf0)) ea_nil)) d10
        (fun i σ9 M9 B9 => M = M9 ∧ ∃ o10 o11 o12 o13 o14 o15, σ9 = [some (.ref a1), some (.ref a2), some (.ref a3), some vF, some vO, some (.ref pM), o6, o7, o8, o9, o10, o11, o12, o13, o14, o15, none, none, none]) (fun _ _ _ _ _ _ h => h) (fun _ _ _ => ⟨rfl, _, _, _, _, _, _, rfl⟩) (fun B0 i x v u σ9 M9 B10 exi b0 b10 d11 hp hv hu => ?_) fun σ9 M9 B10 hp b10 d11 => ?_
      · obtain ⟨rfl, o10, o11, o12, o13, o14, o15, rfl⟩ := hp
        obtain ⟨ex1, ex2⟩ := enumL_at exi
        have hx := List.mem_of_getElem? ex2
        have s2 : Same (upd B9 pM (.lst rv)) B10 := b0.trans b10
        refine s_for2 (R := rNat) (S := rTup rNat) (xs := enumL (rings y1.1)) (ei_enumT (R := rTup rNat) (ea_cons (ev_rgRingsP (ev_Rings (fm (s1.trans s2) rfl (i := 1) (y := y1) rfl (ev_c (x := .int 1))) wf1)) ea_nil)) d11
          (fun i σ9 M9 B9 => M = M9 ∧ ∃ o12 o13 o14 o15, σ9 = [some (.ref a1), some (.ref a2), some (.ref a3), some vF, some vO, some (.ref pM), o6, o7, o8, o9, some v, some u, o12, o13, o14, o15, none, none, none]) (fun _ _ _ _ _ _ h => h) (fun _ _ _ => ⟨rfl, _, _, _, _, rfl⟩) (fun B0' j z t r σ9 M9 B11 exj b0' b11 d12 hp ht hr => ?_) fun σ9 M9 B11 hp b11 d12 => ?_
        · obtain ⟨rfl, o12, o13, o14, o15, rfl⟩ := hp
          obtain ⟨ez1, ez2⟩ := enumL_at exj
          have hz := List.mem_of_getElem? ez2
          have s3 : Same B10 B11 := b0'.trans b11
          have s13 : Same B1 B11 := s1.trans (s2.trans s3)
          have ox : okCov (y0.1, x.2, y1.1, z.2) := ⟨wf0, by show y0.1.length ≤ 6; omega, hx, wf1, by show y1.1.length ≤ 6; omega, hz⟩
          have in0 : imgP (piT y0) y0.1.length x.2 ∈ rings y0.2.1 := (k0.turn.rings wf0).mpr ⟨x.2, hx, rfl⟩
          have in1 : imgP (piT y1) y1.1.length z.2 ∈ rings y1.2.1 := (k1.turn.rings wf1).mpr ⟨z.2, hz, rfl⟩
          have oy : okCov (y0.2.1, imgP (piT y0) y0.1.length x.2, y1.2.1, imgP (piT y1) y1.1.length z.2) := ⟨wf0', by show y0.2.1.length ≤ 6; omega, in0, wf1', by show y1.2.1.length ≤ 6; omega, in1⟩
          refine q_asg (U := rEx (Told y0.1 x.2 y1.1 z.2) rWd) (ev_lack (fm s13 rfl (i := 0) (y := y0) rfl (ev_c (x := .int 0))) (ev_v (U := rTup rNat x.2) rfl ((rTup rNat x.2).up s3 hu)) (fm s13 rfl (i := 1) (y := y1) rfl (ev_c (x := .int 1))) (ev_v (U := rTup rNat z.2) rfl hr) ox) d12 fun vL B12 b12 d13 hL => ?_
          obtain ⟨rL, tL, hL⟩ := hL
          have s4 : Same B1 B12 := s13.trans b12
          have mv0 : ∀ {σ9 : L2.St} {M9 B9' : Hp}, Same (upd B9 pM (.lst rv)) B9' → σ9[5]? = some (some (.ref pM)) → σ9[10]? = some (some v) → Ev (tOp (rIxL K) (tOp (rIxL K) (tVar 5) (tC (.int 0))) (tVar 10)) σ9 M9 B9' (rTup rNat (imgP (piT y0) y0.1.length x.2)) := fun s8 e5 e10 => ev_ixL (R := rTup rNat) (i := i) (ev_ixL (R := rLst (rTup rNat)) (i := 0) (x := imgs y0) (ev_v (U := rLst (rLst (rTup rNat)) [imgs y0, imgs y1]) e5 (hM s8)) (ev_c (x := .int 0)) rfl) (ev_v (U := rNat i) e10 (by rw [← ex1]; exact hv)) (by unfold imgs; rw [List.getElem?_map, ex2]; rfl)
          have mv1 : ∀ {σ9 : L2.St} {M9 B9' : Hp}, Same (upd B9 pM (.lst rv)) B9' → σ9[5]? = some (some (.ref pM)) → σ9[12]? = some (some t) → Ev (tOp (rIxL K) (tOp (rIxL K) (tVar 5) (tC (.int 1))) (tVar 12)) σ9 M9 B9' (rTup rNat (imgP (piT y1) y1.1.length z.2)) := fun s8 e5 e12 => ev_ixL (R := rTup rNat) (i := j) (ev_ixL (R := rLst (rTup rNat)) (i := 1) (x := imgs y1) (ev_v (U := rLst (rLst (rTup rNat)) [imgs y0, imgs y1]) e5 (hM s8)) (ev_c (x := .int 1)) rfl) (ev_v (U := rNat j) e12 (by rw [← ez1]; exact ht)) (by unfold imgs; rw [List.getElem?_map, ez2]; rfl)
          refine q_asg (U := rEx (Told y0.2.1 (imgP (piT y0) y0.1.length x.2) y1.2.1 (imgP (piT y1) y1.1.length z.2)) rWd) (ev_lack (fo s4 rfl (i := 0) (y := y0) rfl (ev_c (x := .int 0))) (mv0 (s2.trans (s3.trans b12)) rfl rfl) (fo s4 rfl (i := 1) (y := y1) rfl (ev_c (x := .int 1))) (mv1 (s2.trans (s3.trans b12)) rfl rfl) oy) d13 fun vL2 B13 b13 d14 hL2 => ?_
          obtain ⟨rL2', tL2, hL2⟩ := hL2
          have ho : ∀ a ∈ x.2, a < y0.1.length := fun a ha => part_lt (mem_rings.mp hx).1 ha
          have hu' : ∀ a ∈ z.2, a < y1.1.length := fun a ha => part_lt (mem_rings.mp hz).1 ha
          have et := told_turn k0.turn k1.turn wf0 wf0' wf1 wf1' ho hu' tL tL2
          subst et
          refine s_no (et_test (ev_neWd (r := rL.map (List.map (nuOf p))) (ev_v (U := rWd (rL.map (List.map (nuOf p)))) rfl hL2) (ev_call (A := fun x : Option (List Nat) × (Nat × Nat) => [rWd x.1, rNm x.2]) (R := fun x : Option (List Nat) × (Nat × Nat) => rWd (x.1.map (List.map (nuOf x.2)))) (rL, p) (ea_cons (ev_v (U := rWd rL) rfl ((rWd rL).up b13 hL)) (ea_cons (ev_v (U := rNm p) rfl ((rNm p).up (b1.trans (s4.trans b13)) h3)) ea_nil)) fun w hw => ?_))) d14 fun B14 b14 d15 => ?_
          · have hw : rL = some w := hw
            subst hw
            have hl1 := part_len (mem_rings.mp hz).1
            have hl2 := part_len (mem_rings.mp hx).1
            have := told_len tL (by omega) (by omega)
            exact ⟨by omega, piece_sg k1.turn.sg (lck_iff.mp tL.1).1⟩
          · exact ⟨_, B14, rfl, d15, b11.trans (b12.trans (b13.trans b14)), rfl, _, _, _, _, rfl⟩
        · obtain ⟨rfl, o12, o13, o14, o15, rfl⟩ := hp
          exact ⟨_, B11, rfl, d12, b10.trans b11, rfl, _, _, _, _, _, _, rfl⟩
      · obtain ⟨rfl, o10, o11, o12, o13, o14, o15, rfl⟩ := hp
        refine s_ret (U := rBl true) (ev_op0 (z := .bl true) (ev_rgLongest (ev_Rings (fm (s1.trans b10) rfl (i := 0) (y := y0) rfl (ev_c (x := .int 0))) wf0) wf0) (ev_rgLongest (ev_Rings (fo (s1.trans b10) rfl (i := 0) (y := y0) rfl (ev_c (x := .int 0))) wf0') wf0') fun a b M2 B2 _ _ _ ha hb Q2 q2 => ?_) d11 fun v B11 b11 d12 hv => q v B11 (b1.trans (s1.trans (b10.trans b11))) d12 hv
        obtain ⟨j, hj, ha⟩ := ha
        obtain ⟨k, hk, hb⟩ := hb
        have e := longest_turn k0.turn wf0 hj hk
        subst e
        rw [show a = _ from ha, show b = _ from hb]
        exact ⟨rfl, by rw [decide_eq_true rfl]; exact q2⟩
end
end Zb
end
section
set_option Elab.async false
set_option linter.all false
set_option maxRecDepth 100000
set_option maxHeartbeats 1000000
/-! Zl11: rules for the law's own def. -/
namespace Zb
open PySem PySem.Spec PyProof.Rows L2 SlX
section
variable {K : PySem.W.Frag} {c : Cs} {l : Addr} {σ : L2.St} {M B : Hp} {te ta tb : TE} {U W : Up} {D : Ends} {tz tu tw : TS} {wi : TI} {vs : List Nat}
/-- [e for x in ..], e with draws -/
theorem el_lc {α β : Type} {R : α → Up} {S : β → Up} {P : α → β → Prop} {xs : List α} {j : Nat} (hi : EvI wi σ M B (xs.map R)) (hl : xs.length ≤ 100000) (hw : ∀ x, wipe ((wipe σ vs).set j (some x)) vs = wipe σ vs)
    (he : ∀ x ∈ xs, ∀ v M1 B1, Same M M1 → Same B B1 → M1 l = none → (R x).p v B1 → EvL l te ((wipe σ vs).set j (some v)) M1 B1 (rEx (P x) S)) :
    EvL l (tLc wi (gName j) tYes te vs) σ M B (rEx (fun ys => Paired P xs ys) (rLst S)) := fun M1 B1 t m b d Q q => hi (upd M1 l (lotO t)) B1 (m.trans (same_new d.m)) b (d.dj t) _ fun J B2 b2 d2 wk => fun D hD => by
  obtain ⟨hm0, hb⟩ := jn_none hD
  obtain ⟨hm, ne⟩ := upd_none hm0
  have dl2 : DjL l B2 M1 := DjL.of d.m d2
  have hml : ∀ {o : HO}, upd M1 D o l = none := fun {o} => by rw [upd_ne (Ne.symm ne)]; exact d.m
  have dD : ∀ {B9 : Hp} {o : HO}, DjL l B9 M1 → B9 D = none → DjL l B9 (upd M1 D o) := fun d9 n9 => ⟨dj_m d9.d n9, d9.b, hml⟩
  refine ⟨fun i n H => ∃ B3 acc t3 ys, n + i = xs.length ∧ H = jn B3 (upd (upd M1 D (.lst acc)) l (lotO t3)) ∧ Same B2 B3 ∧ DjL l B3 M1 ∧ B3 D = none ∧ Paired P (xs.take i) ys ∧ Al S ys acc B3,
    ⟨xs.length, B2, [], t, [], rfl, by rw [jn_updM, upd_swap ne], Same.refl _, dl2, hb, by rw [List.take_zero]; exact .nil, .nil⟩, ?_⟩
  rintro i n H ⟨B3, acc, t3, ys, hn, rfl, b3, d3, n3, pr, al⟩
  have dj : DjL l B3 (upd M1 D (.lst acc)) := dD d3 n3
  -- what is walked was made with the first draws: it is told for any M
  by_cases hlt : i < xs.length
  · have ex : xs[i]? = some xs[i] := List.getElem?_eq_getElem hlt
    refine .inr ⟨wk.go i _ B3 b3 (dj.dj t3) (by rw [List.length_map]; exact hlt), fun H' => ∃ B4 acc' t4 ys', H' = jn B4 (upd (upd M1 D (.lst acc')) l (lotO t4)) ∧ Same B2 B4 ∧ DjL l B4 M1 ∧ B4 D = none ∧ Paired P (xs.take (i + 1)) ys' ∧ Al S ys' acc' B4,
      fun H' ⟨B4, acc', t4, ys', e1, e2, e3, e4, e5, e6⟩ => ⟨n - 1, by omega, B4, acc', t4, ys', by omega, e1, e2, e3, e4, e5, e6⟩, fun v H' y => ?_⟩
    obtain ⟨B4, b4, d4, rfl, hu⟩ := wk.yl i (R xs[i]) _ B3 v H' (by rw [List.getElem?_map, ex]; rfl) b3 (dj.dj t3) y
    have dl4 : DjL l B4 (upd M1 D (.lst acc)) := DjL.of hml d4
    refine ⟨hw v, ?_⟩
    refine (et_yes : EvT tYes ((wipe σ vs).set j (some v)) (upd (upd M1 D (.lst acc)) l (lotO t3)) B4 true) _ B4 (Same.refl _) (Same.refl _) d4 _ fun B4' b4' d4' => ?_
    have b4 : Same B3 B4' := b4.trans b4'
    refine iteT (he xs[i] (List.getElem_mem hlt) v (upd M1 D (.lst acc)) B4' (m.trans (same_new hm)) (b.trans (b2.trans (b3.trans b4))) hml ((R xs[i]).up b4' hu) _ B4' t3 (Same.refl _) (Same.refl _) (DjL.of hml d4') _ fun v2 t4 B5 b5 d5 ⟨y2, hP, hv2⟩ => ?_)
    have n5 : B5 D = none := dj_none d5.d upd_same
    refine ⟨acc, jn_m (by rw [upd_ne ne, upd_same]), ?_, B5, acc ++ [v2], t4, ys ++ [y2], ?_, b3.trans (b4.trans b5), ⟨dj_sub hm d5.d, d5.b, d.m⟩, n5, ?_, (al.up (b4.trans b5)).snoc hv2⟩
    · rw [← al.length]
      have hpl : ys.length = (xs.take i).length := pr.length.symm
      rw [hpl, List.length_take]
      exact Nat.lt_of_le_of_lt (show min i xs.length ≤ 100000 by omega) (Nat.lt_of_lt_of_le (show 100000 < 1000000 by decide) (by decide : 1000000 ≤ sizeLine))
    · rw [jn_updM, upd_swap ne, upd_upd]
    · rw [take_snoc ex]
      exact pr.snoc hP
  · have e : i = xs.length := by omega
    subst e
    rw [List.take_length] at pr
    refine .inl ⟨by have := wk.st _ B3 b3 (dj.dj t3); rw [List.length_map] at this; exact this, ?_⟩
    rw [jnl_pub hm ne]
    have s3 : Same B3 (upd B3 D (.lst acc)) := same_new n3
    exact q _ t3 _ (b2.trans (b3.trans s3)) (dj.pub hm) ⟨ys, pr, D, acc, rfl, upd_same, al.up s3⟩
/-- a test with draws, its outcome known -/
def EvTK (l : Addr) (tt : TT) (σ : L2.St) (M B : Hp) (b : Bool) : Prop := ∀ M1 B1 t, Same M M1 → Same B B1 → DjL l B1 M1 → ∀ Q : Bool → Hp → Prop, (∀ t' B2, Same B1 B2 → DjL l B2 M1 → Q b (jn B2 (upd M1 l (lotO t')))) → tt σ (jn B1 (upd M1 l (lotO t))) Q
theorem etk_test {b : Bool} (h : EvL l te σ M B (rBl b)) : EvTK l (tTest te) σ M B b := fun M1 B1 t m s d Q q => h M1 B1 t m s d _ fun v t' B2 b2 d2 hv => ⟨b, hv, q t' B2 b2 d2⟩
theorem etk_not {b : Bool} {tt : TT} (h : EvTK l tt σ M B b) : EvTK l (tNot tt) σ M B (!b) := fun M1 B1 t m s d Q q => h M1 B1 t m s d _ fun t' B2 b2 d2 => q t' B2 b2 d2
theorem etk_or {a b : Bool} {t1 t2 : TT} (h1 : EvTK l t1 σ M B a) (h2 : a = false → EvT t2 σ M B b) : EvTK l (tOr t1 t2) σ M B (a || b) := fun M1 B1 t m s d Q q => h1 M1 B1 t m s d _ fun t' B2 b2 d2 => by
  cases a with
  | true => exact iteT (q t' B2 b2 d2)
  | false => exact iteF (h2 rfl (upd M1 l (lotO t')) B2 (m.trans (same_new d.m)) (s.trans b2) (d2.dj t') _ fun B3 b3 d3 => q t' B3 (b2.trans b3) (DjL.of d.m d3))
theorem l_no {tc : TT} {t : Lt3} (h : EvTK l tc σ M B false) (d : DjL l B M) (k : ∀ t' B', Same B B' → DjL l B' M → D.nx σ (jn B' (upd M l (lotO t')))) : tIfS tc tu tNext D σ (jn B (upd M l (lotO t))) :=
  h M B t (Same.refl _) (Same.refl _) d _ fun t' B' s d' => iteF (k t' B' s d')
theorem ev_cS {s : Str} {w : List Nat} (h : s = tx w) : Ev (tC (.str s)) σ M B (rTx w) := by
  subst h
  exact ev_c
/-- xs[:k] -/
theorem ev_slT {α : Type} {R : α → Up} {xs : List α} {k : Nat} (ha : Ev ta σ M B (rLst R xs)) (hb : Ev tb σ M B (rNat k)) : Ev (L2.tSl (rSlL K) ta tNoPart (tPart tb)) σ M B (rLst R (xs.take k)) := fun M1 B1 m b d Q q =>
  ha M1 B1 m b d _ fun v B2 b2 d2 ⟨a, vs, e, h, al⟩ => hb M1 B2 m (b.trans b2) d2 _ fun y B3 b3 d3 hy => ⟨_, hy, a, vs, e, SqL.of (jn_b d3 (b3 _ _ h)), fun p hp => by
    obtain ⟨hm, hbb⟩ := jn_none hp
    rw [jn_updB hm]
    have ec : cutV vs none (some (k : Int)) = vs.take k := by
      unfold cutV
      rw [HT.sIx_nat, HT.sIx_none, List.drop_zero, Nat.sub_zero]
      by_cases h : k ≤ vs.length
      · rw [Nat.min_eq_left h]
      · rw [Nat.min_eq_right (by omega), List.take_of_length_le (Nat.le_refl _), List.take_of_length_le (by omega)]
    rw [ec]
    exact q _ _ (b2.trans (b3.trans (same_new hbb))) (dj_b d3 hm) ⟨p, _, rfl, upd_same, (al.up (b3.trans (same_new hbb))).take _⟩⟩
theorem nm_merge {p : Nat × Nat} : mergeK [] (nmK p) = nmK p := by
  show putK (putK [] (Sum.inr (tx [97])) (V.str (tx [p.1]))) (Sum.inr (tx [98])) (V.str (tx [p.2])) = nmK p
  rw [putK_new _ (show valV ([] : List (Key × V)) (Sum.inr (tx [97])) = none from rfl), putK_new _ (show valV ([] ++ [(Sum.inr (tx [97]), V.str (tx [p.1]))]) (Sum.inr (tx [98])) = none from by
    show valV ((Sum.inr (tx [97]), V.str (tx [p.1])) :: []) (Sum.inr (tx [98])) = none
    rw [valV_neg (fun e => by have := tx_inj (Sum.inr.inj e); simp at this)]
    rfl)]
  rfl
/-- dict([("a", x), ("b", y)]) -/
theorem ev_names {p : Nat × Nat} (h : Ev te σ M B (rLst (rPr rTx rTx) [([97], [p.1]), ([98], [p.2])])) : Ev (tCB (fun xs H Q => ∃ (a : Addr) (ps : List Addr) (kvs : List (Key × V)), xs = [.ref a] ∧ SqL K H a (ps.map V.ref) ∧ Paired (fun p kv => SqT K H p [kV kv.1, kv.2]) ps kvs ∧ ∀ p, H p = none → Q (.ref p) (upd H p (.dK (mergeK [] kvs)))) (tCons te tNil)) σ M B (rNm p) := fun M1 B1 m b d Q q =>
  h M1 B1 m b d _ fun v B2 b2 d2 ⟨a, vs, e, h, al⟩ => by
    cases al with
    | cons h1 al => cases al with
    | cons h2 al =>
      cases al
      obtain ⟨p1, y1, z1, rfl, e1, k1, l1⟩ := h1
      obtain ⟨p2, y2, z2, rfl, e2, k2, l2⟩ := h2
      cases (show _ = _ from k1)
      cases (show _ = _ from l1)
      cases (show _ = _ from k2)
      cases (show _ = _ from l2)
      refine ⟨a, [p1, p2], nmK p, by rw [e], SqL.of (jn_b d2 h), .cons (SqT.of (jn_b d2 e1)) (.cons (SqT.of (jn_b d2 e2)) .nil), fun p9 hp => ?_⟩
      obtain ⟨hm, hbb⟩ := jn_none hp
      rw [nm_merge, jn_updB hm]
      exact q _ _ (b2.trans (same_new hbb)) (dj_b d2 hm) ⟨p9, rfl, upd_same⟩
/-- a new list of draws -/
theorem q_lots {xs : List Int} {i j : Nat} {E : XK} (ha : Ev ta σ M B (rSc K xs)) (hb : Ev tb σ M B (rNat i)) (ok : xs.length ≤ 1000 ∧ i ≤ 100) (d : Dj B M) (k : ∀ p t B', Same B B' → DjL p B' M → tz D (σ.set j (some (.ref p))) (jn B' (upd M p (lotO t)))) : tSeq (tAsg (tCall (sp_lots K) [] E (tCons ta (tCons tb tNil))) (gName j)) tz D σ (jn B M) :=
  have h : ∀ Q : VK, (∀ p t B', Same B B' → DjL p B' M → Q (.ref p) (jn B' (upd M p (lotO t)))) → tCall (sp_lots K) [] E (tCons ta (tCons tb tNil)) σ (jn B M) Q := fun Q q =>
    (ea_cons ha (ea_cons hb ea_nil) : EvA _ σ M B [rSc K xs, rNat i]) M B (Same.refl _) (Same.refl _) d _ fun vs B10 b10 d10 al => ⟨xs, i, B10, M, rfl, d10, ok, by rw [List.append_nil]; exact al, fun p t B11 b11 d11 => q p t B11 (b10.trans b11) d11⟩
  h _ k
end
theorem lst_map {α β : Type} {R : β → Up} {f : α → β} {xs : List α} {v : V} {B : Hp} (h : (rLst R (xs.map f)).p v B) : (rLst (fun x => R (f x)) xs).p v B := by
  obtain ⟨a, vs, e, h, al⟩ := h
  exact ⟨a, vs, e, h, Al.map' al⟩
theorem lst_unmap {α β : Type} {R : β → Up} {f : α → β} {xs : List α} {v : V} {B : Hp} (h : (rLst (fun x => R (f x)) xs).p v B) : (rLst R (xs.map f)).p v B := by
  obtain ⟨a, vs, e, h, al⟩ := h
  exact ⟨a, vs, e, h, Al.map al⟩
end Zb
end
section
set_option Elab.async false
set_option linter.all false
set_option maxRecDepth 100000
set_option maxHeartbeats 1000000
/-! Zl12: the walk: law. -/
namespace Zb
open PySem PySem.Spec PyProof.Rows L2 SlX
/-- the four texts the names are drawn from -/
def Nms : List (List Nat) := [[97, 98], [98, 100], [99, 101], [97, 101]]
theorem nms_ok : ∀ w ∈ Nms, w.length = 2 ∧ w[0]? = some (w.getD 0 0) ∧ w[1]? = some (w.getD 1 0) ∧ okNm (w.getD 0 0, w.getD 1 0) := by
  intro w h
  have : w = [97, 98] ∨ w = [98, 100] ∨ w = [99, 101] ∨ w = [97, 101] := by simpa [Nms] using h
  rcases this with rfl | rfl | rfl | rfl
  all_goals exact ⟨rfl, rfl, rfl, by unfold okNm Alph; decide⟩
theorem jn_0 (H : Hp) : H = jn H (fun _ => none) := by
  funext a
  rfl
theorem dj_0 (H : Hp) : Dj H (fun _ => none) := fun _ _ _ => rfl
abbrev s_law : Stmt := top 79
theorem sc_law : FnScope ["_law_script", "_law_at", "_law_lots_here", "_law_plains", "_law_forms", "_law_some_here", "_law_form", "_law_spelled_here", "_law_names", "_law_turns", "_law_turn", "_law_rows", "_law_ring"] ["_law_script"] (defScope s_law) := ⟨rfl, rfl, rfl, by decide +kernel, rfl, by decide +kernel, by decide +kernel⟩
def sp_law (K : PySem.W.Frag) : Sp := fun vs H Q _ => ∃ (a : Addr) (ns : List Int), vs = [.ref a] ∧ ns.length ≤ 1000 ∧ SqL K H a (ns.map V.int) ∧ ∀ H', Q (.bl true) H'
section
variable {P : Program} {w : World} {K : PySem.W.Frag} {mg : Str → Option Value} {base : Heap} {c : Cs}
theorem f_law {f : Addr} {fd : FuncData} (F : FunD K "law" "law" (defArgs s_law) (defBody s_law) (defScope s_law) [] [] f fd) (T : Bt mg) (c_lots : Cal P w K mg base 1 "_law_lots" (sp_lots K)) (c_plain : Cal P w K mg base 4 "_law_plain" sp_plain) (c_made : Cal P w K mg base 6 "_law_made" (sp_made c)) (c_Rings : CalC P w K mg base 3 "Rings" c.CR (sp_Rings c)) (oR : ∀ C ∈ [c.CR], OwnP P w K mg base 1 C "rings" (sp_Rings_rings c))
    (c_loops_right : Cal P w K mg base 16 "_law_loops_right" (sp_loops_right c)) (c_least_right : Cal P w K mg base 7 "_law_least_right" (sp_least_right c)) (c_goes_on : Cal P w K mg base 7 "_law_goes_on" (sp_goes_on c)) (c_one : Cal P w K mg base 2 "_law_one" sp_one) (c_turned : Cal P w K mg base 3 "_law_turned" sp_turned) (c_alike : Cal P w K mg base 7 "_law_alike" sp_alike) : FnOk P w K mg base CX0 17 f fd ["_law_script"] (sp_law K) :=
  fnok_of (k := 16) F sc_law (fun vs H Q E ⟨_, _, e, _⟩ => by rw [e]; rfl) fun f cdv A outer s H vs Q E hr h => by
  obtain ⟨a, ns, rfl, hns, hS, q⟩ := h
  have sc := sc_law
  refine ⟨_, (pss_cons (ps_for PassesOwn.never rfl (pi_range1 (by rfl) T.range (pa_cons (pe_callB (call_max2 rfl) (by rfl) T.max (by decide +kernel) (pa_cons pe_int (pa_cons (pe_callB (call_min2 rfl) (by rfl) T.min (by decide +kernel) (pa_cons pe_int (pa_cons (pe_callB (kc_len K rfl) (by rfl) T.len (by decide +kernel) (pa_cons (pv 0) pa_nil)) pa_nil))) pa_nil))) pa_nil)) (pg_name (i := 1) sc.nd rfl (.inl rfl)) (pss_cons (ps_set (i := 2) sc.nd rfl (.inr rfl) (pe_cal c_lots hr (by decide) (by rfl) (pa_cons (pv 0) (pa_cons (pv 1) pa_nil))))
      (pss_cons (ps_setLc (i := 3) (own := [("_law_turn", 10)]) rfl sc.nd rfl rfl (sw_true rfl rfl rfl (by decide +kernel)) (pi_range1 (by rfl) T.range (pa_cons pe_int pa_nil)) (blkOk_by (by kernel_rfl)) (fun _ _ _ _ _ => (pg_name (i := 10) sc.nd rfl (.inl rfl))) (fun _ _ _ _ _ => pts_nil) (fun _ _ _ _ _ => (pe_cal c_plain hr (by decide) (by rfl) (pa_cons (pv 2) (pa_cons (pe_lst (pa_cons pe_str (pa_cons pe_str pa_nil))) (pa_cons pe_int (pa_cons pe_int pa_nil)))))))
      (pss_cons (ps_par (i := 4) (j := 5) rfl sc.nd rfl rfl (by decide) rfl rfl (pa_cons (pe_lc (own := [("_law_rows", 11)]) rfl sc.nd (kpi_list K rfl (pv 3)) (blkOk_by (by kernel_rfl)) (fun _ _ _ _ _ => (pg_name (i := 11) sc.nd rfl (.inl rfl))) (fun _ _ _ _ _ => pts_nil) (fun _ _ _ _ _ => (pe_cal c_made hr (by decide) (by rfl) (pa_cons (pv 11) pa_nil)))) (pa_cons (pe_lst pa_nil) pa_nil)) (by rfl))
      (pss_cons (ps_for PassesOwn.never rfl (kpi_list K rfl (pv 4)) (pg_name (i := 6) sc.nd rfl (.inr rfl)) (pss_cons (ps_set (i := 5) sc.nd rfl (.inl rfl) (pe_op op_cat (pv 5) (pe_lc (own := [("_law_ring", 12)]) rfl sc.nd (kpi_tup K rfl (pe_propI (pe_mk c_Rings hr (by decide) (by rfl) (pa_cons (pv 6) pa_nil)) oR (hr.mono (by decide)))) (blkOk_by (by kernel_rfl)) (fun _ _ _ _ _ => (pg_name (i := 12) sc.nd rfl (.inl rfl))) (fun _ _ _ _ _ => pts_nil) (fun _ _ _ _ _ => (pe_tup (pa_cons (pv 6) (pa_cons (pv 12) pa_nil)))))))
      (pss_one (ps_if (PW.pt (pw_or (pt_not (pt_val (pe_cal c_loops_right hr (by decide) (by rfl) (pa_cons (pv 2) (pa_cons (pv 6) pa_nil))))) (pw_or1 (pt_not (pt_val (pe_cal c_least_right hr (by decide) (by rfl) (pa_cons (pv 6) pa_nil))))))) (pss_one (ps_ret pe_bl)) pss_nil))))
      (pss_cons (ps_if (pt_not (pt_val (pe_cal c_goes_on hr (by decide) (by rfl) (pa_cons (pv 5) pa_nil)))) (pss_one (ps_ret pe_bl)) pss_nil)
      (pss_cons (ps_set (i := 7) sc.nd rfl (.inl rfl) (pe_cal c_one hr (by decide) (by rfl) (pa_cons (pv 2) (pa_cons (pe_lst (pa_cons pe_str (pa_cons pe_str (pa_cons pe_str (pa_cons pe_str pa_nil))))) pa_nil))))
      (pss_cons (ps_set (i := 8) sc.nd rfl (.inr rfl) (pe_callTy (kcall_dictP K rfl rfl) (by rfl) T.dict (by decide +kernel) (pa_cons (pe_lst (pa_cons (pe_tup (pa_cons pe_str (pa_cons (pe_ix ix_str (pv 7) pe_int (fun _ _ => rfl)) pa_nil))) (pa_cons (pe_tup (pa_cons pe_str (pa_cons (pe_ix ix_str (pv 7) pe_int (fun _ _ => rfl)) pa_nil))) pa_nil))) pa_nil)))
      (pss_cons (ps_setLc (i := 9) (own := [("_law_rows", 11)]) rfl sc.nd rfl rfl (sw_true rfl rfl rfl (by decide +kernel)) (kpi_list K rfl (pe_slice (ksl_list K rfl) (pv 3) po_none (po_some pe_int))) (blkOk_by (by kernel_rfl)) (fun _ _ _ _ _ => (pg_name (i := 11) sc.nd rfl (.inl rfl))) (fun _ _ _ _ _ => pts_nil) (fun _ _ _ _ _ => (pe_cal c_turned hr (by decide) (by rfl) (pa_cons (pv 2) (pa_cons (pv 11) (pa_cons (pv 8) pa_nil))))))
      (pss_one (ps_if (pt_not (pt_val (pe_cal c_alike hr (by decide) (by rfl) (pa_cons (pe_slice (ksl_list K rfl) (pv 3) po_none (po_some pe_int)) (pa_cons (pv 9) (pa_cons (pv 8) pa_nil)))))) (pss_one (ps_ret pe_bl)) pss_nil)))))))))))
      (pss_one (ps_ret pe_bl))), ?_⟩
  rw [jn_0 H]
  have d := dj_0 H
  generalize (fun _ => none : Hp) = M at d ⊢
  have h1 : (rSc K ns).p (.ref a) H := ⟨a, rfl, hS⟩
  refine q_for (R := rNat) (xs := List.range (max 1 (min 6 ns.length))) (ei_rng1 (ea_cons (ev_max (ev_c (x := .int 1)) (ev_min (ev_c (x := .int 6)) (ev_lenSc (ev_v (U := rSc K ns) rfl h1)))) ea_nil) (by omega)) d
    (fun i σ9 M9 B9 => M = M9 ∧ ∃ o1 o2 o3 o4 o5 o6 o7 o8 o9 o10 o11 o12, σ9 = [some (.ref a), o1, o2, o3, o4, o5, o6, o7, o8, o9, o10, o11, o12]) (fun _ _ _ _ _ _ h => h) (fun _ _ _ => ⟨rfl, _, _, _, _, _, _, _, _, _, _, _, _, rfl⟩) (fun B0 i x v σ9 M9 B9 exi b0 b9 d9 hp hv => ?_) fun σ9 M9 B9 hp b9 d9 => ?_
  · obtain ⟨rfl, o1, o2, o3, o4, o5, o6, o7, o8, o9, o10, o11, o12, rfl⟩ := hp
    have hi := (List.getElem?_eq_some_iff.mp exi).1
    rw [List.length_range] at hi
    rw [List.getElem?_range hi] at exi
    cases exi
    have h19 := (rSc K ns).up (b0.trans b9) h1
    -- the draws
    refine q_lots (xs := ns) (i := i) (ev_v (U := rSc K ns) rfl h19) (ev_v (U := rNat i) rfl hv) ⟨hns, by omega⟩ d9 fun p t B11 b11 d11 => ?_
    -- the plain machines
    refine lq_asg (l := p) (t := t) (U := rEx (fun ys => Paired (fun (_ : Nat) (m : Mach) => AB m) (List.range 3) ys) (rLst rRs)) (el_lc (R := rNat) (S := rRs) (P := fun (_ : Nat) (m : Mach) => AB m) (xs := List.range 3) (ei_rng1 (ea_cons (ev_c (x := .int 3)) ea_nil) (by decide)) (by decide) (fun _ => rfl) fun x _ v M1 B1 m1 b1 _ hv =>
      el_call (A := fun _ : Unit => [rLst (fun c : Nat => rTx [c]) [97, 98], rNat 4, rNat 3]) (R := fun _ : Unit => rEx AB rRs) () rfl (ea_cons (EvN.lst ((en_lst (ea_cons (ev_cS (w := [97]) rfl) (ea_cons (ev_cS (w := [98]) rfl) ea_nil)) (by show 2 ≤ 1000; decide)).to fun vs B1 h => by
        cases h with | cons k1 h => cases h with | cons k2 h => (cases h; exact .cons k1 (.cons k2 .nil)))) (ea_cons (ev_c (x := .int 4)) (ea_cons (ev_c (x := .int 3)) ea_nil))) trivial) d11 fun vP t12 B12 b12 d12 hP => ?_
    obtain ⟨ms, pr, hP⟩ := hP
    obtain ⟨m0, m1, m2, rfl, hab⟩ : ∃ m0 m1 m2 : Mach, ms = [m0, m1, m2] ∧ ∀ m ∈ ([m0, m1, m2] : List Mach), AB m := by
      rw [show List.range 3 = [0, 1, 2] from rfl] at pr
      cases pr with
      | cons k0 pr => cases pr with
        | cons k1 pr => cases pr with
          | cons k2 pr =>
            cases pr
            refine ⟨_, _, _, rfl, fun m hm => ?_⟩
            rcases List.mem_cons.mp hm with rfl | hm
            · exact k0
            · rcases List.mem_cons.mp hm with rfl | hm
              · exact k1
              · rw [List.mem_singleton.mp hm]; exact k2
    -- their forms
    refine q_par (U := rLst (fun m : Mach => rFm c c.CF m) [m0, m1, m2]) (W := rLst (rFR c) []) (EvN.lst (en_lc1 (R := rRs) (S := fun m : Mach => rFm c c.CF m) (xs := [m0, m1, m2]) (ei_list (ev_v (U := rLst rRs [m0, m1, m2]) rfl hP)) (by show 3 ≤ 100000; decide) (fun _ => rfl) fun m hm v6 M6 B6 _ b6 hv6 =>
      ev_call (A := fun m : Mach => [rRs m]) (R := fun m : Mach => rFm c c.CF m) m (ea_cons (ev_v (U := rRs m) rfl hv6) ea_nil) ⟨(hab m hm).1, by have := (hab m hm).2.1; omega⟩)) (fun {B1} b1 => ev_nilL (rFR c)) (d12.dj t12) fun vF vS B13 b13 d13 hF hS0 => ?_
    refine q_for (R := fun m : Mach => rFm c c.CF m) (xs := [m0, m1, m2]) (ei_list (ev_v (U := rLst (fun m : Mach => rFm c c.CF m) [m0, m1, m2]) rfl hF)) d13
      (fun j σ9 M9 B9 => ∃ o6 vS t9 qs, σ9 = [some (.ref a), some v, some (.ref p), some vP, some vF, some vS, o6, o7, o8, o9, o10, o11, o12] ∧ M9 = upd M p (lotO t9) ∧ (rLst (rFR c) qs).p vS B9 ∧ qs.length ≤ 4 * j ∧ ∀ q ∈ qs, okFR q)
      (fun j σ9 M9 B8 B9 s89 ⟨o6, vS, t9, qs, e1, e2, e3, e4⟩ => ⟨o6, vS, t9, qs, e1, e2, (rLst (rFR c) qs).up s89 e3, e4⟩) (fun B14 b14 d14 => ⟨_, vS, t12, [], rfl, rfl, (rLst (rFR c) []).up b14 hS0, Nat.zero_le _, fun q hq => by cases hq⟩) (fun B0' j m vm σ9 M9 B14 exj b0' b14 d14 hp hvm => ?_) fun σ9 M9 B14 hp b14 d14 => ?_
    · obtain ⟨o6, vS, t14, qs, rfl, rfl, hqs, hql, hqo⟩ := hp
      have hj := (List.getElem?_eq_some_iff.mp exj).1
      have hj3 : j < 3 := hj
      obtain ⟨vmm, h4, _⟩ := hab m (List.mem_of_getElem? exj)
      have wf := vmm.toWf
      have hrl : (rings m).length ≤ 4 := by
        have h1 := parts_len (m := m)
        have h2 : (rings m).length ≤ (parts m).length := List.length_filter_le _ _
        omega
      have fm : ∀ {σ9 : L2.St} {M9 B9 : Hp} {o : List (Option V)}, Same B14 B9 → σ9[6]? = some (some vm) → Ev (tVar 6) σ9 M9 B9 (rForm c m) := fun s9 e => ev_form (C := c.CF) List.mem_cons_self (ev_v (U := rFm c c.CF m) e ((rFm c c.CF m).up s9 hvm))
      refine q_asg (U := rLst (rFR c) (qs ++ (rings m).map fun r => (m, r))) (ev_cat (ev_v (U := rLst (rFR c) qs) rfl hqs) ((EvN.lst (en_lc1 (R := rTup rNat) (S := fun r : List Nat => rFR c (m, r)) (xs := rings m) (ei_tup (ev_rgRingsP (ev_Rings (fm (o := []) (Same.refl _) rfl) wf))) (by omega) (fun _ => rfl) fun r _ v7 M7 B7 _ b7 hv7 =>
        ev_pr (R := rForm c) (S := rTup rNat) (x := m) (y := r) (fm (o := []) b7 rfl) (ev_v (U := rTup rNat r) rfl hv7))).to fun v B2 _ h => lst_unmap (R := rFR c) (f := fun r : List Nat => (m, r)) h) (by rw [List.length_map]; omega)) d14 fun vS' B15 b15 d15 hS' => ?_
      have d15' := DjL.of d11.m d15
      refine l_no (etk_or (a := false) (b := false) (etk_not (b := true) (etk_test (el_call (A := fun m : Mach => [rForm c m]) (R := fun _ : Mach => rBl true) m rfl (ea_cons (fm (o := []) b15 rfl) ea_nil) ⟨wf, by omega⟩))) fun _ => et_not (a := true) (et_test (ev_call (A := fun m : Mach => [rFm c c.CF m]) (R := fun _ : Mach => rBl true) m (ea_cons (ev_v (U := rFm c c.CF m) rfl ((rFm c c.CF m).up b15 hvm)) ea_nil) ⟨vmm, h4⟩))) d15' fun t16 B16 b16 d16 => ?_
      refine ⟨_, B16, rfl, d16.dj t16, b14.trans (b15.trans b16), _, vS', t16, _, rfl, rfl, (rLst (rFR c) _).up b16 hS', by rw [List.length_append, List.length_map]; omega, fun q hq => ?_⟩
      rcases List.mem_append.mp hq with hq | hq
      · exact hqo q hq
      · obtain ⟨r, hr, rfl⟩ := List.mem_map.mp hq
        exact ⟨wf, by show m.length ≤ 6; omega, hr⟩
    · obtain ⟨o6, vS, t14, qs, rfl, rfl, hqs, hql, hqo⟩ := hp
      have hql : qs.length ≤ 4 * 3 := hql
      refine q_no (EvT.to (et_not (et_test (ev_call (A := fun xs : List (Mach × List Nat) => [rLst (rFR c) xs]) (R := fun _ : List (Mach × List Nat) => rBl true) qs (ea_cons (ev_v (U := rLst (rFR c) qs) rfl hqs) ea_nil) ⟨by omega, hqo⟩))) rfl) d14 fun B15 b15 d15 => ?_
      have d15' := DjL.of d11.m d15
      -- the names
      refine lq_asg (U := rEx (· ∈ Nms) rTx) (EvL.to (el_call (A := fun us : List Up => [rSeq us]) (R := rOf) (Nms.map rTx) rfl (ea_cons ((EvN.lst (R := rTx) (xs := Nms) ((en_lst (ea_cons (ev_cS (w := [97, 98]) rfl) (ea_cons (ev_cS (w := [98, 100]) rfl) (ea_cons (ev_cS (w := [99, 101]) rfl) (ea_cons (ev_cS (w := [97, 101]) rfl) ea_nil)))) (by show 4 ≤ 1000; decide)).to fun vs B1 h => by
        cases h with | cons k1 h => cases h with | cons k2 h => cases h with | cons k3 h => cases h with | cons k4 h => (cases h; exact .cons k1 (.cons k2 (.cons k3 (.cons k4 .nil)))))).to fun v B2 _ hv => seq_lst hv) ea_nil) ⟨List.cons_ne_nil _ _, by show 4 ≤ 100000; decide⟩) fun v B2 _ hv => of_map hv) d15' fun vW t16 B16 b16 d16 hW => ?_
      obtain ⟨wd, hwd, hW⟩ := hW
      obtain ⟨w2, e0, e1, okp⟩ := nms_ok wd hwd
      generalize wd.getD 0 0 = p0 at e0 okp
      generalize wd.getD 1 0 = p1 at e1 okp
      refine q_asg (U := rNm (p0, p1)) (ev_names (p := (p0, p1)) (EvN.lst (R := rPr rTx rTx) (xs := [([97], [p0]), ([98], [p1])]) ((en_lst (ea_cons (ev_pr (R := rTx) (S := rTx) (x := [97]) (y := [p0]) (ev_cS rfl) (ev_ixS (i := 0) (ev_v (U := rTx wd) rfl hW) (ev_c (x := .int 0)) e0 (by omega))) (ea_cons (ev_pr (R := rTx) (S := rTx) (x := [98]) (y := [p1]) (ev_cS rfl) (ev_ixS (i := 1) (ev_v (U := rTx wd) rfl hW) (ev_c (x := .int 1)) e1 (by omega))) ea_nil)) (by show 2 ≤ 1000; decide)).to fun vs B1 h => by
        cases h with | cons k1 h => cases h with | cons k2 h => (cases h; exact .cons k1 (.cons k2 .nil))))) (d16.dj t16) fun vN B17 b17 d17 hN => ?_
      have d17' := DjL.of d11.m d17
      have hP17 := (rLst rRs [m0, m1, m2]).up (b13.trans (b14.trans (b15.trans (b16.trans b17)))) hP
      -- the turned machines
      refine lq_asg (U := rEx (fun ys => Paired (fun (m : Mach) (y : Mach × List Nat) => TurnOk m y.1 y.2 (p0, p1)) [m0, m1] ys) (rLst fun y : Mach × List Nat => rL2 (rRs y.1) (rLst rNat y.2))) (el_lc (R := rRs) (S := fun y : Mach × List Nat => rL2 (rRs y.1) (rLst rNat y.2)) (P := fun (m : Mach) (y : Mach × List Nat) => TurnOk m y.1 y.2 (p0, p1)) (xs := [m0, m1]) (ei_list (ev_slT (k := 2) (ev_v (U := rLst rRs [m0, m1, m2]) rfl hP17) (ev_c (x := .int 2)))) (by show 2 ≤ 100000; decide) (fun _ => rfl) fun m hm v7 M7 B7 _ b7 _ hv7 =>
        el_call (A := fun x : Mach × (Nat × Nat) => [rRs x.1, rNm x.2]) (R := fun x : Mach × (Nat × Nat) => rEx (fun y : Mach × List Nat => TurnOk x.1 y.1 y.2 x.2) fun y => rL2 (rRs y.1) (rLst rNat y.2)) (m, (p0, p1)) rfl (ea_cons (ev_v (U := rRs m) rfl hv7) (ea_cons (ev_v (U := rNm (p0, p1)) rfl ((rNm (p0, p1)).up b7 hN)) ea_nil)) ⟨hab m (by
          rcases List.mem_cons.mp hm with rfl | hm
          · exact List.mem_cons_self
          · rw [List.mem_singleton.mp hm]; exact List.mem_cons_of_mem _ List.mem_cons_self), okp⟩) d17' fun vT t18 B18 b18 d18 hT => ?_
      obtain ⟨ys, prT, hT⟩ := hT
      obtain ⟨y0, y1, rfl, k0, k1⟩ : ∃ y0 y1 : Mach × List Nat, ys = [y0, y1] ∧ TurnOk m0 y0.1 y0.2 (p0, p1) ∧ TurnOk m1 y1.1 y1.2 (p0, p1) := by
        cases prT with
        | cons k0 pr => cases pr with
          | cons k1 pr =>
            cases pr
            exact ⟨_, _, rfl, k0, k1⟩
      refine s_no (EvT.to (et_not (et_test (ev_call (A := fun x : Tn × Tn × (Nat × Nat) => [rLst (fun y : Tn => rRs y.1) [x.1, x.2.1], rLst rTn [x.1, x.2.1], rNm x.2.2]) (R := fun _ : Tn × Tn × (Nat × Nat) => rBl true) ((m0, y0), (m1, y1), (p0, p1)) (ea_cons ((ev_slT (k := 2) (ev_v (U := rLst rRs [m0, m1, m2]) rfl ((rLst rRs [m0, m1, m2]).up b18 hP17)) (ev_c (x := .int 2))).to fun v B2 _ h => lst_map (R := rRs) (f := fun y : Tn => y.1) (xs := [(m0, y0), (m1, y1)]) h) (ea_cons ((ev_v (U := rLst (fun y : Mach × List Nat => rL2 (rRs y.1) (rLst rNat y.2)) [y0, y1]) rfl hT).to fun v B2 _ h => lst_map (R := fun y : Mach × List Nat => rL2 (rRs y.1) (rLst rNat y.2)) (f := fun y : Tn => y.2) (xs := [(m0, y0), (m1, y1)]) h) (ea_cons (ev_v (U := rNm (p0, p1)) rfl ((rNm (p0, p1)).up b18 hN)) ea_nil))) ⟨⟨hab m0 List.mem_cons_self, k0⟩, ⟨hab m1 (List.mem_cons_of_mem _ List.mem_cons_self), k1⟩, okp⟩))) rfl) (d18.dj t18) fun B19 b19 d19 => ?_
      have sF : Same B19 (upd B19 p (lotO t18)) := same_new (dj_none d19 upd_same)
      exact ⟨M, upd B19 p (lotO t18), jn_pub d11.m, dj_b (dj_sub d11.m d19) d11.m, b9.trans (b11.trans (b12.trans (b13.trans (b14.trans (b15.trans (b16.trans (b17.trans (b18.trans (b19.trans sF))))))))), rfl, _, _, _, _, _, _, _, _, _, _, _, _, rfl⟩
  · obtain ⟨rfl, o1, o2, o3, o4, o5, o6, o7, o8, o9, o10, o11, o12, rfl⟩ := hp
    exact s_ret (U := rBl true) ev_c d9 fun v B10 b10 d10 hv => by
      rw [show v = _ from hv]
      exact q _
end
end Zb
end
section
set_option Elab.async false
set_option linter.all false
set_option maxRecDepth 100000
set_option maxHeartbeats 0
/-! Zh3: the facts read, the ladder of promises. -/
namespace Zh
open PySem PySem.Spec PyProof.Rows L2 SlX He Zb GenW
abbrev cs (K : PySem.W.Frag) : Cs := ⟨ga K "Form", ga K "MadeForm", ga K "Quotient", ga K "Rings", 1, 0, 2, 1, 0⟩
section
variable {h : Heap} {K : PySem.W.Frag} {mg : Str → Option Value}
theorem t_ok (X : K.In h) (G : h.Ns mainGlobals mg) (c : SaysE fa fn K) : Bt mg where
  isinstance := free_ok X G (c.fact 0 (b := (Fa.free "isinstance").ok K))
  len := free_ok X G (c.fact 1 (b := (Fa.free "len").ok K))
  range := free_ok X G (c.fact 2 (b := (Fa.free "range").ok K))
  sorted := free_ok X G (c.fact 3 (b := (Fa.free "sorted").ok K))
  set := free_ok X G (c.fact 4 (b := (Fa.free "set").ok K))
  list := free_ok X G (c.fact 5 (b := (Fa.free "list").ok K))
  tuple := free_ok X G (c.fact 6 (b := (Fa.free "tuple").ok K))
  dict := free_ok X G (c.fact 7 (b := (Fa.free "dict").ok K))
  any := free_ok X G (c.fact 8 (b := (Fa.free "any").ok K))
  all := free_ok X G (c.fact 9 (b := (Fa.free "all").ok K))
  sum := free_ok X G (c.fact 10 (b := (Fa.free "sum").ok K))
  min := free_ok X G (c.fact 11 (b := (Fa.free "min").ok K))
  max := free_ok X G (c.fact 12 (b := (Fa.free "max").ok K))
  abs := free_ok X G (c.fact 13 (b := (Fa.free "abs").ok K))
  int := free_ok X G (c.fact 14 (b := (Fa.free "int").ok K))
  enumerate := free_ok X G (c.fact 15 (b := (Fa.free "enumerate").ok K))
  zip := free_ok X G (c.fact 16 (b := (Fa.free "zip").ok K))
  bool := free_ok X G (c.fact 17 (b := (Fa.free "bool").ok K))
  str := free_ok X G (c.fact 18 (b := (Fa.free "str").ok K))
  SIGNS := by
    obtain ⟨t, e⟩ := str_ok X G (c.fact 24 (b := (Fa.str "SIGNS" (tx [97, 98, 99, 100, 101])).ok K))
    exact ⟨_, e, t, rfl⟩
  GREATEST := by
    obtain ⟨t, e⟩ := int_ok X G (c.fact 19 (b := (Fa.int "GREATEST" (10 ^ 60)).ok K))
    exact ⟨_, e, t, rfl⟩
  MAX_WRITTEN := by
    obtain ⟨t, e⟩ := int_ok X G (c.fact 20 (b := (Fa.int "MAX_WRITTEN" 8).ok K))
    exact ⟨_, e, t, rfl⟩
  MAX_STATES := by
    obtain ⟨t, e⟩ := int_ok X G (c.fact 21 (b := (Fa.int "MAX_STATES" 40).ok K))
    exact ⟨_, e, t, rfl⟩
  MAX_LOOP := by
    obtain ⟨t, e⟩ := int_ok X G (c.fact 22 (b := (Fa.int "MAX_LOOP" 12).ok K))
    exact ⟨_, e, t, rfl⟩
  MAX_PAIR := by
    obtain ⟨t, e⟩ := int_ok X G (c.fact 23 (b := (Fa.int "MAX_PAIR" 6).ok K))
    exact ⟨_, e, t, rfl⟩
theorem kc_ok (c : SaysE fa fn K) : Kc K (cs K) where
  fc := fun C hC => by
    rcases List.mem_cons.mp hC with e | hC
    · subst e
      exact ⟨scls_ok (c.fact 72 (b := sclsB K (ga K "Form"))), sisi_ok (c.fact 75 (b := sisiB K (ga K "Form"))), slot_ok (c.fact 76 (b := slotB K (ga K "Form") "own_moves" 1)), slot_ok (c.fact 77 (b := slotB K (ga K "Form") "own_lasts" 0)), of_decide_eq_true (c.fact 78 (b := decide (PySem.W.kitOne K (.ref (ga K "Form")) (.ref (ga K "Form")) = some true)))⟩
    · have e := List.mem_singleton.mp hC
      subst e
      exact ⟨scls_ok (c.fact 73 (b := sclsB K (ga K "MadeForm"))), sisi_ok (c.fact 79 (b := sisiB K (ga K "MadeForm"))), slot_ok (c.fact 80 (b := slotB K (ga K "MadeForm") "own_moves" 1)), slot_ok (c.fact 81 (b := slotB K (ga K "MadeForm") "own_lasts" 0)), of_decide_eq_true (c.fact 82 (b := decide (PySem.W.kitOne K (.ref (ga K "MadeForm")) (.ref (ga K "Form")) = some true)))⟩
  ne := by show (1 : Nat) ≠ 0; decide
  qsc := scls_ok (c.fact 74 (b := sclsB K (ga K "Quotient")))
  qmv := slot_ok (c.fact 83 (b := slotB K (ga K "Quotient") "of_moves" 2))
  qls := slot_ok (c.fact 84 (b := slotB K (ga K "Quotient") "of_lasts" 1))
  qcl := slot_ok (c.fact 85 (b := slotB K (ga K "Quotient") "of_classes" 0))
  qne := by
    show (2 : Nat) ≠ 1 ∧ (2 : Nat) ≠ 0 ∧ (1 : Nat) ≠ 0
    decide
  rc := cls_ok (c.fact 86 (b := (Fa.cls "Rings").ok K))
  rn := fun f hf => by
    rcases List.mem_cons.mp hf with e | hf
    · subst e; exact noat_ok (c.fact 87 (b := (Fa.noat "Rings" "own_form").ok K))
    · rcases List.mem_cons.mp hf with e | hf
      · subst e; exact noat_ok (c.fact 88 (b := (Fa.noat "Rings" "own_reach").ok K))
      · rcases List.mem_cons.mp hf with e | hf
        · subst e; exact noat_ok (c.fact 89 (b := (Fa.noat "Rings" "own_parts").ok K))
        · have e := List.mem_singleton.mp hf
          subst e; exact noat_ok (c.fact 90 (b := (Fa.noat "Rings" "own_rings").ok K))
theorem D_is_among (X : K.In h) (G : h.Ns mainGlobals mg) (c : SaysE fa fn K) : Def K mg "is_among" s_is_among := ⟨by
  obtain ⟨fd, F⟩ := c.def_ 0 (d := ⟨fun K => ga K "is_among", "is_among", "is_among", (top 58)⟩)
  exact ⟨_, fd, F, glo_ok X G (c.fact 25 (b := (Fa.glo "is_among").ok K))⟩⟩
theorem D_require_state (X : K.In h) (G : h.Ns mainGlobals mg) (c : SaysE fa fn K) : Def K mg "require_state" s_require_state := ⟨by
  obtain ⟨fd, F⟩ := c.def_ 1 (d := ⟨fun K => ga K "require_state", "require_state", "require_state", (top 57)⟩)
  exact ⟨_, fd, F, glo_ok X G (c.fact 26 (b := (Fa.glo "require_state").ok K))⟩⟩
theorem D_made_form (X : K.In h) (G : h.Ns mainGlobals mg) (c : SaysE fa fn K) : Def K mg "made_form" s_made_form := ⟨by
  obtain ⟨fd, F⟩ := c.def_ 2 (d := ⟨fun K => ga K "made_form", "made_form", "made_form", (top 42)⟩)
  exact ⟨_, fd, F, glo_ok X G (c.fact 27 (b := (Fa.glo "made_form").ok K))⟩⟩
theorem D_lacking_piece (X : K.In h) (G : h.Ns mainGlobals mg) (c : SaysE fa fn K) : Def K mg "lacking_piece" s_lacking_piece := ⟨by
  obtain ⟨fd, F⟩ := c.def_ 3 (d := ⟨fun K => ga K "lacking_piece", "lacking_piece", "lacking_piece", (top 61)⟩)
  exact ⟨_, fd, F, glo_ok X G (c.fact 28 (b := (Fa.glo "lacking_piece").ok K))⟩⟩
theorem D_covers (X : K.In h) (G : h.Ns mainGlobals mg) (c : SaysE fa fn K) : Def K mg "covers" s_covers := ⟨by
  obtain ⟨fd, F⟩ := c.def_ 4 (d := ⟨fun K => ga K "covers", "covers", "covers", (top 62)⟩)
  exact ⟨_, fd, F, glo_ok X G (c.fact 29 (b := (Fa.glo "covers").ok K))⟩⟩
theorem D_ways_back (X : K.In h) (G : h.Ns mainGlobals mg) (c : SaysE fa fn K) : Def K mg "ways_back" s_ways_back := ⟨by
  obtain ⟨fd, F⟩ := c.def_ 5 (d := ⟨fun K => ga K "ways_back", "ways_back", "ways_back", (top 53)⟩)
  exact ⟨_, fd, F, glo_ok X G (c.fact 30 (b := (Fa.glo "ways_back").ok K))⟩⟩
theorem D_read_on (X : K.In h) (G : h.Ns mainGlobals mg) (c : SaysE fa fn K) : Def K mg "read_on" s_read_on := ⟨by
  obtain ⟨fd, F⟩ := c.def_ 6 (d := ⟨fun K => ga K "read_on", "read_on", "read_on", (top 55)⟩)
  exact ⟨_, fd, F, glo_ok X G (c.fact 31 (b := (Fa.glo "read_on").ok K))⟩⟩
theorem D__law_alike (X : K.In h) (G : h.Ns mainGlobals mg) (c : SaysE fa fn K) : Def K mg "_law_alike" s__law_alike := ⟨by
  obtain ⟨fd, F⟩ := c.def_ 7 (d := ⟨fun K => ga K "_law_alike", "_law_alike", "_law_alike", (top 77)⟩)
  exact ⟨_, fd, F, glo_ok X G (c.fact 32 (b := (Fa.glo "_law_alike").ok K))⟩⟩
theorem D__law_lots (X : K.In h) (G : h.Ns mainGlobals mg) (c : SaysE fa fn K) : Def K mg "_law_lots" s__law_lots := ⟨by
  obtain ⟨fd, F⟩ := c.def_ 8 (d := ⟨fun K => ga K "_law_lots", "_law_lots", "_law_lots", (top 64)⟩)
  exact ⟨_, fd, F, glo_ok X G (c.fact 33 (b := (Fa.glo "_law_lots").ok K))⟩⟩
theorem D__law_lot (X : K.In h) (G : h.Ns mainGlobals mg) (c : SaysE fa fn K) : Def K mg "_law_lot" s__law_lot := ⟨by
  obtain ⟨fd, F⟩ := c.def_ 9 (d := ⟨fun K => ga K "_law_lot", "_law_lot", "_law_lot", (top 65)⟩)
  exact ⟨_, fd, F, glo_ok X G (c.fact 34 (b := (Fa.glo "_law_lot").ok K))⟩⟩
theorem D_require_rings (X : K.In h) (G : h.Ns mainGlobals mg) (c : SaysE fa fn K) : Def K mg "require_rings" s_require_rings := ⟨by
  obtain ⟨fd, F⟩ := c.def_ 10 (d := ⟨fun K => ga K "require_rings", "require_rings", "require_rings", (top 60)⟩)
  exact ⟨_, fd, F, glo_ok X G (c.fact 35 (b := (Fa.glo "require_rings").ok K))⟩⟩
theorem D_first_lack (X : K.In h) (G : h.Ns mainGlobals mg) (c : SaysE fa fn K) : Def K mg "first_lack" s_first_lack := ⟨by
  obtain ⟨fd, F⟩ := c.def_ 11 (d := ⟨fun K => ga K "first_lack", "first_lack", "first_lack", (top 59)⟩)
  exact ⟨_, fd, F, glo_ok X G (c.fact 36 (b := (Fa.glo "first_lack").ok K))⟩⟩
theorem D__law_turned (X : K.In h) (G : h.Ns mainGlobals mg) (c : SaysE fa fn K) : Def K mg "_law_turned" s__law_turned := ⟨by
  obtain ⟨fd, F⟩ := c.def_ 12 (d := ⟨fun K => ga K "_law_turned", "_law_turned", "_law_turned", (top 75)⟩)
  exact ⟨_, fd, F, glo_ok X G (c.fact 37 (b := (Fa.glo "_law_turned").ok K))⟩⟩
theorem D__law_from (X : K.In h) (G : h.Ns mainGlobals mg) (c : SaysE fa fn K) : Def K mg "_law_from" s__law_from := ⟨by
  obtain ⟨fd, F⟩ := c.def_ 13 (d := ⟨fun K => ga K "_law_from", "_law_from", "_law_from", (top 68)⟩)
  exact ⟨_, fd, F, glo_ok X G (c.fact 38 (b := (Fa.glo "_law_from").ok K))⟩⟩
theorem D__law_useful (X : K.In h) (G : h.Ns mainGlobals mg) (c : SaysE fa fn K) : Def K mg "_law_useful" s__law_useful := ⟨by
  obtain ⟨fd, F⟩ := c.def_ 14 (d := ⟨fun K => ga K "_law_useful", "_law_useful", "_law_useful", (top 69)⟩)
  exact ⟨_, fd, F, glo_ok X G (c.fact 39 (b := (Fa.glo "_law_useful").ok K))⟩⟩
theorem D__law_one (X : K.In h) (G : h.Ns mainGlobals mg) (c : SaysE fa fn K) : Def K mg "_law_one" s__law_one := ⟨by
  obtain ⟨fd, F⟩ := c.def_ 15 (d := ⟨fun K => ga K "_law_one", "_law_one", "_law_one", (top 66)⟩)
  exact ⟨_, fd, F, glo_ok X G (c.fact 40 (b := (Fa.glo "_law_one").ok K))⟩⟩
theorem D__law_some (X : K.In h) (G : h.Ns mainGlobals mg) (c : SaysE fa fn K) : Def K mg "_law_some" s__law_some := ⟨by
  obtain ⟨fd, F⟩ := c.def_ 16 (d := ⟨fun K => ga K "_law_some", "_law_some", "_law_some", (top 67)⟩)
  exact ⟨_, fd, F, glo_ok X G (c.fact 41 (b := (Fa.glo "_law_some").ok K))⟩⟩
theorem D_is_integer (X : K.In h) (G : h.Ns mainGlobals mg) (c : SaysE fa fn K) : Def K mg "is_integer" s_is_integer := ⟨by
  obtain ⟨fd, F⟩ := c.def_ 17 (d := ⟨fun K => ga K "is_integer", "is_integer", "is_integer", (top 11)⟩)
  exact ⟨_, fd, F, glo_ok X G (c.fact 42 (b := (Fa.glo "is_integer").ok K))⟩⟩
theorem D_is_sign (X : K.In h) (G : h.Ns mainGlobals mg) (c : SaysE fa fn K) : Def K mg "is_sign" s_is_sign := ⟨by
  obtain ⟨fd, F⟩ := c.def_ 18 (d := ⟨fun K => ga K "is_sign", "is_sign", "is_sign", (top 12)⟩)
  exact ⟨_, fd, F, glo_ok X G (c.fact 43 (b := (Fa.glo "is_sign").ok K))⟩⟩
theorem D_are_useful (X : K.In h) (G : h.Ns mainGlobals mg) (c : SaysE fa fn K) : Def K mg "are_useful" s_are_useful := ⟨by
  obtain ⟨fd, F⟩ := c.def_ 19 (d := ⟨fun K => ga K "are_useful", "are_useful", "are_useful", (top 18)⟩)
  exact ⟨_, fd, F, glo_ok X G (c.fact 44 (b := (Fa.glo "are_useful").ok K))⟩⟩
theorem D__law_goes_on (X : K.In h) (G : h.Ns mainGlobals mg) (c : SaysE fa fn K) : Def K mg "_law_goes_on" s__law_goes_on := ⟨by
  obtain ⟨fd, F⟩ := c.def_ 20 (d := ⟨fun K => ga K "_law_goes_on", "_law_goes_on", "_law_goes_on", (top 73)⟩)
  exact ⟨_, fd, F, glo_ok X G (c.fact 45 (b := (Fa.glo "_law_goes_on").ok K))⟩⟩
theorem D__law_least_right (X : K.In h) (G : h.Ns mainGlobals mg) (c : SaysE fa fn K) : Def K mg "_law_least_right" s__law_least_right := ⟨by
  obtain ⟨fd, F⟩ := c.def_ 21 (d := ⟨fun K => ga K "_law_least_right", "_law_least_right", "_law_least_right", (top 78)⟩)
  exact ⟨_, fd, F, glo_ok X G (c.fact 46 (b := (Fa.glo "_law_least_right").ok K))⟩⟩
theorem D_is_word (X : K.In h) (G : h.Ns mainGlobals mg) (c : SaysE fa fn K) : Def K mg "is_word" s_is_word := ⟨by
  obtain ⟨fd, F⟩ := c.def_ 22 (d := ⟨fun K => ga K "is_word", "is_word", "is_word", (top 13)⟩)
  exact ⟨_, fd, F, glo_ok X G (c.fact 47 (b := (Fa.glo "is_word").ok K))⟩⟩
theorem D_is_state (X : K.In h) (G : h.Ns mainGlobals mg) (c : SaysE fa fn K) : Def K mg "is_state" s_is_state := ⟨by
  obtain ⟨fd, F⟩ := c.def_ 23 (d := ⟨fun K => ga K "is_state", "is_state", "is_state", (top 34)⟩)
  exact ⟨_, fd, F, glo_ok X G (c.fact 48 (b := (Fa.glo "is_state").ok K))⟩⟩
theorem D_in_order (X : K.In h) (G : h.Ns mainGlobals mg) (c : SaysE fa fn K) : Def K mg "in_order" s_in_order := ⟨by
  obtain ⟨fd, F⟩ := c.def_ 24 (d := ⟨fun K => ga K "in_order", "in_order", "in_order", (top 36)⟩)
  exact ⟨_, fd, F, glo_ok X G (c.fact 49 (b := (Fa.glo "in_order").ok K))⟩⟩
theorem D_are_states (X : K.In h) (G : h.Ns mainGlobals mg) (c : SaysE fa fn K) : Def K mg "are_states" s_are_states := ⟨by
  obtain ⟨fd, F⟩ := c.def_ 25 (d := ⟨fun K => ga K "are_states", "are_states", "are_states", (top 35)⟩)
  exact ⟨_, fd, F, glo_ok X G (c.fact 50 (b := (Fa.glo "are_states").ok K))⟩⟩
theorem D_useful_states (X : K.In h) (G : h.Ns mainGlobals mg) (c : SaysE fa fn K) : Def K mg "useful_states" s_useful_states := ⟨by
  obtain ⟨fd, F⟩ := c.def_ 26 (d := ⟨fun K => ga K "useful_states", "useful_states", "useful_states", (top 17)⟩)
  exact ⟨_, fd, F, glo_ok X G (c.fact 51 (b := (Fa.glo "useful_states").ok K))⟩⟩
theorem D_classes_of (X : K.In h) (G : h.Ns mainGlobals mg) (c : SaysE fa fn K) : Def K mg "classes_of" s_classes_of := ⟨by
  obtain ⟨fd, F⟩ := c.def_ 27 (d := ⟨fun K => ga K "classes_of", "classes_of", "classes_of", (top 19)⟩)
  exact ⟨_, fd, F, glo_ok X G (c.fact 52 (b := (Fa.glo "classes_of").ok K))⟩⟩
theorem D_states_from (X : K.In h) (G : h.Ns mainGlobals mg) (c : SaysE fa fn K) : Def K mg "states_from" s_states_from := ⟨by
  obtain ⟨fd, F⟩ := c.def_ 28 (d := ⟨fun K => ga K "states_from", "states_from", "states_from", (top 52)⟩)
  exact ⟨_, fd, F, glo_ok X G (c.fact 53 (b := (Fa.glo "states_from").ok K))⟩⟩
theorem D__law_trimmed (X : K.In h) (G : h.Ns mainGlobals mg) (c : SaysE fa fn K) : Def K mg "_law_trimmed" s__law_trimmed := ⟨by
  obtain ⟨fd, F⟩ := c.def_ 29 (d := ⟨fun K => ga K "_law_trimmed", "_law_trimmed", "_law_trimmed", (top 70)⟩)
  exact ⟨_, fd, F, glo_ok X G (c.fact 54 (b := (Fa.glo "_law_trimmed").ok K))⟩⟩
theorem D_words_between (X : K.In h) (G : h.Ns mainGlobals mg) (c : SaysE fa fn K) : Def K mg "words_between" s_words_between := ⟨by
  obtain ⟨fd, F⟩ := c.def_ 30 (d := ⟨fun K => ga K "words_between", "words_between", "words_between", (top 54)⟩)
  exact ⟨_, fd, F, glo_ok X G (c.fact 55 (b := (Fa.glo "words_between").ok K))⟩⟩
theorem D_require_form (X : K.In h) (G : h.Ns mainGlobals mg) (c : SaysE fa fn K) : Def K mg "require_form" s_require_form := ⟨by
  obtain ⟨fd, F⟩ := c.def_ 31 (d := ⟨fun K => ga K "require_form", "require_form", "require_form", (top 39)⟩)
  exact ⟨_, fd, F, glo_ok X G (c.fact 56 (b := (Fa.glo "require_form").ok K))⟩⟩
theorem D_require_six (X : K.In h) (G : h.Ns mainGlobals mg) (c : SaysE fa fn K) : Def K mg "require_six" s_require_six := ⟨by
  obtain ⟨fd, F⟩ := c.def_ 32 (d := ⟨fun K => ga K "require_six", "require_six", "require_six", (top 51)⟩)
  exact ⟨_, fd, F, glo_ok X G (c.fact 57 (b := (Fa.glo "require_six").ok K))⟩⟩
theorem D__law_spelled (X : K.In h) (G : h.Ns mainGlobals mg) (c : SaysE fa fn K) : Def K mg "_law_spelled" s__law_spelled := ⟨by
  obtain ⟨fd, F⟩ := c.def_ 33 (d := ⟨fun K => ga K "_law_spelled", "_law_spelled", "_law_spelled", (top 76)⟩)
  exact ⟨_, fd, F, glo_ok X G (c.fact 58 (b := (Fa.glo "_law_spelled").ok K))⟩⟩
theorem D__law_loops_right (X : K.In h) (G : h.Ns mainGlobals mg) (c : SaysE fa fn K) : Def K mg "_law_loops_right" s__law_loops_right := ⟨by
  obtain ⟨fd, F⟩ := c.def_ 34 (d := ⟨fun K => ga K "_law_loops_right", "_law_loops_right", "_law_loops_right", (top 74)⟩)
  exact ⟨_, fd, F, glo_ok X G (c.fact 59 (b := (Fa.glo "_law_loops_right").ok K))⟩⟩
theorem D__law_made (X : K.In h) (G : h.Ns mainGlobals mg) (c : SaysE fa fn K) : Def K mg "_law_made" s__law_made := ⟨by
  obtain ⟨fd, F⟩ := c.def_ 35 (d := ⟨fun K => ga K "_law_made", "_law_made", "_law_made", (top 72)⟩)
  exact ⟨_, fd, F, glo_ok X G (c.fact 60 (b := (Fa.glo "_law_made").ok K))⟩⟩
theorem D__law_plain (X : K.In h) (G : h.Ns mainGlobals mg) (c : SaysE fa fn K) : Def K mg "_law_plain" s__law_plain := ⟨by
  obtain ⟨fd, F⟩ := c.def_ 36 (d := ⟨fun K => ga K "_law_plain", "_law_plain", "_law_plain", (top 71)⟩)
  exact ⟨_, fd, F, glo_ok X G (c.fact 61 (b := (Fa.glo "_law_plain").ok K))⟩⟩
theorem D_explored (X : K.In h) (G : h.Ns mainGlobals mg) (c : SaysE fa fn K) : Def K mg "explored" s_explored := ⟨by
  obtain ⟨fd, F⟩ := c.def_ 37 (d := ⟨fun K => ga K "explored", "explored", "explored", (top 16)⟩)
  exact ⟨_, fd, F, glo_ok X G (c.fact 62 (b := (Fa.glo "explored").ok K))⟩⟩
theorem M_Rings_all_parts (c : SaysE fa fn K) : MDf K (cs K).CR "all_parts" "Rings.all_parts" s_Rings_all_parts := ⟨by
  obtain ⟨fd, F⟩ := c.def_ 39 (d := ⟨fun K => ma K (ga K "Rings") "all_parts", "all_parts", "Rings.all_parts", (inClass (top 56) 1)⟩)
  exact ⟨_, fd, F, meth_ok (c.fact 91 (b := (Fa.meth "Rings" "all_parts").ok K))⟩⟩
theorem M_Rings_has_move (c : SaysE fa fn K) : MDf K (cs K).CR "has_move" "Rings.has_move" s_Rings_has_move := ⟨by
  obtain ⟨fd, F⟩ := c.def_ 40 (d := ⟨fun K => ma K (ga K "Rings") "has_move", "has_move", "Rings.has_move", (inClass (top 56) 2)⟩)
  exact ⟨_, fd, F, meth_ok (c.fact 92 (b := (Fa.meth "Rings" "has_move").ok K))⟩⟩
theorem M_Rings___contains__ (c : SaysE fa fn K) : MDf K (cs K).CR "__contains__" "Rings.__contains__" s_Rings___contains__ := ⟨by
  obtain ⟨fd, F⟩ := c.def_ 41 (d := ⟨fun K => ma K (ga K "Rings") "__contains__", "__contains__", "Rings.__contains__", (inClass (top 56) 14)⟩)
  exact ⟨_, fd, F, meth_ok (c.fact 93 (b := (Fa.meth "Rings" "__contains__").ok K))⟩⟩
theorem M_Rings___len__ (c : SaysE fa fn K) : MDf K (cs K).CR "__len__" "Rings.__len__" s_Rings___len__ := ⟨by
  obtain ⟨fd, F⟩ := c.def_ 42 (d := ⟨fun K => ma K (ga K "Rings") "__len__", "__len__", "Rings.__len__", (inClass (top 56) 15)⟩)
  exact ⟨_, fd, F, meth_ok (c.fact 94 (b := (Fa.meth "Rings" "__len__").ok K))⟩⟩
theorem M_Rings_leads_to (c : SaysE fa fn K) : MDf K (cs K).CR "leads_to" "Rings.leads_to" s_Rings_leads_to := ⟨by
  obtain ⟨fd, F⟩ := c.def_ 43 (d := ⟨fun K => ma K (ga K "Rings") "leads_to", "leads_to", "Rings.leads_to", (inClass (top 56) 7)⟩)
  exact ⟨_, fd, F, meth_ok (c.fact 95 (b := (Fa.meth "Rings" "leads_to").ok K))⟩⟩
theorem M_Rings___getitem__ (c : SaysE fa fn K) : MDf K (cs K).CR "__getitem__" "Rings.__getitem__" s_Rings___getitem__ := ⟨by
  obtain ⟨fd, F⟩ := c.def_ 44 (d := ⟨fun K => ma K (ga K "Rings") "__getitem__", "__getitem__", "Rings.__getitem__", (inClass (top 56) 12)⟩)
  exact ⟨_, fd, F, meth_ok (c.fact 96 (b := (Fa.meth "Rings" "__getitem__").ok K))⟩⟩
theorem M_Rings___init__ (c : SaysE fa fn K) : MDf K (cs K).CR "__init__" "Rings.__init__" s_Rings___init__ := ⟨by
  obtain ⟨fd, F⟩ := c.def_ 45 (d := ⟨fun K => ma K (ga K "Rings") "__init__", "__init__", "Rings.__init__", (inClass (top 56) 0)⟩)
  exact ⟨_, fd, F, meth_ok (c.fact 97 (b := (Fa.meth "Rings" "__init__").ok K))⟩⟩
theorem M_Form_least (c : SaysE fa fn K) : MDf K (cs K).CF "least" "Form.least" s_Form_least := ⟨by
  obtain ⟨fd, F⟩ := c.def_ 46 (d := ⟨fun K => ma K (ga K "Form") "least", "least", "Form.least", (inClass (top 37) 12)⟩)
  exact ⟨_, fd, F, meth_ok (c.fact 98 (b := (Fa.meth "Form" "least").ok K))⟩⟩
theorem M_Rings_reads (c : SaysE fa fn K) : MDf K (cs K).CR "reads" "Rings.reads" s_Rings_reads := ⟨by
  obtain ⟨fd, F⟩ := c.def_ 47 (d := ⟨fun K => ma K (ga K "Rings") "reads", "reads", "Rings.reads", (inClass (top 56) 10)⟩)
  exact ⟨_, fd, F, meth_ok (c.fact 99 (b := (Fa.meth "Rings" "reads").ok K))⟩⟩
theorem M_Rings_loops (c : SaysE fa fn K) : MDf K (cs K).CR "loops" "Rings.loops" s_Rings_loops := ⟨by
  obtain ⟨fd, F⟩ := c.def_ 48 (d := ⟨fun K => ma K (ga K "Rings") "loops", "loops", "Rings.loops", (inClass (top 56) 11)⟩)
  exact ⟨_, fd, F, meth_ok (c.fact 100 (b := (Fa.meth "Rings" "loops").ok K))⟩⟩
theorem M_Quotient___init__ (c : SaysE fa fn K) : MDf K (cs K).CQ "__init__" "Quotient.__init__" s_Quotient___init__ := ⟨by
  obtain ⟨fd, F⟩ := c.def_ 49 (d := ⟨fun K => ma K (ga K "Quotient") "__init__", "__init__", "Quotient.__init__", (inClass (top 20) 1)⟩)
  exact ⟨_, fd, F, meth_ok (c.fact 101 (b := (Fa.meth "Quotient" "__init__").ok K))⟩⟩
theorem M_Quotient_begun (c : SaysE fa fn K) : MDf K (cs K).CQ "begun" "Quotient.begun" s_Quotient_begun := ⟨by
  obtain ⟨fd, F⟩ := c.def_ 50 (d := ⟨fun K => ma K (ga K "Quotient") "begun", "begun", "Quotient.begun", (inClass (top 20) 2)⟩)
  exact ⟨_, fd, F, meth_ok (c.fact 102 (b := (Fa.meth "Quotient" "begun").ok K))⟩⟩
theorem M_Quotient_is_end (c : SaysE fa fn K) : MDf K (cs K).CQ "is_end" "Quotient.is_end" s_Quotient_is_end := ⟨by
  obtain ⟨fd, F⟩ := c.def_ 51 (d := ⟨fun K => ma K (ga K "Quotient") "is_end", "is_end", "Quotient.is_end", (inClass (top 20) 4)⟩)
  exact ⟨_, fd, F, meth_ok (c.fact 103 (b := (Fa.meth "Quotient" "is_end").ok K))⟩⟩
theorem M_Quotient_moves_at (c : SaysE fa fn K) : MDf K (cs K).CQ "moves_at" "Quotient.moves_at" s_Quotient_moves_at := ⟨by
  obtain ⟨fd, F⟩ := c.def_ 52 (d := ⟨fun K => ma K (ga K "Quotient") "moves_at", "moves_at", "Quotient.moves_at", (inClass (top 20) 3)⟩)
  exact ⟨_, fd, F, meth_ok (c.fact 104 (b := (Fa.meth "Quotient" "moves_at").ok K))⟩⟩
theorem M_Form___init__ (c : SaysE fa fn K) : MDf K (cs K).CF "__init__" "Form.__init__" s_Form___init__ := ⟨by
  obtain ⟨fd, F⟩ := c.def_ 53 (d := ⟨fun K => ma K (ga K "Form") "__init__", "__init__", "Form.__init__", (inClass (top 37) 1)⟩)
  exact ⟨_, fd, F, meth_ok (c.fact 105 (b := (Fa.meth "Form" "__init__").ok K))⟩⟩
theorem M_MadeForm___init__ (c : SaysE fa fn K) : MDf K (cs K).CM "__init__" "MadeForm.__init__" s_MadeForm___init__ := ⟨by
  obtain ⟨fd, F⟩ := c.def_ 54 (d := ⟨fun K => ma K (ga K "MadeForm") "__init__", "__init__", "MadeForm.__init__", (inClass (top 38) 0)⟩)
  exact ⟨_, fd, F, meth_ok (c.fact 106 (b := (Fa.meth "MadeForm" "__init__").ok K))⟩⟩
theorem M_Form___len__ (c : SaysE fa fn K) : MDf K (cs K).CF "__len__" "Form.__len__" s_Form___len__ := ⟨by
  obtain ⟨fd, F⟩ := c.def_ 55 (d := ⟨fun K => ma K (ga K "Form") "__len__", "__len__", "Form.__len__", (inClass (top 37) 24)⟩)
  exact ⟨_, fd, F, meth_ok (c.fact 107 (b := (Fa.meth "Form" "__len__").ok K))⟩⟩
theorem M_MadeForm___len__ (c : SaysE fa fn K) : MDf K (cs K).CM "__len__" "Form.__len__" s_Form___len__ := ⟨by
  obtain ⟨fd, F⟩ := c.def_ 56 (d := ⟨fun K => ma K (ga K "MadeForm") "__len__", "__len__", "Form.__len__", (inClass (top 37) 24)⟩)
  exact ⟨_, fd, F, meth_ok (c.fact 108 (b := (Fa.meth "MadeForm" "__len__").ok K))⟩⟩
end
section
variable {P : Program} {w : World} {h base : Heap} {K : PySem.W.Frag} {mg : Str → Option Value}
theorem calc_of {k : Nat} {x : Str} {C : Addr} {sp : Sp} (m : CalM P w K mg base k C "__init__" sp) (hm : mkB K C = true) (g : mg x = some (.ref C)) : CalC P w K mg base k x C sp := by
  obtain ⟨f, fd, ps, F, M, b⟩ := m.ex
  exact ⟨f, fd, ps, mk_ok hm M, F, g, b⟩
theorem ownp_of {k : Nat} {C : Addr} {f : Str} {sp : Sp} (hp : propB K C f = true) (F : FnR P w K mg base CX0 k (getr K C f) sp) : OwnP P w K mg base k C f sp := by
  obtain ⟨h1, h2, h3⟩ := prop_ok hp
  exact ⟨h1, h2, _, _, h3, F⟩
theorem owng_of {k : Nat} {C : Addr} {sp : Sp} {qual : Str} {st : Stmt} (D : MDf K C "__getitem__" qual st) (m : CalM P w K mg base k C "__getitem__" sp) : OwnG P w K mg base k C sp := by
  obtain ⟨f, fd, ps, F, M, b⟩ := m.ex
  obtain ⟨f2, fd2, F2, M2⟩ := D.ex
  have e : f2 = f := by
    have := M2.at_.symm.trans M.at_
    simpa using this
  subst e
  obtain ⟨oc, od, dV, kV, doc, pm, an, cdv, ct, osl, _, lk, _⟩ := F2.ex
  have hf : PySem.W.fnIn K f2 = true := by
    unfold PySem.W.fnIn
    rw [lk]
  refine ⟨f2, M.at_, M.fn, hf, ?_⟩
  have := F.raw b .nil
  simpa using this
theorem two {A B : Addr} {p : Addr → Prop} (a : p A) (b : p B) : ∀ C ∈ [A, B], p C := fun C hC => by
  rcases List.mem_cons.mp hC with e | hC
  · subst e; exact a
  · have e := List.mem_singleton.mp hC
    subst e; exact b
theorem one {A : Addr} {p : Addr → Prop} (a : p A) : ∀ C ∈ [A], p C := fun C hC => by
  have e := List.mem_singleton.mp hC
  subst e; exact a
theorem law_ok (X : K.In h) (G : h.Ns mainGlobals mg) (c : SaysE fa fn K) {f : Addr} {fd : FuncData} (F : FunD K "law" "law" (defArgs s_law) (defBody s_law) (defScope s_law) [] [] f fd) : FnOk P w K mg base CX0 17 f fd ["_law_script"] (sp_law K) := by
  have hW : CalG P w K mg base 10 "words_between" (sp_words (cs K) 5) := c_words (D_words_between X G c) (kc_ok c) (t_ok X G c) 5
  have oL : ∀ C ∈ [(cs K).CF, (cs K).CM], Own P w K mg base 1 C "__len__" (sp_Form_len (cs K)) := two (c_Form_len (M_Form___len__ c) (kc_ok c) (t_ok X G c)).own (c_Form_len (M_MadeForm___len__ c) (kc_ok c) (t_ok X G c)).own
  obtain ⟨fsCF, FsCF⟩ := c.def_ 57 (d := ⟨fun K => getr K (ga K "Form") "signs", "signs", "Form.signs", (inClass (top 37) 5)⟩)
  obtain ⟨fsCM, FsCM⟩ := c.def_ 58 (d := ⟨fun K => getr K (ga K "MadeForm") "signs", "signs", "Form.signs", (inClass (top 37) 5)⟩)
  have oS : ∀ C ∈ [(cs K).CF, (cs K).CM], OwnP P w K mg base 1 C "signs" (sp_signs (cs K)) := two (ownp_of (c.fact 109 (b := propB K (ga K "Form") "signs")) (f_signs FsCF (kc_ok c) (t_ok X G c))) (ownp_of (c.fact 110 (b := propB K (ga K "MadeForm") "signs")) (f_signs FsCM (kc_ok c) (t_ok X G c)))
  obtain ⟨frg, Frg⟩ := c.def_ 59 (d := ⟨fun K => getr K (ga K "Rings") "rings", "rings", "Rings.rings", (inClass (top 56) 5)⟩)
  have oR : ∀ C ∈ [(cs K).CR], OwnP P w K mg base 1 C "rings" (sp_Rings_rings (cs K)) := one (ownp_of (c.fact 111 (b := propB K (ga K "Rings") "rings")) (f_rings Frg (kc_ok c)))
  have h_all_parts : CalM P w K mg base 1 (cs K).CR "all_parts" (sp_all_parts (cs K)) := c_all_parts (M_Rings_all_parts c) (kc_ok c) (t_ok X G c)
  have h_has_move : CalM P w K mg base 1 (cs K).CR "has_move" (sp_has_move (cs K)) := c_has_move (M_Rings_has_move c) (kc_ok c) (t_ok X G c)
  have h_Rings_len : CalM P w K mg base 1 (cs K).CR "__len__" (sp_Rings_len (cs K)) := c_Rings_len (M_Rings___len__ c) (kc_ok c) (t_ok X G c)
  have h_leads_to : CalM P w K mg base 1 (cs K).CR "leads_to" (sp_leads_to (cs K)) := c_leads_to (M_Rings_leads_to c) (kc_ok c)
  have h_ways_back : Cal P w K mg base 1 "ways_back" (sp_ways_back (cs K)) := c_ways_back (D_ways_back X G c) (kc_ok c) (t_ok X G c)
  have h_read_on : Cal P w K mg base 1 "read_on" (sp_read_on (cs K)) := c_read_on (D_read_on X G c) (kc_ok c) (t_ok X G c)
  have h_lots : Cal P w K mg base 1 "_law_lots" (sp_lots K) := c_lots (D__law_lots X G c) (t_ok X G c)
  have h_lot : Cal P w K mg base 1 "_law_lot" sp_lot := c_lot (D__law_lot X G c) (t_ok X G c)
  have h_first_lack : Cal P w K mg base 3 "first_lack" (sp_first_lack (cs K)) := c_first_lack (D_first_lack X G c) (kc_ok c) (t_ok X G c) oS h_read_on
  have h_Quotient_init : CalM P w K mg base 1 (cs K).CQ "__init__" (sp_Quotient (cs K)) := c_Quotient_init (M_Quotient___init__ c) (kc_ok c)
  have h_begun : CalM P w K mg base 1 (cs K).CQ "begun" (sp_begun (cs K)) := c_begun (M_Quotient_begun c) (kc_ok c)
  have h_is_end : CalM P w K mg base 1 (cs K).CQ "is_end" (sp_is_end (cs K)) := c_is_end (M_Quotient_is_end c) (kc_ok c)
  have h_moves_at : CalM P w K mg base 1 (cs K).CQ "moves_at" (sp_moves_at (cs K)) := c_moves_at (M_Quotient_moves_at c) (kc_ok c) (t_ok X G c)
  have h_from : Cal P w K mg base 1 "_law_from" sp_from := c_from (D__law_from X G c) (t_ok X G c)
  have h_lawUseful : Cal P w K mg base 2 "_law_useful" sp_lawUseful := c_lawUseful (D__law_useful X G c) (t_ok X G c) h_from
  have h_one : Cal P w K mg base 2 "_law_one" sp_one := c_one (D__law_one X G c) (t_ok X G c) h_lot
  have h_some : Cal P w K mg base 2 "_law_some" sp_some := c_some (D__law_some X G c) (t_ok X G c) h_lot
  have h_is_integer : Cal P w K mg base 1 "is_integer" sp_is_integer := c_is_integer (D_is_integer X G c) (t_ok X G c)
  have h_is_sign : Cal P w K mg base 1 "is_sign" sp_is_sign := c_is_sign (D_is_sign X G c) (t_ok X G c)
  have h_is_word : Cal P w K mg base 1 "is_word" sp_is_word := c_is_word (D_is_word X G c) (t_ok X G c)
  have h_is_state : Cal P w K mg base 2 "is_state" sp_is_state := c_is_state (D_is_state X G c) (t_ok X G c) h_is_integer h_is_sign
  have h_in_order : Cal P w K mg base 1 "in_order" sp_in_order := c_in_order (D_in_order X G c) (t_ok X G c)
  have h_useful_states : Cal P w K mg base 1 "useful_states" sp_useful_states := c_useful_states (D_useful_states X G c) (t_ok X G c)
  have h_classes_of : Cal P w K mg base 2 "classes_of" sp_classes_of := c_classes_of (D_classes_of X G c) (t_ok X G c) h_useful_states
  have h_states_from : Cal P w K mg base 1 "states_from" (sp_states_from (cs K)) := c_states_from (D_states_from X G c) (kc_ok c) (t_ok X G c)
  have h_trimmed : Cal P w K mg base 3 "_law_trimmed" sp_trimmed := c_trimmed (D__law_trimmed X G c) (t_ok X G c) h_from h_lawUseful
  have h_MadeForm_init : CalM P w K mg base 1 (cs K).CM "__init__" (sp_MadeForm (cs K)) := c_MadeForm_init (M_MadeForm___init__ c) (kc_ok c)
  have h_require_form : Cal P w K mg base 1 "require_form" (sp_require_form (cs K)) := c_require_form (D_require_form X G c) (kc_ok c) (t_ok X G c) (⟨_, glo_ok X G (c.fact 64 (b := (Fa.glo "Form").ok K)), rfl⟩ : Gv mg "Form" (.ref (cs K).CF))
  have h_require_six : Cal P w K mg base 3 "require_six" (sp_require_six (cs K)) := c_require_six (D_require_six X G c) (kc_ok c) (t_ok X G c) oL
  have h_spelled : Cal P w K mg base 1 "_law_spelled" sp_spelled := c_spelled (D__law_spelled X G c) (t_ok X G c)
  have h_plain : Cal P w K mg base 4 "_law_plain" sp_plain := c_plain (D__law_plain X G c) (t_ok X G c) h_lot h_trimmed
  have h_explored : Cal P w K mg base 2 "explored" (sp_explored (cs K)) := c_explored (D_explored X G c) (kc_ok c) (t_ok X G c) h_begun h_moves_at h_is_end
  obtain ⟨flg, Flg⟩ := c.def_ 60 (d := ⟨fun K => getr K (ga K "Rings") "longest", "longest", "Rings.longest", (inClass (top 56) 6)⟩)
  have oX : ∀ C ∈ [(cs K).CR], OwnP P w K mg base 2 C "longest" (sp_longest (cs K)) := one (ownp_of (c.fact 112 (b := propB K (ga K "Rings") "longest")) (f_longest Flg (kc_ok c) (t_ok X G c) h_leads_to))
  have k_MadeForm : CalC P w K mg base 1 "MadeForm" (cs K).CM (sp_MadeForm (cs K)) := calc_of h_MadeForm_init (c.fact 69 (b := mkB K (ga K "MadeForm"))) (glo_ok X G (c.fact 65 (b := (Fa.glo "MadeForm").ok K)))
  have k_Quotient : CalC P w K mg base 1 "Quotient" (cs K).CQ (sp_Quotient (cs K)) := calc_of h_Quotient_init (c.fact 70 (b := mkB K (ga K "Quotient"))) (glo_ok X G (c.fact 66 (b := (Fa.glo "Quotient").ok K)))
  have oN : ∀ C ∈ [(cs K).CR], Own P w K mg base 1 C "__len__" (sp_Rings_len (cs K)) := one h_Rings_len.own
  have h_is_among : Cal P w K mg base 2 "is_among" sp_is_among := c_is_among (D_is_among X G c) (t_ok X G c) h_is_integer
  have h_Rings_in : CalM P w K mg base 3 (cs K).CR "__contains__" (sp_Rings_in (cs K)) := c_Rings_in (M_Rings___contains__ c) (kc_ok c) h_is_among
  have h_Rings_at : CalM P w K mg base 2 (cs K).CR "__getitem__" (sp_Rings_at (cs K)) := c_Rings_at (M_Rings___getitem__ c) (kc_ok c) (t_ok X G c) h_is_integer
  have h_require_state : Cal P w K mg base 3 "require_state" (sp_require_state (cs K)) := c_require_state (D_require_state X G c) (t_ok X G c) oL h_is_integer
  have h_Rings_init : CalM P w K mg base 3 (cs K).CR "__init__" (sp_Rings (cs K)) := c_Rings_init (M_Rings___init__ c) (kc_ok c) (t_ok X G c) oL h_require_form h_states_from h_all_parts h_has_move
  have h_made_form : Cal P w K mg base 3 "made_form" (sp_made_form (cs K)) := c_made_form (D_made_form X G c) (kc_ok c) (t_ok X G c) h_classes_of h_explored k_Quotient k_MadeForm
  have h_loops : CalGM P w K mg base 12 (cs K).CR "loops" (sp_loops (cs K)) := c_loops (M_Rings_loops c) (kc_ok c) (t_ok X G c) h_require_state h_is_integer h_ways_back hW
  have h_turned : Cal P w K mg base 3 "_law_turned" sp_turned := c_turned (D__law_turned X G c) (t_ok X G c) h_lot h_some
  have h_are_useful : Cal P w K mg base 2 "are_useful" sp_are_useful := c_are_useful (D_are_useful X G c) (t_ok X G c) h_useful_states
  have h_are_states : Cal P w K mg base 3 "are_states" sp_are_states := c_are_states (D_are_states X G c) (t_ok X G c) h_is_state h_are_useful
  have h_Form_init : CalM P w K mg base 4 (cs K).CF "__init__" (sp_Form (cs K)) := c_Form_init (M_Form___init__ c) (kc_ok c) h_are_states h_in_order
  have k_Form : CalC P w K mg base 4 "Form" (cs K).CF (sp_Form (cs K)) := calc_of h_Form_init (c.fact 68 (b := mkB K (ga K "Form"))) (glo_ok X G (c.fact 64 (b := (Fa.glo "Form").ok K)))
  have k_Rings : CalC P w K mg base 3 "Rings" (cs K).CR (sp_Rings (cs K)) := calc_of h_Rings_init (c.fact 71 (b := mkB K (ga K "Rings"))) (glo_ok X G (c.fact 67 (b := (Fa.glo "Rings").ok K)))
  have h_least : CalM P w K mg base 4 (cs K).CF "least" (sp_least (cs K)) := c_least (M_Form_least c) (kc_ok c) h_made_form
  have oC : ∀ C ∈ [(cs K).CR], Own P w K mg base 3 C "__contains__" (sp_Rings_in (cs K)) := one h_Rings_in.own
  have oG : OwnG P w K mg base 2 (cs K).CR (sp_Rings_at (cs K)) := owng_of (M_Rings___getitem__ c) h_Rings_at
  have h_reads : CalM P w K mg base 4 (cs K).CR "reads" (sp_reads (cs K)) := c_reads (M_Rings_reads c) (kc_ok c) (t_ok X G c) oC h_is_word h_read_on
  have h_require_rings : Cal P w K mg base 5 "require_rings" (sp_require_rings (cs K)) := c_require_rings (D_require_rings X G c) oC h_require_form h_require_six k_Rings
  have h_loops_right : Cal P w K mg base 16 "_law_loops_right" (sp_loops_right (cs K)) := c_loops_right (D__law_loops_right X G c) (kc_ok c) (t_ok X G c) h_lot h_one h_some k_Rings oN oG h_loops h_reads
  have h_made : Cal P w K mg base 6 "_law_made" (sp_made (cs K)) := c_made (D__law_made X G c) (t_ok X G c) k_Form
  have h_lacking_piece : Cal P w K mg base 6 "lacking_piece" (sp_lacking_piece (cs K)) := c_lacking_piece (D_lacking_piece X G c) h_require_rings h_first_lack
  have h_covers : Cal P w K mg base 6 "covers" (sp_covers (cs K)) := c_covers (D_covers X G c) h_require_rings h_first_lack
  have h_alike : Cal P w K mg base 7 "_law_alike" sp_alike := c_alike (D__law_alike X G c) (t_ok X G c) h_made h_spelled h_lacking_piece k_Rings oR oX
  have h_goes_on : Cal P w K mg base 7 "_law_goes_on" (sp_goes_on (cs K)) := c_goes_on (D__law_goes_on X G c) (t_ok X G c) h_covers
  have h_least_right : Cal P w K mg base 7 "_law_least_right" (sp_least_right (cs K)) := c_least_right (D__law_least_right X G c) (kc_ok c) (t_ok X G c) h_least k_Rings oR h_covers
  exact f_law F (t_ok X G c) h_lots h_plain h_made k_Rings oR h_loops_right h_least_right h_goes_on h_one h_turned h_alike
theorem facts (X : K.In h) (G : h.Ns mainGlobals mg) (c : SaysE fa fn K) {f : Addr} (hfa : mg ("law" : Str) = some (.ref f)) :
    ∃ fd : FuncData, (∀ (s : Shared) (v : Value), BindsTo s fd ⟨[v], []⟩ [("_law_script", v)]) ∧ ∀ base : Heap, K.In base → base.Ns mainGlobals mg → FnOk P w K mg base CX0 17 f fd ["_law_script"] (sp_law K) := by
  obtain ⟨fd, F⟩ := c.def_ 38 (d := ⟨fun K => ga K "law", "law", "law", (top 79)⟩)
  have e := hfa.symm.trans (glo_ok X G (c.fact 63 (b := (Fa.glo "law").ok K)))
  cases e
  have b := FunD.bindsA (ps := ["_law_script"]) F fun _ _ _ _ _ _ us hl => match us, hl with | [_], _ => rfl
  exact ⟨fd, fun s v => b s [v] rfl, fun base _ _ => law_ok X G c F⟩
end
end Zh
end
section
set_option Elab.async false
set_option linter.all false
set_option maxRecDepth 100000
set_option maxHeartbeats 0
/-! Zh4: the end. -/
open PySem PySem.W PySem.Calls PyProof.Rows
theorem PySem.Challenge.cw_mendnumber_k42_whole_rings_under_changes_holds : PySem.Challenge.rw_mendnumber_k42_whole_rings_under_changes.Holds := by
  w_on; o_law
  refine HandSHeadRun.head_any (r := OpenLaw.row PySem.Challenge.rw_mendnumber_k42_whole_rings_under_changes) (q := view (OpenLaw.row PySem.Challenge.rw_mendnumber_k42_whole_rings_under_changes).prog [79]) (H := Zh.hk) (ob := Zh.ob) (M := 8000) (loose := Zh.names) (d := HandSHeadRun.topDef (OpenLaw.row PySem.Challenge.rw_mendnumber_k42_whole_rings_under_changes).prog 79) (kwd := []) Zh.ob_eq
    (by kernel_rfl) (fun s => by kernel_rfl) Zh.run (by kernel_rfl) (by kernel_rfl) (by kernel_rfl) (by rfl) (by first | assumption | decide +kernel) (by decide +kernel) ⟨rfl, rfl, rfl, rfl, rfl, by decide +kernel⟩ ?hw ?hc
  case hw => w_witness2
  case hc =>
    refine L2.walk_ofE (l := PySem.Challenge.rw_mendnumber_k42_whole_rings_under_changes) (n := 63) (k := 17) (x := "_law_script") (CX := L2.CX0) rfl (by decide) (by kernel_rfl) ⟨rfl, by decide, by decide⟩ ?F (fun _ _ _ _ z => z)
    intro w mg fa h Y G hmg0
    obtain ⟨K, KX, c⟩ := Y
    have hmg : mg ("law" : PySem.Str) = some (.ref fa) := by
      have e : (HandSHeadRun.topDef (OpenLaw.row PySem.Challenge.rw_mendnumber_k42_whole_rings_under_changes).prog 79).name = ("law" : PySem.Str) := by kernel_rfl
      rw [← e]
      exact hmg0
    obtain ⟨fd, hb, hF⟩ := Zh.facts (P := (PySem.Challenge.rw_mendnumber_k42_whole_rings_under_changes).prog) (w := w) KX G c hmg
    exact ⟨K, fd, Zb.sp_law K, KX, hb, fun H a ns hl _ hS => ⟨a, ns, rfl, Nat.le_trans hl (by decide), hS, fun _ => rfl⟩, hF⟩
end
