import PyProof.Rows.All
import Wide.All
import OpenK.AllK
import Wide.FinOn
import KE.KStateDown
import KE.KDictKeyed
import KE.SortData
import KE.GoesZip
import PyProof.InstNe
import Lean
import HandS.ForMost
import HandS.Deep
import HandS.SortInts
import HandS.Set
import HandS.SetFor
import HandS.Strs
import HandS.TupAny
import HandS.Conv
import HandS.IsInst
import HandS.Style
import HandS.OwnEq
import HandS.Flow
import HandS.Defaults
import HandS.Head0
import HandS.Head1
import HandS.Head2
import HandS.HeadEnd
import HandS.HeadHook1
import HandS.HeadHook2
import KE.GoesMore
import KE.DatumOrd
import HandS.Walk
import PySem.Challenge.RW_gameworths_k84_whole_least_forms
set_option Elab.async false
set_option linter.all false
set_option maxRecDepth 100000
set_option maxHeartbeats 0
/-! M1: plays as trees; which is at least which; least forms are one. -/
namespace M84

inductive Gm where
  | mk (l r : List Gm)

def Gm.l : Gm → List Gm
  | .mk l _ => l
def Gm.r : Gm → List Gm
  | .mk _ r => r
theorem Gm.eta (g : Gm) : g = .mk g.l g.r := by cases g; rfl
/-- the moves of a side: 0 ours, 1 theirs -/
def Gm.opt (b : Bool) (g : Gm) : List Gm := if b then g.r else g.l
def zero : Gm := .mk [] []

theorem szl {g x : Gm} (h : x ∈ g.l) : sizeOf x < sizeOf g := by
  cases g with
  | mk l r =>
    have h1 : sizeOf x < sizeOf l := List.sizeOf_lt_of_mem h
    have h2 : sizeOf (Gm.mk l r) = 1 + sizeOf l + sizeOf r := by simp
    omega
theorem szr {g x : Gm} (h : x ∈ g.r) : sizeOf x < sizeOf g := by
  cases g with
  | mk l r =>
    have h1 : sizeOf x < sizeOf r := List.sizeOf_lt_of_mem h
    have h2 : sizeOf (Gm.mk l r) = 1 + sizeOf l + sizeOf r := by simp
    omega

/-- g is at least h -/
def ge (g h : Gm) : Prop := (∀ x, (hx : x ∈ g.r) → ¬ ge h x) ∧ (∀ y, (hy : y ∈ h.l) → ¬ ge y g)
termination_by sizeOf g + sizeOf h
decreasing_by
  · have := szr hx; omega
  · have := szl hy; omega
theorem ge_iff {g h : Gm} : ge g h ↔ (∀ x ∈ g.r, ¬ ge h x) ∧ (∀ y ∈ h.l, ¬ ge y g) := by
  rw [ge.eq_1]
theorem nge_iff {g h : Gm} : ¬ ge g h ↔ (∃ x ∈ g.r, ge h x) ∨ (∃ y ∈ h.l, ge y g) := by
  rw [ge_iff, Classical.not_and_iff_not_or_not]
  simp only [Classical.not_forall, Classical.not_not]
  constructor
  · rintro (⟨x, hx, h⟩ | ⟨x, hx, h⟩)
    · exact .inl ⟨x, hx, h⟩
    · exact .inr ⟨x, hx, h⟩
  · rintro (⟨x, hx, h⟩ | ⟨x, hx, h⟩)
    · exact .inl ⟨x, hx, h⟩
    · exact .inr ⟨x, hx, h⟩

theorem ind (P : Gm → Prop) (h : ∀ g, (∀ x ∈ g.l, P x) → (∀ x ∈ g.r, P x) → P g) : ∀ g, P g := by
  have key : ∀ n : Nat, ∀ g : Gm, sizeOf g < n → P g := by
    intro n
    induction n with
    | zero => intro g hg; omega
    | succ n ih =>
      intro g hg
      exact h g (fun x hx => ih x (by have := szl hx; omega)) (fun x hx => ih x (by have := szr hx; omega))
  exact fun g => key _ g (Nat.lt_succ_self _)

theorem ge_refl : ∀ g, ge g g := by
  refine ind _ fun g hl hr => ?_
  rw [ge_iff]
  refine ⟨fun x hx q => ?_, fun y hy q => ?_⟩
  · exact (ge_iff.mp q).2 |> fun z => (ge_iff.mp q).1 x hx (hr x hx)
  · exact (ge_iff.mp q).2 y hy (hl y hy)
/-- a move of theirs is not at most .., a move of ours not at least -/
theorem not_ge_r {g x : Gm} (h : x ∈ g.r) : ¬ ge g x := (ge_iff.mp (ge_refl g)).1 x h
theorem not_ge_l {g x : Gm} (h : x ∈ g.l) : ¬ ge x g := (ge_iff.mp (ge_refl g)).2 x h
theorem ge_trans_n : ∀ n : Nat, ∀ a b c : Gm, sizeOf a + sizeOf b + sizeOf c < n → ge a b → ge b c → ge a c := by
  intro n
  induction n with
  | zero => intro a b c h; omega
  | succ n ih =>
    intro a b c hn hab hbc
    rw [ge_iff]
    refine ⟨fun x hx q => ?_, fun y hy q => ?_⟩
    · -- x in a.r, c >= x; then b >= x
      have : ge b x := ih b c x (by have := szr hx; omega) hbc q
      exact (ge_iff.mp hab).1 x hx this
    · have : ge y b := ih y a b (by have := szl hy; omega) q hab
      exact (ge_iff.mp hbc).2 y hy this
theorem ge_trans {a b c : Gm} (h : ge a b) (k : ge b c) : ge a c := ge_trans_n _ a b c (Nat.lt_succ_self _) h k
/-- the same -/
def sm (g h : Gm) : Prop := ge g h ∧ ge h g
theorem sm.refl (g : Gm) : sm g g := ⟨ge_refl g, ge_refl g⟩
theorem sm.symm {g h : Gm} (s : sm g h) : sm h g := ⟨s.2, s.1⟩
theorem sm.trans {a b c : Gm} (h : sm a b) (k : sm b c) : sm a c := ⟨ge_trans h.1 k.1, ge_trans k.2 h.2⟩
/-- each move of the one is the same as one of the other -/
theorem sm_of {g h : Gm} (l1 : ∀ x ∈ g.l, ∃ y ∈ h.l, sm x y) (l2 : ∀ y ∈ h.l, ∃ x ∈ g.l, sm x y) (r1 : ∀ x ∈ g.r, ∃ y ∈ h.r, sm x y) (r2 : ∀ y ∈ h.r, ∃ x ∈ g.r, sm x y) : sm g h := by
  constructor
  · rw [ge_iff]
    refine ⟨fun x hx q => ?_, fun y hy q => ?_⟩
    · obtain ⟨y, hy, s⟩ := r1 x hx
      exact not_ge_r hy (ge_trans q s.1)
    · obtain ⟨x, hx, s⟩ := l2 y hy
      exact not_ge_l hx (ge_trans s.1 q)
  · rw [ge_iff]
    refine ⟨fun x hx q => ?_, fun y hy q => ?_⟩
    · obtain ⟨y, hy, s⟩ := r2 x hx
      exact not_ge_r hy (ge_trans q s.2)
    · obtain ⟨x, hx, s⟩ := l1 y hy
      exact not_ge_l hx (ge_trans s.2 q)

/-! ### equal heaps -/
def eqv (g h : Gm) : Prop :=
  (∀ x, (hx : x ∈ g.l) → ∃ y, ∃ hy : y ∈ h.l, eqv x y) ∧ (∀ y, (hy : y ∈ h.l) → ∃ x, ∃ hx : x ∈ g.l, eqv x y) ∧
  (∀ x, (hx : x ∈ g.r) → ∃ y, ∃ hy : y ∈ h.r, eqv x y) ∧ (∀ y, (hy : y ∈ h.r) → ∃ x, ∃ hx : x ∈ g.r, eqv x y)
termination_by sizeOf g + sizeOf h
decreasing_by
  · have := szl hx; have := szl hy; omega
  · have := szl hx; have := szl hy; omega
  · have := szr hx; have := szr hy; omega
  · have := szr hx; have := szr hy; omega
theorem eqv_iff {g h : Gm} : eqv g h ↔ (∀ x ∈ g.l, ∃ y ∈ h.l, eqv x y) ∧ (∀ y ∈ h.l, ∃ x ∈ g.l, eqv x y) ∧ (∀ x ∈ g.r, ∃ y ∈ h.r, eqv x y) ∧ (∀ y ∈ h.r, ∃ x ∈ g.r, eqv x y) := by
  rw [eqv.eq_1]
  simp only [exists_prop]
theorem eqv.refl : ∀ g, eqv g g := ind _ fun g hl hr => by
  rw [eqv_iff]
  exact ⟨fun x hx => ⟨x, hx, hl x hx⟩, fun x hx => ⟨x, hx, hl x hx⟩, fun x hx => ⟨x, hx, hr x hx⟩, fun x hx => ⟨x, hx, hr x hx⟩⟩
theorem eqv.symm : ∀ {g h : Gm}, eqv g h → eqv h g := by
  have key : ∀ g, ∀ h, eqv g h → eqv h g := by
    refine ind _ fun g hl hr => fun h e => ?_
    obtain ⟨e1, e2, e3, e4⟩ := eqv_iff.mp e
    rw [eqv_iff]
    refine ⟨fun x hx => ?_, fun x hx => ?_, fun x hx => ?_, fun x hx => ?_⟩
    · obtain ⟨y, hy, q⟩ := e2 x hx
      exact ⟨y, hy, hl y hy x q⟩
    · obtain ⟨y, hy, q⟩ := e1 x hx
      exact ⟨y, hy, hl x hx y q⟩
    · obtain ⟨y, hy, q⟩ := e4 x hx
      exact ⟨y, hy, hr y hy x q⟩
    · obtain ⟨y, hy, q⟩ := e3 x hx
      exact ⟨y, hy, hr x hx y q⟩
  exact fun {g h} e => key g h e
theorem eqv.trans : ∀ {a b c : Gm}, eqv a b → eqv b c → eqv a c := by
  have key : ∀ a, ∀ b c, eqv a b → eqv b c → eqv a c := by
    refine ind _ fun a hl hr => fun b c e f => ?_
    obtain ⟨e1, e2, e3, e4⟩ := eqv_iff.mp e
    obtain ⟨f1, f2, f3, f4⟩ := eqv_iff.mp f
    rw [eqv_iff]
    refine ⟨fun x hx => ?_, fun x hx => ?_, fun x hx => ?_, fun x hx => ?_⟩
    · obtain ⟨y, hy, q⟩ := e1 x hx
      obtain ⟨z, hz, q'⟩ := f1 y hy
      exact ⟨z, hz, hl x hx y z q q'⟩
    · obtain ⟨y, hy, q⟩ := f2 x hx
      obtain ⟨z, hz, q'⟩ := e2 y hy
      exact ⟨z, hz, hl z hz y x q' q⟩
    · obtain ⟨y, hy, q⟩ := e3 x hx
      obtain ⟨z, hz, q'⟩ := f3 y hy
      exact ⟨z, hz, hr x hx y z q q'⟩
    · obtain ⟨y, hy, q⟩ := f4 x hx
      obtain ⟨z, hz, q'⟩ := e4 y hy
      exact ⟨z, hz, hr z hz y x q' q⟩
  exact fun {a b c} e f => key a b c e f
theorem eqv.sm : ∀ {g h : Gm}, eqv g h → sm g h := by
  have key : ∀ g, ∀ h, eqv g h → M84.sm g h := by
    refine ind _ fun g hl hr => fun h e => ?_
    obtain ⟨e1, e2, e3, e4⟩ := eqv_iff.mp e
    refine sm_of (fun x hx => ?_) (fun x hx => ?_) (fun x hx => ?_) (fun x hx => ?_)
    · obtain ⟨y, hy, q⟩ := e1 x hx
      exact ⟨y, hy, hl x hx y q⟩
    · obtain ⟨y, hy, q⟩ := e2 x hx
      exact ⟨y, hy, hl y hy x q⟩
    · obtain ⟨y, hy, q⟩ := e3 x hx
      exact ⟨y, hy, hr x hx y q⟩
    · obtain ⟨y, hy, q⟩ := e4 x hx
      exact ⟨y, hy, hr y hy x q⟩
  exact fun {g h} e => key g h e

/-! ### least forms -/
/-- no two places of a list bear .. -/
def Apart (R : Gm → Gm → Prop) (xs : List Gm) : Prop := ∀ (i j : Nat) x y, xs[i]? = some x → xs[j]? = some y → i ≠ j → ¬ R x y
/-- no move is needless, none has an answer that is no worse -/
structure Lf (g : Gm) : Prop where
  al : Apart ge g.l
  ar : Apart ge g.r
  bl : ∀ x ∈ g.l, ∀ y ∈ x.r, ¬ ge g y
  br : ∀ x ∈ g.r, ∀ y ∈ x.l, ¬ ge y g
/-- .. at any depth -/
inductive Below : Gm → Gm → Prop
  | here (g : Gm) : Below g g
  | left {g x y : Gm} : x ∈ g.l → Below y x → Below y g
  | right {g x y : Gm} : x ∈ g.r → Below y x → Below y g
def Can (g : Gm) : Prop := ∀ x, Below x g → Lf x
theorem Can.l {g x : Gm} (c : Can g) (h : x ∈ g.l) : Can x := fun y b => c y (.left h b)
theorem Can.r {g x : Gm} (c : Can g) (h : x ∈ g.r) : Can x := fun y b => c y (.right h b)
theorem Can.of {g : Gm} (h : Lf g) (hl : ∀ x ∈ g.l, Can x) (hr : ∀ x ∈ g.r, Can x) : Can g := fun y b => by
  cases b with
  | here => exact h
  | left k b => exact hl _ k y b
  | right k b => exact hr _ k y b
theorem Below.trans {x y z : Gm} (a : Below x y) (b : Below y z) : Below x z := by
  induction b with
  | here => exact a
  | left h _ ih => exact .left h (ih a)
  | right h _ ih => exact .right h (ih a)

theorem idx {xs : List Gm} {x : Gm} (h : x ∈ xs) : ∃ i : Nat, xs[i]? = some x := by
  obtain ⟨i, hi, e⟩ := List.mem_iff_getElem.mp h
  exact ⟨i, by rw [List.getElem?_eq_getElem hi, e]⟩
/-- THERE IS JUST ONE: least forms that are the same are equal -/
theorem one_form : ∀ g, ∀ h, Can g → Can h → sm g h → eqv g h := by
  refine ind _ fun g hl hr => fun h cg ch s => ?_
  have G := cg g (.here g)
  have Hh := ch h (.here h)
  -- a move of ours in g has a better one in h
  have up : ∀ (a b : Gm), ge b a → (∀ x ∈ a.l, ∀ y ∈ x.r, ¬ ge a y) → ge a b → ∀ x ∈ a.l, ∃ y ∈ b.l, ge y x := by
    intro a b hba bl hab x hx
    have n := (ge_iff.mp hba).2 x hx
    rcases nge_iff.mp n with ⟨y, hy, q⟩ | ⟨y, hy, q⟩
    · exact absurd (ge_trans hab q) (bl x hx y hy)
    · exact ⟨y, hy, q⟩
  have dn : ∀ (a b : Gm), ge a b → (∀ x ∈ a.r, ∀ y ∈ x.l, ¬ ge y a) → ge b a → ∀ x ∈ a.r, ∃ y ∈ b.r, ge x y := by
    intro a b hab br hba x hx
    have n := (ge_iff.mp hab).1 x hx
    rcases nge_iff.mp n with ⟨y, hy, q⟩ | ⟨y, hy, q⟩
    · exact ⟨y, hy, q⟩
    · exact absurd (ge_trans q hba) (br x hx y hy)
  have lft : ∀ (a b : Gm), sm a b → Lf a → Lf b → ∀ x ∈ a.l, ∃ y ∈ b.l, sm x y := by
    intro a b s A B x hx
    obtain ⟨y, hy, q⟩ := up a b s.2 A.bl s.1 x hx
    obtain ⟨z, hz, q'⟩ := up b a s.1 B.bl s.2 y hy
    obtain ⟨i, hi⟩ := idx hx
    obtain ⟨j, hj⟩ := idx hz
    by_cases e : j = i
    · subst e
      have : x = z := Option.some.inj (hi.symm.trans hj)
      subst this
      exact ⟨y, hy, q', q⟩
    · exact absurd (ge_trans q' q) (A.al j i z x hj hi e)
  have rgt : ∀ (a b : Gm), sm a b → Lf a → Lf b → ∀ x ∈ a.r, ∃ y ∈ b.r, sm x y := by
    intro a b s A B x hx
    obtain ⟨y, hy, q⟩ := dn a b s.1 A.br s.2 x hx
    obtain ⟨z, hz, q'⟩ := dn b a s.2 B.br s.1 y hy
    obtain ⟨i, hi⟩ := idx hx
    obtain ⟨j, hj⟩ := idx hz
    by_cases e : i = j
    · subst e
      have : x = z := Option.some.inj (hi.symm.trans hj)
      subst this
      exact ⟨y, hy, q, q'⟩
    · exact absurd (ge_trans q q') (A.ar i j x z hi hj e)
  rw [eqv_iff]
  refine ⟨fun x hx => ?_, fun x hx => ?_, fun x hx => ?_, fun x hx => ?_⟩
  · obtain ⟨y, hy, q⟩ := lft g h s G Hh x hx
    exact ⟨y, hy, hl x hx y (cg.l hx) (ch.l hy) q⟩
  · obtain ⟨y, hy, q⟩ := lft h g s.symm Hh G x hx
    exact ⟨y, hy, hl y hy x (cg.l hy) (ch.l hx) q.symm⟩
  · obtain ⟨y, hy, q⟩ := rgt g h s G Hh x hx
    exact ⟨y, hy, hr x hx y (cg.r hx) (ch.r hy) q⟩
  · obtain ⟨y, hy, q⟩ := rgt h g s.symm Hh G x hx
    exact ⟨y, hy, hr y hy x (cg.r hy) (ch.r hx) q.symm⟩
/-- a heap without equal moves at any depth that is equal to a least form is one -/
def Dis (g : Gm) : Prop := ∀ x, Below x g → Apart eqv x.l ∧ Apart eqv x.r
theorem can_of_eqv : ∀ g, ∀ h, Dis g → eqv g h → Can h → Can g := by
  refine ind _ fun g hl hr => fun h d e ch => ?_
  obtain ⟨e1, e2, e3, e4⟩ := eqv_iff.mp e
  have Hh := ch h (.here h)
  obtain ⟨dl, dr⟩ := d g (.here g)
  refine Can.of ⟨?_, ?_, ?_, ?_⟩ (fun x hx => ?_) (fun x hx => ?_)
  · intro i j x y hi hj ne q
    obtain ⟨x', hx', ex⟩ := e1 x (List.mem_of_getElem? hi)
    obtain ⟨y', hy', ey⟩ := e1 y (List.mem_of_getElem? hj)
    obtain ⟨a, ha⟩ := idx hx'
    obtain ⟨b, hb⟩ := idx hy'
    have q' : ge x' y' := ge_trans ex.sm.2 (ge_trans q ey.sm.1)
    by_cases eab : a = b
    · subst eab
      have : x' = y' := Option.some.inj (ha.symm.trans hb)
      subst this
      exact dl i j x y hi hj ne (ex.trans ey.symm)
    · exact Hh.al a b x' y' ha hb eab q'
  · intro i j x y hi hj ne q
    obtain ⟨x', hx', ex⟩ := e3 x (List.mem_of_getElem? hi)
    obtain ⟨y', hy', ey⟩ := e3 y (List.mem_of_getElem? hj)
    obtain ⟨a, ha⟩ := idx hx'
    obtain ⟨b, hb⟩ := idx hy'
    have q' : ge x' y' := ge_trans ex.sm.2 (ge_trans q ey.sm.1)
    by_cases eab : a = b
    · subst eab
      have : x' = y' := Option.some.inj (ha.symm.trans hb)
      subst this
      exact dr i j x y hi hj ne (ex.trans ey.symm)
    · exact Hh.ar a b x' y' ha hb eab q'
  · intro x hx y hy q
    obtain ⟨x', hx', ex⟩ := e1 x hx
    obtain ⟨y', hy', ey⟩ := (eqv_iff.mp ex).2.2.1 y hy
    exact Hh.bl x' hx' y' hy' (ge_trans e.sm.2 (ge_trans q ey.sm.1))
  · intro x hx y hy q
    obtain ⟨x', hx', ex⟩ := e3 x hx
    obtain ⟨y', hy', ey⟩ := (eqv_iff.mp ex).1 y hy
    exact Hh.br x' hx' y' hy' (ge_trans ey.sm.2 (ge_trans q e.sm.1))
  · obtain ⟨y, hy, q⟩ := e1 x hx
    exact hl x hx y (fun z b => d z (.left hx b)) q (ch.l hy)
  · obtain ⟨y, hy, q⟩ := e3 x hx
    exact hr x hx y (fun z b => d z (.right hx b)) q (ch.r hy)
theorem Can.dis {g : Gm} (c : Can g) : Dis g := fun x b => ⟨fun i j y z hi hj ne q => (c x b).al i j y z hi hj ne q.sm.1, fun i j y z hi hj ne q => (c x b).ar i j y z hi hj ne q.sm.1⟩

/-! ### moves with answers, needless moves -/
/-- what F and F' must be so that {F | F'} is the same as g -/
inductive CovL (g : Gm) (F : List Gm) : Gm → Prop
  | keep {x : Gm} : x ∈ F → CovL g F x
  | round {x y : Gm} : y ∈ x.r → ge g y → (∀ z ∈ y.l, CovL g F z) → CovL g F x
inductive CovR (g : Gm) (F : List Gm) : Gm → Prop
  | keep {x : Gm} : x ∈ F → CovR g F x
  | round {x y : Gm} : y ∈ x.l → ge y g → (∀ z ∈ y.r, CovR g F z) → CovR g F x
theorem led_same {g : Gm} {F F' : List Gm} (hF : ∀ x ∈ F, ¬ ge x g) (hF' : ∀ x ∈ F', ¬ ge g x) (cl : ∀ x ∈ g.l, CovL g F x) (cr : ∀ x ∈ g.r, CovR g F' x) : sm g (.mk F F') := by
  have A : ∀ x, CovL g F x → ¬ ge x (.mk F F') := by
    intro x c
    induction c with
    | keep h => exact not_ge_l (g := .mk F F') h
    | @round x y hy hg _ ih =>
      intro q
      have n := (ge_iff.mp q).1 y hy
      rcases nge_iff.mp n with ⟨z, hz, k⟩ | ⟨z, hz, k⟩
      · exact hF' z hz (ge_trans hg k)
      · exact ih z hz k
  have B : ∀ x, CovR g F' x → ¬ ge (.mk F F') x := by
    intro x c
    induction c with
    | keep h => exact not_ge_r (g := .mk F F') h
    | @round x y hy hg _ ih =>
      intro q
      have n := (ge_iff.mp q).2 y hy
      rcases nge_iff.mp n with ⟨z, hz, k⟩ | ⟨z, hz, k⟩
      · exact ih z hz k
      · exact hF z hz (ge_trans k hg)
  constructor
  · rw [ge_iff]
    exact ⟨fun x hx => B x (cr x hx), fun y hy => hF y hy⟩
  · rw [ge_iff]
    exact ⟨fun x hx => hF' x hx, fun y hy => A y (cl y hy)⟩
theorem needed_same {F F' N N' : List Gm} (sl : ∀ x ∈ N, x ∈ F) (sr : ∀ x ∈ N', x ∈ F') (l : ∀ x ∈ F, ∃ y ∈ N, ge y x) (r : ∀ x ∈ F', ∃ y ∈ N', ge x y) : sm (.mk F F') (.mk N N') := by
  constructor
  · rw [ge_iff]
    refine ⟨fun x hx q => ?_, fun y hy => not_ge_l (g := .mk F F') (sl y hy)⟩
    obtain ⟨y, hy, k⟩ := r x hx
    exact not_ge_r (g := .mk N N') hy (ge_trans q k)
  · rw [ge_iff]
    refine ⟨fun x hx => not_ge_r (g := .mk F F') (sr x hx), fun y hy q => ?_⟩
    obtain ⟨z, hz, k⟩ := l y hy
    exact not_ge_l (g := .mk N N') hz (ge_trans k q)
end M84

/-! M2: rows of moves, what the program's functions reckon of them. -/
namespace M84
abbrev Rw := List Nat × List Nat

/-! ### ascending lists without doubles -/
def ins (x : Nat) : List Nat → List Nat
  | [] => [x]
  | y :: ys => if x < y then x :: y :: ys else if x = y then y :: ys else y :: ins x ys
def uniq (l : List Nat) : List Nat := l.foldr ins []
abbrev Asc (l : List Nat) : Prop := l.Pairwise (· < ·)
theorem mem_ins {x z : Nat} : ∀ {l : List Nat}, z ∈ ins x l ↔ z = x ∨ z ∈ l
  | [] => by simp [ins]
  | y :: ys => by
    unfold ins
    split
    · simp
    · split
      · rename_i h; subst h; simp
      · simp only [List.mem_cons, mem_ins (l := ys)]
        constructor
        · rintro (h | h | h) <;> simp [h]
        · rintro (h | h | h) <;> simp [h]
theorem asc_ins {x : Nat} : ∀ {l : List Nat}, Asc l → Asc (ins x l)
  | [], _ => by simp [ins, Asc]
  | y :: ys, h => by
    unfold ins
    have h' := List.pairwise_cons.mp h
    split
    · rename_i hxy
      refine List.pairwise_cons.mpr ⟨fun z hz => ?_, h⟩
      rcases List.mem_cons.mp hz with e | e
      · rw [e]; exact hxy
      · exact Nat.lt_trans hxy (h'.1 z e)
    · split
      · exact h
      · refine List.pairwise_cons.mpr ⟨fun z hz => ?_, asc_ins h'.2⟩
        rcases mem_ins.mp hz with e | e
        · rw [e]; omega
        · exact h'.1 z e
theorem mem_uniq {z : Nat} : ∀ {l : List Nat}, z ∈ uniq l ↔ z ∈ l
  | [] => by simp [uniq]
  | y :: ys => by
    show z ∈ ins y (uniq ys) ↔ _
    rw [mem_ins, mem_uniq (l := ys), List.mem_cons]
theorem asc_uniq : ∀ l : List Nat, Asc (uniq l)
  | [] => .nil
  | y :: ys => asc_ins (asc_uniq ys)
theorem asc_ext : ∀ {a b : List Nat}, Asc a → Asc b → (∀ z, z ∈ a ↔ z ∈ b) → a = b
  | [], [], _, _, _ => rfl
  | [], y :: ys, _, _, h => by have := (h y).mpr (List.mem_cons_self ..); simp at this
  | x :: xs, [], _, _, h => by have := (h x).mp (List.mem_cons_self ..); simp at this
  | x :: xs, y :: ys, ha, hb, h => by
    have ha' := List.pairwise_cons.mp ha
    have hb' := List.pairwise_cons.mp hb
    have e : x = y := by
      have h1 := (h x).mp (List.mem_cons_self ..)
      have h2 := (h y).mpr (List.mem_cons_self ..)
      rcases List.mem_cons.mp h1 with e | e
      · exact e
      · rcases List.mem_cons.mp h2 with e2 | e2
        · exact e2.symm
        · have := hb'.1 x e; have := ha'.1 y e2; omega
    subst e
    have : xs = ys := asc_ext ha'.2 hb'.2 fun z => by
      constructor
      · intro hz
        rcases List.mem_cons.mp ((h z).mp (List.mem_cons_of_mem _ hz)) with e | e
        · have := ha'.1 z hz; omega
        · exact e
      · intro hz
        rcases List.mem_cons.mp ((h z).mpr (List.mem_cons_of_mem _ hz)) with e | e
        · have := hb'.1 z hz; omega
        · exact e
    rw [this]
theorem asc_nodup {l : List Nat} (h : Asc l) : l.Nodup := h.imp fun h => Nat.ne_of_lt h
theorem len_ins {x : Nat} : ∀ {l : List Nat}, (ins x l).length ≤ l.length + 1
  | [] => by simp [ins]
  | y :: ys => by
    unfold ins
    split
    · simp
    · split
      · simp
      · have := len_ins (x := x) (l := ys); simp; omega
theorem len_uniq : ∀ l : List Nat, (uniq l).length ≤ l.length
  | [] => by simp [uniq]
  | y :: ys => by
    have h1 : (uniq (y :: ys)).length ≤ (uniq ys).length + 1 := len_ins
    have := len_uniq ys
    simp; omega
theorem asc_len {n : Nat} : ∀ {l : List Nat} {m : Nat}, Asc l → (∀ x ∈ l, m ≤ x ∧ x < n) → l.length ≤ n - m
  | [], m, _, _ => by simp
  | x :: xs, m, h, hb => by
    have h' := List.pairwise_cons.mp h
    have hx := hb x (List.mem_cons_self ..)
    have := asc_len (m := x + 1) h'.2 fun y hy => ⟨h'.1 y hy, (hb y (List.mem_cons_of_mem _ hy)).2⟩
    simp; omega
theorem uniq_of_asc {l : List Nat} (h : Asc l) : uniq l = l := asc_ext (asc_uniq l) h fun z => mem_uniq
theorem uniq_congr {a b : List Nat} (h : ∀ z, z ∈ a ↔ z ∈ b) : uniq a = uniq b := asc_ext (asc_uniq a) (asc_uniq b) fun z => by rw [mem_uniq, mem_uniq]; exact h z
theorem mem_of_uniq_eq {a b : List Nat} (h : uniq a = uniq b) (z : Nat) : z ∈ a ↔ z ∈ b := by rw [← mem_uniq, ← mem_uniq (l := b), h]

/-! ### trees of rows -/
def Val (N : List Rw) : Prop := ∀ (k : Nat) (r : Rw), N[k]? = some r → (∀ x ∈ r.1, x < k) ∧ (∀ x ∈ r.2, x < k)
def zg : Gm := .mk [] []
def stepT (T : List Gm) (r : Rw) : Gm := .mk (r.1.map fun x => T.getD x zg) (r.2.map fun x => T.getD x zg)
def trees (N : List Rw) : List Gm := N.foldl (fun T r => T ++ [stepT T r]) []
def tr (N : List Rw) (k : Nat) : Gm := (trees N).getD k zg
theorem trees_snoc (N : List Rw) (r : Rw) : trees (N ++ [r]) = trees N ++ [stepT (trees N) r] := by
  unfold trees
  rw [List.foldl_append]
  rfl
theorem snoc_ind {α : Type} {P : List α → Prop} (h0 : P []) (h1 : ∀ l a, P l → P (l ++ [a])) : ∀ l, P l := by
  have key : ∀ l : List α, P l.reverse := by
    intro l
    induction l with
    | nil => exact h0
    | cons a l ih => rw [List.reverse_cons]; exact h1 _ _ ih
  intro l
  have := key l.reverse
  rwa [List.reverse_reverse] at this
theorem trees_len (N : List Rw) : (trees N).length = N.length := by
  refine snoc_ind (P := fun N => (trees N).length = N.length) rfl (fun N r ih => ?_) N
  rw [trees_snoc, List.length_append, List.length_append, ih]
  rfl
theorem tr_app (N M : List Rw) : ∀ k, k < N.length → tr (N ++ M) k = tr N k := by
  refine snoc_ind (P := fun M => ∀ k, k < N.length → tr (N ++ M) k = tr N k) (fun k _ => by rw [List.append_nil]) (fun M r ih k hk => ?_) M
  rw [← ih k hk, ← List.append_assoc]
  unfold tr
  rw [trees_snoc, List.getD_eq_getElem?_getD, List.getD_eq_getElem?_getD, List.getElem?_append_left (by rw [trees_len, List.length_append]; omega)]
theorem tr_last (N : List Rw) (r : Rw) : tr (N ++ [r]) N.length = .mk (r.1.map (tr N)) (r.2.map (tr N)) := by
  unfold tr
  rw [trees_snoc, List.getD_eq_getElem?_getD, List.getElem?_append_right (by rw [trees_len]; exact Nat.le_refl _), trees_len, Nat.sub_self]
  rfl
theorem val_snoc {N : List Rw} {r : Rw} (v : Val N) (h1 : ∀ x ∈ r.1, x < N.length) (h2 : ∀ x ∈ r.2, x < N.length) : Val (N ++ [r]) := by
  intro k q e
  by_cases hk : k < N.length
  · rw [List.getElem?_append_left hk] at e
    exact v k q e
  · rw [List.getElem?_append_right (by omega)] at e
    have : k - N.length = 0 := by
      have := (List.getElem?_eq_some_iff.mp e).1
      simp at this
      omega
    rw [this] at e
    have e' : r = q := by simpa using e
    subst e'
    have : k = N.length := by omega
    subst this
    exact ⟨h1, h2⟩
theorem val_pre {N M : List Rw} (v : Val (N ++ M)) : Val N := fun k r e => v k r (by rw [List.getElem?_append_left (List.getElem?_eq_some_iff.mp e).1]; exact e)
theorem val_nil : Val [] := fun k r e => by simp at e
theorem val_at {N : List Rw} {r : Rw} (v : Val (N ++ [r])) : (∀ x ∈ r.1, x < N.length) ∧ (∀ x ∈ r.2, x < N.length) := v N.length r (by simp)
theorem split_at {N : List Rw} {k : Nat} {r : Rw} (e : N[k]? = some r) : N = N.take k ++ r :: N.drop (k + 1) := by
  obtain ⟨hk, e'⟩ := List.getElem?_eq_some_iff.mp e
  rw [← e', ← List.drop_eq_getElem_cons hk, List.take_append_drop]
theorem take_len {α : Type} {N : List α} {k : Nat} {r : α} (e : N[k]? = some r) : (N.take k).length = k := by
  have := (List.getElem?_eq_some_iff.mp e).1
  rw [List.length_take]
  omega
/-- a row's tree by the trees of its moves -/
theorem tr_row {N : List Rw} (v : Val N) {k : Nat} {r : Rw} (e : N[k]? = some r) : tr N k = .mk (r.1.map (tr N)) (r.2.map (tr N)) := by
  have sp := split_at e
  have hl := take_len e
  have key : tr (N.take k ++ [r]) k = .mk (r.1.map (tr (N.take k))) (r.2.map (tr (N.take k))) := by
    have := tr_last (N.take k) r
    rwa [hl] at this
  have e1 : tr N k = tr (N.take k ++ [r]) k := by
    have := tr_app (N.take k ++ [r]) (N.drop (k + 1)) k (by simp [hl])
    rw [List.append_assoc, List.singleton_append, ← sp] at this
    exact this
  have e2 : ∀ x, x < k → tr (N.take k) x = tr N x := fun x hx => by
    have := tr_app (N.take k) (r :: N.drop (k + 1)) x (by rw [hl]; exact hx)
    rw [← sp] at this
    exact this.symm
  obtain ⟨h1, h2⟩ := v k r e
  rw [e1, key]
  congr 1
  · exact List.map_congr_left fun x hx => e2 x (h1 x hx)
  · exact List.map_congr_left fun x hx => e2 x (h2 x hx)
theorem tr_l {N : List Rw} (v : Val N) {k : Nat} {r : Rw} (e : N[k]? = some r) : (tr N k).l = r.1.map (tr N) := by rw [tr_row v e]; rfl
theorem tr_r {N : List Rw} (v : Val N) {k : Nat} {r : Rw} (e : N[k]? = some r) : (tr N k).r = r.2.map (tr N) := by rw [tr_row v e]; rfl
/-- a row is reached from another one -/
inductive Rch (N : List Rw) : Nat → Nat → Prop
  | here (k : Nat) : Rch N k k
  | left {k x y : Nat} {r : Rw} : N[k]? = some r → x ∈ r.1 → Rch N x y → Rch N k y
  | right {k x y : Nat} {r : Rw} : N[k]? = some r → x ∈ r.2 → Rch N x y → Rch N k y
theorem Rch.trans {N : List Rw} {a b c : Nat} (h : Rch N a b) (k : Rch N b c) : Rch N a c := by
  induction h with
  | here => exact k
  | left e m _ ih => exact .left e m (ih k)
  | right e m _ ih => exact .right e m (ih k)
theorem Rch.le {N : List Rw} (v : Val N) {a b : Nat} (h : Rch N a b) : b ≤ a := by
  induction h with
  | here => exact Nat.le_refl _
  | left e m _ ih => have := (v _ _ e).1 _ m; omega
  | right e m _ ih => have := (v _ _ e).2 _ m; omega
theorem Rch.lt {N : List Rw} (v : Val N) {a b : Nat} (h : Rch N a b) (ha : a < N.length) : b < N.length := by
  have := h.le v
  omega
theorem rch_below {N : List Rw} (v : Val N) {a b : Nat} (h : Rch N a b) : Below (tr N b) (tr N a) := by
  induction h with
  | here => exact .here _
  | left e m _ ih => exact .left (x := tr N _) (by rw [tr_l v e]; exact List.mem_map_of_mem m) ih
  | right e m _ ih => exact .right (x := tr N _) (by rw [tr_r v e]; exact List.mem_map_of_mem m) ih
theorem below_rch {N : List Rw} (v : Val N) {g h : Gm} (b : Below g h) : ∀ k, k < N.length → h = tr N k → ∃ j, Rch N k j ∧ g = tr N j := by
  induction b with
  | here => exact fun k _ e => ⟨k, .here k, e⟩
  | @left g x y hx _ ih =>
    intro k hk e
    obtain ⟨r, er⟩ : ∃ r, N[k]? = some r := ⟨N[k], List.getElem?_eq_getElem hk⟩
    rw [e, tr_l v er] at hx
    obtain ⟨z, hz, ez⟩ := List.mem_map.mp hx
    obtain ⟨j, hj, ej⟩ := ih z (by have := (v k r er).1 z hz; omega) ez.symm
    exact ⟨j, .left er hz hj, ej⟩
  | @right g x y hx _ ih =>
    intro k hk e
    obtain ⟨r, er⟩ : ∃ r, N[k]? = some r := ⟨N[k], List.getElem?_eq_getElem hk⟩
    rw [e, tr_r v er] at hx
    obtain ⟨z, hz, ez⟩ := List.mem_map.mp hx
    obtain ⟨j, hj, ej⟩ := ih z (by have := (v k r er).2 z hz; omega) ez.symm
    exact ⟨j, .right er hz hj, ej⟩
/-- all rows are reached from the last one -/
def AllR (N : List Rw) : Prop := ∀ k, k < N.length → Rch N (N.length - 1) k
def lastT (N : List Rw) : Gm := tr N (N.length - 1)
structure Good (N : List Rw) : Prop where
  v : Val N
  ne : N ≠ []
  all : AllR N

/-! ### what the program's functions reckon -/
def markS (K : List Nat) (r : Rw) : Rw := (uniq (r.1.map fun x => K.getD x 0), uniq (r.2.map fun x => K.getD x 0))
def kStep (s : List Rw × List Nat) (r : Rw) : List Rw × List Nat :=
  let m := markS s.2 r
  let ms := if m ∈ s.1 then s.1 else s.1 ++ [m]
  (ms, s.2 ++ [ms.idxOf m])
def kindsS (N : List Rw) : List Rw × List Nat := N.foldl kStep ([], [])
def kinds (N : List Rw) : List Nat := (kindsS N).2
def maxL (l : List Nat) : Nat := l.foldr (fun x m => max (x + 1) m) 0
def dStep (D : List Nat) (r : Rw) : List Nat := D ++ [maxL ((r.1 ++ r.2).map fun x => D.getD x 0)]
def depths (N : List Rw) : List Nat := N.foldl dStep []
def firsts (K : List Nat) : List Nat := (List.range K.length).filter fun k => !(decide (K.getD k 0 ∈ K.take k))
abbrev Mk := Rw × Nat
def lvlMk (N : List Rw) (K O : List Nat) (k : Nat) : Mk := ((uniq ((N.getD k ([], [])).1.map fun x => O.idxOf (K.getD x 0)), uniq ((N.getD k ([], [])).2.map fun x => O.idxOf (K.getD x 0))), K.getD k 0)
def lvlIx (D F : List Nat) (h : Nat) : List Nat := F.filter fun k => decide (D.getD k 0 = h)
def lvl (le : Mk → Mk → Bool) (N : List Rw) (s : List Nat × List Rw) (h : Nat) : List Nat × List Rw :=
  let S := ((lvlIx (depths N) (firsts (kinds N)) h).map (lvlMk N (kinds N) s.1)).mergeSort le
  (s.1 ++ S.map (·.2), s.2 ++ S.map (·.1))
def maxD (N : List Rw) : Nat := maxL (depths N)
def marksS (le : Mk → Mk → Bool) (N : List Rw) (n : Nat) : List Nat × List Rw := (List.range n).foldl (lvl le N) ([], [])
/-- the marks of rows, ordered by le at each height -/
def marks (le : Mk → Mk → Bool) (N : List Rw) : List Rw := (marksS le N (maxD N)).2
/-- joined_rows -/
def jRow (there : List Nat) (r : Rw) : Rw := (r.1.map fun x => there.getD x 0, r.2.map fun x => there.getD x 0)
def jStep (s : List Rw × List Nat) (r : Rw) : List Rw × List Nat :=
  let q := jRow s.2 r
  let f := if q ∈ s.1 then s.1 else s.1 ++ [q]
  (f, s.2 ++ [f.idxOf q])
def jHeap (f : List Rw) (N : List Rw) : List Rw × List Nat := N.foldl jStep (f, [])
def jSide (s : List Rw × List Nat) (N : List Rw) : List Rw × List Nat := ((jHeap s.1 N).1, s.2 ++ [(jHeap s.1 N).2.getLast?.getD 0])
def joined (A B : List (List Rw)) : List Rw :=
  let a := A.foldl jSide ([], [])
  let b := B.foldl jSide (a.1, [])
  b.1 ++ [(a.2, b.2)]
/-- heap_at: which rows are needed, and those alone -/
def needS (N : List Rw) (S : Nat → Bool) (k : Nat) : Nat → Bool := if S k then fun x => S x || decide (x ∈ (N.getD k ([], [])).1 ++ (N.getD k ([], [])).2) else S
def needed (N : List Rw) (n : Nat) : Nat → Bool := ((List.range (n + 1)).reverse).foldl (needS N) (fun x => decide (x = n))
def atS (N : List Rw) (S : Nat → Bool) (s : List Rw × (Nat → Nat)) (k : Nat) : List Rw × (Nat → Nat) :=
  if S k then (s.1 ++ [((N.getD k ([], [])).1.map s.2, (N.getD k ([], [])).2.map s.2)], fun x => if x = k then s.1.length else s.2 x) else s
def heapAt (N : List Rw) (n : Nat) : List Rw := ((List.range (n + 1)).foldl (atS N (needed N n)) ([], fun _ => 0)).1
end M84

/-! M3: kinds, heights, the order of the marks. -/
namespace M84
theorem getD_lt {α : Type} {l : List α} {i : Nat} {d : α} (h : i < l.length) : l.getD i d = l[i] := by rw [List.getD_eq_getElem?_getD, List.getElem?_eq_getElem h] <;> rfl
theorem getD_some {α : Type} {l : List α} {i : Nat} {d x : α} (h : l[i]? = some x) : l.getD i d = x := by rw [List.getD_eq_getElem?_getD, h] <;> rfl
theorem getD_app {α : Type} {l m : List α} {i : Nat} {d : α} (h : i < l.length) : (l ++ m).getD i d = l.getD i d := by rw [List.getD_eq_getElem?_getD, List.getElem?_append_left h, List.getD_eq_getElem?_getD]
theorem getD_end {α : Type} {l : List α} {d x : α} : (l ++ [x]).getD l.length d = x := by rw [List.getD_eq_getElem?_getD, List.getElem?_append_right (Nat.le_refl _), Nat.sub_self] <;> rfl
theorem some_at {α : Type} {l : List α} {i : Nat} (h : i < l.length) : ∃ x, l[i]? = some x := ⟨l[i], List.getElem?_eq_getElem h⟩
theorem lt_of_some {α : Type} {l : List α} {i : Nat} {x : α} (h : l[i]? = some x) : i < l.length := (List.getElem?_eq_some_iff.mp h).1
theorem snoc_some {α : Type} {l : List α} {i : Nat} {x a : α} (h : (l ++ [a])[i]? = some x) : l[i]? = some x ∨ (i = l.length ∧ x = a) := by
  by_cases hi : i < l.length
  · rw [List.getElem?_append_left hi] at h; exact .inl h
  · right
    have hl := lt_of_some h
    rw [List.length_append, List.length_singleton] at hl
    have e : i = l.length := by omega
    subst e
    rw [List.getElem?_append_right (Nat.le_refl _), Nat.sub_self] at h
    exact ⟨rfl, (Option.some.inj h).symm⟩
theorem kinds_snoc (N : List Rw) (r : Rw) : kindsS (N ++ [r]) = kStep (kindsS N) r := by
  unfold kindsS
  rw [List.foldl_append] <;> rfl
theorem depths_snoc (N : List Rw) (r : Rw) : depths (N ++ [r]) = dStep (depths N) r := by
  unfold depths
  rw [List.foldl_append] <;> rfl
theorem depths_len (N : List Rw) : (depths N).length = N.length := by
  refine snoc_ind (P := fun N => (depths N).length = N.length) rfl (fun N r ih => ?_) N
  rw [depths_snoc]
  unfold dStep
  rw [List.length_append, List.length_append, ih] <;> rfl
theorem markS_ext {K K' : List Nat} {r : Rw} (h1 : ∀ x ∈ r.1, K.getD x 0 = K'.getD x 0) (h2 : ∀ x ∈ r.2, K.getD x 0 = K'.getD x 0) : markS K r = markS K' r := by
  unfold markS
  rw [List.map_congr_left h1, List.map_congr_left h2]
structure KOk (N : List Rw) (ms : List Rw) (fs : List Nat) : Prop where
  len : fs.length = N.length
  nd : ms.Nodup
  at_ : ∀ (i : Nat) (r : Rw), N[i]? = some r → ms[fs.getD i 0]? = some (markS fs r)
  ms : ∀ m ∈ ms, ∃ (i : Nat) (r : Rw), N[i]? = some r ∧ m = markS fs r
theorem kinds_ok {N : List Rw} : Val N → KOk N (kindsS N).1 (kindsS N).2 := by
  refine snoc_ind (P := fun N => Val N → KOk N (kindsS N).1 (kindsS N).2) (fun _ => ⟨rfl, .nil, fun i r e => by simp at e, fun m h => by simp [kindsS] at h⟩) (fun N r ih v => ?_) N
  obtain ⟨h1, h2, h3, h4⟩ := ih (val_pre v)
  obtain ⟨v1, v2⟩ := val_at v
  rw [kinds_snoc]
  generalize kindsS N = s at h1 h2 h3 h4 ⊢
  obtain ⟨ms, fs⟩ := s
  have ext : ∀ (z : Nat) (q : Rw), (∀ x ∈ q.1, x < N.length) → (∀ x ∈ q.2, x < N.length) → markS (fs ++ [z]) q = markS fs q := fun z q a b =>
    markS_ext (fun x hx => getD_app (by rw [h1]; exact a x hx)) (fun x hx => getD_app (by rw [h1]; exact b x hx))
  have vb : ∀ (i : Nat) (q : Rw), N[i]? = some q → (∀ x ∈ q.1, x < N.length) ∧ (∀ x ∈ q.2, x < N.length) := fun i q e => by
    obtain ⟨a, b⟩ := val_pre v i q e
    have := lt_of_some e
    exact ⟨fun x hx => Nat.lt_trans (a x hx) this, fun x hx => Nat.lt_trans (b x hx) this⟩
  dsimp only [kStep] at h1 h3 h4 ⊢
  by_cases hm : markS fs r ∈ ms
  · rw [if_pos hm]
    refine ⟨by rw [List.length_append, List.length_append, h1] <;> rfl, h2, fun i q e => ?_, fun m hmm => ?_⟩
    · rcases snoc_some e with e | ⟨rfl, rfl⟩
      · rw [getD_app (by rw [h1]; exact lt_of_some e), ext _ q (vb i q e).1 (vb i q e).2]
        exact h3 i q e
      · rw [ext _ q v1 v2, ← h1, getD_end, List.getElem?_eq_getElem (List.idxOf_lt_length_of_mem hm), List.getElem_idxOf]
    · obtain ⟨i, q, e, rfl⟩ := h4 m hmm
      exact ⟨i, q, by rw [List.getElem?_append_left (lt_of_some e)]; exact e, (ext _ q (vb i q e).1 (vb i q e).2).symm⟩
  · rw [if_neg hm]
    refine ⟨by rw [List.length_append, List.length_append, h1] <;> rfl, ?_, fun i q e => ?_, fun m hmm => ?_⟩
    · exact List.nodup_append.mpr ⟨h2, by simp, fun a ha b hb => by
        have : b = markS fs r := by simpa using hb
        rw [this]; exact fun z => hm (by rw [← z]; exact ha)⟩
    · rcases snoc_some e with e | ⟨rfl, rfl⟩
      · rw [getD_app (by rw [h1]; exact lt_of_some e), ext _ q (vb i q e).1 (vb i q e).2]
        have := h3 i q e
        rw [List.getElem?_append_left (lt_of_some this)]; exact this
      · have hm' : markS fs q ∈ ms ++ [markS fs q] := by simp
        rw [ext _ q v1 v2, ← h1, getD_end, List.getElem?_eq_getElem (List.idxOf_lt_length_of_mem hm'), List.getElem_idxOf]
    · rcases List.mem_append.mp hmm with hmm | hmm
      · obtain ⟨i, q, e, rfl⟩ := h4 m hmm
        exact ⟨i, q, by rw [List.getElem?_append_left (lt_of_some e)]; exact e, (ext _ q (vb i q e).1 (vb i q e).2).symm⟩
      · have : m = markS fs r := by simpa using hmm
        exact ⟨N.length, r, by simp, by rw [this, ext _ r v1 v2]⟩
theorem kinds_len {N : List Rw} (v : Val N) : (kinds N).length = N.length := (kinds_ok v).len
/-- the kind of the k-th row -/
abbrev kd (N : List Rw) (k : Nat) : Nat := (kinds N).getD k 0
abbrev dp (N : List Rw) (k : Nat) : Nat := (depths N).getD k 0
theorem nodup_at {α : Type} {l : List α} (h : l.Nodup) {i j : Nat} {x : α} (hi : l[i]? = some x) (hj : l[j]? = some x) : i = j := by
  obtain ⟨a, ea⟩ := List.getElem?_eq_some_iff.mp hi
  obtain ⟨b, eb⟩ := List.getElem?_eq_some_iff.mp hj
  rcases Nat.lt_trichotomy i j with h1 | h1 | h1
  · exact absurd (ea.trans eb.symm) (List.pairwise_iff_getElem.mp h i j a b h1)
  · exact h1
  · exact absurd (eb.trans ea.symm) (List.pairwise_iff_getElem.mp h j i b a h1)
theorem kd_mark {N : List Rw} (v : Val N) {i j : Nat} {r q : Rw} (hi : N[i]? = some r) (hj : N[j]? = some q) : kd N i = kd N j ↔ markS (kinds N) r = markS (kinds N) q := by
  have h := kinds_ok v
  constructor
  · intro e
    have a := h.at_ i r hi
    have b := h.at_ j q hj
    unfold kd kinds at e
    rw [e] at a
    exact Option.some.inj (a.symm.trans b)
  · intro e
    have a := h.at_ i r hi
    have b := h.at_ j q hj
    unfold kinds at e
    rw [e] at a
    exact nodup_at h.nd a b
theorem mark_eq {K : List Nat} {r q : Rw} : markS K r = markS K q ↔ (∀ x ∈ r.1, ∃ y ∈ q.1, K.getD x 0 = K.getD y 0) ∧ (∀ y ∈ q.1, ∃ x ∈ r.1, K.getD x 0 = K.getD y 0) ∧ (∀ x ∈ r.2, ∃ y ∈ q.2, K.getD x 0 = K.getD y 0) ∧ (∀ y ∈ q.2, ∃ x ∈ r.2, K.getD x 0 = K.getD y 0) := by
  unfold markS
  rw [Prod.mk.injEq]
  have side : ∀ a b : List Nat, uniq (a.map fun x => K.getD x 0) = uniq (b.map fun x => K.getD x 0) ↔ (∀ x ∈ a, ∃ y ∈ b, K.getD x 0 = K.getD y 0) ∧ (∀ y ∈ b, ∃ x ∈ a, K.getD x 0 = K.getD y 0) := by
    intro a b
    constructor
    · intro e
      refine ⟨fun x hx => ?_, fun y hy => ?_⟩
      · obtain ⟨y, hy, e2⟩ := List.mem_map.mp ((mem_of_uniq_eq e _).mp (List.mem_map_of_mem (f := fun x => K.getD x 0) hx))
        exact ⟨y, hy, e2.symm⟩
      · obtain ⟨x, hx, e2⟩ := List.mem_map.mp ((mem_of_uniq_eq e _).mpr (List.mem_map_of_mem (f := fun x => K.getD x 0) hy))
        exact ⟨x, hx, e2⟩
    · rintro ⟨h1, h2⟩
      refine uniq_congr fun z => ⟨fun hz => ?_, fun hz => ?_⟩
      · obtain ⟨x, hx, rfl⟩ := List.mem_map.mp hz
        obtain ⟨y, hy, e⟩ := h1 x hx
        exact List.mem_map.mpr ⟨y, hy, e.symm⟩
      · obtain ⟨y, hy, rfl⟩ := List.mem_map.mp hz
        obtain ⟨x, hx, e⟩ := h2 y hy
        exact List.mem_map.mpr ⟨x, hx, e⟩
  rw [side, side]
  constructor
  · rintro ⟨⟨a, b⟩, c, d⟩; exact ⟨a, b, c, d⟩
  · rintro ⟨a, b, c, d⟩; exact ⟨⟨a, b⟩, c, d⟩
/-- kinds tell trees apart up to order and doubles -/
theorem kd_eqv {N : List Rw} (v : Val N) : ∀ n i j, i + j < n → i < N.length → j < N.length → (kd N i = kd N j ↔ eqv (tr N i) (tr N j)) := by
  intro n
  induction n with
  | zero => intro i j h; omega
  | succ n ih =>
    intro i j hn hi hj
    obtain ⟨r, er⟩ := some_at hi
    obtain ⟨q, eq⟩ := some_at hj
    obtain ⟨v1, v2⟩ := v i r er
    obtain ⟨w1, w2⟩ := v j q eq
    rw [kd_mark v er eq, mark_eq, eqv_iff, tr_l v er, tr_r v er, tr_l v eq, tr_r v eq]
    have side : ∀ a b : List Nat, (∀ x ∈ a, x < i) → (∀ x ∈ b, x < j) →
        (((∀ x ∈ a, ∃ y ∈ b, kd N x = kd N y) ↔ (∀ g ∈ a.map (tr N), ∃ h ∈ b.map (tr N), eqv g h)) ∧ ((∀ y ∈ b, ∃ x ∈ a, kd N x = kd N y) ↔ (∀ h ∈ b.map (tr N), ∃ g ∈ a.map (tr N), eqv g h))) := by
      intro a b ha hb
      have key : ∀ x ∈ a, ∀ y ∈ b, (kd N x = kd N y ↔ eqv (tr N x) (tr N y)) := fun x hx y hy => ih x y (by have := ha x hx; have := hb y hy; omega) (by have := ha x hx; omega) (by have := hb y hy; omega)
      constructor
      · constructor
        · intro h g hg
          obtain ⟨x, hx, rfl⟩ := List.mem_map.mp hg
          obtain ⟨y, hy, e⟩ := h x hx
          exact ⟨tr N y, List.mem_map_of_mem hy, (key x hx y hy).mp e⟩
        · intro h x hx
          obtain ⟨g, hg, e⟩ := h (tr N x) (List.mem_map_of_mem hx)
          obtain ⟨y, hy, rfl⟩ := List.mem_map.mp hg
          exact ⟨y, hy, (key x hx y hy).mpr e⟩
      · constructor
        · intro h g hg
          obtain ⟨y, hy, rfl⟩ := List.mem_map.mp hg
          obtain ⟨x, hx, e⟩ := h y hy
          exact ⟨tr N x, List.mem_map_of_mem hx, (key x hx y hy).mp e⟩
        · intro h y hy
          obtain ⟨g, hg, e⟩ := h (tr N y) (List.mem_map_of_mem hy)
          obtain ⟨x, hx, rfl⟩ := List.mem_map.mp hg
          exact ⟨x, hx, (key x hx y hy).mpr e⟩
    obtain ⟨s1, s2⟩ := side r.1 q.1 v1 w1
    obtain ⟨s3, s4⟩ := side r.2 q.2 v2 w2
    exact and_congr s1 (and_congr s2 (and_congr s3 s4))
theorem kd_iff {N : List Rw} (v : Val N) {i j : Nat} (hi : i < N.length) (hj : j < N.length) : kd N i = kd N j ↔ eqv (tr N i) (tr N j) := kd_eqv v _ i j (Nat.lt_succ_self _) hi hj
/-! heights -/
theorem maxL_up : ∀ {l : List Nat} {x : Nat}, x ∈ l → x < maxL l := by
  intro l
  induction l with
  | nil => intro x h; simp at h
  | cons y ys ih =>
    intro x h
    show x < max (y + 1) (maxL ys)
    rcases List.mem_cons.mp h with e | h
    · subst e; omega
    · have := ih h; omega
theorem maxL_le : ∀ {l : List Nat} {m : Nat}, (∀ x ∈ l, x < m) → maxL l ≤ m := by
  intro l
  induction l with
  | nil => intro m h; exact Nat.zero_le _
  | cons y ys ih =>
    intro m h
    show max (y + 1) (maxL ys) ≤ m
    have := h y (List.mem_cons_self ..)
    have := ih fun x hx => h x (List.mem_cons_of_mem _ hx)
    omega
theorem maxL_congr {a b : List Nat} (h : ∀ z, z ∈ a ↔ z ∈ b) : maxL a = maxL b :=
  Nat.le_antisymm (maxL_le fun x hx => maxL_up ((h x).mp hx)) (maxL_le fun x hx => maxL_up ((h x).mpr hx))
theorem dp_row {N : List Rw} (v : Val N) : ∀ {i : Nat} {r : Rw}, N[i]? = some r → dp N i = maxL ((r.1 ++ r.2).map (dp N)) := by
  refine snoc_ind (P := fun N => Val N → ∀ {i : Nat} {r : Rw}, N[i]? = some r → dp N i = maxL ((r.1 ++ r.2).map (dp N))) (fun _ i r e => by simp at e) (fun N q ih v => ?_) N v
  intro i r e
  obtain ⟨v1, v2⟩ := val_at v
  have ih' := @ih (val_pre v)
  have ext : ∀ x, x < N.length → dp (N ++ [q]) x = dp N x := fun x hx => by
    show (depths (N ++ [q])).getD x 0 = (depths N).getD x 0
    rw [depths_snoc]
    exact getD_app (by rw [depths_len]; exact hx)
  have ex2 : ∀ s : Rw, (∀ x ∈ s.1, x < N.length) → (∀ x ∈ s.2, x < N.length) → (s.1 ++ s.2).map (dp (N ++ [q])) = (s.1 ++ s.2).map (dp N) := fun s a b => List.map_congr_left fun x hx => ext x (by
    rcases List.mem_append.mp hx with h | h
    · exact a x h
    · exact b x h)
  rcases snoc_some e with e | ⟨rfl, rfl⟩
  · obtain ⟨a, b⟩ := val_pre v i r e
    have hl := lt_of_some e
    rw [ext i hl, ih' e, ex2 r (fun x hx => Nat.lt_trans (a x hx) hl) (fun x hx => Nat.lt_trans (b x hx) hl)]
  · rw [ex2 r v1 v2]
    show (depths (N ++ [r])).getD N.length 0 = _
    rw [depths_snoc]
    unfold dStep
    rw [← depths_len N, getD_end]
theorem dp_l {N : List Rw} (v : Val N) {i x : Nat} {r : Rw} (e : N[i]? = some r) (h : x ∈ r.1 ++ r.2) : dp N x < dp N i := by
  rw [dp_row v e]
  exact maxL_up (List.mem_map_of_mem h)
theorem dp_kd {N : List Rw} (v : Val N) : ∀ n i j, i + j < n → i < N.length → j < N.length → kd N i = kd N j → dp N i = dp N j := by
  intro n
  induction n with
  | zero => intro i j h; omega
  | succ n ih =>
    intro i j hn hi hj e
    obtain ⟨r, er⟩ := some_at hi
    obtain ⟨q, eq⟩ := some_at hj
    obtain ⟨v1, v2⟩ := v i r er
    obtain ⟨w1, w2⟩ := v j q eq
    obtain ⟨a1, a2, a3, a4⟩ := mark_eq.mp ((kd_mark v er eq).mp e)
    rw [dp_row v er, dp_row v eq]
    refine maxL_congr fun z => ⟨fun hz => ?_, fun hz => ?_⟩
    · obtain ⟨x, hx, rfl⟩ := List.mem_map.mp hz
      rcases List.mem_append.mp hx with h | h
      · obtain ⟨y, hy, ey⟩ := a1 x h
        have b1 := v1 x h
        have b2 := w1 y hy
        exact List.mem_map.mpr ⟨y, List.mem_append.mpr (.inl hy), (ih x y (by omega) (by omega) (by omega) ey).symm⟩
      · obtain ⟨y, hy, ey⟩ := a3 x h
        have b1 := v2 x h
        have b2 := w2 y hy
        exact List.mem_map.mpr ⟨y, List.mem_append.mpr (.inr hy), (ih x y (by omega) (by omega) (by omega) ey).symm⟩
    · obtain ⟨y, hy, rfl⟩ := List.mem_map.mp hz
      rcases List.mem_append.mp hy with h | h
      · obtain ⟨x, hx, ex⟩ := a2 y h
        have b1 := w1 y h
        have b2 := v1 x hx
        exact List.mem_map.mpr ⟨x, List.mem_append.mpr (.inl hx), ih x y (by omega) (by omega) (by omega) ex⟩
      · obtain ⟨x, hx, ex⟩ := a4 y h
        have b1 := w2 y h
        have b2 := v2 x hx
        exact List.mem_map.mpr ⟨x, List.mem_append.mpr (.inr hx), ih x y (by omega) (by omega) (by omega) ex⟩
theorem dp_of_kd {N : List Rw} (v : Val N) {i j : Nat} (hi : i < N.length) (hj : j < N.length) (e : kd N i = kd N j) : dp N i = dp N j := dp_kd v _ i j (Nat.lt_succ_self _) hi hj e
theorem dp_le {N : List Rw} (v : Val N) : ∀ i, i < N.length → dp N i ≤ i := by
  intro i
  induction i using Nat.strongRecOn with
  | _ i ih =>
    intro hi
    obtain ⟨r, er⟩ := some_at hi
    obtain ⟨a, b⟩ := v i r er
    rw [dp_row v er]
    refine maxL_le fun x hx => ?_
    obtain ⟨y, hy, rfl⟩ := List.mem_map.mp hx
    have hl : y < i := by
      rcases List.mem_append.mp hy with q | q
      · exact a y q
      · exact b y q
    have := ih y hl (by omega)
    omega
theorem dp_small {N : List Rw} (v : Val N) {z : Nat} (h : z ∈ depths N) : z < N.length := by
  obtain ⟨i, hi, e⟩ := List.mem_iff_getElem.mp h
  rw [depths_len] at hi
  have := dp_le v i hi
  unfold dp at this
  rw [getD_lt (by rw [depths_len]; exact hi), e] at this
  omega
/-! firsts -/
theorem mem_firsts {N : List Rw} (v : Val N) {k : Nat} : k ∈ firsts (kinds N) ↔ k < N.length ∧ ∀ j, j < k → kd N j ≠ kd N k := by
  unfold firsts
  rw [List.mem_filter, List.mem_range, kinds_len v]
  refine and_congr_right fun hk => ?_
  rw [Bool.not_eq_true', decide_eq_false_iff_not]
  constructor
  · intro h j hj e
    refine h ?_
    have hl : j < (kinds N).length := by rw [kinds_len v]; omega
    rw [← show (kinds N).getD j 0 = (kinds N).getD k 0 from e, getD_lt hl]
    exact List.mem_take_iff_getElem.mpr ⟨j, by omega, rfl⟩
  · intro h hm
    obtain ⟨j, hj, e⟩ := List.mem_take_iff_getElem.mp hm
    refine h j (by omega) ?_
    show (kinds N).getD j 0 = _
    rw [getD_lt (by omega), e]
theorem first_of {N : List Rw} (v : Val N) : ∀ k, k < N.length → ∃ j, j ∈ firsts (kinds N) ∧ kd N j = kd N k := by
  intro k
  induction k using Nat.strongRecOn with
  | _ k ih =>
    intro hk
    by_cases h : ∃ j, j < k ∧ kd N j = kd N k
    · obtain ⟨j, hj, e⟩ := h
      obtain ⟨i, hi, ei⟩ := ih j hj (by omega)
      exact ⟨i, hi, ei.trans e⟩
    · exact ⟨k, (mem_firsts v).mpr ⟨hk, fun j hj e => h ⟨j, hj, e⟩⟩, rfl⟩
theorem firsts_inj {N : List Rw} (v : Val N) {i j : Nat} (hi : i ∈ firsts (kinds N)) (hj : j ∈ firsts (kinds N)) (e : kd N i = kd N j) : i = j := by
  obtain ⟨_, a⟩ := (mem_firsts v).mp hi
  obtain ⟨_, b⟩ := (mem_firsts v).mp hj
  rcases Nat.lt_trichotomy i j with h | h | h
  · exact absurd e (b i h)
  · exact h
  · exact absurd e.symm (a j h)
theorem firsts_len (K : List Nat) : (firsts K).length ≤ K.length := by
  have h := List.length_filter_le (fun k => !(decide (K.getD k 0 ∈ K.take k))) (List.range K.length)
  rw [List.length_range] at h
  exact h
theorem firsts_nodup (K : List Nat) : (firsts K).Nodup := List.Pairwise.filter _ List.nodup_range
theorem mem_lvlIx {N : List Rw} {h k : Nat} : k ∈ lvlIx (depths N) (firsts (kinds N)) h ↔ k ∈ firsts (kinds N) ∧ dp N k = h := by
  unfold lvlIx
  rw [List.mem_filter, decide_eq_true_eq]
theorem marksS_succ (le : Mk → Mk → Bool) (N : List Rw) (n : Nat) : marksS le N (n + 1) = lvl le N (marksS le N n) n := by
  unfold marksS
  rw [List.range_succ, List.foldl_append] <;> rfl
theorem mem_order {le : Mk → Mk → Bool} {N : List Rw} (v : Val N) : ∀ n z, z ∈ (marksS le N n).1 ↔ ∃ k, k < N.length ∧ dp N k < n ∧ kd N k = z := by
  intro n
  induction n with
  | zero =>
    intro z
    refine ⟨fun h => ?_, fun ⟨k, _, h, _⟩ => absurd h (Nat.not_lt_zero _)⟩
    simp [marksS] at h
  | succ n ih =>
    intro z
    rw [marksS_succ]
    unfold lvl
    dsimp only
    rw [List.mem_append, ih]
    constructor
    · rintro (⟨k, a, b, c⟩ | h)
      · exact ⟨k, a, by omega, c⟩
      · obtain ⟨m, hm, e⟩ := List.mem_map.mp h
        obtain ⟨k, hk, e2⟩ := List.mem_map.mp ((List.mem_mergeSort).mp hm)
        obtain ⟨h1, h2⟩ := mem_lvlIx.mp hk
        refine ⟨k, ((mem_firsts v).mp h1).1, by omega, ?_⟩
        rw [← e, ← e2] <;> rfl
    · rintro ⟨k, a, b, c⟩
      by_cases hb : dp N k < n
      · exact .inl ⟨k, a, hb, c⟩
      · right
        obtain ⟨j, hj, e⟩ := first_of v k a
        have hjl := ((mem_firsts v).mp hj).1
        have hd := dp_of_kd v hjl a e
        refine List.mem_map.mpr ⟨lvlMk N (kinds N) (marksS le N n).1 j, List.mem_mergeSort.mpr (List.mem_map_of_mem (mem_lvlIx.mpr ⟨hj, by omega⟩)), ?_⟩
        exact e.trans c
theorem marks_len (le : Mk → Mk → Bool) (N : List Rw) : ∀ n, (marksS le N n).2.length = (marksS le N n).1.length := by
  intro n
  induction n with
  | zero => rfl
  | succ n ih =>
    rw [marksS_succ]
    unfold lvl
    dsimp only
    rw [List.length_append, List.length_append, ih, List.length_map, List.length_map]
theorem lvl_kinds {le : Mk → Mk → Bool} (N : List Rw) (O : List Nat) (h : Nat) : ∃ l, l = ((lvlIx (depths N) (firsts (kinds N)) h).map (lvlMk N (kinds N) O)).mergeSort le ∧ List.Perm (l.map (·.2)) ((lvlIx (depths N) (firsts (kinds N)) h).map (kd N)) := by
  refine ⟨_, rfl, ((List.mergeSort_perm _ le).map (·.2)).trans ?_⟩
  rw [List.map_map]
  exact List.Perm.of_eq rfl
theorem order_nodup {le : Mk → Mk → Bool} {N : List Rw} (v : Val N) : ∀ n, (marksS le N n).1.Nodup := by
  intro n
  induction n with
  | zero => exact .nil
  | succ n ih =>
    have hm := mem_order (le := le) v n
    rw [marksS_succ]
    obtain ⟨l, el, hp⟩ := lvl_kinds (le := le) N (marksS le N n).1 n
    unfold lvl
    dsimp only
    rw [← el]
    refine List.nodup_append.mpr ⟨ih, hp.nodup_iff.mpr ?_, fun a ha b hb e => ?_⟩
    · refine List.pairwise_map.mpr (List.Pairwise.imp_of_mem (fun {i j} hi hj ne e => ne ?_) (List.Pairwise.filter _ (firsts_nodup (kinds N))))
      exact firsts_inj v (List.mem_filter.mp hi).1 (List.mem_filter.mp hj).1 e
    · subst e
      obtain ⟨k, hk, dk, ek⟩ := (hm a).mp ha
      obtain ⟨j, hj, ej⟩ := List.mem_map.mp (hp.mem_iff.mp hb)
      obtain ⟨j1, j2⟩ := mem_lvlIx.mp hj
      have := dp_of_kd v hk ((mem_firsts v).mp j1).1 (ek.trans ej.symm)
      omega
theorem sub_len : ∀ {a b : List Nat}, a.Nodup → (∀ x ∈ a, x ∈ b) → a.length ≤ b.length := by
  intro a
  induction a with
  | nil => intro b _ _; exact Nat.zero_le _
  | cons x xs ih =>
    intro b hn h
    have hn' := List.nodup_cons.mp hn
    have hx := h x (List.mem_cons_self ..)
    have := ih (b := b.erase x) hn'.2 fun y hy => (List.mem_erase_of_ne (fun e => hn'.1 (by rw [← e]; exact hy))).mpr (h y (List.mem_cons_of_mem _ hy))
    rw [List.length_erase_of_mem hx] at this
    have := List.length_pos_of_mem hx
    simp only [List.length_cons]
    omega
theorem order_len {le : Mk → Mk → Bool} {N : List Rw} (v : Val N) (n : Nat) : (marksS le N n).1.length ≤ N.length := by
  have h := sub_len (b := kinds N) (order_nodup (le := le) v n) fun z hz => by
    obtain ⟨k, hk, _, e⟩ := (mem_order v n z).mp hz
    rw [← e]
    show (kinds N).getD k 0 ∈ kinds N
    rw [getD_lt (by rw [kinds_len v]; exact hk)]
    exact List.getElem_mem _
  rwa [kinds_len v] at h
theorem move_placed {le : Mk → Mk → Bool} {N : List Rw} (v : Val N) {h k x : Nat} {r : Rw} (hk : k ∈ lvlIx (depths N) (firsts (kinds N)) h) (e : N[k]? = some r) (hx : x ∈ r.1 ++ r.2) : kd N x ∈ (marksS le N h).1 := by
  obtain ⟨h1, h2⟩ := mem_lvlIx.mp hk
  refine (mem_order v h _).mpr ⟨x, ?_, by rw [← h2]; exact dp_l v e hx, rfl⟩
  have hl := lt_of_some e
  obtain ⟨a, b⟩ := v k r e
  rcases List.mem_append.mp hx with q | q
  · exact Nat.lt_trans (a x q) hl
  · exact Nat.lt_trans (b x q) hl
end M84

/-! M4: heap_at: the rows that are reached, and those alone. -/
namespace M84
def mv (N : List Rw) (k : Nat) : List Nat := (N.getD k ([], [])).1 ++ (N.getD k ([], [])).2
theorem mv_lt {N : List Rw} (v : Val N) {k x : Nat} (h : x ∈ mv N k) : x < k ∧ k < N.length := by
  unfold mv at h
  by_cases hk : k < N.length
  · obtain ⟨r, er⟩ := some_at hk
    obtain ⟨a, b⟩ := v k r er
    rw [getD_some er] at h
    rcases List.mem_append.mp h with q | q
    · exact ⟨a x q, hk⟩
    · exact ⟨b x q, hk⟩
  · have e : N.getD k ([], []) = ([], []) := by rw [List.getD_eq_getElem?_getD, List.getElem?_eq_none (by omega)] <;> rfl
    rw [e] at h
    simp at h
theorem needS_at {N : List Rw} {S : Nat → Bool} {k x : Nat} : needS N S k x = (S x || (S k && decide (x ∈ mv N k))) := by
  unfold needS mv
  cases S k <;> simp
def ndn (N : List Rw) (S : Nat → Bool) (m : Nat) : Nat → Bool := ((List.range m).reverse).foldl (needS N) S
theorem ndn_succ (N : List Rw) (S : Nat → Bool) (m : Nat) : ndn N S (m + 1) = ndn N (needS N S m) m := by
  unfold ndn
  rw [List.range_succ, List.reverse_append] <;> rfl
theorem ndn_up {N : List Rw} : ∀ m S x, S x = true → ndn N S m x = true := by
  intro m
  induction m with
  | zero => intro S x h; exact h
  | succ m ih => intro S x h; rw [ndn_succ]; exact ih _ x (by rw [needS_at, h, Bool.true_or])
theorem ndn_ge {N : List Rw} (v : Val N) : ∀ m S x, m ≤ x → ndn N S m x = S x := by
  intro m
  induction m with
  | zero => intro S x _; rfl
  | succ m ih =>
    intro S x h
    rw [ndn_succ, ih _ x (by omega), needS_at]
    have : decide (x ∈ mv N m) = false := decide_eq_false fun z => by have := (mv_lt v z).1; omega
    rw [this, Bool.and_false, Bool.or_false]
theorem ndn_cl {N : List Rw} (v : Val N) : ∀ m S k, k < m → ndn N S m k = true → ∀ x ∈ mv N k, ndn N S m x = true := by
  intro m
  induction m with
  | zero => intro S k h; omega
  | succ m ih =>
    intro S k h hk x hx
    rw [ndn_succ] at hk ⊢
    by_cases hm : k < m
    · exact ih _ k hm hk x hx
    · have e : k = m := by omega
      subst e
      rw [ndn_ge v k _ k (Nat.le_refl _), needS_at] at hk
      have : decide (k ∈ mv N k) = false := decide_eq_false fun z => by have := (mv_lt v z).1; omega
      rw [this, Bool.and_false, Bool.or_false] at hk
      exact ndn_up _ _ x (by rw [needS_at, hk, decide_eq_true hx]; simp)
theorem ndn_in {N : List Rw} {R : Nat → Prop} (hR : ∀ k, R k → ∀ x ∈ mv N k, R x) : ∀ m S, (∀ x, S x = true → R x) → ∀ x, ndn N S m x = true → R x := by
  intro m
  induction m with
  | zero => intro S h; exact h
  | succ m ih =>
    intro S h x hx
    rw [ndn_succ] at hx
    refine ih _ (fun y hy => ?_) x hx
    rw [needS_at, Bool.or_eq_true, Bool.and_eq_true] at hy
    rcases hy with hy | ⟨h1, h2⟩
    · exact h y hy
    · exact hR m (h m h1) y (of_decide_eq_true h2)
theorem needed_eq (N : List Rw) (n : Nat) : needed N n = ndn N (fun x => decide (x = n)) (n + 1) := rfl
theorem needed_top (N : List Rw) (n : Nat) : needed N n n = true := ndn_up _ _ n (decide_eq_true rfl)
theorem needed_cl {N : List Rw} (v : Val N) {n k : Nat} (hk : k ≤ n) (h : needed N n k = true) : ∀ x ∈ mv N k, needed N n x = true := ndn_cl v _ _ k (by omega) h
theorem rch_mv {N : List Rw} (v : Val N) {k x : Nat} (h : x ∈ mv N k) : Rch N k x := by
  have hk := (mv_lt v h).2
  obtain ⟨r, er⟩ := some_at hk
  unfold mv at h
  rw [getD_some er] at h
  rcases List.mem_append.mp h with q | q
  · exact .left er q (.here x)
  · exact .right er q (.here x)
theorem needed_rch {N : List Rw} (v : Val N) {n x : Nat} (h : needed N n x = true) : Rch N n x :=
  ndn_in (R := fun x => Rch N n x) (fun k hk x hx => hk.trans (rch_mv v hx)) _ _ (fun y hy => by
    have : y = n := of_decide_eq_true hy
    rw [this]; exact .here n) x h
/-- between two rows of the second walk -/
structure AtI (N : List Rw) (S : Nat → Bool) (k : Nat) (f : List Rw) (m : Nat → Nat) : Prop where
  v : Val f
  row : ∀ x, x < k → S x = true → f[m x]? = some ((N.getD x ([], [])).1.map m, (N.getD x ([], [])).2.map m)
  on : ∀ j, j < f.length → ∃ x, x < k ∧ S x = true ∧ m x = j
  le : f.length ≤ k
theorem at_step {N : List Rw} (v : Val N) {S : Nat → Bool} {n : Nat} (cl : ∀ k, k ≤ n → S k = true → ∀ x ∈ mv N k, S x = true) : ∀ k, k ≤ n + 1 → AtI N S k ((List.range k).foldl (atS N S) ([], fun _ => 0)).1 ((List.range k).foldl (atS N S) ([], fun _ => 0)).2 := by
  intro k
  induction k with
  | zero => exact fun _ => ⟨val_nil, fun x h => absurd h (Nat.not_lt_zero _), fun j h => absurd h (Nat.not_lt_zero _), Nat.le_refl _⟩
  | succ k ih =>
    intro hk
    obtain ⟨h1, h2, h3, h4⟩ := ih (by omega)
    rw [List.range_succ, List.foldl_append]
    generalize (List.range k).foldl (atS N S) ([], fun _ => 0) = st at h1 h2 h3 h4 ⊢
    obtain ⟨f, m⟩ := st
    show AtI N S (k + 1) (atS N S (f, m) k).1 (atS N S (f, m) k).2
    unfold atS
    by_cases hs : S k = true
    · rw [if_pos hs]
      dsimp only at h1 h2 h3 h4 ⊢
      have ml : ∀ x, x < k → S x = true → m x < f.length := fun x hx sx => lt_of_some (h2 x hx sx)
      have mm : ∀ x, x ∈ mv N k → m x < f.length := fun x hx => ml x (mv_lt v hx).1 (cl k (by omega) hs x hx)
      have ext : ∀ x, x ≤ k → (N.getD x ([], [])).1.map (fun y => if y = k then f.length else m y) = (N.getD x ([], [])).1.map m ∧ (N.getD x ([], [])).2.map (fun y => if y = k then f.length else m y) = (N.getD x ([], [])).2.map m := fun x hx =>
        ⟨List.map_congr_left fun y hy => if_neg (by have := (mv_lt v (k := x) (x := y) (List.mem_append.mpr (.inl hy))).1; omega), List.map_congr_left fun y hy => if_neg (by have := (mv_lt v (k := x) (x := y) (List.mem_append.mpr (.inr hy))).1; omega)⟩
      refine ⟨val_snoc h1 (fun y hy => ?_) (fun y hy => ?_), fun x hx sx => ?_, fun j hj => ?_, by rw [List.length_append, List.length_singleton]; omega⟩
      · obtain ⟨z, hz, rfl⟩ := List.mem_map.mp hy
        exact mm z (List.mem_append.mpr (.inl hz))
      · obtain ⟨z, hz, rfl⟩ := List.mem_map.mp hy
        exact mm z (List.mem_append.mpr (.inr hz))
      · rw [(ext x (by omega)).1, (ext x (by omega)).2]
        by_cases e : x = k
        · subst e
          rw [if_pos rfl, List.getElem?_append_right (Nat.le_refl _), Nat.sub_self] <;> rfl
        · rw [if_neg e, List.getElem?_append_left (ml x (by omega) sx)]
          exact h2 x (by omega) sx
      · rw [List.length_append, List.length_singleton] at hj
        by_cases e : j = f.length
        · exact ⟨k, by omega, hs, by rw [if_pos rfl, e]⟩
        · obtain ⟨x, hx, sx, ex⟩ := h3 j (by omega)
          exact ⟨x, by omega, sx, by rw [if_neg (by omega)]; exact ex⟩
    · rw [if_neg hs]
      refine ⟨h1, fun x hx sx => ?_, fun j hj => ?_, by omega⟩
      · have : x ≠ k := fun e => hs (by rw [← e]; exact sx)
        exact h2 x (by omega) sx
      · obtain ⟨x, hx, sx, ex⟩ := h3 j hj
        exact ⟨x, by omega, sx, ex⟩
def atM (N : List Rw) (n : Nat) : Nat → Nat := ((List.range (n + 1)).foldl (atS N (needed N n)) ([], fun _ => 0)).2
theorem heapAt_ok {N : List Rw} (v : Val N) (n : Nat) : AtI N (needed N n) (n + 1) (heapAt N n) (atM N n) := at_step v (fun k hk => needed_cl v hk) _ (Nat.le_refl _)
theorem atM_last (N : List Rw) (n : Nat) : atM N n n + 1 = (heapAt N n).length := by
  unfold atM heapAt
  rw [List.range_succ, List.foldl_append]
  generalize (List.range n).foldl (atS N (needed N n)) ([], fun _ => 0) = st
  show (atS N (needed N n) st n).2 n + 1 = (atS N (needed N n) st n).1.length
  unfold atS
  rw [if_pos (needed_top N n)]
  dsimp only
  rw [if_pos rfl, List.length_append] <;> rfl
theorem at_tr {N : List Rw} (v : Val N) {n : Nat} (hn : n < N.length) : ∀ x, x ≤ n → needed N n x = true → tr (heapAt N n) (atM N n x) = tr N x := by
  have A := heapAt_ok v n
  intro x
  induction x using Nat.strongRecOn with
  | _ x ih =>
    intro hx sx
    obtain ⟨r, er⟩ := some_at (l := N) (i := x) (by omega)
    obtain ⟨a, b⟩ := v x r er
    have e := A.row x (by omega) sx
    rw [getD_some er] at e
    have cl := needed_cl v hx sx
    unfold mv at cl
    rw [getD_some er] at cl
    rw [tr_row A.v e, tr_row v er, List.map_map, List.map_map]
    congr 1
    · exact List.map_congr_left fun y hy => ih y (a y hy) (by have := a y hy; omega) (cl y (List.mem_append.mpr (.inl hy)))
    · exact List.map_congr_left fun y hy => ih y (b y hy) (by have := b y hy; omega) (cl y (List.mem_append.mpr (.inr hy)))
theorem at_rch {N : List Rw} (v : Val N) {n : Nat} {a b : Nat} (h : Rch N a b) : a ≤ n → needed N n a = true → Rch (heapAt N n) (atM N n a) (atM N n b) := by
  have A := heapAt_ok v n
  induction h with
  | here k => exact fun _ _ => .here _
  | @left k x y r e m _ ih =>
    intro hk sk
    have er := A.row k (by omega) sk
    rw [getD_some e] at er
    have hx := (v k r e).1 x m
    refine .left er (List.mem_map_of_mem m) (ih (by omega) (needed_cl v hk sk x ?_))
    unfold mv
    rw [getD_some e]
    exact List.mem_append.mpr (.inl m)
  | @right k x y r e m _ ih =>
    intro hk sk
    have er := A.row k (by omega) sk
    rw [getD_some e] at er
    have hx := (v k r e).2 x m
    refine .right er (List.mem_map_of_mem m) (ih (by omega) (needed_cl v hk sk x ?_))
    unfold mv
    rw [getD_some e]
    exact List.mem_append.mpr (.inr m)
theorem heapAt_good {N : List Rw} (v : Val N) (n : Nat) : Good (heapAt N n) := by
  have A := heapAt_ok v n
  have L := atM_last N n
  refine ⟨A.v, fun e => by rw [e] at L; simp at L, fun j hj => ?_⟩
  obtain ⟨x, hx, sx, ex⟩ := A.on j hj
  have := at_rch v (needed_rch v sx) (Nat.le_refl n) (needed_top N n)
  rw [ex] at this
  have e : (heapAt N n).length - 1 = atM N n n := by omega
  rw [e]
  exact this
theorem heapAt_last {N : List Rw} (v : Val N) {n : Nat} (hn : n < N.length) : lastT (heapAt N n) = tr N n := by
  have L := atM_last N n
  unfold lastT
  have e : (heapAt N n).length - 1 = atM N n n := by omega
  rw [e]
  exact at_tr v hn n (Nat.le_refl _) (needed_top N n)
theorem heapAt_len {N : List Rw} (v : Val N) (n : Nat) : (heapAt N n).length ≤ n + 1 := (heapAt_ok v n).le
theorem heapAt_row {N : List Rw} (v : Val N) {n : Nat} {r : Rw} (h : r ∈ heapAt N n) : ∃ x, x ≤ n ∧ r.1.length = (N.getD x ([], [])).1.length ∧ r.2.length = (N.getD x ([], [])).2.length := by
  have A := heapAt_ok v n
  obtain ⟨j, hj⟩ := List.mem_iff_getElem?.mp h
  obtain ⟨x, hx, sx, ex⟩ := A.on j (lt_of_some hj)
  have := A.row x hx sx
  rw [ex, hj] at this
  have := Option.some.inj this
  exact ⟨x, by omega, by rw [this]; simp, by rw [this]; simp⟩
end M84
namespace M84
/-- ge as an answer -/
noncomputable def geb (g h : Gm) : Bool := @decide (ge g h) (Classical.propDecidable _)
theorem geb_iff {g h : Gm} : geb g h = true ↔ ge g h := by
  unfold geb
  exact @decide_eq_true_iff _ (Classical.propDecidable _)
/-- a row is laid, once -/
def addRow (F : List Rw) (r : Rw) : List Rw × Nat := if r ∈ F then (F, F.idxOf r) else (F ++ [r], F.length)
end M84
namespace M84
theorem geb_row {F : List Rw} (v : Val F) {i j : Nat} {r q : Rw} (hi : F[i]? = some r) (hj : F[j]? = some q) : geb (tr F i) (tr F j) = (!(r.2.map fun k => geb (tr F j) (tr F k)).any id && !(q.1.map fun k => geb (tr F k) (tr F i)).any id) := by
  rw [Bool.eq_iff_iff, geb_iff, ge_iff, tr_r v hi, tr_l v hj, Bool.and_eq_true, Bool.not_eq_true', Bool.not_eq_true', List.any_eq_false, List.any_eq_false]
  constructor
  · rintro ⟨h1, h2⟩
    refine ⟨fun b hb => ?_, fun b hb => ?_⟩
    · obtain ⟨k, hk, rfl⟩ := List.mem_map.mp hb
      exact fun z => h1 _ (List.mem_map_of_mem hk) (geb_iff.mp z)
    · obtain ⟨k, hk, rfl⟩ := List.mem_map.mp hb
      exact fun z => h2 _ (List.mem_map_of_mem hk) (geb_iff.mp z)
  · rintro ⟨h1, h2⟩
    refine ⟨fun x hx z => ?_, fun x hx z => ?_⟩
    · obtain ⟨k, hk, rfl⟩ := List.mem_map.mp hx
      exact h1 _ (List.mem_map_of_mem hk) (geb_iff.mpr z)
    · obtain ⟨k, hk, rfl⟩ := List.mem_map.mp hx
      exact h2 _ (List.mem_map_of_mem hk) (geb_iff.mpr z)
end M84

/-! M5: what Forms reckons. -/
namespace M84
def opt (b : Bool) (r : Rw) : List Nat := if b = true then r.2 else r.1
noncomputable def overB (F : List Rw) (b : Bool) (x y : Nat) : Bool := if b = true then geb (tr F y) (tr F x) else geb (tr F x) (tr F y)
abbrev row (F : List Rw) (k : Nat) : Rw := F.getD k ([], [])
noncomputable def behR (F : List Rw) (wh o : Nat) (b : Bool) : Option (List Nat) := ((opt (!b) (row F o)).find? fun a => overB F b wh a).map fun a => opt b (row F a)
noncomputable def ledStep (F : List Rw) (wh : Nat) (b : Bool) (s : List Nat × List Nat) : List Nat × List Nat :=
  match s.1 with
  | [] => s
  | o :: rest =>
    match behR F wh o b with
    | some more => (rest ++ more.filter (fun k => !(decide (k ∈ rest)) && !(decide (k ∈ s.2))), s.2)
    | none => (rest, if o ∈ s.2 then s.2 else s.2 ++ [o])
noncomputable def ledN (F : List Rw) (wh : Nat) (b : Bool) : Nat → List Nat × List Nat → List Nat × List Nat
  | 0, s => s
  | n + 1, s => ledN F wh b n (ledStep F wh b s)
noncomputable def led (F : List Rw) (wh : Nat) (b : Bool) (opts : List Nat) : List Nat := (ledN F wh b (2 ^ F.length) (opts, [])).2
noncomputable def needR (F : List Rw) (b : Bool) (opts : List Nat) : List Nat := uniq (opts.filter fun x => !(opts.any fun y => decide (y ≠ x) && overB F b y x))
/-- rows without doubles -/
def NdR (F : List Rw) : Prop := ∀ r ∈ F, r.1.Nodup ∧ r.2.Nodup
theorem opt_nd {F : List Rw} (h : NdR F) (b : Bool) (k : Nat) : (opt b (row F k)).Nodup := by
  unfold opt row
  by_cases hk : k < F.length
  · have h1 := h _ (List.getElem_mem hk)
    rw [getD_lt hk]
    split
    · exact h1.2
    · exact h1.1
  · rw [List.getD_eq_getElem?_getD, List.getElem?_eq_none (by omega)]
    cases b <;> exact .nil
theorem opt_lt {F : List Rw} (v : Val F) {b : Bool} {k x : Nat} (h : x ∈ opt b (row F k)) : x < k ∧ k < F.length := by
  refine mv_lt v ?_
  unfold mv
  unfold opt row at h
  cases b
  · exact List.mem_append.mpr (.inl h)
  · exact List.mem_append.mpr (.inr h)
structure LI (F : List Rw) (s : List Nat × List Nat) : Prop where
  n1 : s.1.Nodup
  l1 : ∀ x ∈ s.1, x < F.length
  n2 : s.2.Nodup
  l2 : ∀ x ∈ s.2, x < F.length
def msr (l : List Nat) : Nat := (l.map fun x => 2 ^ x).sum
theorem msr_app (a b : List Nat) : msr (a ++ b) = msr a + msr b := by unfold msr; rw [List.map_append, List.sum_append]
theorem msr_filter (p : Nat → Bool) : ∀ l : List Nat, msr (l.filter p) ≤ msr l := by
  intro l
  induction l with
  | nil => exact Nat.le_refl _
  | cons x xs ih =>
    rw [List.filter_cons]
    have e : msr (x :: xs) = 2 ^ x + msr xs := by unfold msr; simp
    split
    · have e2 : msr (x :: xs.filter p) = 2 ^ x + msr (xs.filter p) := by unfold msr; simp
      omega
    · rw [e]; exact Nat.le_trans ih (Nat.le_add_left _ _)
/-- a list without doubles below n weighs less than 2^n -/
theorem msr_lt : ∀ n (l : List Nat), l.Nodup → (∀ x ∈ l, x < n) → msr l < 2 ^ n := by
  intro n
  induction n with
  | zero =>
    intro l _ h
    have : l = [] := List.eq_nil_iff_forall_not_mem.mpr fun x hx => Nat.not_lt_zero _ (h x hx)
    subst this
    decide
  | succ n ih =>
    intro l nd h
    by_cases hn : n ∈ l
    · have hp := List.perm_cons_erase hn
      have e : msr l = msr (n :: l.erase n) := by
        unfold msr
        exact (hp.map _).sum_nat
      have h2 := ih (l.erase n) (nd.erase n) fun x hx => by
        have h3 := h x (List.mem_of_mem_erase hx)
        have h4 : x ≠ n := fun z => by rw [z] at hx; exact (List.Nodup.not_mem_erase nd) hx
        omega
      have e2 : msr (n :: l.erase n) = 2 ^ n + msr (l.erase n) := by unfold msr; simp
      rw [e, e2, Nat.pow_succ]
      omega
    · have := ih l nd fun x hx => by
        have h3 := h x hx
        have h4 : x ≠ n := fun z => hn (by rw [← z]; exact hx)
        omega
      rw [Nat.pow_succ]
      omega
theorem beh_some {F : List Rw} {wh o : Nat} {b : Bool} {more : List Nat} (h : behR F wh o b = some more) : ∃ a, a ∈ opt (!b) (row F o) ∧ overB F b wh a = true ∧ more = opt b (row F a) := by
  unfold behR at h
  obtain ⟨a, h1, h2⟩ := Option.map_eq_some_iff.mp h
  have h3 := List.find?_some h1
  exact ⟨a, List.mem_of_find?_eq_some h1, h3, h2.symm⟩
theorem beh_none {F : List Rw} {wh o : Nat} {b : Bool} (h : behR F wh o b = none) : ∀ a ∈ opt (!b) (row F o), overB F b wh a = false := by
  unfold behR at h
  have h1 := Option.map_eq_none_iff.mp h
  intro a ha
  have := List.find?_eq_none.mp h1 a ha
  simpa using this
theorem led_li {F : List Rw} (v : Val F) (nd : NdR F) {wh : Nat} {b : Bool} {s : List Nat × List Nat} (h : LI F s) : LI F (ledStep F wh b s) ∧ (s.1 ≠ [] → msr (ledStep F wh b s).1 < msr s.1) := by
  obtain ⟨l, f⟩ := s
  obtain ⟨n1, l1, n2, l2⟩ := h
  cases l with
  | nil => exact ⟨⟨n1, l1, n2, l2⟩, fun z => absurd rfl z⟩
  | cons o rest =>
    have n1' := List.nodup_cons.mp n1
    have em : msr (o :: rest) = 2 ^ o + msr rest := by unfold msr; simp
    have ho := l1 o (List.mem_cons_self ..)
    unfold ledStep
    dsimp only at n2 l2 ⊢
    cases hb : behR F wh o b with
    | none =>
      refine ⟨⟨n1'.2, fun x hx => l1 x (List.mem_cons_of_mem _ hx), ?_, ?_⟩, fun _ => ?_⟩
      · dsimp only
        split
        · exact n2
        · rename_i hf
          exact List.nodup_append.mpr ⟨n2, by simp, fun a ha c hc e => by
            have : c = o := by simpa using hc
            rw [e, this] at ha; exact hf ha⟩
      · dsimp only
        split
        · exact l2
        · intro x hx
          rcases List.mem_append.mp hx with hx | hx
          · exact l2 x hx
          · have : x = o := by simpa using hx
            rw [this]; exact ho
      · show msr rest < _
        have := Nat.two_pow_pos o
        omega
    | some more =>
      obtain ⟨a, ha, _, rfl⟩ := beh_some hb
      have hao := opt_lt v ha
      refine ⟨⟨?_, ?_, n2, l2⟩, fun _ => ?_⟩
      · refine List.nodup_append.mpr ⟨n1'.2, List.Pairwise.filter _ (opt_nd nd b a), fun x hx y hy e => ?_⟩
        have := (List.mem_filter.mp hy).2
        rw [← e] at this
        simp [hx] at this
      · intro x hx
        rcases List.mem_append.mp hx with hx | hx
        · exact l1 x (List.mem_cons_of_mem _ hx)
        · have := opt_lt v (List.mem_filter.mp hx).1
          omega
      · show msr (rest ++ _) < _
        have h1 := msr_filter (fun k => !(decide (k ∈ rest)) && !(decide (k ∈ f))) (opt b (row F a))
        have h2 := msr_lt a (opt b (row F a)) (opt_nd nd b a) fun x hx => (opt_lt v hx).1
        have h3 : 2 ^ a ≤ 2 ^ o := Nat.pow_le_pow_right (by decide) (Nat.le_of_lt hao.1)
        rw [msr_app]
        omega
theorem ledN_end {F : List Rw} {wh : Nat} {b : Bool} : ∀ n s, s.1 = [] → ledN F wh b n s = s := by
  intro n
  induction n with
  | zero => intro s _; rfl
  | succ n ih =>
    intro s h
    have e : ledStep F wh b s = s := by unfold ledStep; rw [h]
    show ledN F wh b n (ledStep F wh b s) = s
    rw [e]
    exact ih s h
theorem ledN_ok {F : List Rw} (v : Val F) (nd : NdR F) {wh : Nat} {b : Bool} : ∀ n s, LI F s → msr s.1 ≤ n → (ledN F wh b n s).1 = [] ∧ LI F (ledN F wh b n s) := by
  have pos : ∀ l : List Nat, msr l = 0 → l = [] := fun l h => by
    cases l with
    | nil => rfl
    | cons x xs =>
      have e : msr (x :: xs) = 2 ^ x + msr xs := by unfold msr; simp
      have := Nat.two_pow_pos x
      omega
  intro n
  induction n with
  | zero => intro s h hm; exact ⟨pos s.1 (Nat.le_zero.mp hm), h⟩
  | succ n ih =>
    intro s h hm
    by_cases hs : s.1 = []
    · rw [ledN_end _ s hs]; exact ⟨hs, h⟩
    · obtain ⟨h1, h2⟩ := led_li v nd (wh := wh) (b := b) h
      have := h2 hs
      exact ih _ h1 (by omega)
theorem ledN_inv {F : List Rw} {wh : Nat} {b : Bool} {I : List Nat × List Nat → Prop} (h : ∀ s, I s → I (ledStep F wh b s)) : ∀ n s, I s → I (ledN F wh b n s) := by
  intro n
  induction n with
  | zero => exact fun s h => h
  | succ n ih => exact fun s hs => ih _ (h s hs)
theorem led_start {F : List Rw} {opts : List Nat} (h1 : opts.Nodup) (h2 : ∀ x ∈ opts, x < F.length) : LI F (opts, []) := ⟨h1, h2, .nil, fun x h => by cases h⟩
theorem led_end {F : List Rw} (v : Val F) (nd : NdR F) {wh : Nat} {b : Bool} {opts : List Nat} (h1 : opts.Nodup) (h2 : ∀ x ∈ opts, x < F.length) : (ledN F wh b (2 ^ F.length) (opts, [])).1 = [] ∧ LI F (ledN F wh b (2 ^ F.length) (opts, [])) :=
  ledN_ok v nd _ _ (led_start h1 h2) (Nat.le_of_lt (msr_lt _ _ h1 h2))
theorem led_nd {F : List Rw} (v : Val F) (nd : NdR F) {wh : Nat} {b : Bool} {opts : List Nat} (h1 : opts.Nodup) (h2 : ∀ x ∈ opts, x < F.length) : (led F wh b opts).Nodup ∧ ∀ x ∈ led F wh b opts, x < F.length := ⟨(led_end v nd h1 h2).2.n2, (led_end v nd h1 h2).2.l2⟩
theorem nodup_len {n : Nat} {l : List Nat} (h1 : l.Nodup) (h2 : ∀ x ∈ l, x < n) : l.length ≤ n := by
  have := sub_len (b := List.range n) h1 fun x hx => List.mem_range.mpr (h2 x hx)
  rwa [List.length_range] at this
theorem need_in {F : List Rw} {b : Bool} {opts : List Nat} {x : Nat} (h : x ∈ needR F b opts) : x ∈ opts := (List.mem_filter.mp (mem_uniq.mp h)).1
theorem need_nd (F : List Rw) (b : Bool) (opts : List Nat) : (needR F b opts).Nodup := asc_nodup (asc_uniq _)
end M84
namespace M84
noncomputable def addForm (F : List Rw) (r : Rw) : List Rw × Nat := addRow (addRow F r).1 (needR (addRow F r).1 false (led (addRow F r).1 (addRow F r).2 false r.1), needR (addRow F r).1 true (led (addRow F r).1 (addRow F r).2 true r.2))
noncomputable def bringS (s : List Rw × List Nat) (r : Rw) : List Rw × List Nat :=
  let q := addForm s.1 (uniq (r.1.map fun x => s.2.getD x 0), uniq (r.2.map fun x => s.2.getD x 0))
  (q.1, s.2 ++ [q.2])
noncomputable def bringR (N : List Rw) : List Rw × List Nat := N.foldl bringS ([], [])
noncomputable def leastN (N : List Rw) : List Rw := heapAt (bringR N).1 ((bringR N).2.getLast?.getD 0)
structure RowOk (F : List Rw) (r : Rw) : Prop where
  v1 : ∀ x ∈ r.1, x < F.length
  v2 : ∀ x ∈ r.2, x < F.length
  n1 : r.1.Nodup
  n2 : r.2.Nodup
theorem addRow_at (F : List Rw) (r : Rw) : (addRow F r).1[(addRow F r).2]? = some r := by
  unfold addRow
  split
  · rename_i h
    rw [List.getElem?_eq_getElem (List.idxOf_lt_length_of_mem h), List.getElem_idxOf]
  · simp
theorem addRow_le (F : List Rw) (r : Rw) : F.length ≤ (addRow F r).1.length ∧ (addRow F r).1.length ≤ F.length + 1 := by
  unfold addRow
  split
  · exact ⟨Nat.le_refl _, Nat.le_succ _⟩
  · rw [List.length_append] <;> exact ⟨Nat.le_succ _, Nat.le_refl _⟩
theorem addRow_lt (F : List Rw) (r : Rw) : (addRow F r).2 < (addRow F r).1.length := lt_of_some (addRow_at F r)
theorem addRow_val {F : List Rw} {r : Rw} (v : Val F) (h : RowOk F r) : Val (addRow F r).1 := by
  unfold addRow
  split
  · exact v
  · exact val_snoc v h.v1 h.v2
theorem addRow_nd {F : List Rw} {r : Rw} (nd : NdR F) (h : RowOk F r) : NdR (addRow F r).1 := by
  unfold addRow
  split
  · exact nd
  · intro q hq
    rcases List.mem_append.mp hq with hq | hq
    · exact nd q hq
    · have : q = r := by simpa using hq
      rw [this]; exact ⟨h.n1, h.n2⟩
theorem addRow_pre (F : List Rw) (r : Rw) : ∃ M, (addRow F r).1 = F ++ M := by
  unfold addRow
  split
  · exact ⟨[], (List.append_nil _).symm⟩
  · exact ⟨[r], rfl⟩
theorem led_in {F : List Rw} (v : Val F) (nd : NdR F) {wh : Nat} {b : Bool} {opts : List Nat} {m : Nat} (h1 : opts.Nodup) (h2 : ∀ x ∈ opts, x < m) (hm : m ≤ F.length) : ∀ x ∈ led F wh b opts, x < m := by
  have key : ∀ n s, ((∀ x ∈ s.1, x < m) ∧ ∀ x ∈ s.2, x < m) → ((∀ x ∈ (ledN F wh b n s).1, x < m) ∧ ∀ x ∈ (ledN F wh b n s).2, x < m) := ledN_inv (I := fun s => (∀ x ∈ s.1, x < m) ∧ ∀ x ∈ s.2, x < m) fun s hs => by
    obtain ⟨l, f⟩ := s
    obtain ⟨a, c⟩ := hs
    unfold ledStep
    cases l with
    | nil => exact ⟨a, c⟩
    | cons o rest =>
      dsimp only at a c ⊢
      cases hb : behR F wh o b with
      | none =>
        refine ⟨fun x hx => a x (List.mem_cons_of_mem _ hx), fun x hx => ?_⟩
        dsimp only at hx
        split at hx
        · exact c x hx
        · rcases List.mem_append.mp hx with hx | hx
          · exact c x hx
          · have : x = o := by simpa using hx
            rw [this]; exact a o (List.mem_cons_self ..)
      | some more =>
        obtain ⟨q, hq, _, rfl⟩ := beh_some hb
        refine ⟨fun x hx => ?_, c⟩
        rcases List.mem_append.mp hx with hx | hx
        · exact a x (List.mem_cons_of_mem _ hx)
        · have h1 := opt_lt v (List.mem_filter.mp hx).1
          have h2 := opt_lt v hq
          have h3 := a o (List.mem_cons_self ..)
          omega
  exact (key _ _ ⟨h2, fun x h => by cases h⟩).2
/-- the second row that add lays -/
noncomputable def row2 (F : List Rw) (r : Rw) : Rw := (needR (addRow F r).1 false (led (addRow F r).1 (addRow F r).2 false r.1), needR (addRow F r).1 true (led (addRow F r).1 (addRow F r).2 true r.2))
theorem row2_ok {F : List Rw} {r : Rw} (v : Val F) (nd : NdR F) (h : RowOk F r) : (∀ x ∈ (row2 F r).1, x < F.length) ∧ (∀ x ∈ (row2 F r).2, x < F.length) ∧ (row2 F r).1.Nodup ∧ (row2 F r).2.Nodup := by
  have v' := addRow_val v h
  have nd' := addRow_nd nd h
  have hl := (addRow_le F r).1
  exact ⟨fun x hx => led_in v' nd' h.n1 h.v1 hl x (need_in hx), fun x hx => led_in v' nd' h.n2 h.v2 hl x (need_in hx), need_nd _ _ _, need_nd _ _ _⟩
theorem row2_row {F : List Rw} {r : Rw} (v : Val F) (nd : NdR F) (h : RowOk F r) : RowOk (addRow F r).1 (row2 F r) := by
  obtain ⟨a, b, c, d⟩ := row2_ok v nd h
  have hl := (addRow_le F r).1
  exact ⟨fun x hx => Nat.lt_of_lt_of_le (a x hx) hl, fun x hx => Nat.lt_of_lt_of_le (b x hx) hl, c, d⟩
theorem addForm_eq (F : List Rw) (r : Rw) : addForm F r = addRow (addRow F r).1 (row2 F r) := rfl
structure BOk (i : Nat) (s : List Rw × List Nat) : Prop where
  v : Val s.1
  nd : NdR s.1
  len : s.1.length ≤ 2 * i
  l2 : s.2.length = i
  lt : ∀ t ∈ s.2, t < s.1.length
theorem uniq_lt {l : List Nat} {f : Nat → Nat} {n : Nat} (h : ∀ x ∈ l, f x < n) : ∀ y ∈ uniq (l.map f), y < n := by
  intro y hy
  obtain ⟨x, hx, rfl⟩ := List.mem_map.mp (mem_uniq.mp hy)
  exact h x hx
theorem bring_row {i : Nat} {s : List Rw × List Nat} (h : BOk i s) {r : Rw} (h1 : ∀ x ∈ r.1, x < i) (h2 : ∀ x ∈ r.2, x < i) : RowOk s.1 (uniq (r.1.map fun x => s.2.getD x 0), uniq (r.2.map fun x => s.2.getD x 0)) := by
  have g : ∀ x, x < i → s.2.getD x 0 < s.1.length := fun x hx => by
    rw [getD_lt (by rw [h.l2]; exact hx)]
    exact h.lt _ (List.getElem_mem _)
  exact ⟨uniq_lt fun x hx => g x (h1 x hx), uniq_lt fun x hx => g x (h2 x hx), asc_nodup (asc_uniq _), asc_nodup (asc_uniq _)⟩
theorem bring_step {i : Nat} {s : List Rw × List Nat} (h : BOk i s) {r : Rw} (h1 : ∀ x ∈ r.1, x < i) (h2 : ∀ x ∈ r.2, x < i) : BOk (i + 1) (bringS s r) := by
  have ok := bring_row h h1 h2
  unfold bringS
  dsimp only
  generalize (uniq (r.1.map fun x => s.2.getD x 0), uniq (r.2.map fun x => s.2.getD x 0)) = q at ok ⊢
  have v1 := addRow_val h.v ok
  have nd1 := addRow_nd h.nd ok
  have ok2 := row2_row h.v h.nd ok
  have e := addForm_eq s.1 q
  have a1 := addRow_le s.1 q
  have a2 := addRow_le (addRow s.1 q).1 (row2 s.1 q)
  refine ⟨by rw [e]; exact addRow_val v1 ok2, by rw [e]; exact addRow_nd nd1 ok2, ?_, by rw [List.length_append, h.l2] <;> rfl, fun t ht => ?_⟩
  · rw [e]; have := h.len; dsimp only; omega
  · dsimp only at ht ⊢
    rcases List.mem_append.mp ht with ht | ht
    · have := h.lt t ht
      rw [e]; omega
    · have : t = (addForm s.1 q).2 := by simpa using ht
      rw [this, e]; exact addRow_lt _ _
theorem bring_ok {N : List Rw} (v : Val N) : ∀ i, i ≤ N.length → BOk i ((N.take i).foldl bringS ([], [])) := by
  intro i
  induction i with
  | zero => exact fun _ => ⟨val_nil, fun r h => (nomatch h), Nat.le_refl _, rfl, fun t h => (nomatch h)⟩
  | succ i ih =>
    intro hi
    obtain ⟨r, er⟩ := some_at (l := N) (i := i) hi
    obtain ⟨a, b⟩ := v i r er
    have e : N.take (i + 1) = N.take i ++ [r] := by rw [List.take_add_one, er] <;> rfl
    rw [e, List.foldl_append]
    exact bring_step (ih (Nat.le_of_lt hi)) a b
theorem bringR_ok {N : List Rw} (v : Val N) : BOk N.length (bringR N) := by
  have := bring_ok v N.length (Nat.le_refl _)
  rwa [List.take_length] at this
end M84
namespace M84
/-- the rows of a star -/
def starN (n : Nat) : List Rw := (List.range (n + 1)).map fun k => (List.range k, List.range k)
theorem starN_at {n k : Nat} {r : Rw} (h : (starN n)[k]? = some r) : k ≤ n ∧ r = (List.range k, List.range k) := by
  unfold starN at h
  have hl := lt_of_some h
  rw [List.length_map, List.length_range] at hl
  rw [List.getElem?_map, List.getElem?_range hl] at h
  exact ⟨by omega, (Option.some.inj h).symm⟩
theorem starN_len (n : Nat) : (starN n).length = n + 1 := by unfold starN; rw [List.length_map, List.length_range]
theorem starN_get {n k : Nat} (h : k ≤ n) : (starN n)[k]? = some (List.range k, List.range k) := by
  unfold starN
  rw [List.getElem?_map, List.getElem?_range (by omega)] <;> rfl
theorem starN_good (n : Nat) : Good (starN n) := by
  refine ⟨fun k r h => ?_, fun e => ?_, fun k hk => ?_⟩
  · obtain ⟨_, rfl⟩ := starN_at h
    exact ⟨fun x hx => List.mem_range.mp hx, fun x hx => List.mem_range.mp hx⟩
  · have := starN_len n
    rw [e] at this; simp at this
  · rw [starN_len] at hk ⊢
    rw [Nat.add_sub_cancel]
    by_cases e : k = n
    · rw [e]; exact .here n
    · exact .left (starN_get (Nat.le_refl n)) (List.mem_range.mpr (by omega)) (.here k)
end M84

/-! M6: joined rows; the heaps of rows. -/
namespace M84
theorem nodup_snoc {α : Type} {l : List α} {a : α} (h : l.Nodup) (ha : a ∉ l) : (l ++ [a]).Nodup := List.nodup_append.mpr ⟨h, by simp, fun x hx y hy e => by
  have : y = a := by simpa using hy
  rw [e, this] at hx; exact ha hx⟩
theorem rch_app {N M : List Rw} {a b : Nat} (h : Rch N a b) : Rch (N ++ M) a b := by
  induction h with
  | here k => exact .here k
  | left e m _ ih => exact .left (by rw [List.getElem?_append_left (lt_of_some e)]; exact e) m ih
  | right e m _ ih => exact .right (by rw [List.getElem?_append_left (lt_of_some e)]; exact e) m ih
/-- in rows without doubles a tree stands once -/
theorem tr_inj {f : List Rw} (v : Val f) (nd : f.Nodup) : ∀ n i j, i + j < n → i < f.length → j < f.length → tr f i = tr f j → i = j := by
  intro n
  induction n with
  | zero => intro i j h; omega
  | succ n ih =>
    intro i j hn hi hj e
    obtain ⟨r, er⟩ := some_at hi
    obtain ⟨q, eq⟩ := some_at hj
    obtain ⟨v1, v2⟩ := v i r er
    obtain ⟨w1, w2⟩ := v j q eq
    rw [tr_row v er, tr_row v eq] at e
    have e1 := Gm.mk.inj e
    have side : ∀ a b : List Nat, (∀ x ∈ a, x < i) → (∀ x ∈ b, x < j) → a.map (tr f) = b.map (tr f) → a = b := by
      intro a
      induction a with
      | nil => intro b _ _ h; exact (List.map_eq_nil_iff.mp h.symm).symm
      | cons x xs ihx =>
        intro b ha hb h
        cases b with
        | nil => simp at h
        | cons y ys =>
          rw [List.map_cons, List.map_cons, List.cons.injEq] at h
          have hx := ha x (List.mem_cons_self ..)
          have hy := hb y (List.mem_cons_self ..)
          have exy := ih x y (by omega) (by omega) (by omega) h.1
          rw [exy, ihx ys (fun z hz => ha z (List.mem_cons_of_mem _ hz)) (fun z hz => hb z (List.mem_cons_of_mem _ hz)) h.2]
    have h1 := side r.1 q.1 v1 w1 e1.1
    have h2 := side r.2 q.2 v2 w2 e1.2
    have : r = q := Prod.ext h1 h2
    subst this
    exact nodup_at nd er eq
structure JH (f0 : List Rw) (N : List Rw) (f : List Rw) (th : List Nat) : Prop where
  v : Val f
  nd : f.Nodup
  pre : ∃ M, f = f0 ++ M
  len : th.length = N.length
  row : ∀ (k : Nat) (r : Rw), N[k]? = some r → f[th.getD k 0]? = some (jRow th r)
  on : ∀ j, j < f.length → j < f0.length ∨ ∃ k, k < N.length ∧ th.getD k 0 = j
theorem jRow_ext {t t' : List Nat} {r : Rw} (h1 : ∀ x ∈ r.1, t.getD x 0 = t'.getD x 0) (h2 : ∀ x ∈ r.2, t.getD x 0 = t'.getD x 0) : jRow t r = jRow t' r := by
  unfold jRow
  rw [List.map_congr_left h1, List.map_congr_left h2]
theorem jHeap_ok {f0 : List Rw} (v0 : Val f0) (n0 : f0.Nodup) {N : List Rw} : Val N → JH f0 N (jHeap f0 N).1 (jHeap f0 N).2 := by
  refine snoc_ind (P := fun N => Val N → JH f0 N (jHeap f0 N).1 (jHeap f0 N).2) (fun _ => ⟨v0, n0, ⟨[], (List.append_nil _).symm⟩, rfl, fun k r h => by simp at h, fun j h => .inl h⟩) (fun N r ih v => ?_) N
  obtain ⟨h1, h2, ⟨M, h3⟩, h4, h5, h6⟩ := ih (val_pre v)
  obtain ⟨v1, v2⟩ := val_at v
  have es : jHeap f0 (N ++ [r]) = jStep (jHeap f0 N) r := by
    unfold jHeap
    rw [List.foldl_append] <;> rfl
  rw [es]
  generalize jHeap f0 N = s at h1 h2 h3 h4 h5 h6
  obtain ⟨f, th⟩ := s
  dsimp only at h1 h2 h3 h4 h5 h6
  have thl : ∀ k, k < N.length → th.getD k 0 < f.length := fun k hk => by
    obtain ⟨q, eq⟩ := some_at (l := N) (i := k) hk
    exact lt_of_some (h5 k q eq)
  have q1 : ∀ x ∈ (jRow th r).1, x < f.length := fun x hx => by
    obtain ⟨y, hy, rfl⟩ := List.mem_map.mp hx
    exact thl y (v1 y hy)
  have q2 : ∀ x ∈ (jRow th r).2, x < f.length := fun x hx => by
    obtain ⟨y, hy, rfl⟩ := List.mem_map.mp hx
    exact thl y (v2 y hy)
  have ext : ∀ (z : Nat) (q : Rw), (∀ x ∈ q.1, x < N.length) → (∀ x ∈ q.2, x < N.length) → jRow (th ++ [z]) q = jRow th q := fun z q a b =>
    jRow_ext (fun x hx => getD_app (by rw [h4]; exact a x hx)) (fun x hx => getD_app (by rw [h4]; exact b x hx))
  have vb : ∀ (i : Nat) (q : Rw), N[i]? = some q → (∀ x ∈ q.1, x < N.length) ∧ (∀ x ∈ q.2, x < N.length) := fun i q e => by
    obtain ⟨a, b⟩ := val_pre v i q e
    have := lt_of_some e
    exact ⟨fun x hx => Nat.lt_trans (a x hx) this, fun x hx => Nat.lt_trans (b x hx) this⟩
  unfold jStep
  dsimp only
  by_cases hm : jRow th r ∈ f
  · rw [if_pos hm]
    refine ⟨h1, h2, ⟨M, h3⟩, by rw [List.length_append, List.length_append, h4] <;> rfl, fun k q e => ?_, fun j hj => ?_⟩
    · rcases snoc_some e with e | ⟨rfl, rfl⟩
      · rw [getD_app (by rw [h4]; exact lt_of_some e), ext _ q (vb k q e).1 (vb k q e).2]
        exact h5 k q e
      · rw [ext _ q v1 v2, ← h4, getD_end, List.getElem?_eq_getElem (List.idxOf_lt_length_of_mem hm), List.getElem_idxOf]
    · rcases h6 j hj with h | ⟨k, hk, e⟩
      · exact .inl h
      · exact .inr ⟨k, by rw [List.length_append]; omega, by rw [getD_app (by rw [h4]; exact hk)]; exact e⟩
  · rw [if_neg hm]
    have hi : (f ++ [jRow th r]).idxOf (jRow th r) = f.length := by
      rw [List.idxOf_append, if_neg hm, List.idxOf_cons_self, Nat.zero_add]
    rw [hi]
    refine ⟨val_snoc h1 q1 q2, nodup_snoc h2 hm, ⟨M ++ [jRow th r], by rw [h3, List.append_assoc]⟩, by rw [List.length_append, List.length_append, h4] <;> rfl, fun k q e => ?_, fun j hj => ?_⟩
    · rcases snoc_some e with e | ⟨rfl, rfl⟩
      · have e5 := h5 k q e
        rw [getD_app (by rw [h4]; exact lt_of_some e), ext _ q (vb k q e).1 (vb k q e).2, List.getElem?_append_left (lt_of_some e5)]
        exact e5
      · rw [ext _ q v1 v2, ← h4, getD_end]
        simp
    · rw [List.length_append, List.length_singleton] at hj
      by_cases e : j = f.length
      · exact .inr ⟨N.length, by rw [List.length_append] <;> exact Nat.lt_succ_self _, by rw [← h4, getD_end]; exact e.symm⟩
      · rcases h6 j (by omega) with h | ⟨k, hk, e⟩
        · exact .inl h
        · exact .inr ⟨k, by rw [List.length_append]; omega, by rw [getD_app (by rw [h4]; exact hk)]; exact e⟩
theorem JH.tr {f0 N f : List Rw} {th : List Nat} (J : JH f0 N f th) (v : Val N) : ∀ k, k < N.length → M84.tr f (th.getD k 0) = M84.tr N k := by
  intro k
  induction k using Nat.strongRecOn with
  | _ k ih =>
    intro hk
    obtain ⟨r, er⟩ := some_at hk
    obtain ⟨a, b⟩ := v k r er
    rw [tr_row J.v (J.row k r er), tr_row v er]
    unfold jRow
    rw [List.map_map, List.map_map]
    congr 1
    · exact List.map_congr_left fun x hx => ih x (a x hx) (by have := a x hx; omega)
    · exact List.map_congr_left fun x hx => ih x (b x hx) (by have := b x hx; omega)
theorem JH.rch {f0 N f : List Rw} {th : List Nat} (J : JH f0 N f th) {a b : Nat} (h : Rch N a b) : Rch f (th.getD a 0) (th.getD b 0) := by
  induction h with
  | here k => exact .here _
  | left e m _ ih => exact .left (J.row _ _ e) (List.mem_map_of_mem m) ih
  | right e m _ ih => exact .right (J.row _ _ e) (List.mem_map_of_mem m) ih
/-- while the heaps of a side are joined; ls are all lasts so far -/
structure JA (f : List Rw) (ls : List Nat) : Prop where
  v : Val f
  nd : f.Nodup
  on : ∀ j, j < f.length → ∃ l ∈ ls, Rch f l j
  lt : ∀ l ∈ ls, l < f.length
theorem last_th {N : List Rw} (g : Good N) {th : List Nat} (h : th.length = N.length) : th.getLast?.getD 0 = th.getD (N.length - 1) 0 := by
  rw [List.getLast?_eq_getElem?, h, List.getD_eq_getElem?_getD]
theorem jSide_ok (pre : List Nat) : ∀ (L : List (List Rw)) (f0 : List Rw) (l0 : List Nat), (∀ N ∈ L, Good N) → JA f0 (pre ++ l0) →
    JA (L.foldl jSide (f0, l0)).1 (pre ++ (L.foldl jSide (f0, l0)).2) ∧ (∃ M, (L.foldl jSide (f0, l0)).1 = f0 ++ M) ∧ (L.foldl jSide (f0, l0)).2.map (tr (L.foldl jSide (f0, l0)).1) = l0.map (tr (L.foldl jSide (f0, l0)).1) ++ L.map lastT := by
  intro L
  induction L with
  | nil => intro f0 l0 _ h; exact ⟨h, ⟨[], (List.append_nil _).symm⟩, (List.append_nil _).symm⟩
  | cons N L ih =>
    intro f0 l0 hg h
    have g := hg N (List.mem_cons_self ..)
    have J := jHeap_ok h.v h.nd g.v
    have hl := last_th g J.len
    have hpos := List.length_pos_iff.mpr g.ne
    have htl : (jHeap f0 N).2.getD (N.length - 1) 0 < (jHeap f0 N).1.length := by
      obtain ⟨q, eq⟩ := some_at (l := N) (i := N.length - 1) (by omega)
      exact lt_of_some (J.row _ _ eq)
    obtain ⟨M, eM⟩ := J.pre
    have step : JA (jSide (f0, l0) N).1 (pre ++ (jSide (f0, l0) N).2) := by
      unfold jSide
      dsimp only
      refine ⟨J.v, J.nd, fun j hj => ?_, fun l hlm => ?_⟩
      · rcases J.on j hj with hj | ⟨k, hk, e⟩
        · obtain ⟨l, hl', r⟩ := h.on j hj
          exact ⟨l, by rw [← List.append_assoc]; exact List.mem_append.mpr (.inl hl'), by rw [eM]; exact rch_app r⟩
        · refine ⟨(jHeap f0 N).2.getLast?.getD 0, by simp, ?_⟩
          rw [hl, ← e]
          exact J.rch (g.all k hk)
      · rw [← List.append_assoc] at hlm
        rcases List.mem_append.mp hlm with hlm | hlm
        · have := h.lt l hlm
          rw [eM, List.length_append]; omega
        · have : l = (jHeap f0 N).2.getLast?.getD 0 := by simpa using hlm
          rw [this, hl]; exact htl
    obtain ⟨h1, ⟨M2, h2⟩, h3⟩ := ih (jSide (f0, l0) N).1 (jSide (f0, l0) N).2 (fun N' hN => hg N' (List.mem_cons_of_mem _ hN)) step
    have e0 : (N :: L).foldl jSide (f0, l0) = L.foldl jSide ((jSide (f0, l0) N).1, (jSide (f0, l0) N).2) := rfl
    rw [e0]
    generalize L.foldl jSide ((jSide (f0, l0) N).1, (jSide (f0, l0) N).2) = FF at h1 h2 h3 ⊢
    refine ⟨h1, ⟨M ++ M2, ?_⟩, ?_⟩
    · rw [h2]
      show (jHeap f0 N).1 ++ M2 = _
      rw [eM, List.append_assoc]
    · rw [h3]
      have e1 : (jSide (f0, l0) N).2 = l0 ++ [(jHeap f0 N).2.getLast?.getD 0] := rfl
      rw [e1, List.map_append, List.append_assoc]
      congr 1
      rw [List.map_cons]
      show [_] ++ L.map lastT = lastT N :: L.map lastT
      rw [List.singleton_append]
      congr 1
      rw [hl, h2]
      show tr ((jHeap f0 N).1 ++ M2) _ = _
      rw [tr_app _ _ _ htl]
      exact J.tr g.v (N.length - 1) (by omega)
theorem rch_lt {N : List Rw} (v : Val N) {a b : Nat} (h : Rch N a b) : sizeOf (tr N b) ≤ sizeOf (tr N a) := by
  induction h with
  | here k => exact Nat.le_refl _
  | left e m _ ih => exact Nat.le_trans ih (Nat.le_of_lt (szl (by rw [tr_l v e]; exact List.mem_map_of_mem m)))
  | right e m _ ih => exact Nat.le_trans ih (Nat.le_of_lt (szr (by rw [tr_r v e]; exact List.mem_map_of_mem m)))
structure JD (A B : List (List Rw)) (N : List Rw) : Prop where
  g : Good N
  nd : N.Nodup
  t : lastT N = .mk (A.map lastT) (B.map lastT)
theorem joined_ok {A B : List (List Rw)} (hA : ∀ N ∈ A, Good N) (hB : ∀ N ∈ B, Good N) : JD A B (joined A B) := by
  obtain ⟨a1, _, a3⟩ := jSide_ok [] A [] [] hA ⟨val_nil, .nil, fun j h => absurd h (Nat.not_lt_zero _), fun l h => (nomatch h)⟩
  have b0 : JA (A.foldl jSide ([], [])).1 ((A.foldl jSide ([], [])).2 ++ []) := by rw [List.append_nil]; exact a1
  obtain ⟨b1, ⟨M, b2⟩, b3⟩ := jSide_ok (A.foldl jSide ([], [])).2 B (A.foldl jSide ([], [])).1 [] hB b0
  have ej : joined A B = (B.foldl jSide ((A.foldl jSide ([], [])).1, [])).1 ++ [((A.foldl jSide ([], [])).2, (B.foldl jSide ((A.foldl jSide ([], [])).1, [])).2)] := rfl
  rw [ej]
  have la : ∀ l ∈ (A.foldl jSide ([], [])).2, l < (A.foldl jSide ([], [])).1.length := fun l hl => a1.lt l hl
  generalize (A.foldl jSide ([], [])).1 = fa at *
  generalize (A.foldl jSide ([], [])).2 = lA at *
  generalize (B.foldl jSide (fa, [])).1 = f at *
  generalize (B.foldl jSide (fa, [])).2 = lB at *
  have a3' : lA.map (tr f) = A.map lastT := by
    have : lA.map (tr f) = lA.map (tr fa) := List.map_congr_left fun l hl => by rw [b2]; exact tr_app _ _ _ (la l hl)
    rw [this, a3] <;> rfl
  have b3' : lB.map (tr f) = B.map lastT := by rw [b3] <;> rfl
  have vN : Val (f ++ [(lA, lB)]) := val_snoc b1.v (fun x hx => b1.lt x (List.mem_append.mpr (.inl hx))) (fun x hx => b1.lt x (List.mem_append.mpr (.inr hx)))
  have el : (f ++ [(lA, lB)])[f.length]? = some (lA, lB) := by simp
  have hlen : (f ++ [(lA, lB)]).length - 1 = f.length := by rw [List.length_append] <;> rfl
  have all : ∀ j, j < f.length → Rch (f ++ [(lA, lB)]) f.length j := fun j hj => by
    obtain ⟨l, hl, r⟩ := b1.on j hj
    rcases List.mem_append.mp hl with hl | hl
    · exact .left el hl (rch_app r)
    · exact .right el hl (rch_app r)
  have small : ∀ j, j < f.length → sizeOf (tr (f ++ [(lA, lB)]) j) < sizeOf (tr (f ++ [(lA, lB)]) f.length) := fun j hj => by
    obtain ⟨l, hl, r⟩ := b1.on j hj
    have h1 := rch_lt vN (rch_app (M := [(lA, lB)]) r)
    rcases List.mem_append.mp hl with hl | hl
    · have := szl (g := tr (f ++ [(lA, lB)]) f.length) (x := tr (f ++ [(lA, lB)]) l) (by rw [tr_l vN el]; exact List.mem_map_of_mem hl)
      omega
    · have := szr (g := tr (f ++ [(lA, lB)]) f.length) (x := tr (f ++ [(lA, lB)]) l) (by rw [tr_r vN el]; exact List.mem_map_of_mem hl)
      omega
  refine ⟨⟨vN, by simp, fun k hk => ?_⟩, nodup_snoc b1.nd fun hm => ?_, ?_⟩
  · rw [hlen]
    rw [List.length_append, List.length_singleton] at hk
    by_cases e : k = f.length
    · rw [e]; exact .here _
    · exact all k (by omega)
  · obtain ⟨j, hj⟩ := List.mem_iff_getElem?.mp hm
    have hjl := lt_of_some hj
    have := small j hjl
    rw [tr_row vN (k := j) (by rw [List.getElem?_append_left hjl]; exact hj), tr_row vN el] at this
    omega
  · unfold lastT
    rw [hlen, tr_last, a3', b3']
    rfl
end M84

namespace M84
/-- the sides' lengths of rows -/
def SideP (p : Nat → Prop) (N : List Rw) : Prop := ∀ r ∈ N, p r.1.length ∧ p r.2.length
theorem jHeap_side {p : Nat → Prop} : ∀ (N : List Rw) (s : List Rw × List Nat), SideP p s.1 → SideP p N → SideP p (N.foldl jStep s).1 := by
  intro N
  induction N with
  | nil => intro s h _; exact h
  | cons r N ih =>
    intro s h hN
    refine ih _ ?_ fun q hq => hN q (List.mem_cons_of_mem _ hq)
    unfold jStep
    dsimp only
    split
    · exact h
    · intro q hq
      rcases List.mem_append.mp hq with hq | hq
      · exact h q hq
      · have : q = jRow s.2 r := by simpa using hq
        rw [this]
        unfold jRow
        rw [List.length_map, List.length_map]
        exact hN r (List.mem_cons_self ..)
theorem jSide_side {p : Nat → Prop} : ∀ (L : List (List Rw)) (s : List Rw × List Nat), SideP p s.1 → (∀ N ∈ L, SideP p N) → SideP p (L.foldl jSide s).1 ∧ (L.foldl jSide s).2.length = s.2.length + L.length := by
  intro L
  induction L with
  | nil => intro s h _; exact ⟨h, rfl⟩
  | cons N L ih =>
    intro s h hL
    obtain ⟨h1, h2⟩ := ih (jSide s N) (jHeap_side N (s.1, []) h (hL N (List.mem_cons_self ..))) fun N' hN => hL N' (List.mem_cons_of_mem _ hN)
    refine ⟨h1, ?_⟩
    rw [List.foldl_cons, h2]
    unfold jSide
    simp only [List.length_append, List.length_cons, List.length_nil]
    omega
theorem joined_side {p : Nat → Prop} {A B : List (List Rw)} (hA : ∀ N ∈ A, SideP p N) (hB : ∀ N ∈ B, SideP p N) (la : p A.length) (lb : p B.length) : SideP p (joined A B) := by
  obtain ⟨a1, a2⟩ := jSide_side A ([], []) (fun r h => (nomatch h)) hA
  obtain ⟨b1, b2⟩ := jSide_side B ((A.foldl jSide ([], [])).1, []) a1 hB
  have ej : joined A B = (B.foldl jSide ((A.foldl jSide ([], [])).1, [])).1 ++ [((A.foldl jSide ([], [])).2, (B.foldl jSide ((A.foldl jSide ([], [])).1, [])).2)] := rfl
  rw [ej]
  intro r hr
  rcases List.mem_append.mp hr with hr | hr
  · exact b1 r hr
  · have : r = ((A.foldl jSide ([], [])).2, (B.foldl jSide ((A.foldl jSide ([], [])).1, [])).2) := by simpa using hr
    rw [this]
    refine ⟨?_, ?_⟩
    · show p (A.foldl jSide ([], [])).2.length
      rw [a2]
      show p (0 + A.length)
      rw [Nat.zero_add]; exact la
    · show p (B.foldl jSide ((A.foldl jSide ([], [])).1, [])).2.length
      rw [b2]
      show p (0 + B.length)
      rw [Nat.zero_add]; exact lb
/-- the heaps of rows -/
def hpS (hs : List (List Rw)) (r : Rw) : List (List Rw) := hs ++ [joined (r.1.map fun x => hs.getD x []) (r.2.map fun x => hs.getD x [])]
def heapsR (R : List Rw) : List (List Rw) := R.foldl hpS []
def heapR (R : List Rw) : List Rw := (heapsR R).getLast?.getD []
structure HOk (R : List Rw) (p : Nat → Prop) (k : Nat) (N : List Rw) : Prop where
  g : Good N
  nd : N.Nodup
  t : lastT N = tr R k
  side : SideP p N
/-- a heap has no more rows than those it is made of -/
theorem HOk.len {R : List Rw} (v : Val R) {p : Nat → Prop} {k : Nat} {N : List Rw} (h : HOk R p k N) (hk : k < R.length) : N.length ≤ k + 1 := by
  have key : ∀ j, j < N.length → ∃ i, i < k + 1 ∧ tr N j = tr R i := fun j hj => by
    have b := rch_below h.g.v (h.g.all j hj)
    have e : tr N (N.length - 1) = tr R k := h.t
    rw [e] at b
    obtain ⟨i, hi, ei⟩ := below_rch v b k hk rfl
    have := hi.le v
    exact ⟨i, by omega, ei⟩
  have key2 : ∃ f : Nat → Nat, ∀ j, j < N.length → f j < k + 1 ∧ tr N j = tr R (f j) := by
    refine ⟨fun j => if hj : j < N.length then (key j hj).choose else 0, fun j hj => ?_⟩
    simp only [dif_pos hj]
    exact (key j hj).choose_spec
  obtain ⟨f, hf⟩ := key2
  have nd : ((List.range N.length).map f).Nodup := by
    refine List.pairwise_map.mpr (List.Pairwise.imp_of_mem (fun {a b} ha hb ne e => ne ?_) List.nodup_range)
    have ha' := List.mem_range.mp ha
    have hb' := List.mem_range.mp hb
    exact tr_inj h.g.v h.nd _ a b (Nat.lt_succ_self _) ha' hb' (by rw [(hf a ha').2, (hf b hb').2, e])
  have := sub_len (b := List.range (k + 1)) nd fun x hx => by
    obtain ⟨j, hj, rfl⟩ := List.mem_map.mp hx
    exact List.mem_range.mpr (hf j (List.mem_range.mp hj)).1
  rw [List.length_map, List.length_range, List.length_range] at this
  exact this
theorem HOk.mono {R M : List Rw} {p : Nat → Prop} {k : Nat} {N : List Rw} (h : HOk R p k N) (hk : k < R.length) : HOk (R ++ M) p k N := ⟨h.g, h.nd, by rw [tr_app R M k hk]; exact h.t, h.side⟩
theorem heapsR_snoc (R : List Rw) (r : Rw) : heapsR (R ++ [r]) = hpS (heapsR R) r := by
  unfold heapsR
  rw [List.foldl_append] <;> rfl
theorem heapsR_ok {p : Nat → Prop} {R : List Rw} : Val R → SideP p R → (heapsR R).length = R.length ∧ ∀ (k : Nat) N, (heapsR R)[k]? = some N → HOk R p k N := by
  refine snoc_ind (P := fun R => Val R → SideP p R → (heapsR R).length = R.length ∧ ∀ (k : Nat) N, (heapsR R)[k]? = some N → HOk R p k N) (fun _ _ => ⟨rfl, fun k N h => by simp [heapsR] at h⟩) (fun R r ih v sd => ?_) R
  obtain ⟨h1, h2⟩ := ih (val_pre v) fun q hq => sd q (List.mem_append.mpr (.inl hq))
  obtain ⟨v1, v2⟩ := val_at v
  have hr := sd r (by simp)
  rw [heapsR_snoc]
  refine ⟨by unfold hpS; rw [List.length_append, List.length_append, h1] <;> rfl, fun k N h => ?_⟩
  have get : ∀ x, x < R.length → ∃ N', (heapsR R)[x]? = some N' ∧ (heapsR R).getD x [] = N' ∧ HOk R p x N' := fun x hx => by
    obtain ⟨N', e⟩ := some_at (l := heapsR R) (i := x) (by rw [h1]; exact hx)
    exact ⟨N', e, getD_some e, h2 x N' e⟩
  rcases snoc_some h with h | ⟨rfl, rfl⟩
  · have hk := lt_of_some h
    rw [h1] at hk
    exact (h2 k N h).mono hk
  · rw [h1]
    have hA : ∀ l : List Nat, (∀ x ∈ l, x < R.length) → ∀ N ∈ l.map fun x => (heapsR R).getD x [], Good N ∧ SideP p N := fun l hl N hN => by
      obtain ⟨x, hx, rfl⟩ := List.mem_map.mp hN
      obtain ⟨N', _, e, ok⟩ := get x (hl x hx)
      rw [e]
      exact ⟨ok.g, ok.side⟩
    have hT : ∀ l : List Nat, (∀ x ∈ l, x < R.length) → (l.map fun x => (heapsR R).getD x []).map lastT = l.map (tr R) := fun l hl => by
      rw [List.map_map]
      refine List.map_congr_left fun x hx => ?_
      obtain ⟨N', _, e, ok⟩ := get x (hl x hx)
      show lastT ((heapsR R).getD x []) = _
      rw [e]
      exact ok.t
    have J := joined_ok (fun N hN => (hA r.1 v1 N hN).1) (fun N hN => (hA r.2 v2 N hN).1)
    refine ⟨J.g, J.nd, ?_, joined_side (fun N hN => (hA r.1 v1 N hN).2) (fun N hN => (hA r.2 v2 N hN).2) (by rw [List.length_map]; exact hr.1) (by rw [List.length_map]; exact hr.2)⟩
    rw [J.t, hT _ v1, hT _ v2, tr_last]
theorem heapR_ok {p : Nat → Prop} {R : List Rw} (v : Val R) (ne : R ≠ []) (sd : SideP p R) : HOk R p (R.length - 1) (heapR R) := by
  obtain ⟨h1, h2⟩ := heapsR_ok v sd
  refine h2 _ _ ?_
  unfold heapR
  have hp := List.length_pos_iff.mpr ne
  rw [List.getLast?_eq_getElem?, h1]
  obtain ⟨N, e⟩ := some_at (l := heapsR R) (i := R.length - 1) (by rw [h1]; omega)
  rw [e] <;> rfl
theorem heapR_t {p : Nat → Prop} {R : List Rw} (v : Val R) (ne : R ≠ []) (sd : SideP p R) : lastT (heapR R) = lastT R := (heapR_ok v ne sd).t
end M84
namespace M84
/-- the ladder's rows -/
def lad (k : Nat) : List Nat := (List.range (k - (k - 2))).map fun i => k - 2 + i
def ladR (m : Nat) : List Rw := (List.range m).map fun k => (lad k, lad k)
theorem lad_lt {k x : Nat} (h : x ∈ lad k) : x < k := by
  obtain ⟨i, hi, rfl⟩ := List.mem_map.mp h
  have := List.mem_range.mp hi
  omega
theorem lad_len (k : Nat) : (lad k).length ≤ 2 := by unfold lad; rw [List.length_map, List.length_range]; omega
theorem ladR_at {m k : Nat} {r : Rw} (h : (ladR m)[k]? = some r) : k < m ∧ r = (lad k, lad k) := by
  unfold ladR at h
  have hl := lt_of_some h
  rw [List.length_map, List.length_range] at hl
  rw [List.getElem?_map, List.getElem?_range hl] at h
  exact ⟨hl, (Option.some.inj h).symm⟩
theorem ladR_len (m : Nat) : (ladR m).length = m := by unfold ladR; rw [List.length_map, List.length_range]
theorem ladR_val (m : Nat) : Val (ladR m) := fun k r h => by
  obtain ⟨_, rfl⟩ := ladR_at h
  exact ⟨fun x hx => lad_lt hx, fun x hx => lad_lt hx⟩
theorem ladR_snoc (m : Nat) : ladR (m + 1) = ladR m ++ [(lad m, lad m)] := by unfold ladR; rw [List.range_succ, List.map_append] <;> rfl
/-- the rows of a sum -/
def sumRow (m k j : Nat) (r q : Rw) : Rw := (r.1.map (fun x => x * m + j) ++ q.1.map (fun x => k * m + x), r.2.map (fun x => x * m + j) ++ q.2.map (fun x => k * m + x))
def sumN (A B : List Rw) (t : Nat) : Rw := sumRow B.length (t / B.length) (t % B.length) (row A (t / B.length)) (row B (t % B.length))
def summedR (A B : List Rw) : List Rw := (List.range (A.length * B.length)).map (sumN A B)
theorem summedR_len (A B : List Rw) : (summedR A B).length = A.length * B.length := by unfold summedR; rw [List.length_map, List.length_range]
theorem summedR_val {A B : List Rw} (vA : Val A) (vB : Val B) : Val (summedR A B) := by
  intro t r h
  have hl := lt_of_some h
  rw [summedR_len] at hl
  unfold summedR at h
  rw [List.getElem?_map, List.getElem?_range hl] at h
  have e : sumN A B t = r := Option.some.inj h
  subst e
  have hB : 0 < B.length := Nat.pos_of_ne_zero fun z => by rw [z, Nat.mul_zero] at hl; omega
  have hk : t / B.length < A.length := (Nat.div_lt_iff_lt_mul hB).mpr hl
  have hj := Nat.mod_lt t hB
  have et : B.length * (t / B.length) + t % B.length = t := Nat.div_add_mod t B.length
  obtain ⟨r, er⟩ := some_at hk
  obtain ⟨q, eq⟩ := some_at hj
  obtain ⟨a1, a2⟩ := vA _ r er
  obtain ⟨b1, b2⟩ := vB _ q eq
  unfold sumN sumRow row
  rw [getD_some er, getD_some eq]
  have key : ∀ l l' : List Nat, (∀ x ∈ l, x < t / B.length) → (∀ x ∈ l', x < t % B.length) → ∀ x ∈ l.map (fun x => x * B.length + t % B.length) ++ l'.map (fun x => t / B.length * B.length + x), x < t := by
    intro l l' h1 h2 x hx
    have ec : t / B.length * B.length = B.length * (t / B.length) := Nat.mul_comm _ _
    rcases List.mem_append.mp hx with hx | hx
    · obtain ⟨y, hy, rfl⟩ := List.mem_map.mp hx
      have h3 : y + 1 ≤ t / B.length := h1 y hy
      have h4 := Nat.mul_le_mul_right B.length h3
      rw [Nat.add_mul, Nat.one_mul] at h4
      omega
    · obtain ⟨y, hy, rfl⟩ := List.mem_map.mp hx
      have := h2 y hy
      omega
  exact ⟨key _ _ a1 b1, key _ _ a2 b2⟩
end M84
namespace M84
theorem geb_rows {A B : List Rw} (vA : Val A) (vB : Val B) {k j : Nat} {r q : Rw} (hk : A[k]? = some r) (hj : B[j]? = some q) : geb (tr A k) (tr B j) = (!(r.2.map fun x => geb (tr B j) (tr A x)).any id && !(q.1.map fun y => geb (tr B y) (tr A k)).any id) := by
  rw [Bool.eq_iff_iff, geb_iff, ge_iff, tr_r vA hk, tr_l vB hj, Bool.and_eq_true, Bool.not_eq_true', Bool.not_eq_true', List.any_eq_false, List.any_eq_false]
  constructor
  · rintro ⟨h1, h2⟩
    refine ⟨fun b hb => ?_, fun b hb => ?_⟩
    · obtain ⟨x, hx, rfl⟩ := List.mem_map.mp hb
      exact fun z => h1 _ (List.mem_map_of_mem hx) (geb_iff.mp z)
    · obtain ⟨x, hx, rfl⟩ := List.mem_map.mp hb
      exact fun z => h2 _ (List.mem_map_of_mem hx) (geb_iff.mp z)
  · rintro ⟨h1, h2⟩
    refine ⟨fun x hx z => ?_, fun x hx z => ?_⟩
    · obtain ⟨y, hy, rfl⟩ := List.mem_map.mp hx
      exact h1 _ (List.mem_map_of_mem hy) (geb_iff.mpr z)
    · obtain ⟨y, hy, rfl⟩ := List.mem_map.mp hx
      exact h2 _ (List.mem_map_of_mem hy) (geb_iff.mpr z)
/-- the table of answers -/
noncomputable def abv (A B : List Rw) : List (List Bool) := (List.range A.length).map fun k => (List.range B.length).map fun j => geb (tr A k) (tr B j)
end M84
namespace M84
theorem pair_eq {m k k' j j' : Nat} (h1 : j < m) (h2 : j' < m) (e : k * m + j = k' * m + j') : k = k' ∧ j = j' := by
  have hm : 0 < m := by omega
  have e1 : k = k' := by
    have a : (k * m + j) / m = k := by rw [Nat.mul_comm, Nat.mul_add_div hm, Nat.div_eq_of_lt h1, Nat.add_zero]
    have b : (k' * m + j') / m = k' := by rw [Nat.mul_comm, Nat.mul_add_div hm, Nat.div_eq_of_lt h2, Nat.add_zero]
    rw [← a, ← b, e]
  subst e1
  exact ⟨rfl, by omega⟩
end M84

/-! M7: the law's own reckoning. -/
namespace M84
noncomputable def alikeB (A B : List Rw) : Bool := geb (lastT A) (lastT B) && geb (lastT B) (lastT A)
theorem alikeB_iff {A B : List Rw} : alikeB A B = true ↔ sm (lastT A) (lastT B) := by
  unfold alikeB sm
  rw [Bool.and_eq_true, geb_iff, geb_iff]
def others (l : List Nat) (at_ : Nat) : List Nat := l.take at_ ++ l.drop (at_ + 1)
noncomputable def needlessR (A : List Rw) (moves : List Nat) (at_ : Nat) (ours : Bool) : Bool :=
  if ours = true then ((others moves at_).map fun o => geb (tr A o) (tr A (moves.getD at_ 0))).any id else ((others moves at_).map fun o => geb (tr A (moves.getD at_ 0)) (tr A o)).any id
noncomputable def roundR (A : List Rw) (n m : Nat) (ours : Bool) : Bool :=
  if ours = true then ((row A m).2.map fun x => geb (tr A n) (tr A x)).any id else ((row A m).1.map fun x => geb (tr A x) (tr A n)).any id
noncomputable def okSide (A : List Rw) (n : Nat) (moves : List Nat) (ours : Bool) : Bool := !(((List.range moves.length).map fun a => needlessR A moves a ours).any id) && !((moves.map fun m => roundR A n m ours).any id)
noncomputable def okNode (A : List Rw) (n : Nat) : Bool := okSide A n (row A n).1 true && okSide A n (row A n).2 false
noncomputable def canB (g : Gm) : Bool := @decide (Can g) (Classical.propDecidable _)
theorem canB_iff {g : Gm} : canB g = true ↔ Can g := by
  unfold canB
  exact @decide_eq_true_iff _ (Classical.propDecidable _)
structure MetOk (A : List Rw) (l : List Nat) : Prop where
  nd : l.Nodup
  mem : ∀ x, x ∈ l ↔ Rch A (A.length - 1) x
theorem mem_others {l : List Nat} {a o : Nat} (ha : a < l.length) : o ∈ others l a ↔ ∃ j : Nat, j ≠ a ∧ l[j]? = some o := by
  unfold others
  rw [List.mem_append]
  constructor
  · rintro (h | h)
    · obtain ⟨j, hj⟩ := List.mem_iff_getElem?.mp h
      have hl := lt_of_some hj
      rw [List.length_take] at hl
      rw [List.getElem?_take] at hj
      split at hj
      · exact ⟨j, by omega, hj⟩
      · cases hj
    · obtain ⟨j, hj⟩ := List.mem_iff_getElem?.mp h
      rw [List.getElem?_drop] at hj
      exact ⟨a + 1 + j, by omega, hj⟩
  · rintro ⟨j, hj, e⟩
    by_cases h : j < a
    · left
      exact List.mem_iff_getElem?.mpr ⟨j, by rw [List.getElem?_take, if_pos h]; exact e⟩
    · right
      refine List.mem_iff_getElem?.mpr ⟨j - (a + 1), ?_⟩
      rw [List.getElem?_drop]
      have : a + 1 + (j - (a + 1)) = j := by omega
      rw [this]; exact e
theorem any_false {l : List Nat} {h : Nat → Bool} : (l.map h).any id = false ↔ ∀ x ∈ l, h x = false := by
  rw [List.any_eq_false]
  constructor
  · intro q x hx
    have := q (h x) (List.mem_map_of_mem hx)
    simpa using this
  · intro q b hb
    obtain ⟨x, hx, rfl⟩ := List.mem_map.mp hb
    simp [q x hx]
theorem geb_no {g h : Gm} : geb g h = false ↔ ¬ ge g h := by
  rw [← geb_iff]
  cases geb g h <;> simp
theorem okSide_iff {A : List Rw} {n : Nat} {l : List Nat} {ours : Bool} : okSide A n l ours = true ↔
    (∀ (i j : Nat) x y, l[i]? = some x → l[j]? = some y → i ≠ j → ¬ ge (tr A x) (tr A y)) ∧ (∀ m ∈ l, if ours = true then ∀ x ∈ (row A m).2, ¬ ge (tr A n) (tr A x) else ∀ x ∈ (row A m).1, ¬ ge (tr A x) (tr A n)) := by
  unfold okSide
  rw [Bool.and_eq_true, Bool.not_eq_true', Bool.not_eq_true', any_false, any_false]
  refine and_congr ?_ ?_
  · constructor
    · intro h i j x y hi hj ne
      cases ours with
      | true =>
        have h1 := h j (List.mem_range.mpr (lt_of_some hj))
        unfold needlessR at h1
        rw [if_pos rfl, any_false] at h1
        have := h1 x ((mem_others (lt_of_some hj)).mpr ⟨i, ne, hi⟩)
        rw [getD_some hj] at this
        exact geb_no.mp this
      | false =>
        have h1 := h i (List.mem_range.mpr (lt_of_some hi))
        unfold needlessR at h1
        rw [if_neg (by decide), any_false] at h1
        have := h1 y ((mem_others (lt_of_some hi)).mpr ⟨j, fun z => ne z.symm, hj⟩)
        rw [getD_some hi] at this
        exact geb_no.mp this
    · intro h a ha
      have ha' := List.mem_range.mp ha
      obtain ⟨z, hz⟩ := some_at ha'
      unfold needlessR
      cases ours with
      | true =>
        rw [if_pos rfl, any_false]
        intro o ho
        obtain ⟨j, hj, e⟩ := (mem_others ha').mp ho
        rw [getD_some hz]
        exact geb_no.mpr (h j a o z e hz hj)
      | false =>
        rw [if_neg (by decide), any_false]
        intro o ho
        obtain ⟨j, hj, e⟩ := (mem_others ha').mp ho
        rw [getD_some hz]
        exact geb_no.mpr (h a j z o hz e fun q => hj q.symm)
  · refine forall_congr' fun m => forall_congr' fun hm => ?_
    unfold roundR
    cases ours with
    | true => rw [if_pos rfl, if_pos rfl, any_false]; exact forall_congr' fun x => forall_congr' fun _ => geb_no
    | false => rw [if_neg (by decide), if_neg (by decide), any_false]; exact forall_congr' fun x => forall_congr' fun _ => geb_no
end M84
namespace M84
theorem row_at {A : List Rw} {k : Nat} {r : Rw} (h : A[k]? = some r) : row A k = r := getD_some h
/-- the two sides of a row are in order just if the tree is -/
theorem okNode_iff {A : List Rw} (v : Val A) {n : Nat} (hn : n < A.length) : okNode A n = true ↔ Lf (tr A n) := by
  obtain ⟨r, er⟩ := some_at hn
  obtain ⟨v1, v2⟩ := v n r er
  have el := tr_l v er
  have err := tr_r v er
  have rowT : ∀ m, m < A.length → (tr A m).l = (row A m).1.map (tr A) ∧ (tr A m).r = (row A m).2.map (tr A) := fun m hm => by
    obtain ⟨q, eq⟩ := some_at hm
    rw [row_at eq]
    exact ⟨tr_l v eq, tr_r v eq⟩
  have ap : ∀ l : List Nat, (∀ (i j : Nat) x y, l[i]? = some x → l[j]? = some y → i ≠ j → ¬ ge (tr A x) (tr A y)) ↔ Apart ge (l.map (tr A)) := fun l => by
    constructor
    · intro h i j x y hi hj ne
      rw [List.getElem?_map] at hi hj
      obtain ⟨a, ha, rfl⟩ := Option.map_eq_some_iff.mp hi
      obtain ⟨b, hb, rfl⟩ := Option.map_eq_some_iff.mp hj
      exact h i j a b ha hb ne
    · intro h i j x y hi hj ne
      exact h i j _ _ (by rw [List.getElem?_map, hi] <;> rfl) (by rw [List.getElem?_map, hj] <;> rfl) ne
  unfold okNode
  rw [row_at er, Bool.and_eq_true, okSide_iff, okSide_iff, ap, ap, ← el, ← err]
  constructor
  · rintro ⟨⟨a1, a2⟩, b1, b2⟩
    refine ⟨a1, b1, fun x hx y hy => ?_, fun x hx y hy => ?_⟩
    · rw [el] at hx
      obtain ⟨m, hm, rfl⟩ := List.mem_map.mp hx
      rw [(rowT m (Nat.lt_trans (v1 m hm) hn)).2] at hy
      obtain ⟨z, hz, rfl⟩ := List.mem_map.mp hy
      have := a2 m hm
      rw [if_pos rfl] at this
      exact this z hz
    · rw [err] at hx
      obtain ⟨m, hm, rfl⟩ := List.mem_map.mp hx
      rw [(rowT m (Nat.lt_trans (v2 m hm) hn)).1] at hy
      obtain ⟨z, hz, rfl⟩ := List.mem_map.mp hy
      have := b2 m hm
      rw [if_neg (by decide)] at this
      exact this z hz
  · rintro ⟨a1, b1, c1, d1⟩
    refine ⟨⟨a1, fun m hm => ?_⟩, b1, fun m hm => ?_⟩
    · rw [if_pos rfl]
      intro x hx
      refine c1 (tr A m) (by rw [el]; exact List.mem_map_of_mem hm) _ ?_
      rw [(rowT m (Nat.lt_trans (v1 m hm) hn)).2]
      exact List.mem_map_of_mem hx
    · rw [if_neg (by decide)]
      intro x hx
      refine d1 (tr A m) (by rw [err]; exact List.mem_map_of_mem hm) _ ?_
      rw [(rowT m (Nat.lt_trans (v2 m hm) hn)).1]
      exact List.mem_map_of_mem hx
theorem least_iff {A : List Rw} (v : Val A) (ne : A ≠ []) {l : List Nat} (h : MetOk A l) : l.all (okNode A) = canB (lastT A) := by
  have hp := List.length_pos_iff.mpr ne
  rw [Bool.eq_iff_iff, canB_iff, List.all_eq_true]
  constructor
  · intro q x b
    obtain ⟨j, hj, rfl⟩ := below_rch v b (A.length - 1) (by omega) rfl
    exact (okNode_iff v (hj.lt v (by omega))).mp (q j ((h.mem j).mpr hj))
  · intro c n hn
    have hj := (h.mem n).mp hn
    exact (okNode_iff v (hj.lt v (by omega))).mpr (c _ (rch_below v hj))
end M84
namespace M84
def metS (A : List Rw) (s : List Nat × Nat) : List Nat × Nat := (s.1 ++ (uniq (mv A (s.1.getD s.2 0))).filter (fun x => !(decide (x ∈ s.1))), s.2 + 1)
structure MI (A : List Rw) (s : List Nat × Nat) : Prop where
  nd : s.1.Nodup
  rc : ∀ x ∈ s.1, Rch A (A.length - 1) x
  top : A.length - 1 ∈ s.1
  le : s.2 ≤ s.1.length
  cl : ∀ i o, i < s.2 → s.1[i]? = some o → ∀ x ∈ mv A o, x ∈ s.1
theorem MI.start (A : List Rw) : MI A ([A.length - 1], 0) := ⟨by simp, fun x hx => by
  have : x = A.length - 1 := by simpa using hx
  rw [this]; exact .here _, by simp, Nat.zero_le _, fun i o h => absurd h (Nat.not_lt_zero _)⟩
theorem MI.step {A : List Rw} (v : Val A) {s : List Nat × Nat} (h : MI A s) (hl : s.2 < s.1.length) : MI A (metS A s) := by
  obtain ⟨f, a⟩ := s
  obtain ⟨h1, h2, h3, h4, h5⟩ := h
  dsimp only at h1 h2 h3 h4 h5 hl
  obtain ⟨o, ho⟩ := some_at hl
  unfold metS
  dsimp only
  rw [getD_some ho]
  refine ⟨List.nodup_append.mpr ⟨h1, List.Pairwise.filter _ (asc_nodup (asc_uniq _)), fun x hx y hy e => ?_⟩, fun x hx => ?_, List.mem_append.mpr (.inl h3), ?_, fun i q hi hq x hx => ?_⟩
  · have := (List.mem_filter.mp hy).2
    rw [← e] at this
    simp [hx] at this
  · rcases List.mem_append.mp hx with hx | hx
    · exact h2 x hx
    · exact (h2 o (List.mem_of_getElem? ho)).trans (rch_mv v (mem_uniq.mp (List.mem_filter.mp hx).1))
  · dsimp only
    rw [List.length_append]; omega
  · dsimp only at hi hq
    have hil : i < f.length := by omega
    rw [List.getElem?_append_left hil] at hq
    by_cases e : i = a
    · subst e
      rw [ho] at hq
      have := Option.some.inj hq
      subst this
      by_cases hm : x ∈ f
      · exact List.mem_append.mpr (.inl hm)
      · exact List.mem_append.mpr (.inr (List.mem_filter.mpr ⟨mem_uniq.mpr hx, by simp [hm]⟩))
    · exact List.mem_append.mpr (.inl (h5 i q (by omega) hq x hx))
theorem MI.len {A : List Rw} (v : Val A) (ne : A ≠ []) {s : List Nat × Nat} (h : MI A s) : s.1.length ≤ A.length ∧ ∀ x ∈ s.1, x < A.length := by
  have hp := List.length_pos_iff.mpr ne
  have hx : ∀ x ∈ s.1, x < A.length := fun x hx => (h.rc x hx).lt v (by omega)
  exact ⟨nodup_len h.nd hx, hx⟩
theorem MI.fin {A : List Rw} (v : Val A) {s : List Nat × Nat} (h : MI A s) (he : ¬ s.2 < s.1.length) : MetOk A s.1 := by
  refine ⟨h.nd, fun x => ⟨fun hx => h.rc x hx, fun hx => ?_⟩⟩
  have key : ∀ a b, Rch A a b → a ∈ s.1 → b ∈ s.1 := by
    intro a b r
    induction r with
    | here k => exact fun h => h
    | @left k x y r e m _ ih =>
      intro hk
      obtain ⟨i, hi⟩ := List.mem_iff_getElem?.mp hk
      have := h.le
      refine ih (h.cl i k (by have := lt_of_some hi; omega) hi x ?_)
      unfold mv
      rw [getD_some e]
      exact List.mem_append.mpr (.inl m)
    | @right k x y r e m _ ih =>
      intro hk
      obtain ⟨i, hi⟩ := List.mem_iff_getElem?.mp hk
      have := h.le
      refine ih (h.cl i k (by have := lt_of_some hi; omega) hi x ?_)
      unfold mv
      rw [getD_some e]
      exact List.mem_append.mpr (.inr m)
  exact key _ _ hx h.top
end M84

/-! M8: marks are equal just if the trees are, up to order and doubles. -/
namespace M84
structure LeOk (le : Mk → Mk → Bool) : Prop where
  trans : ∀ a b c, le a b = true → le b c = true → le a c = true
  total : ∀ a b, (le a b || le b a) = true
  fst : ∀ (m m' : Rw) k k' j j', m ≠ m' → le (m, k) (m', k') = le (m, j) (m', j')
  anti : ∀ (m m' : Rw) k k', m ≠ m' → le (m, k) (m', k') = true → le (m', k') (m, k) = true → False
abbrev ord (le : Mk → Mk → Bool) (N : List Rw) (n : Nat) : List Nat := (marksS le N n).1
abbrev fnd (le : Mk → Mk → Bool) (N : List Rw) (n : Nat) : List Rw := (marksS le N n).2
/-- the mark of a row, by the places of the kinds -/
def mrow (le : Mk → Mk → Bool) (N : List Rw) (n k : Nat) : Rw := (uniq ((row N k).1.map fun x => (ord le N n).idxOf (kd N x)), uniq ((row N k).2.map fun x => (ord le N n).idxOf (kd N x)))
theorem idx_inj {l : List Nat} {a b : Nat} (ha : a ∈ l) (hb : b ∈ l) (e : l.idxOf a = l.idxOf b) : a = b := by
  have h1 := List.getElem_idxOf (List.idxOf_lt_length_of_mem ha)
  have h2 := List.getElem_idxOf (List.idxOf_lt_length_of_mem hb)
  have h3 : l[l.idxOf a]? = some a := by rw [List.getElem?_eq_getElem (List.idxOf_lt_length_of_mem ha), h1]
  have h4 : l[l.idxOf b]? = some b := by rw [List.getElem?_eq_getElem (List.idxOf_lt_length_of_mem hb), h2]
  rw [e, h4] at h3
  exact (Option.some.inj h3).symm
theorem idx_app {l m : List Nat} {a : Nat} (h : a ∈ l) : (l ++ m).idxOf a = l.idxOf a := by rw [List.idxOf_append, if_pos h]
section
variable {le : Mk → Mk → Bool} {N : List Rw}
theorem mv_row {k x : Nat} : x ∈ mv N k ↔ x ∈ (row N k).1 ∨ x ∈ (row N k).2 := by unfold mv; rw [List.mem_append]
theorem dp_mv (v : Val N) {k x : Nat} (h : x ∈ mv N k) : dp N x < dp N k := by
  obtain ⟨_, hk⟩ := mv_lt v h
  obtain ⟨r, er⟩ := some_at hk
  refine dp_l v er ?_
  unfold mv at h
  rw [getD_some er] at h
  exact h
theorem mv_ord (v : Val N) {n k x : Nat} (h : x ∈ mv N k) (hk : dp N k ≤ n) : kd N x ∈ ord le N n := by
  obtain ⟨h1, h2⟩ := mv_lt v h
  exact (mem_order v n _).mpr ⟨x, by omega, by have := dp_mv v h; omega, rfl⟩
theorem ord_succ (le : Mk → Mk → Bool) (N : List Rw) (n : Nat) : ∃ T, ord le N (n + 1) = ord le N n ++ T := by
  unfold ord
  rw [marksS_succ]
  exact ⟨_, rfl⟩
theorem ord_le (le : Mk → Mk → Bool) (N : List Rw) {n m : Nat} (h : n ≤ m) : ∃ T, ord le N m = ord le N n ++ T := by
  induction m with
  | zero =>
    have : n = 0 := by omega
    subst this
    exact ⟨[], (List.append_nil _).symm⟩
  | succ m ih =>
    by_cases e : n = m + 1
    · subst e; exact ⟨[], (List.append_nil _).symm⟩
    · obtain ⟨T, hT⟩ := ih (by omega)
      obtain ⟨T', hT'⟩ := ord_succ le N m
      exact ⟨T ++ T', by rw [hT', hT, List.append_assoc]⟩
theorem idx_up (v : Val N) {n m x : Nat} (h : n ≤ m) (hx : x < N.length) (hd : dp N x < n) : (ord le N m).idxOf (kd N x) = (ord le N n).idxOf (kd N x) := by
  obtain ⟨T, hT⟩ := ord_le le N h
  rw [hT, idx_app ((mem_order v n _).mpr ⟨x, hx, hd, rfl⟩)]
theorem mrow_up (v : Val N) {n m k : Nat} (h : n ≤ m) (hk : dp N k ≤ n) : mrow le N m k = mrow le N n k := by
  unfold mrow
  have e : ∀ l : List Nat, (∀ x ∈ l, x ∈ mv N k) → (l.map fun x => (ord le N m).idxOf (kd N x)) = l.map fun x => (ord le N n).idxOf (kd N x) := fun l hl =>
    List.map_congr_left fun x hx => by
      have h1 := mv_lt v (hl x hx)
      have h2 := dp_mv v (hl x hx)
      exact idx_up v h (by omega) (by omega)
  rw [e _ fun x hx => mv_row.mpr (.inl hx), e _ fun x hx => mv_row.mpr (.inr hx)]
/-- equal kinds, equal marks -/
theorem mrow_kd (v : Val N) {n k j : Nat} (hk : k < N.length) (hj : j < N.length) (e : kd N k = kd N j) : mrow le N n k = mrow le N n j := by
  obtain ⟨r, er⟩ := some_at hk
  obtain ⟨q, eq⟩ := some_at hj
  obtain ⟨a1, a2, a3, a4⟩ := mark_eq.mp ((kd_mark v er eq).mp e)
  unfold mrow
  rw [row_at er, row_at eq]
  have side : ∀ a b : List Nat, (∀ x ∈ a, ∃ y ∈ b, kd N x = kd N y) → (∀ y ∈ b, ∃ x ∈ a, kd N x = kd N y) → uniq (a.map fun x => (ord le N n).idxOf (kd N x)) = uniq (b.map fun x => (ord le N n).idxOf (kd N x)) := fun a b h1 h2 => by
    refine uniq_congr fun z => ⟨fun hz => ?_, fun hz => ?_⟩
    · obtain ⟨x, hx, rfl⟩ := List.mem_map.mp hz
      obtain ⟨y, hy, e⟩ := h1 x hx
      exact List.mem_map.mpr ⟨y, hy, by rw [e]⟩
    · obtain ⟨y, hy, rfl⟩ := List.mem_map.mp hz
      obtain ⟨x, hx, e⟩ := h2 y hy
      exact List.mem_map.mpr ⟨x, hx, by rw [e]⟩
  rw [side _ _ a1 a2, side _ _ a3 a4]
theorem mrow_inj (v : Val N) {n k j : Nat} (hk : k < N.length) (hj : j < N.length) (dk : dp N k ≤ n) (dj : dp N j ≤ n) (e : mrow le N n k = mrow le N n j) : kd N k = kd N j := by
  obtain ⟨r, er⟩ := some_at hk
  obtain ⟨q, eq⟩ := some_at hj
  rw [kd_mark v er eq, mark_eq]
  unfold mrow at e
  rw [Prod.mk.injEq, row_at er, row_at eq] at e
  have mk : ∀ x, x ∈ r.1 ∨ x ∈ r.2 → kd N x ∈ ord le N n := fun x hx => mv_ord v (k := k) (mv_row.mpr (by rw [row_at er]; exact hx)) dk
  have mj : ∀ x, x ∈ q.1 ∨ x ∈ q.2 → kd N x ∈ ord le N n := fun x hx => mv_ord v (k := j) (mv_row.mpr (by rw [row_at eq]; exact hx)) dj
  have side : ∀ a b : List Nat, (∀ x ∈ a, kd N x ∈ ord le N n) → (∀ x ∈ b, kd N x ∈ ord le N n) → uniq (a.map fun x => (ord le N n).idxOf (kd N x)) = uniq (b.map fun x => (ord le N n).idxOf (kd N x)) → (∀ x ∈ a, ∃ y ∈ b, kd N x = kd N y) ∧ (∀ y ∈ b, ∃ x ∈ a, kd N x = kd N y) := fun a b ha hb h => by
    refine ⟨fun x hx => ?_, fun y hy => ?_⟩
    · obtain ⟨y, hy, e⟩ := List.mem_map.mp ((mem_of_uniq_eq h _).mp (List.mem_map_of_mem (f := fun x => (ord le N n).idxOf (kd N x)) hx))
      exact ⟨y, hy, (idx_inj (hb y hy) (ha x hx) e).symm⟩
    · obtain ⟨x, hx, e⟩ := List.mem_map.mp ((mem_of_uniq_eq h _).mpr (List.mem_map_of_mem (f := fun x => (ord le N n).idxOf (kd N x)) hy))
      exact ⟨x, hx, idx_inj (ha x hx) (hb y hy) e⟩
  obtain ⟨s1, s2⟩ := side _ _ (fun x hx => mk x (.inl hx)) (fun x hx => mj x (.inl hx)) e.1
  obtain ⟨s3, s4⟩ := side _ _ (fun x hx => mk x (.inr hx)) (fun x hx => mj x (.inr hx)) e.2
  exact ⟨s1, s2, s3, s4⟩
theorem lvlMk_eq (v : Val N) {n k : Nat} : lvlMk N (kinds N) (ord le N n) k = (mrow le N n k, kd N k) := rfl
/-- each kind's mark stands at its place -/
theorem found_at (v : Val N) : ∀ n k, k < N.length → dp N k < n → (fnd le N n)[(ord le N n).idxOf (kd N k)]? = some (mrow le N n k) := by
  intro n
  induction n with
  | zero => intro k _ h; omega
  | succ n ih =>
    intro k hk hd
    have nd := order_nodup (le := le) v (n + 1)
    have ml : (fnd le N n).length = (ord le N n).length := marks_len le N n
    have mo := mem_order (le := le) v n
    obtain ⟨S, eS⟩ : ∃ S, S = ((lvlIx (depths N) (firsts (kinds N)) n).map (lvlMk N (kinds N) (ord le N n))).mergeSort le := ⟨_, rfl⟩
    have e1 : ord le N (n + 1) = ord le N n ++ S.map (·.2) := by
      unfold ord
      rw [marksS_succ, eS] <;> rfl
    have e2 : fnd le N (n + 1) = fnd le N n ++ S.map (·.1) := by
      unfold fnd
      rw [marksS_succ, eS] <;> rfl
    by_cases hn : dp N k < n
    · have hm : kd N k ∈ ord le N n := (mo _).mpr ⟨k, hk, hn, rfl⟩
      rw [mrow_up v (Nat.le_succ n) (by omega), e1, idx_app hm, e2, List.getElem?_append_left (by rw [ml]; exact List.idxOf_lt_length_of_mem hm)]
      exact ih k hk hn
    · have hd' : dp N k = n := by omega
      obtain ⟨j, hj, ej⟩ := first_of v k hk
      have hjl := ((mem_firsts v).mp hj).1
      have hjd := dp_of_kd v hjl hk ej
      have hmem : lvlMk N (kinds N) (ord le N n) j ∈ S := by
        rw [eS]
        exact List.mem_mergeSort.mpr (List.mem_map_of_mem (mem_lvlIx.mpr ⟨hj, by omega⟩))
      obtain ⟨i, hi⟩ := List.mem_iff_getElem?.mp hmem
      have h2 : (S.map (·.2))[i]? = some (kd N k) := by rw [List.getElem?_map, hi, lvlMk_eq v, ← ej] <;> rfl
      have h1 : (S.map (·.1))[i]? = some (mrow le N n j) := by rw [List.getElem?_map, hi, lvlMk_eq v] <;> rfl
      have hno : kd N k ∉ ord le N n := fun z => by
        obtain ⟨x, hx, dx, ex⟩ := (mo _).mp z
        have := dp_of_kd v hx hk ex
        omega
      have hin : (ord le N (n + 1))[(ord le N n).length + i]? = some (kd N k) := by
        rw [e1, List.getElem?_append_right (by omega), Nat.add_sub_cancel_left]; exact h2
      have hidx : (ord le N (n + 1)).idxOf (kd N k) = (ord le N n).length + i := by
        have hm' := List.mem_of_getElem? hin
        refine nodup_at nd (x := kd N k) ?_ hin
        rw [List.getElem?_eq_getElem (List.idxOf_lt_length_of_mem hm'), List.getElem_idxOf]
      rw [hidx, e2, ← ml, List.getElem?_append_right (by omega), Nat.add_sub_cancel_left, h1, mrow_up v (Nat.le_succ n) (by omega)]
      rw [mrow_kd v hjl hk ej]
theorem found_on (v : Val N) {n i : Nat} (h : i < (fnd le N n).length) : ∃ k, k < N.length ∧ dp N k < n ∧ (ord le N n).idxOf (kd N k) = i := by
  rw [marks_len] at h
  obtain ⟨z, hz⟩ := some_at (l := ord le N n) h
  obtain ⟨k, hk, hd, e⟩ := (mem_order v n z).mp (List.mem_of_getElem? hz)
  refine ⟨k, hk, hd, ?_⟩
  have hm := List.mem_of_getElem? hz
  refine nodup_at (order_nodup (le := le) v n) (x := z) ?_ hz
  rw [← e] at hm ⊢
  rw [List.getElem?_eq_getElem (List.idxOf_lt_length_of_mem hm), List.getElem_idxOf]
theorem found_nodup (v : Val N) (n : Nat) : (fnd le N n).Nodup := by
  refine List.pairwise_iff_getElem.mpr fun i j hi hj hlt e => ?_
  obtain ⟨k, hk, dk, ek⟩ := found_on v hi
  obtain ⟨k', hk', dk', ek'⟩ := found_on v hj
  have h1 := found_at (le := le) v n k hk dk
  have h2 := found_at (le := le) v n k' hk' dk'
  rw [ek, List.getElem?_eq_getElem hi] at h1
  rw [ek', List.getElem?_eq_getElem hj] at h2
  have := mrow_inj v hk hk' (by omega) (by omega) (Option.some.inj (h1.symm.trans ((congrArg some e).trans h2)))
  rw [this, ek'] at ek
  omega
end
end M84
namespace M84
section
variable {le : Mk → Mk → Bool} {N N' : List Rw}
theorem eqv_row (v : Val N) (v' : Val N') {i j : Nat} (hi : i < N.length) (hj : j < N'.length) (e : eqv (tr N i) (tr N' j)) :
    (∀ x ∈ (row N i).1, ∃ y ∈ (row N' j).1, eqv (tr N x) (tr N' y)) ∧ (∀ y ∈ (row N' j).1, ∃ x ∈ (row N i).1, eqv (tr N x) (tr N' y)) ∧ (∀ x ∈ (row N i).2, ∃ y ∈ (row N' j).2, eqv (tr N x) (tr N' y)) ∧ (∀ y ∈ (row N' j).2, ∃ x ∈ (row N i).2, eqv (tr N x) (tr N' y)) := by
  obtain ⟨r, er⟩ := some_at hi
  obtain ⟨q, eq⟩ := some_at hj
  rw [eqv_iff, tr_l v er, tr_r v er, tr_l v' eq, tr_r v' eq] at e
  rw [row_at er, row_at eq]
  obtain ⟨e1, e2, e3, e4⟩ := e
  refine ⟨fun x hx => ?_, fun y hy => ?_, fun x hx => ?_, fun y hy => ?_⟩
  · obtain ⟨g, hg, h⟩ := e1 _ (List.mem_map_of_mem hx)
    obtain ⟨y, hy, rfl⟩ := List.mem_map.mp hg
    exact ⟨y, hy, h⟩
  · obtain ⟨g, hg, h⟩ := e2 _ (List.mem_map_of_mem hy)
    obtain ⟨x, hx, rfl⟩ := List.mem_map.mp hg
    exact ⟨x, hx, h⟩
  · obtain ⟨g, hg, h⟩ := e3 _ (List.mem_map_of_mem hx)
    obtain ⟨y, hy, rfl⟩ := List.mem_map.mp hg
    exact ⟨y, hy, h⟩
  · obtain ⟨g, hg, h⟩ := e4 _ (List.mem_map_of_mem hy)
    obtain ⟨x, hx, rfl⟩ := List.mem_map.mp hg
    exact ⟨x, hx, h⟩
theorem dp_mvs (v : Val N) {i : Nat} (hi : i < N.length) : dp N i = maxL ((mv N i).map (dp N)) := by
  obtain ⟨r, er⟩ := some_at hi
  rw [dp_row v er]
  unfold mv
  rw [getD_some er]
theorem dp_eqv (v : Val N) (v' : Val N') : ∀ n i j, i + j < n → i < N.length → j < N'.length → eqv (tr N i) (tr N' j) → dp N i = dp N' j := by
  intro n
  induction n with
  | zero => intro i j h; omega
  | succ n ih =>
    intro i j hn hi hj e
    obtain ⟨e1, e2, e3, e4⟩ := eqv_row v v' hi hj e
    rw [dp_mvs v hi, dp_mvs v' hj]
    refine maxL_congr fun z => ⟨fun hz => ?_, fun hz => ?_⟩
    · obtain ⟨x, hx, rfl⟩ := List.mem_map.mp hz
      have hxl := (mv_lt v hx).1
      have : ∃ y ∈ mv N' j, eqv (tr N x) (tr N' y) := by
        rcases mv_row.mp hx with h | h
        · obtain ⟨y, hy, q⟩ := e1 x h; exact ⟨y, mv_row.mpr (.inl hy), q⟩
        · obtain ⟨y, hy, q⟩ := e3 x h; exact ⟨y, mv_row.mpr (.inr hy), q⟩
      obtain ⟨y, hy, q⟩ := this
      have hyl := (mv_lt v' hy).1
      exact List.mem_map.mpr ⟨y, hy, (ih x y (by omega) (by omega) (by omega) q).symm⟩
    · obtain ⟨y, hy, rfl⟩ := List.mem_map.mp hz
      have hyl := (mv_lt v' hy).1
      have : ∃ x ∈ mv N i, eqv (tr N x) (tr N' y) := by
        rcases mv_row.mp hy with h | h
        · obtain ⟨x, hx, q⟩ := e2 y h; exact ⟨x, mv_row.mpr (.inl hx), q⟩
        · obtain ⟨x, hx, q⟩ := e4 y h; exact ⟨x, mv_row.mpr (.inr hx), q⟩
      obtain ⟨x, hx, q⟩ := this
      have hxl := (mv_lt v hx).1
      exact List.mem_map.mpr ⟨x, hx, ih x y (by omega) (by omega) (by omega) q⟩
theorem dp_same (v : Val N) (v' : Val N') {i j : Nat} (hi : i < N.length) (hj : j < N'.length) (e : eqv (tr N i) (tr N' j)) : dp N i = dp N' j := dp_eqv v v' _ i j (Nat.lt_succ_self _) hi hj e
/-- lists in order, without doubles, with the same members, are equal -/
theorem sorted_ext {R : Rw → Rw → Prop} (anti : ∀ a b, a ≠ b → R a b → R b a → False) : ∀ {a b : List Rw}, a.Nodup → b.Nodup → a.Pairwise R → b.Pairwise R → (∀ z, z ∈ a ↔ z ∈ b) → a = b
  | [], [], _, _, _, _, _ => rfl
  | [], y :: ys, _, _, _, _, h => by have := (h y).mpr (List.mem_cons_self ..); simp at this
  | x :: xs, [], _, _, _, _, h => by have := (h x).mp (List.mem_cons_self ..); simp at this
  | x :: xs, y :: ys, na, nb, pa, pb, h => by
    have na' := List.nodup_cons.mp na
    have nb' := List.nodup_cons.mp nb
    have pa' := List.pairwise_cons.mp pa
    have pb' := List.pairwise_cons.mp pb
    have e : x = y := by
      refine Classical.byContradiction fun ne => ?_
      have h1 := (h x).mp (List.mem_cons_self ..)
      have h2 := (h y).mpr (List.mem_cons_self ..)
      rcases List.mem_cons.mp h1 with q | q
      · exact ne q
      · rcases List.mem_cons.mp h2 with q2 | q2
        · exact ne q2.symm
        · exact anti x y ne (pa'.1 y q2) (pb'.1 x q)
    subst e
    have : xs = ys := sorted_ext anti na'.2 nb'.2 pa'.2 pb'.2 fun z => by
      constructor
      · intro hz
        rcases List.mem_cons.mp ((h z).mp (List.mem_cons_of_mem _ hz)) with q | q
        · rw [q] at hz; exact absurd hz na'.1
        · exact q
      · intro hz
        rcases List.mem_cons.mp ((h z).mpr (List.mem_cons_of_mem _ hz)) with q | q
        · rw [q] at hz; exact absurd hz nb'.1
        · exact q
    rw [this]
/-- the level's marks, in order -/
def lvlF (le : Mk → Mk → Bool) (N : List Rw) (n : Nat) : List Rw := (((lvlIx (depths N) (firsts (kinds N)) n).map (lvlMk N (kinds N) (ord le N n))).mergeSort le).map (·.1)
theorem fnd_succ (le : Mk → Mk → Bool) (N : List Rw) (n : Nat) : fnd le N (n + 1) = fnd le N n ++ lvlF le N n := by
  unfold fnd
  rw [marksS_succ] <;> rfl
theorem mem_lvlF (v : Val N) {n : Nat} {m : Rw} : m ∈ lvlF le N n ↔ ∃ k, k < N.length ∧ dp N k = n ∧ mrow le N n k = m := by
  unfold lvlF
  constructor
  · intro h
    obtain ⟨p, hp, rfl⟩ := List.mem_map.mp h
    obtain ⟨k, hk, rfl⟩ := List.mem_map.mp (List.mem_mergeSort.mp hp)
    obtain ⟨h1, h2⟩ := mem_lvlIx.mp hk
    exact ⟨k, ((mem_firsts v).mp h1).1, h2, rfl⟩
  · rintro ⟨k, hk, dk, rfl⟩
    obtain ⟨j, hj, ej⟩ := first_of v k hk
    have hjl := ((mem_firsts v).mp hj).1
    have hjd := dp_of_kd v hjl hk ej
    rw [← mrow_kd v hjl hk ej]
    exact List.mem_map.mpr ⟨lvlMk N (kinds N) (ord le N n) j, List.mem_mergeSort.mpr (List.mem_map_of_mem (mem_lvlIx.mpr ⟨hj, by omega⟩)), rfl⟩
theorem lvlF_nodup (v : Val N) (n : Nat) : (lvlF le N n).Nodup := by
  have h := found_nodup (le := le) v (n + 1)
  rw [fnd_succ] at h
  exact (List.nodup_append.mp h).2.1
theorem lvlF_sorted (ok : LeOk le) (v : Val N) (n : Nat) : (lvlF le N n).Pairwise fun a b => le (a, 0) (b, 0) = true := by
  have nd := lvlF_nodup (le := le) v n
  unfold lvlF at nd ⊢
  have hs := List.pairwise_mergeSort (le := le) ok.trans ok.total ((lvlIx (depths N) (firsts (kinds N)) n).map (lvlMk N (kinds N) (ord le N n)))
  refine List.pairwise_map.mpr ?_
  refine (List.Pairwise.and hs (List.pairwise_map.mp nd)).imp ?_
  rintro ⟨a, i⟩ ⟨b, j⟩ ⟨h1, h2⟩
  rw [ok.fst a b 0 0 i j h2]
  exact h1
/-- the marks of two that have the same trees -/
theorem marks_step (ok : LeOk le) (v : Val N) (v' : Val N') (c : ∀ k, k < N.length → ∃ j, j < N'.length ∧ eqv (tr N k) (tr N' j)) (c' : ∀ j, j < N'.length → ∃ k, k < N.length ∧ eqv (tr N k) (tr N' j)) : ∀ n, fnd le N n = fnd le N' n ∧ ∀ k j, k < N.length → j < N'.length → dp N k < n → eqv (tr N k) (tr N' j) → (ord le N n).idxOf (kd N k) = (ord le N' n).idxOf (kd N' j) := by
  intro n
  induction n with
  | zero => exact ⟨rfl, fun k j _ _ h => absurd h (Nat.not_lt_zero _)⟩
  | succ n ih =>
    obtain ⟨ih1, ih2⟩ := ih
    have em : ∀ k j, k < N.length → j < N'.length → dp N k ≤ n → eqv (tr N k) (tr N' j) → mrow le N n k = mrow le N' n j := fun k j hk hj hd e => by
      obtain ⟨e1, e2, e3, e4⟩ := eqv_row v v' hk hj e
      have side : ∀ a b : List Nat, (∀ x ∈ a, x ∈ mv N k) → (∀ y ∈ b, y ∈ mv N' j) → (∀ x ∈ a, ∃ y ∈ b, eqv (tr N x) (tr N' y)) → (∀ y ∈ b, ∃ x ∈ a, eqv (tr N x) (tr N' y)) → uniq (a.map fun x => (ord le N n).idxOf (kd N x)) = uniq (b.map fun y => (ord le N' n).idxOf (kd N' y)) := fun a b ha hb h1 h2 => by
        have key : ∀ x ∈ a, ∀ y ∈ b, eqv (tr N x) (tr N' y) → (ord le N n).idxOf (kd N x) = (ord le N' n).idxOf (kd N' y) := fun x hx y hy q => by
          have l1 := mv_lt v (ha x hx)
          have l2 := mv_lt v' (hb y hy)
          have l3 := dp_mv v (ha x hx)
          exact ih2 x y (by omega) (by omega) (by omega) q
        refine uniq_congr fun z => ⟨fun hz => ?_, fun hz => ?_⟩
        · obtain ⟨x, hx, rfl⟩ := List.mem_map.mp hz
          obtain ⟨y, hy, q⟩ := h1 x hx
          exact List.mem_map.mpr ⟨y, hy, (key x hx y hy q).symm⟩
        · obtain ⟨y, hy, rfl⟩ := List.mem_map.mp hz
          obtain ⟨x, hx, q⟩ := h2 y hy
          exact List.mem_map.mpr ⟨x, hx, key x hx y hy q⟩
      unfold mrow
      rw [side _ _ (fun x hx => mv_row.mpr (.inl hx)) (fun y hy => mv_row.mpr (.inl hy)) e1 e2, side _ _ (fun x hx => mv_row.mpr (.inr hx)) (fun y hy => mv_row.mpr (.inr hy)) e3 e4]
    have el : lvlF le N n = lvlF le N' n := by
      refine sorted_ext (R := fun a b => le (a, 0) (b, 0) = true) (fun a b ne h1 h2 => ok.anti a b 0 0 ne h1 h2) (lvlF_nodup v n) (lvlF_nodup v' n) (lvlF_sorted ok v n) (lvlF_sorted ok v' n) fun z => ?_
      rw [mem_lvlF v, mem_lvlF v']
      constructor
      · rintro ⟨k, hk, dk, rfl⟩
        obtain ⟨j, hj, e⟩ := c k hk
        exact ⟨j, hj, by rw [← dp_same v v' hk hj e]; exact dk, (em k j hk hj (by omega) e).symm⟩
      · rintro ⟨j, hj, dj, rfl⟩
        obtain ⟨k, hk, e⟩ := c' j hj
        have := dp_same v v' hk hj e
        exact ⟨k, hk, by omega, em k j hk hj (by omega) e⟩
    have e1 : fnd le N (n + 1) = fnd le N' (n + 1) := by rw [fnd_succ, fnd_succ, ih1, el]
    refine ⟨e1, fun k j hk hj hd e => ?_⟩
    have hd' : dp N' j < n + 1 := by rw [← dp_same v v' hk hj e]; exact hd
    have h1 := found_at (le := le) v (n + 1) k hk hd
    have h2 := found_at (le := le) v' (n + 1) j hj hd'
    rw [mrow_up v (Nat.le_succ n) (by omega), em k j hk hj (by omega) e] at h1
    rw [mrow_up v' (Nat.le_succ n) (by omega), ← e1] at h2
    exact nodup_at (found_nodup v (n + 1)) h1 h2
end
end M84
namespace M84
section
variable {le : Mk → Mk → Bool} {N N' : List Rw}
theorem rch_dp (v : Val N) {a b : Nat} (h : Rch N a b) : b = a ∨ dp N b < dp N a := by
  induction h with
  | here k => exact .inl rfl
  | @left k x y r e m _ ih =>
    have h1 : dp N x < dp N k := dp_l v e (List.mem_append.mpr (.inl m))
    rcases ih with q | q
    · subst q; exact .inr h1
    · exact .inr (by omega)
  | @right k x y r e m _ ih =>
    have h1 : dp N x < dp N k := dp_l v e (List.mem_append.mpr (.inr m))
    rcases ih with q | q
    · subst q; exact .inr h1
    · exact .inr (by omega)
theorem dp_maxD {k : Nat} (h : k < N.length) : dp N k < maxD N := by
  refine maxL_up ?_
  show (depths N).getD k 0 ∈ depths N
  rw [getD_lt (by rw [depths_len]; exact h)]
  exact List.getElem_mem _
theorem maxD_good (g : Good N) : maxD N = dp N (N.length - 1) + 1 := by
  have hp := List.length_pos_iff.mpr g.ne
  refine Nat.le_antisymm (maxL_le fun x hx => ?_) (dp_maxD (by omega))
  obtain ⟨i, hi, e⟩ := List.mem_iff_getElem.mp hx
  rw [depths_len] at hi
  have e' : dp N i = x := by
    show (depths N).getD i 0 = x
    rw [getD_lt (by rw [depths_len]; exact hi)]; exact e
  rcases rch_dp g.v (g.all i hi) with q | q
  · rw [← e', q]; exact Nat.lt_succ_self _
  · omega
/-- the place of a row's kind, in the end -/
def ps (le : Mk → Mk → Bool) (N : List Rw) (k : Nat) : Nat := (ord le N (maxD N)).idxOf (kd N k)
theorem marks_at (v : Val N) {k : Nat} (hk : k < N.length) : (marks le N)[ps le N k]? = some (uniq ((row N k).1.map (ps le N)), uniq ((row N k).2.map (ps le N))) := found_at v (maxD N) k hk (dp_maxD hk)
theorem ps_lt (v : Val N) {k x : Nat} (h : x ∈ mv N k) : ps le N x < ps le N k := by
  obtain ⟨h1, h2⟩ := mv_lt v h
  have hd := dp_mv v h
  obtain ⟨T, hT⟩ := ord_le le N (n := dp N k) (m := maxD N) (Nat.le_of_lt (dp_maxD h2))
  have hx : kd N x ∈ ord le N (dp N k) := (mem_order v _ _).mpr ⟨x, by omega, hd, rfl⟩
  have hk : kd N k ∉ ord le N (dp N k) := fun z => by
    obtain ⟨y, hy, dy, ey⟩ := (mem_order v _ _).mp z
    have := dp_of_kd v hy h2 ey
    omega
  unfold ps
  rw [hT, idx_app hx, List.idxOf_append, if_neg hk]
  have := List.idxOf_lt_length_of_mem hx
  omega
theorem marks_val (v : Val N) : Val (marks le N) := fun i r hi => by
  obtain ⟨k, hk, _, e⟩ := found_on (le := le) v (n := maxD N) (i := i) (lt_of_some hi)
  have e' : ps le N k = i := e
  have h := marks_at (le := le) v hk
  rw [e', hi] at h
  have er := Option.some.inj h
  subst er
  refine ⟨fun x hx => ?_, fun x hx => ?_⟩
  · obtain ⟨y, hy, rfl⟩ := List.mem_map.mp (mem_uniq.mp hx)
    rw [← e']
    exact ps_lt v (mv_row.mpr (.inl hy))
  · obtain ⟨y, hy, rfl⟩ := List.mem_map.mp (mem_uniq.mp hx)
    rw [← e']
    exact ps_lt v (mv_row.mpr (.inr hy))
theorem marks_tr (v : Val N) : ∀ k, k < N.length → eqv (tr (marks le N) (ps le N k)) (tr N k) := by
  intro k
  induction k using Nat.strongRecOn with
  | _ k ih =>
    intro hk
    obtain ⟨r, er⟩ := some_at hk
    have hm := marks_at (le := le) v hk
    have vm := marks_val (le := le) v
    rw [row_at er] at hm
    obtain ⟨v1, v2⟩ := v k r er
    rw [eqv_iff, tr_l vm hm, tr_r vm hm, tr_l v er, tr_r v er]
    have side : ∀ a : List Nat, (∀ x ∈ a, x < k) → (∀ g ∈ (uniq (a.map (ps le N))).map (tr (marks le N)), ∃ h ∈ a.map (tr N), eqv g h) ∧ (∀ h ∈ a.map (tr N), ∃ g ∈ (uniq (a.map (ps le N))).map (tr (marks le N)), eqv g h) := fun a ha => by
      refine ⟨fun g hg => ?_, fun h hh => ?_⟩
      · obtain ⟨z, hz, rfl⟩ := List.mem_map.mp hg
        obtain ⟨x, hx, rfl⟩ := List.mem_map.mp (mem_uniq.mp hz)
        exact ⟨tr N x, List.mem_map_of_mem hx, ih x (ha x hx) (by have := ha x hx; omega)⟩
      · obtain ⟨x, hx, rfl⟩ := List.mem_map.mp hh
        exact ⟨_, List.mem_map_of_mem (mem_uniq.mpr (List.mem_map_of_mem hx)), ih x (ha x hx) (by have := ha x hx; omega)⟩
    obtain ⟨s1, s2⟩ := side r.1 v1
    obtain ⟨s3, s4⟩ := side r.2 v2
    exact ⟨s1, s2, s3, s4⟩
theorem marks_last (g : Good N) : ps le N (N.length - 1) + 1 = (marks le N).length := by
  have hp := List.length_pos_iff.mpr g.ne
  have v := g.v
  have hL : N.length - 1 < N.length := by omega
  have eD := maxD_good g
  have hm : (marks le N).length = (ord le N (maxD N)).length := marks_len le N _
  have hk : kd N (N.length - 1) ∉ ord le N (dp N (N.length - 1)) := fun z => by
    obtain ⟨y, hy, dy, ey⟩ := (mem_order v _ _).mp z
    have := dp_of_kd v hy hL ey
    omega
  obtain ⟨T, hT⟩ := ord_succ le N (dp N (N.length - 1))
  have nd := order_nodup (le := le) v (dp N (N.length - 1) + 1)
  have all : ∀ z ∈ T, z = kd N (N.length - 1) := fun z hz => by
    have h1 : z ∈ ord le N (dp N (N.length - 1) + 1) := by rw [hT]; exact List.mem_append.mpr (.inr hz)
    obtain ⟨y, hy, dy, ey⟩ := (mem_order v _ _).mp h1
    rcases rch_dp v (g.all y hy) with q | q
    · rw [← ey, q]
    · exfalso
      have h2 : z ∈ ord le N (dp N (N.length - 1)) := (mem_order v _ _).mpr ⟨y, hy, q, ey⟩
      have nd' : (ord le N (dp N (N.length - 1)) ++ T).Nodup := by rw [← hT]; exact nd
      exact (List.nodup_append.mp nd').2.2 z h2 z hz rfl
  have hin : kd N (N.length - 1) ∈ T := by
    have h1 : kd N (N.length - 1) ∈ ord le N (dp N (N.length - 1) + 1) := (mem_order v _ _).mpr ⟨_, hL, Nat.lt_succ_self _, rfl⟩
    rw [hT] at h1
    rcases List.mem_append.mp h1 with q | q
    · exact absurd q hk
    · exact q
  have hT1 : T = [kd N (N.length - 1)] := by
    have nd' : (ord le N (dp N (N.length - 1)) ++ T).Nodup := by rw [← hT]; exact nd
    have ndT := (List.nodup_append.mp nd').2.1
    match T, all, hin, ndT with
    | [a], all, _, _ => rw [all a (List.mem_cons_self ..)]
    | a :: b :: t, all, _, ndT =>
      have h1 := all a (List.mem_cons_self ..)
      have h2 := all b (List.mem_cons_of_mem _ (List.mem_cons_self ..))
      exact absurd (List.mem_cons_self ..) (by rw [h1, ← h2] at ndT; exact (List.nodup_cons.mp ndT).1)
  unfold ps
  rw [hm, eD, hT, List.idxOf_append, if_neg hk, hT1, List.idxOf_cons_self, List.length_append]
  simp
theorem marks_lastT (g : Good N) : eqv (lastT (marks le N)) (lastT N) := by
  have hp := List.length_pos_iff.mpr g.ne
  have h := marks_tr (le := le) g.v (N.length - 1) (by omega)
  have e := marks_last (le := le) g
  unfold lastT
  have e2 : (marks le N).length - 1 = ps le N (N.length - 1) := by omega
  rw [e2]
  exact h
theorem match_of (g : Good N) (g' : Good N') (e : eqv (lastT N) (lastT N')) : ∀ k, k < N.length → ∃ j, j < N'.length ∧ eqv (tr N k) (tr N' j) := by
  have hp := List.length_pos_iff.mpr g.ne
  have hp' := List.length_pos_iff.mpr g'.ne
  have key : ∀ a b, Rch N a b → ∀ i, i < N'.length → eqv (tr N a) (tr N' i) → a < N.length → ∃ j, j < N'.length ∧ eqv (tr N b) (tr N' j) := by
    intro a b r
    induction r with
    | here k => exact fun i hi q _ => ⟨i, hi, q⟩
    | @left k x y r er m _ ih =>
      intro i hi q hk
      obtain ⟨e1, _, _, _⟩ := eqv_row g.v g'.v hk hi q
      rw [row_at er] at e1
      obtain ⟨z, hz, q'⟩ := e1 x m
      have hzl := (mv_lt g'.v (k := i) (mv_row.mpr (.inl hz))).1
      exact ih z (by omega) q' (by have := (g.v k r er).1 x m; omega)
    | @right k x y r er m _ ih =>
      intro i hi q hk
      obtain ⟨_, _, e3, _⟩ := eqv_row g.v g'.v hk hi q
      rw [row_at er] at e3
      obtain ⟨z, hz, q'⟩ := e3 x m
      have hzl := (mv_lt g'.v (k := i) (mv_row.mpr (.inr hz))).1
      exact ih z (by omega) q' (by have := (g.v k r er).2 x m; omega)
  exact fun k hk => key _ k (g.all k hk) (N'.length - 1) (by omega) e (by omega)
theorem marks_iff (ok : LeOk le) (g : Good N) (g' : Good N') : marks le N = marks le N' ↔ eqv (lastT N) (lastT N') := by
  constructor
  · intro e
    have h1 := marks_lastT (le := le) g
    have h2 := marks_lastT (le := le) g'
    rw [e] at h1
    exact h1.symm.trans h2
  · intro e
    have hp := List.length_pos_iff.mpr g.ne
    have hp' := List.length_pos_iff.mpr g'.ne
    have c := match_of g g' e
    have c' : ∀ j, j < N'.length → ∃ k, k < N.length ∧ eqv (tr N k) (tr N' j) := fun j hj => by
      obtain ⟨k, hk, q⟩ := match_of g' g e.symm j hj
      exact ⟨k, hk, q.symm⟩
    have hd : maxD N = maxD N' := by
      rw [maxD_good g, maxD_good g', dp_same g.v g'.v (by omega) (by omega) e]
    have := (marks_step (le := le) ok g.v g'.v c c' (maxD N)).1
    unfold marks
    rw [← hd]
    exact this
end
end M84

/-! M9: Forms reckons the least form. -/
namespace M84
def ng (b : Bool) (w x : Gm) : Prop := if b = true then ¬ ge w x else ¬ ge x w
def cov (b : Bool) (w : Gm) (F : List Gm) (x : Gm) : Prop := if b = true then CovR w F x else CovL w F x
theorem covL_sub {g : Gm} {F F' : List Gm} (h : ∀ x ∈ F, CovL g F' x) {z : Gm} (c : CovL g F z) : CovL g F' z := by
  induction c with
  | keep hx => exact h _ hx
  | round hy hg _ ih => exact .round hy hg ih
theorem covR_sub {g : Gm} {F F' : List Gm} (h : ∀ x ∈ F, CovR g F' x) {z : Gm} (c : CovR g F z) : CovR g F' z := by
  induction c with
  | keep hx => exact h _ hx
  | round hy hg _ ih => exact .round hy hg ih
theorem cov_sub {b : Bool} {g : Gm} {F F' : List Gm} (h : ∀ x ∈ F, cov b g F' x) {z : Gm} (c : cov b g F z) : cov b g F' z := by
  cases b with
  | true => exact covR_sub h c
  | false => exact covL_sub h c
theorem cov_keep {b : Bool} {g : Gm} {F : List Gm} {x : Gm} (h : x ∈ F) : cov b g F x := by
  cases b with
  | true => exact CovR.keep h
  | false => exact CovL.keep h
theorem opt_tr {F : List Rw} (v : Val F) {b : Bool} {k : Nat} (hk : k < F.length) : (opt b (row F k)).map (tr F) = if b = true then (tr F k).r else (tr F k).l := by
  obtain ⟨r, er⟩ := some_at hk
  rw [row_at er]
  cases b with
  | true => exact (tr_r v er).symm
  | false => exact (tr_l v er).symm
theorem opt_mv {F : List Rw} {b : Bool} {k x : Nat} (h : x ∈ opt b (row F k)) : x ∈ mv F k := by
  cases b with
  | true => exact mv_row.mpr (.inr h)
  | false => exact mv_row.mpr (.inl h)
theorem overB_no {F : List Rw} {b : Bool} {w a : Nat} : overB F b w a = false ↔ (if b = true then ¬ ge (tr F a) (tr F w) else ¬ ge (tr F w) (tr F a)) := by
  unfold overB
  cases b with
  | true => rw [if_pos rfl, if_pos rfl]; exact geb_no
  | false => rw [if_neg (by decide), if_neg (by decide)]; exact geb_no
structure LP (F : List Rw) (C : Nat → Prop) (wh : Nat) (b : Bool) (opts : List Nat) (s : List Nat × List Nat) : Prop where
  c1 : ∀ x ∈ s.1, C x ∧ x < F.length ∧ ng b (tr F wh) (tr F x)
  c2 : ∀ x ∈ s.2, C x ∧ x < F.length ∧ ng b (tr F wh) (tr F x) ∧ ∀ a ∈ opt (!b) (row F x), overB F b wh a = false
  cv : ∀ o ∈ opts, cov b (tr F wh) ((s.1 ++ s.2).map (tr F)) (tr F o)
theorem led_step_ok {F : List Rw} {C : Nat → Prop} {wh : Nat} {b : Bool} {opts : List Nat} (v : Val F) (hC : ∀ t, C t → t < F.length → ∀ x ∈ mv F t, C x) {s : List Nat × List Nat} (h : LP F C wh b opts s) : LP F C wh b opts (ledStep F wh b s) := by
  obtain ⟨l, f⟩ := s
  obtain ⟨c1, c2, cv⟩ := h
  cases l with
  | nil => exact ⟨c1, c2, cv⟩
  | cons o rest =>
    unfold ledStep
    dsimp only at c1 c2 cv ⊢
    obtain ⟨o1, o2, o3⟩ := c1 o (List.mem_cons_self ..)
    have c1' : ∀ x ∈ rest, C x ∧ x < F.length ∧ ng b (tr F wh) (tr F x) := fun x hx => c1 x (List.mem_cons_of_mem _ hx)
    cases hb : behR F wh o b with
    | none =>
      have stuck := beh_none hb
      refine ⟨c1', fun x hx => ?_, fun z hz => ?_⟩
      · dsimp only at hx
        split at hx
        · exact c2 x hx
        · rcases List.mem_append.mp hx with hx | hx
          · exact c2 x hx
          · have : x = o := by simpa using hx
            rw [this]; exact ⟨o1, o2, o3, stuck⟩
      · refine cov_sub (fun x hx => cov_keep ?_) (cv z hz)
        obtain ⟨y, hy, rfl⟩ := List.mem_map.mp hx
        refine List.mem_map_of_mem ?_
        dsimp only
        rcases List.mem_append.mp hy with hy | hy
        · rcases List.mem_cons.mp hy with hy | hy
          · rw [hy]
            refine List.mem_append.mpr (.inr ?_)
            split
            · assumption
            · simp
          · exact List.mem_append.mpr (.inl hy)
        · refine List.mem_append.mpr (.inr ?_)
          split
          · exact hy
          · exact List.mem_append.mpr (.inl hy)
    | some more =>
      obtain ⟨a, ha, hov, rfl⟩ := beh_some hb
      have hal := opt_lt v ha
      have al : a < F.length := by omega
      have Ca := hC o o1 o2 a (opt_mv ha)
      have ma : ∀ x ∈ opt b (row F a), C x ∧ x < F.length ∧ ng b (tr F wh) (tr F x) := fun x hx => by
        have hx1 := opt_lt v hx
        refine ⟨hC a Ca al x (opt_mv hx), by omega, ?_⟩
        have hm : tr F x ∈ (opt b (row F a)).map (tr F) := List.mem_map_of_mem hx
        rw [opt_tr v al] at hm
        unfold ng
        unfold overB at hov
        cases b with
        | true =>
          rw [if_pos rfl] at hm hov ⊢
          exact fun q => not_ge_r hm (ge_trans (geb_iff.mp hov) q)
        | false =>
          rw [if_neg (by decide)] at hm hov ⊢
          exact fun q => not_ge_l hm (ge_trans q (geb_iff.mp hov))
      refine ⟨fun x hx => ?_, c2, fun z hz => ?_⟩
      · rcases List.mem_append.mp hx with hx | hx
        · exact c1' x hx
        · exact ma x (List.mem_filter.mp hx).1
      · refine cov_sub (fun x hx => ?_) (cv z hz)
        obtain ⟨y, hy, rfl⟩ := List.mem_map.mp hx
        have inn : ∀ y, y ∈ rest ∨ y ∈ f ∨ y ∈ opt b (row F a) → tr F y ∈ ((rest ++ (opt b (row F a)).filter fun k => !(decide (k ∈ rest)) && !(decide (k ∈ f))) ++ f).map (tr F) := fun y hy => by
          refine List.mem_map_of_mem ?_
          by_cases h1 : y ∈ rest
          · exact List.mem_append.mpr (.inl (List.mem_append.mpr (.inl h1)))
          · by_cases h2 : y ∈ f
            · exact List.mem_append.mpr (.inr h2)
            · have h3 : y ∈ opt b (row F a) := by
                rcases hy with q | q | q
                · exact absurd q h1
                · exact absurd q h2
                · exact q
              exact List.mem_append.mpr (.inl (List.mem_append.mpr (.inr (List.mem_filter.mpr ⟨h3, by simp [h1, h2]⟩))))
        rcases List.mem_append.mp hy with hy | hy
        · rcases List.mem_cons.mp hy with hy | hy
          · rw [hy]
            have hm : tr F a ∈ (opt (!b) (row F o)).map (tr F) := List.mem_map_of_mem ha
            rw [opt_tr v o2] at hm
            have he := opt_tr v (b := b) al
            unfold cov
            unfold overB at hov
            cases b with
            | true =>
              rw [if_pos rfl] at hov he ⊢
              rw [if_neg (by decide)] at hm
              refine CovR.round hm (geb_iff.mp hov) fun q hq => ?_
              rw [← he] at hq
              obtain ⟨u, hu, rfl⟩ := List.mem_map.mp hq
              exact CovR.keep (inn u (.inr (.inr hu)))
            | false =>
              rw [if_neg (by decide)] at hov he ⊢
              rw [if_pos (by decide)] at hm
              refine CovL.round hm (geb_iff.mp hov) fun q hq => ?_
              rw [← he] at hq
              obtain ⟨u, hu, rfl⟩ := List.mem_map.mp hq
              exact CovL.keep (inn u (.inr (.inr hu)))
          · exact cov_keep (inn y (.inl hy))
        · exact cov_keep (inn y (.inr (.inl hy)))
theorem led_ok {F : List Rw} {C : Nat → Prop} {wh : Nat} {b : Bool} {opts : List Nat} (v : Val F) (nd : NdR F) (hC : ∀ t, C t → t < F.length → ∀ x ∈ mv F t, C x) (n1 : opts.Nodup) (h : ∀ o ∈ opts, C o ∧ o < F.length ∧ ng b (tr F wh) (tr F o)) :
    (∀ x ∈ led F wh b opts, C x ∧ x < F.length ∧ ng b (tr F wh) (tr F x) ∧ ∀ a ∈ opt (!b) (row F x), overB F b wh a = false) ∧ ∀ o ∈ opts, cov b (tr F wh) ((led F wh b opts).map (tr F)) (tr F o) := by
  have e := led_end v nd (wh := wh) (b := b) n1 fun x hx => (h x hx).2.1
  have i := ledN_inv (F := F) (wh := wh) (b := b) (I := LP F C wh b opts) (fun s hs => led_step_ok v hC hs) (2 ^ F.length) (opts, []) ⟨h, fun x hx => (nomatch hx), fun o ho => cov_keep (List.mem_map_of_mem (List.mem_append.mpr (.inl ho)))⟩
  refine ⟨i.c2, fun o ho => ?_⟩
  have := i.cv o ho
  rw [e.1] at this
  exact this
/-- of moves of which no two are the same, each is under one that is needed -/
theorem need_ok {F : List Rw} {b : Bool} {L : List Nat} (uni : ∀ x ∈ L, ∀ y ∈ L, sm (tr F x) (tr F y) → x = y) : ∀ x ∈ L, ∃ y ∈ needR F b L, if b = true then ge (tr F x) (tr F y) else ge (tr F y) (tr F x) := by
  have ov : ∀ x y, overB F b y x = true ↔ if b = true then ge (tr F x) (tr F y) else ge (tr F y) (tr F x) := fun x y => by
    unfold overB
    cases b with
    | true => rw [if_pos rfl, if_pos rfl]; exact geb_iff
    | false => rw [if_neg (by decide), if_neg (by decide)]; exact geb_iff
  have refl : ∀ x, overB F b x x = true := fun x => (ov x x).mpr (by cases b <;> simp [ge_refl])
  have trans : ∀ x y z, overB F b z y = true → overB F b y x = true → overB F b z x = true := fun x y z h1 h2 => by
    rw [ov] at h1 h2 ⊢
    cases b with
    | true => rw [if_pos rfl] at h1 h2 ⊢; exact ge_trans h2 h1
    | false => rw [if_neg (by decide)] at h1 h2 ⊢; exact ge_trans h1 h2
  have same : ∀ x y, overB F b y x = true → overB F b x y = true → sm (tr F x) (tr F y) := fun x y h1 h2 => by
    rw [ov] at h1 h2
    cases b with
    | true => rw [if_pos rfl] at h1 h2; exact ⟨h1, h2⟩
    | false => rw [if_neg (by decide)] at h1 h2; exact ⟨h2, h1⟩
  have key : ∀ n x, x ∈ L → (L.filter fun z => overB F b z x).length < n → ∃ y ∈ needR F b L, overB F b y x = true := by
    intro n
    induction n with
    | zero => intro x _ h; omega
    | succ n ih =>
      intro x hx hn
      by_cases hm : x ∈ needR F b L
      · exact ⟨x, hm, refl x⟩
      · have hex : ∃ y ∈ L, y ≠ x ∧ overB F b y x = true := by
          refine Classical.byContradiction fun hno => hm (mem_uniq.mpr (List.mem_filter.mpr ⟨hx, ?_⟩))
          rw [Bool.not_eq_true', List.any_eq_false]
          intro y hy hq
          rw [Bool.and_eq_true] at hq
          exact hno ⟨y, hy, of_decide_eq_true hq.1, hq.2⟩
        obtain ⟨y, hy, hne, hov⟩ := hex
        have hno : overB F b x y = false := by
          cases h : overB F b x y with
          | false => rfl
          | true => exact absurd (uni y hy x hx (same y x h hov)) hne
        have hlt : (L.filter fun z => overB F b z y).length < (L.filter fun z => overB F b z x).length := by
          have h1 : ∀ z, overB F b z y = true → overB F b z x = true := fun z h => trans x y z h hov
          have h2 : (L.filter fun z => overB F b z y) = (L.filter fun z => overB F b z x).filter fun z => overB F b z y := by
            rw [List.filter_filter]
            refine List.filter_congr fun z _ => ?_
            cases h3 : overB F b z y with
            | false => rfl
            | true => rw [h1 z h3] <;> rfl
          rw [h2]
          refine List.length_filter_lt_length_iff_exists.mpr ⟨x, List.mem_filter.mpr ⟨hx, refl x⟩, by rw [hno]; decide⟩
        obtain ⟨z, hz, h3⟩ := ih y hy (by omega)
        exact ⟨z, hz, trans x y z h3 hov⟩
  intro x hx
  obtain ⟨y, hy, h⟩ := key _ x hx (Nat.lt_succ_self _)
  exact ⟨y, hy, (ov x y).mp h⟩
theorem need_ap {F : List Rw} {b : Bool} {L : List Nat} : Apart ge ((needR F b L).map (tr F)) := by
  intro i j x y hi hj ne
  rw [List.getElem?_map] at hi hj
  obtain ⟨a, ha, rfl⟩ := Option.map_eq_some_iff.mp hi
  obtain ⟨c, hc, rfl⟩ := Option.map_eq_some_iff.mp hj
  have hac : a ≠ c := fun z => ne (nodup_at (need_nd F b L) (x := a) ha (by rw [z]; exact hc))
  have h1 := List.mem_filter.mp (mem_uniq.mp (List.mem_of_getElem? ha))
  have h2 := List.mem_filter.mp (mem_uniq.mp (List.mem_of_getElem? hc))
  rw [Bool.not_eq_true', List.any_eq_false] at h1 h2
  cases b with
  | true =>
    intro q
    refine h1.2 c h2.1 ?_
    rw [Bool.and_eq_true]
    exact ⟨decide_eq_true fun z => hac z.symm, geb_iff.mpr q⟩
  | false =>
    intro q
    refine h2.2 a h1.1 ?_
    rw [Bool.and_eq_true]
    exact ⟨decide_eq_true hac, geb_iff.mpr q⟩
end M84
namespace M84
theorem form_ok {F : List Rw} {C : Nat → Prop} {wh : Nat} {q : Rw} (v : Val F) (nd : NdR F) (hw : F[wh]? = some q) (hC : ∀ t, C t → t < F.length → ∀ x ∈ mv F t, C x) (c1 : ∀ o ∈ q.1, C o) (c2 : ∀ o ∈ q.2, C o) (n1 : q.1.Nodup) (n2 : q.2.Nodup)
    (can : ∀ t, C t → t < F.length → Can (tr F t)) (uni : ∀ x y, C x → C y → x < F.length → y < F.length → sm (tr F x) (tr F y) → x = y) :
    (∀ x ∈ needR F false (led F wh false q.1), C x ∧ x < F.length) ∧ (∀ x ∈ needR F true (led F wh true q.2), C x ∧ x < F.length) ∧
    sm (.mk ((needR F false (led F wh false q.1)).map (tr F)) ((needR F true (led F wh true q.2)).map (tr F))) (tr F wh) ∧
    Can (.mk ((needR F false (led F wh false q.1)).map (tr F)) ((needR F true (led F wh true q.2)).map (tr F))) := by
  obtain ⟨v1, v2⟩ := v wh q hw
  have hwl := lt_of_some hw
  have el := tr_l v hw
  have er := tr_r v hw
  obtain ⟨a1, a2⟩ := led_ok (C := C) (wh := wh) (b := false) (opts := q.1) v nd hC n1 fun o ho => ⟨c1 o ho, Nat.lt_trans (v1 o ho) hwl, by
    unfold ng
    rw [if_neg (by decide)]
    exact not_ge_l (by rw [el]; exact List.mem_map_of_mem ho)⟩
  obtain ⟨b1, b2⟩ := led_ok (C := C) (wh := wh) (b := true) (opts := q.2) v nd hC n2 fun o ho => ⟨c2 o ho, Nat.lt_trans (v2 o ho) hwl, by
    unfold ng
    rw [if_pos rfl]
    exact not_ge_r (by rw [er]; exact List.mem_map_of_mem ho)⟩
  generalize led F wh false q.1 = L at a1 a2 ⊢
  generalize led F wh true q.2 = L' at b1 b2 ⊢
  have s1 : sm (tr F wh) (.mk (L.map (tr F)) (L'.map (tr F))) := by
    refine led_same (fun x hx => ?_) (fun x hx => ?_) (fun x hx => ?_) (fun x hx => ?_)
    · obtain ⟨y, hy, rfl⟩ := List.mem_map.mp hx
      have := (a1 y hy).2.2.1
      unfold ng at this
      rw [if_neg (by decide)] at this
      exact this
    · obtain ⟨y, hy, rfl⟩ := List.mem_map.mp hx
      have := (b1 y hy).2.2.1
      unfold ng at this
      rw [if_pos rfl] at this
      exact this
    · rw [el] at hx
      obtain ⟨y, hy, rfl⟩ := List.mem_map.mp hx
      have := a2 y hy
      unfold cov at this
      rw [if_neg (by decide)] at this
      exact this
    · rw [er] at hx
      obtain ⟨y, hy, rfl⟩ := List.mem_map.mp hx
      have := b2 y hy
      unfold cov at this
      rw [if_pos rfl] at this
      exact this
  have k1 := need_ok (F := F) (b := false) (L := L) fun x hx y hy h => uni x y (a1 x hx).1 (a1 y hy).1 (a1 x hx).2.1 (a1 y hy).2.1 h
  have k2 := need_ok (F := F) (b := true) (L := L') fun x hx y hy h => uni x y (b1 x hx).1 (b1 y hy).1 (b1 x hx).2.1 (b1 y hy).2.1 h
  have s2 : sm (.mk (L.map (tr F)) (L'.map (tr F))) (.mk ((needR F false L).map (tr F)) ((needR F true L').map (tr F))) := by
    refine needed_same (fun x hx => ?_) (fun x hx => ?_) (fun x hx => ?_) (fun x hx => ?_)
    · obtain ⟨y, hy, rfl⟩ := List.mem_map.mp hx
      exact List.mem_map_of_mem (need_in hy)
    · obtain ⟨y, hy, rfl⟩ := List.mem_map.mp hx
      exact List.mem_map_of_mem (need_in hy)
    · obtain ⟨y, hy, rfl⟩ := List.mem_map.mp hx
      obtain ⟨z, hz, h⟩ := k1 y hy
      rw [if_neg (by decide)] at h
      exact ⟨_, List.mem_map_of_mem hz, h⟩
    · obtain ⟨y, hy, rfl⟩ := List.mem_map.mp hx
      obtain ⟨z, hz, h⟩ := k2 y hy
      rw [if_pos rfl] at h
      exact ⟨_, List.mem_map_of_mem hz, h⟩
  have s12 := s1.trans s2
  refine ⟨fun x hx => ⟨(a1 x (need_in hx)).1, (a1 x (need_in hx)).2.1⟩, fun x hx => ⟨(b1 x (need_in hx)).1, (b1 x (need_in hx)).2.1⟩, s12.symm, Can.of ⟨need_ap, need_ap, fun x hx y hy h => ?_, fun x hx y hy h => ?_⟩ (fun x hx => ?_) (fun x hx => ?_)⟩
  · obtain ⟨z, hz, rfl⟩ := List.mem_map.mp hx
    obtain ⟨_, zl, _, st⟩ := a1 z (need_in hz)
    have ho := opt_tr v (b := true) zl
    rw [if_pos rfl] at ho
    rw [← ho] at hy
    obtain ⟨u, hu, rfl⟩ := List.mem_map.mp hy
    have := overB_no.mp (st u hu)
    rw [if_neg (by decide)] at this
    exact this (ge_trans s12.1 h)
  · obtain ⟨z, hz, rfl⟩ := List.mem_map.mp hx
    obtain ⟨_, zl, _, st⟩ := b1 z (need_in hz)
    have ho := opt_tr v (b := false) zl
    rw [if_neg (by decide)] at ho
    rw [← ho] at hy
    obtain ⟨u, hu, rfl⟩ := List.mem_map.mp hy
    have := overB_no.mp (st u hu)
    rw [if_pos rfl] at this
    exact this (ge_trans h s12.2)
  · obtain ⟨z, hz, rfl⟩ := List.mem_map.mp hx
    exact can z (a1 z (need_in hz)).1 (a1 z (need_in hz)).2.1
  · obtain ⟨z, hz, rfl⟩ := List.mem_map.mp hx
    exact can z (b1 z (need_in hz)).1 (b1 z (need_in hz)).2.1
structure FB (N : List Rw) (i : Nat) (s : List Rw × List Nat) : Prop where
  b : BOk i s
  fn : s.1.Nodup
  can : ∀ t ∈ s.2, Can (tr s.1 t)
  cl : ∀ t ∈ s.2, ∀ x ∈ mv s.1 t, x ∈ s.2
  asc : ∀ t ∈ s.2, Asc (row s.1 t).1 ∧ Asc (row s.1 t).2
  uni : ∀ t ∈ s.2, ∀ t' ∈ s.2, sm (tr s.1 t) (tr s.1 t') → t = t'
  val : ∀ k, k < i → sm (tr s.1 (s.2.getD k 0)) (tr N k)
theorem addRow_nodup {F : List Rw} {r : Rw} (h : F.Nodup) : (addRow F r).1.Nodup := by
  unfold addRow
  split
  · exact h
  · rename_i hm
    exact nodup_snoc h hm
theorem row_app {F M : List Rw} {t : Nat} (h : t < F.length) : row (F ++ M) t = row F t := getD_app h
theorem bring_fb {N : List Rw} {i : Nat} {s : List Rw × List Nat} {r : Rw} (h : FB N i s) (vN : Val N) (er : N[i]? = some r) : FB N (i + 1) (bringS s r) := by
  obtain ⟨v1, v2⟩ := vN i r er
  have bs := bring_step h.b v1 v2
  have rok := bring_row h.b v1 v2
  obtain ⟨F, th⟩ := s
  obtain ⟨hb, hfn, hcan, hcl, hasc, huni, hval⟩ := h
  have lth : th.length = i := hb.l2
  have tlt : ∀ t ∈ th, t < F.length := hb.lt
  have thx : ∀ x, x < i → th.getD x 0 ∈ th := fun x hx => by
    rw [getD_lt (by rw [lth]; exact hx)]
    exact List.getElem_mem _
  dsimp only at hfn hcan hcl hasc huni hval rok
  obtain ⟨q, eq⟩ : ∃ q : Rw, q = (uniq (r.1.map fun x => th.getD x 0), uniq (r.2.map fun x => th.getD x 0)) := ⟨_, rfl⟩
  have es : bringS (F, th) r = ((addForm F q).1, th ++ [(addForm F q).2]) := by rw [eq] <;> rfl
  rw [es] at bs ⊢
  rw [← eq] at rok
  have q1 : ∀ o ∈ q.1, o ∈ th := fun o ho => by
    rw [eq] at ho
    obtain ⟨x, hx, rfl⟩ := List.mem_map.mp (mem_uniq.mp ho)
    exact thx x (v1 x hx)
  have q2 : ∀ o ∈ q.2, o ∈ th := fun o ho => by
    rw [eq] at ho
    obtain ⟨x, hx, rfl⟩ := List.mem_map.mp (mem_uniq.mp ho)
    exact thx x (v2 x hx)
  obtain ⟨M1, e1⟩ := addRow_pre F q
  have vF1 := addRow_val hb.v rok
  have nd1 := addRow_nd hb.nd rok
  have hwh := addRow_at F q
  have fn1 := addRow_nodup (r := q) hfn
  have trF1 : ∀ t, t < F.length → tr (addRow F q).1 t = tr F t := fun t ht => by rw [e1]; exact tr_app F M1 t ht
  have rowF1 : ∀ t, t < F.length → row (addRow F q).1 t = row F t := fun t ht => by rw [e1]; exact row_app ht
  obtain ⟨f1, f2, f3, f4⟩ := form_ok (C := (· ∈ th)) vF1 nd1 hwh (fun t ht _ x hx => hcl t ht x (by unfold mv at hx ⊢; rw [show (addRow F q).1.getD t ([], []) = F.getD t ([], []) from rowF1 t (tlt t ht)] at hx; exact hx)) q1 q2 rok.n1 rok.n2 (fun t ht _ => by rw [trF1 t (tlt t ht)]; exact hcan t ht) (fun x y hx hy _ _ hs => huni x hx y hy (by rw [trF1 x (tlt x hx), trF1 y (tlt y hy)] at hs; exact hs))
  have erow : row2 F q = (needR (addRow F q).1 false (led (addRow F q).1 (addRow F q).2 false q.1), needR (addRow F q).1 true (led (addRow F q).1 (addRow F q).2 true q.2)) := rfl
  have eform := addForm_eq F q
  have rok2 := row2_row hb.v hb.nd rok
  obtain ⟨M2, e2⟩ := addRow_pre (addRow F q).1 (row2 F q)
  have hni := addRow_at (addRow F q).1 (row2 F q)
  have fn2 := addRow_nodup (r := row2 F q) fn1
  have vF2 := addRow_val vF1 rok2
  rw [← eform] at hni fn2 vF2 e2
  have le1 := (addRow_le F q).1
  have trF2 : ∀ t, t < (addRow F q).1.length → tr (addForm F q).1 t = tr (addRow F q).1 t := fun t ht => by rw [e2]; exact tr_app _ M2 t ht
  have trF : ∀ t ∈ th, tr (addForm F q).1 t = tr F t := fun t ht => by
    have := tlt t ht
    rw [trF2 t (by omega), trF1 t this]
  have rowF : ∀ t ∈ th, row (addForm F q).1 t = row F t := fun t ht => by
    have := tlt t ht
    rw [e2, row_app (by omega), rowF1 t this]
  have mvF : ∀ t ∈ th, mv (addForm F q).1 t = mv F t := fun t ht => by
    unfold mv
    rw [show (addForm F q).1.getD t ([], []) = F.getD t ([], []) from rowF t ht]
  have ini : row (addForm F q).1 (addForm F q).2 = row2 F q := row_at hni
  have tni : tr (addForm F q).1 (addForm F q).2 = .mk ((row2 F q).1.map (tr (addRow F q).1)) ((row2 F q).2.map (tr (addRow F q).1)) := by
    rw [tr_row vF2 hni]
    congr 1
    · exact List.map_congr_left fun x hx => trF2 x (by rw [erow] at hx; exact (f1 x hx).2)
    · exact List.map_congr_left fun x hx => trF2 x (by rw [erow] at hx; exact (f2 x hx).2)
  rw [← erow] at *
  have f3' : sm (tr (addForm F q).1 (addForm F q).2) (tr (addRow F q).1 (addRow F q).2) := by rw [tni]; exact f3
  have f4' : Can (tr (addForm F q).1 (addForm F q).2) := by rw [tni]; exact f4
  have g1 : ∀ x ∈ (row2 F q).1, x ∈ th := fun x hx => (f1 x hx).1
  have g2 : ∀ x ∈ (row2 F q).2, x ∈ th := fun x hx => (f2 x hx).1
  have hnil := lt_of_some hni
  have memS : ∀ t, t ∈ th ++ [(addForm F q).2] → t ∈ th ∨ t = (addForm F q).2 := fun t ht => by
    rcases List.mem_append.mp ht with ht | ht
    · exact .inl ht
    · exact .inr (by simpa using ht)
  have tl2 : ∀ t ∈ th, t < (addForm F q).1.length := fun t ht => by
    have := tlt t ht
    rw [e2, List.length_append]; omega
  -- a new one that is the same as an old one is the old one
  have one : ∀ t ∈ th, sm (tr (addForm F q).1 (addForm F q).2) (tr (addForm F q).1 t) → (addForm F q).2 = t := fun t ht hs => by
    have ct : Can (tr (addForm F q).1 t) := by rw [trF t ht]; exact hcan t ht
    have ev := one_form _ _ f4' ct hs
    obtain ⟨x1, x2, x3, x4⟩ := eqv_row vF2 vF2 hnil (tl2 t ht) ev
    rw [ini, rowF t ht] at x1 x2 x3 x4
    have old1 : ∀ y ∈ (row F t).1, y ∈ th := fun y hy => hcl t ht y (mv_row.mpr (.inl hy))
    have old2 : ∀ y ∈ (row F t).2, y ∈ th := fun y hy => hcl t ht y (mv_row.mpr (.inr hy))
    have eqi : ∀ x y, x ∈ th → y ∈ th → eqv (tr (addForm F q).1 x) (tr (addForm F q).1 y) → x = y := fun x y hx hy q' => huni x hx y hy (by have := q'.sm; rw [trF x hx, trF y hy] at this; exact this)
    have h1 : (row2 F q).1 = (row F t).1 := asc_ext (asc_uniq _) (hasc t ht).1 fun z => ⟨fun hz => by
      obtain ⟨y, hy, q'⟩ := x1 z hz
      rw [eqi z y (g1 z hz) (old1 y hy) q']; exact hy, fun hz => by
      obtain ⟨x, hx, q'⟩ := x2 z hz
      rw [← eqi x z (g1 x hx) (old1 z hz) q']; exact hx⟩
    have h2 : (row2 F q).2 = (row F t).2 := asc_ext (asc_uniq _) (hasc t ht).2 fun z => ⟨fun hz => by
      obtain ⟨y, hy, q'⟩ := x3 z hz
      rw [eqi z y (g2 z hz) (old2 y hy) q']; exact hy, fun hz => by
      obtain ⟨x, hx, q'⟩ := x4 z hz
      rw [← eqi x z (g2 x hx) (old2 z hz) q']; exact hx⟩
    have h3 : (addForm F q).1[t]? = some (row2 F q) := by
      obtain ⟨rt, ert⟩ := some_at (tl2 t ht)
      have h4 := row_at ert
      rw [rowF t ht] at h4
      rw [ert, ← h4]
      exact congrArg some (Prod.ext h1.symm h2.symm)
    exact nodup_at fn2 hni h3
  refine ⟨bs, fn2, fun t ht => ?_, fun t ht x hx => ?_, fun t ht => ?_, fun t ht t' ht' hs => ?_, fun k hk => ?_⟩
  · rcases memS t ht with h | h
    · dsimp only; rw [trF t h]; exact hcan t h
    · rw [h]; exact f4'
  · rcases memS t ht with h | h
    · dsimp only at hx
      rw [mvF t h] at hx
      exact List.mem_append.mpr (.inl (hcl t h x hx))
    · rw [h] at hx
      have hx' := mv_row.mp hx
      dsimp only at hx'
      rw [ini] at hx'
      exact List.mem_append.mpr (.inl (hx'.elim (g1 x) (g2 x)))
  · rcases memS t ht with h | h
    · dsimp only; rw [rowF t h]; exact hasc t h
    · rw [h]
      dsimp only
      rw [ini]
      exact ⟨asc_uniq _, asc_uniq _⟩
  · rcases memS t ht with h | h
    · rcases memS t' ht' with h' | h'
      · dsimp only at hs
        rw [trF t h, trF t' h'] at hs
        exact huni t h t' h' hs
      · rw [h'] at hs ⊢
        exact (one t h hs.symm).symm
    · rcases memS t' ht' with h' | h'
      · rw [h] at hs ⊢
        exact one t' h' hs
      · rw [h, h']
  · dsimp only
    by_cases hki : k < i
    · have hk' : (th ++ [(addForm F q).2]).getD k 0 = th.getD k 0 := getD_app (by rw [lth]; exact hki)
      rw [hk', trF _ (thx k hki)]
      exact hval k hki
    · have hke : k = i := by omega
      subst hke
      have hk' : (th ++ [(addForm F q).2]).getD k 0 = (addForm F q).2 := by rw [← lth]; exact getD_end
      rw [hk']
      refine f3'.trans ?_
      have side : ∀ a : List Nat, (∀ x ∈ a, x < k) → (∀ g ∈ (uniq (a.map fun x => th.getD x 0)).map (tr (addRow F q).1), ∃ h ∈ a.map (tr N), sm g h) ∧ (∀ h ∈ a.map (tr N), ∃ g ∈ (uniq (a.map fun x => th.getD x 0)).map (tr (addRow F q).1), sm g h) := fun a ha => by
        have key : ∀ x ∈ a, sm (tr (addRow F q).1 (th.getD x 0)) (tr N x) := fun x hx => by
          rw [trF1 _ (tlt _ (thx x (ha x hx)))]
          exact hval x (ha x hx)
        refine ⟨fun g hg => ?_, fun h hh => ?_⟩
        · obtain ⟨z, hz, rfl⟩ := List.mem_map.mp hg
          obtain ⟨x, hx, rfl⟩ := List.mem_map.mp (mem_uniq.mp hz)
          exact ⟨_, List.mem_map_of_mem hx, key x hx⟩
        · obtain ⟨x, hx, rfl⟩ := List.mem_map.mp hh
          exact ⟨_, List.mem_map_of_mem (mem_uniq.mpr (List.mem_map_of_mem hx)), key x hx⟩
      obtain ⟨s1, s2⟩ := side r.1 v1
      obtain ⟨s3, s4⟩ := side r.2 v2
      have el := tr_l vF1 hwh
      have err := tr_r vF1 hwh
      refine sm_of ?_ ?_ ?_ ?_
      · rw [el, tr_l vN er, eq]; rw [eq] at s1; exact s1
      · rw [el, tr_l vN er, eq]; rw [eq] at s2; exact s2
      · rw [err, tr_r vN er, eq]; rw [eq] at s3; exact s3
      · rw [err, tr_r vN er, eq]; rw [eq] at s4; exact s4
end M84

/-! M10: the least form of a heap, as the law asks of it. -/
namespace M84
theorem bring_all {N : List Rw} (v : Val N) : ∀ i, i ≤ N.length → FB N i ((N.take i).foldl bringS ([], [])) := by
  intro i
  induction i with
  | zero => exact fun _ => ⟨bring_ok v 0 (Nat.zero_le _), .nil, fun t h => (nomatch h), fun t h => (nomatch h), fun t h => (nomatch h), fun t h => (nomatch h), fun k h => absurd h (Nat.not_lt_zero _)⟩
  | succ i ih =>
    intro hi
    obtain ⟨r, er⟩ := some_at (l := N) (i := i) hi
    have e : N.take (i + 1) = N.take i ++ [r] := by rw [List.take_add_one, er] <;> rfl
    rw [e, List.foldl_append]
    exact bring_fb (ih (Nat.le_of_lt hi)) v er
theorem bringR_fb {N : List Rw} (v : Val N) : FB N N.length (bringR N) := by
  have := bring_all v N.length (Nat.le_refl _)
  rwa [List.take_length] at this
structure LeastOk (N M : List Rw) : Prop where
  g : Good M
  can : Can (lastT M)
  s : sm (lastT M) (lastT N)
  len : M.length ≤ 2 * N.length
  on : ∀ k, k < M.length → ∃ i, i < N.length ∧ sm (tr M k) (tr N i)
theorem leastN_ok {N : List Rw} (g : Good N) : LeastOk N (leastN N) := by
  have h := bringR_fb g.v
  have hp := List.length_pos_iff.mpr g.ne
  have l2 := h.b.l2
  have ne2 : (bringR N).2 ≠ [] := fun z => by rw [z] at l2; simp at l2; omega
  have elast : (bringR N).2.getLast?.getD 0 = (bringR N).2.getD (N.length - 1) 0 := by rw [List.getLast?_eq_getElem?, l2, List.getD_eq_getElem?_getD]
  have hm : (bringR N).2.getLast?.getD 0 ∈ (bringR N).2 := by
    rw [elast, getD_lt (by rw [l2]; omega)]
    exact List.getElem_mem _
  have hl := h.b.lt _ hm
  have hval := h.val (N.length - 1) (by omega)
  rw [← elast] at hval
  have gM : Good (leastN N) := heapAt_good h.b.v _
  have eT : lastT (leastN N) = tr (bringR N).1 ((bringR N).2.getLast?.getD 0) := heapAt_last h.b.v hl
  refine ⟨gM, by rw [eT]; exact h.can _ hm, by rw [eT]; exact hval, ?_, fun k hk => ?_⟩
  · have h1 := heapAt_len h.b.v ((bringR N).2.getLast?.getD 0)
    have h2 := h.b.len
    show (heapAt _ _).length ≤ _
    omega
  · have A := heapAt_ok h.b.v ((bringR N).2.getLast?.getD 0)
    obtain ⟨x, hx, sx, ex⟩ := A.on k hk
    have et := at_tr h.b.v hl x (by omega) sx
    rw [ex] at et
    have rx := needed_rch h.b.v sx
    have memx : ∀ a b, Rch (bringR N).1 a b → a ∈ (bringR N).2 → b ∈ (bringR N).2 := by
      intro a b r
      induction r with
      | here k => exact fun z => z
      | left e m _ ih => exact fun z => ih (h.cl _ z _ (by unfold mv; rw [getD_some e]; exact List.mem_append.mpr (.inl m)))
      | right e m _ ih => exact fun z => ih (h.cl _ z _ (by unfold mv; rw [getD_some e]; exact List.mem_append.mpr (.inr m)))
    have hxm := memx _ _ rx hm
    obtain ⟨i, hi⟩ := List.mem_iff_getElem?.mp hxm
    have hil := lt_of_some hi
    rw [l2] at hil
    refine ⟨i, hil, ?_⟩
    have := h.val i hil
    rw [getD_some hi] at this
    show sm (tr (heapAt _ _) k) _
    rw [et]
    exact this
theorem good_can {N : List Rw} (g : Good N) (c : Can (lastT N)) {k : Nat} (hk : k < N.length) : Can (tr N k) := fun x b => c x (b.trans (rch_below g.v (g.all k hk)))
theorem can_eqv_iff {g h : Gm} (cg : Can g) (ch : Can h) : eqv g h ↔ sm g h := ⟨fun e => e.sm, fun s => one_form _ _ cg ch s⟩
section
variable {le : Mk → Mk → Bool} {N M : List Rw}
/-- least forms are told apart by their marks -/
theorem marks_sm (ok : LeOk le) (g : Good N) (g' : Good M) (c : Can (lastT N)) (c' : Can (lastT M)) : marks le N = marks le M ↔ sm (lastT N) (lastT M) := (marks_iff ok g g').trans (can_eqv_iff c c')
theorem marks_len_le (v : Val N) (g : Good M) (c : Can (lastT M)) (on : ∀ k, k < M.length → ∃ i, i < N.length ∧ sm (tr M k) (tr N i)) : (marks le M).length ≤ (marks le N).length := by
  have e1 : (marks le M).length = (ord le M (maxD M)).length := marks_len le M _
  have e2 : (marks le N).length = (ord le N (maxD N)).length := marks_len le N _
  rw [e1, e2]
  have mo := mem_order (le := le) g.v (maxD M)
  have nd := order_nodup (le := le) g.v (maxD M)
  -- a kind of M goes to a kind of N
  have key : ∀ z, z ∈ ord le M (maxD M) → ∃ k i, k < M.length ∧ kd M k = z ∧ i < N.length ∧ sm (tr M k) (tr N i) := fun z hz => by
    obtain ⟨k, hk, _, e⟩ := (mo z).mp hz
    obtain ⟨i, hi, s⟩ := on k hk
    exact ⟨k, i, hk, e, hi, s⟩
  have key2 : ∃ f : Nat → Nat × Nat, ∀ z, z ∈ ord le M (maxD M) → (f z).1 < M.length ∧ kd M (f z).1 = z ∧ (f z).2 < N.length ∧ sm (tr M (f z).1) (tr N (f z).2) := by
    refine ⟨fun z => @dite _ (z ∈ ord le M (maxD M)) (Classical.propDecidable _) (fun hz => ((key z hz).choose, (key z hz).choose_spec.choose)) (fun _ => (0, 0)), fun z hz => ?_⟩
    simp only [dif_pos hz]
    exact (key z hz).choose_spec.choose_spec
  obtain ⟨f, hf⟩ := key2
  have nd2 : ((ord le M (maxD M)).map fun z => kd N (f z).2).Nodup := by
    refine List.pairwise_map.mpr (List.Pairwise.imp_of_mem (fun {a b} ha hb ne e => ne ?_) nd)
    obtain ⟨a1, a2, a3, a4⟩ := hf a ha
    obtain ⟨b1, b2, b3, b4⟩ := hf b hb
    have ev := (kd_iff v a3 b3).mp e
    have s := (a4.trans ev.sm).trans b4.symm
    have := one_form _ _ (good_can g c a1) (good_can g c b1) s
    rw [← a2, ← b2]
    exact (kd_iff g.v a1 b1).mpr this
  have := sub_len (b := ord le N (maxD N)) nd2 fun x hx => by
    obtain ⟨z, hz, rfl⟩ := List.mem_map.mp hx
    obtain ⟨_, _, a3, _⟩ := hf z hz
    exact (mem_order v _ _).mpr ⟨_, a3, dp_maxD a3, rfl⟩
  rwa [List.length_map] at this
theorem uniq_nodup {l : List Nat} : (uniq l).length = l.length ↔ l.Nodup := by
  constructor
  · induction l with
    | nil => exact fun _ => .nil
    | cons x xs ih =>
      intro h
      have h1 : (uniq (x :: xs)).length = (ins x (uniq xs)).length := rfl
      have h2 : (ins x (uniq xs)).length ≤ (uniq xs).length + 1 := len_ins
      have h3 := len_uniq xs
      rw [List.length_cons] at h
      refine List.nodup_cons.mpr ⟨fun hx => ?_, ih (by omega)⟩
      have hle : (uniq (x :: xs)).length ≤ (uniq xs).length := sub_len (asc_nodup (asc_uniq _)) fun z hz => by
        rcases List.mem_cons.mp (mem_uniq.mp hz) with q | q
        · rw [q]; exact mem_uniq.mpr hx
        · exact mem_uniq.mpr q
      omega
  · intro h
    refine Nat.le_antisymm (len_uniq l) (sub_len h fun z hz => mem_uniq.mpr hz)
/-- a heap without twins, equal to its least form, is one -/
theorem least_look (ok : LeOk le) (g : Good N) : (N.all (fun r => decide ((uniq (r.1.map fun k => (kinds N).getD k 0)).length = r.1.length) && decide ((uniq (r.2.map fun k => (kinds N).getD k 0)).length = r.2.length)) && decide (marks le N = marks le (leastN N))) = canB (lastT N) := by
  have L := leastN_ok g
  have ap : ∀ l : List Nat, (∀ x ∈ l, x < N.length) → ((uniq (l.map fun k => (kinds N).getD k 0)).length = l.length ↔ Apart eqv (l.map (tr N))) := fun l hl => by
    have e : (uniq (l.map fun k => (kinds N).getD k 0)).length = l.length ↔ (l.map (kd N)).Nodup := by
      rw [← uniq_nodup, List.length_map]
    rw [e]
    constructor
    · intro nd i j x y hi hj ne q
      rw [List.getElem?_map] at hi hj
      obtain ⟨a, ha, rfl⟩ := Option.map_eq_some_iff.mp hi
      obtain ⟨b, hb, rfl⟩ := Option.map_eq_some_iff.mp hj
      have hk := (kd_iff g.v (hl a (List.mem_of_getElem? ha)) (hl b (List.mem_of_getElem? hb))).mpr q
      exact ne (nodup_at nd (x := kd N a) (by rw [List.getElem?_map, ha] <;> rfl) (by rw [List.getElem?_map, hb, hk] <;> rfl))
    · intro h
      refine List.pairwise_iff_getElem.mpr fun i j hi hj hlt e => ?_
      rw [List.length_map] at hi hj
      rw [List.getElem_map, List.getElem_map] at e
      exact h i j _ _ (by rw [List.getElem?_map, List.getElem?_eq_getElem hi] <;> rfl) (by rw [List.getElem?_map, List.getElem?_eq_getElem hj] <;> rfl) (by omega) ((kd_iff g.v (hl _ (List.getElem_mem hi)) (hl _ (List.getElem_mem hj))).mp e)
  have lt1 : ∀ (k : Nat) (r : Rw), N[k]? = some r → (∀ x ∈ r.1, x < N.length) ∧ (∀ x ∈ r.2, x < N.length) := fun k r er => by
    obtain ⟨a, b⟩ := g.v k r er
    have := lt_of_some er
    exact ⟨fun x hx => Nat.lt_trans (a x hx) this, fun x hx => Nat.lt_trans (b x hx) this⟩
  have hp := List.length_pos_iff.mpr g.ne
  rw [Bool.eq_iff_iff, canB_iff, Bool.and_eq_true, List.all_eq_true, decide_eq_true_eq]
  constructor
  · rintro ⟨h1, h2⟩
    have ev := (marks_iff ok g L.g).mp h2
    refine can_of_eqv _ _ (fun x b => ?_) ev L.can
    obtain ⟨j, hj, rfl⟩ := below_rch g.v b (N.length - 1) (by omega) rfl
    obtain ⟨r, er⟩ := some_at (hj.lt g.v (by omega))
    have := h1 r (List.mem_of_getElem? er)
    rw [Bool.and_eq_true, decide_eq_true_eq, decide_eq_true_eq] at this
    obtain ⟨l1, l2⟩ := lt1 j r er
    rw [tr_l g.v er, tr_r g.v er]
    exact ⟨(ap r.1 l1).mp this.1, (ap r.2 l2).mp this.2⟩
  · intro c
    refine ⟨fun r hr => ?_, (marks_sm ok g L.g c L.can).mpr L.s.symm⟩
    obtain ⟨j, er⟩ := List.mem_iff_getElem?.mp hr
    obtain ⟨l1, l2⟩ := lt1 j r er
    have d := c.dis _ (rch_below g.v (g.all j (lt_of_some er)))
    rw [tr_l g.v er, tr_r g.v er] at d
    rw [Bool.and_eq_true, decide_eq_true_eq, decide_eq_true_eq]
    exact ⟨(ap r.1 l1).mpr d.1, (ap r.2 l2).mpr d.2⟩
end
end M84
namespace M84
/-- what is told of heaps so far: their rows; js are the places of their trees in N0 -/
structure PI (N0 : List Rw) (Hs : List (List Rw)) (js : List Nat) (R : List Rw) : Prop where
  l1 : Hs.length = R.length
  l2 : js.length = R.length
  t : ∀ (i : Nat) N j, Hs[i]? = some N → js[i]? = some j → Good N ∧ j < N0.length ∧ lastT N = tr N0 j
  nd : (js.map (kd N0)).Nodup
  v : Val R
  sd : SideP (· < 64) R
  e : ∀ (i : Nat) j, js[i]? = some j → eqv (tr R i) (tr N0 j)
  dis : ∀ i, i < R.length → Dis (tr R i)
theorem PI.jlt {N0 : List Rw} {Hs : List (List Rw)} {js : List Nat} {R : List Rw} (h : PI N0 Hs js R) : ∀ j ∈ js, j < N0.length := fun j hj => by
  obtain ⟨i, hi⟩ := List.mem_iff_getElem?.mp hj
  obtain ⟨N, hN⟩ := some_at (l := Hs) (i := i) (by rw [h.l1, ← h.l2]; exact lt_of_some hi)
  exact (h.t i N j hN hi).2.1
theorem PI.len {N0 : List Rw} {Hs : List (List Rw)} {js : List Nat} {R : List Rw} (h : PI N0 Hs js R) (v : Val N0) : R.length ≤ N0.length := by
  have := sub_len (b := kinds N0) h.nd fun x hx => by
    obtain ⟨j, hj, rfl⟩ := List.mem_map.mp hx
    show (kinds N0).getD j 0 ∈ kinds N0
    rw [getD_lt (by rw [kinds_len v]; exact h.jlt j hj)]
    exact List.getElem_mem _
  rw [List.length_map, kinds_len v, h.l2] at this
  exact this
theorem PI.nil (N0 : List Rw) : PI N0 [] [] [] := ⟨rfl, rfl, fun i N j h => by simp at h, .nil, val_nil, fun r h => (nomatch h), fun i j h => by simp at h, fun i h => absurd h (Nat.not_lt_zero _)⟩
theorem apart_of {R N : List Rw} {us ms : List Nat} (hl : us.length = ms.length) (he : ∀ (p : Nat) x u, ms[p]? = some x → us[p]? = some u → eqv (tr R u) (tr N x)) (ap : Apart eqv (ms.map (tr N))) : Apart eqv (us.map (tr R)) := by
  intro i j x y hi hj ne q
  rw [List.getElem?_map] at hi hj
  obtain ⟨a, ha, rfl⟩ := Option.map_eq_some_iff.mp hi
  obtain ⟨b, hb, rfl⟩ := Option.map_eq_some_iff.mp hj
  obtain ⟨c, hc⟩ := some_at (l := ms) (i := i) (by rw [← hl]; exact lt_of_some ha)
  obtain ⟨d, hd⟩ := some_at (l := ms) (i := j) (by rw [← hl]; exact lt_of_some hb)
  exact ap i j _ _ (by rw [List.getElem?_map, hc] <;> rfl) (by rw [List.getElem?_map, hd] <;> rfl) ne (((he i c a hc ha).symm.trans q).trans (he j d b hd hb))
theorem el_of {R N : List Rw} {us ms : List Nat} (hl : us.length = ms.length) (he : ∀ (p : Nat) x u, ms[p]? = some x → us[p]? = some u → eqv (tr R u) (tr N x)) : (∀ g ∈ us.map (tr R), ∃ h ∈ ms.map (tr N), eqv g h) ∧ (∀ h ∈ ms.map (tr N), ∃ g ∈ us.map (tr R), eqv g h) := by
  refine ⟨fun g hg => ?_, fun h hh => ?_⟩
  · obtain ⟨u, hu, rfl⟩ := List.mem_map.mp hg
    obtain ⟨p, hp⟩ := List.mem_iff_getElem?.mp hu
    obtain ⟨x, hx⟩ := some_at (l := ms) (i := p) (by rw [← hl]; exact lt_of_some hp)
    exact ⟨_, List.mem_map_of_mem (List.mem_of_getElem? hx), he p x u hx hp⟩
  · obtain ⟨x, hx, rfl⟩ := List.mem_map.mp hh
    obtain ⟨p, hp⟩ := List.mem_iff_getElem?.mp hx
    obtain ⟨u, hu⟩ := some_at (l := us) (i := p) (by rw [hl]; exact lt_of_some hp)
    exact ⟨_, List.mem_map_of_mem (List.mem_of_getElem? hu), he p x u hp hu⟩
theorem lastRow {N : List Rw} (g : Good N) {r : Rw} (er : N[N.length - 1]? = some r) : (lastT N).l = r.1.map (tr N) ∧ (lastT N).r = r.2.map (tr N) := ⟨tr_l g.v er, tr_r g.v er⟩
/-- one more heap is told -/
theorem PI.add {N0 : List Rw} {Hs : List (List Rw)} {js : List Nat} {R : List Rw} (h : PI N0 Hs js R) {N : List Rw} {j : Nat} {r : Rw} (g : Good N) (hj : j < N0.length) (ht : lastT N = tr N0 j) (hd : Dis (tr N0 j)) (hno : kd N0 j ∉ js.map (kd N0)) (er : N[N.length - 1]? = some r) {us ts : List Nat}
    (lu : us.length = r.1.length) (lt : ts.length = r.2.length) (hu : ∀ (p : Nat) x u, r.1[p]? = some x → us[p]? = some u → u < R.length ∧ eqv (tr R u) (tr N x)) (hts : ∀ (p : Nat) x u, r.2[p]? = some x → ts[p]? = some u → u < R.length ∧ eqv (tr R u) (tr N x)) (s1 : us.length < 64) (s2 : ts.length < 64) :
    PI N0 (Hs ++ [N]) (js ++ [j]) (R ++ [(us, ts)]) := by
  have ul : ∀ u ∈ us, u < R.length := fun u hm => by
    obtain ⟨p, hp⟩ := List.mem_iff_getElem?.mp hm
    obtain ⟨x, hx⟩ := some_at (l := r.1) (i := p) (by rw [← lu]; exact lt_of_some hp)
    exact (hu p x u hx hp).1
  have tl : ∀ u ∈ ts, u < R.length := fun u hm => by
    obtain ⟨p, hp⟩ := List.mem_iff_getElem?.mp hm
    obtain ⟨x, hx⟩ := some_at (l := r.2) (i := p) (by rw [← lt]; exact lt_of_some hp)
    exact (hts p x u hx hp).1
  have vR : Val (R ++ [(us, ts)]) := val_snoc (r := (us, ts)) h.v ul tl
  have old : ∀ i, i < R.length → tr (R ++ [(us, ts)]) i = tr R i := fun i hi => tr_app R _ i hi
  have new : tr (R ++ [(us, ts)]) R.length = .mk (us.map (tr R)) (ts.map (tr R)) := tr_last R (us, ts)
  obtain ⟨nl, nr⟩ := lastRow g er
  have hN : Dis (lastT N) := by rw [ht]; exact hd
  obtain ⟨apl, apr⟩ := hN _ (.here _)
  rw [nl] at apl
  rw [nr] at apr
  obtain ⟨e1, e2⟩ := el_of lu fun p x u hx hu' => (hu p x u hx hu').2
  obtain ⟨e3, e4⟩ := el_of lt fun p x u hx hu' => (hts p x u hx hu').2
  have ev : eqv (tr (R ++ [(us, ts)]) R.length) (tr N0 j) := by
    rw [new, ← ht, eqv_iff, nl, nr]
    exact ⟨e1, e2, e3, e4⟩
  refine ⟨by rw [List.length_append, List.length_append, h.l1] <;> rfl, by rw [List.length_append, List.length_append, h.l2] <;> rfl, fun i M k hi hk => ?_, ?_, vR, fun q hq => ?_, fun i k hk => ?_, fun i hi => ?_⟩
  · rcases snoc_some hi with hi1 | ⟨hi2, eM⟩
    · rcases snoc_some hk with hk1 | ⟨hk2, _⟩
      · exact h.t i M k hi1 hk1
      · have := lt_of_some hi1
        rw [h.l1] at this
        rw [h.l2] at hk2
        omega
    · rcases snoc_some hk with hk1 | ⟨_, eK⟩
      · have := lt_of_some hk1
        rw [h.l2] at this
        rw [h.l1] at hi2
        omega
      · subst eM; subst eK
        exact ⟨g, hj, ht⟩
  · rw [List.map_append]
    exact nodup_snoc h.nd hno
  · rcases List.mem_append.mp hq with hq | hq
    · exact h.sd q hq
    · have : q = (us, ts) := by simpa using hq
      rw [this]; exact ⟨s1, s2⟩
  · rcases snoc_some hk with hk1 | ⟨hk2, eK⟩
    · have := lt_of_some hk1
      rw [h.l2] at this
      rw [old i this]
      exact h.e i k hk1
    · rw [h.l2] at hk2
      subst eK
      rw [hk2]; exact ev
  · rw [List.length_append, List.length_singleton] at hi
    by_cases hi' : i < R.length
    · rw [old i hi']; exact h.dis i hi'
    · have : i = R.length := by omega
      rw [this, new]
      intro x b
      cases b with
      | here => exact ⟨apart_of lu (fun p x u hx hu' => (hu p x u hx hu').2) apl, apart_of lt (fun p x u hx hu' => (hts p x u hx hu').2) apr⟩
      | left hm b =>
        obtain ⟨u, hu', rfl⟩ := List.mem_map.mp hm
        exact h.dis u (ul u hu') x b
      | right hm b =>
        obtain ⟨u, hu', rfl⟩ := List.mem_map.mp hm
        exact h.dis u (tl u hu') x b
end M84
namespace M84
theorem told_moves {N N0 : List Rw} (g : Good N) (v0 : Val N0) {j : Nat} {r r0 : Rw} (er : N[N.length - 1]? = some r) (er0 : N0[j]? = some r0) (ht : lastT N = tr N0 j) : r.1.map (tr N) = r0.1.map (tr N0) ∧ r.2.map (tr N) = r0.2.map (tr N0) := by
  obtain ⟨a, b⟩ := lastRow g er
  rw [← a, ← b, ht, tr_l v0 er0, tr_r v0 er0]
  exact ⟨rfl, rfl⟩
theorem told_each {N N0 : List Rw} {l l0 : List Nat} (e : l.map (tr N) = l0.map (tr N0)) : l.length = l0.length ∧ ∀ (p : Nat) x y, l[p]? = some x → l0[p]? = some y → tr N x = tr N0 y := by
  refine ⟨by have := congrArg List.length e; rw [List.length_map, List.length_map] at this; exact this, fun p x y hx hy => ?_⟩
  have : (l.map (tr N))[p]? = (l0.map (tr N0))[p]? := by rw [e]
  rw [List.getElem?_map, List.getElem?_map, hx, hy] at this
  exact Option.some.inj this
theorem told_mv {N N0 : List Rw} (g : Good N) (v0 : Val N0) {j n : Nat} {r0 : Rw} {l l0 : List Nat} (er0 : N0[j]? = some r0) (hl : ∀ x ∈ l, x < N.length - 1) (hl0 : ∀ x ∈ l0, x ∈ r0.1 ++ r0.2 ∧ x < N0.length) (e : l.map (tr N) = l0.map (tr N0)) (hn : N.length < n + 1) : ∀ (p : Nat) M y, (l.map (heapAt N))[p]? = some M → l0[p]? = some y → y < N0.length ∧ lastT M = tr N0 y ∧ M.length < n ∧ dp N0 y < dp N0 j := by
  intro p M y hM hy
  rw [List.getElem?_map] at hM
  obtain ⟨x, hx, rfl⟩ := Option.map_eq_some_iff.mp hM
  have h1 := hl x (List.mem_of_getElem? hx)
  have h2 := hl0 y (List.mem_of_getElem? hy)
  have h3 := heapAt_len g.v x
  refine ⟨h2.2, ?_, by omega, dp_l v0 er0 h2.1⟩
  rw [heapAt_last g.v (by omega)]
  exact (told_each e).2 p x y hx hy
end M84
namespace M84
/-- rows that tell of a heap -/
structure Told (N R : List Rw) : Prop where
  v : Val R
  ne : R ≠ []
  len : R.length ≤ N.length
  sd : SideP (· < 64) R
  e : eqv (lastT R) (lastT N)
  d : Dis (lastT R)
theorem Told.can {N R : List Rw} (h : Told N R) (c : Can (lastT N)) : Can (lastT R) := can_of_eqv _ _ h.d h.e c
theorem Told.canB {N R : List Rw} (h : Told N R) (c : Can (lastT N)) : M84.canB (lastT R) = true := canB_iff.mpr (h.can c)
end M84

namespace M84
/-! ### stars and the ladder -/
abbrev s0 : Gm := .mk [] []
abbrev s1 : Gm := .mk [s0] [s0]
abbrev s2 : Gm := .mk [s0, s1] [s0, s1]
theorem st0 : lastT (starN 0) = s0 := rfl
theorem st1 : lastT (starN 1) = s1 := rfl
theorem st2 : lastT (starN 2) = s2 := rfl
/-- an option that is above or below forbids the order -/
theorem no_l {g h y : Gm} (hy : y ∈ h.l) (q : ge y g) : ¬ ge g h := fun e => (ge_iff.mp e).2 y hy q
theorem no_r {g h x : Gm} (hx : x ∈ g.r) (q : ge h x) : ¬ ge g h := fun e => (ge_iff.mp e).1 x hx q
theorem n01 : ¬ ge s0 s1 := no_l (y := s0) (by simp [Gm.l]) (ge_refl _)
theorem n10 : ¬ ge s1 s0 := no_r (x := s0) (by simp [Gm.r]) (ge_refl _)
theorem n02 : ¬ ge s0 s2 := no_l (y := s0) (by simp [Gm.l]) (ge_refl _)
theorem n20 : ¬ ge s2 s0 := no_r (x := s0) (by simp [Gm.r]) (ge_refl _)
theorem n12 : ¬ ge s1 s2 := no_l (y := s1) (by simp [Gm.l]) (ge_refl _)
theorem n21 : ¬ ge s2 s1 := no_r (x := s1) (by simp [Gm.r]) (ge_refl _)
theorem two {p : Gm → Prop} {a b : Gm} (ha : p a) (hb : p b) : ∀ x ∈ [a, b], p x := fun x hx => by
  rcases List.mem_cons.mp hx with h | h
  · rw [h]; exact ha
  · rw [List.mem_singleton.mp h]; exact hb
theorem one {p : Gm → Prop} {a : Gm} (ha : p a) : ∀ x ∈ [a], p x := fun x hx => by rw [List.mem_singleton.mp hx]; exact ha
theorem none_in {p : Gm → Prop} : ∀ x ∈ ([] : List Gm), p x := fun x hx => (nomatch hx)
theorem t12 : sm (.mk [s1, s2] [s1, s2]) s0 := ⟨ge_iff.mpr ⟨two n01 n02, none_in⟩, ge_iff.mpr ⟨none_in, two n10 n20⟩⟩
theorem t20 : sm (.mk [s2, s0] [s2, s0]) s1 := ⟨ge_iff.mpr ⟨two n12 n10, one (no_l (y := s0) (by simp [Gm.l]) (ge_refl _))⟩, ge_iff.mpr ⟨one (no_r (x := s0) (by simp [Gm.r]) (ge_refl _)), two n21 n01⟩⟩
theorem sm2 {a b c d : Gm} (h : sm a c) (k : sm b d) : sm (.mk [a, b] [a, b]) (.mk [c, d] [c, d]) := by
  have f : ∀ x ∈ [a, b], ∃ y ∈ [c, d], sm x y := two ⟨c, by simp, h⟩ ⟨d, by simp, k⟩
  have g : ∀ y ∈ [c, d], ∃ x ∈ [a, b], sm x y := two ⟨a, by simp, h⟩ ⟨b, by simp, k⟩
  exact sm_of f g f g
def stS (k : Nat) : Gm := if k = 0 then s0 else if k = 1 then s1 else s2
theorem lad_step (k : Nat) : lad (k + 2) = [k, k + 1] := by
  unfold lad
  have : k + 2 - (k + 2 - 2) = 2 := by omega
  rw [this]
  have e : k + 2 - 2 = k := by omega
  rw [e] <;> rfl
theorem lad_sm (m : Nat) : ∀ k, k < m → sm (tr (ladR m) k) (stS (k % 3)) := by
  intro k
  induction k using Nat.strongRecOn with
  | _ k ih =>
    intro hk
    obtain ⟨r, er⟩ := some_at (l := ladR m) (i := k) (by rw [ladR_len]; exact hk)
    obtain ⟨_, rfl⟩ := ladR_at er
    rw [tr_row (ladR_val m) er]
    match k, ih, hk, er with
    | 0, _, _, _ => exact sm.refl _
    | 1, ih, hk, er =>
      have h0 := ih 0 (by omega) (by omega)
      have e : lad 1 = [0] := rfl
      rw [e]
      have f : ∀ x ∈ [tr (ladR m) 0], ∃ y ∈ [s0], sm x y := one ⟨s0, by simp, h0⟩
      have g : ∀ y ∈ [s0], ∃ x ∈ [tr (ladR m) 0], sm x y := one ⟨_, by simp, h0⟩
      exact sm_of f g f g
    | k + 2, ih, hk, er =>
      have h1 := ih k (by omega) (by omega)
      have h2 := ih (k + 1) (by omega) (by omega)
      rw [lad_step]
      refine (sm2 h1 h2).trans ?_
      have c : k % 3 = 0 ∨ k % 3 = 1 ∨ k % 3 = 2 := by omega
      rcases c with c | c | c
      · have c1 : (k + 1) % 3 = 1 := by omega
        have c2 : (k + 2) % 3 = 2 := by omega
        rw [c, c1, c2]; exact sm.refl _
      · have c1 : (k + 1) % 3 = 2 := by omega
        have c2 : (k + 2) % 3 = 0 := by omega
        rw [c, c1, c2]; exact t12
      · have c1 : (k + 1) % 3 = 0 := by omega
        have c2 : (k + 2) % 3 = 1 := by omega
        rw [c, c1, c2]; exact t20
theorem star_t {k : Nat} (h : k < 3) : lastT (starN k) = stS k := by
  match k, h with
  | 0, _ => rfl
  | 1, _ => rfl
  | 2, _ => rfl
theorem can0 : Can s0 := Can.of ⟨fun i j x y h => by simp [Gm.l] at h, fun i j x y h => by simp [Gm.r] at h, none_in, none_in⟩ none_in none_in
theorem ap1 {a : Gm} {R : Gm → Gm → Prop} : Apart R [a] := fun i j x y hi hj ne => by
  have := lt_of_some hi
  have := lt_of_some hj
  simp at *
  omega
theorem ap2 {a b : Gm} {R : Gm → Gm → Prop} (h1 : ¬ R a b) (h2 : ¬ R b a) : Apart R [a, b] := fun i j x y hi hj ne => by
  match i, j, hi, hj, ne with
  | 0, 0, _, _, ne => exact absurd rfl ne
  | 0, 1, hi, hj, _ => cases hi; cases hj; exact h1
  | 1, 0, hi, hj, _ => cases hi; cases hj; exact h2
  | 1, 1, _, _, ne => exact absurd rfl ne
  | 0, j + 2, _, hj, _ => simp at hj
  | 1, j + 2, _, hj, _ => simp at hj
  | i + 2, _, hi, _, _ => simp at hi
theorem can1 : Can s1 := Can.of ⟨ap1, ap1, one none_in, one none_in⟩ (one can0) (one can0)
theorem can2 : Can s2 := Can.of ⟨ap2 n01 n10, ap2 n01 n10, two none_in (one n20), two none_in (one n02)⟩ (two can0 can1) (two can0 can1)
theorem can_st {k : Nat} (h : k < 3) : Can (lastT (starN k)) := by
  match k, h with
  | 0, _ => exact can0
  | 1, _ => exact can1
  | 2, _ => exact can2
end M84
namespace M84
/-! ### what the law asks of rows, their heap and its least form -/
structure RowsOk (A : List Rw) : Prop where
  v : Val A
  ne : A ≠ []
  len : A.length ≤ 13
  sd : SideP (· < 64) A
noncomputable abbrev formN (A : List Rw) : List Rw := leastN (heapR A)
section
variable {le : Mk → Mk → Bool} {A B : List Rw}
theorem RowsOk.heap (h : RowsOk A) : Good (heapR A) ∧ (heapR A).length ≤ 13 ∧ lastT (heapR A) = lastT A := by
  have k := heapR_ok h.v h.ne h.sd
  have hp := List.length_pos_iff.mpr h.ne
  have := k.len h.v (by omega)
  have := h.len
  exact ⟨k.g, by omega, heapR_t h.v h.ne h.sd⟩
theorem RowsOk.form (h : RowsOk A) : LeastOk (heapR A) (formN A) := leastN_ok h.heap.1
theorem RowsOk.flen (h : RowsOk A) : (formN A).length ≤ 26 := by
  have := h.form.len
  have := h.heap.2.1
  omega
theorem RowsOk.fsm (h : RowsOk A) : sm (lastT (formN A)) (lastT A) := by
  have := h.form.s
  rw [h.heap.2.2] at this
  exact this
theorem RowsOk.alike (h : RowsOk A) {R : List Rw} (t : Told (formN A) R) : alikeB A R = true := alikeB_iff.mpr (h.fsm.symm.trans t.e.sm.symm)
theorem RowsOk.mlen (h : RowsOk A) : (marks le (formN A)).length ≤ (marks le (heapR A)).length := marks_len_le h.heap.1.v h.form.g h.form.can h.form.on
theorem RowsOk.again (ok : LeOk le) (h : RowsOk A) : marks le (leastN (formN A)) = marks le (formN A) := by
  have L := leastN_ok h.form.g
  exact (marks_sm ok L.g h.form.g L.can h.form.can).mpr L.s
theorem RowsOk.same (ok : LeOk le) (h : RowsOk A) (k : RowsOk B) : decide (marks le (formN A) = marks le (formN B)) = alikeB A B := by
  have e : (marks le (formN A) = marks le (formN B)) ↔ alikeB A B = true := by
    rw [marks_sm ok h.form.g k.form.g h.form.can k.form.can, alikeB_iff]
    exact ⟨fun s => (h.fsm.symm.trans s).trans k.fsm, fun s => (h.fsm.trans s).trans k.fsm.symm⟩
  cases q : alikeB A B with
  | true => exact decide_eq_true (e.mpr q)
  | false => exact decide_eq_false fun z => by rw [e.mp z] at q; cases q
theorem RowsOk.canH (h : RowsOk A) : canB (lastT (heapR A)) = canB (lastT A) := by rw [h.heap.2.2]
theorem RowsOk.canF (h : RowsOk A) : canB (lastT (formN A)) = true := canB_iff.mpr h.form.can
theorem ladR_side (m : Nat) : SideP (· < 64) (ladR m) := fun r hr => by
  obtain ⟨k, hk⟩ := List.mem_iff_getElem?.mp hr
  obtain ⟨_, rfl⟩ := ladR_at hk
  have := lad_len k
  exact ⟨by show (lad k).length < 64; omega, by show (lad k).length < 64; omega⟩
theorem ladR_ok {m : Nat} (h1 : 1 ≤ m) (h2 : m ≤ 13) : RowsOk (ladR m) := ⟨ladR_val m, fun z => by have := ladR_len m; rw [z] at this; simp at this; omega, by rw [ladR_len]; exact h2, ladR_side m⟩
theorem ladder_star (ok : LeOk le) {m : Nat} (h1 : 1 ≤ m) (h2 : m ≤ 13) : marks le (formN (ladR m)) = marks le (starN ((m - 1) % 3)) := by
  have h := ladR_ok h1 h2
  have lt : (m - 1) % 3 < 3 := Nat.mod_lt _ (by decide)
  refine (marks_sm ok h.form.g (starN_good _) h.form.can (can_st lt)).mpr (h.fsm.trans ?_)
  rw [star_t lt]
  have := lad_sm m (m - 1) (by omega)
  unfold lastT
  rw [ladR_len]
  exact this
theorem nil_ok : Good (joined [] []) ∧ lastT (joined [] []) = s0 := by
  have j := joined_ok (A := []) (B := []) (fun N h => (nomatch h)) (fun N h => (nomatch h))
  exact ⟨j.g, j.t⟩
theorem nil_form (ok : LeOk le) : marks le (leastN (joined [] [])) = marks le (joined [] []) := by
  obtain ⟨g, t⟩ := nil_ok
  have L := leastN_ok g
  exact (marks_sm ok L.g g L.can (by rw [t]; exact can0)).mpr L.s
theorem summed_side {A B : List Rw} (vA : Val A) (vB : Val B) (sA : SideP (· ≤ 2) A) (sB : SideP (· ≤ 2) B) : SideP (· < 64) (summedR A B) := by
  intro r hr
  obtain ⟨t, h⟩ := List.mem_iff_getElem?.mp hr
  have hl := lt_of_some h
  rw [summedR_len] at hl
  unfold summedR at h
  rw [List.getElem?_map, List.getElem?_range hl] at h
  have e : sumN A B t = r := Option.some.inj h
  subst e
  have hB : 0 < B.length := Nat.pos_of_ne_zero fun z => by rw [z, Nat.mul_zero] at hl; omega
  have hk : t / B.length < A.length := (Nat.div_lt_iff_lt_mul hB).mpr hl
  have hj := Nat.mod_lt t hB
  obtain ⟨r, er⟩ := some_at hk
  obtain ⟨q, eq⟩ := some_at hj
  obtain ⟨a1, a2⟩ := sA r (List.mem_of_getElem? er)
  obtain ⟨b1, b2⟩ := sB q (List.mem_of_getElem? eq)
  unfold sumN sumRow row
  rw [getD_some er, getD_some eq]
  refine ⟨?_, ?_⟩
  · show (_ ++ _ : List Nat).length < 64
    rw [List.length_append, List.length_map, List.length_map]; omega
  · show (_ ++ _ : List Nat).length < 64
    rw [List.length_append, List.length_map, List.length_map]; omega
theorem summed_ok {A B : List Rw} (vA : Val A) (vB : Val B) (sA : SideP (· ≤ 2) A) (sB : SideP (· ≤ 2) B) (la : A.length = 4) (lb : B.length = 3) : RowsOk (summedR A B) :=
  ⟨summedR_val vA vB, fun z => by have := summedR_len A B; rw [z, la, lb] at this; simp at this, by rw [summedR_len, la, lb]; decide, summed_side vA vB sA sB⟩
theorem rows_ok {R : List Rw} {n : Nat} (v : Val R) (l : R.length = n) (s : SideP (· ≤ 2) R) (h1 : 1 ≤ n) (h2 : n ≤ 13) : RowsOk R :=
  ⟨v, fun z => by rw [z] at l; simp at l; omega, by omega, fun r hr => by have := s r hr; dsimp only at this; exact ⟨by have := this.1; show r.1.length < 64; omega, by have := this.2; show r.2.length < 64; omega⟩⟩
end
end M84
namespace M84
theorem marks_small {le : Mk → Mk → Bool} {N : List Rw} (v : Val N) : (marks le N).length ≤ N.length := by
  have e2 : (marks le N).length = (ord le N (maxD N)).length := marks_len le N _
  rw [e2]
  have h := sub_len (order_nodup (le := le) v (maxD N)) (b := kinds N) fun z hz => by
    obtain ⟨k, hk, _, e⟩ := (mem_order (le := le) v (maxD N) z).mp hz
    rw [← e]
    show (kinds N).getD k 0 ∈ kinds N
    rw [getD_lt (by rw [kinds_len v]; exact hk)]
    exact List.getElem_mem _
  rw [kinds_len v] at h
  exact h
end M84

/-! RxA: data that stays, dicts with nested keys. -/
namespace G84
open PySem PySem.Spec PyProof.Rows L2

/-! ### data stays while what is tracked stays -/
theorem sqt_mono {K : PySem.W.Frag} {H H' : Hp} {a : Addr} {xs : List V} (e : Same H H') (h : SqT K H a xs) : SqT K H' a xs := by
  rcases h with (h | ⟨o, h⟩) | h
  · exact .inl (.inl (e _ _ h))
  · exact .inl (.inr ⟨o, e _ _ h⟩)
  · exact .inr h
mutual
theorem dp_mono {K : PySem.W.Frag} {H H' : Hp} (e : Same H H') : ∀ {v : V} {d : PyData}, Dp K H v d → Dp K H' v d
  | _, _, .non => .non
  | _, _, .bl b => .bl b
  | _, _, .int i => .int i
  | _, _, .str x => .str x
  | _, _, .lst h a => .lst (e.seq h) (dpAll_mono e a)
  | _, _, .tup h a => .tup (sqt_mono e h) (dpAll_mono e a)
theorem dpAll_mono {K : PySem.W.Frag} {H H' : Hp} (e : Same H H') : ∀ {vs : List V} {ds : List PyData}, DpAll K H vs ds → DpAll K H' vs ds
  | _, _, .nil => .nil
  | _, _, .cons h a => .cons (dp_mono e h) (dpAll_mono e a)
end
theorem dpAll_len {K : PySem.W.Frag} {H : Hp} : ∀ {vs : List V} {ds : List PyData}, DpAll K H vs ds → vs.length = ds.length
  | _, _, .nil => rfl
  | _, _, .cons _ a => by rw [List.length_cons, List.length_cons, dpAll_len a]
theorem dpAll_get {K : PySem.W.Frag} {H : Hp} : ∀ {vs : List V} {ds : List PyData} {i : Nat} {v : V}, DpAll K H vs ds → vs[i]? = some v → ∃ d, ds[i]? = some d ∧ Dp K H v d
  | _, _, 0, _, .cons h _, e => ⟨_, rfl, by rw [← Option.some.inj e]; exact h⟩
  | _, _, i + 1, _, .cons _ a, e => dpAll_get (i := i) a e
theorem dpAll_get' {K : PySem.W.Frag} {H : Hp} : ∀ {vs : List V} {ds : List PyData} {i : Nat} {d : PyData}, DpAll K H vs ds → ds[i]? = some d → ∃ v, vs[i]? = some v ∧ Dp K H v d
  | _, _, 0, _, .cons h _, e => ⟨_, rfl, by rw [← Option.some.inj e]; exact h⟩
  | _, _, i + 1, _, .cons _ a, e => dpAll_get' (i := i) a e
theorem dpAll_snoc {K : PySem.W.Frag} {H : Hp} : ∀ {vs : List V} {ds : List PyData} {v : V} {d : PyData}, DpAll K H vs ds → Dp K H v d → DpAll K H (vs ++ [v]) (ds ++ [d])
  | _, _, _, _, .nil, h => .cons h .nil
  | _, _, _, _, .cons k a, h => .cons k (dpAll_snoc a h)
theorem dpAll_app {K : PySem.W.Frag} {H : Hp} : ∀ {vs ws : List V} {ds es : List PyData}, DpAll K H vs ds → DpAll K H ws es → DpAll K H (vs ++ ws) (ds ++ es)
  | _, _, _, _, .nil, h => h
  | _, _, _, _, .cons k a, h => .cons k (dpAll_app a h)
theorem dpAll_ints {K : PySem.W.Frag} {H : Hp} : ∀ ns : List Int, DpAll K H (ns.map V.int) (ns.map PyData.int)
  | [] => .nil
  | n :: ns => .cons (.int n) (dpAll_ints ns)
theorem ints_of_dpAll {K : PySem.W.Frag} {H : Hp} : ∀ {vs : List V} {ns : List Int}, DpAll K H vs (ns.map PyData.int) → vs = ns.map V.int
  | _, [], .nil => rfl
  | _, n :: ns, .cons h a => by
    cases h
    rw [List.map_cons, ints_of_dpAll a]

/-! ### keys -/
mutual
def toKey : PyData → NestedKey
  | .int i => .num i
  | .tuple ds => .tup (toKeys ds)
  | _ => .none
def toKeys : List PyData → List NestedKey
  | [] => []
  | d :: ds => toKey d :: toKeys ds
end
mutual
def keyable : PyData → Bool
  | .int _ => true
  | .tuple ds => keyables ds
  | _ => false
def keyables : List PyData → Bool
  | [] => true
  | d :: ds => keyable d && keyables ds
end
section
variable {X : Cx} {pins : List (Addr × Obj)} {σ : L2.St} {H : Hp} {s : Shared}
mutual
theorem nested_of (I : Inv X pins σ H s) : ∀ (d : PyData) (v : V) (u : Value), keyable d = true → Dp X.K H v d → RelV v u → NestedIs s.heap (toKey d) u
  | .int i, _, _, _, h, r => by
    cases h
    obtain ⟨t, rfl⟩ := r
    rw [toKey]
    exact .int i t
  | .tuple ds, _, _, k, h, r => by
    cases h with
    | tup hs ha =>
      cases r
      obtain ⟨its, rv, ⟨o, ho, hc, n, hd⟩, _⟩ := I.tuple hs
      rw [toKey]
      rw [keyable] at k
      exact .tup ho hc hd (nested_all I ds _ its k ha rv)
  | .none, _, _, k, _, _ => by simp [keyable] at k
  | .bool _, _, _, k, _, _ => by simp [keyable] at k
  | .str _, _, _, k, _, _ => by simp [keyable] at k
  | .list _, _, _, k, _, _ => by simp [keyable] at k
  | .dict _, _, _, k, _, _ => by simp [keyable] at k
theorem nested_all (I : Inv X pins σ H s) : ∀ (ds : List PyData) (vs : List V) (us : List Value), keyables ds = true → DpAll X.K H vs ds → Vals vs us → NestedAll s.heap (toKeys ds) us
  | [], _, _, _, h, r => by
    cases h
    cases r
    rw [toKeys]
    exact .nil
  | d :: ds, _, _, k, h, r => by
    cases h with
    | cons h1 h2 =>
      cases r with
      | cons r1 r2 =>
        rw [keyables, Bool.and_eq_true] at k
        rw [toKeys]
        exact .cons (nested_of I d _ _ k.1 h1 r1) (nested_all I ds _ _ k.2 h2 r2)
end
end

/-! ### a dict with nested keys -/
def NDO (P : Program) (w : World) (d : Addr) (xs : List (NestedKey × Addr × Value)) : HO :=
  .ext fun h => ∃ o es ep, h.get? d = some o ∧ o.ExactDict ∧ o.data = .dict es ep ∧ es.toList = xs.map (entryOfKey (nestedKind P w))
/-- a datum that serves as a key: its tuple stands at a -/
def KeyAt (K : PySem.W.Frag) (G : Hp) (k : NestedKey) (a : Addr) : Prop := ∃ d, Dp K G (.ref a) d ∧ keyable d = true ∧ toKey d = k ∧ k.depth ≤ 8
/-- at d a dict that holds M, of at most n entries; its keys stand in G -/
structure ND (P : Program) (w : World) (K : PySem.W.Frag) (G H : Hp) (d : Addr) (M : NestedKey → Option V) (n : Nat) : Prop where
  ex : ∃ xs : List (NestedKey × Addr × Value), H d = some (NDO P w d xs) ∧ (xs.map (·.1)).Nodup ∧ xs.length ≤ n ∧ (∀ x ∈ xs, KeyAt K G x.1 x.2.1) ∧ (∀ k, RelO (M k) ((atKey xs k).map (·.2)))
  nsm : (d == sysModules) = false
theorem KeyAt.mono {K : PySem.W.Frag} {G G' : Hp} {k : NestedKey} {a : Addr} (e : Same G G') (h : KeyAt K G k a) : KeyAt K G' k a :=
  let ⟨d, h1, h2, h3, h4⟩ := h
  ⟨d, dp_mono e h1, h2, h3, h4⟩
theorem ND.mono {P : Program} {w : World} {K : PySem.W.Frag} {G G' H H' : Hp} {d : Addr} {M : NestedKey → Option V} {n : Nat} (N : ND P w K G H d M n) (e : Same G G') (h : H' d = H d) : ND P w K G' H' d M n := by
  obtain ⟨⟨xs, h1, h2, h3, h4, h5⟩, h6⟩ := N
  exact ⟨⟨xs, by rw [h]; exact h1, h2, h3, fun x hx => (h4 x hx).mono e, h5⟩, h6⟩
section
variable {X : Cx} {pins : List (Addr × Obj)} {σ : L2.St} {G H : Hp} {s : Shared} {d : Addr} {M : NestedKey → Option V} {n : Nat}
theorem key_is (I : Inv X pins σ H s) (e : Same G H) {k : NestedKey} {a : Addr} (h : KeyAt X.K G k a) : (nestedKind X.prog X.w).is s.heap k a := by
  obtain ⟨dt, h1, h2, h3, h4⟩ := h
  rw [← h3] at h4 ⊢
  exact ⟨nested_of I dt _ _ h2 (dp_mono e h1) rfl, h4⟩
theorem ND.dict (I : Inv X pins σ H s) (e : Same G H) (N : ND X.prog X.w X.K G H d M n) :
    ∃ xs, s.heap.DictOfH (nestedKind X.prog X.w) d xs ∧ xs.length ≤ n ∧ (∀ x ∈ xs, KeyAt X.K G x.1 x.2.1) ∧ (∀ k, RelO (M k) ((atKey xs k).map (·.2))) ∧ H d = some (NDO X.prog X.w d xs) := by
  obtain ⟨⟨xs, h1, h2, h3, h4, h5⟩, _⟩ := N
  obtain ⟨⟨o, es, ep, q1, q2, q3, q4⟩, _⟩ := I.hok d _ h1
  exact ⟨xs, ⟨o, es, ep, q1, q2, q3, q4, fun x hx => key_is I e (h4 x hx), h2⟩, h3, h4, h5, h1⟩
end
/-- {}: a dict with nested keys -/
def tDNewX (P : Program) (w : World) (K : PySem.W.Frag) : TE := fun _ H Q => ∀ p, H p = none → (∀ G : Hp, ND P w K G (upd H p (NDO P w p [])) p (fun _ => none) 0) → Q (.ref p) (upd H p (NDO P w p []))
theorem pe_dnewX {X : Cx} {pos : Pos} : PE X (.Dict [] [] pos) (tDNewX X.prog X.w X.K) := ⟨fun pins s σ H Q I h => by
  refine wpAny_Dict_empty ⟨.ref s.heap.objs.size, _, I.laid (a := s.heap.objs.size) (o := NDO X.prog X.w s.heap.objs.size []) (t' := s.toks) (fun _ _ q => Heap.get?_push_of_some _ q) (Nat.le_refl _) ?_, rfl, h _ (I.hok.fresh (Nat.le_refl _)) ?_⟩
  · refine ⟨⟨_, #[], 0, Heap.get?_push_size _ rfl, ⟨rfl, rfl, rfl⟩, rfl, rfl⟩, ⟨_, Heap.get?_push_size _ rfl⟩, ?_⟩
    rintro h1 h2 ⟨o, es, ep, q1, q2⟩ k
    exact ⟨o, es, ep, k o q1, q2⟩
  · intro G
    refine ⟨⟨[], upd_same, List.nodup_nil, Nat.le_refl _, fun x hx => by simp at hx, fun k => ?_⟩, beq_eq_false_iff_ne.mpr (Ne.symm (Nat.ne_of_lt I.big))⟩
    exact True.intro⟩
/-- k not in d -/
def rNdNotIn (P : Program) (w : World) (K : PySem.W.Frag) : R2 := fun x y H Q => ∃ (G : Hp) (a d : Addr) (M : NestedKey → Option V) (n : Nat) (k : NestedKey), x = .ref a ∧ y = .ref d ∧ Same G H ∧ ND P w K G H d M n ∧ KeyAt K H k a ∧ Q (.bl (!(M k).isSome)) H
theorem relO_isSome {o : Option V} {p : Option Value} (r : RelO o p) : o.isSome = p.isSome := by
  cases o <;> cases p <;> first | rfl | exact r.elim
theorem op_ndNotIn {X : Cx} (hu : X.A.units + 64 < cLine) : OpR X (compareOp .NotIn) (rNdNotIn X.prog X.w X.K) := by
  intro pins s σ H x y v u Q I rx ry h
  obtain ⟨G, a, d, M, n, k, rfl, rfl, e, N, hk, q⟩ := h
  cases rx
  cases ry
  obtain ⟨xs, hd, hz, _, hM, _⟩ := N.dict I e
  refine wpAny_notIn_heap (knd := nestedKind X.prog X.w) (by show X.A.units + 1 + 8 < cLine; omega) (key_is I (Same.refl H) hk) N.nsm hd ⟨.bl _, H, I.tok _, rfl, ?_⟩
  have r := relO_isSome (hM k)
  rw [Option.isSome_map] at r
  rw [← r]
  exact q
/-- d[k], there -/
def rNdGet (P : Program) (w : World) (K : PySem.W.Frag) : R2 := fun x y H Q => ∃ (G : Hp) (a d : Addr) (M : NestedKey → Option V) (n : Nat) (k : NestedKey) (v : V), x = .ref d ∧ y = .ref a ∧ Same G H ∧ ND P w K G H d M n ∧ KeyAt K H k a ∧ M k = some v ∧ Q v H
theorem pe_ndget {X : Cx} {o i : Expr} {td ty : TE} {pos : Pos} (hu : X.A.units + 64 < cLine) (ho : PE X o td) (hi : PE X i ty) (hs : NoSl i) : PE X (.Subscript o i pos) (tOp (rNdGet X.prog X.w X.K) td ty) := by
  refine ⟨fun pins s σ H Q I h => ?_⟩
  refine subD_of PySem.F.slot_dict_getitem.lookup hs (thn (ho.run pins s σ H _ I h) fun u s1 ⟨x, H1, I1, rx, q1⟩ => thn (hi.run pins s1 σ H1 _ I1 q1) fun iv s2 ⟨y, H2, I2, ry, q2⟩ => ?_)
  obtain ⟨G, a, d, M, n, k, v, rfl, rfl, e, N, hk, hv, q⟩ := q2
  cases rx
  cases ry
  obtain ⟨xs, hd, hz, _, hM, _⟩ := N.dict I2 e
  obtain ⟨w', hw, rw'⟩ := RelO.some_of (v := v) (o := (atKey xs k).map (·.2)) (by rw [← hv]; exact hM k)
  obtain ⟨p, hp, hp2⟩ := Option.map_eq_some_iff.mp hw
  refine ⟨hd.typeIs, wpAny_getItem_heap (knd := nestedKind X.prog X.w) (by show X.A.units + 1 + 8 < cLine; omega) (key_is I2 (Same.refl H2) hk) hd hp ?_⟩
  rw [hp2]
  exact ⟨v, H2, I2.tok _, rw', q⟩
theorem atKey_snoc {xs : List (NestedKey × Addr × Value)} {k k' : NestedKey} {a : Addr} {v : Value} (h : atKey xs k = none) : atKey (xs ++ [(k, a, v)]) k' = if k' = k then some (a, v) else atKey xs k' := by
  unfold atKey at h ⊢
  rw [List.find?_append]
  by_cases e : k' = k
  · subst e
    rw [if_pos rfl, Option.map_eq_none_iff.mp h]
    simp
  · rw [if_neg e]
    have : List.find? (fun x : NestedKey × Addr × Value => decide (x.1 = k')) [(k, a, v)] = none := by
      rw [List.find?_eq_none]
      intro x hx
      rw [List.mem_singleton] at hx
      subst hx
      simp
      exact fun q => e q.symm
    rw [this, Option.or_none]
/-- d[k] = v, k not there yet -/
def setM (M : NestedKey → Option V) (k : NestedKey) (v : V) : NestedKey → Option V := fun k' => if k' = k then some v else M k'
def rNdPut (P : Program) (w : World) (K : PySem.W.Frag) : TSet := fun o i v H Q => ∃ (G : Hp) (a d : Addr) (M : NestedKey → Option V) (n : Nat) (k : NestedKey), o = .ref d ∧ i = .ref a ∧ Same G H ∧ G d = none ∧ ND P w K G H d M n ∧ KeyAt K G k a ∧ M k = none ∧ n < sizeLine ∧
  ∀ ob, ND P w K G (upd H d ob) d (setM M k v) (n + 1) → Q (upd H d ob)
theorem set_nd {X : Cx} (hu : X.A.units + 64 < cLine) : PSet X (rNdPut X.prog X.w X.K) := by
  intro pins s σ H o i v ov iv u Q I ro ri rv h
  obtain ⟨G, a, d, M, n, k, rfl, rfl, e, gd, N, hk, hv, hn, q⟩ := h
  cases ro
  cases ri
  obtain ⟨xs, hd, hz, hks, hM, hHd⟩ := N.dict I e
  have hna : atKey xs k = none := by
    have r := relO_isSome (hM k)
    rw [hv, Option.isSome_map] at r
    cases z : atKey xs k with
    | none => rfl
    | some _ => rw [z] at r; cases r
  refine wpAny_setItem_heap (knd := nestedKind X.prog X.w) (hsz := by omega) (by show X.A.units + 1 + 8 < cLine; omega) (key_is I e hk) hd fun h' dd' hs => ?_
  rw [storedH_new hna] at dd'
  obtain ⟨ob, es, ep, q1, q2, q3, q4, _, q6⟩ := dd'
  refine ⟨upd H d (NDO X.prog X.w d (xs ++ [(k, a, u)])), d_write I (by rw [hHd]; exact True.intro) hs ⟨ob, q1⟩ ⟨⟨ob, es, ep, q1, q2, q3, q4⟩, ⟨ob, q1⟩, ?_⟩, q _ ⟨⟨_, upd_same, q6, ?_, ?_, ?_⟩, N.nsm⟩⟩
  · rintro h1 h2 ⟨o1, es1, ep1, z1, z2⟩ kk
    exact ⟨o1, es1, ep1, kk o1 z1, z2⟩
  · rw [List.length_append, List.length_singleton]
    omega
  · intro x hx
    rcases List.mem_append.mp hx with hx | hx
    · exact hks x hx
    · rw [List.mem_singleton] at hx
      subst hx
      exact hk
  · intro k'
    rw [atKey_snoc hna]
    unfold setM
    by_cases ek : k' = k
    · rw [if_pos ek, if_pos ek]
      exact rv
    · rw [if_neg ek, if_neg ek]
      exact hM k'
end G84

/-! RxB: == and != of instances by their own __eq__. -/
namespace G84
open PySem PySem.Spec PyProof.Rows L2

/-- the own == of the class C promises: of two that D speaks of, the answer that D tells -/
def spEqB (D : Addr → Addr → Hp → Bool → Prop) : Sp := fun vs H Q _ => ∃ (a b : Addr) (k : Bool), vs = [.ref a, .ref b] ∧ D a b H k ∧ ∀ H', Same H H' → Q (.bl k) H'
/-- facts of the class C with an own __eq__ at f -/
structure OwnEqC (K : PySem.W.Frag) (C f : Addr) : Prop where
  eq : PySem.W.findIn K (.ref C) "__eq__" = some (some (.ref f))
  fn : PySem.W.isFn K (.ref f) = true
  ne : PySem.W.findIn K (.ref C) "__ne__" = some (some (.builtin "object.__ne__"))
  sb : PySem.W.subIn K (.ref C) (.type "object") = some true
section
variable {X : Cx} {n : Nat} {CX : CXT} {C f : Addr} {fd : FuncData} {ps : List Str} {D : Addr → Addr → Hp → Bool → Prop} {E : XK}
/-- the call of the own __eq__ inside A -/
theorem eq_call (F : FnOk X.prog X.w X.K X.mg X.base CX n f fd ps (spEqB D)) (hb : Binds X.K fd ps []) (hx : Passes CX X E) {A : Around} {pins : List (Addr × Obj)} {s : Shared} {σ : L2.St} {H : Hp} {a b : Addr} {k : Bool} (sb : L2.Sub X n A) (I : Inv X pins σ H s)
    (hr : D a b H k) : wpAny (model X.prog X.w) A (call (.ref f) [.ref a, .ref b]) (fun r s' => r = .bool k ∧ ∃ H', Inv X pins σ H' s' ∧ Same H H') X.xe s := by
  have hsp : spEqB D [.ref a, .ref b] H (fun v H' => v = .bl k ∧ Same H H') E := ⟨a, b, k, rfl, hr, fun H' e => ⟨rfl, e⟩⟩
  have e0 : Env0 X.prog X.w X.K X.mg X.base A X.stack s H := by
    have e := I.env0
    exact ⟨by rw [sb.fr]; exact e.frames, e.mod, e.bs, e.bsz, e.funs, e.frf, e.hok, e.bare⟩
  have hl := F.len _ _ _ _ hsp
  have r2 : Vals [V.ref a, V.ref b] [Value.ref a, Value.ref b] := .cons rfl (.cons rfl .nil)
  refine wpAny_call (codeAny_mono (F.run A X.stack s H ⟨[.ref a, .ref b], []⟩ [.ref a, .ref b] [.ref a, .ref b] _ E sb.room e0 (by
    have := hb s [.ref a, .ref b] I.kIn (by simpa using hl)
    simpa using this) r2 hsp) fun r s' hq => ?_)
  cases r with
  | error e => exact hx pins σ H s e s' I hq
  | ok fl =>
    cases fl with
    | ret w =>
      obtain ⟨z, H', I', rz, ez, ex⟩ := I.after hq
      subst ez
      cases rz
      exact ⟨rfl, H', I', ex⟩
    | next => exact False.elim hq
    | brk => exact False.elim hq
    | cont => exact False.elim hq
/-- == of two instances of C, wherever it is asked -/
theorem rc_eqB (F : FnOk X.prog X.w X.K X.mg X.base CX n f fd ps (spEqB D)) (O : OwnEqC X.K C f) (hb : Binds X.K fd ps []) (hx : Passes CX X E) {A : Around} {pins : List (Addr × Obj)} {s : Shared} {σ : L2.St} {H : Hp} {a b dx dy : Addr} {fs gs : List (Str × V)} {k : Bool}
    (sb : L2.Sub X n A) (I : Inv X pins σ H s) (ha : H a = some (.ins C dx fs)) (hb' : H b = some (.ins C dy gs)) (hr : D a b H k) :
    wpAny (model X.prog X.w) A (richCompare .Eq (.ref a) (.ref b)) (fun r s' => r = .bool k ∧ ∃ H', Inv X pins σ H' s' ∧ Same H H') X.xe s := by
  obtain ⟨mA, J, _⟩ := ins_get I.hok ha
  obtain ⟨mB, J', _⟩ := ins_get I.hok hb'
  obtain ⟨od, J, _⟩ := J.look
  obtain ⟨od', J', _⟩ := J'.look
  obtain ⟨m, hF⟩ := I.fr
  refine PySem.W.cmp_K (op := .Eq) (tb := .ref C) sb.room.units0 hF I.ok.mod.kin J J'.type (by simp [PySem.W.notFirst]) O.eq O.fn ?_
  refine thn (eq_call F hb hx sb I hr) fun r s' q => ?_
  obtain ⟨rfl, q⟩ := q
  exact ⟨rfl, q⟩
/-- one == other, as an expression -/
def rEqB (C : Addr) (D : Addr → Addr → Hp → Bool → Prop) : R2 := fun x y H Q => ∃ (a b dx dy : Addr) (fs gs : List (Str × V)) (k : Bool), x = .ref a ∧ y = .ref b ∧ H a = some (.ins C dx fs) ∧ H b = some (.ins C dy gs) ∧ D a b H k ∧ ∀ H', Same H H' → Q (.bl k) H'
theorem op_eqB (F : FnOk X.prog X.w X.K X.mg X.base CX n f fd ps (spEqB D)) (O : OwnEqC X.K C f) (hb : Binds X.K fd ps []) (hx : Passes CX X E) (hr : Room n X.A) : OpR X (compareOp .Eq) (rEqB C D) := by
  intro pins s σ H x y v u Q I rx ry h
  obtain ⟨a, b, dx, dy, fs, gs, k, rfl, rfl, ha, hb', hd, q⟩ := h
  cases rx
  cases ry
  show wpAny (model X.prog X.w) X.A (richCompare .Eq (.ref a) (.ref b)) (EP X pins σ Q) X.xe s
  refine thn (rc_eqB F O hb hx ⟨hr, rfl⟩ I ha hb' hd) fun r s' z => ?_
  obtain ⟨rfl, H', I', e⟩ := z
  exact ⟨.bl k, H', I', rfl, q H' e⟩
/-- one != other: object.__ne__ asks the own __eq__ -/
def rNeB (C : Addr) (D : Addr → Addr → Hp → Bool → Prop) : R2 := fun x y H Q => ∃ (a b dx dy : Addr) (fs gs : List (Str × V)) (k : Bool), x = .ref a ∧ y = .ref b ∧ H a = some (.ins C dx fs) ∧ H b = some (.ins C dy gs) ∧ D a b H k ∧ ∀ H', Same H H' → Q (.bl (!k)) H'
theorem op_neB (F : FnOk X.prog X.w X.K X.mg X.base CX n f fd ps (spEqB D)) (O : OwnEqC X.K C f) (hb : Binds X.K fd ps []) (hx : Passes CX X E) (hr : Room (n + 1) X.A) : OpR X (compareOp .NotEq) (rNeB C D) := by
  intro pins s σ H x y v u Q I rx ry h
  obtain ⟨a, b, dx, dy, fs, gs, k, rfl, rfl, ha, hb', hd, q⟩ := h
  cases rx
  cases ry
  obtain ⟨mA, J, _⟩ := ins_get I.hok ha
  obtain ⟨mB, J', _⟩ := ins_get I.hok hb'
  obtain ⟨od, J, _⟩ := J.look
  obtain ⟨od', J', _⟩ := J'.look
  have hu : X.A.units < cLine := hr.units0
  have hu1 : X.A.in1.units < cLine := hr.in1.units0
  have inner : wpAny (model X.prog X.w) X.A.in1 (Builtin.«object.__ne__» ⟨[.ref a, .ref b], []⟩) (fun fin s' => ∃ H', fin = .done (.ret (.bool (!k))) ∧ Inv X pins σ H' s' ∧ Same H H') X.xe s := by
    unfold Builtin.«object.__ne__»
    repeat (first
      | with_reducible refine wpAny_cRoomFor hu1 ?_
      | (refine wpAny_bind (m := callSpecialIfBound? (.ref a) (Str.ofString "__eq__") [.ref b]) (PySem.W.ifBound_K I.kIn J O.eq O.fn (wpAny_mono (eq_call F hb hx ⟨hr.in1, rfl⟩ I hd) (fun r s' hq => ?_) fun _ _ e => e)))
      | wp_step)
    obtain ⟨rfl, H', I', e⟩ := hq
    repeat (first | exact wpAny_pure ⟨H', rfl, I', e⟩ | exact ⟨H', rfl, I', e⟩ | (refine wpAny_bind (m := truthy (.bool _)) (wpAny_truthy_bool ?_)) | wp_step)
  have cs : wpAny (model X.prog X.w) X.A (callSpecialIfBound? (.ref a) "__ne__" [.ref b]) (fun r s' => r = some (.bool (!k)) ∧ ∃ H', Inv X pins σ H' s' ∧ Same H H') X.xe s := by
    simp only [callSpecialIfBound?, bindSpecialIfBound?]
    refine wpAny_holding (wpAny_bind (wpAny_bind (wpAny_bind (J.type.here ((PySem.W.looks_findIn I.kIn O.ne).here ?_)))))
    simp only [PySem.F.cmp_object.ne.bind]
    refine wpAny_bind (wpAny_askSetting (wpAny_ite ?_))
    have run : wpAny (model X.prog X.w) X.A (call (.builtin "object.__ne__") ([.ref a] ++ [.ref b])) (fun r s' => r = .bool (!k) ∧ ∃ H', Inv X pins σ H' s' ∧ Same H H') X.xe s := by
      refine wpAny_call (codeAny_call_builtin PySem.F.cmp_object.ne.plain PySem.F.cmpEntry_ne (PySem.W.check_slot PySem.F.cmpKind_ne PySem.F.cmpSplit_ne (J.type.andThen (PySem.W.looks_subIn I.kIn O.sb)) (PySem.F.cmpArgs_ne _ _) (thn inner fun fin s' z => ?_)))
      obtain ⟨H', rfl, I', e⟩ := z
      exact ⟨rfl, H', I', e⟩
    have fin : wpAny (model X.prog X.w) X.A (call (.builtin "object.__ne__") ([.ref a] ++ [.ref b]) >>= fun v => pure (some v)) (fun r s' => r = some (.bool (!k)) ∧ ∃ H', Inv X pins σ H' s' ∧ Same H H') X.xe s :=
      wpAny_bind (thn run fun v s' z => by
        obtain ⟨rfl, z⟩ := z
        exact wpAny_pure ⟨rfl, z⟩)
    split
    · exact wpAny_bind (wpAny_pure (wpAny_pure fin))
    · exact wpAny_tryCatch (wpAny_bind (wpAny_pure (wpAny_pure fin)))
  have one : wpAny (model X.prog X.w) X.A (tryCompare (.ref a) "__ne__" (.ref b)) (fun r s' => r = some (.bool (!k)) ∧ ∃ H', Inv X pins σ H' s' ∧ Same H H') X.xe s := by
    unfold tryCompare
    refine wpAny_bind (thn cs fun r s' z => ?_)
    obtain ⟨rfl, z⟩ := z
    exact wpAny_pure ⟨rfl, z⟩
  show wpAny (model X.prog X.w) X.A (richCompare .NotEq (.ref a) (.ref b)) (EP X pins σ Q) X.xe s
  unfold richCompare
  simp only [oneThing_ref]
  refine wpAny_holding (wpAny_bind (wpAny_cRoomFor hu ?_))
  rw [cmpInfo_NotEq]
  dsimp only
  refine wpAny_bind (J.type.here (wpAny_bind (J'.type.here ?_)))
  rw [show (Value.ref C != Value.ref C) = false from by simp]
  simp only [Bool.false_eq_true, if_false]
  refine wpAny_bind (wpAny_pure ?_)
  simp only [Bool.false_eq_true, if_false]
  refine wpAny_bind (thn one fun r s' z => ?_)
  obtain ⟨rfl, H', I', e⟩ := z
  exact wpAny_pure ⟨.bl (!k), H', I', rfl, q H' e⟩
end
end G84

/-! RxC: != of two lists of instances that are equal item by item. -/
namespace GN
open PySem PySem.SeqAt GQ
open AutoSeq1 (wpAny_loadPart')
open MeetsSeq MeetsSeq2 MeetsSeq3 SeqRoads2
section
variable {prog : Program} {w : World} {A : Around} {R : Result → Shared → Prop} {l b : Addr} {N : Nat} {I : Nat → Shared → Prop}
theorem no_more {i : Nat} {s : Shared} (hl : ListI prog w A (fun e s' => R (.error e) s') l b N I) (fin : ∀ s, I N s → R (.ok (.ret (.bool false))) s) (hi : i = N) (h : I i s) :
    wpAny (model prog w) A.in1 (Builtin.«list.__eq__.loop» ⟨[.ref l, .ref b, rawInt i, rawInt 3], []⟩) (FinOf prog w A R) (fun e s' => R (.error e) s') s := by
  subst hi
  obtain ⟨xs, ys, n, n2, hx, hy, sx, sy, _⟩ := hl _ _ h
  have done := fin s h
  obtain ⟨hp, g, d, tk, os⟩ := s
  wp_walk using wpAny_loadPart' hx, wpAny_loadPart' hy
  have e1 : xs[((i : Nat) : Int).toNat]? = none := by simp; omega
  have e2 : ys[((i : Nat) : Int).toNat]? = none := by simp; omega
  rw [e1, e2]
  wp_walk using wpAny_loadPart' hx, wpAny_loadPart' hy
  show R (.ok (.ret (.bool (xs.size != ys.size)))) _
  rw [sx, sy]
  simpa using done
theorem ne_turns (hl : ListI prog w A (fun e s' => R (.error e) s') l b N I) (fin : ∀ s, I N s → R (.ok (.ret (.bool false))) s) :
    ∀ (k i : Nat), i + k = N → ∀ s, I i s → wpAny (model prog w) A.in1 (Builtin.«list.__eq__.loop» ⟨[.ref l, .ref b, rawInt i, rawInt 3], []⟩) (FinOf prog w A R) (fun e s' => R (.error e) s') s
  | 0, i, hk, s, h => no_more hl fin hk h
  | k + 1, i, hk, s, h => by
    obtain ⟨xs, ys, n, n2, hx, hy, sx, sy, turn⟩ := hl _ _ h
    have lx : i < xs.size := by omega
    have ly : i < ys.size := by omega
    have one := turn lx ly
    obtain ⟨hp, g, d, tk, os⟩ := s
    wp_walk using wpAny_loadPart' hx, wpAny_loadPart' hy
    have e1 : xs[((i : Nat) : Int).toNat]? = some xs[i] := by simp [lx]
    have e2 : ys[((i : Nat) : Int).toNat]? = some ys[i] := by simp [ly]
    have e3 : ((i : Int) + 1) = ((i + 1 : Nat) : Int) := by omega
    rw [e1, e2]
    refine wpAny_bind (wpAny_mono one (fun r s2 h2 => ?_) fun _ _ x => x)
    obtain ⟨rfl, h2⟩ := h2
    have more := ne_turns hl fin k (i + 1) (by omega) s2 h2
    obtain ⟨hp2, g2, d2, tk2, os2⟩ := s2
    wp_walk
    rw [e3]
    exact ⟨plainId_quiet plain_eq_loop _, codeAny_builtin entry_eq_loop (by
      rw [Around.under_plainId plain_eq_loop _]
      exact more)⟩
theorem list_ne (hl : ListI prog w A (fun e s' => R (.error e) s') l b N I) (fin : ∀ s, I N s → R (.ok (.ret (.bool false))) s) {s : Shared} (h : I 0 s) :
    wpAny (model prog w) A.in1 (Builtin.«list.__ne__» ⟨[.ref l, .ref b], []⟩) (FinOf prog w A R) (fun e s' => R (.error e) s') s := by
  obtain ⟨xs, ys, n, n2, hx, hy, sx, sy, _⟩ := hl _ _ h
  have more := ne_turns hl fin N 0 (by omega) s h
  obtain ⟨hp, g, d, tk, os⟩ := s
  have f3 := AutoSeq1.sub_list_list
  have hne : ¬ (xs.size != ys.size) = true := by simp [sx, sy]
  wp_walk using wpAny_loadPart' hx, wpAny_loadPart' hy
  exact ⟨plainId_quiet plain_eq_loop _, codeAny_builtin entry_eq_loop (by
    rw [Around.under_plainId plain_eq_loop _]
    exact more)⟩
end
section
variable {prog : Program} {w : World} {A : Around} {E : Value → Shared → Prop} {s : Shared}
theorem rc_list_ne {l b : Addr} {N : Nat} {Q : Value → Shared → Prop} (hu : A.units < cLine) (I : Nat → Shared → Prop) (hl : ListI prog w A E l b N I) (fin : ∀ s, I N s → Q (.bool false) s) (h : I 0 s) :
    wpAny (model prog w) A (richCompare .NotEq (.ref l) (.ref b)) Q E s := by
  obtain ⟨xs, ys, n, n2, hx, hy, _, _, _⟩ := hl _ _ h
  refine wpAny_richCompare_same_room (op := .NotEq) ⟨_, hx, rfl⟩ ⟨_, hy, rfl⟩ F.slot_list_ne (call_here F.slot_list_ne ⟨_, hx, rfl⟩ F.entry_list_ne (F.args_list_ne_2 _ _) ?_) hu
  exact list_ne (R := wants (fun v s' => v ≠ .notImplemented ∧ Q v s') E) hl (fun s' q => ⟨(fun x => nomatch x), fin s' q⟩) h
end
end GN
namespace G84
open PySem PySem.Spec PyProof.Rows L2
section
variable {X : Cx} {n : Nat} {CX : CXT} {C f : Addr} {fd : FuncData} {ps : List Str} {D : Addr → Addr → Hp → Bool → Prop} {E : XK}
/-- xs != ys, lists of instances that are equal item by item -/
def rNeLB (C : Addr) (D : Addr → Addr → Hp → Bool → Prop) : R2 := fun x y H Q => ∃ (l m : Addr) (as bs : List Addr), x = .ref l ∧ y = .ref m ∧ H l = some (.lst (as.map V.ref)) ∧ H m = some (.lst (bs.map V.ref)) ∧ as.length = bs.length ∧
  (∀ (i : Nat) a b, as[i]? = some a → bs[i]? = some b → (∃ dx fs, H a = some (.ins C dx fs)) ∧ (∃ dy gs, H b = some (.ins C dy gs)) ∧ ∀ H', Same H H' → D a b H' true) ∧ ∀ H', Same H H' → Q (.bl false) H'
theorem op_neLB (F : FnOk X.prog X.w X.K X.mg X.base CX n f fd ps (spEqB D)) (O : OwnEqC X.K C f) (hb : Binds X.K fd ps []) (hx : Passes CX X E) (hr : Room (n + 1) X.A) : OpR X (compareOp .NotEq) (rNeLB C D) := by
  intro pins s σ H x y v u Q I rx ry h
  obtain ⟨l, m, as, bs, rfl, rfl, hl, hm, hlen, hd, q⟩ := h
  cases rx
  cases ry
  show wpAny (model X.prog X.w) X.A (richCompare .NotEq (.ref l) (.ref m)) (EP X pins σ Q) X.xe s
  refine GN.rc_list_ne (N := as.length) hr.units0 (fun _ s' => ∃ H', Inv X pins σ H' s' ∧ Same H H') (fun i s' z => ?_) (fun s' z => ?_) ⟨H, I, Same.refl H⟩
  · obtain ⟨H1, I1, e1⟩ := z
    obtain ⟨_, its, k, r, e⟩ := I1.hok l _ (e1 _ _ hl)
    obtain ⟨_, its2, k2, r2, e2⟩ := I1.hok m _ (e1 _ _ hm)
    have l1 := r.length
    have l2 := r2.length
    rw [List.length_map] at l1 l2
    refine ⟨its.toArray, its2.toArray, k, k2, e, e2, by rw [List.size_toArray, ← l1], by rw [List.size_toArray, ← l2, ← hlen], fun h1 h2 => ?_⟩
    have h1' : i < as.length := by rw [List.size_toArray] at h1; omega
    have h2' : i < bs.length := by rw [List.size_toArray] at h2; omega
    obtain ⟨u1, hu1, ru1⟩ := r.get (i := i) (x := V.ref as[i]) (by rw [List.getElem?_map, List.getElem?_eq_getElem h1'] <;> rfl)
    obtain ⟨u2, hu2, ru2⟩ := r2.get (i := i) (x := V.ref bs[i]) (by rw [List.getElem?_map, List.getElem?_eq_getElem h2'] <;> rfl)
    have g1 : its[i]? = some its.toArray[i] := by
      rw [List.getElem?_eq_getElem (by simpa using h1)] <;> simp
    have g2 : its2[i]? = some its2.toArray[i] := by
      rw [List.getElem?_eq_getElem (by simpa using h2)] <;> simp
    rw [g1] at hu1
    rw [g2] at hu2
    rw [Option.some.inj hu1, Option.some.inj hu2]
    cases ru1
    cases ru2
    obtain ⟨⟨dx, fs, ha⟩, ⟨dy, gs, hb'⟩, hD⟩ := hd i _ _ (List.getElem?_eq_getElem h1') (List.getElem?_eq_getElem h2')
    by_cases hab : as[i] = bs[i]
    · rw [hab]
      exact SeqAt.EqAt.same (A := X.A.in1) (s := s') (.ref bs[i]) X.prog X.w X.xe _ ⟨rfl, H1, I1, e1⟩
    · refine GQ.eqBool_refG hab (wpAny_mono (rc_eqB F O hb hx (A := X.A.in1) ⟨hr.in1, rfl⟩ I1 (e1 _ _ ha) (e1 _ _ hb') (hD H1 e1)) (fun r s2 z => ?_) fun _ _ x => x)
      obtain ⟨rfl, H2, I2, e2⟩ := z
      exact ⟨true, rfl, rfl, H2, I2, e1.trans e2⟩
  · obtain ⟨H1, I1, e1⟩ := z
    exact ⟨.bl false, H1, I1, rfl, q H1 e1⟩
end
end G84

/-! RxD: sorted of nested data; set of a list of ints, its length. -/
namespace G84
open PySem PySem.Spec PyProof.Rows L2
open PySem.W (EachIs)

/-! ### sorted of nested data -/
section
variable {X : Cx}
theorem each_of {β : Type} {R : V → β → Prop} : ∀ {vs : List V} {us : List Value} {bs : List β}, Vals vs us → EachIs R vs bs → EachIs (fun u b => ∃ x, RelV x u ∧ R x b) us bs
  | _, _, _, r, .nil => by
    cases r
    exact .nil
  | _, _, _, r, .cons d1 d2 => by
    cases r with
    | cons r1 r2 => exact .cons ⟨_, r1, d1⟩ (each_of r2 d2)
theorem of_each {β : Type} {R : V → β → Prop} : ∀ {us : List Value} {bs : List β}, EachIs (fun u b => ∃ x, RelV x u ∧ R x b) us bs → ∃ vs, Vals vs us ∧ EachIs R vs bs
  | _, _, .nil => ⟨[], .nil, .nil⟩
  | _, _, .cons h t => by
    obtain ⟨x, r, d⟩ := h
    obtain ⟨vs, r2, d2⟩ := of_each t
    exact ⟨x :: vs, .cons r r2, .cons d d2⟩
def rSortD (K : PySem.W.Frag) {β : Type} (enc : β → PyData) : List V → Hp → VK → Prop := fun vs H Q => ∃ (a : Addr) (xs : List V) (bs : List β) (Rx : V → β → Prop), vs = [V.ref a] ∧ SqL K H a xs ∧ EachIs (fun x b => Dp K H x (enc b) ∧ Rx x b) xs bs ∧
  ∀ ys p, EachIs Rx ys (bs.mergeSort (PySem.W.dataLe false enc)) → H p = none → Q (.ref p) (upd H p (.lst ys))
theorem cr_sortD {β : Type} {enc : β → PyData} (hu : X.A.units + 64 < cLine) (hal : ∀ b b', PySem.W.alike (enc b) (enc b') = true) (hk : ∀ b, ∃ x r, enc b = .tuple (x :: r)) (hd : ∀ b, (enc b).depth ≤ 8) : CallR X (.builtin "sorted") (rSortD X.K enc) := by
  intro pins s σ H vs us Q I r h
  obtain ⟨a, xs, bs, Rx, rfl, hs, hdp, q⟩ := h
  obtain ⟨its, rv, hl, hz⟩ := I.list hs
  rw [Vals.ref1 r]
  have e := each_of rv hdp
  have er : EachIs (fun u b => ∃ as, Reads s.heap u (enc b) as) its bs := e.mono fun u b ⟨x, rx, dx, _⟩ => Dp.reads I _ _ _ dx rx
  have ex : EachIs (fun u b => ∃ x, RelV x u ∧ Rx x b) its bs := e.mono fun u b ⟨x, rx, _, dx⟩ => ⟨x, rx, dx⟩
  have lb : bs.length = xs.length := hdp.length.symm
  refine PySem.W.sorted_data (enc := enc) hl.isList ex er (PySem.W.AllAlike.of hal) (PySem.W.Sortable.tuples hk) (by rw [lb]; exact hz) (fun b _ => by have := hd b; omega) fun out ho h1 => ?_
  obtain ⟨ys, r2, d2⟩ := of_each h1
  obtain ⟨ep, he'⟩ := PyProof.Rows.sortedAll_at s.heap its out.toArray
  have hlen : ys.length ≤ sizeLine := by
    rw [r2.length, ho, lb]
    exact hz
  exact ⟨.ref _, upd H (s.heap.objs.size + 1) (.lst ys), I.laid (t' := s.toks) (fun _ _ => PyProof.Rows.sortedAll_old) (Nat.le_succ _) ⟨hlen, out, ep, r2, he'⟩, rfl, q _ _ d2 (I.hok.fresh (Nat.le_succ _))⟩
end

/-! ### set(xs) of a list of ints -/
section
variable {P : Program} {w : World} {A : Around} {E : Value → Shared → Prop} {s : Shared}
abbrev newSet (w : World) : Obj := { cls := .type "set", dict := none, data := .set #[] 0 (.fresh 0 0 (!w.params.followText "set-order")) }
theorem call_set_listI {l : Addr} {its : Array Value} (ns : List Int) {Q : Value → Shared → Prop} (hh : A.handled = none) (hl : s.heap.IsList l its) (hit : IntsAre its.toList ns) (hb : ns.length + 1 < scanBound)
    (h : ∀ (h' : Heap) (tk c : Nat), SetR w h' s.heap.objs.size (fun j => decide (j ∈ ns)) c → c ≤ ns.length → (∀ b o, s.heap.get? b = some o → h'.get? b = some o) → Q (.ref s.heap.objs.size) { s with heap := h', toks := tk }) :
    wpAny (model P w) A (call (.type "set") [.ref l]) Q E s := by
  have hsz : its.size = ns.length := by
    have q := IntsAre.length hit
    rwa [Array.length_toList] at q
  obtain ⟨c, tl, hmro⟩ := PySem.F.called_set.mro
  have hmade := PySem.F.called_set.made
  have hsub := PySem.F.called_set.sub
  have h1 := PySem.F.called_set.notType
  have h2 := PySem.F.called_set.canCreate
  have hct := PySem.F.typeCall_set_1 (.ref l)
  refine wpAny_call (codeAny_of_tree ?_)
  show wpAny _ _ (callAny (.type "set") _) _ _ _
  refine wpAny_pure ⟨Code.quiet_builtin _ (by decide +kernel), codeAny_builtin PySem.F.entry_type_call ?_⟩
  rw [Around.under_plain (weight_type_call_type "set" [.ref l] []) rfl]
  repeat (any_goals (first | assumption | wp_step))
  refine codeAny_mono (code_set_led1 (.ref l) (E := E) (Q₁ := fun obj s1 => obj = .ref s.heap.objs.size ∧ s1 = { s with heap := s.heap.push (newSet w) }) ⟨rfl, rfl⟩) fun r s1 hr => ?_
  rcases r with e | fl
  · exact hr
  rcases fl with _ | _ | _ | obj
  · exact hr.elim
  · exact hr.elim
  · exact hr.elim
  obtain ⟨rfl, rfl⟩ := hr
  have hS : (s.heap.push (newSet w)).get? s.heap.objs.size = some (newSet w) := Heap.get?_push_size _ rfl
  have hT : Shared.TypeIs { s with heap := s.heap.push (newSet w) } (.ref s.heap.objs.size) "set" := ⟨_, hS, rfl⟩
  have hli := PySem.F.called_set.init.lookup
  have hbi := PySem.F.called_set.init.bind (.ref s.heap.objs.size)
  repeat (any_goals (first | assumption | wp_step))
  refine codeAny_mono (codeAny_call_builtin (R := wants (fun r s2 => r = .none ∧ ∃ h' tk c, s2 = { s with heap := h', toks := tk } ∧ SetR w h' s.heap.objs.size (fun j => decide (j ∈ ns)) c ∧ c ≤ ns.length ∧ (∀ b o, s.heap.get? b = some o → h'.get? b = some o)) E)
    PySem.F.called_set.init.plain PySem.F.entry_set_init (check_set_init_1 hT ?_)) fun r2 s2 hr2 => ?_
  · obtain ⟨⟨ocls, odict, odata, oslots⟩, hol, hcl, nl, hdl⟩ := hl
    simp only at hcl hdl
    subst hcl
    subst hdl
    have hol' : (s.heap.push (newSet w)).get? l = some { cls := .type "list", dict := odict, data := .seq its nl, slots := oslots } := Heap.get?_push_of_some _ hol
    have hsls := PySem.F.sub_list_set
    have hslf := PySem.F.sub_list_frozenset
    have hne : (Value.type "list" == Value.type "dict") = false := by decide
    have hl1 : (s.heap.push (newSet w)).IsList l its := ⟨_, hol', rfl, nl, rfl⟩
    unfold Builtin.«set.__init__» noKeywords Builtin.Frozenset.updateFrom
    generalize hPI : pyIter = PI
    wp_walk
    subst hPI
    refine wpAny_pyIter_list hl1 ?_
    refine wpAny_bind (wpAny_runValue ?_)
    have hlS : l < s.heap.objs.size := Heap.lt_size hol
    have hz1 : (s.heap.push (newSet w)).objs.size = s.heap.objs.size + 1 := Heap.size_push ..
    have hneI : l ≠ (s.heap.push (newSet w)).objs.size := by rw [hz1]; exact Nat.ne_of_lt (Nat.lt_succ_of_lt hlS)
    have hSf : s.heap.objs.size ∉ [(s.heap.push (newSet w)).objs.size, l] := by
      rw [hz1]
      intro z
      rcases List.mem_cons.mp z with z | z
      · exact absurd z (Nat.ne_of_lt (Nat.lt_succ_self _))
      · rw [List.mem_singleton] at z
        exact absurd z (Nat.ne_of_gt hlS)
    have hval : ∀ (i : Nat) (v : Value), its[i]? = some v → ∃ k t, ns[i]? = some k ∧ v = .int k t := fun i v hv => by
      have hi : i < ns.length := by rw [← hsz]; exact (Array.getElem?_eq_some_iff.mp hv).1
      obtain ⟨t, e⟩ := PyProof.Rows.IntsAre.int_at hit i v (by rw [Array.getElem?_toList]; exact hv)
      refine ⟨ns[i], t, List.getElem?_eq_getElem hi, ?_⟩
      rw [e, List.getD_eq_getElem?_getD, List.getElem?_eq_getElem hi] <;> rfl
    refine set_update_ints ((Walks.list (by simp [hh]) _ l hneI its).toS) s.heap.objs.size hSf ns hsz hb hval (its.size - 0) 0 _ (by omega) (Nat.zero_le _) ⟨⟨_, Heap.get?_push_size _ rfl, rfl, rfl⟩, (hl1.push _)⟩ ?hS0 ?hR
    case hS0 => exact ⟨0, Nat.le_refl 0, setR_new_at (Heap.get?_push_of_some _ hS)⟩
    case hR =>
      rintro ⟨h', g2, d', tk', os'⟩ c' hm hc' hS'
      have eg : g2 = s.gens := hm.gens
      have ed : d' = s.drawn := hm.drawn
      have eo : os' = s.os := hm.os
      subst eg
      subst ed
      subst eo
      show wpAny _ _ _ _ _ _
      refine wpAny_pure ?_
      show wpAny _ _ (ret Value.none) _ _ _
      rw [hsz] at hc'
      refine wpAny_pure ⟨rfl, h', tk', c', rfl, hS', hc', fun b o e => ?_⟩
      have hb0 : b < s.heap.objs.size := Heap.lt_size e
      refine hm.heap b o ?_ (Heap.get?_push_of_some _ (Heap.get?_push_of_some _ e))
      rw [hz1]
      intro z
      rcases List.mem_cons.mp z with z | z
      · exact absurd z (Nat.ne_of_lt hb0)
      · rw [List.mem_singleton] at z
        exact absurd z (Nat.ne_of_lt (Nat.lt_succ_of_lt hb0))
  · rcases r2 with e | fl2
    · exact hr2
    rcases fl2 with _ | _ | _ | r
    · exact hr2.elim
    · exact hr2.elim
    · exact hr2.elim
    obtain ⟨rfl, h', tk, c', rfl, hS', hc', hk'⟩ := hr2
    repeat (any_goals (first | assumption | wp_step))
    exact h _ _ _ hS' hc' hk'
end
section
variable {X : Cx}
/-- set(xs): n the number of its members -/
def rSetL (K : PySem.W.Frag) (w : World) : List V → Hp → VK → Prop := fun xs H Q => ∃ (l : Addr) (ns : List Int), xs = [V.ref l] ∧ SqL K H l (ns.map V.int) ∧ ns.length ≤ 1000 ∧
  ∀ p n, H p = none → n ≤ ns.length → (∃ ks : List Int, ks.Nodup ∧ (∀ k, k ∈ ks ↔ k ∈ ns) ∧ ks.length = n) → Q (.ref p) (upd H p (SetO w p (fun j => decide (j ∈ ns)) n))
theorem cr_setL (hc : X.calm = true) : CallR X (.type "set") (rSetL X.K X.w) := by
  intro pins s σ H xs us Q I r h
  obtain ⟨l, ns, rfl, hs, hl, q⟩ := h
  obtain ⟨its, rv, pl, hz⟩ := I.list hs
  rw [Vals.ref1 r]
  refine call_set_listI ns (I.ok.hd hc) pl.isList (by simpa using rv.ints) (by unfold scanBound; omega) fun h' tk c hS hcl hk => ?_
  have hn : H s.heap.objs.size = none := I.hok.fresh (Nat.le_refl _)
  refine ⟨.ref s.heap.objs.size, upd H s.heap.objs.size (SetO X.w s.heap.objs.size (fun j => decide (j ∈ ns)) c), I.laid (t' := tk) hk (Nat.le_refl _) (setO_new hS), rfl, q _ c hn hcl ?_⟩
  obtain ⟨o, es, ep, t, ho, hex, hd, hg, nd, hm, _, _, hsz, _⟩ := hS
  refine ⟨es.toList.map keyOf, nd, fun k => ?_, by rw [List.length_map, Array.length_toList]; exact hsz⟩
  rw [← hm k, decide_eq_true_eq]
/-- len(set) -/
def rLenSet (w : World) : List V → Hp → VK → Prop := fun xs H Q => ∃ (a : Addr) (S : Int → Bool) (n : Nat), xs = [V.ref a] ∧ H a = some (SetO w a S n) ∧ Q (.int (n : Nat)) H
theorem cr_lenSet : CallR X (.builtin "len") (rLenSet X.w) := by
  intro pins s σ H xs us Q I r h
  obtain ⟨a, S, n, rfl, ha, q⟩ := h
  rw [Vals.ref1 r]
  obtain ⟨o, es, ep, t, ho, hex, hd, _, _, _, hb, hf, hsz, _⟩ := setO_get I ha
  refine call_len_set ho hex hd hf (by rw [hsz]; unfold scanBound at hb; omega) ?_
  rw [hsz]
  exact ⟨.int n, H, I.tok _, ⟨_, rfl⟩, q⟩
end
end G84

/-! RxE: zip of three lists. -/
namespace G84
open PySem PySem.Spec PyProof.Rows L2

/-- zip(a, b, c) over three lists -/
def Itz3 (K : PySem.W.Frag) (a b c : Addr) : It :=
  ⟨fun i H => ∃ (xs ys zs : List V) (x y z : V), SqL K H a xs ∧ SqL K H b ys ∧ SqL K H c zs ∧ xs[i]? = some x ∧ ys[i]? = some y ∧ zs[i]? = some z,
    fun i H v H' => ∃ T x y z, v = .ref T ∧ H T = none ∧ H' = upd H T (.tup [x, y, z]) ∧ (∀ xs, SqL K H a xs → xs[i]? = some x) ∧ (∀ ys, SqL K H b ys → ys[i]? = some y) ∧ ∀ zs, SqL K H c zs → zs[i]? = some z,
    fun i H => ∃ xs ys zs : List V, SqL K H a xs ∧ SqL K H b ys ∧ SqL K H c zs ∧ xs.length = i ∧ ys.length = i ∧ zs.length = i⟩
/-- the iterator stands at turn i -/
def Z3At (z TI TO i1 i2 i3 a b c : Addr) (i : Nat) (h : Heap) : Prop :=
  IsZip h z TI TO .none ∧ IsTupOf3 h TI (.ref i1) (.ref i2) (.ref i3) ∧ (∃ x y u, IsTupOf3 h TO x y u) ∧ h.IsListIter i1 a i ∧ h.IsListIter i2 b i ∧ h.IsListIter i3 c i
theorem nin2 {x p q : Addr} (h1 : x ≠ p) (h2 : x ≠ q) : x ∉ [p, q] := by
  intro z
  rcases List.mem_cons.mp z with z | z
  · exact h1 z
  · exact h2 (List.mem_singleton.mp z)
theorem nn {x y : Nat} (h : x < y ∨ y < x) : (x : Addr) ≠ y := fun e => by
  have e' : (x : Nat) = y := e
  omega
theorem sep3 {a b c n : Nat} (la : a < n) (lb : b < n) (lc : c < n) : ZipSep3 (n + 5) (n + 3) (n + 4) n (n + 1) (n + 2) [n, a] [n + 1, b] [n + 2, c] :=
  ⟨nn (by omega), nn (by omega), nn (by omega), nn (by omega), List.mem_cons_self, nin2 (nn (by omega)) (nn (by omega)), nin2 (nn (by omega)) (nn (by omega)), nn (by omega), List.mem_cons_self, nin2 (nn (by omega)) (nn (by omega)), nin2 (nn (by omega)) (nn (by omega)), nn (by omega), List.mem_cons_self, nin2 (nn (by omega)) (nn (by omega)), nin2 (nn (by omega)) (nn (by omega)),
    nin2 (nn (by omega)) (nn (by omega)), nin2 (nn (by omega)) (nn (by omega)), nin2 (nn (by omega)) (nn (by omega)), nin2 (nn (by omega)) (nn (by omega)), nin2 (nn (by omega)) (nn (by omega)), nin2 (nn (by omega)) (nn (by omega))⟩
theorem lts {a n : Nat} (h : a < n) : (a : Addr) ≠ n ∧ (a : Addr) ≠ n + 1 ∧ (a : Addr) ≠ n + 2 := ⟨nn (by omega), nn (by omega), nn (by omega)⟩
theorem mem6 {q z TI TO i1 i2 i3 : Addr} (h : q ∈ [z, TI, TO, i1, i2, i3]) : q = z ∨ q = TI ∨ q = TO ∨ q = i1 ∨ q = i2 ∨ q = i3 := by simpa using h
theorem turn_zip3 {P : Program} {w : World} {K : PySem.W.Frag} {elts : List Expr} {kk : Nat} {tpos : Pos} {a b c n : Addr} (la : a < n) (lb : b < n) (lc : c < n) :
    Turn P w K (.Tuple elts kk tpos) (Itz3 K a b c) [n + 5, n + 3, n + 4, n, n + 1, n + 2] (n + 5) (Z3At (n + 5) (n + 3) (n + 4) n (n + 1) (n + 2) a b c) where
  mem := by simp
  obj := fun i h st q hq => by
    obtain ⟨hz, hTI, ⟨x, y, u, hTO⟩, ⟨o1, e1, _, d1⟩, ⟨o2, e2, _, d2⟩, ⟨o3, e3, _, d3⟩⟩ := st
    rcases mem6 hq with z | z | z | z | z | z
    · rw [z]; exact ⟨_, hz, fun v q => nomatch q⟩
    · rw [z]; exact ⟨_, hTI, fun v q => nomatch q⟩
    · rw [z]; exact ⟨_, hTO, fun v q => nomatch q⟩
    · rw [z]; exact ⟨o1, e1, fun v q => by rw [d1] at q; cases q⟩
    · rw [z]; exact ⟨o2, e2, fun v q => by rw [d2] at q; cases q⟩
    · rw [z]; exact ⟨o3, e3, fun v q => by rw [d3] at q; cases q⟩
  keep := fun i h h' st k => by
    obtain ⟨hz, hTI, ⟨x, y, u, hTO⟩, h1, h2, h3⟩ := st
    exact ⟨k _ (by simp) _ hz, k _ (by simp) _ hTI, ⟨x, y, u, k _ (by simp) _ hTO⟩, h1.at fun o q => k _ (by simp) o q, h2.at fun o q => k _ (by simp) o q, h3.at fun o q => k _ (by simp) o q⟩
  item := by
    intro X hP hw hK hc i pins s σ H E I hf st hg
    subst hP hw hK
    obtain ⟨hz, hTI, ⟨x0, y0, u0, hTO⟩, h1, h2, h3⟩ := st
    obtain ⟨xs, ys, zs, x, y, z, hqx, hqy, hqz, hx, hy, hz'⟩ := hg
    obtain ⟨its, rv, p, _⟩ := I.list hqx
    obtain ⟨its2, rv2, p2, _⟩ := I.list hqy
    obtain ⟨its3, rv3, p3, _⟩ := I.list hqz
    obtain ⟨u, hu, ru⟩ := rv.get hx
    obtain ⟨u2, hu2, ru2⟩ := rv2.get hy
    obtain ⟨u3, hu3, ru3⟩ := rv3.get hz'
    have hh : X.A.in1.handled = none := I.ok.hd hc
    have S := sep3 la lb lc
    have L1 := rv.length
    have L2 := rv2.length
    have L3 := rv3.length
    have k1 : i < its.toArray.size := by
      have := (List.getElem?_eq_some_iff.mp hx).1
      rw [List.size_toArray]
      omega
    have k2 : i < its2.toArray.size := by
      have := (List.getElem?_eq_some_iff.mp hy).1
      rw [List.size_toArray]
      omega
    have k3 : i < its3.toArray.size := by
      have := (List.getElem?_eq_some_iff.mp hz').1
      rw [List.size_toArray]
      omega
    have hzl : n + 5 < s.heap.objs.size := Heap.lt_size hz
    refine wpAny_pyNext_zipD3_item S (Draws.list hh n a (lts la).1 its.toArray) (Draws.list hh (n + 1) b (lts lb).2.1 its2.toArray) (Draws.list hh (n + 2) c (lts lc).2.2 its3.toArray) hz hTI hTO ⟨h1, p.isList⟩ ⟨h2, p2.isList⟩ ⟨h3, p3.isList⟩ k1 k2 k3
      fun v1 v2 v3 h' tk y1 y2 y3 hz1 hTO1 d1 d2 d3 hT hsz hk => ?_
    have g1 : v1 = u := by
      have : its[i]? = some v1 := by simpa using y1
      rw [hu] at this
      exact (Option.some.inj this).symm
    have g2 : v2 = u2 := by
      have : its2[i]? = some v2 := by simpa using y2
      rw [hu2] at this
      exact (Option.some.inj this).symm
    have g3 : v3 = u3 := by
      have : its3[i]? = some v3 := by simpa using y3
      rw [hu3] at this
      exact (Option.some.inj this).symm
    subst g1 g2 g3
    refine ⟨_, rfl, wpAny_letOwnedTupleGo_zip (s := { s with heap := h', toks := tk }) hz1 fun h'' z'' sb => ?_⟩
    have hT2 : h''.get? s.heap.objs.size = some { cls := .type "tuple", data := .seq #[v1, v2, v3] } := (sb.2 _ (Nat.ne_of_gt hzl)).trans hT
    have new : ObjOk X.prog X.w (upd H s.heap.objs.size (.tup [x, y, z])) h'' s.heap.objs.size (.tup [x, y, z]) :=
      ⟨by show 3 ≤ sizeLine; decide, [v1, v2, v3], .cons ru (.cons ru2 (.cons ru3 .nil)), ⟨_, hT2, rfl, _, rfl⟩⟩
    have I1 : Inv X pins σ (upd H s.heap.objs.size (.tup [x, y, z])) { s with heap := h'', toks := tk } :=
      I.turnedNew (t' := tk) (ch := [n + 5, n + 3, n + 4, n, n + 1, n + 2]) (fun q o hb e => (sb.2 q (fun q' => hb (by simp [q']))).trans (hk q o (fun q' => hb (by simp [q'])) (fun q' => hb (by simp [q'])) (fun q' => hb (by simp [q'])) (fun q' => hb (by simp [q'])) (fun q' => hb (by simp [q'])) e)) hf (Nat.le_refl _) new
    refine ⟨.ref s.heap.objs.size, _, I1, rfl, ⟨_, x, y, z, rfl, I.hok.fresh (Nat.le_refl _), rfl, fun l hl => by rw [I.list_inj hl hqx]; exact hx, fun l hl => by rw [I.list_inj hl hqy]; exact hy, fun l hl => by rw [I.list_inj hl hqz]; exact hz'⟩, ⟨z'', ?_, ⟨v1, v2, v3, ?_⟩, ?_, ?_, ?_⟩, fun q hq => ?_⟩
    · exact (sb.2 _ S.TIz).trans (hk _ _ S.TIz S.TITO S.TIi1 S.TIi2 S.TIi3 hTI)
    · exact (sb.2 _ S.TOz).trans hTO1
    · exact d1.1.at fun o q => (sb.2 _ S.zi1.symm).trans q
    · exact d2.1.at fun o q => (sb.2 _ S.zi2.symm).trans q
    · exact d3.1.at fun o q => (sb.2 _ S.zi3.symm).trans q
    · have hlt : q < s.heap.objs.size := by
        rcases mem6 hq with z | z | z | z | z | z
        · rw [z]; exact hzl
        · rw [z]; exact Heap.lt_size hTI
        · rw [z]; exact Heap.lt_size hTO
        · rw [z]; obtain ⟨_, e1, _⟩ := h1; exact Heap.lt_size e1
        · rw [z]; obtain ⟨_, e1, _⟩ := h2; exact Heap.lt_size e1
        · rw [z]; obtain ⟨_, e1, _⟩ := h3; exact Heap.lt_size e1
      rw [upd_ne (Nat.ne_of_lt hlt)]
      exact (hf q hq).1
  done := by
    intro X hP hw hK hc i pins s σ H E I hf st hg
    subst hP hw hK
    obtain ⟨hz, hTI, ⟨x0, y0, u0, hTO⟩, h1, h2, h3⟩ := st
    obtain ⟨xs, ys, zs, hqx, hqy, hqz, e1, e2, e3⟩ := hg
    obtain ⟨its, rv, p, _⟩ := I.list hqx
    obtain ⟨its2, rv2, p2, _⟩ := I.list hqy
    obtain ⟨its3, rv3, p3, _⟩ := I.list hqz
    have hh : X.A.in1.handled = none := I.ok.hd hc
    have L1 := rv.length
    have L2 := rv2.length
    have L3 := rv3.length
    refine wpAny_pyNext_zipD3_end (sep3 la lb lc) (Draws.list hh n a (lts la).1 its.toArray) (Draws.list hh (n + 1) b (lts lb).2.1 its2.toArray) (Draws.list hh (n + 2) c (lts lc).2.2 its3.toArray) hz hTI hTO ⟨h1, p.isList⟩ ⟨h2, p2.isList⟩ ⟨h3, p3.isList⟩
      (by rw [List.size_toArray]; omega) (by rw [List.size_toArray]; omega) (by rw [List.size_toArray]; omega) (.inl (by rw [List.size_toArray]; omega)) fun h' tk hk => ⟨rfl, ?_⟩
    exact I.turnedL (t' := tk) (ch := [n + 5, n + 3, n + 4, n, n + 1, n + 2]) (fun q o hb e => hk q o (fun q' => hb (by simp [q'])) (fun q' => hb (by simp [q'])) (fun q' => hb (by simp [q'])) (fun q' => hb (by simp [q'])) (fun q' => hb (by simp [q'])) e) hf
  self := fun A i s Q E st h => wpAny_pyIter_zip st.1 h
def iZip3 (K : PySem.W.Frag) (ta : TA) : TI := fun σ H R => ta σ H fun vs H1 => ∃ a b c xs ys zs, vs = [.ref a, .ref b, .ref c] ∧ SqL K H1 a xs ∧ SqL K H1 b ys ∧ SqL K H1 c zs ∧ R (Itz3 K a b c) H1
theorem pi_zip3 {X : Cx} {e e2 e3 : Expr} {ta : TA} {p pos tpos : Pos} {elts : List Expr} {kk : Nat} (hg : Gl X "zip") (hm : X.mg "zip" = none) (ha : PA X [e, e2, e3] ta)
    (hs : starEach [e, e2, e3] X.env = (false, eval e X.env) :: starEach [e2, e3] X.env := by rfl) (hpl : (backTo pos (starEach [e2, e3] X.env)).any (·.1) = false := by rfl) :
    PI X (.Tuple elts kk tpos) (.Call (.Name "zip" p) [e, e2, e3] [] pos) (iZip3 X.K ta) := by
  refine ⟨fun pins s σ H R I h => ?_⟩
  refine Call_ (ld_blt I hg hm PyProof.Rows.boot_zip (PyProof.Rows.callWith_type1 (thn (ha.run pos pins s σ H _ I h) fun us s1 ⟨vs, H1, I1, r1, q1⟩ => ?_) hs hpl))
  obtain ⟨a, b, c, xs, ys, zs, rfl, hqx, hqy, hqz, q⟩ := q1
  obtain ⟨rfl⟩ : us = [.ref a, .ref b, .ref c] := by
    cases r1 with
    | cons r rr =>
      cases rr with
      | cons r' rr =>
        cases rr with
        | cons r'' rr =>
          cases rr
          cases r
          cases r'
          cases r''
          rfl
  obtain ⟨its, rv, p1, _⟩ := I1.list hqx
  obtain ⟨its2, rv2, p2, _⟩ := I1.list hqy
  obtain ⟨its3, rv3, p3, _⟩ := I1.list hqz
  refine zip_begins3 (begins_list a its.toArray) (begins_list b its2.toArray) (begins_list c its3.toArray) p1.isList p2.isList p3.isList fun h' hz hTI hTO h1 h2 h3 hsz hk => wpAny_pyIter_zip hz ?_
  have I2 : Inv X pins σ H1 { s1 with heap := h' } := I1.kept (t' := s1.toks) hk
  refine ⟨s1.heap.objs.size + 5, [s1.heap.objs.size + 5, s1.heap.objs.size + 3, s1.heap.objs.size + 4, s1.heap.objs.size, s1.heap.objs.size + 1, s1.heap.objs.size + 2], _, _, H1, rfl, I2, turn_zip3 p1.lt p2.lt p3.lt, ⟨hz, hTI, ⟨_, _, _, hTO⟩, ⟨_, h1, rfl, rfl⟩, ⟨_, h2, rfl, rfl⟩, ⟨_, h3, rfl, rfl⟩⟩, fun q' hq' => ?_, q⟩
  have hle : s1.heap.objs.size ≤ q' := by
    rcases mem6 hq' with z | z | z | z | z | z
    · rw [z]; exact Nat.le_add_right _ _
    · rw [z]; exact Nat.le_add_right _ _
    · rw [z]; exact Nat.le_add_right _ _
    · rw [z]; exact Nat.le_refl _
    · rw [z]; exact Nat.le_add_right _ _
    · rw [z]; exact Nat.le_add_right _ _
  exact I1.fpOk hle (I1.hok.fresh hle)
end G84

/-! RxF: len of an instance with an own __len__. -/
namespace G84
open PySem PySem.Spec PyProof.Rows L2
/-- the own len of the class promises: of one that D speaks of, the number that D tells -/
def spLenB (D : Addr → Hp → Nat → Prop) : Sp := fun vs H Q _ => ∃ (a : Addr) (k : Nat), vs = [.ref a] ∧ D a H k ∧ ∀ H', Same H H' → Q (.int (k : Int)) H'
section
variable {X : Cx} {n : Nat} {CX : CXT} {C f : Addr} {fd : FuncData} {ps : List Str} {D : Addr → Hp → Nat → Prop} {E : XK}
theorem len_call (F : FnOk X.prog X.w X.K X.mg X.base CX n f fd ps (spLenB D)) (hb : Binds X.K fd ps []) (hx : Passes CX X E) {A : Around} {pins : List (Addr × Obj)} {s : Shared} {σ : L2.St} {H : Hp} {a : Addr} {k : Nat} (sb : L2.Sub X n A) (I : Inv X pins σ H s)
    (hr : D a H k) : wpAny (model X.prog X.w) A (call (.ref f) [.ref a]) (fun r s' => (∃ t, r = .int (k : Int) t) ∧ ∃ H', Inv X pins σ H' s' ∧ Same H H') X.xe s := by
  have hsp : spLenB D [.ref a] H (fun v H' => v = .int (k : Int) ∧ Same H H') E := ⟨a, k, rfl, hr, fun H' e => ⟨rfl, e⟩⟩
  have e0 : Env0 X.prog X.w X.K X.mg X.base A X.stack s H := by
    have e := I.env0
    exact ⟨by rw [sb.fr]; exact e.frames, e.mod, e.bs, e.bsz, e.funs, e.frf, e.hok, e.bare⟩
  have hl := F.len _ _ _ _ hsp
  have r2 : Vals [V.ref a] [Value.ref a] := .cons rfl .nil
  refine wpAny_call (codeAny_mono (F.run A X.stack s H ⟨[.ref a], []⟩ [.ref a] [.ref a] _ E sb.room e0 (by
    have := hb s [.ref a] I.kIn (by simpa using hl)
    simpa using this) r2 hsp) fun r s' hq => ?_)
  cases r with
  | error e => exact hx pins σ H s e s' I hq
  | ok fl =>
    cases fl with
    | ret w =>
      obtain ⟨z, H', I', rz, ez, ex⟩ := I.after hq
      subst ez
      obtain ⟨t, rfl⟩ := rz
      exact ⟨⟨t, rfl⟩, H', I', ex⟩
    | next => exact False.elim hq
    | brk => exact False.elim hq
    | cont => exact False.elim hq
def rLenB (C : Addr) (D : Addr → Hp → Nat → Prop) : List V → Hp → VK → Prop := fun vs H Q => ∃ (a dx : Addr) (fs : List (Str × V)) (k : Nat), vs = [.ref a] ∧ H a = some (.ins C dx fs) ∧ D a H k ∧ k < 2 ^ 62 ∧ ∀ H', Same H H' → Q (.int (k : Int)) H'
theorem call_lenB (F : FnOk X.prog X.w X.K X.mg X.base CX n f fd ps (spLenB D)) (hs : PySem.W.findIn X.K (.ref C) "__len__" = some (some (.ref f))) (hf : PySem.W.isFn X.K (.ref f) = true) (hb : Binds X.K fd ps []) (hx : Passes CX X E) (hr : Room (n + 1) X.A) : CallR X (.builtin "len") (rLenB C D) := by
  intro pins s σ H vs us Q I r h
  obtain ⟨a, dx, fs, k, rfl, ha, hd, hk, q⟩ := h
  rw [Vals.ref1 r]
  obtain ⟨mA, J, _⟩ := ins_get I.hok ha
  obtain ⟨od, J, _⟩ := J.look
  refine Calls.call_function_entry kind_len plain_len entry_len (args_len1 _) ?_
  unfold Builtin.«len»
  refine wpAny_bind (m := oneArg "len" _) (wpAny_pure ?_)
  have sb : L2.Sub X n X.A.in1 := ⟨hr.in1, rfl⟩
  refine wpAny_bind (m := callSpecial? (.ref a) (PySem.Str.ofString "__len__")) (PySem.W.special_fn I.kIn J hs (beq_iff_eq.mp hf) (thn (len_call F hb hx sb I hd) fun r s' z => ?_))
  obtain ⟨⟨t, rfl⟩, H', I', e⟩ := z
  refine wpAny_bind (wpAny_holding (wpAny_pure ?_))
  refine wpAny_bind (wpAny_letGo ?_)
  show wpAny _ _ (if ((k : Nat) : Int) < 0 then _ else _) _ _ _
  rw [if_neg (by omega)]
  show wpAny _ _ (if ((k : Nat) : Int) ≥ 2 ^ 63 then _ else _) _ _ _
  rw [if_neg (by omega)]
  exact wpAny_bind (wpAny_mkInt (wpAny_pure ⟨_, rfl, .int (k : Int), H', I'.tok _, ⟨_, rfl⟩, q H' e⟩))
end
end G84

/-! Txt84: the statements of the top by places (printed). -/
namespace G84
open PySem PySem.Spec PyProof.Rows L2
def top (i : Nat) : Stmt := PySem.Challenge.pw_gameworths_k84_whole_least_forms.main.body.getD i (.Pass ⟨0, 0, 0, 0⟩)
abbrev s_BadNumber_init : Stmt := inClass (top 2) 0
abbrev s_BadHeap_init : Stmt := inClass (top 3) 0
abbrev s_is_integer : Stmt := top 5
abbrev s_is_list : Stmt := top 6
abbrev s_Nodes_init : Stmt := inClass (top 8) 0
abbrev s_Nodes_add : Stmt := inClass (top 8) 1
abbrev s_Nodes_bring : Stmt := inClass (top 8) 2
abbrev s_Rows_init : Stmt := inClass (top 9) 0
abbrev s_checked_heaps : Stmt := top 10
abbrev s_place_in : Stmt := top 11
abbrev s_joined_rows : Stmt := top 12
abbrev s_mark_of : Stmt := top 13
abbrev s_kinds_of : Stmt := top 14
abbrev s_depths_of : Stmt := top 15
abbrev s_marks_of : Stmt := top 16
abbrev s_Heap_init : Stmt := inClass (top 17) 0
abbrev s_Heap_ours : Stmt := inClass (top 17) 1
abbrev s_Heap_theirs : Stmt := inClass (top 17) 2
abbrev s_Heap_len : Stmt := inClass (top 17) 3
abbrev s_Heap_eq : Stmt := inClass (top 17) 4
abbrev s_Heap_neg : Stmt := inClass (top 17) 5
abbrev s_Heap_add : Stmt := inClass (top 17) 6
abbrev s_Heap_sub : Stmt := inClass (top 17) 7
abbrev s_heap_of : Stmt := top 18
abbrev s_heap_at : Stmt := top 19
abbrev s_summed_moves : Stmt := top 20
abbrev s_summed_rows : Stmt := top 21
abbrev s_Forms_init : Stmt := inClass (top 23) 0
abbrev s_Forms_is_above : Stmt := inClass (top 23) 1
abbrev s_Forms_is_over : Stmt := inClass (top 23) 2
abbrev s_Forms_behind : Stmt := inClass (top 23) 3
abbrev s_Forms_led_round : Stmt := inClass (top 23) 4
abbrev s_Forms_needed : Stmt := inClass (top 23) 5
abbrev s_Forms_add : Stmt := inClass (top 23) 6
abbrev s_Forms_bring : Stmt := inClass (top 23) 7
abbrev s_unlike : Stmt := top 24
abbrev s_least_form : Stmt := top 25
abbrev s_is_least_form : Stmt := top 26
abbrev s_star_nodes : Stmt := top 27
abbrev s_star : Stmt := top 28
abbrev s_law_spring : Stmt := top 30
abbrev s_law_take : Stmt := top 31
abbrev s_law_rows : Stmt := top 32
abbrev s_law_heap : Stmt := top 33
abbrev s_law_place : Stmt := top 34
abbrev s_law_told : Stmt := top 35
abbrev s_law_orders : Stmt := top 36
abbrev s_law_alike : Stmt := top 37
abbrev s_law_summed : Stmt := top 38
abbrev s_law_is_needless : Stmt := top 39
abbrev s_law_is_round : Stmt := top 40
abbrev s_law_met : Stmt := top 41
abbrev s_law_is_least : Stmt := top 42
abbrev s_law_ladder : Stmt := top 43
abbrev s_law : Stmt := top 44
end G84

/-! Fct84: facts by names (printed). -/
namespace G84
open PySem PySem.Spec PyProof.Rows L2
def d_is_integer : He.DefD := ⟨("is_integer", none), "is_integer", "is_integer", defArgs s_is_integer, defBody s_is_integer, defScope s_is_integer, [], []⟩
def d_is_list : He.DefD := ⟨("is_list", none), "is_list", "is_list", defArgs s_is_list, defBody s_is_list, defScope s_is_list, [], []⟩
def d_Nodes_init : He.DefD := ⟨("Nodes", some "__init__"), "__init__", "Nodes.__init__", defArgs s_Nodes_init, defBody s_Nodes_init, defScope s_Nodes_init, [], []⟩
def d_Nodes_add : He.DefD := ⟨("Nodes", some "add"), "add", "Nodes.add", defArgs s_Nodes_add, defBody s_Nodes_add, defScope s_Nodes_add, [], []⟩
def d_Rows_init : He.DefD := ⟨("Rows", some "__init__"), "__init__", "Rows.__init__", defArgs s_Rows_init, defBody s_Rows_init, defScope s_Rows_init, [], []⟩
def d_checked_heaps : He.DefD := ⟨("checked_heaps", none), "checked_heaps", "checked_heaps", defArgs s_checked_heaps, defBody s_checked_heaps, defScope s_checked_heaps, [], []⟩
def d_place_in : He.DefD := ⟨("place_in", none), "place_in", "place_in", defArgs s_place_in, defBody s_place_in, defScope s_place_in, [], []⟩
def d_joined_rows : He.DefD := ⟨("joined_rows", none), "joined_rows", "joined_rows", defArgs s_joined_rows, defBody s_joined_rows, defScope s_joined_rows, [], []⟩
def d_mark_of : He.DefD := ⟨("mark_of", none), "mark_of", "mark_of", defArgs s_mark_of, defBody s_mark_of, defScope s_mark_of, [], []⟩
def d_kinds_of : He.DefD := ⟨("kinds_of", none), "kinds_of", "kinds_of", defArgs s_kinds_of, defBody s_kinds_of, defScope s_kinds_of, [], []⟩
def d_depths_of : He.DefD := ⟨("depths_of", none), "depths_of", "depths_of", defArgs s_depths_of, defBody s_depths_of, defScope s_depths_of, [], []⟩
def d_marks_of : He.DefD := ⟨("marks_of", none), "marks_of", "marks_of", defArgs s_marks_of, defBody s_marks_of, defScope s_marks_of, [], []⟩
def d_Heap_init : He.DefD := ⟨("Heap", some "__init__"), "__init__", "Heap.__init__", defArgs s_Heap_init, defBody s_Heap_init, defScope s_Heap_init, [], []⟩
def d_Heap_ours : He.DefD := ⟨("Heap", some "ours"), "ours", "Heap.ours", defArgs s_Heap_ours, defBody s_Heap_ours, defScope s_Heap_ours, [], []⟩
def d_Heap_theirs : He.DefD := ⟨("Heap", some "theirs"), "theirs", "Heap.theirs", defArgs s_Heap_theirs, defBody s_Heap_theirs, defScope s_Heap_theirs, [], []⟩
def d_Heap_len : He.DefD := ⟨("Heap", some "__len__"), "__len__", "Heap.__len__", defArgs s_Heap_len, defBody s_Heap_len, defScope s_Heap_len, [], []⟩
def d_Heap_eq : He.DefD := ⟨("Heap", some "__eq__"), "__eq__", "Heap.__eq__", defArgs s_Heap_eq, defBody s_Heap_eq, defScope s_Heap_eq, [], []⟩
def d_heap_of : He.DefD := ⟨("heap_of", none), "heap_of", "heap_of", defArgs s_heap_of, defBody s_heap_of, defScope s_heap_of, [], []⟩
def d_heap_at : He.DefD := ⟨("heap_at", none), "heap_at", "heap_at", defArgs s_heap_at, defBody s_heap_at, defScope s_heap_at, [], []⟩
def d_Forms_init : He.DefD := ⟨("Forms", some "__init__"), "__init__", "Forms.__init__", defArgs s_Forms_init, defBody s_Forms_init, defScope s_Forms_init, [], []⟩
def d_Forms_is_above : He.DefD := ⟨("Forms", some "is_above"), "is_above", "Forms.is_above", defArgs s_Forms_is_above, defBody s_Forms_is_above, defScope s_Forms_is_above, [], []⟩
def d_Forms_is_over : He.DefD := ⟨("Forms", some "is_over"), "is_over", "Forms.is_over", defArgs s_Forms_is_over, defBody s_Forms_is_over, defScope s_Forms_is_over, [], []⟩
def d_Forms_behind : He.DefD := ⟨("Forms", some "behind"), "behind", "Forms.behind", defArgs s_Forms_behind, defBody s_Forms_behind, defScope s_Forms_behind, [], []⟩
def d_Forms_led_round : He.DefD := ⟨("Forms", some "led_round"), "led_round", "Forms.led_round", defArgs s_Forms_led_round, defBody s_Forms_led_round, defScope s_Forms_led_round, [], []⟩
def d_Forms_needed : He.DefD := ⟨("Forms", some "needed"), "needed", "Forms.needed", defArgs s_Forms_needed, defBody s_Forms_needed, defScope s_Forms_needed, [], []⟩
def d_Forms_add : He.DefD := ⟨("Forms", some "add"), "add", "Forms.add", defArgs s_Forms_add, defBody s_Forms_add, defScope s_Forms_add, [], []⟩
def d_Forms_bring : He.DefD := ⟨("Forms", some "bring"), "bring", "Forms.bring", defArgs s_Forms_bring, defBody s_Forms_bring, defScope s_Forms_bring, [], []⟩
def d_unlike : He.DefD := ⟨("unlike", none), "unlike", "unlike", defArgs s_unlike, defBody s_unlike, defScope s_unlike, [], []⟩
def d_least_form : He.DefD := ⟨("least_form", none), "least_form", "least_form", defArgs s_least_form, defBody s_least_form, defScope s_least_form, [], []⟩
def d_is_least_form : He.DefD := ⟨("is_least_form", none), "is_least_form", "is_least_form", defArgs s_is_least_form, defBody s_is_least_form, defScope s_is_least_form, [], []⟩
def d_star_nodes : He.DefD := ⟨("star_nodes", none), "star_nodes", "star_nodes", defArgs s_star_nodes, defBody s_star_nodes, defScope s_star_nodes, [], []⟩
def d_star : He.DefD := ⟨("star", none), "star", "star", defArgs s_star, defBody s_star, defScope s_star, [], []⟩
def d_law_spring : He.DefD := ⟨("_law_spring", none), "_law_spring", "_law_spring", defArgs s_law_spring, defBody s_law_spring, defScope s_law_spring, [], []⟩
def d_law_take : He.DefD := ⟨("_law_take", none), "_law_take", "_law_take", defArgs s_law_take, defBody s_law_take, defScope s_law_take, [], []⟩
def d_law_rows : He.DefD := ⟨("_law_rows", none), "_law_rows", "_law_rows", defArgs s_law_rows, defBody s_law_rows, defScope s_law_rows, [], []⟩
def d_law_heap : He.DefD := ⟨("_law_heap", none), "_law_heap", "_law_heap", defArgs s_law_heap, defBody s_law_heap, defScope s_law_heap, [], []⟩
def d_law_place : He.DefD := ⟨("_law_place", none), "_law_place", "_law_place", defArgs s_law_place, defBody s_law_place, defScope s_law_place, [], []⟩
def d_law_told : He.DefD := ⟨("_law_told", none), "_law_told", "_law_told", defArgs s_law_told, defBody s_law_told, defScope s_law_told, [], []⟩
def d_law_orders : He.DefD := ⟨("_law_orders", none), "_law_orders", "_law_orders", defArgs s_law_orders, defBody s_law_orders, defScope s_law_orders, [], []⟩
def d_law_alike : He.DefD := ⟨("_law_alike", none), "_law_alike", "_law_alike", defArgs s_law_alike, defBody s_law_alike, defScope s_law_alike, [], []⟩
def d_law_summed : He.DefD := ⟨("_law_summed", none), "_law_summed", "_law_summed", defArgs s_law_summed, defBody s_law_summed, defScope s_law_summed, [], []⟩
def d_law_is_needless : He.DefD := ⟨("_law_is_needless", none), "_law_is_needless", "_law_is_needless", defArgs s_law_is_needless, defBody s_law_is_needless, defScope s_law_is_needless, [], []⟩
def d_law_is_round : He.DefD := ⟨("_law_is_round", none), "_law_is_round", "_law_is_round", defArgs s_law_is_round, defBody s_law_is_round, defScope s_law_is_round, [], []⟩
def d_law_met : He.DefD := ⟨("_law_met", none), "_law_met", "_law_met", defArgs s_law_met, defBody s_law_met, defScope s_law_met, [], []⟩
def d_law_is_least : He.DefD := ⟨("_law_is_least", none), "_law_is_least", "_law_is_least", defArgs s_law_is_least, defBody s_law_is_least, defScope s_law_is_least, [], []⟩
def d_law_ladder : He.DefD := ⟨("_law_ladder", none), "_law_ladder", "_law_ladder", defArgs s_law_ladder, defBody s_law_ladder, defScope s_law_ladder, [], []⟩
def d_law : He.DefD := ⟨("law", none), "law", "law", defArgs s_law, defBody s_law, defScope s_law, [], []⟩
def fn : List He.DefD := [d_is_integer, d_is_list, d_Nodes_init, d_Nodes_add, d_Rows_init, d_checked_heaps, d_place_in, d_joined_rows, d_mark_of, d_kinds_of, d_depths_of, d_marks_of, d_Heap_init, d_Heap_ours, d_Heap_theirs, d_Heap_len, d_Heap_eq, d_heap_of, d_heap_at, d_Forms_init, d_Forms_is_above, d_Forms_is_over, d_Forms_behind, d_Forms_led_round, d_Forms_needed, d_Forms_add, d_Forms_bring, d_unlike, d_least_form, d_is_least_form, d_star_nodes, d_star, d_law_spring, d_law_take, d_law_rows, d_law_heap, d_law_place, d_law_told, d_law_orders, d_law_alike, d_law_summed, d_law_is_needless, d_law_is_round, d_law_met, d_law_is_least, d_law_ladder, d_law]
def fa : List He.Fa := [.glo "is_integer",
  .glo "is_list",
  .glo "checked_heaps",
  .glo "place_in",
  .glo "joined_rows",
  .glo "mark_of",
  .glo "kinds_of",
  .glo "depths_of",
  .glo "marks_of",
  .glo "heap_of",
  .glo "heap_at",
  .glo "unlike",
  .glo "least_form",
  .glo "is_least_form",
  .glo "star_nodes",
  .glo "star",
  .glo "_law_spring",
  .glo "_law_take",
  .glo "_law_rows",
  .glo "_law_heap",
  .glo "_law_place",
  .glo "_law_told",
  .glo "_law_orders",
  .glo "_law_alike",
  .glo "_law_summed",
  .glo "_law_is_needless",
  .glo "_law_is_round",
  .glo "_law_met",
  .glo "_law_is_least",
  .glo "_law_ladder",
  .glo "law",
  .glo "Nodes",
  .cls "Nodes",
  .mkr "Nodes",
  .glo "Rows",
  .cls "Rows",
  .mkr "Rows",
  .glo "Heap",
  .cls "Heap",
  .mkr "Heap",
  .glo "Forms",
  .cls "Forms",
  .mkr "Forms",
  .noat "Nodes" "row_list",
  .noat "Nodes" "row_table",
  .noat "Rows" "kept_rows",
  .noat "Heap" "node_list",
  .noat "Heap" "mark_list",
  .noat "Forms" "nodes",
  .noat "Forms" "order_table",
  .meth "Nodes" "add",
  .meth "Heap" "ours",
  .meth "Heap" "theirs",
  .meth "Heap" "__len__",
  .meth "Heap" "__eq__",
  .meth "Forms" "is_above",
  .meth "Forms" "is_over",
  .meth "Forms" "behind",
  .meth "Forms" "led_round",
  .meth "Forms" "needed",
  .meth "Forms" "add",
  .meth "Forms" "bring",
  .free "len",
  .free "isinstance",
  .free "int",
  .free "bool",
  .free "list",
  .free "tuple",
  .free "sorted",
  .free "set",
  .free "any",
  .free "max",
  .free "range",
  .free "enumerate",
  .free "zip"]
/-- further facts of the classes -/
def insB (K : PySem.W.Frag) (x : Str) : Bool := decide (PySem.W.findIn K (.ref (He.ga K x)) "__class__" = some (some (.builtin "object.__class__"))) && decide (PySem.W.mroIn K (He.ga K x) (.type "object") = some true)
def getB (K : PySem.W.Frag) : Bool := decide (PySem.W.specialIn K (.builtin "object.__class__") "__get__" = some (some (.builtin "getset_descriptor.__get__"))) && decide (PySem.W.takesIn K (.builtin "object.__class__") = some true)
def kitB (K : PySem.W.Frag) : Bool := decide (PySem.W.kitOne K (.ref (He.ga K "Heap")) (.ref (He.ga K "Heap")) = some true) && (decide (PySem.W.kitOne K (.ref (He.ga K "Rows")) (.ref (He.ga K "Rows")) = some true) && decide (PySem.W.kitOne K (.type "list") (.ref (He.ga K "Rows")) = some false))
def neB (K : PySem.W.Frag) : Bool := decide (PySem.W.findIn K (.ref (He.ga K "Heap")) "__ne__" = some (some (.builtin "object.__ne__"))) && decide (PySem.W.subIn K (.ref (He.ga K "Heap")) (.type "object") = some true)
def exB (K : PySem.W.Frag) : Bool := (insB K "Heap" && insB K "Rows") && (getB K && (kitB K && neB K))
def obsX (K : PySem.W.Frag) : He.AlD := ((He.obsD fa fn K).1 && exB K, (He.obsD fa fn K).2)
def SaysX (K : PySem.W.Frag) : Prop := He.SaysD fa fn K ∧ exB K = true
theorem says_of {K : PySem.W.Frag} (e : obsX K = He.valD fn) : SaysX K := by
  have e1 : ((He.obsD fa fn K).1 && exB K) = true := congrArg (fun z : He.AlD => z.1) e
  have e2 : (He.obsD fa fn K).2 = fn.map He.DefD.val := congrArg (fun z : He.AlD => z.2) e
  obtain ⟨e3, e4⟩ := Bool.and_eq_true_iff.mp e1
  exact ⟨Prod.ext e3 e2, e4⟩
def obsXG (n : Nat) (g : Addr → Option Obj) : He.AlD := obsX (He.frG g (He.asD g n))
def hk : PySem.W.Hook where
  α := He.AlD
  obs := fun s => obsXG 4 s.heap.get?
  val := fun _ => He.valD fn
  says := fun _ h => ∃ K : PySem.W.Frag, K.In h ∧ SaysX K
  of := fun _ _ e => ⟨_, He.frG_in, says_of e⟩
  keeps := fun _ _ _ ⟨K, hK, c⟩ k => ⟨K, PySem.W.Frag.In.keeps hK k, c⟩
theorem obsXG_eq {n : Nat} {g : Addr → Option Obj} {s : Shared} (h : ∀ a, g a = s.heap.get? a) : obsXG n g = obsXG n s.heap.get? := by
  have e : g = s.heap.get? := funext h
  rw [e]
/-- all that is known of the top -/
structure TX (K : PySem.W.Frag) (mg : Str → Option Value) : Prop where
  ex : ∃ h : Heap, K.In h ∧ h.Ns mainGlobals mg
  c : SaysX K
section
variable {K : PySem.W.Frag} {mg : Str → Option Value}
theorem TX.gl (T : TX K mg) {x : Str} (i : Nat) (h : fa[i]? = some (.glo x) := by rfl) : mg x = some (.ref (He.ga K x)) := by
  obtain ⟨hp, X, G⟩ := T.ex
  exact He.glo_ok X G (T.c.1.fact i h)
theorem TX.fr (T : TX K mg) {x : Str} (i : Nat) (h : fa[i]? = some (.free x) := by rfl) : mg x = none := by
  obtain ⟨hp, X, G⟩ := T.ex
  exact He.free_ok X G (T.c.1.fact i h)
theorem TX.g_is_integer (T : TX K mg) : mg "is_integer" = some (.ref (He.ga K "is_integer")) := T.gl 0
theorem TX.g_is_list (T : TX K mg) : mg "is_list" = some (.ref (He.ga K "is_list")) := T.gl 1
theorem TX.g_checked_heaps (T : TX K mg) : mg "checked_heaps" = some (.ref (He.ga K "checked_heaps")) := T.gl 2
theorem TX.g_place_in (T : TX K mg) : mg "place_in" = some (.ref (He.ga K "place_in")) := T.gl 3
theorem TX.g_joined_rows (T : TX K mg) : mg "joined_rows" = some (.ref (He.ga K "joined_rows")) := T.gl 4
theorem TX.g_mark_of (T : TX K mg) : mg "mark_of" = some (.ref (He.ga K "mark_of")) := T.gl 5
theorem TX.g_kinds_of (T : TX K mg) : mg "kinds_of" = some (.ref (He.ga K "kinds_of")) := T.gl 6
theorem TX.g_depths_of (T : TX K mg) : mg "depths_of" = some (.ref (He.ga K "depths_of")) := T.gl 7
theorem TX.g_marks_of (T : TX K mg) : mg "marks_of" = some (.ref (He.ga K "marks_of")) := T.gl 8
theorem TX.g_heap_of (T : TX K mg) : mg "heap_of" = some (.ref (He.ga K "heap_of")) := T.gl 9
theorem TX.g_heap_at (T : TX K mg) : mg "heap_at" = some (.ref (He.ga K "heap_at")) := T.gl 10
theorem TX.g_unlike (T : TX K mg) : mg "unlike" = some (.ref (He.ga K "unlike")) := T.gl 11
theorem TX.g_least_form (T : TX K mg) : mg "least_form" = some (.ref (He.ga K "least_form")) := T.gl 12
theorem TX.g_is_least_form (T : TX K mg) : mg "is_least_form" = some (.ref (He.ga K "is_least_form")) := T.gl 13
theorem TX.g_star_nodes (T : TX K mg) : mg "star_nodes" = some (.ref (He.ga K "star_nodes")) := T.gl 14
theorem TX.g_star (T : TX K mg) : mg "star" = some (.ref (He.ga K "star")) := T.gl 15
theorem TX.g_law_spring (T : TX K mg) : mg "_law_spring" = some (.ref (He.ga K "_law_spring")) := T.gl 16
theorem TX.g_law_take (T : TX K mg) : mg "_law_take" = some (.ref (He.ga K "_law_take")) := T.gl 17
theorem TX.g_law_rows (T : TX K mg) : mg "_law_rows" = some (.ref (He.ga K "_law_rows")) := T.gl 18
theorem TX.g_law_heap (T : TX K mg) : mg "_law_heap" = some (.ref (He.ga K "_law_heap")) := T.gl 19
theorem TX.g_law_place (T : TX K mg) : mg "_law_place" = some (.ref (He.ga K "_law_place")) := T.gl 20
theorem TX.g_law_told (T : TX K mg) : mg "_law_told" = some (.ref (He.ga K "_law_told")) := T.gl 21
theorem TX.g_law_orders (T : TX K mg) : mg "_law_orders" = some (.ref (He.ga K "_law_orders")) := T.gl 22
theorem TX.g_law_alike (T : TX K mg) : mg "_law_alike" = some (.ref (He.ga K "_law_alike")) := T.gl 23
theorem TX.g_law_summed (T : TX K mg) : mg "_law_summed" = some (.ref (He.ga K "_law_summed")) := T.gl 24
theorem TX.g_law_is_needless (T : TX K mg) : mg "_law_is_needless" = some (.ref (He.ga K "_law_is_needless")) := T.gl 25
theorem TX.g_law_is_round (T : TX K mg) : mg "_law_is_round" = some (.ref (He.ga K "_law_is_round")) := T.gl 26
theorem TX.g_law_met (T : TX K mg) : mg "_law_met" = some (.ref (He.ga K "_law_met")) := T.gl 27
theorem TX.g_law_is_least (T : TX K mg) : mg "_law_is_least" = some (.ref (He.ga K "_law_is_least")) := T.gl 28
theorem TX.g_law_ladder (T : TX K mg) : mg "_law_ladder" = some (.ref (He.ga K "_law_ladder")) := T.gl 29
theorem TX.g_law (T : TX K mg) : mg "law" = some (.ref (He.ga K "law")) := T.gl 30
theorem TX.g_Nodes (T : TX K mg) : mg "Nodes" = some (.ref (He.ga K "Nodes")) := T.gl 31
theorem TX.c_Nodes (T : TX K mg) : Cls K (He.ga K "Nodes") := He.cls_ok (T.c.1.fact 32 rfl)
theorem TX.k_Nodes (T : TX K mg) : Mk K (He.ga K "Nodes") (He.ma K (He.ga K "Nodes") "__init__") := He.mkr_ok (T.c.1.fact 33 rfl)
theorem TX.g_Rows (T : TX K mg) : mg "Rows" = some (.ref (He.ga K "Rows")) := T.gl 34
theorem TX.c_Rows (T : TX K mg) : Cls K (He.ga K "Rows") := He.cls_ok (T.c.1.fact 35 rfl)
theorem TX.k_Rows (T : TX K mg) : Mk K (He.ga K "Rows") (He.ma K (He.ga K "Rows") "__init__") := He.mkr_ok (T.c.1.fact 36 rfl)
theorem TX.g_Heap (T : TX K mg) : mg "Heap" = some (.ref (He.ga K "Heap")) := T.gl 37
theorem TX.c_Heap (T : TX K mg) : Cls K (He.ga K "Heap") := He.cls_ok (T.c.1.fact 38 rfl)
theorem TX.k_Heap (T : TX K mg) : Mk K (He.ga K "Heap") (He.ma K (He.ga K "Heap") "__init__") := He.mkr_ok (T.c.1.fact 39 rfl)
theorem TX.g_Forms (T : TX K mg) : mg "Forms" = some (.ref (He.ga K "Forms")) := T.gl 40
theorem TX.c_Forms (T : TX K mg) : Cls K (He.ga K "Forms") := He.cls_ok (T.c.1.fact 41 rfl)
theorem TX.k_Forms (T : TX K mg) : Mk K (He.ga K "Forms") (He.ma K (He.ga K "Forms") "__init__") := He.mkr_ok (T.c.1.fact 42 rfl)
theorem TX.n_Nodes_row_list (T : TX K mg) : NoAttr K (He.ga K "Nodes") "row_list" := He.noat_ok (T.c.1.fact 43 rfl)
theorem TX.n_Nodes_row_table (T : TX K mg) : NoAttr K (He.ga K "Nodes") "row_table" := He.noat_ok (T.c.1.fact 44 rfl)
theorem TX.n_Rows_kept_rows (T : TX K mg) : NoAttr K (He.ga K "Rows") "kept_rows" := He.noat_ok (T.c.1.fact 45 rfl)
theorem TX.n_Heap_node_list (T : TX K mg) : NoAttr K (He.ga K "Heap") "node_list" := He.noat_ok (T.c.1.fact 46 rfl)
theorem TX.n_Heap_mark_list (T : TX K mg) : NoAttr K (He.ga K "Heap") "mark_list" := He.noat_ok (T.c.1.fact 47 rfl)
theorem TX.n_Forms_nodes (T : TX K mg) : NoAttr K (He.ga K "Forms") "nodes" := He.noat_ok (T.c.1.fact 48 rfl)
theorem TX.n_Forms_order_table (T : TX K mg) : NoAttr K (He.ga K "Forms") "order_table" := He.noat_ok (T.c.1.fact 49 rfl)
theorem TX.m_Nodes_add (T : TX K mg) : Meth K (He.ga K "Nodes") "add" (He.ma K (He.ga K "Nodes") "add") := He.meth_ok (T.c.1.fact 50 rfl)
theorem TX.m_Heap_ours (T : TX K mg) : Meth K (He.ga K "Heap") "ours" (He.ma K (He.ga K "Heap") "ours") := He.meth_ok (T.c.1.fact 51 rfl)
theorem TX.m_Heap_theirs (T : TX K mg) : Meth K (He.ga K "Heap") "theirs" (He.ma K (He.ga K "Heap") "theirs") := He.meth_ok (T.c.1.fact 52 rfl)
theorem TX.m_Heap_len (T : TX K mg) : Meth K (He.ga K "Heap") "__len__" (He.ma K (He.ga K "Heap") "__len__") := He.meth_ok (T.c.1.fact 53 rfl)
theorem TX.m_Heap_eq (T : TX K mg) : Meth K (He.ga K "Heap") "__eq__" (He.ma K (He.ga K "Heap") "__eq__") := He.meth_ok (T.c.1.fact 54 rfl)
theorem TX.m_Forms_is_above (T : TX K mg) : Meth K (He.ga K "Forms") "is_above" (He.ma K (He.ga K "Forms") "is_above") := He.meth_ok (T.c.1.fact 55 rfl)
theorem TX.m_Forms_is_over (T : TX K mg) : Meth K (He.ga K "Forms") "is_over" (He.ma K (He.ga K "Forms") "is_over") := He.meth_ok (T.c.1.fact 56 rfl)
theorem TX.m_Forms_behind (T : TX K mg) : Meth K (He.ga K "Forms") "behind" (He.ma K (He.ga K "Forms") "behind") := He.meth_ok (T.c.1.fact 57 rfl)
theorem TX.m_Forms_led_round (T : TX K mg) : Meth K (He.ga K "Forms") "led_round" (He.ma K (He.ga K "Forms") "led_round") := He.meth_ok (T.c.1.fact 58 rfl)
theorem TX.m_Forms_needed (T : TX K mg) : Meth K (He.ga K "Forms") "needed" (He.ma K (He.ga K "Forms") "needed") := He.meth_ok (T.c.1.fact 59 rfl)
theorem TX.m_Forms_add (T : TX K mg) : Meth K (He.ga K "Forms") "add" (He.ma K (He.ga K "Forms") "add") := He.meth_ok (T.c.1.fact 60 rfl)
theorem TX.m_Forms_bring (T : TX K mg) : Meth K (He.ga K "Forms") "bring" (He.ma K (He.ga K "Forms") "bring") := He.meth_ok (T.c.1.fact 61 rfl)
theorem TX.f_len (T : TX K mg) : mg "len" = none := T.fr 62
theorem TX.f_isinstance (T : TX K mg) : mg "isinstance" = none := T.fr 63
theorem TX.f_int (T : TX K mg) : mg "int" = none := T.fr 64
theorem TX.f_bool (T : TX K mg) : mg "bool" = none := T.fr 65
theorem TX.f_list (T : TX K mg) : mg "list" = none := T.fr 66
theorem TX.f_tuple (T : TX K mg) : mg "tuple" = none := T.fr 67
theorem TX.f_sorted (T : TX K mg) : mg "sorted" = none := T.fr 68
theorem TX.f_set (T : TX K mg) : mg "set" = none := T.fr 69
theorem TX.f_any (T : TX K mg) : mg "any" = none := T.fr 70
theorem TX.f_max (T : TX K mg) : mg "max" = none := T.fr 71
theorem TX.f_range (T : TX K mg) : mg "range" = none := T.fr 72
theorem TX.f_enumerate (T : TX K mg) : mg "enumerate" = none := T.fr 73
theorem TX.f_zip (T : TX K mg) : mg "zip" = none := T.fr 74
theorem TX.d_is_integer (T : TX K mg) : ∃ fd, FunD K d_is_integer.name d_is_integer.qual d_is_integer.params d_is_integer.body d_is_integer.scope [] [] (He.fAd K d_is_integer.at_) fd := T.c.1.def_ 0 (d := G84.d_is_integer) rfl
theorem TX.d_is_list (T : TX K mg) : ∃ fd, FunD K d_is_list.name d_is_list.qual d_is_list.params d_is_list.body d_is_list.scope [] [] (He.fAd K d_is_list.at_) fd := T.c.1.def_ 1 (d := G84.d_is_list) rfl
theorem TX.d_Nodes_init (T : TX K mg) : ∃ fd, FunD K d_Nodes_init.name d_Nodes_init.qual d_Nodes_init.params d_Nodes_init.body d_Nodes_init.scope [] [] (He.fAd K d_Nodes_init.at_) fd := T.c.1.def_ 2 (d := G84.d_Nodes_init) rfl
theorem TX.d_Nodes_add (T : TX K mg) : ∃ fd, FunD K d_Nodes_add.name d_Nodes_add.qual d_Nodes_add.params d_Nodes_add.body d_Nodes_add.scope [] [] (He.fAd K d_Nodes_add.at_) fd := T.c.1.def_ 3 (d := G84.d_Nodes_add) rfl
theorem TX.d_Rows_init (T : TX K mg) : ∃ fd, FunD K d_Rows_init.name d_Rows_init.qual d_Rows_init.params d_Rows_init.body d_Rows_init.scope [] [] (He.fAd K d_Rows_init.at_) fd := T.c.1.def_ 4 (d := G84.d_Rows_init) rfl
theorem TX.d_checked_heaps (T : TX K mg) : ∃ fd, FunD K d_checked_heaps.name d_checked_heaps.qual d_checked_heaps.params d_checked_heaps.body d_checked_heaps.scope [] [] (He.fAd K d_checked_heaps.at_) fd := T.c.1.def_ 5 (d := G84.d_checked_heaps) rfl
theorem TX.d_place_in (T : TX K mg) : ∃ fd, FunD K d_place_in.name d_place_in.qual d_place_in.params d_place_in.body d_place_in.scope [] [] (He.fAd K d_place_in.at_) fd := T.c.1.def_ 6 (d := G84.d_place_in) rfl
theorem TX.d_joined_rows (T : TX K mg) : ∃ fd, FunD K d_joined_rows.name d_joined_rows.qual d_joined_rows.params d_joined_rows.body d_joined_rows.scope [] [] (He.fAd K d_joined_rows.at_) fd := T.c.1.def_ 7 (d := G84.d_joined_rows) rfl
theorem TX.d_mark_of (T : TX K mg) : ∃ fd, FunD K d_mark_of.name d_mark_of.qual d_mark_of.params d_mark_of.body d_mark_of.scope [] [] (He.fAd K d_mark_of.at_) fd := T.c.1.def_ 8 (d := G84.d_mark_of) rfl
theorem TX.d_kinds_of (T : TX K mg) : ∃ fd, FunD K d_kinds_of.name d_kinds_of.qual d_kinds_of.params d_kinds_of.body d_kinds_of.scope [] [] (He.fAd K d_kinds_of.at_) fd := T.c.1.def_ 9 (d := G84.d_kinds_of) rfl
theorem TX.d_depths_of (T : TX K mg) : ∃ fd, FunD K d_depths_of.name d_depths_of.qual d_depths_of.params d_depths_of.body d_depths_of.scope [] [] (He.fAd K d_depths_of.at_) fd := T.c.1.def_ 10 (d := G84.d_depths_of) rfl
theorem TX.d_marks_of (T : TX K mg) : ∃ fd, FunD K d_marks_of.name d_marks_of.qual d_marks_of.params d_marks_of.body d_marks_of.scope [] [] (He.fAd K d_marks_of.at_) fd := T.c.1.def_ 11 (d := G84.d_marks_of) rfl
theorem TX.d_Heap_init (T : TX K mg) : ∃ fd, FunD K d_Heap_init.name d_Heap_init.qual d_Heap_init.params d_Heap_init.body d_Heap_init.scope [] [] (He.fAd K d_Heap_init.at_) fd := T.c.1.def_ 12 (d := G84.d_Heap_init) rfl
theorem TX.d_Heap_ours (T : TX K mg) : ∃ fd, FunD K d_Heap_ours.name d_Heap_ours.qual d_Heap_ours.params d_Heap_ours.body d_Heap_ours.scope [] [] (He.fAd K d_Heap_ours.at_) fd := T.c.1.def_ 13 (d := G84.d_Heap_ours) rfl
theorem TX.d_Heap_theirs (T : TX K mg) : ∃ fd, FunD K d_Heap_theirs.name d_Heap_theirs.qual d_Heap_theirs.params d_Heap_theirs.body d_Heap_theirs.scope [] [] (He.fAd K d_Heap_theirs.at_) fd := T.c.1.def_ 14 (d := G84.d_Heap_theirs) rfl
theorem TX.d_Heap_len (T : TX K mg) : ∃ fd, FunD K d_Heap_len.name d_Heap_len.qual d_Heap_len.params d_Heap_len.body d_Heap_len.scope [] [] (He.fAd K d_Heap_len.at_) fd := T.c.1.def_ 15 (d := G84.d_Heap_len) rfl
theorem TX.d_Heap_eq (T : TX K mg) : ∃ fd, FunD K d_Heap_eq.name d_Heap_eq.qual d_Heap_eq.params d_Heap_eq.body d_Heap_eq.scope [] [] (He.fAd K d_Heap_eq.at_) fd := T.c.1.def_ 16 (d := G84.d_Heap_eq) rfl
theorem TX.d_heap_of (T : TX K mg) : ∃ fd, FunD K d_heap_of.name d_heap_of.qual d_heap_of.params d_heap_of.body d_heap_of.scope [] [] (He.fAd K d_heap_of.at_) fd := T.c.1.def_ 17 (d := G84.d_heap_of) rfl
theorem TX.d_heap_at (T : TX K mg) : ∃ fd, FunD K d_heap_at.name d_heap_at.qual d_heap_at.params d_heap_at.body d_heap_at.scope [] [] (He.fAd K d_heap_at.at_) fd := T.c.1.def_ 18 (d := G84.d_heap_at) rfl
theorem TX.d_Forms_init (T : TX K mg) : ∃ fd, FunD K d_Forms_init.name d_Forms_init.qual d_Forms_init.params d_Forms_init.body d_Forms_init.scope [] [] (He.fAd K d_Forms_init.at_) fd := T.c.1.def_ 19 (d := G84.d_Forms_init) rfl
theorem TX.d_Forms_is_above (T : TX K mg) : ∃ fd, FunD K d_Forms_is_above.name d_Forms_is_above.qual d_Forms_is_above.params d_Forms_is_above.body d_Forms_is_above.scope [] [] (He.fAd K d_Forms_is_above.at_) fd := T.c.1.def_ 20 (d := G84.d_Forms_is_above) rfl
theorem TX.d_Forms_is_over (T : TX K mg) : ∃ fd, FunD K d_Forms_is_over.name d_Forms_is_over.qual d_Forms_is_over.params d_Forms_is_over.body d_Forms_is_over.scope [] [] (He.fAd K d_Forms_is_over.at_) fd := T.c.1.def_ 21 (d := G84.d_Forms_is_over) rfl
theorem TX.d_Forms_behind (T : TX K mg) : ∃ fd, FunD K d_Forms_behind.name d_Forms_behind.qual d_Forms_behind.params d_Forms_behind.body d_Forms_behind.scope [] [] (He.fAd K d_Forms_behind.at_) fd := T.c.1.def_ 22 (d := G84.d_Forms_behind) rfl
theorem TX.d_Forms_led_round (T : TX K mg) : ∃ fd, FunD K d_Forms_led_round.name d_Forms_led_round.qual d_Forms_led_round.params d_Forms_led_round.body d_Forms_led_round.scope [] [] (He.fAd K d_Forms_led_round.at_) fd := T.c.1.def_ 23 (d := G84.d_Forms_led_round) rfl
theorem TX.d_Forms_needed (T : TX K mg) : ∃ fd, FunD K d_Forms_needed.name d_Forms_needed.qual d_Forms_needed.params d_Forms_needed.body d_Forms_needed.scope [] [] (He.fAd K d_Forms_needed.at_) fd := T.c.1.def_ 24 (d := G84.d_Forms_needed) rfl
theorem TX.d_Forms_add (T : TX K mg) : ∃ fd, FunD K d_Forms_add.name d_Forms_add.qual d_Forms_add.params d_Forms_add.body d_Forms_add.scope [] [] (He.fAd K d_Forms_add.at_) fd := T.c.1.def_ 25 (d := G84.d_Forms_add) rfl
theorem TX.d_Forms_bring (T : TX K mg) : ∃ fd, FunD K d_Forms_bring.name d_Forms_bring.qual d_Forms_bring.params d_Forms_bring.body d_Forms_bring.scope [] [] (He.fAd K d_Forms_bring.at_) fd := T.c.1.def_ 26 (d := G84.d_Forms_bring) rfl
theorem TX.d_unlike (T : TX K mg) : ∃ fd, FunD K d_unlike.name d_unlike.qual d_unlike.params d_unlike.body d_unlike.scope [] [] (He.fAd K d_unlike.at_) fd := T.c.1.def_ 27 (d := G84.d_unlike) rfl
theorem TX.d_least_form (T : TX K mg) : ∃ fd, FunD K d_least_form.name d_least_form.qual d_least_form.params d_least_form.body d_least_form.scope [] [] (He.fAd K d_least_form.at_) fd := T.c.1.def_ 28 (d := G84.d_least_form) rfl
theorem TX.d_is_least_form (T : TX K mg) : ∃ fd, FunD K d_is_least_form.name d_is_least_form.qual d_is_least_form.params d_is_least_form.body d_is_least_form.scope [] [] (He.fAd K d_is_least_form.at_) fd := T.c.1.def_ 29 (d := G84.d_is_least_form) rfl
theorem TX.d_star_nodes (T : TX K mg) : ∃ fd, FunD K d_star_nodes.name d_star_nodes.qual d_star_nodes.params d_star_nodes.body d_star_nodes.scope [] [] (He.fAd K d_star_nodes.at_) fd := T.c.1.def_ 30 (d := G84.d_star_nodes) rfl
theorem TX.d_star (T : TX K mg) : ∃ fd, FunD K d_star.name d_star.qual d_star.params d_star.body d_star.scope [] [] (He.fAd K d_star.at_) fd := T.c.1.def_ 31 (d := G84.d_star) rfl
theorem TX.d_law_spring (T : TX K mg) : ∃ fd, FunD K d_law_spring.name d_law_spring.qual d_law_spring.params d_law_spring.body d_law_spring.scope [] [] (He.fAd K d_law_spring.at_) fd := T.c.1.def_ 32 (d := G84.d_law_spring) rfl
theorem TX.d_law_take (T : TX K mg) : ∃ fd, FunD K d_law_take.name d_law_take.qual d_law_take.params d_law_take.body d_law_take.scope [] [] (He.fAd K d_law_take.at_) fd := T.c.1.def_ 33 (d := G84.d_law_take) rfl
theorem TX.d_law_rows (T : TX K mg) : ∃ fd, FunD K d_law_rows.name d_law_rows.qual d_law_rows.params d_law_rows.body d_law_rows.scope [] [] (He.fAd K d_law_rows.at_) fd := T.c.1.def_ 34 (d := G84.d_law_rows) rfl
theorem TX.d_law_heap (T : TX K mg) : ∃ fd, FunD K d_law_heap.name d_law_heap.qual d_law_heap.params d_law_heap.body d_law_heap.scope [] [] (He.fAd K d_law_heap.at_) fd := T.c.1.def_ 35 (d := G84.d_law_heap) rfl
theorem TX.d_law_place (T : TX K mg) : ∃ fd, FunD K d_law_place.name d_law_place.qual d_law_place.params d_law_place.body d_law_place.scope [] [] (He.fAd K d_law_place.at_) fd := T.c.1.def_ 36 (d := G84.d_law_place) rfl
theorem TX.d_law_told (T : TX K mg) : ∃ fd, FunD K d_law_told.name d_law_told.qual d_law_told.params d_law_told.body d_law_told.scope [] [] (He.fAd K d_law_told.at_) fd := T.c.1.def_ 37 (d := G84.d_law_told) rfl
theorem TX.d_law_orders (T : TX K mg) : ∃ fd, FunD K d_law_orders.name d_law_orders.qual d_law_orders.params d_law_orders.body d_law_orders.scope [] [] (He.fAd K d_law_orders.at_) fd := T.c.1.def_ 38 (d := G84.d_law_orders) rfl
theorem TX.d_law_alike (T : TX K mg) : ∃ fd, FunD K d_law_alike.name d_law_alike.qual d_law_alike.params d_law_alike.body d_law_alike.scope [] [] (He.fAd K d_law_alike.at_) fd := T.c.1.def_ 39 (d := G84.d_law_alike) rfl
theorem TX.d_law_summed (T : TX K mg) : ∃ fd, FunD K d_law_summed.name d_law_summed.qual d_law_summed.params d_law_summed.body d_law_summed.scope [] [] (He.fAd K d_law_summed.at_) fd := T.c.1.def_ 40 (d := G84.d_law_summed) rfl
theorem TX.d_law_is_needless (T : TX K mg) : ∃ fd, FunD K d_law_is_needless.name d_law_is_needless.qual d_law_is_needless.params d_law_is_needless.body d_law_is_needless.scope [] [] (He.fAd K d_law_is_needless.at_) fd := T.c.1.def_ 41 (d := G84.d_law_is_needless) rfl
theorem TX.d_law_is_round (T : TX K mg) : ∃ fd, FunD K d_law_is_round.name d_law_is_round.qual d_law_is_round.params d_law_is_round.body d_law_is_round.scope [] [] (He.fAd K d_law_is_round.at_) fd := T.c.1.def_ 42 (d := G84.d_law_is_round) rfl
theorem TX.d_law_met (T : TX K mg) : ∃ fd, FunD K d_law_met.name d_law_met.qual d_law_met.params d_law_met.body d_law_met.scope [] [] (He.fAd K d_law_met.at_) fd := T.c.1.def_ 43 (d := G84.d_law_met) rfl
theorem TX.d_law_is_least (T : TX K mg) : ∃ fd, FunD K d_law_is_least.name d_law_is_least.qual d_law_is_least.params d_law_is_least.body d_law_is_least.scope [] [] (He.fAd K d_law_is_least.at_) fd := T.c.1.def_ 44 (d := G84.d_law_is_least) rfl
theorem TX.d_law_ladder (T : TX K mg) : ∃ fd, FunD K d_law_ladder.name d_law_ladder.qual d_law_ladder.params d_law_ladder.body d_law_ladder.scope [] [] (He.fAd K d_law_ladder.at_) fd := T.c.1.def_ 45 (d := G84.d_law_ladder) rfl
theorem TX.d_law (T : TX K mg) : ∃ fd, FunD K d_law.name d_law.qual d_law.params d_law.body d_law.scope [] [] (He.fAd K d_law.at_) fd := T.c.1.def_ 46 (d := G84.d_law) rfl
end
end G84

namespace G84
open PySem PySem.Spec PyProof.Rows L2
/-! W0: frames, defs by name, data of rows. -/
/-! ### frames: G stays under H, M are the cells that may change -/
structure Ex (M : Addr → Prop) (G H G' H' : Hp) : Prop where
  s : ∀ b o, H b = some o → ¬ M b → H' b = some o
  g : Same G G'
  gh : Same G' H'
  fr : ∀ b, H b ≠ none → G b = none → G' b = none
  al : ∀ b, H b ≠ none → H' b ≠ none
abbrev M0 : Addr → Prop := fun _ => False
section
variable {M M' : Addr → Prop} {G H G1 H1 G2 H2 : Hp} {p : Addr} {o o' : HO}
theorem Ex.rfl' (e : Same G H) : Ex M G H G H := ⟨fun _ _ h _ => h, Same.refl G, e, fun _ _ h => h, fun _ h => h⟩
theorem Ex.trans (a : Ex M G H G1 H1) (b : Ex M G1 H1 G2 H2) : Ex M G H G2 H2 :=
  ⟨fun c o h m => b.s c o (a.s c o h m) m, a.g.trans b.g, b.gh, fun c h g => b.fr c (a.al c h) (a.fr c h g), fun c h => b.al c (a.al c h)⟩
theorem Ex.mono (a : Ex M G H G1 H1) (h : ∀ b, M b → M' b) : Ex M' G H G1 H1 := ⟨fun b o e m => a.s b o e fun z => m (h b z), a.g, a.gh, a.fr, a.al⟩
theorem Ex.free (a : Ex M G H G1 H1) (h : H1 p = none) : H p = none := by
  cases e : H p with
  | none => rfl
  | some o => exact absurd h (a.al p (by rw [e]; exact fun z => nomatch z))
theorem Ex.gfree (a : Ex M G H G1 H1) (h : H1 p = none) : G1 p = none := by
  cases e : G1 p with
  | none => rfl
  | some o =>
    rw [a.gh p o e] at h
    cases h
theorem same_free (e : Same G H) (h : H p = none) : G p = none := by
  cases q : G p with
  | none => rfl
  | some o =>
    rw [e p o q] at h
    cases h
/-- a new object that stays -/
theorem Ex.new (a : Ex M G H G1 H1) (h : H1 p = none) : Ex M G H (upd G1 p o) (upd H1 p o) := by
  have hp := a.free h
  refine ⟨fun b u e m => ?_, fun b u e => ?_, fun b u e => ?_, fun b e g => ?_, fun b e => ?_⟩
  · rw [upd_ne (ne_of_none e hp)]; exact a.s b u e m
  · have q := a.g b u e
    rw [upd_ne (ne_of_none q (a.gfree h))]; exact q
  · by_cases hb : b = p
    · subst hb; rw [upd_same] at e ⊢; exact e
    · rw [upd_ne hb] at e ⊢; exact a.gh b u e
  · rw [upd_ne (fun z => e (by rw [z]; exact hp))]; exact a.fr b e g
  · rw [upd_ne (fun z => e (by rw [z]; exact hp))]; exact a.al b e
/-- a new object that may change -/
theorem Ex.loc (a : Ex M G H G1 H1) (h : H1 p = none) : Ex M G H G1 (upd H1 p o) := by
  have hp := a.free h
  refine ⟨fun b u e m => ?_, a.g, fun b u e => ?_, a.fr, fun b e => ?_⟩
  · rw [upd_ne (ne_of_none e hp)]; exact a.s b u e m
  · have q := a.gh b u e
    rw [upd_ne (ne_of_none q h)]; exact q
  · rw [upd_ne (fun z => e (by rw [z]; exact hp))]; exact a.al b e
/-- a changing object is changed -/
theorem Ex.mut (a : Ex M G H G1 H1) (hp : H p = none ∨ M p) (g : G1 p = none) : Ex M G H G1 (upd H1 p o) := by
  refine ⟨fun b u e m => ?_, a.g, fun b u e => ?_, a.fr, fun b e => ?_⟩
  · rw [upd_ne (fun z => by
      rcases hp with q | q
      · rw [z, q] at e; cases e
      · exact m (by rw [z]; exact q))]
    exact a.s b u e m
  · rw [upd_ne (ne_of_none e g)]; exact a.gh b u e
  · by_cases hb : b = p
    · subst hb; rw [upd_same]; exact fun z => nomatch z
    · rw [upd_ne hb]; exact a.al b e
/-- a changing object of one's own is left to stay -/
theorem Ex.frz (a : Ex M G H G1 H1) (hp : H p = none) (h : H1 p = some o) (g : G1 p = none) : Ex M G H (upd G1 p o) H1 := by
  refine ⟨a.s, fun b u e => ?_, fun b u e => ?_, fun b e q => ?_, a.al⟩
  · have q := a.g b u e
    rw [upd_ne (ne_of_none q g)]; exact q
  · by_cases hb : b = p
    · subst hb
      rw [upd_same] at e
      rw [h]; exact e
    · rw [upd_ne hb] at e; exact a.gh b u e
  · rw [upd_ne (fun z => e (by rw [z]; exact hp))]; exact a.fr b e q
theorem Ex.same (a : Ex M0 G H G1 H1) : Same H H1 := fun b o h => a.s b o h fun z => z
theorem Ex.of_same (e : Same G H) (s : Same H H1) : Ex M G H G H1 := ⟨fun b o h _ => s b o h, Same.refl G, e.trans s, fun _ _ h => h, fun b h => by
  cases q : H b with
  | none => exact absurd q h
  | some o => rw [s b o q]; exact fun z => nomatch z⟩
end
/-! ### data that stands in the tracked heap -/
mutual
inductive Dt (H : Hp) : V → PyData → Prop
  | non : Dt H .non .none
  | bl (b : Bool) : Dt H (.bl b) (.bool b)
  | int (i : Int) : Dt H (.int i) (.int i)
  | lst {a : Addr} {xs : List V} {ds : List PyData} : H a = some (.lst xs) → DtAll H xs ds → Dt H (.ref a) (.list ds)
  | tup {a : Addr} {xs : List V} {ds : List PyData} : H a = some (.tup xs) → DtAll H xs ds → Dt H (.ref a) (.tuple ds)
inductive DtAll (H : Hp) : List V → List PyData → Prop
  | nil : DtAll H [] []
  | cons {v : V} {vs : List V} {d : PyData} {ds : List PyData} : Dt H v d → DtAll H vs ds → DtAll H (v :: vs) (d :: ds)
end
mutual
theorem Dt.dp {K : PySem.W.Frag} {H : Hp} : ∀ {v : V} {d : PyData}, Dt H v d → Dp K H v d
  | _, _, .non => .non
  | _, _, .bl b => .bl b
  | _, _, .int i => .int i
  | _, _, .lst h a => .lst (SqL.of h) (DtAll.dp a)
  | _, _, .tup h a => .tup (SqT.of h) (DtAll.dp a)
theorem DtAll.dp {K : PySem.W.Frag} {H : Hp} : ∀ {vs : List V} {ds : List PyData}, DtAll H vs ds → DpAll K H vs ds
  | _, _, .nil => .nil
  | _, _, .cons h a => .cons (Dt.dp h) (DtAll.dp a)
end
mutual
theorem dt_mono {H H' : Hp} (e : Same H H') : ∀ {v : V} {d : PyData}, Dt H v d → Dt H' v d
  | _, _, .non => .non
  | _, _, .bl b => .bl b
  | _, _, .int i => .int i
  | _, _, .lst h a => .lst (e _ _ h) (dtAll_mono e a)
  | _, _, .tup h a => .tup (e _ _ h) (dtAll_mono e a)
theorem dtAll_mono {H H' : Hp} (e : Same H H') : ∀ {vs : List V} {ds : List PyData}, DtAll H vs ds → DtAll H' vs ds
  | _, _, .nil => .nil
  | _, _, .cons h a => .cons (dt_mono e h) (dtAll_mono e a)
end
theorem dtAll_len {H : Hp} : ∀ {vs : List V} {ds : List PyData}, DtAll H vs ds → vs.length = ds.length
  | _, _, .nil => rfl
  | _, _, .cons _ a => by rw [List.length_cons, List.length_cons, dtAll_len a]
theorem dtAll_get {H : Hp} : ∀ {vs : List V} {ds : List PyData} {i : Nat} {v : V}, DtAll H vs ds → vs[i]? = some v → ∃ d, ds[i]? = some d ∧ Dt H v d
  | _, _, 0, _, .cons h _, e => ⟨_, rfl, by rw [← Option.some.inj e]; exact h⟩
  | _, _, i + 1, _, .cons _ a, e => dtAll_get (i := i) a e
theorem dtAll_get' {H : Hp} : ∀ {vs : List V} {ds : List PyData} {i : Nat} {d : PyData}, DtAll H vs ds → ds[i]? = some d → ∃ v, vs[i]? = some v ∧ Dt H v d
  | _, _, 0, _, .cons h _, e => ⟨_, rfl, by rw [← Option.some.inj e]; exact h⟩
  | _, _, i + 1, _, .cons _ a, e => dtAll_get' (i := i) a e
theorem dtAll_snoc {H : Hp} : ∀ {vs : List V} {ds : List PyData} {v : V} {d : PyData}, DtAll H vs ds → Dt H v d → DtAll H (vs ++ [v]) (ds ++ [d])
  | _, _, _, _, .nil, h => .cons h .nil
  | _, _, _, _, .cons k a, h => .cons k (dtAll_snoc a h)
theorem dtAll_map {H : Hp} {α : Type} {enc : α → PyData} {vs : List V} {xs : List α} {i : Nat} {v : V} (h : DtAll H vs (xs.map enc)) (e : vs[i]? = some v) : ∃ x, xs[i]? = some x ∧ Dt H v (enc x) := by
  obtain ⟨d, ed, hd⟩ := dtAll_get h e
  rw [List.getElem?_map] at ed
  obtain ⟨x, ex, rfl⟩ := Option.map_eq_some_iff.mp ed
  exact ⟨x, ex, hd⟩
/-- what is handed back is the datum d, and all but M stays -/
def Ret (M : Addr → Prop) (G H : Hp) (Q : VK) (d : PyData) : Prop := ∀ G' H' v, Ex M G H G' H' → Dt G' v d → Q v H'

/-! ### defs and classes by name -/
def DefOk (P : Program) (w : World) (K : PySem.W.Frag) (mg : Str → Option Value) (base : Heap) (k : Nat) (x : Str) (ps : List Str) (sp : Sp) : Prop :=
  ∃ fd, FnOk P w K mg base CX0 k (He.ga K x) fd ps sp ∧ mg x = some (.ref (He.ga K x)) ∧ PySem.W.keepIn K (.ref (He.ga K x)) = true ∧ Binds K fd ps []
def MethOk (P : Program) (w : World) (K : PySem.W.Frag) (mg : Str → Option Value) (base : Heap) (k : Nat) (C m : Str) (ps : List Str) (sp : Sp) : Prop :=
  ∃ fd, FnOk P w K mg base CX0 k (He.ma K (He.ga K C) m) fd ps sp ∧ Meth K (He.ga K C) m (He.ma K (He.ga K C) m) ∧ Cls K (He.ga K C) ∧ Binds K fd ps []
def MakeOk (P : Program) (w : World) (K : PySem.W.Frag) (mg : Str → Option Value) (base : Heap) (k : Nat) (C : Str) (ps : List Str) (sp : Sp) : Prop :=
  ∃ fd, FnOk P w K mg base CX0 k (He.ma K (He.ga K C) "__init__") fd ps sp ∧ Mk K (He.ga K C) (He.ma K (He.ga K C) "__init__") ∧ mg C = some (.ref (He.ga K C)) ∧ Binds K fd ps []
section
variable {X : Cx} {k : Nat} {x m C : Str} {ps : List Str} {sp : Sp} {e o : Expr} {es : List Expr} {te ta : TE} {t : TA} {p pos apos : Pos}
theorem pe_d (D : DefOk X.prog X.w X.K X.mg X.base k x ps sp) (hr : Room k X.A) (ha : PA X (e :: es) t) (hg : Gl X x := by rfl) (hdb : (x == ("__debug__" : Str)) = false := by decide) (he : starEach (e :: es) X.env = (false, eval e X.env) :: starEach es X.env := by rfl)
    (hpl : (backTo pos (starEach es X.env)).any (·.1) = false := by rfl) : PE X (.Call (.Name x p) (e :: es) [] pos) (tCall sp [] E0 t) := by
  obtain ⟨fd, F, hm, hk, hb⟩ := D
  exact pe_call F hr hg hm hk hb .nil pass0 ha hdb he hpl
theorem pe_m {pl : Sem Bool} (D : MethOk X.prog X.w X.K X.mg X.base k C m ps sp) (hr : Room k X.A) (ho : PE X o ta) (ha : PA X (e :: es) t) (hst : starEach (e :: es) X.env = (false, eval e X.env) :: starEach es X.env := by rfl) (hpl : (backTo pos (starEach es X.env)).any (·.1) = false := by rfl)
    (ht : eval (.Call (.Attribute o m apos) (e :: es) [] pos) X.env = (do
      let ov ← eval o X.env
      standAt apos.atName
      let (f, first) ← holding [ov] (getMethod ov m pl)
      callWith pos f first (backTo pos (starEach (e :: es) X.env)) (backToKw pos (keywordEach [] X.env))) := by rfl) : PE X (.Call (.Attribute o m apos) (e :: es) [] pos) (tMeth (He.ga X.K C) m sp [] E0 ta t) := by
  obtain ⟨fd, F, hm, hc, hb⟩ := D
  exact pe_meth ho hc hm F hr hb .nil pass0 ha hst hpl ht
theorem pe_m0 {pl : Sem Bool} (D : MethOk X.prog X.w X.K X.mg X.base k C m ps sp) (hr : Room k X.A) (ho : PE X o ta)
    (ht : eval (.Call (.Attribute o m apos) [] [] pos) X.env = (do
      let ov ← eval o X.env
      standAt apos.atName
      let (f, first) ← holding [ov] (getMethod ov m pl)
      callWith pos f first (backTo pos (starEach [] X.env)) (backToKw pos (keywordEach [] X.env))) := by rfl) : PE X (.Call (.Attribute o m apos) [] [] pos) (tMeth (He.ga X.K C) m sp [] E0 ta tNil) := by
  obtain ⟨fd, F, hm, hc, hb⟩ := D
  exact pe_meth0 ho hc hm F hr hb .nil pass0 ht
theorem pe_mk (D : MakeOk X.prog X.w X.K X.mg X.base k C ps sp) (hr : Room (k + 1) X.A) (ha : PA X (e :: es) t) (hg : Gl X C := by rfl) (hdb : (C == ("__debug__" : Str)) = false := by decide) (he : starEach (e :: es) X.env = (false, eval e X.env) :: starEach es X.env := by rfl)
    (hpl : (backTo pos (starEach es X.env)).any (·.1) = false := by rfl) : PE X (.Call (.Name C p) (e :: es) [] pos) (tMake (He.ga X.K C) sp [] E0 t) := by
  obtain ⟨fd, F, M, hm, hb⟩ := D
  exact pe_make M F hr hg hm hb .nil pass0 ha hdb he hpl
theorem pe_mk0 (D : MakeOk X.prog X.w X.K X.mg X.base k C ps sp) (hr : Room (k + 1) X.A) (hg : Gl X C := by rfl) (hdb : (C == ("__debug__" : Str)) = false := by decide) : PE X (.Call (.Name C p) [] [] pos) (tMake (He.ga X.K C) sp [] E0 tNil) := by
  obtain ⟨fd, F, M, hm, hb⟩ := D
  exact pe_make0 M F hr hg hm hb .nil pass0 hdb
end
section
variable {P : Program} {w : World} {K : PySem.W.Frag} {mg : Str → Option Value} {base : Heap} {k : Nat} {x C m : Str} {ps : List Str} {sp : Sp}
theorem DefOk.mono {j : Nat} (D : DefOk P w K mg base j x ps sp) (h : j ≤ k) : DefOk P w K mg base k x ps sp := let ⟨fd, F, r⟩ := D; ⟨fd, F.mono h, r⟩
theorem MethOk.mono {j : Nat} (D : MethOk P w K mg base j C m ps sp) (h : j ≤ k) : MethOk P w K mg base k C m ps sp := let ⟨fd, F, r⟩ := D; ⟨fd, F.mono h, r⟩
theorem MakeOk.mono {j : Nat} (D : MakeOk P w K mg base j C ps sp) (h : j ≤ k) : MakeOk P w K mg base k C ps sp := let ⟨fd, F, r⟩ := D; ⟨fd, F.mono h, r⟩
end

/-! ### numbers, rows as data -/
def nD (n : Nat) : PyData := .int (n : Int)
def tN (l : List Nat) : PyData := .tuple (l.map nD)
def lN (l : List Nat) : PyData := .list (l.map nD)
abbrev Rw := M84.Rw
def rowD (r : Rw) : PyData := .tuple [tN r.1, tN r.2]
def rowsD (N : List Rw) : PyData := .list (N.map rowD)
def rowL (r : Rw) : PyData := .tuple [lN r.1, lN r.2]
def rowsL (N : List Rw) : PyData := .list (N.map rowL)
theorem nD_map (l : List Nat) : l.map nD = (l.map fun n : Nat => (n : Int)).map PyData.int := by rw [List.map_map] <;> rfl
theorem eqvAll_nD : ∀ a b : List Nat, PyData.eqvAll (a.map nD) (b.map nD) = decide (a = b)
  | [], [] => by simp [PyData.eqvAll]
  | [], b :: bs => by simp [PyData.eqvAll]
  | a :: as, [] => by simp [PyData.eqvAll]
  | a :: as, b :: bs => by
    have ih := eqvAll_nD as bs
    simp only [List.map_cons, PyData.eqvAll, ih, nD, PyData.eqv]
    by_cases h : a = b
    · subst h; simp
    · have q : ((a : Int) == (b : Int)) = false := beq_eq_false_iff_ne.mpr (by omega)
      rw [q, Bool.false_and]
      exact (decide_eq_false fun z => h (List.cons.inj z).1).symm
theorem eqv_tN (a b : List Nat) : PyData.eqv (tN a) (tN b) = decide (a = b) := by
  show PyData.eqv (.tuple (a.map nD)) (.tuple (b.map nD)) = _
  rw [PyData.eqv]; exact eqvAll_nD a b
theorem eqv_lN (a b : List Nat) : PyData.eqv (lN a) (lN b) = decide (a = b) := by
  show PyData.eqv (.list (a.map nD)) (.list (b.map nD)) = _
  rw [PyData.eqv]; exact eqvAll_nD a b
theorem eqv_rowD (a b : Rw) : PyData.eqv (rowD a) (rowD b) = decide (a = b) := by
  obtain ⟨a1, a2⟩ := a
  obtain ⟨b1, b2⟩ := b
  simp only [rowD, PyData.eqv, PyData.eqvAll, eqv_tN, Bool.and_true]
  by_cases h1 : a1 = b1 <;> by_cases h2 : a2 = b2 <;> simp [h1, h2]
theorem eqvAll_rowD : ∀ a b : List Rw, PyData.eqvAll (a.map rowD) (b.map rowD) = decide (a = b)
  | [], [] => by simp [PyData.eqvAll]
  | [], b :: bs => by simp [PyData.eqvAll]
  | a :: as, [] => by simp [PyData.eqvAll]
  | a :: as, b :: bs => by
    rw [List.map_cons, List.map_cons, PyData.eqvAll, eqvAll_rowD as bs, eqv_rowD]
    by_cases h1 : a = b <;> by_cases h2 : as = bs <;> simp [h1, h2]
theorem eqv_rowsD (a b : List Rw) : PyData.eqv (rowsD a) (rowsD b) = decide (a = b) := by
  show PyData.eqv (.list (a.map rowD)) (.list (b.map rowD)) = _
  rw [PyData.eqv]; exact eqvAll_rowD a b
theorem canLayAll_nD : ∀ l : List Nat, PyData.canLayAll0 (l.map nD) = true
  | [] => by simp [PyData.canLayAll0]
  | n :: l => by simp [PyData.canLayAll0, nD, PyData.canLay0, canLayAll_nD l]
theorem depthAll_nD : ∀ l : List Nat, PyData.depthAll (l.map nD) = 0
  | [] => by simp [PyData.depthAll]
  | n :: l => by simp [PyData.depthAll, nD, PyData.depth, depthAll_nD l]
theorem canLay_rowD (r : Rw) : (rowD r).canLay0 = true := by simp [rowD, tN, PyData.canLay0, PyData.canLayAll0, canLayAll_nD]
theorem depth_rowD (r : Rw) : (rowD r).depth = 2 := by simp [rowD, tN, PyData.depth, PyData.depthAll, depthAll_nD]
theorem canLayAll_rowD : ∀ l : List Rw, PyData.canLayAll0 (l.map rowD) = true
  | [] => by simp [PyData.canLayAll0]
  | n :: l => by simp [PyData.canLayAll0, canLay_rowD, canLayAll_rowD l]
theorem depthAll_rowD : ∀ l : List Rw, PyData.depthAll (l.map rowD) ≤ 2
  | [] => by simp [PyData.depthAll]
  | n :: l => by
    have := depthAll_rowD l
    simp only [List.map_cons, PyData.depthAll, depth_rowD]
    omega
theorem shaped_of {d : PyData} (h1 : d.canLay0 = true) (h2 : d.depth ≤ 64) : SeqAt.shaped d = true := by
  show (d.canLay0 && decide (d.depth ≤ 64)) = true
  rw [h1, decide_eq_true h2] <;> rfl
theorem shaped_nD (n : Nat) : SeqAt.shaped (nD n) = true := shaped_of rfl (by simp [nD, PyData.depth])
theorem shaped_lN (l : List Nat) : SeqAt.shaped (lN l) = true := shaped_of (by simp [lN, PyData.canLay0, canLayAll_nD]) (by simp [lN, PyData.depth, depthAll_nD])
theorem shaped_tN (l : List Nat) : SeqAt.shaped (tN l) = true := shaped_of (by simp [tN, PyData.canLay0, canLayAll_nD]) (by simp [tN, PyData.depth, depthAll_nD])
theorem shaped_rowD (r : Rw) : SeqAt.shaped (rowD r) = true := shaped_of (canLay_rowD r) (by rw [depth_rowD]; decide)
theorem shaped_rowsD (l : List Rw) : SeqAt.shaped (rowsD l) = true := shaped_of (by simp [rowsD, PyData.canLay0, canLayAll_rowD]) (by
  have := depthAll_rowD l
  simp only [rowsD, PyData.depth]
  omega)

/-! ### reading the data -/
section
variable {G H : Hp} {v : V}
theorem dt_nD {n : Nat} (h : Dt G v (nD n)) : v = .int (n : Int) := by cases h; rfl
theorem dt_lst {ds : List PyData} (h : Dt G v (.list ds)) : ∃ a xs, v = .ref a ∧ G a = some (.lst xs) ∧ DtAll G xs ds := by
  cases h with
  | lst h1 h2 => exact ⟨_, _, rfl, h1, h2⟩
theorem dt_tup {ds : List PyData} (h : Dt G v (.tuple ds)) : ∃ a xs, v = .ref a ∧ G a = some (.tup xs) ∧ DtAll G xs ds := by
  cases h with
  | tup h1 h2 => exact ⟨_, _, rfl, h1, h2⟩
abbrev iN (l : List Nat) : List V := l.map fun n : Nat => V.int (n : Int)
theorem dtAll_nD : ∀ {xs : List V} {l : List Nat}, DtAll G xs (l.map nD) → xs = iN l
  | _, [], .nil => rfl
  | _, n :: l, .cons h a => by
    cases h
    rw [dtAll_nD a] <;> rfl
theorem dtAll_iN : ∀ l : List Nat, DtAll G (iN l) (l.map nD)
  | [] => .nil
  | n :: l => .cons (.int _) (dtAll_iN l)
theorem dt_tN {l : List Nat} (h : Dt G v (tN l)) : ∃ a, v = .ref a ∧ G a = some (.tup (iN l)) := by
  obtain ⟨a, xs, e, h1, h2⟩ := dt_tup h
  rw [dtAll_nD h2] at h1
  exact ⟨a, e, h1⟩
theorem dt_lN {l : List Nat} (h : Dt G v (lN l)) : ∃ a, v = .ref a ∧ G a = some (.lst (iN l)) := by
  obtain ⟨a, xs, e, h1, h2⟩ := dt_lst h
  rw [dtAll_nD h2] at h1
  exact ⟨a, e, h1⟩
theorem tN_dt {a : Addr} {l : List Nat} (h : G a = some (.tup (iN l))) : Dt G (.ref a) (tN l) := .tup h (dtAll_iN l)
theorem lN_dt {a : Addr} {l : List Nat} (h : G a = some (.lst (iN l))) : Dt G (.ref a) (lN l) := .lst h (dtAll_iN l)
theorem dt_rowD {r : Rw} (h : Dt G v (rowD r)) : ∃ a b c, v = .ref a ∧ G a = some (.tup [.ref b, .ref c]) ∧ G b = some (.tup (iN r.1)) ∧ G c = some (.tup (iN r.2)) := by
  obtain ⟨a, xs, e, h1, h2⟩ := dt_tup h
  cases h2 with
  | cons p q =>
    cases q with
    | cons p' q' =>
      cases q'
      obtain ⟨b, rfl, hb⟩ := dt_tN p
      obtain ⟨c, rfl, hc⟩ := dt_tN p'
      exact ⟨a, b, c, e, h1, hb, hc⟩
theorem dt_rowL {r : Rw} (h : Dt G v (rowL r)) : ∃ a b c, v = .ref a ∧ G a = some (.tup [.ref b, .ref c]) ∧ G b = some (.lst (iN r.1)) ∧ G c = some (.lst (iN r.2)) := by
  obtain ⟨a, xs, e, h1, h2⟩ := dt_tup h
  cases h2 with
  | cons p q =>
    cases q with
    | cons p' q' =>
      cases q'
      obtain ⟨b, rfl, hb⟩ := dt_lN p
      obtain ⟨c, rfl, hc⟩ := dt_lN p'
      exact ⟨a, b, c, e, h1, hb, hc⟩
theorem rowD_dt {a b c : Addr} {r : Rw} (h : G a = some (.tup [.ref b, .ref c])) (h1 : G b = some (.tup (iN r.1))) (h2 : G c = some (.tup (iN r.2))) : Dt G (.ref a) (rowD r) := .tup h (.cons (tN_dt h1) (.cons (tN_dt h2) .nil))
theorem rowL_dt {a b c : Addr} {r : Rw} (h : G a = some (.tup [.ref b, .ref c])) (h1 : G b = some (.lst (iN r.1))) (h2 : G c = some (.lst (iN r.2))) : Dt G (.ref a) (rowL r) := .tup h (.cons (lN_dt h1) (.cons (lN_dt h2) .nil))
theorem iN_get {l : List Nat} {i n : Nat} (h : l[i]? = some n) : (iN l)[i]? = some (V.int (n : Int)) := by rw [List.getElem?_map, h] <;> rfl
theorem of_iN {l : List Nat} {i : Nat} {x : V} (h : (iN l)[i]? = some x) : ∃ n, l[i]? = some n ∧ x = V.int (n : Int) := by
  rw [List.getElem?_map] at h
  cases e : l[i]? with
  | none => rw [e] at h; cases h
  | some n =>
    rw [e] at h
    exact ⟨n, rfl, (Option.some.inj h).symm⟩
theorem iN_len (l : List Nat) : (iN l).length = l.length := List.length_map _
theorem iN_snoc (l : List Nat) (n : Nat) : iN (l ++ [n]) = iN l ++ [V.int (n : Int)] := by
  show (l ++ [n]).map (fun n : Nat => V.int (n : Int)) = _
  rw [List.map_append] <;> rfl
theorem atN {xs : List V} {j : Nat} {x : V} (h : xs[j]? = some x) : atI xs ((j : Nat) : Int) = some x := atI_nat h
theorem getD_at {l : List Nat} {i : Nat} (h : i < l.length) : l[i]? = some (l.getD i 0) := by rw [List.getD_eq_getElem?_getD, List.getElem?_eq_getElem h] <;> rfl
end
end G84

namespace G84
open PySem PySem.Spec PyProof.Rows L2
/-! W0K: the rules with the written part named (for elements of comprehensions). -/
section
variable {X : Cx} (K : PySem.W.Frag) (w : World) (P : Program)
theorem ixl (h : X.K = K := by rfl) : IxR X (rIxL K) := by subst h; exact ix_list
theorem ixt (h : X.K = K := by rfl) : IxR X (rIxT K) := by subst h; exact ix_tup
theorem eqD (hu : X.A.units + 64 < cLine) (h : X.K = K := by rfl) : OpR X (compareOp .Eq) (rEqD K) := by subst h; exact op_eqD hu
theorem neD (hu : X.A.units + 64 < cLine) (h : X.K = K := by rfl) : OpR X (compareOp .NotEq) (rNeD K) := by subst h; exact op_neD hu
theorem inS (h : X.K = K := by rfl) : OpR X (compareOp .In) (rIn K false) := by subst h; exact op_in_seq
theorem ninS (h : X.K = K := by rfl) : OpR X (compareOp .NotIn) (rIn K true) := by subst h; exact op_notIn_seq
theorem ninD (hu : X.A.units + 65 < cLine) (h : X.K = K := by rfl) : OpR X (compareOp .NotIn) (rNotInD K) := by subst h; exact op_notInD hu
theorem lenS (h : X.K = K := by rfl) : CallR X (.builtin "len") (fun xs H Q => ∃ p ys, xs = [.ref p] ∧ (SqL K H p ys ∨ SqT K H p ys) ∧ Q (.int ys.length) H) := by subst h; exact call_len_seq
theorem lenO (h : X.w = w := by rfl) : CallR X (.builtin "len") (rLenSet w) := by subst h; exact cr_lenSet
theorem anyK (hc : X.calm = true := by rfl) (h : X.K = K := by rfl) : CallR X (.builtin "any") (rAny K) := by subst h; exact cr_any hc
theorem maxK (hc : X.calm = true := by rfl) (h : X.K = K := by rfl) : CallR X (.builtin "max") (rMax K) := by subst h; exact cr_max hc
theorem srtI (h : X.K = K := by rfl) : CallR X (.builtin "sorted") (rSortedI K) := by subst h; exact cr_sortedI
theorem srtO (hc : X.calm = true := by rfl) (h : X.w = w := by rfl) : CallR X (.builtin "sorted") (rSortedSet w) := by subst h; exact cr_sortedSet hc
theorem setK (hc : X.calm = true := by rfl) (h : X.K = K := by rfl) (h2 : X.w = w := by rfl) : CallR X (.type "set") (rSetL K w) := by subst h; subst h2; exact cr_setL hc
theorem lstK (h : X.K = K := by rfl) : CallR X (.type "list") (fun xs H Q => ∃ p ys, xs = [.ref p] ∧ (SqL K H p ys ∨ SqT K H p ys) ∧ ∀ l, H l = none → Q (.ref l) (upd H l (.lst ys))) := by subst h; exact call_list_of
theorem tupK (h : X.K = K := by rfl) : CallR X (.type "tuple") (fun xs H Q => ∃ p ys, xs = [.ref p] ∧ ((SqL K H p ys ∧ ∀ l, H l = none → Q (.ref l) (upd H l (.tup ys))) ∨ (SqT K H p ys ∧ Q (.ref p) H))) := by subst h; exact call_tuple_of
theorem isiK (h : X.K = K := by rfl) : CallR X (.builtin "isinstance") (rIsi K) := by subst h; exact call_isi
theorem catT (h : X.K = K := by rfl) : OpR X (binaryOp .Add) (rCatA K) := by subst h; exact op_catA
theorem slL (h : X.K = K := by rfl) : SlR X (rSlL K) := by subst h; exact sl_list
theorem pe_f {e : Expr} {ta : TE} {f : Str} {pos : Pos} (he : PE X e ta) (hb : attributeBase e f X.env (eval e X.env) = eval e X.env := by rfl) (h : X.K = K := by rfl) : PE X (.Attribute e f pos) (tFld K ta f) := by subst h; exact pe_fld he hb
theorem ndNotIn (hu : X.A.units + 64 < cLine) (h : X.K = K := by rfl) (h2 : X.w = w := by rfl) (h3 : X.prog = P := by rfl) : OpR X (compareOp .NotIn) (rNdNotIn P w K) := by subst h; subst h2; subst h3; exact op_ndNotIn hu
variable {k : Nat} {x m C : Str} {ps : List Str} {sp : Sp} {e o : Expr} {es : List Expr} {te ta : TE} {t : TA} {p pos apos : Pos}
theorem pe_mK {pl : Sem Bool} (D : MethOk X.prog X.w X.K X.mg X.base k C m ps sp) (hr : Room k X.A) (ho : PE X o ta) (ha : PA X (e :: es) t) (hst : starEach (e :: es) X.env = (false, eval e X.env) :: starEach es X.env := by rfl) (hpl : (backTo pos (starEach es X.env)).any (·.1) = false := by rfl)
    (ht : eval (.Call (.Attribute o m apos) (e :: es) [] pos) X.env = (do
      let ov ← eval o X.env
      standAt apos.atName
      let (f, first) ← holding [ov] (getMethod ov m pl)
      callWith pos f first (backTo pos (starEach (e :: es) X.env)) (backToKw pos (keywordEach [] X.env))) := by rfl) (h : X.K = K := by rfl) : PE X (.Call (.Attribute o m apos) (e :: es) [] pos) (tMeth (He.ga K C) m sp [] E0 ta t) := by subst h; exact pe_m D hr ho ha hst hpl ht
theorem pe_m0K {pl : Sem Bool} (D : MethOk X.prog X.w X.K X.mg X.base k C m ps sp) (hr : Room k X.A) (ho : PE X o ta)
    (ht : eval (.Call (.Attribute o m apos) [] [] pos) X.env = (do
      let ov ← eval o X.env
      standAt apos.atName
      let (f, first) ← holding [ov] (getMethod ov m pl)
      callWith pos f first (backTo pos (starEach [] X.env)) (backToKw pos (keywordEach [] X.env))) := by rfl) (h : X.K = K := by rfl) : PE X (.Call (.Attribute o m apos) [] [] pos) (tMeth (He.ga K C) m sp [] E0 ta tNil) := by subst h; exact pe_m0 D hr ho ht
end
theorem un65 {A : Around} {k : Nat} (hr : Room k A) : A.units + 65 < cLine := by have := hr.un; omega
end G84

namespace G84
open PySem PySem.Spec PyProof.Rows L2
/-! W1: comprehensions whose elements make nothing; any, sorted(set(..)). -/
section
variable {K : PySem.W.Frag} {a : Addr} {xs : List V} {i : Nat} {te : TE} {tt : TT} {vs : List Nat} {σ : L2.St} {H1 : Hp} {D : Addr} {Qd : Hp → Prop}
theorem lcL (f : V → V) (p : V → Bool) (h : SqL K H1 a xs) (hD : H1 D = none) (hz : xs.length ≤ sizeLine) (hw : ∀ x, wipe ((wipe σ vs).set i (some x)) vs = wipe σ vs)
    (ht : ∀ x H Q, x ∈ xs → Same H1 H → Q (p x) H → tt ((wipe σ vs).set i (some x)) H Q) (he : ∀ x H Q, x ∈ xs → p x = true → Same H1 H → Q (f x) H → te ((wipe σ vs).set i (some x)) H Q)
    (hd : Qd (upd H1 D (.lst ((xs.filter p).map f)))) :
    ∃ W : Nat → Nat → Hp → Prop, (∃ m, W 0 m (upd H1 D (.lst []))) ∧ ∀ j m H, W j m H →
      ((Itl K a).stop j H ∧ Qd H) ∨ ((Itl K a).go j H ∧ ∃ Nx : Hp → Prop, (∀ H', Nx H' → ∃ m', m' < m ∧ W (j + 1) m' H') ∧ ∀ x H', (Itl K a).yld j H x H' → gName i x (wipe σ vs) H' fun σ2 H2 => wipe σ2 vs = wipe σ vs ∧ tt σ2 H2 fun b H3 =>
        if b = true then te σ2 H3 fun y H4 => ∃ acc, H4 D = some (.lst acc) ∧ acc.length < sizeLine ∧ Nx (upd H4 D (.lst (acc ++ [y]))) else Nx H3) := by
  have sm : ∀ o, Same H1 (upd H1 D o) := fun o b u e => by rw [upd_ne (ne_of_none e hD)]; exact e
  refine lc_list (K := K) (a := a) (xs := xs) (fun j H => H = upd H1 D (.lst (((xs.take j).filter p).map f))) rfl (fun j H _ e => by rw [e]; exact (sm _).seq h) (fun j x H hx e => ?_) (fun H e => by rw [e, List.take_length]; exact hd)
  subst e
  have hm : x ∈ xs := List.mem_of_getElem? hx
  have hj : j < xs.length := (List.getElem?_eq_some_iff.mp hx).1
  have tk : xs.take (j + 1) = xs.take j ++ [x] := by rw [List.take_add_one, hx] <;> rfl
  refine ⟨hw x, ht x _ _ hm (sm _) ?_⟩
  cases hp : p x with
  | true =>
    refine iteT (he x _ _ hm hp (sm _) ⟨_, upd_same, ?_, ?_⟩)
    · rw [List.length_map]
      have h1 := List.length_filter_le p (xs.take j)
      rw [List.length_take] at h1
      omega
    · rw [upd_upd, tk, List.filter_append, List.map_append]
      simp [hp]
  | false =>
    refine iteF ?_
    show _ = _
    rw [tk, List.filter_append]
    simp [hp]
theorem lcT (f : V → V) (p : V → Bool) (h : SqT K H1 a xs) (hD : H1 D = none) (hz : xs.length ≤ sizeLine) (hw : ∀ x, wipe ((wipe σ vs).set i (some x)) vs = wipe σ vs)
    (ht : ∀ x H Q, x ∈ xs → Same H1 H → Q (p x) H → tt ((wipe σ vs).set i (some x)) H Q) (he : ∀ x H Q, x ∈ xs → p x = true → Same H1 H → Q (f x) H → te ((wipe σ vs).set i (some x)) H Q)
    (hd : Qd (upd H1 D (.lst ((xs.filter p).map f)))) :
    ∃ W : Nat → Nat → Hp → Prop, (∃ m, W 0 m (upd H1 D (.lst []))) ∧ ∀ j m H, W j m H →
      ((Itt K a).stop j H ∧ Qd H) ∨ ((Itt K a).go j H ∧ ∃ Nx : Hp → Prop, (∀ H', Nx H' → ∃ m', m' < m ∧ W (j + 1) m' H') ∧ ∀ x H', (Itt K a).yld j H x H' → gName i x (wipe σ vs) H' fun σ2 H2 => wipe σ2 vs = wipe σ vs ∧ tt σ2 H2 fun b H3 =>
        if b = true then te σ2 H3 fun y H4 => ∃ acc, H4 D = some (.lst acc) ∧ acc.length < sizeLine ∧ Nx (upd H4 D (.lst (acc ++ [y]))) else Nx H3) := by
  have sm : ∀ o, Same H1 (upd H1 D o) := fun o b u e => by rw [upd_ne (ne_of_none e hD)]; exact e
  refine lc_tup (K := K) (a := a) (xs := xs) (fun j H => H = upd H1 D (.lst (((xs.take j).filter p).map f))) rfl (fun j H _ e => by rw [e]; exact sqt_mono (sm _) h) (fun j x H hx e => ?_) (fun H e => by rw [e, List.take_length]; exact hd)
  subst e
  have hm : x ∈ xs := List.mem_of_getElem? hx
  have hj : j < xs.length := (List.getElem?_eq_some_iff.mp hx).1
  have tk : xs.take (j + 1) = xs.take j ++ [x] := by rw [List.take_add_one, hx] <;> rfl
  refine ⟨hw x, ht x _ _ hm (sm _) ?_⟩
  cases hp : p x with
  | true =>
    refine iteT (he x _ _ hm hp (sm _) ⟨_, upd_same, ?_, ?_⟩)
    · rw [List.length_map]
      have h1 := List.length_filter_le p (xs.take j)
      rw [List.length_take] at h1
      omega
    · rw [upd_upd, tk, List.filter_append, List.map_append]
      simp [hp]
  | false =>
    refine iteF ?_
    show _ = _
    rw [tk, List.filter_append]
    simp [hp]
theorem all_in (xs : List V) : xs.filter (fun _ => true) = xs := by simp
end
/-- ints of naturals -/
theorem ints_nat (l : List Nat) : iN l = (l.map fun n : Nat => (n : Int)).map V.int := by rw [List.map_map] <;> rfl
/-- an ascending list of ints with the members of a list of naturals -/
theorem asc_int {ns : List Int} {l : List Nat} (h1 : ns.Pairwise (· < ·)) (h2 : ∀ k : Int, k ∈ ns ↔ k ∈ l.map fun n : Nat => (n : Int)) : ns = (M84.uniq l).map fun n : Nat => (n : Int) := by
  have hb : ∀ k ∈ ns, 0 ≤ k := fun k hk => by
    obtain ⟨n, _, e⟩ := List.mem_map.mp ((h2 k).mp hk)
    omega
  have e1 : (ns.map Int.toNat).map (fun n : Nat => (n : Int)) = ns := by
    rw [List.map_map]
    conv => rhs; rw [← List.map_id ns]
    exact List.map_congr_left fun k hk => Int.toNat_of_nonneg (hb k hk)
  have a1 : M84.Asc (ns.map Int.toNat) := by
    refine List.pairwise_map.mpr (List.Pairwise.imp_of_mem (fun {a b} ha hb' h => ?_) h1)
    have := hb a ha
    have := hb b hb'
    omega
  have a2 : ns.map Int.toNat = M84.uniq l := M84.asc_ext a1 (M84.asc_uniq l) fun z => by
    rw [M84.mem_uniq]
    constructor
    · intro hz
      obtain ⟨k, hk, e⟩ := List.mem_map.mp hz
      obtain ⟨n, hn, en⟩ := List.mem_map.mp ((h2 k).mp hk)
      have : n = z := by rw [← e, ← en]; simp
      rw [← this]; exact hn
    · intro hz
      exact List.mem_map.mpr ⟨(z : Int), (h2 _).mpr (List.mem_map.mpr ⟨z, hz, rfl⟩), by simp⟩
  rw [← a2, e1]
section
variable {X : Cx} {K : PySem.W.Frag} {w : World}
/-- set(xs) of naturals -/
theorem set_step {H : Hp} {l : Addr} {Q : VK} (ns : List Nat) (h : SqL K H l (iN ns)) (hl : ns.length ≤ 1000)
    (q : ∀ p n H', Same H H' → H p = none → n ≤ ns.length → (∃ ks : List Int, ks.Nodup ∧ (∀ k, k ∈ ks ↔ k ∈ ns.map fun n : Nat => (n : Int)) ∧ ks.length = n) → H' p = some (SetO w p (fun j => decide (j ∈ ns.map fun n : Nat => (n : Int))) n) → Q (.ref p) H') : rSetL K w [.ref l] H Q := by
  refine ⟨l, ns.map fun n : Nat => (n : Int), rfl, by rw [← ints_nat]; exact h, by rw [List.length_map]; exact hl, fun p n hp hn hk => ?_⟩
  rw [List.length_map] at hn
  exact q p n _ (fun b o e => by rw [upd_ne (ne_of_none e hp)]; exact e) hp hn hk upd_same
/-- sorted(set) -/
theorem srt_step {H : Hp} {p : Addr} {n : Nat} {Q : VK} (ns : List Nat) (h : H p = some (SetO w p (fun j => decide (j ∈ ns.map fun n : Nat => (n : Int))) n)) (hn : n < 64)
    (q : ∀ t H', Same H H' → H t = none → H' t = some (.lst (iN (M84.uniq ns))) → Q (.ref t) H') : rSortedSet w [.ref p] H Q := by
  refine ⟨p, _, n, rfl, h, hn, fun zs t h1 h2 h3 ht => ?_⟩
  have e := asc_int (l := ns) h1 fun k => by rw [h2 k, decide_eq_true_eq]
  refine q t _ (fun b o e => by rw [upd_ne (ne_of_none e ht)]; exact e) ht ?_
  rw [upd_same, e, ints_nat]
end
end G84

namespace G84
open PySem PySem.Spec PyProof.Rows L2
/-! W2: place_in, mark_of. -/
section
variable {P : Program} {w : World} {K : PySem.W.Frag} {mg : Str → Option Value} {base : Heap}
/-- the first place of what stands there -/
def spPlace : Sp := fun vs H Q _ => ∃ (α : Type) (_ : DecidableEq α) (_ : BEq α) (_ : LawfulBEq α) (enc : α → PyData) (xs : List α) (x : α) (v u : V), vs = [v, u] ∧ Dt H v (.list (xs.map enc)) ∧ Dt H u (enc x) ∧ (∀ a b, PyData.eqv (enc a) (enc b) = decide (a = b)) ∧
  (∀ a, SeqAt.shaped (enc a) = true) ∧ x ∈ xs ∧ ∀ H', Same H H' → Q (.int ((xs.idxOf x : Nat) : Int)) H'
theorem sc_place_in : FnScope ["things", "thing", "place", "other"] ["things", "thing"] (defScope s_place_in) := ⟨rfl, rfl, rfl, by decide +kernel, rfl, by decide +kernel, by decide +kernel⟩
theorem ok_place_in (T : TX K mg) : DefOk P w K mg base 1 "place_in" ["things", "thing"] spPlace := by
  obtain ⟨fd, F⟩ := T.d_place_in
  refine ⟨fd, F.ok sc_place_in (fun vs H Q E h => ?_) (fun cdv A outer s H vs Q E hr h => ⟨_, PSs.nox (pss_cons (ps_for PassesOwn.never rfl (pi_enum (by rfl) T.f_enumerate (pa_cons (pv 0) pa_nil)) (pg_tup rfl (pgs_cons (pg_name (i := 2) sc_place_in.nd rfl (Or.inl rfl)) (pgs_cons (pg_name (i := 3) sc_place_in.nd rfl (Or.inl rfl)) pgs_nil)))
    (pss_one (ps_if (pt_cmpR (eqD K hr.units) (pv 3) (pv 1) (nomark _))
    (pss_one (ps_ret (pv 2)))
    pss_nil)))
  (pss_one (ps_ret pe_non))), ?_⟩), T.g_place_in, F.kp, F.bindsN fun _ _ _ _ _ _ us hl => match us, hl with | [_, _], _ => rfl⟩
  · obtain ⟨α, _, _, _, enc, xs, x, v, u, rfl, _⟩ := h
    rfl
  · obtain ⟨α, dec, beq, lbeq, enc, xs, x, v, u, rfl, hv, hu, he, hsh, hx, k⟩ := h
    obtain ⟨a, ys, rfl, hs, hd⟩ := dt_lst hv
    have hlen := dtAll_len hd
    rw [List.length_map] at hlen
    refine ⟨_, rfl, a, ys, rfl, SqL.of hs, for_it walk_enum (fun i σ H' => (∃ p o, σ = [some (.ref a), some u, p, o]) ∧ Same H H' ∧ x ∉ xs.take i) ⟨⟨_, _, rfl⟩, Same.refl H, by simp⟩ (fun i σ H' _ h => SqL.of (h.2.1 _ _ hs)) ?_ ?_⟩
    · rintro i t σ H1 H2 hi ⟨⟨p, o, rfl⟩, s1, hn⟩ ⟨T', y, z, rfl, hT, rfl, hy, hz⟩
      cases hy
      have s2 : Same H (upd H1 T' (.tup [.int ((i : Nat) : Int), z])) := s1.trans fun b o e => by rw [upd_ne (ne_of_none e hT)]; exact e
      obtain ⟨y, ey, hd1⟩ := dtAll_map hd hz
      refine ⟨T', _, rfl, SqT.of upd_same, rfl, _, _, rfl, _, _, rfl, rfl, ?_⟩
      refine ⟨_, rfl, _, rfl, enc y, enc x, (dt_mono s2 hd1).dp, (dt_mono s2 hu).dp, hsh _, hsh _, _, rfl, ?_⟩
      rw [he]
      refine ite2 (fun c => ?_) (fun c => ?_)
      · have e : y = x := of_decide_eq_true c
        subst e
        refine ⟨_, rfl, ?_⟩
        have ei : xs.idxOf y = i := by
          have hi' : i < xs.length := by omega
          have sp : xs = xs.take i ++ y :: xs.drop (i + 1) := by
            have := List.drop_eq_getElem_cons hi'
            have e2 : xs[i] = y := by
              rw [List.getElem?_eq_getElem hi'] at ey
              exact Option.some.inj ey
            rw [← e2, ← this, List.take_append_drop]
          rw [sp, List.idxOf_append, if_neg (by rw [← sp] at *; exact hn), List.idxOf_cons_self, List.length_take]
          omega
        have q := k _ s2
        rw [ei] at q
        exact q
      · refine ⟨⟨_, _, rfl⟩, s2, ?_⟩
        rw [List.take_add_one, ey]
        intro q
        rcases List.mem_append.mp q with q | q
        · exact hn q
        · have : x = y := by simpa using q
          exact c (decide_eq_true this.symm)
    · rintro σ H1 ⟨_, _, hn⟩
      rw [List.take_of_length_le (by omega)] at hn
      exact absurd hx hn
end
end G84

namespace G84
open PySem PySem.Spec PyProof.Rows L2
/-! W3: mark_of, kinds_of. -/
theorem Ex.ofNew {M : Addr → Prop} {G H H' : Hp} {p : Addr} {o : HO} (e : Same G H) (s : Same H H') (hp : H p = none) (h : H' p = some o) : Ex M G H (upd G p o) H' := (Ex.of_same e s).frz hp h (same_free e hp)
def liftN (f : Nat → Nat) : V → V
  | .int z => .int ((f z.toNat : Nat) : Int)
  | v => v
theorem map_liftN (f : Nat → Nat) (l : List Nat) : (iN l).map (liftN f) = iN (l.map f) := by
  show (l.map fun n : Nat => V.int (n : Int)).map (liftN f) = (l.map f).map fun n : Nat => V.int (n : Int)
  rw [List.map_map, List.map_map]
  refine List.map_congr_left fun n _ => ?_
  rfl
theorem liftN_nat (f : Nat → Nat) (n : Nat) : liftN f (V.int (n : Int)) = V.int ((f n : Nat) : Int) := rfl
theorem of_iN_mem {l : List Nat} {x : V} (h : x ∈ iN l) : ∃ n, n ∈ l ∧ x = V.int (n : Int) := by
  obtain ⟨n, hn, e⟩ := List.mem_map.mp h
  exact ⟨n, hn, e.symm⟩
section
variable {P : Program} {w : World} {K : PySem.W.Frag} {mg : Str → Option Value} {base : Heap}
theorem sz63 {n : Nat} (h : n < 64) : n ≤ sizeLine := Nat.le_of_lt (small1000 (by omega))
/-- what the moves are, by names -/
def spMark : Sp := fun vs H Q _ => ∃ (G : Hp) (r : Rw) (ns : List Nat) (v u n : V), vs = [v, u, n] ∧ Same G H ∧ Dt G v (tN r.1) ∧ Dt G u (tN r.2) ∧ Dt H n (lN ns) ∧ (∀ x ∈ r.1, x < ns.length) ∧ (∀ x ∈ r.2, x < ns.length) ∧ r.1.length < 64 ∧ r.2.length < 64 ∧
  Ret M0 G H Q (rowD (M84.markS ns r))
theorem sc_mark_of : FnScope ["ours", "theirs", "names", "x"] ["ours", "theirs", "names"] (defScope s_mark_of) := ⟨rfl, rfl, rfl, by decide +kernel, rfl, by decide +kernel, by decide +kernel⟩
theorem ok_mark_of (T : TX K mg) : DefOk P w K mg base 1 "mark_of" ["ours", "theirs", "names"] spMark := by
  obtain ⟨fd, F⟩ := T.d_mark_of
  refine ⟨fd, F.ok sc_mark_of (fun vs H Q E h => ?_) (fun cdv A outer s H vs Q E hr h => ⟨_, PSs.nox (pss_one (ps_ret (pe_tup (pa_cons (pe_callTy (tupK K) (by rfl) T.f_tuple (by decide +kernel) (pa_cons (pe_callB (srtO w) (by rfl) T.f_sorted (by decide +kernel) (pa_cons (pe_callTy (setK K w) (by rfl) T.f_set (by decide +kernel) (pa_cons (pe_lc (own := [("x", 3)]) (g := gName 3) (tt := tYes) rfl sc_mark_of.nd (pi_tup (pv 0)) (blkOk_by (own := [("x", 3)]) (N := ["ours", "theirs", "names", "x"]) (sc := defScope s_mark_of) (by decide +kernel)) (fun _ _ _ _ _ => (pg_name (i := 3) sc_mark_of.nd rfl (Or.inl rfl))) (fun _ _ _ _ _ => pts_nil) (fun _ _ _ _ _ => (pe_ix (ixl K) (pv 2) (pv 3) (fun _ _ => rfl)))) pa_nil)) pa_nil)) pa_nil)) (pa_cons (pe_callTy (tupK K) (by rfl) T.f_tuple (by decide +kernel) (pa_cons (pe_callB (srtO w) (by rfl) T.f_sorted (by decide +kernel) (pa_cons (pe_callTy (setK K w) (by rfl) T.f_set (by decide +kernel) (pa_cons (pe_lc (own := [("x", 3)]) (g := gName 3) (tt := tYes) rfl sc_mark_of.nd (pi_tup (pv 1)) (blkOk_by (own := [("x", 3)]) (N := ["ours", "theirs", "names", "x"]) (sc := defScope s_mark_of) (by decide +kernel)) (fun _ _ _ _ _ => (pg_name (i := 3) sc_mark_of.nd rfl (Or.inl rfl))) (fun _ _ _ _ _ => pts_nil) (fun _ _ _ _ _ => (pe_ix (ixl K) (pv 2) (pv 3) (fun _ _ => rfl)))) pa_nil)) pa_nil)) pa_nil)) pa_nil))))), ?_⟩), T.g_mark_of, F.kp, F.bindsN fun _ _ _ _ _ _ us hl => match us, hl with | [_, _, _], _ => rfl⟩
  · obtain ⟨_, _, _, v, u, n, rfl, _⟩ := h
    rfl
  · obtain ⟨G, r, ns, v, u, n, rfl, e, hv, hu, hn, b1, b2, l1, l2, k⟩ := h
    obtain ⟨a, rfl, ha⟩ := dt_tN hv
    obtain ⟨b, rfl, hb⟩ := dt_tN hu
    obtain ⟨c, rfl, hc⟩ := dt_lN hn
    have ha' : SqT K H a (iN r.1) := SqT.of (e _ _ ha)
    have hb' : SqT K H b (iN r.2) := SqT.of (e _ _ hb)
    have elt : ∀ (σ : L2.St) (l : List Nat) (H0 : Hp), σ[2]? = some (some (.ref c)) → Same H H0 → (∀ x ∈ l, x < ns.length) → ∀ (x : V) (H1 : Hp) (Q' : VK), x ∈ iN l → σ[3]? = some (some x) → Same H0 H1 → Q' (liftN (fun i => ns.getD i 0) x) H1 →
        (tOp (rIxL K) (tVar 2) (tVar 3)) σ H1 Q' := fun σ l H0 h2 s0 hl x H1 Q' hx h3 s1 q => by
      obtain ⟨m, hm, rfl⟩ := of_iN_mem hx
      have hlt := hl m hm
      refine ⟨_, h2, _, h3, c, _, _, V.int ((ns.getD m 0 : Nat) : Int), rfl, rfl, SqL.of ((s0.trans s1) _ _ hc), atN (iN_get (getD_at hlt)), ?_⟩
      exact q
    refine ⟨_, rfl, a, rfl, ⟨_, ha'⟩, fun D hD => lcT (liftN fun i => ns.getD i 0) (fun _ => true) ha' hD (by rw [iN_len]; exact sz63 l1) (fun _ => rfl) (fun _ _ _ _ _ q => q) (fun x H1 Q' hx _ s1 q => elt _ r.1 H rfl (Same.refl H) b1 x H1 Q' hx rfl s1 q) ?_⟩
    rw [all_in, map_liftN]
    have s0 : Same H (upd H D (.lst (iN (r.1.map fun i => ns.getD i 0)))) := fun b o e => by rw [upd_ne (ne_of_none e hD)]; exact e
    dsimp only [tCB, tCons, tNil]
    refine set_step (r.1.map fun i => ns.getD i 0) (SqL.of upd_same) (by rw [List.length_map]; omega) fun t1 n1 Ha sa _ ln _ ha1 => ?_
    refine srt_step (r.1.map fun i => ns.getD i 0) ha1 (by rw [List.length_map] at ln; omega) fun t2 Hb sb _ hb1 => ?_
    refine ⟨t2, _, rfl, .inl ⟨SqL.of hb1, fun p hp10 => ?_⟩⟩
    obtain ⟨H1, e1⟩ : ∃ Hc, Hc = upd Hb p (.tup (iN (M84.uniq (r.1.map fun i => ns.getD i 0)))) := ⟨_, rfl⟩
    rw [← e1]
    have s1 : Same _ H1 := (sa.trans sb).trans (fun b o e => by rw [e1, upd_ne (ne_of_none e hp10)]; exact e)
    have hp1 := (sa.trans sb).free hp10
    have hp : H1 p = some (.tup (iN (M84.uniq (r.1.map fun i => ns.getD i 0)))) := by rw [e1, upd_same]
    clear e1
    have s01 := s0.trans s1
    refine ⟨_, rfl, b, rfl, ⟨_, sqt_mono s01 hb'⟩, fun D2 hD2 => lcT (liftN fun i => ns.getD i 0) (fun _ => true) (sqt_mono s01 hb') hD2 (by rw [iN_len]; exact sz63 l2) (fun _ => rfl) (fun _ _ _ _ _ q => q) (fun x H3 Q' hx _ s3 q => elt _ r.2 H1 rfl s01 b2 x H3 Q' hx rfl s3 q) ?_⟩
    rw [all_in, map_liftN]
    have s2 : Same H1 (upd H1 D2 (.lst (iN (r.2.map fun i => ns.getD i 0)))) := fun b o e => by rw [upd_ne (ne_of_none e hD2)]; exact e
    dsimp only [tCB, tCons, tNil]
    refine set_step (r.2.map fun i => ns.getD i 0) (SqL.of upd_same) (by rw [List.length_map]; omega) fun t1 n1 Ha sa _ ln _ ha1 => ?_
    refine srt_step (r.2.map fun i => ns.getD i 0) ha1 (by rw [List.length_map] at ln; omega) fun t2 Hb sb _ hb1 => ?_
    refine ⟨t2, _, rfl, .inl ⟨SqL.of hb1, fun p2 hp20 => ?_⟩⟩
    obtain ⟨H2, e1⟩ : ∃ Hc, Hc = upd Hb p2 (.tup (iN (M84.uniq (r.2.map fun i => ns.getD i 0)))) := ⟨_, rfl⟩
    rw [← e1]
    have s3 : Same _ H2 := (sa.trans sb).trans (fun b o e => by rw [e1, upd_ne (ne_of_none e hp20)]; exact e)
    have hp2 := (sa.trans sb).free hp20
    have hp2' : H2 p2 = some (.tup (iN (M84.uniq (r.2.map fun i => ns.getD i 0)))) := by rw [e1, upd_same]
    clear e1
    refine ⟨by show 2 ≤ sizeLine; decide, fun t ht => ?_⟩
    have s23 := s2.trans s3
    have x1 : Ex M0 G H (upd G p _) H1 := Ex.ofNew e s01 (s0.free hp1) hp
    have x2 : Ex M0 (upd G p _) H1 (upd (upd G p _) p2 _) H2 := Ex.ofNew x1.gh s23 (s2.free hp2) hp2'
    have x3 := (x1.trans x2).new (o := .tup [.ref p, .ref p2]) ht
    refine k _ _ _ x3 (rowD_dt upd_same ?_ ?_)
    · have n1 : p ≠ p2 := ne_of_none hp (s2.free hp2)
      rw [upd_ne (ne_of_none (s23 _ _ hp) ht), upd_ne n1, upd_same]
      rfl
    · rw [upd_ne (ne_of_none hp2' ht), upd_same]
      rfl
end
end G84

namespace G84
open PySem PySem.Spec PyProof.Rows L2
/-! W4: kinds_of, depths_of. -/
theorem any_eqv {α : Type} [DecidableEq α] {enc : α → PyData} (he : ∀ a b, PyData.eqv (enc a) (enc b) = decide (a = b)) (x : α) : ∀ xs : List α, ((xs.map enc).any fun z => PyData.eqv z (enc x)) = decide (x ∈ xs)
  | [] => by simp
  | y :: ys => by
    rw [List.map_cons, List.any_cons, any_eqv he x ys, he]
    by_cases h1 : y = x
    · subst h1; simp
    · have : ¬ x = y := fun e => h1 e.symm
      simp [h1, this]
theorem any_yes {α : Type} [DecidableEq α] {enc : α → PyData} (he : ∀ a b, PyData.eqv (enc a) (enc b) = decide (a = b)) {x : α} {xs : List α} (h : x ∈ xs) : ((xs.map enc).any fun z => PyData.eqv z (enc x)) = true := by
  rw [any_eqv he]
  exact decide_eq_true h
theorem any_no {α : Type} [DecidableEq α] {enc : α → PyData} (he : ∀ a b, PyData.eqv (enc a) (enc b) = decide (a = b)) {x : α} {xs : List α} (h : x ∉ xs) : ((xs.map enc).any fun z => PyData.eqv z (enc x)) = false := by
  rw [any_eqv he]
  exact decide_eq_false h
theorem fold_take {α β : Type} {f : β → α → β} {s : β} {N : List α} {i : Nat} {r : α} (e : N[i]? = some r) : (N.take (i + 1)).foldl f s = f ((N.take i).foldl f s) r := by
  rw [List.take_add_one, e, List.foldl_append] <;> rfl
/-- rows of a size that is looked through with ease -/
structure Sm (N : List Rw) : Prop where
  len : N.length ≤ 200
  l : ∀ r ∈ N, r.1.length < 64
  r : ∀ r ∈ N, r.2.length < 64
theorem kinds_fold (N : List Rw) : ∀ i, i ≤ N.length → ((N.take i).foldl M84.kStep ([], [])).2.length = i ∧ ((N.take i).foldl M84.kStep ([], [])).1.length ≤ i
  | 0, _ => ⟨by simp, by simp⟩
  | i + 1, h => by
    have hi : i < N.length := h
    obtain ⟨h1, h2⟩ := kinds_fold N i (Nat.le_of_lt hi)
    rw [fold_take (List.getElem?_eq_getElem hi)]
    generalize (N.take i).foldl M84.kStep ([], []) = st at h1 h2 ⊢
    obtain ⟨ms, fs⟩ := st
    generalize N[i] = r
    refine ⟨show (fs ++ [_]).length = i + 1 by rw [List.length_append, h1] <;> rfl, ?_⟩
    show (if M84.markS fs r ∈ ms then ms else ms ++ [M84.markS fs r]).length ≤ i + 1
    have h2' : ms.length ≤ i := h2
    split
    · omega
    · rw [List.length_append, List.length_singleton]; omega
section
variable {P : Program} {w : World} {K : PySem.W.Frag} {mg : Str → Option Value} {base : Heap}
/-- between two turns of kinds_of -/
def KInv (G H : Hp) (a l1 l2 : Addr) (st : List Rw × List Nat) (σ : L2.St) (H' : Hp) : Prop := ∃ (G' : Hp) (ws : List V), (∃ x3 x4 x5, σ = [some (.ref a), some (.ref l1), some (.ref l2), x3, x4, x5]) ∧ Ex M0 G H G' H' ∧
  H' l1 = some (.lst ws) ∧ DtAll G' ws (st.1.map rowD) ∧ G' l1 = none ∧ H' l2 = some (.lst (iN st.2)) ∧ G' l2 = none
def spKinds : Sp := fun vs H Q _ => ∃ (G : Hp) (N : List Rw) (v : V), vs = [v] ∧ Same G H ∧ Dt G v (rowsD N) ∧ M84.Val N ∧ Sm N ∧ Ret M0 G H Q (lN (M84.kinds N))
theorem sc_kinds_of : FnScope ["nodes", "marks", "found", "ours", "theirs", "mark"] ["nodes"] (defScope s_kinds_of) := ⟨rfl, rfl, rfl, by decide +kernel, rfl, by decide +kernel, by decide +kernel⟩
theorem ok_kinds_of (T : TX K mg) : DefOk P w K mg base 2 "kinds_of" ["nodes"] spKinds := by
  have D_mark_of := ok_mark_of (P := P) (w := w) (base := base) T
  have D_place_in := ok_place_in (P := P) (w := w) (base := base) T
  obtain ⟨fd, F⟩ := T.d_kinds_of
  refine ⟨fd, F.ok sc_kinds_of (fun vs H Q E h => ?_) (fun cdv A outer s H vs Q E hr h => ⟨_, PSs.nox (pss_cons (ps_set (i := 1) sc_kinds_of.nd rfl (Or.inl rfl) (pe_lst pa_nil))
  (pss_cons (ps_set (i := 2) sc_kinds_of.nd rfl (Or.inl rfl) (pe_lst pa_nil))
  (pss_cons (ps_for PassesOwn.never rfl (pi_list (pv 0)) (pg_tup rfl (pgs_cons (pg_name (i := 3) sc_kinds_of.nd rfl (Or.inl rfl)) (pgs_cons (pg_name (i := 4) sc_kinds_of.nd rfl (Or.inl rfl)) pgs_nil)))
    (pss_cons (ps_set (i := 5) sc_kinds_of.nd rfl (Or.inl rfl) (pe_d D_mark_of (hr.mono (by decide)) (pa_cons (pv 3) (pa_cons (pv 4) (pa_cons (pv 2) pa_nil)))))
  (pss_cons (ps_if (pt_cmpR (ninD K (un65 hr)) (pv 5) (pv 1) (by rfl))
    (pss_one (ps_expr (pe_bm PySem.F.plainAttrs_list PySem.F.slot_list_append PySem.F.type_list_append mt_append (pv 1) (pa_cons (pv 5) pa_nil))))
    pss_nil)
  (pss_one (ps_expr (pe_bm PySem.F.plainAttrs_list PySem.F.slot_list_append PySem.F.type_list_append mt_append (pv 2) (pa_cons (pe_d D_place_in (hr.mono (by decide)) (pa_cons (pv 1) (pa_cons (pv 5) pa_nil))) pa_nil)))))))
  (pss_one (ps_ret (pv 2)))))), ?_⟩), T.g_kinds_of, F.kp, F.bindsN fun _ _ _ _ _ _ us hl => match us, hl with | [_], _ => rfl⟩
  · obtain ⟨_, _, v, rfl, _⟩ := h
    rfl
  · obtain ⟨G, N, v, rfl, e, hv, val, sm, k⟩ := h
    obtain ⟨a, vs, rfl, ha, hd⟩ := dt_lst hv
    have hlen := dtAll_len hd
    rw [List.length_map] at hlen
    refine ⟨Nat.zero_le _, fun l1 n1 => ⟨Nat.zero_le _, fun l2 n2 => ?_⟩⟩
    have x0 : Ex M0 G H G (upd (upd H l1 (.lst [])) l2 (.lst [])) := ((Ex.rfl' e).loc n1).loc n2
    have n12 : l1 ≠ l2 := ne_of_none upd_same n2
    have n2' : H l2 = none := by rw [upd_ne n12.symm] at n2; exact n2
    refine ⟨_, rfl, a, rfl, ⟨_, SqL.of (x0.gh _ _ ha)⟩, for_list (K := K) (a := a) (xs := vs) (fun i => KInv G H a l1 l2 ((N.take i).foldl M84.kStep ([], [])))
      ⟨G, [], ⟨_, _, _, rfl⟩, x0, by rw [upd_ne n12, upd_same], .nil, same_free e n1, upd_same, same_free e n2'⟩ (fun i σ H' _ ⟨G', _, _, x, _⟩ => SqL.of (x.gh _ _ (x.g _ _ ha))) ?_ ?_⟩
    · rintro i x σ H1 hi ⟨G1, ws, ⟨x3, x4, x5, rfl⟩, x1, h1, hws, g1, h2, g2⟩
      obtain ⟨r, er, hr1⟩ := dtAll_map hd hi
      obtain ⟨p, b, c, rfl, hp, hb, hc⟩ := dt_rowD (dt_mono x1.g hr1)
      have hi' : i < N.length := (List.getElem?_eq_some_iff.mp er).1
      obtain ⟨kl1, kl2⟩ := kinds_fold N i (Nat.le_of_lt hi')
      obtain ⟨v1, v2⟩ := val i r er
      have hm : r ∈ N := List.mem_of_getElem? er
      generalize es : (N.take i).foldl M84.kStep ([], []) = st at hws h2 kl1 kl2
      have ef : (N.take (i + 1)).foldl M84.kStep ([], []) = M84.kStep st r := by rw [fold_take er, es]
      rw [ef]
      obtain ⟨ms, fs⟩ := st
      have kl1' : fs.length = i := kl1
      have kl2' : ms.length ≤ i := kl2
      refine ⟨p, _, rfl, SqT.of (x1.gh _ _ hp), rfl, _, _, rfl, _, _, rfl, rfl, ?_⟩
      refine ⟨_, rfl, _, rfl, _, rfl, G1, r, fs, _, _, _, rfl, x1.gh, tN_dt hb, tN_dt hc, lN_dt h2, fun x hx => by rw [kl1]; exact v1 x hx, fun x hx => by rw [kl1]; exact v2 x hx, sm.l r hm, sm.r r hm, fun G2 H2 m x2 hm2 => ?_⟩
      have x12 := x1.trans x2
      have h1' := x2.s _ _ h1 (fun z => z)
      have h2' := x2.s _ _ h2 (fun z => z)
      have g1' := x2.fr l1 (by rw [h1]; exact fun z => nomatch z) g1
      have g2' := x2.fr l2 (by rw [h2]; exact fun z => nomatch z) g2
      have hws' := dtAll_mono x2.g hws
      have lws : ws.length = ms.length := by rw [dtAll_len hws, List.length_map]
      have big : ws.length < sizeLine := small1000 (by have := sm.len; rw [lws]; omega)
      refine ⟨_, rfl, _, rfl, rowD (M84.markS fs r), ms.map rowD, (dt_mono x12.gh hm2).dp, (Dt.lst h1' (dtAll_mono x12.gh hws')).dp, shaped_rowD _, shaped_rowsD _, _, rfl, ?_⟩
      have fin : ∀ (ms' : List Rw) (ws' : List V) (H3 : Hp) (σ' : L2.St), σ' = [some (.ref a), some (.ref l1), some (.ref l2), some (.ref b), some (.ref c), some m] → Ex M0 G H G2 H3 → H3 l1 = some (.lst ws') → DtAll G2 ws' (ms'.map rowD) → H3 l2 = some (.lst (iN fs)) → M84.markS fs r ∈ ms' →
          ms' = (if M84.markS fs r ∈ ms then ms else ms ++ [M84.markS fs r]) → ws'.length < sizeLine →
          (tDrop (tBM K "list" rAppend (tVar 2) (tCons (tCall spPlace [] E0 (tCons (tVar 1) (tCons (tVar 5) tNil))) tNil))) { nx := KInv G H a l1 l2 (M84.kStep (ms, fs) r), rt := Q, bk := fun σ H => (tRet (tVar 2)) { nx := fun _ H' => Q .non H', rt := Q } σ H, ct := KInv G H a l1 l2 (M84.kStep (ms, fs) r) } σ' H3 := by
        rintro ms' ws' H3 σ' rfl x3 k1 k2 k3 k4 k5 k6
        refine ⟨_, rfl, .inl ⟨rfl, _, SqL.of k3⟩, ?_⟩
        refine ⟨_, rfl, _, rfl, Rw, inferInstance, inferInstance, inferInstance, rowD, ms', M84.markS fs r, _, _, rfl, Dt.lst k1 (dtAll_mono x3.gh k2), dt_mono x3.gh hm2, eqv_rowD, shaped_rowD, k4, fun H4 s4 => ?_⟩
        refine ⟨l2, _, _, rfl, rfl, s4 _ _ k3, by rw [iN_len]; exact small1000 (by have := sm.len; omega), ?_⟩
        refine ⟨G2, ws', ⟨_, _, _, rfl⟩, (x3.trans (Ex.of_same x3.gh s4)).mut (.inl n2') g2', by rw [upd_ne n12]; exact s4 _ _ k1, ?_, g1', ?_, g2'⟩
        · show DtAll G2 ws' ((if M84.markS fs r ∈ ms then ms else ms ++ [M84.markS fs r]).map rowD)
          rw [← k5]
          exact k2
        · rw [upd_same]
          show some (HO.lst (iN fs ++ [V.int ((ms'.idxOf (M84.markS fs r) : Nat) : Int)])) = some (HO.lst (iN (fs ++ [(if M84.markS fs r ∈ ms then ms else ms ++ [M84.markS fs r]).idxOf (M84.markS fs r)])))
          rw [← k5, iN_snoc]
      by_cases hmem : M84.markS fs r ∈ ms
      · have ea : ((ms.map rowD).any fun z => PyData.eqv z (rowD (M84.markS fs r))) = true := any_yes eqv_rowD hmem
        rw [ea]
        exact iteF (fin ms ws H2 _ rfl x12 h1' hws' h2' hmem (by rw [if_pos hmem]) big)
      · have ea : ((ms.map rowD).any fun z => PyData.eqv z (rowD (M84.markS fs r))) = false := any_no eqv_rowD hmem
        rw [ea]
        refine iteT ⟨_, rfl, .inl ⟨rfl, _, SqL.of h1'⟩, _, rfl, l1, ws, _, rfl, rfl, h1', big, ?_⟩
        exact fin (ms ++ [M84.markS fs r]) (ws ++ [m]) _ _ rfl (x12.mut (.inl n1) g1') upd_same (by rw [List.map_append]; exact dtAll_snoc hws' hm2) (by rw [upd_ne n12.symm]; exact h2') (by simp) (by rw [if_neg hmem]) (by rw [List.length_append, List.length_singleton, lws]; exact small1000 (by have := sm.len; omega))
    · rintro σ H1 ⟨G1, ws, ⟨x3, x4, x5, rfl⟩, x1, h1, hws, g1, h2, g2⟩
      rw [List.take_of_length_le (by omega)] at h2
      exact ⟨_, rfl, k _ _ _ (x1.frz n2' h2 g2) (lN_dt upd_same)⟩
end
end G84

namespace G84
open PySem PySem.Spec PyProof.Rows L2
/-! W5: depths_of. -/
theorem cat_step {K : PySem.W.Frag} {H : Hp} {b c : Addr} {xs ys : List V} {Q : VK} (hb : H b = some (.tup xs)) (hc : H c = some (.tup ys)) (hl : xs.length + ys.length ≤ sizeLine) (q : ∀ p H', Same H H' → H' p = some (.tup (xs ++ ys)) → Q (.ref p) H') : rCatA K (.ref b) (.ref c) H Q := by
  refine ⟨b, c, xs, ys, rfl, rfl, SqT.of hb, SqT.of hc, hl, fun e => ?_, fun _ e => ?_, fun _ _ p hp => ?_⟩
  · subst e
    exact q c H (Same.refl H) hc
  · subst e
    exact q b H (Same.refl H) (by rw [List.append_nil]; exact hb)
  · exact q p _ (fun b o e => by rw [upd_ne (ne_of_none e hp)]; exact e) upd_same
theorem max_int : ∀ (l : List Nat) (m : Int), m ∈ (-1 : Int) :: l.map (fun n : Nat => (n : Int)) → (∀ y, y ∈ (-1 : Int) :: l.map (fun n : Nat => (n : Int)) → y ≤ m) → 1 + m = ((M84.maxL l : Nat) : Int) := by
  have up : ∀ (l : List Nat) (x : Nat), x ∈ l → x + 1 ≤ M84.maxL l := by
    intro l
    induction l with
    | nil => intro x h; simp at h
    | cons y ys ih =>
      intro x h
      show x + 1 ≤ max (y + 1) (M84.maxL ys)
      rcases List.mem_cons.mp h with e | h
      · subst e; omega
      · have := ih x h; omega
  have at_ : ∀ l : List Nat, M84.maxL l = 0 ∨ ∃ x ∈ l, M84.maxL l = x + 1 := by
    intro l
    induction l with
    | nil => exact .inl rfl
    | cons y ys ih =>
      right
      have e : M84.maxL (y :: ys) = max (y + 1) (M84.maxL ys) := rfl
      rcases ih with h | ⟨x, hx, h⟩
      · exact ⟨y, List.mem_cons_self .., by omega⟩
      · by_cases hc : M84.maxL ys ≤ y + 1
        · exact ⟨y, List.mem_cons_self .., by omega⟩
        · exact ⟨x, List.mem_cons_of_mem _ hx, by omega⟩
  intro l m hm hle
  have h0 := hle (-1) (List.mem_cons_self ..)
  rcases at_ l with h | ⟨x, hx, h⟩
  · rcases List.mem_cons.mp hm with e | hm
    · omega
    · obtain ⟨n, hn, e⟩ := List.mem_map.mp hm
      have := up l n hn
      omega
  · have h1 := hle (x : Int) (List.mem_cons_of_mem _ (List.mem_map.mpr ⟨x, hx, rfl⟩))
    rcases List.mem_cons.mp hm with e | hm
    · omega
    · obtain ⟨n, hn, e⟩ := List.mem_map.mp hm
      have := up l n hn
      omega
theorem depths_fold (N : List Rw) : ∀ i, i ≤ N.length → ((N.take i).foldl M84.dStep []).length = i
  | 0, _ => by simp
  | i + 1, h => by
    have hi : i < N.length := h
    have h1 := depths_fold N i (Nat.le_of_lt hi)
    rw [fold_take (List.getElem?_eq_getElem hi)]
    generalize (N.take i).foldl M84.dStep [] = st at h1 ⊢
    unfold M84.dStep
    rw [List.length_append, h1] <;> rfl
section
variable {P : Program} {w : World} {K : PySem.W.Frag} {mg : Str → Option Value} {base : Heap}
def DInv (G H : Hp) (a l : Addr) (D : List Nat) (σ : L2.St) (H' : Hp) : Prop := (∃ x3 x4 x5, σ = [some (.ref a), some (.ref l), x3, x4, x5]) ∧ Ex M0 G H G H' ∧ H' l = some (.lst (iN D))
def spDepths : Sp := fun vs H Q _ => ∃ (G : Hp) (N : List Rw) (v : V), vs = [v] ∧ Same G H ∧ Dt G v (rowsD N) ∧ M84.Val N ∧ Sm N ∧ Ret M0 G H Q (lN (M84.depths N))
theorem sc_depths_of : FnScope ["nodes", "found", "ours", "theirs", "x"] ["nodes"] (defScope s_depths_of) := ⟨rfl, rfl, rfl, by decide +kernel, rfl, by decide +kernel, by decide +kernel⟩
theorem ok_depths_of (T : TX K mg) : DefOk P w K mg base 1 "depths_of" ["nodes"] spDepths := by
  obtain ⟨fd, F⟩ := T.d_depths_of
  refine ⟨fd, F.ok sc_depths_of (fun vs H Q E h => ?_) (fun cdv A outer s H vs Q E hr h => ⟨_, PSs.nox (pss_cons (ps_set (i := 1) sc_depths_of.nd rfl (Or.inr rfl) (pe_lst pa_nil))
  (pss_cons (ps_for PassesOwn.never rfl (pi_list (pv 0)) (pg_tup rfl (pgs_cons (pg_name (i := 2) sc_depths_of.nd rfl (Or.inl rfl)) (pgs_cons (pg_name (i := 3) sc_depths_of.nd rfl (Or.inl rfl)) pgs_nil)))
    (pss_one (ps_expr (pe_bm PySem.F.plainAttrs_list PySem.F.slot_list_append PySem.F.type_list_append mt_append (pv 1) (pa_cons (pe_op op_add pe_int (pe_callB (maxK K) (by rfl) T.f_max (by decide +kernel) (pa_cons (pe_op op_cat (pe_lst (pa_cons (pe_un un_neg pe_int) pa_nil)) (pe_lc (own := [("x", 4)]) (g := gName 4) (tt := tYes) rfl sc_depths_of.nd (pi_tup (pe_op (catT K) (pv 2) (pv 3))) (blkOk_by (own := [("x", 4)]) (N := ["nodes", "found", "ours", "theirs", "x"]) (sc := defScope s_depths_of) (by decide +kernel)) (fun _ _ _ _ _ => (pg_name (i := 4) sc_depths_of.nd rfl (Or.inl rfl))) (fun _ _ _ _ _ => pts_nil) (fun _ _ _ _ _ => (pe_ix (ixl K) (pv 1) (pv 4) (fun _ _ => rfl))))) pa_nil))) pa_nil)))))
  (pss_one (ps_ret (pv 1))))), ?_⟩), T.g_depths_of, F.kp, F.bindsN fun _ _ _ _ _ _ us hl => match us, hl with | [_], _ => rfl⟩
  · obtain ⟨_, _, v, rfl, _⟩ := h
    rfl
  · obtain ⟨G, N, v, rfl, e, hv, val, sm, k⟩ := h
    obtain ⟨a, vs, rfl, ha, hd⟩ := dt_lst hv
    have hlen := dtAll_len hd
    rw [List.length_map] at hlen
    refine ⟨Nat.zero_le _, fun l1 n1 => ?_⟩
    have x0 : Ex M0 G H G (upd H l1 (.lst [])) := (Ex.rfl' e).loc n1
    refine ⟨_, rfl, a, rfl, ⟨_, SqL.of (x0.gh _ _ ha)⟩, for_list (K := K) (a := a) (xs := vs) (fun i => DInv G H a l1 ((N.take i).foldl M84.dStep [])) ⟨⟨_, _, _, rfl⟩, x0, upd_same⟩ (fun i σ H' _ ⟨_, x, _⟩ => SqL.of (x.gh _ _ ha)) ?_ ?_⟩
    · rintro i x σ H1 hi ⟨⟨x3, x4, x5, rfl⟩, x1, h1⟩
      obtain ⟨r, er, hr1⟩ := dtAll_map hd hi
      obtain ⟨p, b, c, rfl, hp, hb, hc⟩ := dt_rowD hr1
      have hi' : i < N.length := (List.getElem?_eq_some_iff.mp er).1
      have kl := depths_fold N i (Nat.le_of_lt hi')
      obtain ⟨v1, v2⟩ := val i r er
      have hm : r ∈ N := List.mem_of_getElem? er
      rw [fold_take er]
      generalize (N.take i).foldl M84.dStep [] = D at h1 kl
      have b1 := sm.l r hm
      have b2 := sm.r r hm
      have big : D.length < sizeLine := small1000 (by have := sm.len; omega)
      refine ⟨p, _, rfl, SqT.of (x1.gh _ _ hp), rfl, _, _, rfl, _, _, rfl, rfl, ?_⟩
      refine ⟨_, rfl, .inl ⟨rfl, _, SqL.of h1⟩, ?_⟩
      refine ⟨1, rfl, (by show 1 ≤ sizeLine; decide), fun l2 n2 => ?_⟩
      have s2 : Same H1 (upd H1 l2 (.lst [.int (-1)])) := fun b o e => by rw [upd_ne (ne_of_none e n2)]; exact e
      refine ⟨_, rfl, _, rfl, cat_step (s2 _ _ (x1.gh _ _ hb)) (s2 _ _ (x1.gh _ _ hc)) (by rw [iN_len, iN_len]; exact Nat.le_of_lt (small1000 (by omega))) fun q H2 s3 hq => ?_⟩
      have el : iN r.1 ++ iN r.2 = iN (r.1 ++ r.2) := by
        show _ = (r.1 ++ r.2).map (fun n : Nat => V.int (n : Int))
        rw [List.map_append]
      rw [el] at hq
      have s12 := s2.trans s3
      refine ⟨q, rfl, ⟨_, SqT.of hq⟩, fun D2 n3 => lcT (liftN fun i => D.getD i 0) (fun _ => true) (SqT.of (K := K) hq) n3 (by rw [iN_len, List.length_append]; exact Nat.le_of_lt (small1000 (by omega))) (fun _ => rfl) (fun _ _ _ _ _ q => q) (fun x H3 Q' hx _ s4 q => ?_) ?_⟩
      · obtain ⟨m, hm, rfl⟩ := of_iN_mem hx
        have hlt : m < D.length := by
          rw [kl]
          rcases List.mem_append.mp hm with z | z
          · exact v1 m z
          · exact v2 m z
        exact ⟨_, rfl, _, rfl, l1, _, _, _, rfl, rfl, SqL.of ((s12.trans s4) _ _ h1), atN (iN_get (getD_at hlt)), q⟩
      · rw [all_in, map_liftN]
        have s4 : Same H2 (upd H2 D2 (.lst (iN ((r.1 ++ r.2).map fun i => D.getD i 0)))) := fun b o e => by rw [upd_ne (ne_of_none e n3)]; exact e
        have hl2 := (s3.trans s4) _ _ (upd_same (H := H1) (a := l2) (o := .lst [.int (-1)]))
        refine ⟨l2, D2, _, _, rfl, rfl, hl2, upd_same, (by rw [iN_len, List.length_map, List.length_append]; exact Nat.le_of_lt (small1000 (by simp; omega))), fun t n5 => ?_⟩
        refine ⟨t, (-1 : Int) :: ((r.1 ++ r.2).map fun i => D.getD i 0).map (fun n : Nat => (n : Int)), rfl, SqL.of (upd_same.trans (congrArg (fun z => some (HO.lst z)) ?_)), by simp, fun m hm hle => ?_⟩
        · rw [List.map_cons, ← ints_nat] <;> rfl
        · have em := max_int _ m hm hle
          refine ⟨_, _, rfl, rfl, l1, _, _, rfl, rfl, ?_, by rw [iN_len]; exact big, ?_⟩
          · rw [upd_ne (ne_of_none ((s12.trans s4) _ _ h1) n5)]
            exact (s12.trans s4) _ _ h1
          · have x5 : Ex M0 G H G (upd (upd H2 D2 (.lst (iN ((r.1 ++ r.2).map fun i => D.getD i 0)))) t (.lst ([.int (-1)] ++ iN ((r.1 ++ r.2).map fun i => D.getD i 0)))) := (x1.trans (Ex.of_same x1.gh (s12.trans s4))).loc n5
            refine ⟨⟨_, _, _, rfl⟩, x5.mut (.inl n1) (same_free e n1), ?_⟩
            rw [upd_same]
            unfold M84.dStep
            rw [iN_snoc, ← em]
    · rintro σ H1 ⟨⟨x3, x4, x5, rfl⟩, x1, h1⟩
      rw [List.take_of_length_le (by omega)] at h1
      exact ⟨_, rfl, k _ _ _ (x1.frz n1 h1 (same_free e n1)) (lN_dt upd_same)⟩
end
end G84

namespace G84
open PySem PySem.Spec PyProof.Rows L2
/-! W6: comprehensions whose elements make things; marks_of. -/
theorem eqv_nD (a b : Nat) : PyData.eqv (nD a) (nD b) = decide (a = b) := by
  show PyData.eqv (.int (a : Int)) (.int (b : Int)) = _
  rw [PyData.eqv]
  by_cases h : a = b
  · subst h; simp
  · rw [decide_eq_false h]
    exact beq_eq_false_iff_ne.mpr (by omega)
/-- each stands for each -/
def RL {α : Type} (R : Hp → V → α → Prop) (G : Hp) (vs : List V) (as : List α) : Prop := vs.length = as.length ∧ ∀ (j : Nat) v a, vs[j]? = some v → as[j]? = some a → R G v a
theorem RL.nil {α : Type} {R : Hp → V → α → Prop} {G : Hp} : RL R G [] [] := ⟨rfl, fun j v a h => by simp at h⟩
theorem RL.snoc {α : Type} {R : Hp → V → α → Prop} {G : Hp} {vs : List V} {as : List α} {v : V} {a : α} (h : RL R G vs as) (r : R G v a) : RL R G (vs ++ [v]) (as ++ [a]) := by
  refine ⟨by rw [List.length_append, List.length_append, h.1] <;> rfl, fun j u b hu hb => ?_⟩
  rcases M84.snoc_some hu with q | ⟨e, rfl⟩
  · rcases M84.snoc_some hb with q2 | ⟨e2, _⟩
    · exact h.2 j u b q q2
    · have := M84.lt_of_some q
      have := h.1
      omega
  · rcases M84.snoc_some hb with q2 | ⟨_, rfl⟩
    · have := M84.lt_of_some q2
      have := h.1
      omega
    · exact r
theorem RL.mono {α : Type} {R : Hp → V → α → Prop} (hR : ∀ G G' v a, Same G G' → R G v a → R G' v a) {G G' : Hp} {vs : List V} {as : List α} (e : Same G G') (h : RL R G vs as) : RL R G' vs as := ⟨h.1, fun j v a x y => hR _ _ _ _ e (h.2 j v a x y)⟩
theorem RL.get {α : Type} {R : Hp → V → α → Prop} {G : Hp} {vs : List V} {as : List α} (h : RL R G vs as) {j : Nat} {a : α} (e : as[j]? = some a) : ∃ v, vs[j]? = some v ∧ R G v a := by
  obtain ⟨v, ev⟩ := M84.some_at (l := vs) (i := j) (by rw [h.1]; exact M84.lt_of_some e)
  exact ⟨v, ev, h.2 j v a ev e⟩
theorem RL.get' {α : Type} {R : Hp → V → α → Prop} {G : Hp} {vs : List V} {as : List α} (h : RL R G vs as) {j : Nat} {v : V} (e : vs[j]? = some v) : ∃ a, as[j]? = some a ∧ R G v a := by
  obtain ⟨a, ea⟩ := M84.some_at (l := as) (i := j) (by rw [← h.1]; exact M84.lt_of_some e)
  exact ⟨a, ea, h.2 j v a e ea⟩
theorem RL.dtAll {α : Type} {enc : α → PyData} {G : Hp} : ∀ {vs : List V} {as : List α}, RL (fun G v a => Dt G v (enc a)) G vs as → DtAll G vs (as.map enc)
  | [], [], _ => .nil
  | v :: vs, a :: as, h => .cons (h.2 0 v a rfl rfl) (RL.dtAll ⟨Nat.succ.inj h.1, fun j u b x y => h.2 (j + 1) u b x y⟩)
  | [], a :: as, h => by cases h.1
  | v :: vs, [], h => by cases h.1
theorem RL.iN {G : Hp} : ∀ {vs : List V} {as : List Nat}, RL (fun _ v (n : Nat) => v = V.int (n : Int)) G vs as → vs = G84.iN as
  | [], [], _ => rfl
  | v :: vs, a :: as, h => by
    have e1 := h.2 0 v a rfl rfl
    have e2 := RL.iN (G := G) (vs := vs) (as := as) ⟨Nat.succ.inj h.1, fun j u b x y => h.2 (j + 1) u b x y⟩
    rw [e1, e2] <;> rfl
  | [], a :: as, h => by cases h.1
  | v :: vs, [], h => by cases h.1
theorem take_snoc {α : Type} {l : List α} {j : Nat} {a : α} (e : l[j]? = some a) : l.take (j + 1) = l.take j ++ [a] := by rw [List.take_add_one, e] <;> rfl
section
variable {G : Hp} {i : Nat} {te : TE} {vs : List Nat} {σ : L2.St} {H1 : Hp} {D : Addr} {Qd : Hp → Prop}
theorem lcR {α : Type} {R : Hp → V → α → Prop} (hR : ∀ G G' v a, Same G G' → R G v a → R G' v a) {J : It} {Gp : Hp → Prop} {xs : List V} (w : Walk J xs.length Gp (YAt xs)) (as : List α) (hl : as.length = xs.length) (hz : xs.length ≤ sizeLine) (e : Same G H1) (hD : H1 D = none) (hG : ∀ H', Same H1 H' → Gp H')
    (hw : ∀ x, wipe ((wipe σ vs).set i (some x)) vs = wipe σ vs)
    (el : ∀ (j : Nat) x a G' H' Q, xs[j]? = some x → as[j]? = some a → Ex M0 G H1 G' H' → (∀ G'' H'' v, Ex M0 G' H' G'' H'' → R G'' v a → Q v H'') → te ((wipe σ vs).set i (some x)) H' Q)
    (hd : ∀ G' H' ws, Ex M0 G H1 G' H' → G' D = none → H' D = some (.lst ws) → RL R G' ws as → Qd H') :
    ∃ W : Nat → Nat → Hp → Prop, (∃ m, W 0 m (upd H1 D (.lst []))) ∧ ∀ j m H, W j m H →
      (J.stop j H ∧ Qd H) ∨ (J.go j H ∧ ∃ Nx : Hp → Prop, (∀ H', Nx H' → ∃ m', m' < m ∧ W (j + 1) m' H') ∧ ∀ x H', J.yld j H x H' → gName i x (wipe σ vs) H' fun σ2 H2 => wipe σ2 vs = wipe σ vs ∧ tYes σ2 H2 fun b H3 =>
        if b = true then te σ2 H3 fun y H4 => ∃ acc, H4 D = some (.lst acc) ∧ acc.length < sizeLine ∧ Nx (upd H4 D (.lst (acc ++ [y]))) else Nx H3) := by
  refine lc_it w (fun j H' => ∃ G' ws, Ex M0 G H1 G' H' ∧ G' D = none ∧ H' D = some (.lst ws) ∧ RL R G' ws (as.take j)) ⟨G, [], (Ex.rfl' e).loc hD, same_free e hD, upd_same, RL.nil⟩ (fun j H' _ ⟨_, _, x, _⟩ => hG _ x.same) (fun j x H0 H' hj ⟨G', ws, x1, gd, hd', rl⟩ y => ?_) (fun H' ⟨G', ws, x1, gd, hd', rl⟩ => ?_)
  · obtain ⟨rfl, ex⟩ := y
    obtain ⟨a, ea⟩ := M84.some_at (l := as) (i := j) (by rw [hl]; exact hj)
    refine ⟨hw x, ?_⟩
    unfold tYes
    simp only [↓reduceIte]
    refine el j x a G' H' _ ex ea x1 fun G'' H'' v x2 r => ⟨ws, x2.s _ _ hd' fun z => z, ?_, ?_⟩
    · rw [rl.1, List.length_take]; omega
    · have g2 := x2.fr D (by rw [hd']; exact fun z => nomatch z) gd
      refine ⟨G'', ws ++ [v], (x1.trans x2).mut (.inl hD) g2, g2, upd_same, ?_⟩
      rw [take_snoc ea]
      exact (rl.mono hR x2.g).snoc r
  · rw [← hl, List.take_length] at rl
    exact hd G' H' ws x1 gd hd' rl
end
theorem same_upd {G : Hp} {p : Addr} {o : HO} (g : G p = none) : Same G (upd G p o) := fun b u e => by rw [upd_ne (ne_of_none e g)]; exact e
theorem dec_nat (a b : Nat) : decide (V.int ((a : Nat) : Int) = V.int (0 + ((b : Nat) : Int))) = decide (a = b) := by
  rw [dec_int]
  by_cases h : a = b
  · subst h; simp
  · rw [decide_eq_false h]
    exact beq_eq_false_iff_ne.mpr (by omega)
theorem max_nat {l : List Nat} {m : Int} (hm : m ∈ l.map (fun n : Nat => (n : Int))) (hle : ∀ y, y ∈ l.map (fun n : Nat => (n : Int)) → y ≤ m) : m + 1 = ((M84.maxL l : Nat) : Int) := by
  have h1 : 0 ≤ m := by
    obtain ⟨n, _, e⟩ := List.mem_map.mp hm
    omega
  have := max_int l m (List.mem_cons_of_mem _ hm) fun y hy => by
    rcases List.mem_cons.mp hy with e | h
    · omega
    · exact hle y h
  omega
theorem cut_to (l : List V) (k : Nat) : cutV l none (some (k : Int)) = l.take k := by
  unfold cutV
  rw [HT.sIx_none, HT.sIx_nat, List.drop_zero, Nat.sub_zero]
  by_cases h : k ≤ l.length
  · rw [Nat.min_eq_left h]
  · rw [Nat.min_eq_right (by omega), List.take_length, List.take_of_length_le (by omega)]
def liftP (p : Nat → Bool) : V → Bool
  | .int z => p z.toNat
  | _ => false
theorem filt_iN (p : Nat → Bool) (l : List Nat) : (iN l).filter (liftP p) = iN (l.filter p) := by
  show (l.map fun n : Nat => V.int (n : Int)).filter (liftP p) = (l.filter p).map fun n : Nat => V.int (n : Int)
  rw [List.filter_map]
  rfl
/-- a mark with its kind -/
def mkD (m : M84.Mk) : PyData := .tuple [rowD m.1, nD m.2]
abbrev leM : M84.Mk → M84.Mk → Bool := PySem.W.dataLe false mkD
theorem alikeAll_nD : ∀ a b : List Nat, PySem.W.alikeAll (a.map nD) (b.map nD) = true
  | [], _ => by simp [PySem.W.alikeAll]
  | _ :: _, [] => by simp [PySem.W.alikeAll]
  | a :: as, b :: bs => by simp [PySem.W.alikeAll, nD, PySem.W.alike, alikeAll_nD as bs]
theorem alike_rowD (a b : Rw) : PySem.W.alike (rowD a) (rowD b) = true := by simp [rowD, tN, PySem.W.alike, PySem.W.alikeAll, alikeAll_nD]
theorem alike_mkD (a b : M84.Mk) : PySem.W.alike (mkD a) (mkD b) = true := by
  show PySem.W.alike (.tuple [rowD a.1, nD a.2]) (.tuple [rowD b.1, nD b.2]) = true
  simp only [PySem.W.alike, PySem.W.alikeAll, alike_rowD, nD, Bool.and_self]
theorem depth_mkD (a : M84.Mk) : (mkD a).depth ≤ 8 := by
  simp only [mkD, PyData.depth, PyData.depthAll, depth_rowD, nD]
  omega
theorem each_dt {α : Type} {enc : α → PyData} {K : PySem.W.Frag} {G H : Hp} (e : Same G H) : ∀ {xs : List V} {bs : List α}, DtAll G xs (bs.map enc) → PySem.W.EachIs (fun x b => Dp K H x (enc b) ∧ Dt G x (enc b)) xs bs
  | _, [], .nil => .nil
  | _, b :: bs, .cons h t => .cons ⟨(dt_mono e h).dp, h⟩ (each_dt e t)
theorem dt_each {α : Type} {enc : α → PyData} {G : Hp} : ∀ {xs : List V} {bs : List α}, PySem.W.EachIs (fun x b => Dt G x (enc b)) xs bs → DtAll G xs (bs.map enc)
  | _, _, .nil => .nil
  | _, _, .cons h t => .cons h (dt_each t)
section
variable {P : Program} {w : World} {K : PySem.W.Frag} {mg : Str → Option Value} {base : Heap}
/-- between two levels -/
def MOut (G H : Hp) (a k h f o d : Addr) (s : List Nat × List Rw) (σ : L2.St) (H' : Hp) : Prop := ∃ (G' : Hp) (ws : List V), (∃ x6 x7 x8 x9 x10 x11 x12 x13 x14, σ = [some (.ref a), some (.ref k), some (.ref h), some (.ref f), some (.ref o), some (.ref d), x6, x7, x8, x9, x10, x11, x12, x13, x14]) ∧ Ex M0 G H G' H' ∧
  H' o = some (.lst (iN s.1)) ∧ G' o = none ∧ H' d = some (.lst ws) ∧ DtAll G' ws (s.2.map rowD) ∧ G' d = none
/-- between two marks of the level, in order -/
def MSt (G H : Hp) (a k h f o d q : Addr) (ys : List V) (S : List M84.Mk) (s : List Nat × List Rw) (σ : L2.St) (H' : Hp) : Prop := ∃ (G' : Hp) (ws : List V), (∃ x6 x7 x8 x9 x10 x11 x12 x13 x14, σ = [some (.ref a), some (.ref k), some (.ref h), some (.ref f), some (.ref o), some (.ref d), x6, x7, x8, x9, x10, x11, x12, x13, x14]) ∧ Ex M0 G H G' H' ∧
  H' o = some (.lst (iN s.1)) ∧ G' o = none ∧ H' d = some (.lst ws) ∧ DtAll G' ws (s.2.map rowD) ∧ G' d = none ∧ H' q = some (.lst ys) ∧ DtAll G' ys (S.map mkD)
/-- between two rows of a level -/
def MIn (G H : Hp) (a k h f o d l e : Addr) (ix : List Nat) (hh : Int) (ms : List M84.Mk) (σ : L2.St) (H' : Hp) : Prop := ∃ (G' : Hp) (ws : List V), (∃ x8 x9 x10 x11 x12 x13 x14, σ = [some (.ref a), some (.ref k), some (.ref h), some (.ref f), some (.ref o), some (.ref d), some (.int hh), some (.ref l), x8, x9, x10, x11, x12, x13, x14]) ∧ Ex M0 G H G' H' ∧
  H' l = some (.lst ws) ∧ DtAll G' ws (ms.map mkD) ∧ G' l = none ∧ H' e = some (.lst (iN ix))
def spMarks : Sp := fun vs H Q _ => ∃ (G : Hp) (N : List Rw) (v : V), vs = [v] ∧ Same G H ∧ Dt G v (rowsD N) ∧ M84.Val N ∧ N ≠ [] ∧ Sm N ∧ Ret M0 G H Q (rowsD (M84.marks leM N))
theorem sc_marks_of : FnScope ["nodes", "kinds", "heights", "firsts", "order", "found", "height", "level", "k", "mine", "others", "mark", "kind", "first", "x"] ["nodes"] (defScope s_marks_of) := ⟨rfl, rfl, rfl, by decide +kernel, rfl, by decide +kernel, by decide +kernel⟩
theorem ok_marks_of (T : TX K mg) : DefOk P w K mg base 3 "marks_of" ["nodes"] spMarks := by
  have D_kinds_of := ok_kinds_of (P := P) (w := w) (base := base) T
  have D_depths_of := ok_depths_of (P := P) (w := w) (base := base) T
  have D_place_in := ok_place_in (P := P) (w := w) (base := base) T
  obtain ⟨fd, F⟩ := T.d_marks_of
  refine ⟨fd, F.ok sc_marks_of (fun vs H Q E h => ?_) (fun cdv A outer s H vs Q E hr h => ⟨_, PSs.nox (pss_cons (ps_asg (pe_tup (pa_cons (pe_d D_kinds_of (hr.mono (by decide)) (pa_cons (pv 0) pa_nil)) (pa_cons (pe_d D_depths_of (hr.mono (by decide)) (pa_cons (pv 0) pa_nil)) pa_nil))) (pg_tup rfl (pgs_cons (pg_name (i := 1) sc_marks_of.nd rfl (Or.inr rfl)) (pgs_cons (pg_name (i := 2) sc_marks_of.nd rfl (Or.inr rfl)) pgs_nil))))
  (pss_cons (ps_setLc (i := 3) (own := [("k", 8), ("kind", 12)]) (g := gTup K 2 (gCons (gName 8) (gCons (gName 12) gNil))) rfl sc_marks_of.nd rfl rfl (sw_true rfl rfl rfl (by decide +kernel)) (pi_enum (by rfl) T.f_enumerate (pa_cons (pv 1) pa_nil)) (blkOk_by (own := [("k", 8), ("kind", 12)]) (N := ["nodes", "kinds", "heights", "firsts", "order", "found", "height", "level", "k", "mine", "others", "mark", "kind", "first", "x"]) (sc := defScope s_marks_of) (by decide +kernel)) (fun _ _ _ _ _ => (pg_tup rfl (pgs_cons (pg_name (i := 8) sc_marks_of.nd rfl (Or.inl rfl)) (pgs_cons (pg_name (i := 12) sc_marks_of.nd rfl (Or.inl rfl)) pgs_nil)))) (fun _ _ _ _ _ => pts_one (pt_cmpR (ninD K (un65 hr)) (pv 12) (pe_slice (slL K) (pv 1) po_none (po_some (pv 8))) (by rfl))) (fun _ _ _ _ _ => (pv 8)))
  (pss_cons (ps_set (i := 4) sc_marks_of.nd rfl (Or.inr rfl) (pe_lst pa_nil))
  (pss_cons (ps_set (i := 5) sc_marks_of.nd rfl (Or.inl rfl) (pe_lst pa_nil))
  (pss_cons (ps_for PassesOwn.never rfl (pi_range1 rfl T.f_range (pa_cons (pe_op op_add (pe_callB (maxK K) (by rfl) T.f_max (by decide +kernel) (pa_cons (pv 2) pa_nil)) pe_int) pa_nil)) (pg_name (i := 6) sc_marks_of.nd rfl (Or.inr rfl))
    (pss_cons (ps_set (i := 7) sc_marks_of.nd rfl (Or.inl rfl) (pe_lst pa_nil))
  (pss_cons (ps_for PassesOwn.never rfl (pi_list (pe_lc (own := [("first", 13)]) (g := gName 13) rfl sc_marks_of.nd (pi_list (pv 3)) (blkOk_by (own := [("first", 13)]) (N := ["nodes", "kinds", "heights", "firsts", "order", "found", "height", "level", "k", "mine", "others", "mark", "kind", "first", "x"]) (sc := defScope s_marks_of) (by decide +kernel)) (fun _ _ _ _ _ => (pg_name (i := 13) sc_marks_of.nd rfl (Or.inl rfl))) (fun _ _ _ _ _ => pts_one (pt_cmpR op_eq (pe_ix (ixl K) (pv 2) (pv 13) (fun _ _ => rfl)) (pv 6) (nomark _))) (fun _ _ _ _ _ => (pv 13)))) (pg_name (i := 8) sc_marks_of.nd rfl (Or.inl rfl))
    (pss_cons (ps_setLc (i := 9) (own := [("x", 14)]) (g := gName 14) (tt := tYes) rfl sc_marks_of.nd rfl rfl (sw_true rfl rfl rfl (by decide +kernel)) (pi_tup (pe_ix (ixt K) (pe_ix (ixl K) (pv 0) (pv 8) (fun _ _ => rfl)) pe_int (fun _ _ => rfl))) (blkOk_by (own := [("x", 14)]) (N := ["nodes", "kinds", "heights", "firsts", "order", "found", "height", "level", "k", "mine", "others", "mark", "kind", "first", "x"]) (sc := defScope s_marks_of) (by decide +kernel)) (fun _ _ _ _ _ => (pg_name (i := 14) sc_marks_of.nd rfl (Or.inl rfl))) (fun _ _ _ _ _ => pts_nil) (fun _ _ _ _ _ => (pe_d D_place_in (hr.mono (by decide)) (pa_cons (pv 4) (pa_cons (pe_ix (ixl K) (pv 1) (pv 14) (fun _ _ => rfl)) pa_nil)))))
  (pss_cons (ps_setLc (i := 10) (own := [("x", 14)]) (g := gName 14) (tt := tYes) rfl sc_marks_of.nd rfl rfl (sw_true rfl rfl rfl (by decide +kernel)) (pi_tup (pe_ix (ixt K) (pe_ix (ixl K) (pv 0) (pv 8) (fun _ _ => rfl)) pe_int (fun _ _ => rfl))) (blkOk_by (own := [("x", 14)]) (N := ["nodes", "kinds", "heights", "firsts", "order", "found", "height", "level", "k", "mine", "others", "mark", "kind", "first", "x"]) (sc := defScope s_marks_of) (by decide +kernel)) (fun _ _ _ _ _ => (pg_name (i := 14) sc_marks_of.nd rfl (Or.inl rfl))) (fun _ _ _ _ _ => pts_nil) (fun _ _ _ _ _ => (pe_d D_place_in (hr.mono (by decide)) (pa_cons (pv 4) (pa_cons (pe_ix (ixl K) (pv 1) (pv 14) (fun _ _ => rfl)) pa_nil)))))
  (pss_one (ps_expr (pe_bm PySem.F.plainAttrs_list PySem.F.slot_list_append PySem.F.type_list_append mt_append (pv 7) (pa_cons (pe_tup (pa_cons (pe_tup (pa_cons (pe_callTy (tupK K) (by rfl) T.f_tuple (by decide +kernel) (pa_cons (pe_callB (srtO w) (by rfl) T.f_sorted (by decide +kernel) (pa_cons (pe_callTy (setK K w) (by rfl) T.f_set (by decide +kernel) (pa_cons (pv 9) pa_nil)) pa_nil)) pa_nil)) (pa_cons (pe_callTy (tupK K) (by rfl) T.f_tuple (by decide +kernel) (pa_cons (pe_callB (srtO w) (by rfl) T.f_sorted (by decide +kernel) (pa_cons (pe_callTy (setK K w) (by rfl) T.f_set (by decide +kernel) (pa_cons (pv 10) pa_nil)) pa_nil)) pa_nil)) pa_nil))) (pa_cons (pe_ix (ixl K) (pv 1) (pv 8) (fun _ _ => rfl)) pa_nil))) pa_nil)))))))
  (pss_one (ps_for PassesOwn.never rfl (pi_list (pe_callB (cr_sortD hr.units alike_mkD (fun b => ⟨_, _, rfl⟩) depth_mkD) (by rfl) T.f_sorted (by decide +kernel) (pa_cons (pv 7) pa_nil))) (pg_tup rfl (pgs_cons (pg_name (i := 11) sc_marks_of.nd rfl (Or.inl rfl)) (pgs_cons (pg_name (i := 12) sc_marks_of.nd rfl (Or.inl rfl)) pgs_nil)))
    (pss_cons (ps_expr (pe_bm PySem.F.plainAttrs_list PySem.F.slot_list_append PySem.F.type_list_append mt_append (pv 5) (pa_cons (pv 11) pa_nil)))
  (pss_one (ps_expr (pe_bm PySem.F.plainAttrs_list PySem.F.slot_list_append PySem.F.type_list_append mt_append (pv 4) (pa_cons (pv 12) pa_nil))))))))))
  (pss_one (ps_ret (pv 5)))))))), ?_⟩), T.g_marks_of, F.kp, F.bindsN fun _ _ _ _ _ _ us hl => match us, hl with | [_], _ => rfl⟩
  · obtain ⟨_, _, v, rfl, _⟩ := h
    rfl
  · obtain ⟨G, N, v, rfl, e, hv, val, ne, sm, k⟩ := h
    have hv0 := hv
    obtain ⟨a, vs, rfl, ha, hd⟩ := dt_lst hv
    have hlen := dtAll_len hd
    rw [List.length_map] at hlen
    refine ⟨_, rfl, G, N, _, rfl, e, hv0, val, sm, fun G1 H1 kv x1 hk1 => ?_⟩
    refine ⟨_, rfl, G1, N, _, rfl, x1.gh, dt_mono x1.g hv0, val, sm, fun G2 H2 dv x2 hd2 => ?_⟩
    obtain ⟨ka, rfl, hka⟩ := dt_lN hk1
    obtain ⟨da, rfl, hda⟩ := dt_lN hd2
    have kl : (M84.kinds N).length = N.length := M84.kinds_len val
    have dl : (M84.depths N).length = N.length := M84.depths_len N
    have sz := sm.len
    have x12 := x1.trans x2
    have hka2 := x2.g _ _ hka
    refine ⟨by show 2 ≤ sizeLine; decide, fun t ht => ?_⟩
    have x3 := x12.new (o := .tup [.ref ka, .ref da]) ht
    refine ⟨t, _, rfl, SqT.of upd_same, rfl, _, _, rfl, _, _, rfl, rfl, ?_⟩
    have ha3 := x3.gh _ _ (x3.g _ _ ha)
    have hka3 : upd H2 t (.tup [.ref ka, .ref da]) ka = some (.lst (iN (M84.kinds N))) := by rw [upd_ne (ne_of_none (x2.gh _ _ hka2) ht)]; exact x2.gh _ _ hka2
    have hda3 : upd H2 t (.tup [.ref ka, .ref da]) da = some (.lst (iN (M84.depths N))) := by rw [upd_ne (ne_of_none (x2.gh _ _ hda) ht)]; exact x2.gh _ _ hda
    have gka3 : upd G2 t (.tup [.ref ka, .ref da]) ka = some (.lst (iN (M84.kinds N))) := by rw [upd_ne (ne_of_none hka2 (same_free x2.gh ht))]; exact hka2
    have gda3 : upd G2 t (.tup [.ref ka, .ref da]) da = some (.lst (iN (M84.depths N))) := by rw [upd_ne (ne_of_none hda (same_free x2.gh ht))]; exact hda
    generalize upd H2 t (.tup [.ref ka, .ref da]) = H3 at x3 ha3 hka3 hda3
    generalize upd G2 t (.tup [.ref ka, .ref da]) = G3 at x3 gka3 gda3
    refine ⟨_, rfl, ka, _, rfl, SqL.of hka3, fun D hD => ?_⟩
    refine lc_it (walk_enum (xs := iN (M84.kinds N))) (fun i H' => Ex M0 G3 H3 G3 H' ∧ H' D = some (.lst (iN ((List.range i).filter fun k => !(decide ((M84.kinds N).getD k 0 ∈ (M84.kinds N).take k)))))) ⟨(Ex.rfl' x3.gh).loc hD, upd_same⟩ (fun i H' _ ⟨x, _⟩ => SqL.of (x.same _ _ hka3)) ?_ ?_
    · rintro i x H4 H5 hi ⟨x4, hD4⟩ ⟨T', y, z, rfl, hT, rfl, hy, hz⟩
      cases hy
      obtain ⟨kk, ekk, rfl⟩ := of_iN hz
      have hi' : i < N.length := by rw [iN_len, kl] at hi; exact hi
      have hT' : H3 T' = none := x4.free hT
      have x5 := x4.loc (o := .tup [.int ((i : Nat) : Int), .int ((kk : Nat) : Int)]) hT
      refine ⟨T', _, rfl, SqT.of upd_same, rfl, _, _, rfl, _, _, rfl, rfl, rfl, ?_⟩
      have hka5 := x5.same _ _ hka3
      have hD5 : upd H4 T' (.tup [.int ((i : Nat) : Int), .int ((kk : Nat) : Int)]) D = some (.lst (iN ((List.range i).filter fun k => !(decide ((M84.kinds N).getD k 0 ∈ (M84.kinds N).take k))))) := by rw [upd_ne (ne_of_none hD4 hT)]; exact hD4
      generalize upd H4 T' (.tup [.int ((i : Nat) : Int), .int ((kk : Nat) : Int)]) = H5 at x5 hka5 hD5 ⊢
      refine ⟨_, rfl, _, rfl, _, rfl, _, rfl, ka, _, rfl, SqL.of hka5, fun p hp => ?_⟩
      have x6 := x5.loc (o := .lst (cutV (iN (M84.kinds N)) none (some ((i : Nat) : Int)))) hp
      have ec : cutV (iN (M84.kinds N)) none (some ((i : Nat) : Int)) = iN ((M84.kinds N).take i) := by rw [cut_to]; exact (List.map_take).symm
      have hp6 : upd H5 p (.lst (cutV (iN (M84.kinds N)) none (some ((i : Nat) : Int)))) p = some (.lst (iN ((M84.kinds N).take i))) := by rw [upd_same, ec]
      have hD6 : upd H5 p (.lst (cutV (iN (M84.kinds N)) none (some ((i : Nat) : Int)))) D = _ := (upd_ne (ne_of_none hD5 hp)).trans hD5
      generalize upd H5 p (.lst (cutV (iN (M84.kinds N)) none (some ((i : Nat) : Int)))) = H6 at x6 hp6 hD6 ⊢
      have egk : (M84.kinds N).getD i 0 = kk := M84.getD_some ekk
      refine ⟨nD kk, ((M84.kinds N).take i).map nD, .int _, (lN_dt (G := H6) hp6).dp, shaped_nD _, shaped_lN _, _, rfl, ?_⟩
      have er : (List.range (i + 1)).filter (fun k => !(decide ((M84.kinds N).getD k 0 ∈ (M84.kinds N).take k))) = (List.range i).filter (fun k => !(decide ((M84.kinds N).getD k 0 ∈ (M84.kinds N).take k))) ++ (if kk ∈ (M84.kinds N).take i then [] else [i]) := by
        rw [List.range_succ, List.filter_append]
        by_cases hm : kk ∈ (M84.kinds N).take i
        · rw [if_pos hm]; rw [List.filter_cons, egk, decide_eq_true hm] <;> rfl
        · rw [if_neg hm]; rw [List.filter_cons, egk, decide_eq_false hm] <;> rfl
      rw [er]
      by_cases hm : kk ∈ (M84.kinds N).take i
      · rw [any_yes eqv_nD hm, if_pos hm, List.append_nil]
        exact iteF ⟨x6, hD6⟩
      · rw [any_no eqv_nD hm, if_neg hm, iN_snoc]
        refine iteT ⟨_, rfl, _, hD6, ?_, x6.mut (.inl hD) (same_free x3.gh hD), upd_same⟩
        rw [iN_len]
        have h1 := List.length_filter_le (fun k => !(decide ((M84.kinds N).getD k 0 ∈ (M84.kinds N).take k))) (List.range i)
        rw [List.length_range] at h1
        exact small1000 (by omega)
    · rintro H4 ⟨x4, hD4⟩
      rw [iN_len] at hD4
      have hD4 : H4 D = some (.lst (iN (M84.firsts (M84.kinds N)))) := hD4
      have x4' := x4.frz hD hD4 (same_free x3.gh hD)
      have gD4 : upd G3 D (.lst (iN (M84.firsts (M84.kinds N)))) D = some (.lst (iN (M84.firsts (M84.kinds N)))) := upd_same
      have gka4 := x4'.g _ _ gka3
      have gda4 := x4'.g _ _ gda3
      have x34 := x3.trans x4'
      have hv4 := dt_mono x34.g hv0
      generalize upd G3 D (.lst (iN (M84.firsts (M84.kinds N)))) = G4 at x4' x34 gD4 gka4 gda4 hv4
      clear x4 hD4 hka3 hda3
      have ha4 := x4'.gh _ _ (x34.g _ _ ha)
      refine ⟨Nat.zero_le _, fun l1 n1 => ⟨Nat.zero_le _, fun l2 n2 => ?_⟩⟩
      have n12 : l1 ≠ l2 := ne_of_none upd_same n2
      have n2' : H4 l2 = none := by rw [upd_ne n12.symm] at n2; exact n2
      have y0 : Ex M0 G4 H4 G4 (upd (upd H4 l1 (.lst [])) l2 (.lst [])) := ((Ex.rfl' x4'.gh).loc n1).loc n2
      have hda5 := y0.gh _ _ gda4
      have dpos : 0 < (M84.depths N).length := by rw [dl]; exact List.length_pos_iff.mpr ne
      refine ⟨_, rfl, da, (M84.depths N).map (fun n : Nat => (n : Int)), rfl, by rw [← ints_nat]; exact SqL.of hda5, by rw [List.length_map]; exact dpos, fun m hm hle => ?_⟩
      have em := max_nat hm hle
      have mD : M84.maxD N ≤ 200 := Nat.le_trans (M84.maxL_le fun z hz => M84.dp_small val hz) sz
      refine ⟨_, _, rfl, rfl, _, rfl, by rw [em]; show _ ≤ ((M84.maxD N : Nat) : Int); omega, by rw [em]; show ((M84.maxD N : Nat) : Int) < _; omega, ?_⟩
      rw [em, Int.toNat_natCast]
      refine for_range (fun h => MOut G4 H4 a ka da D l1 l2 (M84.marksS leM N h)) ⟨G4, [], ⟨_, _, _, _, _, _, _, _, _, rfl⟩, y0, by rw [upd_ne n12, upd_same] <;> rfl, same_free x4'.gh n1, upd_same, .nil, same_free x4'.gh n2'⟩ ?_ ?_
      · rintro h σ H5 hh ⟨G5, ws, ⟨x6, x7, x8, x9, x10, x11, x12, x13, x14, rfl⟩, y1, h1, g1, h2, hws, g2⟩
        generalize hst : M84.marksS leM N h = st at h1 hws
        have hpl : ∀ kk, kk ∈ M84.lvlIx (M84.depths N) (M84.firsts (M84.kinds N)) h → ∀ r, N[kk]? = some r → ∀ x, x ∈ r.1 ++ r.2 → M84.kd N x ∈ st.1 := fun kk hk r er x hx => by rw [← hst]; exact M84.move_placed val hk er hx
        rw [M84.marksS_succ, hst]
        have hO1 : st.1.length ≤ N.length := by rw [← hst]; exact M84.order_len val h
        have hO2 : st.2.length ≤ N.length := by rw [← hst, M84.marks_len]; exact M84.order_len val h
        clear hst
        refine ⟨Nat.zero_le _, fun l3 n3 => ?_⟩
        have y3 : Ex M0 G5 H5 G5 (upd H5 l3 (.lst [])) := (Ex.rfl' y1.gh).loc n3
        have hD5 := y3.gh _ _ (y1.g _ _ gD4)
        have hda5 := y3.gh _ _ (y1.g _ _ gda4)
        refine ⟨_, rfl, D, rfl, ⟨_, SqL.of hD5⟩, fun E hE => lcL (fun v => v) (liftP fun kk => decide (M84.dp N kk = h)) (SqL.of hD5) hE (by rw [iN_len]; exact Nat.le_of_lt (small1000 (by have := M84.firsts_len (M84.kinds N); omega))) (fun _ => rfl) (fun x H6 Q' hx s6 q => ?_) (fun x H6 Q' hx _ s6 q => ⟨_, rfl, q⟩) ?_⟩
        · obtain ⟨kk, hkk, rfl⟩ := of_iN_mem hx
          have hlt : kk < (M84.depths N).length := by rw [dl]; exact ((M84.mem_firsts val).mp hkk).1
          refine ⟨_, rfl, _, rfl, da, _, _, _, rfl, rfl, SqL.of (s6 _ _ hda5), atN (iN_get (getD_at hlt)), _, rfl, rfl, _, rfl, ?_⟩
          rw [dec_nat]
          exact q
        · rw [filt_iN, List.map_id']
          have y4 := y3.loc (o := .lst (iN (M84.lvlIx (M84.depths N) (M84.firsts (M84.kinds N)) h))) hE
          have nE : l3 ≠ E := ne_of_none upd_same hE
          refine ⟨E, rfl, ⟨_, SqL.of upd_same⟩, for_list (K := K) (a := E) (xs := iN (M84.lvlIx (M84.depths N) (M84.firsts (M84.kinds N)) h))
            (fun i => MIn G5 H5 a ka da D l1 l2 l3 E (M84.lvlIx (M84.depths N) (M84.firsts (M84.kinds N)) h) (0 + (h : Int)) (((M84.lvlIx (M84.depths N) (M84.firsts (M84.kinds N)) h).take i).map (M84.lvlMk N (M84.kinds N) st.1)))
            ⟨G5, [], ⟨_, _, _, _, _, _, _, rfl⟩, y4, by rw [upd_ne nE]; exact upd_same, .nil, same_free y1.gh n3, upd_same⟩ (fun i σ H' _ ⟨_, _, _, _, _, _, _, q⟩ => SqL.of q) ?_ ?_⟩
          · rintro i x σ H6 hi ⟨G6, us, ⟨x8, x9, x10, x11, x12, x13, x14, rfl⟩, z1, hl3, hus, gl3, hE6⟩
            obtain ⟨kk, ekk, rfl⟩ := of_iN hi
            have hkk := List.mem_of_getElem? ekk
            have hkl : kk < N.length := ((M84.mem_firsts val).mp (M84.mem_lvlIx.mp hkk).1).1
            obtain ⟨r, er⟩ := M84.some_at hkl
            obtain ⟨rv, erv, hrv⟩ := dtAll_get' hd (i := kk) (d := rowD r) (by rw [List.getElem?_map, er] <;> rfl)
            have z01 := (x34.trans y1).trans z1
            obtain ⟨p, b, c, rfl, hp, hb, hc⟩ := dt_rowD (dt_mono z01.g hrv)
            have hm : r ∈ N := List.mem_of_getElem? er
            have b1 := sm.l r hm
            have b2 := sm.r r hm
            obtain ⟨v1, v2⟩ := val kk r er
            have pl := hpl kk hkk r er
            have hka6 := z1.gh _ _ (z1.g _ _ (y1.g _ _ gka4))
            have h16 := z1.s _ _ h1 fun z => z
            have h26 := z1.s _ _ h2 fun z => z
            have ha6 := z01.gh _ _ (z01.g _ _ ha)
            have elt : ∀ (l : List Nat) (σ : L2.St) (H0 G0 : Hp), Same H6 H0 → Same G0 H0 → σ[1]? = some (some (.ref ka)) → σ[4]? = some (some (.ref l1)) → (∀ x ∈ l, x < N.length ∧ M84.kd N x ∈ st.1) → ∀ (j : Nat) (x : V) (n : Nat) (G' H' : Hp) (Q' : VK), (iN l)[j]? = some x → (l.map fun x => st.1.idxOf (M84.kd N x))[j]? = some n → σ[14]? = some (some x) → Ex M0 G0 H0 G' H' →
                (∀ G'' H'' v, Ex M0 G' H' G'' H'' → v = V.int (n : Int) → Q' v H'') → (tCall spPlace [] E0 (tCons (tVar 4) (tCons (tOp (rIxL K) (tVar 1) (tVar 14)) tNil))) σ H' Q' := by
              intro l σ H0 G0 s0 e0 e1 e4 hl j x n G' H' Q' ex en e14 xx q
              obtain ⟨m, em, rfl⟩ := of_iN ex
              rw [List.getElem?_map, em] at en
              have en' : st.1.idxOf (M84.kd N m) = n := Option.some.inj en
              obtain ⟨hm1, hm2⟩ := hl m (List.mem_of_getElem? em)
              refine ⟨_, e4, _, e1, _, e14, ka, _, _, _, rfl, rfl, SqL.of (xx.same _ _ (s0 _ _ hka6)), atN (iN_get (getD_at (by rw [kl]; exact hm1))), ?_⟩
              refine ⟨Nat, inferInstance, inferInstance, inferInstance, nD, st.1, M84.kd N m, _, _, rfl, lN_dt (G := H') (xx.same _ _ (s0 _ _ h16)), .int _, eqv_nD, shaped_nD, hm2, fun H4 s4 => ?_⟩
              exact q G' H4 _ (Ex.of_same xx.gh s4) (by rw [← en'])
            refine ⟨_, rfl, _, rfl, a, _, _, _, rfl, rfl, SqL.of ha6, atN erv, p, _, _, _, rfl, rfl, SqT.of (z1.gh _ _ hp), atN (j := 0) rfl, b, rfl, ⟨_, SqT.of (z1.gh _ _ hb)⟩, fun D2 hD2 => ?_⟩
            refine lcR (R := fun _ v (n : Nat) => v = V.int (n : Int)) (fun _ _ _ _ _ h => h) (walk_tup (K := K) (a := b) (xs := iN r.1)) (r.1.map fun x => st.1.idxOf (M84.kd N x)) (by rw [iN_len, List.length_map]) (by rw [iN_len]; exact sz63 b1) z1.gh hD2 (fun H' s' => SqT.of (s' _ _ (z1.gh _ _ hb))) (fun _ => rfl)
              (fun j x n G' H' Q' ex en xx q => elt r.1 _ H6 G6 (Same.refl H6) z1.gh rfl rfl (fun x hx => ⟨Nat.lt_trans (v1 x hx) hkl, pl x (List.mem_append.mpr (.inl hx))⟩) j x n G' H' Q' ex en rfl xx q) fun G7 H7 w7 z2 gD2 hD7 rl => ?_
            rw [rl.iN] at hD7
            clear rl
            have hp7 := z2.gh _ _ (z2.g _ _ hp)
            have hc7 := z2.gh _ _ (z2.g _ _ hc)
            have ha7 := z2.same _ _ ha6
            refine ⟨_, rfl, _, rfl, a, _, _, _, rfl, rfl, SqL.of ha7, atN erv, p, _, _, _, rfl, rfl, SqT.of hp7, atN (j := 1) rfl, c, rfl, ⟨_, SqT.of hc7⟩, fun D3 hD3 => ?_⟩
            refine lcR (R := fun _ v (n : Nat) => v = V.int (n : Int)) (fun _ _ _ _ _ h => h) (walk_tup (K := K) (a := c) (xs := iN r.2)) (r.2.map fun x => st.1.idxOf (M84.kd N x)) (by rw [iN_len, List.length_map]) (by rw [iN_len]; exact sz63 b2) z2.gh hD3 (fun H' s' => SqT.of (s' _ _ hc7)) (fun _ => rfl)
              (fun j x n G' H' Q' ex en xx q => elt r.2 _ H7 G7 z2.same z2.gh rfl rfl (fun x hx => ⟨Nat.lt_trans (v2 x hx) hkl, pl x (List.mem_append.mpr (.inr hx))⟩) j x n G' H' Q' ex en rfl xx q) fun G8 H8 w8 z3 gD3 hD8 rl => ?_
            rw [rl.iN] at hD8
            clear rl
            have z23 := z2.trans z3
            have hD28 := z3.same _ _ hD7
            have hl38 := z23.same _ _ hl3
            have hka8 := z23.same _ _ hka6
            refine ⟨_, rfl, .inl ⟨rfl, _, SqL.of hl38⟩, _, rfl, ?_⟩
            dsimp only [tCB, tCons, tNil]
            have lm1 : (r.1.map fun x => st.1.idxOf (M84.kd N x)).length < 64 := by rw [List.length_map]; exact b1
            have lm2 : (r.2.map fun x => st.1.idxOf (M84.kd N x)).length < 64 := by rw [List.length_map]; exact b2
            have gl38 := z3.fr l3 (by rw [z2.same _ _ hl3]; exact fun z => nomatch z) (z2.fr l3 (by rw [hl3]; exact fun z => nomatch z) gl3)
            have hE8 := z23.same _ _ hE6
            have z13 := z1.trans z23
            have hus8 := dtAll_mono z23.g hus
            have lus : us.length < sizeLine := by
              rw [dtAll_len hus, List.length_map, List.length_map, List.length_take]
              have h1 := List.length_filter_le (fun k => decide ((M84.depths N).getD k 0 = h)) (M84.firsts (M84.kinds N))
              have h2 := M84.firsts_len (M84.kinds N)
              refine small1000 ?_
              show min i ((M84.firsts (M84.kinds N)).filter fun k => decide ((M84.depths N).getD k 0 = h)).length ≤ 1000
              omega
            refine set_step (r.1.map fun x => st.1.idxOf (M84.kd N x)) (SqL.of hD28) (Nat.le_of_lt (Nat.lt_of_lt_of_le lm1 (by decide))) fun t1 n1 Ha sa _ ln _ ha1 => ?_
            refine srt_step (r.1.map fun x => st.1.idxOf (M84.kd N x)) ha1 (Nat.lt_of_le_of_lt ln lm1) fun t2 Hb sb _ hb1 => ?_
            refine ⟨t2, _, rfl, .inl ⟨SqL.of hb1, fun p1 hp1 => ?_⟩⟩
            have q1 := ((Ex.rfl' z3.gh (M := M0)).trans (Ex.of_same z3.gh (sa.trans sb))).new (o := .tup (iN (M84.uniq (r.1.map fun x => st.1.idxOf (M84.kd N x))))) hp1
            have gp1 : upd G8 p1 (.tup (iN (M84.uniq (r.1.map fun x => st.1.idxOf (M84.kd N x))))) p1 = some (.tup (iN (M84.uniq (r.1.map fun x => st.1.idxOf (M84.kd N x))))) := upd_same
            generalize upd Hb p1 (.tup (iN (M84.uniq (r.1.map fun x => st.1.idxOf (M84.kd N x))))) = H9 at q1 ⊢
            generalize upd G8 p1 (.tup (iN (M84.uniq (r.1.map fun x => st.1.idxOf (M84.kd N x))))) = G9 at q1 gp1
            clear sa sb ha1 hb1 hp1
            refine ⟨_, rfl, ?_⟩
            refine set_step (r.2.map fun x => st.1.idxOf (M84.kd N x)) (SqL.of (q1.same _ _ hD8)) (Nat.le_of_lt (Nat.lt_of_lt_of_le lm2 (by decide))) fun t1 n1 Ha sa _ ln _ ha1 => ?_
            refine srt_step (r.2.map fun x => st.1.idxOf (M84.kd N x)) ha1 (Nat.lt_of_le_of_lt ln lm2) fun t2 Hb sb _ hb1 => ?_
            refine ⟨t2, _, rfl, .inl ⟨SqL.of hb1, fun p2 hp2 => ?_⟩⟩
            have q2 := ((Ex.rfl' q1.gh (M := M0)).trans (Ex.of_same q1.gh (sa.trans sb))).new (o := .tup (iN (M84.uniq (r.2.map fun x => st.1.idxOf (M84.kd N x))))) hp2
            have gp2 : upd G9 p2 (.tup (iN (M84.uniq (r.2.map fun x => st.1.idxOf (M84.kd N x))))) p2 = some (.tup (iN (M84.uniq (r.2.map fun x => st.1.idxOf (M84.kd N x))))) := upd_same
            generalize upd Hb p2 (.tup (iN (M84.uniq (r.2.map fun x => st.1.idxOf (M84.kd N x))))) = H10 at q2 ⊢
            generalize upd G9 p2 (.tup (iN (M84.uniq (r.2.map fun x => st.1.idxOf (M84.kd N x))))) = G10 at q2 gp2
            clear sa sb ha1 hb1 hp2
            refine ⟨by show 2 ≤ sizeLine; decide, fun p3 hp3 => ?_⟩
            have q3 := (Ex.rfl' q2.gh (M := M0)).new (o := .tup [.ref p1, .ref p2]) hp3
            have gp3 : upd G10 p3 (.tup [.ref p1, .ref p2]) p3 = some (.tup [.ref p1, .ref p2]) := upd_same
            generalize upd H10 p3 (.tup [.ref p1, .ref p2]) = H11 at q3 ⊢
            generalize upd G10 p3 (.tup [.ref p1, .ref p2]) = G11 at q3 gp3
            have q123 := (q1.trans q2).trans q3
            refine ⟨_, rfl, _, rfl, ka, _, _, _, rfl, rfl, SqL.of (q123.same _ _ hka8), atN (iN_get (getD_at (by rw [kl]; exact hkl))), ?_⟩
            refine ⟨by show 2 ≤ sizeLine; decide, fun p4 hp4 => ?_⟩
            have q4 := q123.new (o := .tup [.ref p3, .int ((M84.kd N kk : Nat) : Int)]) hp4
            have gp4 : upd G11 p4 (.tup [.ref p3, .int ((M84.kd N kk : Nat) : Int)]) p4 = some (.tup [.ref p3, .int ((M84.kd N kk : Nat) : Int)]) := upd_same
            have gs : Same G11 (upd G11 p4 (.tup [.ref p3, .int ((M84.kd N kk : Nat) : Int)])) := same_upd (same_free q3.gh hp4)
            have dm : Dt (upd G11 p4 (.tup [.ref p3, .int ((M84.kd N kk : Nat) : Int)])) (.ref p4) (mkD (M84.lvlMk N (M84.kinds N) st.1 kk)) := by
              have e1 : N.getD kk ([], []) = r := M84.getD_some er
              unfold M84.lvlMk
              rw [e1]
              exact .tup gp4 (.cons (dt_mono gs (rowD_dt (r := (M84.uniq (r.1.map fun x => st.1.idxOf (M84.kd N x)), M84.uniq (r.2.map fun x => st.1.idxOf (M84.kd N x)))) gp3 (q3.g _ _ (q2.g _ _ gp1)) (q3.g _ _ gp2))) (.cons (.int _) .nil))
            generalize upd G11 p4 (.tup [.ref p3, .int ((M84.kd N kk : Nat) : Int)]) = G12 at q4 gp4 gs dm
            show rAppend (V.ref l3) [V.ref p4] (upd H11 p4 (.tup [.ref p3, .int ((M84.kd N kk : Nat) : Int)])) _
            generalize upd H11 p4 (.tup [.ref p3, .int ((M84.kd N kk : Nat) : Int)]) = H12 at q4 ⊢
            have gl312 := q4.fr l3 (by rw [hl38]; exact fun z => nomatch z) gl38
            refine ⟨l3, us, _, rfl, rfl, q4.same _ _ hl38, lus, ?_⟩
            have nE3 : E ≠ l3 := fun z => by rw [z, hl38] at hE8; have := Option.some.inj hE8; exact nE z.symm
            refine ⟨G12, us ++ [.ref p4], ⟨_, _, _, _, _, _, _, rfl⟩, (z13.trans q4).mut (.inl n3) gl312, upd_same, ?_, gl312, by rw [upd_ne nE3]; exact q4.same _ _ hE8⟩
            rw [take_snoc ekk, List.map_append, List.map_append]
            exact dtAll_snoc (dtAll_mono q4.g hus8) dm
          · rintro σ H6 ⟨G6, us, ⟨x8, x9, x10, x11, x12, x13, x14, rfl⟩, z1, hl3, hus, gl3, hE6⟩
            rw [iN_len, List.take_length] at hus
            refine ⟨_, rfl, l3, us, (M84.lvlIx (M84.depths N) (M84.firsts (M84.kinds N)) h).map (M84.lvlMk N (M84.kinds N) st.1), fun x b => Dt G6 x (mkD b), rfl, SqL.of hl3, each_dt z1.gh hus, fun ys q hys hq => ?_⟩
            have hys' := dt_each hys
            generalize hS : ((M84.lvlIx (M84.depths N) (M84.firsts (M84.kinds N)) h).map (M84.lvlMk N (M84.kinds N) st.1)).mergeSort leM = S at hys'
            have lS : S.length ≤ N.length := by
              rw [← hS, List.length_mergeSort, List.length_map]
              have h1 := List.length_filter_le (fun k => decide ((M84.depths N).getD k 0 = h)) (M84.firsts (M84.kinds N))
              have h2 := M84.firsts_len (M84.kinds N)
              show ((M84.firsts (M84.kinds N)).filter fun k => decide ((M84.depths N).getD k 0 = h)).length ≤ _
              omega
            have ly : ys.length = S.length := by rw [dtAll_len hys', List.length_map]
            have z1' := y1.trans z1
            have g16 := z1.fr l1 (by rw [h1]; exact fun z => nomatch z) g1
            have g26 := z1.fr l2 (by rw [h2]; exact fun z => nomatch z) g2
            have h1' := z1.s _ _ h1 fun z => z
            have h2' := z1.s _ _ h2 fun z => z
            have z2 := z1'.loc (o := .lst ys) hq
            refine ⟨q, rfl, ⟨_, SqL.of upd_same⟩, for_list (K := K) (a := q) (xs := ys) (fun i => MSt G4 H4 a ka da D l1 l2 q ys S (st.1 ++ (S.take i).map (·.2), st.2 ++ (S.take i).map (·.1)))
              ⟨G6, ws, ⟨_, _, _, _, _, _, _, _, _, rfl⟩, z2, ?_, g16, (upd_ne (ne_of_none h2' hq)).trans h2', ?_, g26, upd_same, hys'⟩ (fun i σ H' _ ⟨_, _, _, _, _, _, _, _, _, q, _⟩ => SqL.of q) ?_ ?_⟩
            · rw [List.take_zero, List.map_nil, List.append_nil]
              exact (upd_ne (ne_of_none h1' hq)).trans h1'
            · show DtAll G6 ws ((st.2 ++ []).map rowD)
              rw [List.append_nil]
              exact dtAll_mono z1.g hws
            · rintro i x σ H7 hi ⟨G7, vs7, ⟨x6, x7, x8, x9, x10, x11, x12, x13, x14, rfl⟩, u1, k1, gk1, k2, hvs7, gk2, kq, hyq⟩
              obtain ⟨m, em, hmx⟩ := dtAll_map hyq hi
              obtain ⟨p, xs, rfl, hp, hxs⟩ := dt_tup hmx
              cases hxs with
              | cons d1 d2 =>
                cases d2 with
                | cons d2 d3 =>
                  cases d3
                  have ev := dt_nD d2
                  subst ev
                  have lv7 : vs7.length < sizeLine := by
                    rw [dtAll_len hvs7, List.length_map, List.length_append, List.length_map, List.length_take]
                    exact small1000 (by omega)
                  have e21 : l2 ≠ l1 := n12.symm
                  have eq2 : q ≠ l2 := fun z => by rw [z] at hq; rw [hq] at h2'; cases h2'
                  have eq1 : q ≠ l1 := fun z => by rw [z] at hq; rw [hq] at h1'; cases h1'
                  refine ⟨p, _, rfl, SqT.of (u1.gh _ _ hp), rfl, _, _, rfl, _, _, rfl, rfl, ?_⟩
                  refine ⟨_, rfl, .inl ⟨rfl, _, SqL.of k2⟩, _, rfl, l2, vs7, _, rfl, rfl, k2, lv7, ?_⟩
                  have k1b : ∀ o, upd H7 l2 o l1 = some (.lst (iN (st.1 ++ (S.take i).map (·.2)))) := fun o => (upd_ne n12).trans k1
                  refine ⟨_, rfl, .inl ⟨rfl, _, SqL.of (k1b _)⟩, _, rfl, l1, _, _, rfl, rfl, k1b _, ?_, ?_⟩
                  · rw [iN_len, List.length_append, List.length_map, List.length_take]
                    exact small1000 (by omega)
                  · refine ⟨G7, _, ⟨_, _, _, _, _, _, _, _, _, rfl⟩, (u1.mut (.inl n2') gk2).mut (.inl n1) gk1, ?_, gk1, (upd_ne e21).trans upd_same, ?_, gk2, ?_, hyq⟩
                    · rw [take_snoc em, List.map_append, ← List.append_assoc]
                      exact upd_same.trans (congrArg (fun z => some (HO.lst z)) (iN_snoc _ _).symm)
                    · have ee : st.2 ++ (S.take (i + 1)).map (fun x => x.1) = (st.2 ++ (S.take i).map (fun x => x.1)) ++ [m.1] := by rw [take_snoc em, List.map_append, ← List.append_assoc] <;> rfl
                      show DtAll G7 _ ((st.2 ++ (S.take (i + 1)).map (fun x => x.1)).map rowD)
                      rw [ee, List.map_append]
                      exact dtAll_snoc hvs7 d1
                    · rw [upd_ne eq1, upd_ne eq2]; exact kq
            · rintro σ H7 ⟨G7, vs7, ⟨x6, x7, x8, x9, x10, x11, x12, x13, x14, rfl⟩, u1, k1, gk1, k2, hvs7, gk2, kq, hyq⟩
              rw [ly, List.take_length] at k1 hvs7
              refine ⟨G7, vs7, ⟨_, _, _, _, _, _, _, _, _, rfl⟩, u1, ?_, gk1, k2, ?_, gk2⟩
              · unfold M84.lvl
                dsimp only
                rw [hS]
                exact k1
              · unfold M84.lvl
                dsimp only
                rw [hS]
                exact hvs7
      · rintro σ H9 ⟨G9, ws, ⟨x6, x7, x8, x9, x10, x11, x12, x13, x14, rfl⟩, y1, h1, g1, h2, hws, g2⟩
        exact ⟨_, rfl, k _ _ _ (x34.trans (y1.frz n2' h2 g2)) (.lst upd_same (dtAll_mono (same_upd g2) hws))⟩
end
end G84

namespace G84
open PySem PySem.Spec PyProof.Rows L2
/-! W7: heaps as data; is_list, Rows, checked_heaps. -/
section
variable {K : PySem.W.Frag} {mg : Str → Option Value}
structure XF (K : PySem.W.Frag) : Prop where
  hc : PySem.W.findIn K (.ref (He.ga K "Heap")) "__class__" = some (some (.builtin "object.__class__"))
  hm : PySem.W.mroIn K (He.ga K "Heap") (.type "object") = some true
  rc : PySem.W.findIn K (.ref (He.ga K "Rows")) "__class__" = some (some (.builtin "object.__class__"))
  rm : PySem.W.mroIn K (He.ga K "Rows") (.type "object") = some true
  g : PySem.W.specialIn K (.builtin "object.__class__") "__get__" = some (some (.builtin "getset_descriptor.__get__"))
  t : PySem.W.takesIn K (.builtin "object.__class__") = some true
  hh : PySem.W.kitOne K (.ref (He.ga K "Heap")) (.ref (He.ga K "Heap")) = some true
  rr : PySem.W.kitOne K (.ref (He.ga K "Rows")) (.ref (He.ga K "Rows")) = some true
  lr : PySem.W.kitOne K (.type "list") (.ref (He.ga K "Rows")) = some false
  ne : PySem.W.findIn K (.ref (He.ga K "Heap")) "__ne__" = some (some (.builtin "object.__ne__"))
  sb : PySem.W.subIn K (.ref (He.ga K "Heap")) (.type "object") = some true
theorem TX.xf (T : TX K mg) : XF K := by
  have h := T.c.2
  unfold exB insB getB kitB neB at h
  simp only [Bool.and_eq_true, decide_eq_true_eq] at h
  obtain ⟨⟨⟨h1, h2⟩, h3, h4⟩, ⟨h5, h6⟩, ⟨h7, h8, h9⟩, h10, h11⟩ := h
  exact ⟨h1, h2, h3, h4, h5, h6, h7, h8, h9, h10, h11⟩
theorem TX.tyHeap (T : TX K mg) {H : Hp} {a dx : Addr} {fs : List (Str × V)} (e : H a = some (.ins (He.ga K "Heap") dx fs)) : TyX K H (.ref a) (.ref (He.ga K "Heap")) := .base (.ins e T.c_Heap T.xf.hc T.xf.g T.xf.t T.xf.hm)
theorem TX.tyRows (T : TX K mg) {H : Hp} {a dx : Addr} {fs : List (Str × V)} (e : H a = some (.ins (He.ga K "Rows") dx fs)) : TyX K H (.ref a) (.ref (He.ga K "Rows")) := .base (.ins e T.c_Rows T.xf.rc T.xf.g T.xf.t T.xf.rm)
end
/-- a heap that stands still -/
structure HpAt (K : PySem.W.Frag) (G : Hp) (a dx n m : Addr) (N : List Rw) : Prop where
  e : G a = some (.ins (He.ga K "Heap") dx [("node_list", .ref n), ("mark_list", .ref m)])
  n : Dt G (.ref n) (rowsD N)
  m : Dt G (.ref m) (rowsD (M84.marks leM N))
  good : M84.Good N
  sm : Sm N
def HpI (K : PySem.W.Frag) (G : Hp) (v : V) (N : List Rw) : Prop := ∃ a dx n m, v = .ref a ∧ HpAt K G a dx n m N
theorem hpAt_mono {K : PySem.W.Frag} {G G' : Hp} {a dx n m : Addr} {N : List Rw} (s : Same G G') (h : HpAt K G a dx n m N) : HpAt K G' a dx n m N := ⟨s _ _ h.e, dt_mono s h.n, dt_mono s h.m, h.good, h.sm⟩
theorem hpI_mono (K : PySem.W.Frag) (G G' : Hp) (v : V) (N : List Rw) (s : Same G G') (h : HpI K G v N) : HpI K G' v N := let ⟨a, dx, n, m, e, q⟩ := h; ⟨a, dx, n, m, e, hpAt_mono s q⟩
section
variable {P : Program} {w : World} {K : PySem.W.Frag} {mg : Str → Option Value} {base : Heap}
def spIsList : Sp := fun vs H Q _ => ∃ (a : Addr) (xs : List V), vs = [.ref a] ∧ H a = some (.lst xs) ∧ ∀ H', Same H H' → Q (.bl true) H'
theorem sc_is_list : FnScope ["thing"] ["thing"] (defScope s_is_list) := ⟨rfl, rfl, rfl, by decide +kernel, rfl, by decide +kernel, by decide +kernel⟩
theorem ok_is_list (T : TX K mg) : DefOk P w K mg base 1 "is_list" ["thing"] spIsList := by
  obtain ⟨fd, F⟩ := T.d_is_list
  refine ⟨fd, F.ok sc_is_list (fun vs H Q E h => ?_) (fun cdv A outer s H vs Q E hr h => ⟨_, PSs.nox (pss_one (ps_ret (pe_callB call_isiT (by rfl) T.f_isinstance (by decide +kernel) (pa_cons (pv 0) (pa_cons (pe_tup (pa_cons (pe_bltn (v := .ty "list") (u := .type "list") rfl T.f_list (by decide +kernel) rfl) (pa_cons (pe_bltn (v := .ty "tuple") (u := .type "tuple") rfl T.f_tuple (by decide +kernel) rfl) pa_nil))) pa_nil))))), ?_⟩), T.g_is_list, F.kp, F.bindsN fun _ _ _ _ _ _ us hl => match us, hl with | [_], _ => rfl⟩
  · obtain ⟨a, xs, rfl, _⟩ := h
    rfl
  · obtain ⟨a, xs, rfl, ha, k⟩ := h
    refine ⟨_, rfl, by show 2 ≤ sizeLine; decide, fun t ht => ?_⟩
    have s1 : Same H (upd H t (.tup [.ty "list", .ty "tuple"])) := fun b o e => by rw [upd_ne (ne_of_none e ht)]; exact e
    exact ⟨_, t, _, .type "list", [.type "list", .type "tuple"], true, rfl, upd_same, .cons (.ty _) (.cons (.ty _) .nil), .base (.lst (s1 _ _ ha)), kitAny_cons (b := true) (kit_ty (by decide +kernel)) (fun z => nomatch z) (fun _ => rfl), k _ s1⟩
def spChecked (K : PySem.W.Frag) : Sp := fun vs H Q _ => ∃ (G : Hp) (a : Addr) (ws : List V) (As : List (List Rw)) (i : Int), vs = [.ref a, .int i] ∧ Same G H ∧ G a = some (.lst ws) ∧ RL (HpI K) G ws As ∧ ∀ G' H' p, Ex M0 G H G' H' → G' p = some (.lst ws) → Q (.ref p) H'
theorem sc_checked_heaps : FnScope ["thing", "first", "index", "heap"] ["thing", "first"] (defScope s_checked_heaps) := ⟨rfl, rfl, rfl, by decide +kernel, rfl, by decide +kernel, by decide +kernel⟩
theorem ok_checked_heaps (T : TX K mg) : DefOk P w K mg base 2 "checked_heaps" ["thing", "first"] (spChecked K) := by
  have D_is_list := ok_is_list (P := P) (w := w) (base := base) T
  obtain ⟨fd, F⟩ := T.d_checked_heaps
  refine ⟨fd, F.ok sc_checked_heaps (fun vs H Q E h => ?_) (fun cdv A outer s H vs Q E hr h => ⟨_, PSs.nox (pss_cons (ps_if (pt_not (pt_val (pe_d D_is_list (hr.mono (by decide)) (pa_cons (pv 0) pa_nil))))
    (pss_one ps_never)
    pss_nil)
  (pss_cons (ps_for PassesOwn.never rfl (pi_enum (by rfl) T.f_enumerate (pa_cons (pv 0) pa_nil)) (pg_tup rfl (pgs_cons (pg_name (i := 2) sc_checked_heaps.nd rfl (Or.inl rfl)) (pgs_cons (pg_name (i := 3) sc_checked_heaps.nd rfl (Or.inl rfl)) pgs_nil)))
    (pss_one (ps_if (pt_not (pt_val (pe_callB call_isi (by rfl) T.f_isinstance (by decide +kernel) (pa_cons (pv 3) (pa_cons (pe_glob (v := .ref (He.ga K "Heap")) (u := .ref (He.ga K "Heap")) rfl T.g_Heap rfl) pa_nil)))))
    (pss_one ps_never)
    pss_nil)))
  (pss_one (ps_ret (pe_callTy (lstK K) (by rfl) T.f_list (by decide +kernel) (pa_cons (pv 0) pa_nil)))))), ?_⟩), T.g_checked_heaps, F.kp, F.bindsN fun _ _ _ _ _ _ us hl => match us, hl with | [_, _], _ => rfl⟩
  · obtain ⟨_, a, _, _, i, rfl, _⟩ := h
    rfl
  · obtain ⟨G, a, ws, As, i0, rfl, e, ha, hws, k⟩ := h
    refine ⟨_, rfl, a, ws, rfl, e _ _ ha, fun H1 s1 => ⟨_, rfl, iteF ?_⟩⟩
    refine ⟨_, rfl, a, _, rfl, SqL.of (s1 _ _ (e _ _ ha)), for_it (walk_enum (xs := ws)) (fun i σ H' => (∃ x y, σ = [some (.ref a), some (.int i0), x, y]) ∧ Ex M0 G H G H') ⟨⟨_, _, rfl⟩, Ex.of_same e s1⟩ (fun i σ H' _ ⟨_, x⟩ => SqL.of (x.gh _ _ ha)) ?_ ?_⟩
    · rintro i t σ H2 H3 hi ⟨⟨x, y, rfl⟩, x1⟩ ⟨T', y, z, rfl, hT, rfl, hy, hz⟩
      cases hy
      obtain ⟨N, _, b, dx, n, m, rfl, hb⟩ := hws.get' hz
      have x2 := x1.loc (o := .tup [.int ((i : Nat) : Int), .ref b]) hT
      refine ⟨T', _, rfl, SqT.of upd_same, rfl, _, _, rfl, _, _, rfl, rfl, ?_⟩
      refine ⟨_, rfl, _, _, _, _, true, rfl, .own _, T.tyHeap (x2.gh _ _ hb.e), T.xf.hh, _, rfl, iteF ⟨⟨_, _, rfl⟩, x2⟩⟩
    · rintro σ H2 ⟨⟨x, y, rfl⟩, x1⟩
      refine ⟨_, rfl, a, ws, rfl, .inl (SqL.of (x1.gh _ _ ha)), fun l hl => k _ _ _ (x1.new hl) upd_same⟩
end
end G84

namespace G84
open PySem PySem.Spec PyProof.Rows L2
/-! W8: joined_rows. -/
theorem at_last {l : List Nat} (h : l ≠ []) : atI (iN l) (-1) = some (V.int ((l.getLast?.getD 0 : Nat) : Int)) := by
  have e : l = l.dropLast ++ [l.getLast h] := (List.dropLast_concat_getLast h).symm
  rw [e, iN_snoc, atI_last, List.getLast?_append] <;> rfl
def jOut (s : List Rw × List (List Nat)) (L : List (List Rw)) : List Rw × List (List Nat) := ((L.foldl M84.jSide (s.1, [])).1, s.2 ++ [(L.foldl M84.jSide (s.1, [])).2])
theorem jHeap_len (N : List Rw) (f : List Rw) : ∀ i, i ≤ N.length → ((N.take i).foldl M84.jStep (f, [])).1.length ≤ f.length + i ∧ ((N.take i).foldl M84.jStep (f, [])).2.length = i
  | 0, _ => ⟨by simp, by simp⟩
  | i + 1, h => by
    have hi : i < N.length := h
    obtain ⟨h1, h2⟩ := jHeap_len N f i (Nat.le_of_lt hi)
    rw [fold_take (List.getElem?_eq_getElem hi)]
    generalize (N.take i).foldl M84.jStep (f, []) = st at h1 h2 ⊢
    obtain ⟨g, t⟩ := st
    generalize N[i] = r
    have h1' : g.length ≤ f.length + i := h1
    refine ⟨?_, show (t ++ [_]).length = i + 1 by rw [List.length_append, h2] <;> rfl⟩
    show (if M84.jRow t r ∈ g then g else g ++ [M84.jRow t r]).length ≤ _
    split
    · omega
    · rw [List.length_append, List.length_singleton]; omega
theorem jSide_len (L : List (List Rw)) (hL : ∀ N ∈ L, N.length ≤ 200) (f : List Rw) : ∀ i, i ≤ L.length → ((L.take i).foldl M84.jSide (f, [])).1.length ≤ f.length + 200 * i ∧ ((L.take i).foldl M84.jSide (f, [])).2.length = i
  | 0, _ => ⟨by simp, by simp⟩
  | i + 1, h => by
    have hi : i < L.length := h
    obtain ⟨h1, h2⟩ := jSide_len L hL f i (Nat.le_of_lt hi)
    rw [fold_take (List.getElem?_eq_getElem hi)]
    generalize (L.take i).foldl M84.jSide (f, []) = st at h1 h2 ⊢
    obtain ⟨g, t⟩ := st
    have h3 := hL L[i] (List.getElem_mem _)
    generalize L[i] = N at h3
    obtain ⟨k1, _⟩ := jHeap_len N g N.length (Nat.le_refl _)
    rw [List.take_length] at k1
    have h1' : g.length ≤ f.length + 200 * i := h1
    refine ⟨?_, show (t ++ [_]).length = i + 1 by rw [List.length_append, h2] <;> rfl⟩
    show (N.foldl M84.jStep (g, [])).1.length ≤ _
    omega
section
variable {P : Program} {w : World} {K : PySem.W.Frag} {mg : Str → Option Value} {base : Heap}
structure JC (G H : Hp) (f sd : Addr) (F : List Rw) (S : List (List Nat)) (G' H' : Hp) : Prop where
  x : Ex M0 G H G' H'
  hf : ∃ fv, H' f = some (.lst fv) ∧ DtAll G' fv (F.map rowD)
  gf : G' f = none
  hs : ∃ sv, H' sd = some (.lst sv) ∧ DtAll G' sv (S.map tN)
  gs : G' sd = none
theorem JC.go {G H G' H' G'' H'' : Hp} {f sd : Addr} {F : List Rw} {S : List (List Nat)} (j : JC G H f sd F S G' H') (y : Ex M0 G' H' G'' H'') : JC G H f sd F S G'' H'' := by
  obtain ⟨x, ⟨fv, a, b⟩, c, ⟨sv, d, e⟩, g⟩ := j
  exact ⟨x.trans y, ⟨fv, y.same _ _ a, dtAll_mono y.g b⟩, y.fr f (by rw [a]; exact fun z => nomatch z) c, ⟨sv, y.same _ _ d, dtAll_mono y.g e⟩, y.fr sd (by rw [d]; exact fun z => nomatch z) g⟩
def JO (G H : Hp) (a b f sd : Addr) (s : List Rw × List (List Nat)) (σ : L2.St) (H' : Hp) : Prop := ∃ G', (∃ x4 x5 x6 x7 x8 x9 x10 x11, σ = [some (.ref a), some (.ref b), some (.ref f), some (.ref sd), x4, x5, x6, x7, x8, x9, x10, x11]) ∧ JC G H f sd s.1 s.2 G' H'
def JM (G H : Hp) (a b f sd c l : Addr) (S : List (List Nat)) (s : List Rw × List Nat) (σ : L2.St) (H' : Hp) : Prop := ∃ G', (∃ x6 x7 x8 x9 x10 x11, σ = [some (.ref a), some (.ref b), some (.ref f), some (.ref sd), some (.ref c), some (.ref l), x6, x7, x8, x9, x10, x11]) ∧ JC G H f sd s.1 S G' H' ∧
  H' l = some (.lst (iN s.2)) ∧ G' l = none
def JI (G H : Hp) (a b f sd c l h t : Addr) (S : List (List Nat)) (ls : List Nat) (s : List Rw × List Nat) (σ : L2.St) (H' : Hp) : Prop := ∃ G', (∃ x8 x9 x10 x11, σ = [some (.ref a), some (.ref b), some (.ref f), some (.ref sd), some (.ref c), some (.ref l), some (.ref h), some (.ref t), x8, x9, x10, x11]) ∧ JC G H f sd s.1 S G' H' ∧
  H' l = some (.lst (iN ls)) ∧ G' l = none ∧ H' t = some (.lst (iN s.2)) ∧ G' t = none
def spJoin (K : PySem.W.Frag) : Sp := fun vs H Q _ => ∃ (G : Hp) (a b : Addr) (us ws : List V) (As Bs : List (List Rw)), vs = [.ref a, .ref b] ∧ Same G H ∧ G a = some (.lst us) ∧ G b = some (.lst ws) ∧ RL (HpI K) G us As ∧ RL (HpI K) G ws Bs ∧ As.length < 64 ∧ Bs.length < 64 ∧
  Ret M0 G H Q (rowsD (M84.joined As Bs))
theorem sc_joined_rows : FnScope ["mine", "others", "found", "sides", "heaps", "lasts", "heap", "there", "ours", "theirs", "row", "x"] ["mine", "others"] (defScope s_joined_rows) := ⟨rfl, rfl, rfl, by decide +kernel, rfl, by decide +kernel, by decide +kernel⟩
theorem ok_joined_rows (T : TX K mg) : DefOk P w K mg base 2 "joined_rows" ["mine", "others"] (spJoin K) := by
  have D_place_in := ok_place_in (P := P) (w := w) (base := base) T
  obtain ⟨fd, F⟩ := T.d_joined_rows
  refine ⟨fd, F.ok sc_joined_rows (fun vs H Q E h => ?_) (fun cdv A outer s H vs Q E hr h => ⟨_, PSs.nox (pss_cons (ps_set (i := 2) sc_joined_rows.nd rfl (Or.inl rfl) (pe_lst pa_nil))
  (pss_cons (ps_set (i := 3) sc_joined_rows.nd rfl (Or.inl rfl) (pe_lst pa_nil))
  (pss_cons (ps_for PassesOwn.never rfl (pi_tup (pe_tup (pa_cons (pv 0) (pa_cons (pv 1) pa_nil)))) (pg_name (i := 4) sc_joined_rows.nd rfl (Or.inl rfl))
    (pss_cons (ps_set (i := 5) sc_joined_rows.nd rfl (Or.inl rfl) (pe_lst pa_nil))
  (pss_cons (ps_for PassesOwn.never rfl (pi_list (pv 4)) (pg_name (i := 6) sc_joined_rows.nd rfl (Or.inl rfl))
    (pss_cons (ps_set (i := 7) sc_joined_rows.nd rfl (Or.inr rfl) (pe_lst pa_nil))
  (pss_cons (ps_for PassesOwn.never rfl (pi_list (pe_f K (pv 6))) (pg_tup rfl (pgs_cons (pg_name (i := 8) sc_joined_rows.nd rfl (Or.inl rfl)) (pgs_cons (pg_name (i := 9) sc_joined_rows.nd rfl (Or.inl rfl)) pgs_nil)))
    (pss_cons (ps_set (i := 10) sc_joined_rows.nd rfl (Or.inl rfl) (pe_tup (pa_cons (pe_callTy (tupK K) (by rfl) T.f_tuple (by decide +kernel) (pa_cons (pe_lc (own := [("x", 11)]) (g := gName 11) (tt := tYes) rfl sc_joined_rows.nd (pi_tup (pv 8)) (blkOk_by (own := [("x", 11)]) (N := ["mine", "others", "found", "sides", "heaps", "lasts", "heap", "there", "ours", "theirs", "row", "x"]) (sc := defScope s_joined_rows) (by decide +kernel)) (fun _ _ _ _ _ => (pg_name (i := 11) sc_joined_rows.nd rfl (Or.inl rfl))) (fun _ _ _ _ _ => pts_nil) (fun _ _ _ _ _ => (pe_ix (ixl K) (pv 7) (pv 11) (fun _ _ => rfl)))) pa_nil)) (pa_cons (pe_callTy (tupK K) (by rfl) T.f_tuple (by decide +kernel) (pa_cons (pe_lc (own := [("x", 11)]) (g := gName 11) (tt := tYes) rfl sc_joined_rows.nd (pi_tup (pv 9)) (blkOk_by (own := [("x", 11)]) (N := ["mine", "others", "found", "sides", "heaps", "lasts", "heap", "there", "ours", "theirs", "row", "x"]) (sc := defScope s_joined_rows) (by decide +kernel)) (fun _ _ _ _ _ => (pg_name (i := 11) sc_joined_rows.nd rfl (Or.inl rfl))) (fun _ _ _ _ _ => pts_nil) (fun _ _ _ _ _ => (pe_ix (ixl K) (pv 7) (pv 11) (fun _ _ => rfl)))) pa_nil)) pa_nil))))
  (pss_cons (ps_if (pt_cmpR (ninD K (un65 hr)) (pv 10) (pv 2) (by rfl))
    (pss_one (ps_expr (pe_bm PySem.F.plainAttrs_list PySem.F.slot_list_append PySem.F.type_list_append mt_append (pv 2) (pa_cons (pv 10) pa_nil))))
    pss_nil)
  (pss_one (ps_expr (pe_bm PySem.F.plainAttrs_list PySem.F.slot_list_append PySem.F.type_list_append mt_append (pv 7) (pa_cons (pe_d D_place_in (hr.mono (by decide)) (pa_cons (pv 2) (pa_cons (pv 10) pa_nil))) pa_nil)))))))
  (pss_one (ps_expr (pe_bm PySem.F.plainAttrs_list PySem.F.slot_list_append PySem.F.type_list_append mt_append (pv 5) (pa_cons (pe_ix (ixl K) (pv 7) (pe_un un_neg pe_int) (fun _ _ => rfl)) pa_nil)))))))
  (pss_one (ps_expr (pe_bm PySem.F.plainAttrs_list PySem.F.slot_list_append PySem.F.type_list_append mt_append (pv 3) (pa_cons (pe_callTy (tupK K) (by rfl) T.f_tuple (by decide +kernel) (pa_cons (pv 5) pa_nil)) pa_nil)))))))
  (pss_one (ps_ret (pe_op op_cat (pv 2) (pe_lst (pa_cons (pe_tup (pa_cons (pe_ix (ixl K) (pv 3) pe_int (fun _ _ => rfl)) (pa_cons (pe_ix (ixl K) (pv 3) pe_int (fun _ _ => rfl)) pa_nil))) pa_nil)))))))), ?_⟩), T.g_joined_rows, F.kp, F.bindsN fun _ _ _ _ _ _ us hl => match us, hl with | [_, _], _ => rfl⟩
  · obtain ⟨_, a, b, _, _, _, _, rfl, _⟩ := h
    rfl
  · obtain ⟨G, a, b, us, ws, As, Bs, rfl, e, ha, hb, hus, hws, lA, lB, k⟩ := h
    refine ⟨Nat.zero_le _, fun f nf => ⟨Nat.zero_le _, fun sd nsd => ?_⟩⟩
    have nfs : f ≠ sd := ne_of_none upd_same nsd
    have nsd' : H sd = none := by rw [upd_ne nfs.symm] at nsd; exact nsd
    have x0 : Ex M0 G H G (upd (upd H f (.lst [])) sd (.lst [])) := ((Ex.rfl' e).loc nf).loc nsd
    have j0 : JC G H f sd [] [] G (upd (upd H f (.lst [])) sd (.lst [])) := ⟨x0, ⟨[], by rw [upd_ne nfs, upd_same], .nil⟩, same_free e nf, ⟨[], upd_same, .nil⟩, same_free e nsd'⟩
    generalize upd (upd H f (.lst [])) sd (.lst []) = H1 at x0 j0 ⊢
    refine ⟨_, rfl, _, rfl, by show 2 ≤ sizeLine; decide, fun tt ht => ?_⟩
    have j1 := j0.go ((Ex.rfl' x0.gh).new (o := .tup [.ref a, .ref b]) ht)
    have ht1 : upd G tt (.tup [.ref a, .ref b]) tt = some (.tup [.ref a, .ref b]) := upd_same
    generalize upd H1 tt (.tup [.ref a, .ref b]) = H2 at j1 ⊢
    generalize upd G tt (.tup [.ref a, .ref b]) = G2 at j1 ht1
    clear j0 x0 ht
    refine ⟨tt, rfl, ⟨_, SqT.of (j1.x.gh _ _ ht1)⟩, for_tup (K := K) (a := tt) (xs := [.ref a, .ref b]) (fun i σ H' => H' tt = some (.tup [.ref a, .ref b]) ∧ JO G H a b f sd (([As, Bs].take i).foldl jOut ([], [])) σ H') ⟨j1.x.gh _ _ ht1, G2, ⟨_, _, _, _, _, _, _, _, rfl⟩, j1⟩ (fun i σ H' _ h => SqT.of h.1) ?_ ?_⟩
    · rintro i x σ H3 hi ⟨htt, G3, ⟨x4, x5, x6, x7, x8, x9, x10, x11, rfl⟩, j3⟩
      have hc : ∃ c cs L, x = .ref c ∧ G c = some (.lst cs) ∧ RL (HpI K) G cs L ∧ L.length < 64 ∧ [As, Bs][i]? = some L := by
        match i, hi with
        | 0, hi => exact ⟨a, us, As, (Option.some.inj hi).symm, ha, hus, lA, rfl⟩
        | 1, hi => exact ⟨b, ws, Bs, (Option.some.inj hi).symm, hb, hws, lB, rfl⟩
      have hi2 : i < 2 := (List.getElem?_eq_some_iff.mp hi).1
      obtain ⟨c, cs, L, rfl, hc, hcs, lL, eL⟩ := hc
      have hL : ∀ N ∈ L, N.length ≤ 200 := fun N hN => by
        obtain ⟨n, hn⟩ := List.mem_iff_getElem?.mp hN
        obtain ⟨v, _, _, _, _, _, _, hv⟩ := hcs.get hn
        exact hv.sm.len
      have fl0 : (([As, Bs].take i).foldl jOut ([], [])).1.length ≤ 12800 := by
        match i, hi2 with
        | 0, _ => exact Nat.zero_le _
        | 1, _ =>
          have hA : ∀ N ∈ As, N.length ≤ 200 := fun N hN => by
            obtain ⟨n, hn⟩ := List.mem_iff_getElem?.mp hN
            obtain ⟨v, _, _, _, _, _, _, hv⟩ := hus.get hn
            exact hv.sm.len
          have := (jSide_len As hA [] As.length (Nat.le_refl _)).1
          rw [List.take_length] at this
          show (As.foldl M84.jSide ([], [])).1.length ≤ _
          have e0 : ([] : List Rw).length = 0 := rfl
          omega
      have sl0 : (([As, Bs].take i).foldl jOut ([], [])).2.length ≤ 2 := by
        match i, hi2 with
        | 0, _ => exact Nat.zero_le _
        | 1, _ => exact Nat.le_succ _
      rw [fold_take eL]
      generalize ([As, Bs].take i).foldl jOut ([], []) = st at j3 fl0 sl0 ⊢
      obtain ⟨F0, S0⟩ := st
      have fl0' : S0.length ≤ 2 := sl0
      refine ⟨Nat.zero_le _, fun l nl => ?_⟩
      have nl0 := j3.x.free nl
      have j4 := j3.go ((Ex.rfl' j3.x.gh).loc (o := .lst []) nl)
      have gl := same_free j3.x.gh nl
      have nfl0 : f ≠ l := ne_of_none j3.hf.choose_spec.1 nl
      have nsl0 : sd ≠ l := ne_of_none j3.hs.choose_spec.1 nl
      have htt4 : upd H3 l (.lst []) tt = some (.tup [.ref a, .ref b]) := by rw [upd_ne (ne_of_none htt nl)]; exact htt
      have hl4 : upd H3 l (.lst []) l = some (.lst (iN [])) := upd_same
      generalize upd H3 l (.lst []) = H4 at j4 htt4 hl4 ⊢
      have lcs : cs.length = L.length := hcs.1
      refine ⟨_, rfl, c, rfl, ⟨_, SqL.of (j4.x.gh _ _ (j4.x.g _ _ hc))⟩, for_list (K := K) (a := c) (xs := cs) (fun i σ H' => H' tt = some (.tup [.ref a, .ref b]) ∧ JM G H a b f sd c l S0 ((L.take i).foldl M84.jSide (F0, [])) σ H') ⟨htt4, G3, ⟨_, _, _, _, _, _, rfl⟩, j4, hl4, gl⟩ (fun i σ H' _ ⟨_, _, _, j, _⟩ => SqL.of (j.x.gh _ _ (j.x.g _ _ hc))) ?_ ?_⟩
      · rintro m x σ H5 hm ⟨htt5, G5, ⟨x6, x7, x8, x9, x10, x11, rfl⟩, j5, hl5, gl5⟩
        obtain ⟨N, eN, hp, dx, nn, mm, rfl, hhp⟩ := hcs.get' hm
        have hm' : m < L.length := M84.lt_of_some eN
        obtain ⟨fl1, fl2⟩ := jSide_len L hL F0 m (Nat.le_of_lt hm')
        rw [fold_take eN]
        generalize (L.take m).foldl M84.jSide (F0, []) = st at j5 hl5 fl1 fl2 ⊢
        obtain ⟨F1, ls⟩ := st
        have fl1' : F1.length ≤ 25600 := by
          have : F0.length ≤ 12800 := fl0
          have : F1.length ≤ F0.length + 200 * m := fl1
          omega
        refine ⟨Nat.zero_le _, fun t nt => ?_⟩
        have nt0 := j5.x.free nt
        have j6 := j5.go ((Ex.rfl' j5.x.gh).loc (o := .lst []) nt)
        have gt := same_free j5.x.gh nt
        have htt6 : upd H5 t (.lst []) tt = some (.tup [.ref a, .ref b]) := by rw [upd_ne (ne_of_none htt5 nt)]; exact htt5
        have hl6 : upd H5 t (.lst []) l = some (.lst (iN ls)) := by rw [upd_ne (ne_of_none hl5 nt)]; exact hl5
        have ht6 : upd H5 t (.lst []) t = some (.lst (iN [])) := upd_same
        have nlt : l ≠ t := ne_of_none hl5 nt
        have nft : f ≠ t := ne_of_none j5.hf.choose_spec.1 nt
        have nst : sd ≠ t := ne_of_none j5.hs.choose_spec.1 nt
        generalize upd H5 t (.lst []) = H6 at j6 htt6 hl6 ht6 ⊢
        have hhp6 := hpAt_mono j6.x.g hhp
        obtain ⟨n, rvs, en, hn, hrv⟩ := dt_lst hhp.n
        cases en
        have lrv : rvs.length = N.length := by rw [dtAll_len hrv, List.length_map]
        refine ⟨_, rfl, hp, _, dx, _, .ref nn, rfl, j6.x.gh _ _ hhp6.e, T.c_Heap, T.n_Heap_node_list, rfl, nn, rfl, ⟨_, SqL.of (j6.x.gh _ _ (j6.x.g _ _ hn))⟩, for_list (K := K) (a := nn) (xs := rvs) (fun i σ H' => H' tt = some (.tup [.ref a, .ref b]) ∧ JI G H a b f sd c l hp t S0 ls ((N.take i).foldl M84.jStep (F1, [])) σ H') ⟨htt6, G5, ⟨_, _, _, _, rfl⟩, j6, hl6, gl5, ht6, gt⟩ (fun i σ H' _ ⟨_, _, _, j, _⟩ => SqL.of (j.x.gh _ _ (j.x.g _ _ hn))) ?_ ?_⟩
        · rintro q x σ H7 hq ⟨htt7, G7, ⟨x8, x9, x10, x11, rfl⟩, j7, hl7, gl7, ht7, gt7⟩
          obtain ⟨r, er, hr1⟩ := dtAll_map hrv hq
          obtain ⟨p, b1, c1, rfl, hpp, hb1, hc1⟩ := dt_rowD (dt_mono j7.x.g hr1)
          have hm : r ∈ N := List.mem_of_getElem? er
          have z1 := hhp.sm.l r hm
          have z2 := hhp.sm.r r hm
          obtain ⟨v1, v2⟩ := hhp.good.v q r er
          have hq' := M84.lt_of_some er
          obtain ⟨jl1, jl2⟩ := jHeap_len N F1 q (Nat.le_of_lt hq')
          rw [fold_take er]
          generalize (N.take q).foldl M84.jStep (F1, []) = st at j7 ht7 jl1 jl2 ⊢
          obtain ⟨F2, th⟩ := st
          have jl2' : th.length = q := jl2
          have fl2' : F2.length ≤ 26000 := by
            have : F2.length ≤ F1.length + q := jl1
            have := hhp.sm.len
            omega
          have elt : ∀ (σ : L2.St) (ms : List Nat), σ[7]? = some (some (.ref t)) → (∀ x ∈ ms, x < th.length) → ∀ (x : V) (H8 : Hp) (Q' : VK), x ∈ iN ms → σ[11]? = some (some x) → Same H7 H8 → Q' (liftN (fun i => th.getD i 0) x) H8 →
              (tOp (rIxL K) (tVar 7) (tVar 11)) σ H8 Q' := fun σ ms h7 hl x H8 Q' hx h11 s1 q => by
            obtain ⟨y, hy, rfl⟩ := of_iN_mem hx
            exact ⟨_, h7, _, h11, t, _, _, V.int ((th.getD y 0 : Nat) : Int), rfl, rfl, SqL.of (s1 _ _ ht7), atN (iN_get (getD_at (hl y hy))), q⟩
          refine ⟨p, _, rfl, SqT.of (j7.x.gh _ _ hpp), rfl, _, _, rfl, _, _, rfl, rfl, ?_⟩
          refine ⟨_, rfl, b1, rfl, ⟨_, SqT.of (j7.x.gh _ _ hb1)⟩, fun D hD => lcT (liftN fun i => th.getD i 0) (fun _ => true) (SqT.of (j7.x.gh _ _ hb1)) hD (by rw [iN_len]; exact sz63 z1) (fun _ => rfl) (fun _ _ _ _ _ q => q) (fun x H8 Q' hx _ s1 q => elt _ r.1 rfl (fun x hx => by rw [jl2']; exact v1 x hx) x H8 Q' hx rfl s1 q) ?_⟩
          rw [all_in, map_liftN]
          dsimp only [tCB, tCons, tNil]
          have s8 : Same H7 (upd H7 D (.lst (iN (r.1.map fun i => th.getD i 0)))) := fun b o e => by rw [upd_ne (ne_of_none e hD)]; exact e
          have hD8 : upd H7 D (.lst (iN (r.1.map fun i => th.getD i 0))) D = some (.lst (iN (r.1.map fun i => th.getD i 0))) := upd_same
          generalize upd H7 D (.lst (iN (r.1.map fun i => th.getD i 0))) = H8 at s8 hD8 ⊢
          refine ⟨D, _, rfl, .inl ⟨SqL.of hD8, fun p1 hp1 => ?_⟩⟩
          have y1 := (Ex.of_same (M := M0) j7.x.gh s8).new (o := .tup (iN (r.1.map fun i => th.getD i 0))) hp1
          have gp1 : upd G7 p1 (.tup (iN (r.1.map fun i => th.getD i 0))) p1 = some (.tup (iN (r.1.map fun i => th.getD i 0))) := upd_same
          generalize upd H8 p1 (.tup (iN (r.1.map fun i => th.getD i 0))) = H9 at y1 ⊢
          generalize upd G7 p1 (.tup (iN (r.1.map fun i => th.getD i 0))) = G9 at y1 gp1
          clear hD8 hp1 s8
          have hc9 := y1.gh _ _ (y1.g _ _ hc1)
          refine ⟨_, rfl, c1, rfl, ⟨_, SqT.of hc9⟩, fun D hD => lcT (liftN fun i => th.getD i 0) (fun _ => true) (SqT.of hc9) hD (by rw [iN_len]; exact sz63 z2) (fun _ => rfl) (fun _ _ _ _ _ q => q) (fun x H8 Q' hx _ s1 q => elt _ r.2 rfl (fun x hx => by rw [jl2']; exact v2 x hx) x H8 Q' hx rfl (y1.same.trans s1) q) ?_⟩
          rw [all_in, map_liftN]
          dsimp only [tCB, tCons, tNil]
          have s10 : Same H9 (upd H9 D (.lst (iN (r.2.map fun i => th.getD i 0)))) := fun b o e => by rw [upd_ne (ne_of_none e hD)]; exact e
          have hD10 : upd H9 D (.lst (iN (r.2.map fun i => th.getD i 0))) D = some (.lst (iN (r.2.map fun i => th.getD i 0))) := upd_same
          generalize upd H9 D (.lst (iN (r.2.map fun i => th.getD i 0))) = H10 at s10 hD10 ⊢
          refine ⟨D, _, rfl, .inl ⟨SqL.of hD10, fun p2 hp2 => ?_⟩⟩
          have y2 := (y1.trans (Ex.of_same (M := M0) y1.gh s10)).new (o := .tup (iN (r.2.map fun i => th.getD i 0))) hp2
          have gp2 : upd G9 p2 (.tup (iN (r.2.map fun i => th.getD i 0))) p2 = some (.tup (iN (r.2.map fun i => th.getD i 0))) := upd_same
          have gp1' : upd G9 p2 (.tup (iN (r.2.map fun i => th.getD i 0))) p1 = some (.tup (iN (r.1.map fun i => th.getD i 0))) := by rw [upd_ne (ne_of_none gp1 (same_free (y1.gh.trans s10) hp2))]; exact gp1
          generalize upd H10 p2 (.tup (iN (r.2.map fun i => th.getD i 0))) = H11 at y2 ⊢
          generalize upd G9 p2 (.tup (iN (r.2.map fun i => th.getD i 0))) = G11 at y2 gp2 gp1'
          refine ⟨by show 2 ≤ sizeLine; decide, fun t2 ht2 => ?_⟩
          have y3 := y2.new (o := .tup [.ref p1, .ref p2]) ht2
          have gs := same_upd (o := HO.tup [V.ref p1, V.ref p2]) (same_free y2.gh ht2)
          have dr : Dt (upd G11 t2 (.tup [.ref p1, .ref p2])) (.ref t2) (rowD (M84.jRow th r)) := rowD_dt upd_same (gs _ _ gp1') (gs _ _ gp2)
          show tSeq _ _ _ _ (upd H11 t2 (.tup [.ref p1, .ref p2]))
          generalize upd H11 t2 (.tup [.ref p1, .ref p2]) = H12 at y3 ⊢
          generalize upd G11 t2 (.tup [.ref p1, .ref p2]) = G12 at y3 dr
          clear gs gp2 gp1' gp1 hD10 hp2 s10 y1 y2 ht2
          have j12 := j7.go y3
          have htt12 := y3.same _ _ htt7
          have hl12 := y3.same _ _ hl7
          have gl12 := y3.fr l (by rw [hl7]; exact fun z => nomatch z) gl7
          have ht12 := y3.same _ _ ht7
          have gt12 := y3.fr t (by rw [ht7]; exact fun z => nomatch z) gt7
          obtain ⟨fv, hf12, df12⟩ := j12.hf
          have lfv : fv.length = F2.length := by rw [dtAll_len df12, List.length_map]
          have fin : ∀ (F3 : List Rw) (fv3 : List V) (H13 : Hp) (En : Ends) (σ : L2.St), σ = [some (.ref a), some (.ref b), some (.ref f), some (.ref sd), some (.ref c), some (.ref l), some (.ref hp), some (.ref t), some (.ref b1), some (.ref c1), some (.ref t2), x11] → JC G H f sd F3 S0 G12 H13 → H13 f = some (.lst fv3) → DtAll G12 fv3 (F3.map rowD) → M84.jRow th r ∈ F3 →
              F3 = (if M84.jRow th r ∈ F2 then F2 else F2 ++ [M84.jRow th r]) → H13 tt = some (.tup [.ref a, .ref b]) → H13 l = some (.lst (iN ls)) → H13 t = some (.lst (iN th)) → (∀ σ H', H' tt = some (.tup [.ref a, .ref b]) → JI G H a b f sd c l hp t S0 ls (M84.jStep (F2, th) r) σ H' → En.nx σ H') →
              (tDrop (tBM K "list" rAppend (tVar 7) (tCons (tCall spPlace [] E0 (tCons (tVar 2) (tCons (tVar 10) tNil))) tNil))) En σ H13 := by
            rintro F3 fv3 H13 En σ rfl j13 k1 k2 k3 k4 k5 k6 k7 kn
            refine ⟨_, rfl, .inl ⟨rfl, _, SqL.of k7⟩, ?_⟩
            refine ⟨_, rfl, _, rfl, Rw, inferInstance, inferInstance, inferInstance, rowD, F3, M84.jRow th r, _, _, rfl, Dt.lst k1 (dtAll_mono j13.x.gh k2), dt_mono j13.x.gh dr, eqv_rowD, shaped_rowD, k3, fun H14 s14 => ?_⟩
            have j14 := j13.go (Ex.of_same j13.x.gh s14)
            have k7' := s14 _ _ k7
            refine ⟨t, _, _, rfl, rfl, k7', by rw [iN_len, jl2']; exact small1000 (by have := hhp.sm.len; omega), ?_⟩
            obtain ⟨sv, hsv, dsv⟩ := j14.hs
            refine kn _ _ ((upd_ne (fun z => by rw [z] at k5; have := s14 _ _ k5; rw [k7'] at this; cases this)).trans (s14 _ _ k5)) ⟨G12, ⟨_, _, _, _, rfl⟩, ⟨j14.x.mut (.inl nt0) gt12, ⟨fv3, ?_, ?_⟩, j14.gf, ⟨sv, (upd_ne nst).trans hsv, dsv⟩, j14.gs⟩, (upd_ne nlt).trans (s14 _ _ k6), gl12, ?_, gt12⟩
            · exact (upd_ne nft).trans (s14 _ _ k1)
            · show DtAll G12 fv3 ((if M84.jRow th r ∈ F2 then F2 else F2 ++ [M84.jRow th r]).map rowD)
              rw [← k4]; exact k2
            · rw [upd_same]
              show some (HO.lst (iN th ++ [V.int ((F3.idxOf (M84.jRow th r) : Nat) : Int)])) = some (HO.lst (iN (th ++ [(if M84.jRow th r ∈ F2 then F2 else F2 ++ [M84.jRow th r]).idxOf (M84.jRow th r)])))
              rw [← k4, iN_snoc]
          refine ⟨_, rfl, _, rfl, rowD (M84.jRow th r), F2.map rowD, (dt_mono j12.x.gh dr).dp, (Dt.lst hf12 (dtAll_mono j12.x.gh df12)).dp, shaped_rowD _, shaped_rowsD _, _, rfl, ?_⟩
          by_cases hmem : M84.jRow th r ∈ F2
          · rw [any_yes eqv_rowD hmem]
            exact iteF (fin F2 fv H12 _ _ rfl j12 hf12 df12 hmem (by rw [if_pos hmem]) htt12 hl12 ht12 fun σ H' k1 k2 => ⟨k1, k2⟩)
          · rw [any_no eqv_rowD hmem]
            refine iteT ⟨_, rfl, .inl ⟨rfl, _, SqL.of hf12⟩, _, rfl, f, fv, _, rfl, rfl, hf12, by rw [lfv]; exact Nat.lt_of_le_of_lt fl2' (by decide), ?_⟩
            obtain ⟨sv, hsv, dsv⟩ := j12.hs
            have d3 : DtAll G12 (fv ++ [.ref t2]) ((F2 ++ [M84.jRow th r]).map rowD) := by rw [List.map_append]; exact dtAll_snoc df12 dr
            have ef : ∀ {p : Addr} {o : HO} {u : HO}, H12 p = some u → f ≠ p → upd H12 f o p = some u := fun h ne => by rw [upd_ne ne.symm]; exact h
            refine fin (F2 ++ [M84.jRow th r]) (fv ++ [.ref t2]) _ _ _ rfl ⟨j12.x.mut (.inl nf) j12.gf, ⟨_, upd_same, d3⟩, j12.gf, ⟨sv, ef hsv nfs, dsv⟩, j12.gs⟩ upd_same d3 (by simp) (by rw [if_neg hmem]) (ef htt12 fun z => by rw [z] at hf12; rw [hf12] at htt12; cases htt12) (ef hl12 nfl0) (ef ht12 nft) fun σ H' k1 k2 => ⟨k1, k2⟩
        · rintro σ H7 ⟨htt7, G7, ⟨x8, x9, x10, x11, rfl⟩, j7, hl7, gl7, ht7, gt7⟩
          rw [lrv, List.take_length] at j7 ht7
          obtain ⟨_, jl2⟩ := jHeap_len N F1 N.length (Nat.le_refl _)
          rw [List.take_length] at jl2
          refine ⟨_, rfl, .inl ⟨rfl, _, SqL.of hl7⟩, ?_⟩
          have thne : (N.foldl M84.jStep (F1, [])).2 ≠ [] := fun z => hhp.good.ne (by rw [z] at jl2; exact List.length_eq_zero_iff.mp jl2.symm)
          refine ⟨_, rfl, _, rfl, t, _, _, _, rfl, rfl, SqL.of ht7, at_last thne, ?_⟩
          refine ⟨l, _, _, rfl, rfl, hl7, by rw [iN_len]; have : ls.length = m := fl2; exact small1000 (by omega), ?_⟩
          obtain ⟨fv, hfv, dfv⟩ := j7.hf
          obtain ⟨sv, hsv, dsv⟩ := j7.hs
          refine ⟨(upd_ne (fun z => by rw [z] at htt7; rw [hl7] at htt7; cases htt7)).trans htt7, G7, ⟨_, _, _, _, _, _, rfl⟩, ⟨j7.x.mut (.inl nl0) gl7, ⟨fv, (upd_ne nfl0).trans hfv, dfv⟩, j7.gf, ⟨sv, (upd_ne nsl0).trans hsv, dsv⟩, j7.gs⟩, ?_, gl7⟩
          rw [upd_same]
          show some (HO.lst (iN ls ++ [_])) = some (HO.lst (iN (ls ++ [_])))
          rw [iN_snoc] <;> rfl
      · rintro σ H5 ⟨htt5, G5, ⟨x6, x7, x8, x9, x10, x11, rfl⟩, j5, hl5, gl5⟩
        rw [lcs, List.take_length] at j5 hl5
        obtain ⟨fv, hfv, dfv⟩ := j5.hf
        obtain ⟨sv, hsv, dsv⟩ := j5.hs
        refine ⟨_, rfl, .inl ⟨rfl, _, SqL.of hsv⟩, ?_⟩
        refine ⟨_, rfl, l, _, rfl, .inl ⟨SqL.of hl5, fun p hp => ?_⟩⟩
        have j6 := j5.go ((Ex.rfl' j5.x.gh).new (o := .tup (iN (L.foldl M84.jSide (F0, [])).2)) hp)
        have dp : Dt (upd G5 p (.tup (iN (L.foldl M84.jSide (F0, [])).2))) (.ref p) (tN (L.foldl M84.jSide (F0, [])).2) := tN_dt upd_same
        have hsv6 : upd H5 p (.tup (iN (L.foldl M84.jSide (F0, [])).2)) sd = some (.lst sv) := (upd_ne (ne_of_none hsv hp)).trans hsv
        have htt6 : upd H5 p (.tup (iN (L.foldl M84.jSide (F0, [])).2)) tt = _ := (upd_ne (ne_of_none htt5 hp)).trans htt5
        have dsv6 := dtAll_mono (same_upd (o := .tup (iN (L.foldl M84.jSide (F0, [])).2)) (same_free j5.x.gh hp)) dsv
        generalize upd H5 p (.tup (iN (L.foldl M84.jSide (F0, [])).2)) = H6 at j6 hsv6 htt6 ⊢
        generalize upd G5 p (.tup (iN (L.foldl M84.jSide (F0, [])).2)) = G6 at j6 dp dsv6
        have lsv : sv.length = S0.length := by rw [dtAll_len dsv, List.length_map]
        refine ⟨sd, sv, _, rfl, rfl, hsv6, by rw [lsv]; exact small1000 (by omega), ?_⟩
        obtain ⟨fv, hfv, dfv⟩ := j6.hf
        refine ⟨(upd_ne (fun z => by rw [z] at htt6; rw [hsv6] at htt6; cases htt6)).trans htt6, G6, ⟨_, _, _, _, _, _, _, _, rfl⟩, ⟨j6.x.mut (.inl nsd') j6.gs, ⟨fv, (upd_ne nfs).trans hfv, dfv⟩, j6.gf, ⟨sv ++ [.ref p], upd_same, ?_⟩, j6.gs⟩⟩
        show DtAll G6 _ ((S0 ++ [(L.foldl M84.jSide (F0, [])).2]).map tN)
        rw [List.map_append]
        exact dtAll_snoc dsv6 dp
    · rintro σ H3 ⟨htt, G3, ⟨x4, x5, x6, x7, x8, x9, x10, x11, rfl⟩, j3⟩
      have hA : ∀ N ∈ As, N.length ≤ 200 := fun N hN => by
        obtain ⟨n, hn⟩ := List.mem_iff_getElem?.mp hN
        obtain ⟨v, _, _, _, _, _, _, hv⟩ := hus.get hn
        exact hv.sm.len
      have hB : ∀ N ∈ Bs, N.length ≤ 200 := fun N hN => by
        obtain ⟨n, hn⟩ := List.mem_iff_getElem?.mp hN
        obtain ⟨v, _, _, _, _, _, _, hv⟩ := hws.get hn
        exact hv.sm.len
      have q1 := (jSide_len As hA [] As.length (Nat.le_refl _)).1
      have q2 := (jSide_len Bs hB (As.foldl M84.jSide ([], [])).1 Bs.length (Nat.le_refl _)).1
      rw [List.take_length] at q1 q2
      have j3' : JC G H f sd (Bs.foldl M84.jSide ((As.foldl M84.jSide ([], [])).1, [])).1 [(As.foldl M84.jSide ([], [])).2, (Bs.foldl M84.jSide ((As.foldl M84.jSide ([], [])).1, [])).2] G3 H3 := j3
      obtain ⟨fv, hfv, dfv⟩ := j3'.hf
      obtain ⟨sv, hsv, dsv⟩ := j3'.hs
      have lfv : fv.length ≤ 25600 := by
        rw [dtAll_len dfv, List.length_map]
        have e0 : ([] : List Rw).length = 0 := rfl
        omega
      cases dsv with
      | cons d1 dsv =>
        cases dsv with
        | cons d2 dsv =>
          cases dsv
          obtain ⟨q1, rfl, gq1⟩ := dt_tN d1
          obtain ⟨q2, rfl, gq2⟩ := dt_tN d2
          refine ⟨_, rfl, _, rfl, sd, _, _, _, rfl, rfl, SqL.of hsv, atN (j := 0) rfl, _, rfl, sd, _, _, _, rfl, rfl, SqL.of hsv, atN (j := 1) rfl, by show 2 ≤ sizeLine; decide, fun t ht => ?_⟩
          have j4 := j3'.go ((Ex.rfl' j3.x.gh).new (o := .tup [.ref q1, .ref q2]) ht)
          have gs := same_upd (o := HO.tup [V.ref q1, V.ref q2]) (same_free j3.x.gh ht)
          have dr := Dt.tup (H := upd G3 t (.tup [.ref q1, .ref q2])) upd_same (.cons (dt_mono gs d1) (.cons (dt_mono gs d2) .nil))
          have hfv4 := (upd_ne (o := HO.tup [V.ref q1, V.ref q2]) (ne_of_none hfv ht)).trans hfv
          refine ⟨by show 1 ≤ sizeLine; decide, fun t2 ht2 => ?_⟩
          have j5 := j4.go ((Ex.rfl' j4.x.gh).loc (o := .lst [.ref t]) ht2)
          have hfv5 := (upd_ne (o := HO.lst [V.ref t]) (ne_of_none hfv4 ht2)).trans hfv4
          refine ⟨f, t2, _, _, rfl, rfl, hfv5, upd_same, by show _ + 1 ≤ sizeLine; exact Nat.le_trans (Nat.succ_le_succ lfv) (by decide), fun p hp => ?_⟩
          have x6 := j5.x.new (o := .lst (fv ++ [.ref t])) hp
          refine k _ _ _ x6 (Dt.lst upd_same ?_)
          have gs2 := same_upd (o := HO.lst (fv ++ [.ref t])) (same_free j5.x.gh hp)
          show DtAll _ _ (((Bs.foldl M84.jSide ((As.foldl M84.jSide ([], [])).1, [])).1 ++ [((As.foldl M84.jSide ([], [])).2, (Bs.foldl M84.jSide ((As.foldl M84.jSide ([], [])).1, [])).2)]).map rowD)
          rw [List.map_append]
          exact dtAll_mono gs2 (dtAll_snoc (dtAll_mono gs dfv) dr)
end
end G84

namespace G84
open PySem PySem.Spec PyProof.Rows L2
/-! W9: Rows, Heap made. -/
section
variable {P : Program} {w : World} {K : PySem.W.Frag} {mg : Str → Option Value} {base : Heap}
def spRows (K : PySem.W.Frag) : Sp := fun vs H Q _ => ∃ (a dx : Addr) (v : V), vs = [.ref a, v] ∧ H a = some (.ins (He.ga K "Rows") dx []) ∧ Q .non (upd H a (.ins (He.ga K "Rows") dx [("kept_rows", v)]))
theorem sc_Rows_init : FnScope ["self", "rows"] ["self", "rows"] (defScope s_Rows_init) := ⟨rfl, rfl, rfl, by decide +kernel, rfl, by decide +kernel, by decide +kernel⟩
theorem ok_Rows (T : TX K mg) : MakeOk P w K mg base 1 "Rows" ["self", "rows"] (spRows K) := by
  obtain ⟨fd, F⟩ := T.d_Rows_init
  refine ⟨fd, F.ok sc_Rows_init (fun vs H Q E h => ?_) (fun cdv A outer s H vs Q E hr h => ⟨_, PSs.nox (pss_one (ps_fld (pv 0) (pv 1) rfl)), ?_⟩), T.k_Rows, T.g_Rows, F.bindsN fun _ _ _ _ _ _ us hl => match us, hl with | [_, _], _ => rfl⟩
  · obtain ⟨a, dx, v, rfl, _⟩ := h
    rfl
  · obtain ⟨a, dx, v, rfl, ha, k⟩ := h
    exact ⟨_, rfl, _, rfl, a, _, dx, [], rfl, ha, T.c_Rows, T.n_Rows_kept_rows, by decide, k⟩
def spHeap (K : PySem.W.Frag) : Sp := fun vs H Q _ => ∃ (G : Hp) (self dx : Addr) (ours theirs : V) (N : List Rw), vs = [.ref self, ours, theirs] ∧ Same G H ∧ G self = none ∧ H self = some (.ins (He.ga K "Heap") dx []) ∧ M84.Good N ∧ Sm N ∧
  ((∃ a d n, ours = .ref a ∧ G a = some (.ins (He.ga K "Rows") d [("kept_rows", .ref n)]) ∧ Dt G (.ref n) (rowsD N)) ∨
   (∃ a b us ws As Bs, ours = .ref a ∧ theirs = .ref b ∧ G a = some (.lst us) ∧ G b = some (.lst ws) ∧ RL (HpI K) G us As ∧ RL (HpI K) G ws Bs ∧ As.length < 64 ∧ Bs.length < 64 ∧ N = M84.joined As Bs)) ∧
  ∀ G' H' n m, Ex (fun b => b = self) G H G' H' → G' self = none → H' self = some (.ins (He.ga K "Heap") dx [("node_list", .ref n), ("mark_list", .ref m)]) → Dt G' (.ref n) (rowsD N) → Dt G' (.ref m) (rowsD (M84.marks leM N)) → Q .non H'
theorem sc_Heap_init : FnScope ["self", "ours", "theirs", "mine"] ["self", "ours", "theirs"] (defScope s_Heap_init) := ⟨rfl, rfl, rfl, by decide +kernel, rfl, by decide +kernel, by decide +kernel⟩
theorem ok_Heap (T : TX K mg) : MakeOk P w K mg base 4 "Heap" ["self", "ours", "theirs"] (spHeap K) := by
  have D_checked_heaps := ok_checked_heaps (P := P) (w := w) (base := base) T
  have D_joined_rows := ok_joined_rows (P := P) (w := w) (base := base) T
  have D_marks_of := ok_marks_of (P := P) (w := w) (base := base) T
  obtain ⟨fd, F⟩ := T.d_Heap_init
  refine ⟨fd, F.ok sc_Heap_init (fun vs H Q E h => ?_) (fun cdv A outer s H vs Q E hr h => ⟨_, PSs.nox (pss_cons (ps_if (pt_val (pe_callB call_isi (by rfl) T.f_isinstance (by decide +kernel) (pa_cons (pv 1) (pa_cons (pe_glob (v := .ref (He.ga K "Rows")) (u := .ref (He.ga K "Rows")) rfl T.g_Rows rfl) pa_nil))))
    (pss_one (ps_fld (pv 0) (pe_f K (pv 1)) rfl))
    (pss_cons (ps_set (i := 3) sc_Heap_init.nd rfl (Or.inl rfl) (pe_d D_checked_heaps (hr.mono (by decide)) (pa_cons (pv 1) (pa_cons pe_int pa_nil))))
  (pss_one (ps_fld (pv 0) (pe_d D_joined_rows (hr.mono (by decide)) (pa_cons (pv 3) (pa_cons (pe_d D_checked_heaps (hr.mono (by decide)) (pa_cons (pv 2) (pa_cons (pe_callB (lenS K) (by rfl) T.f_len (by decide +kernel) (pa_cons (pv 3) pa_nil)) pa_nil))) pa_nil))) rfl))))
  (pss_one (ps_fld (pv 0) (pe_d D_marks_of (hr.mono (by decide)) (pa_cons (pe_f K (pv 0)) pa_nil)) rfl))), ?_⟩), T.k_Heap, T.g_Heap, F.bindsN fun _ _ _ _ _ _ us hl => match us, hl with | [_, _, _], _ => rfl⟩
  · obtain ⟨_, a, dx, o, t, _, rfl, _⟩ := h
    rfl
  · obtain ⟨G, self, dx, o, t, N, rfl, e, gs, hs, good, sm, hc, k⟩ := h
    have fin : ∀ (G1 H1 : Hp) (n : Addr) (σ : L2.St) (En : Ends), (∃ x1 x2 x3, σ = [some (.ref self), x1, x2, x3]) → Ex (fun b => b = self) G H G1 H1 → G1 self = none → H1 self = some (.ins (He.ga K "Heap") dx [("node_list", .ref n)]) → Dt G1 (.ref n) (rowsD N) →
        (∀ σ H', Q .non H' → En.nx σ H') → (sFld K (tVar 0) (tCall spMarks [] E0 (tCons (tFld K (tVar 0) "node_list") tNil)) "mark_list") En σ H1 := by
      rintro G1 H1 n σ En ⟨x1, x2, x3, rfl⟩ y1 g1 h1 d1 kn
      refine ⟨_, rfl, self, _, dx, _, .ref n, rfl, h1, T.c_Heap, T.n_Heap_node_list, rfl, G1, N, _, rfl, y1.gh, d1, good.v, good.ne, sm, fun G2 H2 m y2 dm => ?_⟩
      obtain ⟨ma, _, rfl, _, _⟩ := dt_lst dm
      have g2 := y2.fr self (by rw [h1]; exact fun z => nomatch z) g1
      exact ⟨_, rfl, self, _, dx, _, rfl, y2.same _ _ h1, T.c_Heap, T.n_Heap_mark_list, by show 1 < 1000; decide, kn _ _ (k G2 _ n ma ((y1.trans (y2.mono fun _ z => z.elim)).mut (.inr rfl) g2) g2 upd_same (dt_mono y2.g d1) dm)⟩
    rcases hc with ⟨a, d, n, rfl, ha, hn⟩ | ⟨a, b, us, ws, As, Bs, rfl, rfl, ha, hb, hus, hws, lA, lB, rfl⟩
    · refine ⟨_, rfl, _, _, _, _, true, rfl, .own _, T.tyRows (e _ _ ha), T.xf.rr, _, rfl, iteT ?_⟩
      refine ⟨_, rfl, a, _, d, _, .ref n, rfl, e _ _ ha, T.c_Rows, T.n_Rows_kept_rows, rfl, _, rfl, self, _, dx, _, rfl, hs, T.c_Heap, T.n_Heap_node_list, by decide, ?_⟩
      exact fin G _ n _ _ ⟨_, _, _, rfl⟩ ((Ex.rfl' e).mut (.inr rfl) gs) gs upd_same hn fun _ _ z => z
    · refine ⟨_, rfl, _, _, _, _, false, rfl, .own _, .base (.lst (e _ _ ha)), T.xf.lr, _, rfl, iteF ?_⟩
      refine ⟨_, rfl, G, a, us, As, 0, rfl, e, ha, hus, fun G1 H1 p x1 hp => ?_⟩
      refine ⟨_, rfl, _, rfl, _, rfl, p, us, rfl, .inl (SqL.of (x1.gh _ _ hp)), G1, b, ws, Bs, _, rfl, x1.gh, x1.g _ _ hb, hws.mono (hpI_mono K) x1.g, fun G2 H2 q x2 hq => ?_⟩
      refine ⟨G2, p, q, us, ws, As, Bs, rfl, x2.gh, x2.g _ _ hp, hq, hus.mono (hpI_mono K) (x1.trans x2).g, hws.mono (hpI_mono K) (x1.trans x2).g, lA, lB, fun G3 H3 v x3 dv => ?_⟩
      obtain ⟨n, _, rfl, _, _⟩ := dt_lst dv
      have x123 := (x1.trans x2).trans x3
      have g3 := x123.fr self (by rw [hs]; exact fun z => nomatch z) gs
      refine ⟨_, rfl, self, _, dx, _, rfl, x123.same _ _ hs, T.c_Heap, T.n_Heap_node_list, by decide, ?_⟩
      exact fin G3 _ n _ _ ⟨_, _, _, rfl⟩ ((x123.mono fun _ z => z.elim).mut (.inr rfl) g3) g3 upd_same dv fun _ _ z => z
end
end G84

namespace G84
open PySem PySem.Spec PyProof.Rows L2
/-! W10: heap_of, heap_at. -/
theorem Ex.join {G H G1 H1 G2 H2 : Hp} {p : Addr} (a : Ex M0 G H G1 H1) (hp : H p = none) (b : Ex (fun b => b = p) G1 H1 G2 H2) : Ex M0 G H G2 H2 :=
  ⟨fun c o e _ => b.s c o (a.same c o e) (ne_of_none e hp), a.g.trans b.g, b.gh, fun c h g => b.fr c (a.al c h) (a.fr c h g), fun c h => b.al c (a.al c h)⟩
def RetH (K : PySem.W.Frag) (M : Addr → Prop) (G H : Hp) (Q : VK) (N : List Rw) : Prop := ∀ G' H' v, Ex M G H G' H' → HpI K G' v N → Q v H'
/-- a Heap is made -/
theorem mk_heap {K : PySem.W.Frag} {G H : Hp} {N : List Rw} {Q : VK} {ours theirs : V} (e : Same G H) (good : M84.Good N) (sm : Sm N) 
  (hc : (∃ a d n, ours = .ref a ∧ G a = some (.ins (He.ga K "Rows") d [("kept_rows", .ref n)]) ∧ Dt G (.ref n) (rowsD N)) ∨
   (∃ a b us ws As Bs, ours = .ref a ∧ theirs = .ref b ∧ G a = some (.lst us) ∧ G b = some (.lst ws) ∧ RL (HpI K) G us As ∧ RL (HpI K) G ws Bs ∧ As.length < 64 ∧ Bs.length < 64 ∧ N = M84.joined As Bs)) (k : RetH K M0 G H Q N) {E : XK} :
  ∀ x dx, H x = none → H dx = none → dx ≠ x → spHeap K (.ref x :: ([ours, theirs] ++ [])) (upd (upd H dx (.own x)) x (.ins (He.ga K "Heap") dx [])) (fun v H2 => v = .non ∧ Q (.ref x) H2) E := by
  intro x dx hx hdx ne
  have y1 := (Ex.rfl' (M := M0) e).new (o := .own x) hdx
  have hx1 : upd H dx (.own x) x = none := by rw [upd_ne ne.symm]; exact hx
  have y2 := y1.loc (o := .ins (He.ga K "Heap") dx []) hx1
  have g2 := same_free y1.gh hx1
  have gs := y1.g
  refine ⟨_, x, dx, ours, theirs, N, rfl, y2.gh, g2, upd_same, good, sm, ?_, fun G' H' n m y3 g3 h3 dn dm => ⟨rfl, ?_⟩⟩
  · rcases hc with ⟨a, d, n, h1, h2, h3⟩ | ⟨a, b, us, ws, As, Bs, h1, h2, h3, h4, h5, h6, h7⟩
    · exact .inl ⟨a, d, n, h1, gs _ _ h2, dt_mono gs h3⟩
    · exact .inr ⟨a, b, us, ws, As, Bs, h1, h2, gs _ _ h3, gs _ _ h4, h5.mono (hpI_mono K) gs, h6.mono (hpI_mono K) gs, h7⟩
  · have y4 := (y2.join hx y3).frz hx h3 g3
    have gs3 := same_upd (o := .ins (He.ga K "Heap") dx [("node_list", .ref n), ("mark_list", .ref m)]) g3
    exact k _ _ _ y4 ⟨x, dx, n, m, rfl, upd_same, dt_mono gs3 dn, dt_mono gs3 dm, good, sm⟩
section
variable {P : Program} {w : World} {K : PySem.W.Frag} {mg : Str → Option Value} {base : Heap}
def spHeapOf (K : PySem.W.Frag) : Sp := fun vs H Q _ => ∃ (G : Hp) (v : V) (N : List Rw), vs = [v] ∧ Same G H ∧ Dt G v (rowsD N) ∧ M84.Good N ∧ Sm N ∧ RetH K M0 G H Q N
theorem sc_heap_of : FnScope ["nodes"] ["nodes"] (defScope s_heap_of) := ⟨rfl, rfl, rfl, by decide +kernel, rfl, by decide +kernel, by decide +kernel⟩
theorem ok_heap_of (T : TX K mg) : DefOk P w K mg base 6 "heap_of" ["nodes"] (spHeapOf K) := by
  have D_Heap := ok_Heap (P := P) (w := w) (base := base) T
  have D_Rows := ok_Rows (P := P) (w := w) (base := base) T
  obtain ⟨fd, F⟩ := T.d_heap_of
  refine ⟨fd, F.ok sc_heap_of (fun vs H Q E h => ?_) (fun cdv A outer s H vs Q E hr h => ⟨_, PSs.nox (pss_one (ps_ret (pe_mk D_Heap (hr.mono (by decide)) (pa_cons (pe_mk D_Rows (hr.mono (by decide)) (pa_cons (pv 0) pa_nil)) (pa_cons pe_non pa_nil))))), ?_⟩), T.g_heap_of, F.kp, F.bindsN fun _ _ _ _ _ _ us hl => match us, hl with | [_], _ => rfl⟩
  · obtain ⟨_, v, _, rfl, _⟩ := h
    rfl
  · obtain ⟨G, v, N, rfl, e, hv, good, sm, k⟩ := h
    obtain ⟨n, _, rfl, _, _⟩ := dt_lst hv
    refine ⟨_, rfl, fun x dx hx hdx ne => ⟨x, dx, .ref n, rfl, upd_same, rfl, ?_⟩⟩
    have y1 := (Ex.rfl' (M := M0) e).new (o := .own x) hdx
    have hx1 : upd H dx (.own x) x = none := by rw [upd_ne ne.symm]; exact hx
    have g1 := same_free y1.gh hx1
    have y2 := ((y1.loc (o := .ins (He.ga K "Rows") dx []) hx1).mut (o := .ins (He.ga K "Rows") dx [("kept_rows", .ref n)]) (.inl hx) g1).frz hx upd_same g1
    refine mk_heap y2.gh good sm (.inl ⟨x, dx, n, rfl, upd_same, dt_mono y2.g hv⟩) fun G' H' v y3 hv => k G' H' v (y2.trans y3) hv
/-- the table of needed rows -/
def TabB (kvs : List (Key × V)) (S : Nat → Bool) : Prop := ∀ x : Nat, (valV kvs (.inl (x : Int))).isSome = S x
theorem tabB_put {kvs : List (Key × V)} {S : Nat → Bool} (h : TabB kvs S) (o : Nat) (v : V) : TabB (putK kvs (.inl (o : Int)) v) (fun x => S x || decide (x = o)) := by
  intro x
  rw [valV_put]
  by_cases e : x = o
  · subst e; simp
  · have : (Sum.inl (x : Int) : Key) ≠ .inl (o : Int) := fun z => e (by have := Sum.inl.inj z; omega)
    rw [if_neg this, h x]
    show S x = (S x || decide (x = o))
    rw [decide_eq_false e, Bool.or_false]
def NI (G H : Hp) (a d : Addr) (n : Nat) (S : Nat → Bool) (c : Nat) (σ : L2.St) (H' : Hp) : Prop := ∃ kvs, (∃ x3 x4 x5 x6 x7, σ = [some (.ref a), some (.int (n : Int)), some (.ref d), x3, x4, x5, x6, x7]) ∧ Ex M0 G H G H' ∧ H' d = some (.dK kvs) ∧ TabB kvs S ∧ kvs.length ≤ c
def AI (G H : Hp) (a d f t : Addr) (n : Nat) (S : Nat → Bool) (i : Nat) (s : List Rw × (Nat → Nat)) (σ : L2.St) (H' : Hp) : Prop := ∃ G' kv0 kvs fv, (∃ x3 x4 x7, σ = [some (.ref a), some (.int (n : Int)), some (.ref d), x3, x4, some (.ref f), some (.ref t), x7]) ∧ Ex M0 G H G' H' ∧ H' d = some (.dK kv0) ∧ TabB kv0 S ∧
  H' f = some (.lst fv) ∧ DtAll G' fv (s.1.map rowD) ∧ G' f = none ∧ H' t = some (.dK kvs) ∧ G' t = none ∧ (∀ x, x < i → S x = true → valV kvs (.inl (x : Int)) = some (.int ((s.2 x : Nat) : Int))) ∧ kvs.length ≤ i
def spHeapAt (K : PySem.W.Frag) : Sp := fun vs H Q _ => ∃ (G : Hp) (v : V) (n : Nat) (N : List Rw), vs = [v, .int (n : Int)] ∧ Same G H ∧ Dt G v (rowsD N) ∧ M84.Val N ∧ n < N.length ∧ Sm N ∧ RetH K M0 G H Q (M84.heapAt N n)
theorem sm_heapAt {N : List Rw} {n : Nat} (v : M84.Val N) (hn : n < N.length) (sm : Sm N) : Sm (M84.heapAt N n) := by
  refine ⟨Nat.le_trans (M84.heapAt_len v n) (by have := sm.len; omega), fun r hr => ?_, fun r hr => ?_⟩
  · obtain ⟨x, hx, e, _⟩ := M84.heapAt_row v hr
    rw [e, M84.getD_lt (by omega)]
    exact sm.l _ (List.getElem_mem _)
  · obtain ⟨x, hx, _, e⟩ := M84.heapAt_row v hr
    rw [e, M84.getD_lt (by omega)]
    exact sm.r _ (List.getElem_mem _)
theorem sc_heap_at : FnScope ["nodes", "number", "needed", "k", "other", "found", "there", "x"] ["nodes", "number"] (defScope s_heap_at) := ⟨rfl, rfl, rfl, by decide +kernel, rfl, by decide +kernel, by decide +kernel⟩
theorem ok_heap_at (T : TX K mg) : DefOk P w K mg base 7 "heap_at" ["nodes", "number"] (spHeapAt K) := by
  have D_heap_of := ok_heap_of (P := P) (w := w) (base := base) T
  obtain ⟨fd, F⟩ := T.d_heap_at
  refine ⟨fd, F.ok sc_heap_at (fun vs H Q E h => ?_) (fun cdv A outer s H vs Q E hr h => ⟨_, PSs.nox (pss_cons (ps_set (i := 2) sc_heap_at.nd rfl (Or.inl rfl) (pe_disp (pps_cons (pv 1) pe_bl pps_nil) (by rfl) (by rfl) (fun z => by cases z) (by decide)))
  (pss_cons (ps_for PassesOwn.never rfl (pi_range3 rfl T.f_range (pa_cons (pv 1) (pa_cons (pe_un un_neg pe_int) (pa_cons (pe_un un_neg pe_int) pa_nil)))) (pg_name (i := 3) sc_heap_at.nd rfl (Or.inl rfl))
    (pss_one (ps_if (pt_cmp (pc_din (hu_of hr) (pv 3) (pv 2)))
    (pss_one (ps_for PassesOwn.never rfl (pi_tup (pe_op (catT K) (pe_ix (ixt K) (pe_ix (ixl K) (pv 0) (pv 3) (fun _ _ => rfl)) pe_int (fun _ _ => rfl)) (pe_ix (ixt K) (pe_ix (ixl K) (pv 0) (pv 3) (fun _ _ => rfl)) pe_int (fun _ _ => rfl)))) (pg_name (i := 4) sc_heap_at.nd rfl (Or.inl rfl))
    (pss_one (ps_dput (hu_of hr) (pv 2) (pv 4) pe_bl rfl))))
    pss_nil)))
  (pss_cons (ps_asg (pe_tup (pa_cons (pe_lst pa_nil) (pa_cons pe_dnewK pa_nil))) (pg_tup rfl (pgs_cons (pg_name (i := 5) sc_heap_at.nd rfl (Or.inl rfl)) (pgs_cons (pg_name (i := 6) sc_heap_at.nd rfl (Or.inr rfl)) pgs_nil))))
  (pss_cons (ps_for PassesOwn.never rfl (pi_range1 rfl T.f_range (pa_cons (pe_op op_add (pv 1) pe_int) pa_nil)) (pg_name (i := 3) sc_heap_at.nd rfl (Or.inl rfl))
    (pss_one (ps_if (pt_cmp (pc_din (hu_of hr) (pv 3) (pv 2)))
    (pss_cons (ps_dput (hu_of hr) (pv 6) (pv 3) (pe_callB (lenS K) (by rfl) T.f_len (by decide +kernel) (pa_cons (pv 5) pa_nil)) rfl)
  (pss_one (ps_expr (pe_bm PySem.F.plainAttrs_list PySem.F.slot_list_append PySem.F.type_list_append mt_append (pv 5) (pa_cons (pe_tup (pa_cons (pe_callTy (tupK K) (by rfl) T.f_tuple (by decide +kernel) (pa_cons (pe_lc (own := [("x", 7)]) (g := gName 7) (tt := tYes) rfl sc_heap_at.nd (pi_tup (pe_ix (ixt K) (pe_ix (ixl K) (pv 0) (pv 3) (fun _ _ => rfl)) pe_int (fun _ _ => rfl))) (blkOk_by (own := [("x", 7)]) (N := ["nodes", "number", "needed", "k", "other", "found", "there", "x"]) (sc := defScope s_heap_at) (by decide +kernel)) (fun _ _ _ _ _ => (pg_name (i := 7) sc_heap_at.nd rfl (Or.inl rfl))) (fun _ _ _ _ _ => pts_nil) (fun _ _ _ _ _ => (pe_dget (hu_of hr) (pv 6) (pv 7) (fun _ _ => rfl)))) pa_nil)) (pa_cons (pe_callTy (tupK K) (by rfl) T.f_tuple (by decide +kernel) (pa_cons (pe_lc (own := [("x", 7)]) (g := gName 7) (tt := tYes) rfl sc_heap_at.nd (pi_tup (pe_ix (ixt K) (pe_ix (ixl K) (pv 0) (pv 3) (fun _ _ => rfl)) pe_int (fun _ _ => rfl))) (blkOk_by (own := [("x", 7)]) (N := ["nodes", "number", "needed", "k", "other", "found", "there", "x"]) (sc := defScope s_heap_at) (by decide +kernel)) (fun _ _ _ _ _ => (pg_name (i := 7) sc_heap_at.nd rfl (Or.inl rfl))) (fun _ _ _ _ _ => pts_nil) (fun _ _ _ _ _ => (pe_dget (hu_of hr) (pv 6) (pv 7) (fun _ _ => rfl)))) pa_nil)) pa_nil))) pa_nil)))))
    pss_nil)))
  (pss_one (ps_ret (pe_d D_heap_of (hr.mono (by decide)) (pa_cons (pv 5) pa_nil)))))))), ?_⟩), T.g_heap_at, F.kp, F.bindsN fun _ _ _ _ _ _ us hl => match us, hl with | [_, _], _ => rfl⟩
  · obtain ⟨_, v, n, _, rfl, _⟩ := h
    rfl
  · obtain ⟨G, v, n, N, rfl, e, hv, val, hn, sm, k⟩ := h
    obtain ⟨a, rvs, rfl, ha, hd⟩ := dt_lst hv
    refine fun d nd => ⟨_, rfl, upd_same, [(.inl (n : Int), .bl true)], rfl, by show 1 ≤ 15; decide, ?_⟩
    have x0 := ((Ex.rfl' (M := M0) e).loc (o := .dK []) nd).mut (o := .dK [(.inl (n : Int), .bl true)]) (.inl nd) (same_free e nd)
    have hd0 : upd (upd H d (.dK [])) d (.dK [(.inl (n : Int), .bl true)]) d = some (.dK [(.inl (n : Int), .bl true)]) := upd_same
    show tSeq _ _ _ _ (upd (upd H d (.dK [])) d (.dK [(.inl (n : Int), .bl true)]))
    generalize upd (upd H d (.dK [])) d (.dK [(.inl (n : Int), .bl true)]) = H0 at x0 hd0 ⊢
    have tb0 : TabB [((.inl (n : Int) : Key), V.bl true)] (fun x => decide (x = n)) := by
      intro x
      by_cases q : x = n
      · subst q
        rw [valV_pos rfl]
        simp
      · have : ¬ (Sum.inl (n : Int) : Key) = .inl (x : Int) := fun z => q (by have := Sum.inl.inj z; omega)
        rw [valV_neg this]
        simp [q, valV]
    have hn200 : n < 200 := by have := sm.len; omega
    have lrv : rvs.length = N.length := by rw [dtAll_len hd, List.length_map]
    have rowAt : ∀ x, x < N.length → ∃ r p b c, N[x]? = some r ∧ N.getD x ([], []) = r ∧ rvs[x]? = some (.ref p) ∧ G p = some (.tup [.ref b, .ref c]) ∧ G b = some (.tup (iN r.1)) ∧ G c = some (.tup (iN r.2)) ∧ r.1.length < 64 ∧ r.2.length < 64 := fun x hx => by
      obtain ⟨r, er⟩ := M84.some_at hx
      obtain ⟨rv, erv, hrv⟩ := dtAll_get' hd (i := x) (d := rowD r) (by rw [List.getElem?_map, er] <;> rfl)
      obtain ⟨p, b, c, rfl, hp, hb, hc⟩ := dt_rowD hrv
      have hm := List.mem_of_getElem? er
      exact ⟨r, p, b, c, er, M84.getD_some er, erv, hp, hb, hc, sm.l r hm, sm.r r hm⟩
    refine ⟨_, rfl, 1, rfl, 1, rfl, (n : Int), -1, -1, n + 1, rfl, ?_, ?_⟩
    · have := RgC.neg (i := (n : Int)) (j := -1) (by omega) (by omega) (by omega) (by omega)
      have e1 : ((n : Int) - -1).toNat = n + 1 := by omega
      rwa [e1] at this
    · refine for_rangeC (fun i => NI G H a d n (((List.range (n + 1)).reverse.take i).foldl (M84.needS N) (fun x => decide (x = n))) (1 + 128 * i)) ⟨_, ⟨_, _, _, _, _, rfl⟩, x0, hd0, tb0, Nat.le_refl _⟩ ?_ ?_
      · rintro i σ H1 hi ⟨kvs, ⟨x3, x4, x5, x6, x7, rfl⟩, x1, h1, tb, lk⟩
        have ei : (n : Int) + (i : Nat) * -1 = ((n - i : Nat) : Int) := by omega
        have eg : (List.range (n + 1)).reverse[i]? = some (n - i) := by
          rw [List.getElem?_reverse (by rw [List.length_range]; exact hi), List.length_range, List.getElem?_range (by omega)]
          congr 1
        rw [ei, fold_take eg]
        generalize ((List.range (n + 1)).reverse.take i).foldl (M84.needS N) (fun x => decide (x = n)) = S at tb
        refine ⟨_, rfl, _, rfl, d, _, rfl, DGet.k (k := .inl ((n - i : Nat) : Int)) h1, _, rfl, ?_⟩
        rw [tb]
        obtain ⟨r, p, b, c, er, eg2, erv, hp, hb, hc, l1, l2⟩ := rowAt (n - i) (by omega)
        cases hS : S (n - i) with
        | false =>
          refine iteF ⟨kvs, ⟨_, _, _, _, _, rfl⟩, x1, h1, ?_, by omega⟩
          unfold M84.needS
          rw [if_neg (by rw [hS]; decide)]
          exact tb
        | true =>
          refine iteT ⟨_, rfl, _, rfl, a, _, _, _, rfl, rfl, SqL.of (x1.gh _ _ ha), atN erv, p, _, _, _, rfl, rfl, SqT.of (x1.gh _ _ hp), atN (j := 0) rfl, _, rfl, _, rfl, a, _, _, _, rfl, rfl, SqL.of (x1.gh _ _ ha), atN erv, p, _, _, _, rfl, rfl, SqT.of (x1.gh _ _ hp), atN (j := 1) rfl, ?_⟩
          refine cat_step (x1.gh _ _ hb) (x1.gh _ _ hc) (by rw [iN_len, iN_len]; exact Nat.le_of_lt (small1000 (by omega))) fun q H2 s2 hq => ?_
          have el : iN r.1 ++ iN r.2 = iN (r.1 ++ r.2) := by
            show _ = (r.1 ++ r.2).map (fun n : Nat => V.int (n : Int))
            rw [List.map_append]
          rw [el] at hq
          have hdq : d ≠ q := fun z => by rw [← z] at hq; rw [s2 _ _ h1] at hq; cases hq
          refine ⟨q, rfl, ⟨_, SqT.of hq⟩, for_tup (K := K) (a := q) (xs := iN (r.1 ++ r.2)) (fun j σ H' => H' q = some (.tup (iN (r.1 ++ r.2))) ∧ NI G H a d n (fun x => S x || decide (x ∈ (r.1 ++ r.2).take j)) (1 + 128 * i + j) σ H')
            ⟨hq, kvs, ⟨_, _, _, _, _, rfl⟩, x1.trans (Ex.of_same x1.gh s2), s2 _ _ h1, fun x => by rw [tb x]; simp, lk⟩ (fun j σ H' _ h => SqT.of h.1) ?_ ?_⟩
          · rintro j x σ H3 hj ⟨hq3, kv3, ⟨x3, x4, x5, x6, x7, rfl⟩, x3', h3, tb3, lk3⟩
            obtain ⟨o, eo, rfl⟩ := of_iN hj
            have hjl : j < (r.1 ++ r.2).length := M84.lt_of_some eo
            rw [List.length_append] at hjl
            refine ⟨_, rfl, _, rfl, d, _, rfl, DPut.k (k := .inl (o : Int)) h3 (Nat.lt_of_le_of_lt lk3 (Nat.lt_of_lt_of_le (m := 100000) (by omega) (by decide))), ?_⟩
            refine ⟨(upd_ne hdq.symm).trans hq3, _, ⟨_, _, _, _, _, rfl⟩, x3'.mut (.inl nd) (same_free e nd), upd_same, ?_, ?_⟩
            · intro x
              rw [tabB_put tb3 o _ x, take_snoc eo]
              simp only [List.mem_append, List.mem_singleton]
              by_cases h1 : x ∈ (r.1 ++ r.2).take j <;> by_cases h2 : x = o <;> simp [h1, h2]
            · have := length_putK kv3 (.inl (o : Int)) (V.bl true)
              omega
          · rintro σ H3 ⟨hq3, kv3, ⟨x3, x4, x5, x6, x7, rfl⟩, x3', h3, tb3, lk3⟩
            rw [iN_len, List.take_length] at tb3
            rw [iN_len, List.length_append] at lk3
            refine ⟨kv3, ⟨_, _, _, _, _, rfl⟩, x3', h3, ?_, by omega⟩
            unfold M84.needS
            rw [if_pos hS, eg2]
            exact tb3
      · rintro σ H1 ⟨kvs, ⟨x3, x4, x5, x6, x7, rfl⟩, x1, h1, tb, lk⟩
        have tb : TabB kvs (M84.needed N n) := by
          have e1 : ((List.range (n + 1)).reverse.take (n + 1)) = (List.range (n + 1)).reverse := List.take_of_length_le (by rw [List.length_reverse, List.length_range]; exact Nat.le_refl _)
          rw [e1] at tb
          exact tb
        have cl := fun k hk hs => M84.needed_cl (N := N) (n := n) (k := k) val hk hs
        have good := M84.heapAt_good val n
        have sm' := sm_heapAt val hn sm
        have elen : ∀ i, ((List.range i).foldl (M84.atS N (M84.needed N n)) ([], fun _ => 0)).1.length ≤ i := fun i => by
          induction i with
          | zero => exact Nat.le_refl _
          | succ i ih =>
            rw [List.range_succ, List.foldl_append]
            generalize (List.range i).foldl (M84.atS N (M84.needed N n)) ([], fun _ => 0) = s at ih ⊢
            show (M84.atS N (M84.needed N n) s i).1.length ≤ _
            unfold M84.atS
            split
            · rw [List.length_append, List.length_singleton]; omega
            · omega
        have efin : M84.heapAt N n = ((List.range (n + 1)).foldl (M84.atS N (M84.needed N n)) ([], fun _ => 0)).1 := rfl
        generalize M84.needed N n = S at tb cl elen efin
        refine ⟨Nat.zero_le _, fun f nf t nt => ⟨by show 2 ≤ sizeLine; decide, fun tt ht => ?_⟩⟩
        have y1 := (x1.loc (o := .lst []) nf).loc (o := .dK []) nt
        have nft : f ≠ t := ne_of_none upd_same nt
        have nt1 : H1 t = none := by rw [upd_ne nft.symm] at nt; exact nt
        have nf0 := x1.free nf
        have nt0 := x1.free nt1
        have ndt : d ≠ t := ne_of_none h1 nt1
        have y2 := y1.new (o := .tup [.ref f, .ref t]) ht
        have gf2 : upd G tt (.tup [.ref f, .ref t]) f = none := by
          rw [upd_ne (fun z => by rw [← z, upd_ne nft, upd_same] at ht; cases ht)]; exact same_free e nf0
        have gt2 : upd G tt (.tup [.ref f, .ref t]) t = none := by
          rw [upd_ne (fun z => by rw [← z, upd_same] at ht; cases ht)]; exact same_free e nt0
        have hf2 : upd (upd (upd H1 f (.lst [])) t (.dK [])) tt (.tup [.ref f, .ref t]) f = some (.lst []) := by rw [upd_ne (fun z => by rw [← z, upd_ne nft, upd_same] at ht; cases ht), upd_ne nft, upd_same]
        have ht2 : upd (upd (upd H1 f (.lst [])) t (.dK [])) tt (.tup [.ref f, .ref t]) t = some (.dK []) := by rw [upd_ne (fun z => by rw [← z, upd_same] at ht; cases ht), upd_same]
        have hd2 : upd (upd (upd H1 f (.lst [])) t (.dK [])) tt (.tup [.ref f, .ref t]) d = some (.dK kvs) := by
          have q1 : d ≠ f := ne_of_none h1 nf
          have q2 : d ≠ t := ne_of_none h1 nt1
          have q3 : d ≠ tt := fun z => by rw [← z, upd_ne q2, upd_ne q1, h1] at ht; cases ht
          rw [upd_ne q3, upd_ne q2, upd_ne q1]; exact h1
        refine ⟨tt, _, rfl, SqT.of upd_same, rfl, _, _, rfl, _, _, rfl, rfl, ?_⟩
        generalize upd (upd (upd H1 f (.lst [])) t (.dK [])) tt (.tup [.ref f, .ref t]) = H2 at y2 hf2 ht2 hd2 ⊢
        generalize upd G tt (.tup [.ref f, .ref t]) = G2 at y2 gf2 gt2
        clear y1 nf nt ht
        refine ⟨_, rfl, _, _, rfl, rfl, _, rfl, by omega, by omega, ?_⟩
        have en1 : ((n : Int) + 1).toNat = n + 1 := by omega
        rw [en1]
        refine for_range (fun i => AI G H a d f t n S i ((List.range i).foldl (M84.atS N S) ([], fun _ => 0))) ⟨G2, kvs, [], [], ⟨_, _, _, rfl⟩, y2, hd2, tb, hf2, .nil, gf2, ht2, gt2, fun x h => absurd h (Nat.not_lt_zero _), Nat.le_refl _⟩ ?_ ?_
        · rintro i σ H3 hi ⟨G3, kv0, kv3, fv, ⟨x3, x4, x7, rfl⟩, y3, h3, tb0, hf, hfv, gf, ht, gt, hval, lk3⟩
          rw [Int.zero_add]
          have lfv := elen i
          rw [List.range_succ, List.foldl_append]
          generalize (List.range i).foldl (M84.atS N S) ([], fun _ => 0) = s at hfv hval lfv ⊢
          obtain ⟨fr, m⟩ := s
          show (gName 3 _ _ _ fun σ2 H2 => tIfS _ _ _ { nx := AI G H a d f t n S (i + 1) (M84.atS N S (fr, m) i), rt := _, bk := _, ct := AI G H a d f t n S (i + 1) (M84.atS N S (fr, m) i) } σ2 H2)
          have lfv' : fv.length = fr.length := by rw [dtAll_len hfv, List.length_map]
          have lfr : fr.length ≤ i := lfv
          refine ⟨_, rfl, _, rfl, d, _, rfl, DGet.k (k := .inl (i : Int)) h3, _, rfl, ?_⟩
          rw [tb0]
          cases hS : S i with
          | false =>
            refine iteF ⟨G3, kv0, kv3, fv, ⟨_, _, _, rfl⟩, y3, h3, tb0, hf, ?_, gf, ht, gt, fun x hx sx => ?_, by omega⟩
            · unfold M84.atS
              rw [if_neg (by rw [hS]; decide)]
              exact hfv
            · unfold M84.atS
              rw [if_neg (by rw [hS]; decide)]
              refine hval x ?_ sx
              by_cases e : x = i
              · rw [e, hS] at sx; cases sx
              · omega
          | true =>
            obtain ⟨r, p, b, c, er, eg2, erv, hp, hb, hc, l1, l2⟩ := rowAt i (by omega)
            have val_i := val i r er
            have cli := cl i (by omega) hS
            unfold M84.mv at cli
            rw [eg2] at cli
            refine iteT ⟨_, rfl, f, fv, rfl, .inl (SqL.of hf), _, rfl, _, rfl, t, _, rfl, DPut.k (k := .inl (i : Int)) ht (small1000 (by omega)), ?_⟩
            have htf : t ≠ f := fun z => by rw [z, hf] at ht; cases ht
            have htd : d ≠ t := ndt
            have z1 := y3.mut (o := .dK (putK kv3 (.inl (i : Int)) (.int ((fv.length : Nat) : Int)))) (.inl nt0) gt
            have zf : upd H3 t (.dK (putK kv3 (.inl (i : Int)) (.int ((fv.length : Nat) : Int)))) f = some (.lst fv) := (upd_ne htf.symm).trans hf
            have zd : upd H3 t (.dK (putK kv3 (.inl (i : Int)) (.int ((fv.length : Nat) : Int)))) d = some (.dK kv0) := (upd_ne htd).trans h3
            have zt : upd H3 t (.dK (putK kv3 (.inl (i : Int)) (.int ((fv.length : Nat) : Int)))) t = some (.dK (putK kv3 (.inl (i : Int)) (.int ((fv.length : Nat) : Int)))) := upd_same
            have nval : ∀ x, x < i + 1 → S x = true → valV (putK kv3 (.inl (i : Int)) (.int ((fv.length : Nat) : Int))) (.inl (x : Int)) = some (.int (((if x = i then fr.length else m x : Nat) : Nat) : Int)) := fun x hx sx => by
              rw [valV_put]
              by_cases e : x = i
              · subst e; rw [if_pos rfl, if_pos rfl, lfv']
              · have : ¬ (Sum.inl (x : Int) : Key) = .inl (i : Int) := fun z => e (by have := Sum.inl.inj z; omega)
                rw [if_neg this, if_neg e]
                exact hval x (by omega) sx
            have nlen := length_putK kv3 (.inl (i : Int)) (V.int ((fv.length : Nat) : Int))
            generalize putK kv3 (.inl (i : Int)) (V.int ((fv.length : Nat) : Int)) = kv4 at z1 zf zd zt nval nlen ⊢
            generalize upd H3 t (.dK kv4) = H4 at z1 zf zd zt ⊢
            have elt : ∀ (σ : L2.St) (ms : List Nat), σ[6]? = some (some (.ref t)) → (∀ x ∈ ms, x < i ∧ S x = true) → ∀ (x : V) (H8 : Hp) (Q' : VK), x ∈ iN ms → σ[7]? = some (some x) → Same H4 H8 → Q' (liftN m x) H8 →
                (tDGet (tVar 6) (tVar 7)) σ H8 Q' := fun σ ms h6 hl x H8 Q' hx h7 s1 q => by
              obtain ⟨y, hy, rfl⟩ := of_iN_mem hx
              obtain ⟨y1, y2⟩ := hl y hy
              have dg := DGet.k (k := .inl (y : Int)) (s1 _ _ zt)
              rw [nval y (by omega) y2, if_neg (by omega)] at dg
              exact ⟨_, h6, _, h7, t, _, rfl, dg, q⟩
            have ha4 := z1.gh _ _ (z1.g _ _ ha)
            have hp4 := z1.gh _ _ (z1.g _ _ hp)
            have hb4 := z1.gh _ _ (z1.g _ _ hb)
            refine ⟨_, rfl, .inl ⟨rfl, _, SqL.of zf⟩, ?_⟩
            refine ⟨_, rfl, _, rfl, a, _, _, _, rfl, rfl, SqL.of ha4, atN erv, p, _, _, _, rfl, rfl, SqT.of hp4, atN (j := 0) rfl, b, rfl, ⟨_, SqT.of hb4⟩, fun D hD => lcT (liftN m) (fun _ => true) (SqT.of hb4) hD (by rw [iN_len]; exact sz63 l1) (fun _ => rfl) (fun _ _ _ _ _ q => q) (fun x H8 Q' hx _ s1 q => elt _ r.1 rfl (fun x hx => ⟨val_i.1 x hx, cli x (List.mem_append.mpr (.inl hx))⟩) x H8 Q' hx rfl s1 q) ?_⟩
            rw [all_in, map_liftN]
            dsimp only [tCB, tCons, tNil]
            have s5 : Same H4 (upd H4 D (.lst (iN (r.1.map m)))) := fun b o e => by rw [upd_ne (ne_of_none e hD)]; exact e
            have hD5 : upd H4 D (.lst (iN (r.1.map m))) D = some (.lst (iN (r.1.map m))) := upd_same
            generalize upd H4 D (.lst (iN (r.1.map m))) = H5 at s5 hD5 ⊢
            refine ⟨D, _, rfl, .inl ⟨SqL.of hD5, fun p1 hp1 => ?_⟩⟩
            have u1 := (Ex.of_same (M := M0) z1.gh s5).new (o := .tup (iN (r.1.map m))) hp1
            have gp1 : upd G3 p1 (.tup (iN (r.1.map m))) p1 = some (.tup (iN (r.1.map m))) := upd_same
            generalize upd H5 p1 (.tup (iN (r.1.map m))) = H6 at u1 ⊢
            generalize upd G3 p1 (.tup (iN (r.1.map m))) = G6 at u1 gp1
            clear hD5 hp1 s5 hD
            have ha6 := u1.same _ _ ha4
            have hp6 := u1.same _ _ hp4
            have hc6 := u1.gh _ _ (u1.g _ _ (z1.g _ _ hc))
            refine ⟨_, rfl, _, rfl, a, _, _, _, rfl, rfl, SqL.of ha6, atN erv, p, _, _, _, rfl, rfl, SqT.of hp6, atN (j := 1) rfl, c, rfl, ⟨_, SqT.of hc6⟩, fun D hD => lcT (liftN m) (fun _ => true) (SqT.of hc6) hD (by rw [iN_len]; exact sz63 l2) (fun _ => rfl) (fun _ _ _ _ _ q => q) (fun x H8 Q' hx _ s1 q => elt _ r.2 rfl (fun x hx => ⟨val_i.2 x hx, cli x (List.mem_append.mpr (.inr hx))⟩) x H8 Q' hx rfl (u1.same.trans s1) q) ?_⟩
            rw [all_in, map_liftN]
            dsimp only [tCB, tCons, tNil]
            have s7 : Same H6 (upd H6 D (.lst (iN (r.2.map m)))) := fun b o e => by rw [upd_ne (ne_of_none e hD)]; exact e
            have hD7 : upd H6 D (.lst (iN (r.2.map m))) D = some (.lst (iN (r.2.map m))) := upd_same
            generalize upd H6 D (.lst (iN (r.2.map m))) = H7 at s7 hD7 ⊢
            refine ⟨D, _, rfl, .inl ⟨SqL.of hD7, fun p2 hp2 => ?_⟩⟩
            have u2 := (u1.trans (Ex.of_same (M := M0) u1.gh s7)).new (o := .tup (iN (r.2.map m))) hp2
            have gp2 : upd G6 p2 (.tup (iN (r.2.map m))) p2 = some (.tup (iN (r.2.map m))) := upd_same
            have gp1' : upd G6 p2 (.tup (iN (r.2.map m))) p1 = some (.tup (iN (r.1.map m))) := by rw [upd_ne (ne_of_none gp1 (same_free (u1.gh.trans s7) hp2))]; exact gp1
            generalize upd H7 p2 (.tup (iN (r.2.map m))) = H8 at u2 ⊢
            generalize upd G6 p2 (.tup (iN (r.2.map m))) = G8 at u2 gp2 gp1'
            refine ⟨by show 2 ≤ sizeLine; decide, fun t2 ht2 => ?_⟩
            have u3 := u2.new (o := .tup [.ref p1, .ref p2]) ht2
            have gs := same_upd (o := HO.tup [V.ref p1, V.ref p2]) (same_free u2.gh ht2)
            have dr : Dt (upd G8 t2 (.tup [.ref p1, .ref p2])) (.ref t2) (rowD (r.1.map m, r.2.map m)) := rowD_dt upd_same (gs _ _ gp1') (gs _ _ gp2)
            generalize upd G8 t2 (.tup [.ref p1, .ref p2]) = G9 at u3 dr
            generalize e9 : upd H8 t2 (.tup [.ref p1, .ref p2]) = H9 at u3
            have zf9 := u3.same _ _ zf
            have zd9 := u3.same _ _ zd
            have zt9 := u3.same _ _ zt
            have gf9 := u3.fr f (by rw [zf]; exact fun z => nomatch z) gf
            have gt9 := u3.fr t (by rw [zt]; exact fun z => nomatch z) gt
            refine ⟨f, fv, _, rfl, rfl, ?_, small1000 (by omega), ?_⟩
            · exact zf9
            · skip
              have hdf : d ≠ f := fun z => by rw [z, zf] at zd; cases zd
              refine ⟨G9, kv0, kv4, fv ++ [.ref t2], ⟨_, _, _, rfl⟩, (z1.trans u3).mut (.inl nf0) gf9, (upd_ne hdf).trans zd9, tb0, upd_same, ?_, gf9, (upd_ne htf).trans zt9, gt9, fun x hx sx => ?_, by omega⟩
              · unfold M84.atS
                rw [if_pos hS, eg2]
                show DtAll G9 _ ((fr ++ [(r.1.map m, r.2.map m)]).map rowD)
                rw [List.map_append]
                exact dtAll_snoc (dtAll_mono u3.g hfv) dr
              · unfold M84.atS
                rw [if_pos hS]
                exact nval x hx sx
        · rintro σ H3 ⟨G3, kv0, kv3, fv, ⟨x3, x4, x7, rfl⟩, y3, h3, tb0, hf, hfv, gf, ht, gt, hval, lk3⟩
          have y4 := y3.frz nf0 hf gf
          exact ⟨_, rfl, upd G3 f (.lst fv), .ref f, M84.heapAt N n, rfl, y4.gh, .lst upd_same (by rw [efin]; exact dtAll_mono (same_upd gf) hfv), good, sm', fun G' H' v y5 hv => k G' H' v (y4.trans y5) hv⟩
end
end G84

namespace G84
open PySem PySem.Spec PyProof.Rows L2
/-! W11: the methods of a heap. -/
section
variable {P : Program} {w : World} {K : PySem.W.Frag} {mg : Str → Option Value} {base : Heap}
def lastR (N : List Rw) : Rw := N.getLast?.getD ([], [])
theorem row_last {G : Hp} {rvs : List V} {N : List Rw} (h : DtAll G rvs (N.map rowD)) (ne : N ≠ []) : ∃ p b c, atI rvs (-1) = some (.ref p) ∧ G p = some (.tup [.ref b, .ref c]) ∧ G b = some (.tup (iN (lastR N).1)) ∧ G c = some (.tup (iN (lastR N).2)) := by
  have e : N = N.dropLast ++ [N.getLast ne] := (List.dropLast_concat_getLast ne).symm
  have lr : rvs.length = N.length := by rw [dtAll_len h, List.length_map]
  have ner : rvs ≠ [] := fun z => by rw [z] at lr; exact ne (List.length_eq_zero_iff.mp lr.symm)
  have er : rvs = rvs.dropLast ++ [rvs.getLast ner] := (List.dropLast_concat_getLast ner).symm
  have hl : lastR N = N.getLast ne := by unfold lastR; rw [List.getLast?_eq_getLast ne] <;> rfl
  have h1 : rvs[rvs.length - 1]? = some (rvs.getLast ner) := by rw [← List.getLast?_eq_getElem?, List.getLast?_eq_getLast ner]
  obtain ⟨r, e1, d1⟩ := dtAll_map h h1
  rw [lr] at e1
  rw [← List.getLast?_eq_getElem?, List.getLast?_eq_getLast ne] at e1
  have e2 := Option.some.inj e1
  obtain ⟨p, b, c, e3, hp, hb, hc⟩ := dt_rowD d1
  refine ⟨p, b, c, ?_, hp, by rw [hl, e2]; exact hb, by rw [hl, e2]; exact hc⟩
  rw [er, e3]
  exact atI_last _ _
theorem lastR_at {N : List Rw} (ne : N ≠ []) : N[N.length - 1]? = some (lastR N) := by
  unfold lastR
  rw [← List.getLast?_eq_getElem?, List.getLast?_eq_getLast ne] <;> rfl
def spMoves (K : PySem.W.Frag) (sd : Rw → List Nat) : Sp := fun vs H Q _ => ∃ (G : Hp) (v : V) (N : List Rw), vs = [v] ∧ Same G H ∧ HpI K G v N ∧ ∀ G' H' l ws, Ex M0 G H G' H' → G' l = some (.lst ws) → RL (HpI K) G' ws ((sd (lastR N)).map (M84.heapAt N)) → Q (.ref l) H'
theorem sc_Heap_ours : FnScope ["self", "number"] ["self"] (defScope s_Heap_ours) := ⟨rfl, rfl, rfl, by decide +kernel, rfl, by decide +kernel, by decide +kernel⟩
theorem ok_Heap_ours (T : TX K mg) : MethOk P w K mg base 8 "Heap" "ours" ["self"] (spMoves K (·.1)) := by
  have D_heap_at := ok_heap_at (P := P) (w := w) (base := base) T
  obtain ⟨fd, F⟩ := T.d_Heap_ours
  refine ⟨fd, F.ok sc_Heap_ours (fun vs H Q E h => ?_) (fun cdv A outer s H vs Q E hr h => ⟨_, PSs.nox (pss_one (ps_ret (pe_lc (own := [("number", 1)]) (g := gName 1) (tt := tYes) rfl sc_Heap_ours.nd (pi_tup (pe_ix (ixt K) (pe_ix (ixl K) (pe_f K (pv 0)) (pe_un un_neg pe_int) (fun _ _ => rfl)) pe_int (fun _ _ => rfl))) (blkOk_by (own := [("number", 1)]) (N := ["self", "number"]) (sc := defScope s_Heap_ours) (by decide +kernel)) (fun _ _ _ _ _ => (pg_name (i := 1) sc_Heap_ours.nd rfl (Or.inl rfl))) (fun _ _ _ _ _ => pts_nil) (fun _ _ _ _ _ => (pe_d D_heap_at (hr.mono (by decide)) (pa_cons (pe_f K (pv 0)) (pa_cons (pv 1) pa_nil))))))), ?_⟩), T.m_Heap_ours, T.c_Heap, F.bindsN fun _ _ _ _ _ _ us hl => match us, hl with | [_], _ => rfl⟩
  · obtain ⟨_, v, _, rfl, _⟩ := h
    rfl
  · obtain ⟨G, v, N, rfl, e, ⟨a, dx, n, m, rfl, hh⟩, k⟩ := h
    obtain ⟨_, rvs, en, hn, hrv⟩ := dt_lst hh.n
    cases en
    obtain ⟨p, b, c, ap, hp, hb, hc⟩ := row_last hrv hh.good.ne
    have lr := lastR_at hh.good.ne
    have hm := List.mem_of_getElem? lr
    obtain ⟨v1, v2⟩ := hh.good.v _ _ lr
    have npos := List.length_pos_iff.mpr hh.good.ne
    refine ⟨_, rfl, a, _, dx, _, .ref n, rfl, e _ _ hh.e, T.c_Heap, T.n_Heap_node_list, rfl, 1, rfl, n, rvs, _, _, rfl, rfl, SqL.of (e _ _ hn), ap, p, _, _, _, rfl, rfl, SqT.of (e _ _ hp), atN (j := 0) rfl, b, rfl, ⟨_, SqT.of (e _ _ hb)⟩, fun D hD => ?_⟩
    refine lcR (R := HpI K) (hpI_mono K) (walk_tup (K := K) (a := b) (xs := iN (lastR N).1)) ((lastR N).1.map (M84.heapAt N)) (by rw [iN_len, List.length_map]) (by rw [iN_len]; exact sz63 (hh.sm.l _ hm)) e hD (fun H' s' => SqT.of (s' _ _ (e _ _ hb))) (fun _ => rfl) (fun j x N' G' H' Q' ex en xx q => ?_) fun G' H' ws x1 gD hD' rl => ?_
    · obtain ⟨y, ey, rfl⟩ := of_iN ex
      rw [List.getElem?_map, ey] at en
      have en' : M84.heapAt N y = N' := Option.some.inj en
      subst en'
      have hy := v1 y (List.mem_of_getElem? ey)
      exact ⟨_, rfl, a, _, dx, _, .ref n, rfl, xx.same _ _ (e _ _ hh.e), T.c_Heap, T.n_Heap_node_list, rfl, _, rfl, G', .ref n, y, N, rfl, xx.gh, dt_mono xx.g hh.n, hh.good.v, by omega, hh.sm, q⟩
    · exact k _ _ D ws (x1.frz hD hD' gD) upd_same (rl.mono (hpI_mono K) (same_upd gD))
theorem sc_Heap_theirs : FnScope ["self", "number"] ["self"] (defScope s_Heap_theirs) := ⟨rfl, rfl, rfl, by decide +kernel, rfl, by decide +kernel, by decide +kernel⟩
theorem ok_Heap_theirs (T : TX K mg) : MethOk P w K mg base 8 "Heap" "theirs" ["self"] (spMoves K (·.2)) := by
  have D_heap_at := ok_heap_at (P := P) (w := w) (base := base) T
  obtain ⟨fd, F⟩ := T.d_Heap_theirs
  refine ⟨fd, F.ok sc_Heap_theirs (fun vs H Q E h => ?_) (fun cdv A outer s H vs Q E hr h => ⟨_, PSs.nox (pss_one (ps_ret (pe_lc (own := [("number", 1)]) (g := gName 1) (tt := tYes) rfl sc_Heap_theirs.nd (pi_tup (pe_ix (ixt K) (pe_ix (ixl K) (pe_f K (pv 0)) (pe_un un_neg pe_int) (fun _ _ => rfl)) pe_int (fun _ _ => rfl))) (blkOk_by (own := [("number", 1)]) (N := ["self", "number"]) (sc := defScope s_Heap_theirs) (by decide +kernel)) (fun _ _ _ _ _ => (pg_name (i := 1) sc_Heap_theirs.nd rfl (Or.inl rfl))) (fun _ _ _ _ _ => pts_nil) (fun _ _ _ _ _ => (pe_d D_heap_at (hr.mono (by decide)) (pa_cons (pe_f K (pv 0)) (pa_cons (pv 1) pa_nil))))))), ?_⟩), T.m_Heap_theirs, T.c_Heap, F.bindsN fun _ _ _ _ _ _ us hl => match us, hl with | [_], _ => rfl⟩
  · obtain ⟨_, v, _, rfl, _⟩ := h
    rfl
  · obtain ⟨G, v, N, rfl, e, ⟨a, dx, n, m, rfl, hh⟩, k⟩ := h
    obtain ⟨_, rvs, en, hn, hrv⟩ := dt_lst hh.n
    cases en
    obtain ⟨p, b, c, ap, hp, hb, hc⟩ := row_last hrv hh.good.ne
    have lr := lastR_at hh.good.ne
    have hm := List.mem_of_getElem? lr
    obtain ⟨v1, v2⟩ := hh.good.v _ _ lr
    have npos := List.length_pos_iff.mpr hh.good.ne
    refine ⟨_, rfl, a, _, dx, _, .ref n, rfl, e _ _ hh.e, T.c_Heap, T.n_Heap_node_list, rfl, 1, rfl, n, rvs, _, _, rfl, rfl, SqL.of (e _ _ hn), ap, p, _, _, _, rfl, rfl, SqT.of (e _ _ hp), atN (j := 1) rfl, c, rfl, ⟨_, SqT.of (e _ _ hc)⟩, fun D hD => ?_⟩
    refine lcR (R := HpI K) (hpI_mono K) (walk_tup (K := K) (a := c) (xs := iN (lastR N).2)) ((lastR N).2.map (M84.heapAt N)) (by rw [iN_len, List.length_map]) (by rw [iN_len]; exact sz63 (hh.sm.r _ hm)) e hD (fun H' s' => SqT.of (s' _ _ (e _ _ hc))) (fun _ => rfl) (fun j x N' G' H' Q' ex en xx q => ?_) fun G' H' ws x1 gD hD' rl => ?_
    · obtain ⟨y, ey, rfl⟩ := of_iN ex
      rw [List.getElem?_map, ey] at en
      have en' : M84.heapAt N y = N' := Option.some.inj en
      subst en'
      have hy := v2 y (List.mem_of_getElem? ey)
      exact ⟨_, rfl, a, _, dx, _, .ref n, rfl, xx.same _ _ (e _ _ hh.e), T.c_Heap, T.n_Heap_node_list, rfl, _, rfl, G', .ref n, y, N, rfl, xx.gh, dt_mono xx.g hh.n, hh.good.v, by omega, hh.sm, q⟩
    · exact k _ _ D ws (x1.frz hD hD' gD) upd_same (rl.mono (hpI_mono K) (same_upd gD))
def DEq (K : PySem.W.Frag) (a b : Addr) (H : Hp) (k : Bool) : Prop := ∃ G N M, Same G H ∧ HpI K G (.ref a) N ∧ HpI K G (.ref b) M ∧ k = decide (M84.marks leM N = M84.marks leM M)
def DLen (K : PySem.W.Frag) (a : Addr) (H : Hp) (k : Nat) : Prop := ∃ G N, Same G H ∧ HpI K G (.ref a) N ∧ k = (M84.marks leM N).length
def EqOk (P : Program) (w : World) (K : PySem.W.Frag) (mg : Str → Option Value) (base : Heap) : Prop := ∃ fd, FnOk P w K mg base CX0 1 (He.ma K (He.ga K "Heap") "__eq__") fd ["self", "other"] (spEqB (DEq K)) ∧ Binds K fd ["self", "other"] [] ∧ OwnEqC K (He.ga K "Heap") (He.ma K (He.ga K "Heap") "__eq__")
def LenOk (P : Program) (w : World) (K : PySem.W.Frag) (mg : Str → Option Value) (base : Heap) : Prop := ∃ fd, FnOk P w K mg base CX0 1 (He.ma K (He.ga K "Heap") "__len__") fd ["self"] (spLenB (DLen K)) ∧ Binds K fd ["self"] [] ∧ PySem.W.findIn K (.ref (He.ga K "Heap")) "__len__" = some (some (.ref (He.ma K (He.ga K "Heap") "__len__"))) ∧ PySem.W.isFn K (.ref (He.ma K (He.ga K "Heap") "__len__")) = true
theorem sc_Heap_len : FnScope ["self"] ["self"] (defScope s_Heap_len) := ⟨rfl, rfl, rfl, by decide +kernel, rfl, by decide +kernel, by decide +kernel⟩
theorem ok_Heap_len (T : TX K mg) : LenOk P w K mg base := by
  obtain ⟨fd, F⟩ := T.d_Heap_len
  refine ⟨fd, F.ok sc_Heap_len (fun vs H Q E h => ?_) (fun cdv A outer s H vs Q E hr h => ⟨_, PSs.nox (pss_one (ps_ret (pe_callB (lenS K) (by rfl) T.f_len (by decide +kernel) (pa_cons (pe_f K (pv 0)) pa_nil)))), ?_⟩), F.bindsN (fun _ _ _ _ _ _ us hl => match us, hl with | [_], _ => rfl), T.m_Heap_len.1, T.m_Heap_len.2⟩
  · obtain ⟨a, _, rfl, _⟩ := h
    rfl
  · obtain ⟨a, k, rfl, ⟨G, N, e, ⟨_, dx, n, m, ea, hh⟩, rfl⟩, q⟩ := h
    cases ea
    obtain ⟨_, ms, em, hm, hms⟩ := dt_lst hh.m
    cases em
    have lm : ms.length = (M84.marks leM N).length := by rw [dtAll_len hms, List.length_map]
    refine ⟨_, rfl, a, _, dx, _, .ref m, rfl, e _ _ hh.e, T.c_Heap, T.n_Heap_mark_list, rfl, m, ms, rfl, .inl (SqL.of (e _ _ hm)), ?_⟩
    rw [lm]
    exact q H (Same.refl H)
theorem sc_Heap_eq : FnScope ["self", "other"] ["self", "other"] (defScope s_Heap_eq) := ⟨rfl, rfl, rfl, by decide +kernel, rfl, by decide +kernel, by decide +kernel⟩
theorem ok_Heap_eq (T : TX K mg) : EqOk P w K mg base := by
  obtain ⟨fd, F⟩ := T.d_Heap_eq
  refine ⟨fd, F.ok sc_Heap_eq (fun vs H Q E h => ?_) (fun cdv A outer s H vs Q E hr h => ⟨_, PSs.nox (pss_one (ps_ret (pe_and (pe_callB call_isi (by rfl) T.f_isinstance (by decide +kernel) (pa_cons (pv 1) (pa_cons (pe_glob (v := .ref (He.ga K "Heap")) (u := .ref (He.ga K "Heap")) rfl T.g_Heap rfl) pa_nil))) (pe_one (pe_cmpR (eqD K hr.units) (pe_f K (pv 0)) (pe_f K (pv 1)) (nomark _)))))), ?_⟩), F.bindsN (fun _ _ _ _ _ _ us hl => match us, hl with | [_, _], _ => rfl), ⟨T.m_Heap_eq.1, T.m_Heap_eq.2, T.xf.ne, T.xf.sb⟩⟩
  · obtain ⟨a, b, _, rfl, _⟩ := h
    rfl
  · obtain ⟨a, b, k, rfl, ⟨G, N, M, e, ⟨_, dx, n, m, ea, hh⟩, ⟨_, dy, n2, m2, eb, hh2⟩, rfl⟩, q⟩ := h
    cases ea
    cases eb
    refine ⟨_, rfl, _, _, _, _, true, rfl, .own _, T.tyHeap (e _ _ hh2.e), T.xf.hh, ?_⟩
    refine ⟨true, rfl, iteT ⟨_, rfl, a, _, dx, _, .ref m, rfl, e _ _ hh.e, T.c_Heap, T.n_Heap_mark_list, rfl, _, rfl, b, _, dy, _, .ref m2, rfl, e _ _ hh2.e, T.c_Heap, T.n_Heap_mark_list, rfl, _, _, (dt_mono e hh.m).dp, (dt_mono e hh2.m).dp, shaped_rowsD _, shaped_rowsD _, ?_⟩⟩
    rw [eqv_rowsD]
    exact q H (Same.refl H)
end
section
variable {X : Cx} (K : PySem.W.Frag)
abbrev rHEq (K : PySem.W.Frag) : R2 := rEqB (He.ga K "Heap") (DEq K)
abbrev rHNe (K : PySem.W.Frag) : R2 := rNeB (He.ga K "Heap") (DEq K)
abbrev rHNeL (K : PySem.W.Frag) : R2 := rNeLB (He.ga K "Heap") (DEq K)
abbrev rHLen (K : PySem.W.Frag) : List V → Hp → VK → Prop := rLenB (He.ga K "Heap") (DLen K)
theorem heq (D : EqOk X.prog X.w X.K X.mg X.base) (hr : Room 2 X.A) (h : X.K = K := by rfl) : OpR X (compareOp .Eq) (rHEq K) := by
  subst h
  obtain ⟨fd, F, hb, O⟩ := D
  exact op_eqB F O hb pass0 (hr.mono (by decide))
theorem hne (D : EqOk X.prog X.w X.K X.mg X.base) (hr : Room 2 X.A) (h : X.K = K := by rfl) : OpR X (compareOp .NotEq) (rHNe K) := by
  subst h
  obtain ⟨fd, F, hb, O⟩ := D
  exact op_neB F O hb pass0 hr
theorem hneL (D : EqOk X.prog X.w X.K X.mg X.base) (hr : Room 2 X.A) (h : X.K = K := by rfl) : OpR X (compareOp .NotEq) (rHNeL K) := by
  subst h
  obtain ⟨fd, F, hb, O⟩ := D
  exact op_neLB F O hb pass0 hr
theorem hlen (D : LenOk X.prog X.w X.K X.mg X.base) (hr : Room 2 X.A) (h : X.K = K := by rfl) : CallR X (.builtin "len") (rHLen K) := by
  subst h
  obtain ⟨fd, F, hb, h1, h2⟩ := D
  exact call_lenB F h1 h2 hb pass0 hr
end
end G84

namespace G84
open PySem PySem.Spec PyProof.Rows L2
/-! W12: Nodes, Forms: the state of a reckoning. -/
theorem Ex.joinM {M : Addr → Prop} {G H G1 H1 G2 H2 : Hp} (a : Ex M0 G H G1 H1) (hp : ∀ b, M b → H b = none) (b : Ex M G1 H1 G2 H2) : Ex M0 G H G2 H2 :=
  ⟨fun c o e _ => b.s c o (a.same c o e) (fun m => by rw [hp c m] at e; cases e), a.g.trans b.g, b.gh, fun c h g => b.fr c (a.al c h) (a.fr c h g), fun c h => b.al c (a.al c h)⟩
def rowK (r : Rw) : NestedKey := toKey (rowD r)
theorem toKeys_nD : ∀ a b : List Nat, toKeys (a.map nD) = toKeys (b.map nD) → a = b
  | [], [], _ => rfl
  | [], b :: bs, h => by simp [toKeys] at h
  | a :: as, [], h => by simp [toKeys] at h
  | a :: as, b :: bs, h => by
    simp only [List.map_cons, toKeys, nD, toKey, List.cons.injEq, NestedKey.num.injEq] at h
    have h1 : a = b := by omega
    have h2 := toKeys_nD as bs h.2
    rw [h1, h2]
theorem rowK_inj {a b : Rw} (h : rowK a = rowK b) : a = b := by
  obtain ⟨a1, a2⟩ := a
  obtain ⟨b1, b2⟩ := b
  simp only [rowK, rowD, tN, toKey, toKeys, NestedKey.tup.injEq, List.cons.injEq, and_true] at h
  rw [toKeys_nD _ _ h.1, toKeys_nD _ _ h.2]
theorem keyables_nD : ∀ a : List Nat, keyables (a.map nD) = true
  | [] => by simp [keyables]
  | a :: as => by simp [keyables, nD, keyable, keyables_nD as]
theorem keyable_rowD (r : Rw) : keyable (rowD r) = true := by simp [rowD, tN, keyable, keyables, keyables_nD]
def Tab (M : NestedKey → Option V) (F : List Rw) : Prop := ∀ k v, M k = some v ↔ ∃ (i : Nat) (r : Rw), F[i]? = some r ∧ k = rowK r ∧ v = V.int (i : Int)
def OT (kvs : List (List Key × V)) (F : List Rw) : Prop := (kvs.map (·.1)).Nodup ∧ ∀ kv ∈ kvs, ∃ i j : Nat, kv.1 = [.inl (i : Int), .inl (j : Int)] ∧ i < F.length ∧ j < F.length ∧ kv.2 = V.bl (M84.geb (M84.tr F i) (M84.tr F j))
structure FA where
  fa : Addr
  nd : Addr
  rl : Addr
  rt : Addr
  ot : Addr
  dx : Addr
  dy : Addr
abbrev FM (A : FA) : Addr → Prop := fun b => b = A.rl ∨ b = A.rt ∨ b = A.ot
structure FS (P : Program) (w : World) (K : PySem.W.Frag) (A : FA) (G H : Hp) (F : List Rw) : Prop where
  e : Same G H
  f : G A.fa = some (.ins (He.ga K "Forms") A.dx [("nodes", .ref A.nd), ("order_table", .ref A.ot)])
  n : G A.nd = some (.ins (He.ga K "Nodes") A.dy [("row_list", .ref A.rl), ("row_table", .ref A.rt)])
  l : ∃ rvs, H A.rl = some (.lst rvs) ∧ DtAll G rvs (F.map rowD)
  gl : G A.rl = none
  t : ∃ M, ND P w K G H A.rt M F.length ∧ Tab M F
  gt : G A.rt = none
  o : ∃ kvs, H A.ot = some (.dT kvs) ∧ OT kvs F
  go : G A.ot = none
  v : M84.Val F
  nd : F.Nodup
  len : F.length ≤ 60
  s1 : ∀ r ∈ F, r.1.length < 64
  s2 : ∀ r ∈ F, r.2.length < 64
section
variable {P : Program} {w : World} {K : PySem.W.Frag} {A : FA} {G H G' H' : Hp} {F : List Rw}
theorem FS.lt (S : FS P w K A G H F) : A.rl ≠ A.rt := fun z => by
  obtain ⟨_, h1, _⟩ := S.l
  obtain ⟨M, ⟨⟨xs, h2, _⟩, _⟩, _⟩ := S.t
  rw [z, h2] at h1
  cases h1
theorem FS.lo (S : FS P w K A G H F) : A.rl ≠ A.ot := fun z => by
  obtain ⟨_, h1, _⟩ := S.l
  obtain ⟨_, h2, _⟩ := S.o
  rw [z, h2] at h1
  cases h1
theorem FS.to (S : FS P w K A G H F) : A.rt ≠ A.ot := fun z => by
  obtain ⟨M, ⟨⟨xs, h1, _⟩, _⟩, _⟩ := S.t
  obtain ⟨_, h2, _⟩ := S.o
  rw [z, h2] at h1
  cases h1
theorem FS.has (S : FS P w K A G H F) {b : Addr} (m : FM A b) : H b ≠ none := by
  rcases m with rfl | rfl | rfl
  · obtain ⟨_, h1, _⟩ := S.l
    rw [h1]; exact fun z => nomatch z
  · obtain ⟨M, ⟨⟨xs, h1, _⟩, _⟩, _⟩ := S.t
    rw [h1]; exact fun z => nomatch z
  · obtain ⟨_, h2, _⟩ := S.o
    rw [h2]; exact fun z => nomatch z
theorem FS.gnone (S : FS P w K A G H F) {b : Addr} (m : FM A b) : G b = none := by
  rcases m with rfl | rfl | rfl
  · exact S.gl
  · exact S.gt
  · exact S.go
/-- what does not touch the state's cells keeps it -/
theorem FS.keep (S : FS P w K A G H F) (x : Ex M0 G H G' H') : FS P w K A G' H' F := by
  obtain ⟨rvs, hl, dl⟩ := S.l
  obtain ⟨M, ⟨⟨xs, h1, h2⟩, h3⟩, tb⟩ := S.t
  obtain ⟨kvs, ho, ot⟩ := S.o
  exact ⟨x.gh, x.g _ _ S.f, x.g _ _ S.n, ⟨rvs, x.same _ _ hl, dtAll_mono x.g dl⟩, x.fr _ (S.has (.inl rfl)) S.gl, ⟨M, ND.mono ⟨⟨xs, h1, h2⟩, h3⟩ x.g (by rw [h1]; exact x.same _ _ h1), tb⟩, x.fr _ (S.has (.inr (.inl rfl))) S.gt, ⟨kvs, x.same _ _ ho, ot⟩, x.fr _ (S.has (.inr (.inr rfl))) S.go, S.v, S.nd, S.len, S.s1, S.s2⟩
theorem FS.loc (S : FS P w K A G H F) {p : Addr} {o : HO} (h : H p = none) : FS P w K A G (upd H p o) F := S.keep ((Ex.rfl' S.e).loc h)
/-- a cell that is none of the state's is changed -/
theorem FS.put (S : FS P w K A G H F) {p : Addr} {o : HO} (g : G p = none) (m : ¬ FM A p) : FS P w K A G (upd H p o) F := by
  obtain ⟨rvs, hl, dl⟩ := S.l
  obtain ⟨M, N, tb⟩ := S.t
  obtain ⟨kvs, ho, ot⟩ := S.o
  have n1 : A.rl ≠ p := fun z => m (.inl z.symm)
  have n2 : A.rt ≠ p := fun z => m (.inr (.inl z.symm))
  have n3 : A.ot ≠ p := fun z => m (.inr (.inr z.symm))
  exact ⟨fun b u e => by rw [upd_ne (ne_of_none e g)]; exact S.e b u e, S.f, S.n, ⟨rvs, by rw [upd_ne n1]; exact hl, dl⟩, S.gl, ⟨M, N.mono (Same.refl G) (upd_ne n2), tb⟩, S.gt, ⟨kvs, by rw [upd_ne n3]; exact ho, ot⟩, S.go, S.v, S.nd, S.len, S.s1, S.s2⟩
theorem FS.frz (S : FS P w K A G H F) {p : Addr} {o : HO} (h : H p = some o) (g : G p = none) (m : ¬ FM A p) : FS P w K A (upd G p o) H F := by
  have u := same_upd (o := o) g
  obtain ⟨rvs, hl, dl⟩ := S.l
  obtain ⟨M, N, tb⟩ := S.t
  have n1 : A.rl ≠ p := fun z => m (.inl z.symm)
  have n2 : A.rt ≠ p := fun z => m (.inr (.inl z.symm))
  have n3 : A.ot ≠ p := fun z => m (.inr (.inr z.symm))
  refine ⟨fun b v e => ?_, u _ _ S.f, u _ _ S.n, ⟨rvs, hl, dtAll_mono u dl⟩, (upd_ne n1).trans S.gl, ⟨M, N.mono u rfl, tb⟩, (upd_ne n2).trans S.gt, S.o, (upd_ne n3).trans S.go, S.v, S.nd, S.len, S.s1, S.s2⟩
  by_cases hb : b = p
  · subst hb; rw [upd_same] at e; rw [h]; exact e
  · rw [upd_ne hb] at e; exact S.e b v e
theorem OT.len {kvs : List (List Key × V)} (h : OT kvs F) (l : F.length ≤ 60) : kvs.length ≤ 3600 := by
  obtain ⟨nd, h⟩ := h
  let code : List Key → Nat := fun k => match k with
    | [.inl i, .inl j] => i.toNat * 60 + j.toNat
    | _ => 0
  have h1 : ((kvs.map (·.1)).map code).Nodup := by
    refine List.pairwise_map.mpr (List.Pairwise.imp_of_mem (fun {a b} ha hb ne e => ne ?_) nd)
    obtain ⟨x, hx, rfl⟩ := List.mem_map.mp ha
    obtain ⟨y, hy, rfl⟩ := List.mem_map.mp hb
    obtain ⟨i, j, e1, l1, l2, _⟩ := h x hx
    obtain ⟨i', j', e2, l3, l4, _⟩ := h y hy
    rw [e1, e2] at e ⊢
    have e' : i * 60 + j = i' * 60 + j' := by simpa [code] using e
    have : i = i' ∧ j = j' := by omega
    rw [this.1, this.2]
  have h2 := M84.sub_len (b := List.range 3600) h1 fun z hz => by
    obtain ⟨k, hk, rfl⟩ := List.mem_map.mp hz
    obtain ⟨x, hx, rfl⟩ := List.mem_map.mp hk
    obtain ⟨i, j, e1, l1, l2, _⟩ := h x hx
    rw [e1, List.mem_range]
    have : code [.inl (i : Int), .inl (j : Int)] = i * 60 + j := by simp [code]
    rw [this]
    omega
  rw [List.length_map, List.length_map, List.length_range] at h2
  exact h2
theorem OT.val {kvs : List (List Key × V)} (h : OT kvs F) {i j : Nat} {v : V} (e : valV kvs [.inl (i : Int), .inl (j : Int)] = some v) : v = V.bl (M84.geb (M84.tr F i) (M84.tr F j)) := by
  unfold valV at e
  obtain ⟨kv, h1, rfl⟩ := Option.map_eq_some_iff.mp e
  have h2 : kv.1 = [.inl (i : Int), .inl (j : Int)] := by
    have q := List.find?_some h1
    exact of_decide_eq_true q
  obtain ⟨i', j', e1, _, _, e2⟩ := h.2 kv (List.mem_of_find?_eq_some h1)
  rw [e1] at h2
  simp only [List.cons.injEq, Sum.inl.injEq, and_true] at h2
  have : i' = i ∧ j' = j := by omega
  rw [e2, this.1, this.2]
theorem OT.app {kvs : List (List Key × V)} (h : OT kvs F) (r : Rw) : OT kvs (F ++ [r]) := by
  refine ⟨h.1, fun kv hk => ?_⟩
  obtain ⟨i, j, e1, l1, l2, e2⟩ := h.2 kv hk
  exact ⟨i, j, e1, by rw [List.length_append]; omega, by rw [List.length_append]; omega, by rw [M84.tr_app F [r] i l1, M84.tr_app F [r] j l2]; exact e2⟩
theorem OT.put {kvs : List (List Key × V)} (h : OT kvs F) {i j : Nat} (hi : i < F.length) (hj : j < F.length) (hn : valV kvs [.inl (i : Int), .inl (j : Int)] = none) : OT (putK kvs [.inl (i : Int), .inl (j : Int)] (V.bl (M84.geb (M84.tr F i) (M84.tr F j)))) F := by
  rw [putK_new _ hn]
  refine ⟨?_, fun kv hk => ?_⟩
  · rw [List.map_append]
    refine List.nodup_append.mpr ⟨h.1, by simp, fun a ha b hb e => ?_⟩
    have hb' : b = [.inl (i : Int), .inl (j : Int)] := by simpa using hb
    obtain ⟨kv, hkv, e1⟩ := List.mem_map.mp ha
    have : (kvs.any fun kv => decide (kv.1 = [.inl (i : Int), .inl (j : Int)])) = true := List.any_eq_true.mpr ⟨kv, hkv, decide_eq_true (by rw [e1, e, hb'])⟩
    rw [valV_any, hn] at this
    cases this
  · rcases List.mem_append.mp hk with hk | hk
    · exact h.2 kv hk
    · have : kv = ([.inl (i : Int), .inl (j : Int)], V.bl (M84.geb (M84.tr F i) (M84.tr F j))) := by simpa using hk
      exact ⟨i, j, by rw [this], hi, hj, by rw [this]⟩
theorem OT.put' {kvs : List (List Key × V)} (h : OT kvs F) {i j : Nat} (hi : i < F.length) (hj : j < F.length) : OT (putK kvs [.inl (i : Int), .inl (j : Int)] (V.bl (M84.geb (M84.tr F i) (M84.tr F j)))) F := by
  cases e : valV kvs [.inl (i : Int), .inl (j : Int)] with
  | none => exact h.put hi hj e
  | some v =>
    have hv := h.val e
    have ha : (kvs.any fun kv => decide (kv.1 = [.inl (i : Int), .inl (j : Int)])) = true := by rw [valV_any, e]; rfl
    unfold putK
    rw [if_pos ha]
    have hm : (kvs.map fun kv => if kv.1 = [.inl (i : Int), .inl (j : Int)] then (kv.1, V.bl (M84.geb (M84.tr F i) (M84.tr F j))) else kv) = kvs := by
      conv => rhs; rw [← List.map_id kvs]
      refine List.map_congr_left fun kv hk => ?_
      by_cases q : kv.1 = [.inl (i : Int), .inl (j : Int)]
      · rw [if_pos q]
        obtain ⟨i', j', e1, _, _, e2⟩ := h.2 kv hk
        rw [q] at e1
        simp only [List.cons.injEq, Sum.inl.injEq, and_true] at e1
        have : i = i' ∧ j = j' := by omega
        rw [this.1, this.2, ← e2] <;> rfl
      · rw [if_neg q] <;> rfl
    rw [hm]
    exact h
end
section
variable {P : Program} {w : World} {K : PySem.W.Frag} {mg : Str → Option Value} {base : Heap}
def spNodes (P : Program) (w : World) (K : PySem.W.Frag) : Sp := fun vs H Q _ => ∃ (a dx : Addr), vs = [.ref a] ∧ H a = some (.ins (He.ga K "Nodes") dx []) ∧ ∀ l t H', l ≠ a → t ≠ a → l ≠ t → H l = none → H t = none → (∀ b, b ≠ a → b ≠ l → b ≠ t → H' b = H b) → H' a = some (.ins (He.ga K "Nodes") dx [("row_list", .ref l), ("row_table", .ref t)]) → H' l = some (.lst []) → (∀ G : Hp, ND P w K G H' t (fun _ => none) 0) → Q .non H'
theorem sc_Nodes_init : FnScope ["self"] ["self"] (defScope s_Nodes_init) := ⟨rfl, rfl, rfl, by decide +kernel, rfl, by decide +kernel, by decide +kernel⟩
theorem ok_Nodes (T : TX K mg) : MakeOk P w K mg base 1 "Nodes" ["self"] (spNodes P w K) := by
  obtain ⟨fd, F⟩ := T.d_Nodes_init
  refine ⟨fd, F.ok sc_Nodes_init (fun vs H Q E h => ?_) (fun cdv A outer s H vs Q E hr h => ⟨_, PSs.nox (pss_cons (ps_fld (pv 0) (pe_lst pa_nil) rfl)
  (pss_one (ps_fld (pv 0) pe_dnewX rfl))), ?_⟩), T.k_Nodes, T.g_Nodes, F.bindsN fun _ _ _ _ _ _ us hl => match us, hl with | [_], _ => rfl⟩
  · obtain ⟨a, dx, rfl, _⟩ := h
    rfl
  · obtain ⟨a, dx, rfl, ha, k⟩ := h
    refine ⟨Nat.zero_le _, fun l hl => ?_⟩
    have na : a ≠ l := ne_of_none ha hl
    refine ⟨_, rfl, a, _, dx, _, rfl, (upd_ne na).trans ha, T.c_Nodes, T.n_Nodes_row_list, by decide, ?_⟩
    intro t ht hN
    have e1 : upd (upd H l (.lst [])) a (.ins (He.ga K "Nodes") dx [("row_list", .ref l)]) = upd (upd H l (.lst [])) a (.ins (He.ga K "Nodes") dx (putF "row_list" (.ref l) [])) := rfl
    have nta : t ≠ a := fun z => by rw [z, upd_same] at ht; cases ht
    have ntl : t ≠ l := fun z => by rw [z, upd_ne na.symm, upd_same] at ht; cases ht
    have ht0 : H t = none := by rw [upd_ne nta, upd_ne ntl] at ht; exact ht
    refine ⟨_, rfl, a, _, dx, _, rfl, (upd_ne nta.symm).trans upd_same, T.c_Nodes, T.n_Nodes_row_table, by show 1 < 1000; decide, ?_⟩
    refine k l t _ na.symm nta ntl.symm hl ht0 (fun b h1 h2 h3 => by rw [upd_ne h1, upd_ne h3, upd_ne h1, upd_ne h2]) upd_same ?_ fun G => (hN G).mono (Same.refl G) (upd_ne nta)
    rw [upd_ne na.symm, upd_ne ntl.symm, upd_ne na.symm, upd_same]
def spForms (P : Program) (w : World) (K : PySem.W.Frag) : Sp := fun vs H Q _ => ∃ (G : Hp) (a dx : Addr), vs = [.ref a] ∧ Same G H ∧ G a = none ∧ H a = some (.ins (He.ga K "Forms") dx []) ∧ ∀ A G' H' ob, A.fa = a → Ex (fun b => b = a) G H G' H' → G' a = none → H' a = some ob → FS P w K A (upd G' a ob) H' [] → (∀ b, FM A b → H b = none) → Q .non H'
theorem sc_Forms_init : FnScope ["self"] ["self"] (defScope s_Forms_init) := ⟨rfl, rfl, rfl, by decide +kernel, rfl, by decide +kernel, by decide +kernel⟩
theorem ok_Forms (T : TX K mg) : MakeOk P w K mg base 3 "Forms" ["self"] (spForms P w K) := by
  have D_Nodes := ok_Nodes (P := P) (w := w) (base := base) T
  obtain ⟨fd, F⟩ := T.d_Forms_init
  refine ⟨fd, F.ok sc_Forms_init (fun vs H Q E h => ?_) (fun cdv A outer s H vs Q E hr h => ⟨_, PSs.nox (pss_cons (ps_fld (pv 0) (pe_mk0 D_Nodes (hr.mono (by decide))) rfl)
  (pss_one (ps_fld (pv 0) pe_dnewT rfl))), ?_⟩), T.k_Forms, T.g_Forms, F.bindsN fun _ _ _ _ _ _ us hl => match us, hl with | [_], _ => rfl⟩
  · obtain ⟨_, a, dx, rfl, _⟩ := h
    rfl
  · obtain ⟨G, a, dx, rfl, e, ga, ha, k⟩ := h
    refine fun nd dy h1 h2 h3 => ?_
    refine ⟨nd, dy, rfl, upd_same, fun l t H1 n1 n2 n3 hl ht same hnd hl1 hND => ⟨rfl, ?_⟩⟩
    have nad : a ≠ nd := ne_of_none ha h1
    have nay : a ≠ dy := ne_of_none ha h2
    have lH : H l = none ∧ l ≠ dy := by
      by_cases z : l = dy
      · subst z; rw [upd_ne n1, upd_same] at hl; cases hl
      · rw [upd_ne n1, upd_ne z] at hl; exact ⟨hl, z⟩
    have tH : H t = none ∧ t ≠ dy := by
      by_cases z : t = dy
      · subst z; rw [upd_ne n2, upd_same] at ht; cases ht
      · rw [upd_ne n2, upd_ne z] at ht; exact ⟨ht, z⟩
    have nal : a ≠ l := ne_of_none ha lH.1
    have nat : a ≠ t := ne_of_none ha tH.1
    have ha1 : H1 a = some (.ins (He.ga K "Forms") dx []) := by rw [same a nad nal nat, upd_ne nad, upd_ne nay]; exact ha
    refine ⟨_, rfl, a, _, dx, _, rfl, ha1, T.c_Forms, T.n_Forms_nodes, by decide, ?_⟩
    intro o ho
    have noa : o ≠ a := fun z => by rw [z, upd_same] at ho; cases ho
    have ho1 : H1 o = none := by rw [upd_ne noa] at ho; exact ho
    have nod : o ≠ nd := fun z => by rw [z, hnd] at ho1; cases ho1
    have nol : o ≠ l := fun z => by rw [z, hl1] at ho1; cases ho1
    have not : o ≠ t := fun z => by
      obtain ⟨⟨xs, q, _⟩, _⟩ := hND G
      rw [z, q] at ho1; cases ho1
    have oH : H o = none ∧ o ≠ dy := by
      rw [same o nod nol not, upd_ne nod] at ho1
      by_cases z : o = dy
      · subst z; rw [upd_same] at ho1; cases ho1
      · rw [upd_ne z] at ho1; exact ⟨ho1, z⟩
    refine ⟨_, rfl, a, _, dx, _, rfl, (upd_ne noa.symm).trans upd_same, T.c_Forms, T.n_Forms_order_table, by show 1 < 1000; decide, ?_⟩
    let H4 := upd (upd (upd H1 a (.ins (He.ga K "Forms") dx [("nodes", .ref nd)])) o (.dT [])) a (.ins (He.ga K "Forms") dx [("nodes", .ref nd), ("order_table", .ref o)])
    show Q .non H4
    have e4 : ∀ b, b ≠ a → b ≠ o → H4 b = H1 b := fun b q1 q2 => by show upd _ _ _ b = _; rw [upd_ne q1, upd_ne q2, upd_ne q1]
    let A : FA := ⟨a, nd, l, t, o, dx, dy⟩
    let G4 := upd (upd G dy (.own nd)) nd (.ins (He.ga K "Nodes") dy [("row_list", .ref l), ("row_table", .ref t)])
    have gdy := same_free e h2
    have gnd := same_free e h1
    have gH : Same G4 H4 := fun b u q => by
      by_cases z1 : b = nd
      · subst z1
        rw [show G4 b = _ from upd_same] at q
        rw [e4 b nad.symm nod.symm, hnd]; exact q
      · by_cases z2 : b = dy
        · subst z2
          rw [show G4 b = _ from (upd_ne z1).trans upd_same] at q
          rw [e4 b nay.symm oH.2.symm, same b z1 lH.2.symm tH.2.symm, upd_ne z1, upd_same]; exact q
        · have q' : G b = some u := by
            rw [show G4 b = G b from (upd_ne z1).trans (upd_ne z2)] at q; exact q
          have hb := e _ _ q'
          have z3 : b ≠ a := ne_of_none q' ga
          have z4 : b ≠ o := ne_of_none hb oH.1
          have z5 : b ≠ l := ne_of_none hb lH.1
          have z6 : b ≠ t := ne_of_none hb tH.1
          rw [e4 b z3 z4, same b z1 z5 z6, upd_ne z1, upd_ne z2]; exact hb
    have gG : Same G G4 := fun b u q => by
      have hb := e _ _ q
      rw [show G4 b = G b from (upd_ne (ne_of_none hb h1)).trans (upd_ne (ne_of_none hb h2))]; exact q
    have g4a : G4 a = none := by rw [show G4 a = G a from (upd_ne nad).trans (upd_ne nay)]; exact ga
    have old : ∀ b u, H b = some u → b ≠ a → H4 b = some u := fun b u hb z3 => by
      rw [e4 b z3 (ne_of_none hb oH.1), same b (ne_of_none hb h1) (ne_of_none hb lH.1) (ne_of_none hb tH.1), upd_ne (ne_of_none hb h1), upd_ne (ne_of_none hb h2)]; exact hb
    have x : Ex (fun b => b = a) G H G4 H4 := by
      refine ⟨fun b u hb m => old b u hb m, gG, gH, fun b hb g => ?_, fun b hb => ?_⟩
      · rw [show G4 b = G b from (upd_ne (fun z => hb (by rw [z]; exact h1))).trans (upd_ne (fun z => hb (by rw [z]; exact h2)))]; exact g
      · by_cases z3 : b = a
        · subst z3; rw [show H4 b = _ from upd_same]; exact fun z => nomatch z
        · cases q : H b with
          | none => exact absurd q hb
          | some u => rw [old b u q z3]; exact fun z => nomatch z
    have gl4 : G4 l = none := by rw [show G4 l = G l from (upd_ne n1).trans (upd_ne lH.2)]; exact same_free e lH.1
    have gt4 : G4 t = none := by rw [show G4 t = G t from (upd_ne n2).trans (upd_ne tH.2)]; exact same_free e tH.1
    have go4 : G4 o = none := by rw [show G4 o = G o from (upd_ne nod).trans (upd_ne oH.2)]; exact same_free e oH.1
    have h4a : H4 a = some (.ins (He.ga K "Forms") dx [("nodes", .ref nd), ("order_table", .ref o)]) := upd_same
    refine k A G4 H4 _ rfl x g4a h4a ⟨?_, upd_same, ?_, ⟨[], ?_, .nil⟩, ?_, ⟨_, (hND _).mono (Same.refl _) (e4 t nat.symm not.symm), fun kk v => ⟨fun z => (nomatch z), fun ⟨i, r, z, _⟩ => (by simp at z)⟩⟩, ?_, ⟨[], ?_, .nil, fun kv z => (nomatch z)⟩, ?_, M84.val_nil, .nil, by decide, fun r z => (nomatch z), fun r z => (nomatch z)⟩ ?_
    · intro b u q
      by_cases z : b = a
      · subst z; rw [upd_same] at q; rw [h4a]; exact q
      · rw [upd_ne z] at q; exact gH b u q
    · exact (upd_ne nad.symm).trans upd_same
    · show H4 l = _
      rw [e4 l nal.symm nol.symm]; exact hl1
    · exact (upd_ne nal.symm).trans gl4
    · exact (upd_ne nat.symm).trans gt4
    · show H4 o = _
      exact (upd_ne noa).trans upd_same
    · exact (upd_ne noa).trans go4
    · rintro b (z | z | z)
      · rw [z]; exact lH.1
      · rw [z]; exact tH.1
      · rw [z]; exact oH.1
end
end G84

namespace G84
open PySem PySem.Spec PyProof.Rows L2
/-! W13: Nodes.add. -/
theorem depth_rowK (r : Rw) : (rowK r).depth ≤ 8 := by
  have key : ∀ l : List Nat, NestedKey.depthAll (toKeys (l.map nD)) = 0 := by
    intro l
    induction l with
    | nil => simp [toKeys, NestedKey.depthAll]
    | cons x xs ih => simp [toKeys, nD, toKey, NestedKey.depthAll, NestedKey.depth] at ih ⊢; exact ih
  simp only [rowK, rowD, tN, toKey, toKeys, NestedKey.depth, NestedKey.depthAll, key]
  decide
section
variable {P : Program} {w : World} {K : PySem.W.Frag} {mg : Str → Option Value} {base : Heap}
theorem keyAt_row {G : Hp} {a : Addr} {r : Rw} (h : Dt G (.ref a) (rowD r)) : KeyAt K G (rowK r) a := ⟨rowD r, h.dp, keyable_rowD r, rfl, depth_rowK r⟩
theorem Tab.mem {M : NestedKey → Option V} {F : List Rw} (t : Tab M F) {r : Rw} (h : r ∈ F) (nd : F.Nodup) : M (rowK r) = some (V.int ((F.idxOf r : Nat) : Int)) :=
  (t _ _).mpr ⟨F.idxOf r, r, by rw [List.getElem?_eq_getElem (List.idxOf_lt_length_of_mem h), List.getElem_idxOf], rfl, rfl⟩
theorem Tab.no {M : NestedKey → Option V} {F : List Rw} (t : Tab M F) {r : Rw} (h : r ∉ F) : M (rowK r) = none := by
  cases e : M (rowK r) with
  | none => rfl
  | some v =>
    obtain ⟨i, q, h1, h2, _⟩ := (t _ _).mp e
    rw [rowK_inj h2] at h
    exact absurd (List.mem_of_getElem? h1) h
theorem Tab.add {M : NestedKey → Option V} {F : List Rw} (t : Tab M F) {r : Rw} (h : r ∉ F) : Tab (setM M (rowK r) (V.int ((F.length : Nat) : Int))) (F ++ [r]) := by
  intro k v
  unfold setM
  by_cases e : k = rowK r
  · rw [if_pos e]
    constructor
    · intro q
      exact ⟨F.length, r, by simp, e, (Option.some.inj q).symm⟩
    · rintro ⟨i, q, h1, h2, h3⟩
      have : q = r := rowK_inj (h2.symm.trans e)
      subst this
      rcases M84.snoc_some h1 with h1 | ⟨h1, _⟩
      · exact absurd (List.mem_of_getElem? h1) h
      · rw [h3, h1]
  · rw [if_neg e, t k v]
    constructor
    · rintro ⟨i, q, h1, h2, h3⟩
      exact ⟨i, q, by rw [List.getElem?_append_left (M84.lt_of_some h1)]; exact h1, h2, h3⟩
    · rintro ⟨i, q, h1, h2, h3⟩
      rcases M84.snoc_some h1 with h1 | ⟨_, h1⟩
      · exact ⟨i, q, h1, h2, h3⟩
      · rw [h1] at h2; exact absurd h2 e
def spNodesAdd (P : Program) (w : World) (K : PySem.W.Frag) : Sp := fun vs H Q _ => ∃ (A : FA) (G : Hp) (F : List Rw) (a b : Addr) (r : Rw), vs = [.ref A.nd, .ref a, .ref b] ∧ FS P w K A G H F ∧ H a = some (.lst (iN r.1)) ∧ H b = some (.lst (iN r.2)) ∧ (∀ x ∈ r.1, x < F.length) ∧ (∀ x ∈ r.2, x < F.length) ∧ r.1.length < 64 ∧ r.2.length < 64 ∧ F.length < 60 ∧
  ∀ G' H', Ex (FM A) G H G' H' → FS P w K A G' H' (M84.addRow F r).1 → Q (.int (((M84.addRow F r).2 : Nat) : Int)) H'
theorem sc_Nodes_add : FnScope ["self", "ours", "theirs", "row"] ["self", "ours", "theirs"] (defScope s_Nodes_add) := ⟨rfl, rfl, rfl, by decide +kernel, rfl, by decide +kernel, by decide +kernel⟩
theorem ok_Nodes_add (T : TX K mg) : MethOk P w K mg base 1 "Nodes" "add" ["self", "ours", "theirs"] (spNodesAdd P w K) := by
  obtain ⟨fd, F⟩ := T.d_Nodes_add
  refine ⟨fd, F.ok sc_Nodes_add (fun vs H Q E h => ?_) (fun cdv A outer s H vs Q E hr h => ⟨_, PSs.nox (pss_cons (ps_set (i := 3) sc_Nodes_add.nd rfl (Or.inl rfl) (pe_tup (pa_cons (pe_callTy (tupK K) (by rfl) T.f_tuple (by decide +kernel) (pa_cons (pv 1) pa_nil)) (pa_cons (pe_callTy (tupK K) (by rfl) T.f_tuple (by decide +kernel) (pa_cons (pv 2) pa_nil)) pa_nil))))
  (pss_cons (ps_if (pt_cmpR (ndNotIn K w P hr.units) (pv 3) (pe_f K (pv 0)) (by rfl))
    (pss_cons (ps_asg (pe_callB (lenS K) (by rfl) T.f_len (by decide +kernel) (pa_cons (pe_f K (pv 0)) pa_nil)) (pg_sub (pe_f K (pv 0)) (pv 3) (set_nd hr.units)))
  (pss_one (ps_expr (pe_bm PySem.F.plainAttrs_list PySem.F.slot_list_append PySem.F.type_list_append mt_append (pe_f K (pv 0)) (pa_cons (pv 3) pa_nil)))))
    pss_nil)
  (pss_one (ps_ret (pe_ndget hr.units (pe_f K (pv 0)) (pv 3) (fun _ _ => rfl)))))), ?_⟩), T.m_Nodes_add, T.c_Nodes, F.bindsN fun _ _ _ _ _ _ us hl => match us, hl with | [_, _, _], _ => rfl⟩
  · obtain ⟨A, _, _, a, b, _, rfl, _⟩ := h
    rfl
  · obtain ⟨A, G, F, a, b, r, rfl, S, ha, hb, v1, v2, l1, l2, lF, k⟩ := h
    refine ⟨_, rfl, a, _, rfl, .inl ⟨SqL.of ha, fun p1 hp1 => ?_⟩⟩
    have x1 := (Ex.rfl' (M := M0) S.e).new (o := .tup (iN r.1)) hp1
    have gp1 : upd G p1 (.tup (iN r.1)) p1 = some (.tup (iN r.1)) := upd_same
    have hb1 : upd H p1 (.tup (iN r.1)) b = some (.lst (iN r.2)) := (upd_ne (ne_of_none hb hp1)).trans hb
    generalize upd H p1 (.tup (iN r.1)) = H1 at x1 hb1 ⊢
    generalize upd G p1 (.tup (iN r.1)) = G1 at x1 gp1
    refine ⟨_, rfl, b, _, rfl, .inl ⟨SqL.of hb1, fun p2 hp2 => ?_⟩⟩
    have x2 := x1.new (o := .tup (iN r.2)) hp2
    have gp2 : upd G1 p2 (.tup (iN r.2)) p2 = some (.tup (iN r.2)) := upd_same
    have gp12 : upd G1 p2 (.tup (iN r.2)) p1 = some (.tup (iN r.1)) := (upd_ne (ne_of_none gp1 (same_free x1.gh hp2))).trans gp1
    generalize upd H1 p2 (.tup (iN r.2)) = H2 at x2 ⊢
    generalize upd G1 p2 (.tup (iN r.2)) = G2 at x2 gp2 gp12
    refine ⟨by show 2 ≤ sizeLine; decide, fun t ht => ?_⟩
    have x3 := x2.new (o := .tup [.ref p1, .ref p2]) ht
    have gs := same_upd (o := HO.tup [V.ref p1, V.ref p2]) (same_free x2.gh ht)
    have dr : Dt (upd G2 t (.tup [.ref p1, .ref p2])) (.ref t) (rowD r) := rowD_dt upd_same (gs _ _ gp12) (gs _ _ gp2)
    generalize upd G2 t (.tup [.ref p1, .ref p2]) = G3 at x3 dr
    show tSeq _ _ _ _ (upd H2 t (.tup [.ref p1, .ref p2]))
    generalize upd H2 t (.tup [.ref p1, .ref p2]) = H3 at x3 ⊢
    have S3 := S.keep x3
    obtain ⟨M, N, tb⟩ := S3.t
    obtain ⟨rvs, hl, dl⟩ := S3.l
    have lrv : rvs.length = F.length := by rw [dtAll_len dl, List.length_map]
    have hn3 := S3.e _ _ S3.n
    refine ⟨_, rfl, _, rfl, A.nd, _, A.dy, _, .ref A.rt, rfl, hn3, T.c_Nodes, T.n_Nodes_row_table, rfl, G3, t, A.rt, M, _, rowK r, rfl, rfl, S3.e, N, (keyAt_row dr).mono S3.e, _, rfl, ?_⟩
    by_cases hm : r ∈ F
    · have hM := tb.mem hm S3.nd
      rw [hM]
      refine iteF ⟨_, rfl, A.nd, _, A.dy, _, .ref A.rt, rfl, hn3, T.c_Nodes, T.n_Nodes_row_table, rfl, _, rfl, G3, t, A.rt, M, _, rowK r, _, rfl, rfl, S3.e, N, (keyAt_row dr).mono S3.e, hM, ?_⟩
      have k' := k G3 H3 (x3.mono fun _ z => z.elim)
      unfold M84.addRow at k'
      rw [if_pos hm] at k'
      exact k' S3
    · have hM := tb.no hm
      rw [hM]
      refine iteT ⟨_, rfl, A.nd, _, A.dy, _, .ref A.rl, rfl, hn3, T.c_Nodes, T.n_Nodes_row_list, rfl, A.rl, rvs, rfl, .inl (SqL.of hl), _, rfl, A.nd, _, A.dy, _, .ref A.rt, rfl, hn3, T.c_Nodes, T.n_Nodes_row_table, rfl, _, rfl, G3, t, A.rt, M, _, rowK r, rfl, rfl, S3.e, S3.gt, N, keyAt_row dr, hM, small1000 (by omega), fun ob N' => ?_⟩
      have x4 := (x3.mono (M' := FM A) fun _ z => z.elim).mut (o := ob) (.inr (.inr (.inl rfl))) S3.gt
      have hn4 := x4.gh _ _ S3.n
      have hl4 : upd H3 A.rt ob A.rl = some (.lst rvs) := (upd_ne S3.lt).trans hl
      have e4 : ∀ b, b ≠ A.rt → upd H3 A.rt ob b = H3 b := fun b hb => upd_ne hb
      rw [lrv] at N' 
      generalize hH4 : upd H3 A.rt ob = H4 at x4 hn4 hl4 e4 N' ⊢
      refine ⟨_, rfl, A.nd, _, A.dy, _, .ref A.rl, rfl, hn4, T.c_Nodes, T.n_Nodes_row_list, rfl, .inl ⟨rfl, _, SqL.of hl4⟩, _, rfl, A.rl, rvs, _, rfl, rfl, hl4, small1000 (by omega), ?_⟩
      have x5 := x4.mut (o := .lst (rvs ++ [.ref t])) (.inr (.inl rfl)) S3.gl
      have hn5 := x5.gh _ _ S3.n
      have N5 := N'.mono (G' := G3) (H' := upd H4 A.rl (.lst (rvs ++ [.ref t]))) (Same.refl _) (upd_ne S3.lt.symm)
      have M5 : setM M (rowK r) (V.int ((F.length : Nat) : Int)) (rowK r) = some (V.int ((F.length : Nat) : Int)) := if_pos rfl
      refine ⟨_, rfl, A.nd, _, A.dy, _, .ref A.rt, rfl, hn5, T.c_Nodes, T.n_Nodes_row_table, rfl, _, rfl, G3, t, A.rt, _, _, rowK r, _, rfl, rfl, x5.gh, N5, (keyAt_row dr).mono x5.gh, M5, ?_⟩
      have k' := k G3 _ x5
      unfold M84.addRow at k'
      rw [if_neg hm] at k'
      refine k' ⟨x5.gh, S3.f, S3.n, ⟨_, upd_same, by rw [List.map_append]; exact dtAll_snoc dl dr⟩, S3.gl, ⟨_, by rw [List.length_append]; exact N5, tb.add hm⟩, S3.gt, ?_, S3.go, M84.val_snoc S3.v v1 v2, ?_, by rw [List.length_append, List.length_singleton]; omega, fun q hq => ?_, fun q hq => ?_⟩
      · obtain ⟨kvs, ho, ot⟩ := S3.o
        exact ⟨kvs, by rw [upd_ne S3.lo.symm, e4 _ S3.to.symm]; exact ho, ot.app r⟩
      · exact List.nodup_append.mpr ⟨S3.nd, by simp, fun a ha b hb e => by
          have : b = r := by simpa using hb
          rw [e, this] at ha; exact hm ha⟩
      · rcases List.mem_append.mp hq with hq | hq
        · exact S3.s1 q hq
        · have : q = r := by simpa using hq
          rw [this]; exact l1
      · rcases List.mem_append.mp hq with hq | hq
        · exact S3.s2 q hq
        · have : q = r := by simpa using hq
          rw [this]; exact l2
end
end G84

namespace G84
open PySem PySem.Spec PyProof.Rows L2
/-! W14: Forms.is_above. -/
section
variable {i : Nat} {te : TE} {vs : List Nat} {σ : L2.St} {H1 G1 : Hp} {D : Addr} {Qd : Hp → Prop} {M : Addr → Prop} {S : Hp → Hp → Prop}
/-- a comprehension whose elements may change the state's cells -/
theorem lcS {α : Type} {R : Hp → V → α → Prop} (hR : ∀ G G' v a, Same G G' → R G v a → R G' v a) {J : It} {Gp : Hp → Prop} {xs : List V} (w : Walk J xs.length Gp (YAt xs)) (as : List α) (hl : as.length = xs.length) (hz : xs.length ≤ sizeLine) (e : Same G1 H1) (hD : H1 D = none) (s1 : S G1 H1) (hM : ∀ b, M b → H1 b ≠ none)
    (hS : ∀ G' H' o, S G' H' → G' D = none → ¬ M D → S G' (upd H' D o)) (hG : ∀ G' H', Ex M G1 H1 G' H' → Gp H')
    (hw : ∀ x, wipe ((wipe σ vs).set i (some x)) vs = wipe σ vs)
    (el : ∀ (j : Nat) x a G' H' Q, xs[j]? = some x → as[j]? = some a → Ex M G1 H1 G' H' → S G' H' → (∀ G'' H'' v, Ex M G' H' G'' H'' → S G'' H'' → R G'' v a → Q v H'') → te ((wipe σ vs).set i (some x)) H' Q)
    (hd : ∀ G' H' ws, Ex M G1 H1 G' H' → S G' H' → G' D = none → H' D = some (.lst ws) → RL R G' ws as → Qd H') :
    ∃ W : Nat → Nat → Hp → Prop, (∃ m, W 0 m (upd H1 D (.lst []))) ∧ ∀ j m H, W j m H →
      (J.stop j H ∧ Qd H) ∨ (J.go j H ∧ ∃ Nx : Hp → Prop, (∀ H', Nx H' → ∃ m', m' < m ∧ W (j + 1) m' H') ∧ ∀ x H', J.yld j H x H' → gName i x (wipe σ vs) H' fun σ2 H2 => wipe σ2 vs = wipe σ vs ∧ tYes σ2 H2 fun b H3 =>
        if b = true then te σ2 H3 fun y H4 => ∃ acc, H4 D = some (.lst acc) ∧ acc.length < sizeLine ∧ Nx (upd H4 D (.lst (acc ++ [y]))) else Nx H3) := by
  have nM : ¬ M D := fun m => hM D m hD
  refine lc_it w (fun j H' => ∃ G' ws, Ex M G1 H1 G' H' ∧ S G' H' ∧ G' D = none ∧ H' D = some (.lst ws) ∧ RL R G' ws (as.take j)) ⟨G1, [], (Ex.rfl' e).loc hD, hS _ _ _ s1 (same_free e hD) nM, same_free e hD, upd_same, RL.nil⟩ (fun j H' _ ⟨_, _, x, _⟩ => hG _ _ x) (fun j x H0 H' hj ⟨G', ws, x1, st, gd, hd', rl⟩ y => ?_) (fun H' ⟨G', ws, x1, st, gd, hd', rl⟩ => ?_)
  · obtain ⟨rfl, ex⟩ := y
    obtain ⟨a, ea⟩ := M84.some_at (l := as) (i := j) (by rw [hl]; exact hj)
    refine ⟨hw x, ?_⟩
    unfold tYes
    simp only [↓reduceIte]
    refine el j x a G' H' _ ex ea x1 st fun G'' H'' v x2 s2 r => ⟨ws, x2.s _ _ hd' nM, ?_, ?_⟩
    · rw [rl.1, List.length_take]; omega
    · have g2 := x2.fr D (by rw [hd']; exact fun z => nomatch z) gd
      refine ⟨G'', ws ++ [v], (x1.trans x2).mut (.inl hD) g2, hS _ _ _ s2 g2 nM, g2, upd_same, ?_⟩
      rw [take_snoc ea]
      exact (rl.mono hR x2.g).snoc r
  · rw [← hl, List.take_length] at rl
    exact hd G' H' ws x1 st gd hd' rl
end
def RB : Hp → V → Bool → Prop := fun _ v b => v = V.bl b
theorem rb_mono (G G' : Hp) (v : V) (b : Bool) (_ : Same G G') (h : RB G v b) : RB G' v b := h
theorem RL.bl {G : Hp} : ∀ {vs : List V} {bs : List Bool}, RL RB G vs bs → vs = bs.map V.bl
  | [], [], _ => rfl
  | v :: vs, b :: bs, h => by
    have e1 : v = V.bl b := h.2 0 v b rfl rfl
    have e2 := RL.bl (G := G) (vs := vs) (bs := bs) ⟨Nat.succ.inj h.1, fun j u c x y => h.2 (j + 1) u c x y⟩
    rw [e1, e2] <;> rfl
  | [], b :: bs, h => by cases h.1
  | v :: vs, [], h => by cases h.1
section
variable {P : Program} {w : World} {K : PySem.W.Frag} {mg : Str → Option Value} {base : Heap}
theorem FS.row {A : FA} {G H : Hp} {F : List Rw} (S : FS P w K A G H F) {i : Nat} (hi : i < F.length) : ∃ r rvs p b c, F[i]? = some r ∧ H A.rl = some (.lst rvs) ∧ rvs[i]? = some (.ref p) ∧ G p = some (.tup [.ref b, .ref c]) ∧ G b = some (.tup (iN r.1)) ∧ G c = some (.tup (iN r.2)) ∧ r.1.length < 64 ∧ r.2.length < 64 ∧ (∀ x ∈ r.1, x < i) ∧ (∀ x ∈ r.2, x < i) := by
  obtain ⟨r, er⟩ := M84.some_at hi
  obtain ⟨rvs, hl, dl⟩ := S.l
  obtain ⟨rv, erv, hrv⟩ := dtAll_get' dl (i := i) (d := rowD r) (by rw [List.getElem?_map, er] <;> rfl)
  obtain ⟨p, b, c, rfl, hp, hb, hc⟩ := dt_rowD hrv
  have hm := List.mem_of_getElem? er
  obtain ⟨v1, v2⟩ := S.v i r er
  exact ⟨r, rvs, p, b, c, er, hl, erv, hp, hb, hc, S.s1 r hm, S.s2 r hm, v1, v2⟩
def spAbove (P : Program) (w : World) (K : PySem.W.Frag) (n : Nat) : Sp := fun vs H Q _ => ∃ (A : FA) (G : Hp) (F : List Rw) (i j : Nat), vs = [.ref A.fa, .int (i : Int), .int (j : Int)] ∧ FS P w K A G H F ∧ i < F.length ∧ j < F.length ∧ i + j < n ∧
  ∀ G' H', Ex (FM A) G H G' H' → FS P w K A G' H' F → Q (.bl (M84.geb (M84.tr F i) (M84.tr F j))) H'
theorem sc_Forms_is_above : FnScope ["self", "one", "other", "mine", "others", "found", "k"] ["self", "one", "other"] (defScope s_Forms_is_above) := ⟨rfl, rfl, rfl, by decide +kernel, rfl, by decide +kernel, by decide +kernel⟩
theorem ok_above (T : TX K mg) : ∀ n, MethOk P w K mg base (n + 1) "Forms" "is_above" ["self", "one", "other"] (spAbove P w K n) := by
  intro n
  induction n with
  | zero =>
    obtain ⟨fd, F⟩ := T.d_Forms_is_above
    refine ⟨fd, F.ok sc_Forms_is_above (fun vs H Q E h => ?_) (fun cdv A outer s H vs Q E hr h => ?_), T.m_Forms_is_above, T.c_Forms, F.bindsN fun _ _ _ _ _ _ us hl => match us, hl with | [_, _, _], _ => rfl⟩
    · obtain ⟨_, _, _, _, _, rfl, _⟩ := h
      rfl
    · obtain ⟨_, _, _, _, _, _, _, _, _, hn, _⟩ := h
      exact absurd hn (Nat.not_lt_zero _)
  | succ n ih =>
    have D_Forms_is_above := ih
    obtain ⟨fd, F⟩ := T.d_Forms_is_above
    refine ⟨fd, F.ok sc_Forms_is_above (fun vs H Q E h => ?_) (fun cdv A outer s H vs Q E hr h => ⟨_, PSs.nox (pss_cons (ps_if (pt_cmp (pc_dnotin (hu_of hr) (pe_tup (pa_cons (pv 1) (pa_cons (pv 2) pa_nil))) (pe_f K (pv 0))))
    (pss_cons (ps_par (i := 3) (j := 4) (by rfl) sc_Forms_is_above.nd rfl rfl (by decide) rfl rfl (pa_cons (pe_ix (ixt K) (pe_ix (ixl K) (pe_f K (pe_f K (pv 0))) (pv 2) (fun _ _ => rfl)) pe_int (fun _ _ => rfl)) (pa_cons (pe_ix (ixt K) (pe_ix (ixl K) (pe_f K (pe_f K (pv 0))) (pv 1) (fun _ _ => rfl)) pe_int (fun _ _ => rfl)) pa_nil)) (by rfl))
  (pss_cons (ps_set (i := 5) sc_Forms_is_above.nd rfl (Or.inl rfl) (pe_not (pe_callB (anyK K) (by rfl) T.f_any (by decide +kernel) (pa_cons (pe_lc (own := [("k", 6)]) (g := gName 6) (tt := tYes) rfl sc_Forms_is_above.nd (pi_tup (pv 4)) (blkOk_by (own := [("k", 6)]) (N := ["self", "one", "other", "mine", "others", "found", "k"]) (sc := defScope s_Forms_is_above) (by decide +kernel)) (fun _ _ _ _ _ => (pg_name (i := 6) sc_Forms_is_above.nd rfl (Or.inl rfl))) (fun _ _ _ _ _ => pts_nil) (fun _ _ _ _ _ => (pe_mK K D_Forms_is_above hr (pv 0) (pa_cons (pv 2) (pa_cons (pv 6) pa_nil))))) pa_nil))))
  (pss_one (ps_dput (hu_of hr) (pe_f K (pv 0)) (pe_tup (pa_cons (pv 1) (pa_cons (pv 2) pa_nil))) (pe_and (pv 5) (pe_one (pe_not (pe_callB (anyK K) (by rfl) T.f_any (by decide +kernel) (pa_cons (pe_lc (own := [("k", 6)]) (g := gName 6) (tt := tYes) rfl sc_Forms_is_above.nd (pi_tup (pv 3)) (blkOk_by (own := [("k", 6)]) (N := ["self", "one", "other", "mine", "others", "found", "k"]) (sc := defScope s_Forms_is_above) (by decide +kernel)) (fun _ _ _ _ _ => (pg_name (i := 6) sc_Forms_is_above.nd rfl (Or.inl rfl))) (fun _ _ _ _ _ => pts_nil) (fun _ _ _ _ _ => (pe_mK K D_Forms_is_above hr (pv 0) (pa_cons (pv 6) (pa_cons (pv 1) pa_nil))))) pa_nil))))) rfl))))
    pss_nil)
  (pss_one (ps_ret (pe_dget (hu_of hr) (pe_f K (pv 0)) (pe_tup (pa_cons (pv 1) (pa_cons (pv 2) pa_nil))) (fun _ _ => rfl))))), ?_⟩), T.m_Forms_is_above, T.c_Forms, F.bindsN fun _ _ _ _ _ _ us hl => match us, hl with | [_, _, _], _ => rfl⟩
    · obtain ⟨_, _, _, _, _, rfl, _⟩ := h
      rfl
    · obtain ⟨A, G, F, i, j, rfl, S, hi, hj, hn, k⟩ := h
      obtain ⟨kvs, ho, ot⟩ := S.o
      refine ⟨_, rfl, _, rfl, by show 2 ≤ sizeLine; decide, fun t ht => ?_⟩
      have x1 := (Ex.rfl' (M := M0) S.e).new (o := .tup [.int (i : Int), .int (j : Int)]) ht
      have ht1 : upd H t (.tup [.int (i : Int), .int (j : Int)]) t = some (.tup [.int (i : Int), .int (j : Int)]) := upd_same
      have S1 := S.keep x1
      have ho1 := x1.same _ _ ho
      generalize upd H t (.tup [.int (i : Int), .int (j : Int)]) = H1 at x1 S1 ht1 ho1 ⊢
      generalize upd G t (.tup [.int (i : Int), .int (j : Int)]) = G1 at x1 S1
      refine ⟨_, rfl, A.fa, _, A.dx, _, .ref A.ot, rfl, S1.e _ _ S1.f, T.c_Forms, T.n_Forms_order_table, rfl, A.ot, _, rfl, DGet.t (k := [.inl (i : Int), .inl (j : Int)]) ho1 ht1, _, rfl, ?_⟩
      have ret : ∀ (G2 H2 : Hp) (En : Ends) (σ : L2.St), FS P w K A G2 H2 F → Ex (FM A) G H G2 H2 → (∃ x3 x4 x5 x6, σ = [some (.ref A.fa), some (.int (i : Int)), some (.int (j : Int)), x3, x4, x5, x6]) → (∃ kv2, H2 A.ot = some (.dT kv2) ∧ valV kv2 [.inl (i : Int), .inl (j : Int)] = some (.bl (M84.geb (M84.tr F i) (M84.tr F j)))) → (∀ v H', Q v H' → En.rt v H') →
          (tRet (tDGet (tFld K (tVar 0) "order_table") (tTup (tCons (tVar 1) (tCons (tVar 2) tNil))))) En σ H2 := by
        rintro G2 H2 En σ S2 x2 ⟨x3, x4, x5, x6, rfl⟩ ⟨kv2, ho2, hv2⟩ kn
        refine ⟨_, rfl, A.fa, _, A.dx, _, .ref A.ot, rfl, S2.e _ _ S2.f, T.c_Forms, T.n_Forms_order_table, rfl, _, rfl, _, rfl, by show 2 ≤ sizeLine; decide, fun t2 ht2 => ?_⟩
        have x3 := (Ex.rfl' (M := M0) S2.e).loc (o := .tup [.int (i : Int), .int (j : Int)]) ht2
        have dg := DGet.t (k := [.inl (i : Int), .inl (j : Int)]) (x3.same _ _ ho2) (upd_same (H := H2) (a := t2) (o := .tup [.int (i : Int), .int (j : Int)]))
        rw [hv2] at dg
        exact ⟨A.ot, _, rfl, dg, kn _ _ (k _ _ (x2.trans (x3.mono fun _ z => z.elim)) (S2.keep x3))⟩
      cases hv : valV kvs [.inl (i : Int), .inl (j : Int)] with
      | some v =>
        have ev := ot.val hv
        subst ev
        exact iteF (ret G1 H1 _ _ S1 (x1.mono fun _ z => z.elim) ⟨_, _, _, _, rfl⟩ ⟨kvs, ho1, hv⟩ fun _ _ z => z)
      | none =>
        refine iteT ?_
        obtain ⟨r, rvs, p, b, c, er, hl, erv, hp, hb, hc, l1, l2, v1, v2⟩ := S1.row hi
        obtain ⟨q, rvs', p', b', c', eq, hl', erv', hp', hb', hc', l1', l2', v1', v2'⟩ := S1.row hj
        rw [hl] at hl'
        have e1 := HO.lst.inj (Option.some.inj hl')
        subst e1
        have hf1 := S1.e _ _ S1.f
        have hn1 := S1.e _ _ S1.n
        refine ⟨_, rfl, A.fa, _, A.dx, _, .ref A.nd, rfl, hf1, T.c_Forms, T.n_Forms_nodes, rfl, A.nd, _, A.dy, _, .ref A.rl, rfl, hn1, T.c_Nodes, T.n_Nodes_row_list, rfl, _, rfl, A.rl, rvs, _, _, rfl, rfl, SqL.of hl, atN erv', p', _, _, _, rfl, rfl, SqT.of (S1.e _ _ hp'), atN (j := 0) rfl, ?_⟩
        refine ⟨_, rfl, A.fa, _, A.dx, _, .ref A.nd, rfl, hf1, T.c_Forms, T.n_Forms_nodes, rfl, A.nd, _, A.dy, _, .ref A.rl, rfl, hn1, T.c_Nodes, T.n_Nodes_row_list, rfl, _, rfl, A.rl, rvs, _, _, rfl, rfl, SqL.of hl, atN erv, p, _, _, _, rfl, rfl, SqT.of (S1.e _ _ hp), atN (j := 1) rfl, ?_⟩
        have store : ∀ (G2 H2 : Hp) (En : Ends) (σ : L2.St) (b : Bool), FS P w K A G2 H2 F → Ex (FM A) G H G2 H2 → (∃ x3 x4 x5 x6, σ = [some (.ref A.fa), some (.int (i : Int)), some (.int (j : Int)), x3, x4, x5, x6]) → b = M84.geb (M84.tr F i) (M84.tr F j) →
            (∀ σ G3 H3, FS P w K A G3 H3 F → Ex (FM A) G H G3 H3 → (∃ x3 x4 x5 x6, σ = [some (.ref A.fa), some (.int (i : Int)), some (.int (j : Int)), x3, x4, x5, x6]) → (∃ kv2, H3 A.ot = some (.dT kv2) ∧ valV kv2 [.inl (i : Int), .inl (j : Int)] = some (.bl (M84.geb (M84.tr F i) (M84.tr F j)))) → En.nx σ H3) →
            (sDPut (tFld K (tVar 0) "order_table") (tTup (tCons (tVar 1) (tCons (tVar 2) tNil))) (tC (.bl b))) En σ H2 := by
          rintro G2 H2 En σ b S2 x2 ⟨x3, x4, x5, x6, rfl⟩ rfl kn
          obtain ⟨kv2, ho2, ot2⟩ := S2.o
          refine ⟨_, rfl, A.fa, _, A.dx, _, .ref A.ot, rfl, S2.e _ _ S2.f, T.c_Forms, T.n_Forms_order_table, rfl, _, rfl, _, rfl, by show 2 ≤ sizeLine; decide, fun t2 ht2 => ?_⟩
          have x3 := (Ex.rfl' (M := M0) S2.e).loc (o := .tup [.int (i : Int), .int (j : Int)]) ht2
          have S3 := S2.keep x3
          have ho3 := x3.same _ _ ho2
          refine ⟨A.ot, _, rfl, DPut.t (k := [.inl (i : Int), .inl (j : Int)]) ho3 (upd_same (H := H2) (a := t2) (o := .tup [.int (i : Int), .int (j : Int)])) (Nat.lt_of_le_of_lt (ot2.len S2.len) (by decide)), ?_⟩
          have x4 := (x2.trans (x3.mono (M' := FM A) fun _ z => z.elim)).mut (o := .dT (putK kv2 [.inl (i : Int), .inl (j : Int)] (V.bl (M84.geb (M84.tr F i) (M84.tr F j))))) (.inr (.inr (.inr rfl))) S3.go
          obtain ⟨rvs3, hl3, dl3⟩ := S3.l
          obtain ⟨M3, N3, tb3⟩ := S3.t
          refine kn _ G2 _ ⟨x4.gh, S3.f, S3.n, ⟨rvs3, (upd_ne S3.lo).trans hl3, dl3⟩, S3.gl, ⟨M3, N3.mono (Same.refl _) (upd_ne S3.to), tb3⟩, S3.gt, ⟨_, upd_same, ot2.put' hi hj⟩, S3.go, S3.v, S3.nd, S3.len, S3.s1, S3.s2⟩ x4 ⟨_, _, _, _, rfl⟩ ⟨_, upd_same, by rw [valV_put, if_pos rfl]⟩
        have grow := M84.geb_row S.v er eq
        have sz2 : r.2.length ≤ sizeLine := sz63 l2
        refine ⟨_, _, rfl, ?_⟩
        refine ⟨_, rfl, c, rfl, ⟨_, SqT.of (S1.e _ _ hc)⟩, fun D hD => ?_⟩
        refine lcS (M := FM A) (S := fun G H => FS P w K A G H F) (R := RB) rb_mono (walk_tup (K := K) (a := c) (xs := iN r.2)) (r.2.map fun y => M84.geb (M84.tr F j) (M84.tr F y)) (by rw [iN_len, List.length_map]) (by rw [iN_len]; exact sz2) S1.e hD S1 (fun b m => S1.has m) (fun G' H' o s g m => s.put g m) (fun G' H' x => SqT.of (x.gh _ _ (x.g _ _ hc))) (fun _ => rfl)
          (fun jj x b' G' H' Q' ex eb xx s' q => ?_) fun G2 H2 ws x2 S2 gD hD2 rl => ?_
        · obtain ⟨y, ey, rfl⟩ := of_iN ex
          rw [List.getElem?_map, ey] at eb
          have eb' : M84.geb (M84.tr F j) (M84.tr F y) = b' := Option.some.inj eb
          have hy := v2 y (List.mem_of_getElem? ey)
          exact ⟨_, rfl, A.fa, A.dx, _, rfl, s'.e _ _ s'.f, rfl, _, rfl, _, rfl, A, G', F, j, y, rfl, s', hj, by omega, by omega, fun G'' H'' x3 s'' => q G'' H'' _ x3 s'' (by rw [← eb']; exact rfl)⟩
        · have x12 := (x1.mono (M' := FM A) fun _ z => z.elim).trans x2
          have hb2 := x2.gh _ _ (x2.g _ _ hb')
          rw [rl.bl] at hD2
          refine ⟨D, _, rfl, SqL.of hD2, _, rfl, _, rfl, _, rfl, ?_⟩
          cases hA : (r.2.map fun y => M84.geb (M84.tr F j) (M84.tr F y)).any id with
          | true =>
            rw [hA] at grow
            refine iteF (store G2 H2 _ _ false S2 x12 ⟨_, _, _, _, rfl⟩ (by rw [grow] <;> rfl) fun σ G3 H3 S3 x3 eσ hv => ret G3 H3 _ σ S3 x3 eσ hv fun _ _ z => z)
          | false =>
            rw [hA] at grow
            refine iteT ⟨_, rfl, b', rfl, ⟨_, SqT.of hb2⟩, fun D2 hD3 => ?_⟩
            refine lcS (M := FM A) (S := fun G H => FS P w K A G H F) (R := RB) rb_mono (walk_tup (K := K) (a := b') (xs := iN q.1)) (q.1.map fun y => M84.geb (M84.tr F y) (M84.tr F i)) (by rw [iN_len, List.length_map]) (by rw [iN_len]; exact sz63 l1') S2.e hD3 S2 (fun b m => S2.has m) (fun G' H' o s g m => s.put g m) (fun G' H' x => SqT.of (x.gh _ _ (x.g _ _ (x2.g _ _ hb')))) (fun _ => rfl)
              (fun jj x b'' G' H' Q' ex eb xx s' q => ?_) fun G3 H3 ws x3 S3 gD3 hD4 rl2 => ?_
            · obtain ⟨y, ey, rfl⟩ := of_iN ex
              rw [List.getElem?_map, ey] at eb
              have eb' : M84.geb (M84.tr F y) (M84.tr F i) = b'' := Option.some.inj eb
              have hy := v1' y (List.mem_of_getElem? ey)
              exact ⟨_, rfl, A.fa, A.dx, _, rfl, s'.e _ _ s'.f, rfl, _, rfl, _, rfl, A, G', F, y, i, rfl, s', by omega, hi, by omega, fun G'' H'' x3 s'' => q G'' H'' _ x3 s'' (by rw [← eb']; exact rfl)⟩
            · rw [rl2.bl] at hD4
              refine ⟨D2, _, rfl, SqL.of hD4, _, rfl, store G3 H3 _ _ _ S3 (x12.trans x3) ⟨_, _, _, _, rfl⟩ (by rw [grow] <;> rfl) fun σ G4 H4 S4 x4 eσ hv => ret G4 H4 _ σ S4 x4 eσ hv fun _ _ z => z⟩
end
end G84

namespace G84
open PySem PySem.Spec PyProof.Rows L2
/-! W15: is_over, behind. -/
def bI (b : Bool) : Int := if b = true then 1 else 0
section
variable {P : Program} {w : World} {K : PySem.W.Frag} {mg : Str → Option Value} {base : Heap}
def spOver (P : Program) (w : World) (K : PySem.W.Frag) : Sp := fun vs H Q _ => ∃ (A : FA) (G : Hp) (F : List Rw) (i j : Nat) (b : Bool), vs = [.ref A.fa, .int (i : Int), .int (j : Int), .int (bI b)] ∧ FS P w K A G H F ∧ i < F.length ∧ j < F.length ∧
  ∀ G' H', Ex (FM A) G H G' H' → FS P w K A G' H' F → Q (.bl (M84.overB F b i j)) H'
theorem sc_Forms_is_over : FnScope ["self", "one", "other", "at"] ["self", "one", "other", "at"] (defScope s_Forms_is_over) := ⟨rfl, rfl, rfl, by decide +kernel, rfl, by decide +kernel, by decide +kernel⟩
theorem ok_over (T : TX K mg) : MethOk P w K mg base 122 "Forms" "is_over" ["self", "one", "other", "at"] (spOver P w K) := by
  have D_Forms_is_above := ok_above (P := P) (w := w) (base := base) T 120
  obtain ⟨fd, F⟩ := T.d_Forms_is_over
  refine ⟨fd, F.ok sc_Forms_is_over (fun vs H Q E h => ?_) (fun cdv A outer s H vs Q E hr h => ⟨_, PSs.nox (pss_one (ps_ret (pe_ifExp (pt_cmpR op_eq (pv 3) pe_int (nomark _)) (pe_mK K D_Forms_is_above (hr.mono (by decide)) (pv 0) (pa_cons (pv 1) (pa_cons (pv 2) pa_nil))) (pe_mK K D_Forms_is_above (hr.mono (by decide)) (pv 0) (pa_cons (pv 2) (pa_cons (pv 1) pa_nil)))))), ?_⟩), T.m_Forms_is_over, T.c_Forms, F.bindsN fun _ _ _ _ _ _ us hl => match us, hl with | [_, _, _, _], _ => rfl⟩
  · obtain ⟨_, _, _, _, _, _, rfl, _⟩ := h
    rfl
  · obtain ⟨A, G, F, i, j, b, rfl, S, hi, hj, k⟩ := h
    have hs := S.len
    refine ⟨_, rfl, rfl, _, rfl, ?_⟩
    cases b with
    | false =>
      exact iteT ⟨_, rfl, A.fa, A.dx, _, rfl, S.e _ _ S.f, rfl, _, rfl, _, rfl, A, G, F, i, j, rfl, S, hi, hj, by omega, k⟩
    | true =>
      exact iteF ⟨_, rfl, A.fa, A.dx, _, rfl, S.e _ _ S.f, rfl, _, rfl, _, rfl, A, G, F, j, i, rfl, S, hj, hi, by omega, k⟩
theorem at_opt (b : Bool) {p q : Addr} : atI [V.ref p, V.ref q] (bI b) = some (.ref (if b = true then q else p)) := by cases b <;> rfl
theorem at_opt' (b : Bool) {p q : Addr} : atI [V.ref p, V.ref q] (1 - bI b) = some (.ref (if b = true then p else q)) := by cases b <;> rfl
theorem find_at {α : Type} {p : α → Bool} : ∀ {l : List α} {t : Nat} {a : α}, l[t]? = some a → (∀ x ∈ l.take t, p x = false) → p a = true → l.find? p = some a := by
  intro l
  induction l with
  | nil => intro t a h; simp at h
  | cons y ys ih =>
    intro t a h hb ha
    cases t with
    | zero =>
      have e : y = a := by simpa using h
      rw [e, List.find?_cons, ha]
    | succ t =>
      have hy := hb y (by simp)
      rw [List.find?_cons, hy]
      exact ih (by simpa using h) (fun x hx => hb x (by rw [List.take_succ_cons]; exact List.mem_cons_of_mem _ hx)) ha
def spBehind (P : Program) (w : World) (K : PySem.W.Frag) : Sp := fun vs H Q _ => ∃ (A : FA) (G : Hp) (F : List Rw) (wh o : Nat) (b : Bool), vs = [.ref A.fa, .int (wh : Int), .int (o : Int), .int (bI b)] ∧ FS P w K A G H F ∧ wh < F.length ∧ o < F.length ∧
  (M84.behR F wh o b = none → ∀ G' H', Ex (FM A) G H G' H' → FS P w K A G' H' F → Q .non H') ∧ (∀ more, M84.behR F wh o b = some more → ∀ G' H' l, Ex (FM A) G H G' H' → FS P w K A G' H' F → G' l = some (.lst (iN more)) → Q (.ref l) H')
def BI (P : Program) (w : World) (K : PySem.W.Frag) (A : FA) (G H : Hp) (F : List Rw) (wh o : Nat) (b : Bool) (l : List Nat) (t : Nat) (σ : L2.St) (H' : Hp) : Prop := ∃ G', (∃ x4, σ = [some (.ref A.fa), some (.int (wh : Int)), some (.int (o : Int)), some (.int (bI b)), x4]) ∧ Ex (FM A) G H G' H' ∧ FS P w K A G' H' F ∧ ∀ x ∈ l.take t, M84.overB F b wh x = false
theorem sc_Forms_behind : FnScope ["self", "whole", "option", "at", "answer"] ["self", "whole", "option", "at"] (defScope s_Forms_behind) := ⟨rfl, rfl, rfl, by decide +kernel, rfl, by decide +kernel, by decide +kernel⟩
theorem ok_behind (T : TX K mg) : MethOk P w K mg base 123 "Forms" "behind" ["self", "whole", "option", "at"] (spBehind P w K) := by
  have D_Forms_is_over := ok_over (P := P) (w := w) (base := base) T
  obtain ⟨fd, F⟩ := T.d_Forms_behind
  refine ⟨fd, F.ok sc_Forms_behind (fun vs H Q E h => ?_) (fun cdv A outer s H vs Q E hr h => ⟨_, PSs.nox (pss_cons (ps_for PassesOwn.never rfl (pi_tup (pe_ix (ixt K) (pe_ix (ixl K) (pe_f K (pe_f K (pv 0))) (pv 2) (fun _ _ => rfl)) (pe_op op_sub pe_int (pv 3)) (fun _ _ => rfl))) (pg_name (i := 4) sc_Forms_behind.nd rfl (Or.inl rfl))
    (pss_one (ps_if (pt_val (pe_mK K D_Forms_is_over (hr.mono (by decide)) (pv 0) (pa_cons (pv 1) (pa_cons (pv 4) (pa_cons (pv 3) pa_nil)))))
    (pss_one (ps_ret (pe_callTy (lstK K) (by rfl) T.f_list (by decide +kernel) (pa_cons (pe_ix (ixt K) (pe_ix (ixl K) (pe_f K (pe_f K (pv 0))) (pv 4) (fun _ _ => rfl)) (pv 3) (fun _ _ => rfl)) pa_nil))))
    pss_nil)))
  (pss_one (ps_ret pe_non))), ?_⟩), T.m_Forms_behind, T.c_Forms, F.bindsN fun _ _ _ _ _ _ us hl => match us, hl with | [_, _, _, _], _ => rfl⟩
  · obtain ⟨_, _, _, _, _, _, rfl, _⟩ := h
    rfl
  · obtain ⟨A, G, F, wh, o, b, rfl, S, hw, ho, kn, ks⟩ := h
    obtain ⟨r, rvs, p, c, d, er, hl, erv, hp, hc, hd, l1, l2, v1, v2⟩ := S.row ho
    have eo : M84.row F o = r := M84.getD_some er
    have hq : G (if b = true then c else d) = some (.tup (iN (M84.opt (!b) r))) := by cases b <;> assumption
    have lq : (M84.opt (!b) r).length < 64 := by cases b <;> assumption
    have vq : ∀ x ∈ M84.opt (!b) r, x < o := by cases b <;> assumption
    refine ⟨_, rfl, A.fa, _, A.dx, _, .ref A.nd, rfl, S.e _ _ S.f, T.c_Forms, T.n_Forms_nodes, rfl, A.nd, _, A.dy, _, .ref A.rl, rfl, S.e _ _ S.n, T.c_Nodes, T.n_Nodes_row_list, rfl, _, rfl, A.rl, rvs, _, _, rfl, rfl, SqL.of hl, atN erv, _, rfl, _, _, rfl, rfl, p, _, _, _, rfl, rfl, SqT.of (S.e _ _ hp), at_opt' b, _, rfl, ⟨_, SqT.of (S.e _ _ hq)⟩, for_tup (K := K) (a := if b = true then c else d) (xs := iN (M84.opt (!b) r)) (BI P w K A G H F wh o b (M84.opt (!b) r)) ⟨G, ⟨_, rfl⟩, Ex.rfl' S.e, S, fun x h => by simp at h⟩ (fun t σ H' _ ⟨_, _, x, _⟩ => SqT.of (x.gh _ _ (x.g _ _ hq))) ?_ ?_⟩
    · rintro t x σ H1 ht ⟨G1, ⟨x4, rfl⟩, x1, S1, hb⟩
      obtain ⟨a, ea, rfl⟩ := of_iN ht
      have hao := vq a (List.mem_of_getElem? ea)
      refine ⟨_, rfl, A.fa, A.dx, _, rfl, S1.e _ _ S1.f, rfl, _, rfl, _, rfl, _, rfl, A, G1, F, wh, a, b, rfl, S1, hw, by omega, fun G2 H2 x2 S2 => ⟨_, rfl, ?_⟩⟩
      cases hov : M84.overB F b wh a with
      | true =>
        obtain ⟨q, rvs', p', c', d', eq, hl', erv', hp', hc', hd', l1', l2', _, _⟩ := S2.row (i := a) (by omega)
        have hq' : G2 (if b = true then d' else c') = some (.tup (iN (M84.opt b q))) := by cases b <;> assumption
        refine iteT ⟨_, rfl, A.fa, _, A.dx, _, .ref A.nd, rfl, S2.e _ _ S2.f, T.c_Forms, T.n_Forms_nodes, rfl, A.nd, _, A.dy, _, .ref A.rl, rfl, S2.e _ _ S2.n, T.c_Nodes, T.n_Nodes_row_list, rfl, _, rfl, A.rl, rvs', _, _, rfl, rfl, SqL.of hl', atN erv', _, rfl, p', _, _, _, rfl, rfl, SqT.of (S2.e _ _ hp'), at_opt b, _, _, rfl, .inr (SqT.of (S2.e _ _ hq')), fun l hnew => ?_⟩
        have x3 := (Ex.rfl' (M := M0) S2.e).new (o := .lst (iN (M84.opt b q))) hnew
        refine ks _ ?_ _ _ l ((x1.trans x2).trans (x3.mono fun _ z => z.elim)) (S2.keep x3) upd_same
        unfold M84.behR
        rw [eo, find_at ea hb hov, Option.map_some, show M84.row F a = q from M84.getD_some eq]
      | false =>
        refine iteF ⟨G2, ⟨_, rfl⟩, x1.trans x2, S2, fun x hx => ?_⟩
        rw [take_snoc ea] at hx
        rcases List.mem_append.mp hx with hx | hx
        · exact hb x hx
        · have : x = a := by simpa using hx
          rw [this]; exact hov
    · rintro σ H1 ⟨G1, ⟨x4, rfl⟩, x1, S1, hb⟩
      refine kn ?_ G1 H1 x1 S1
      unfold M84.behR
      rw [eo, Option.map_eq_none_iff, List.find?_eq_none]
      intro x hx
      rw [hb x (by rw [iN_len, List.take_length]; exact hx)]
      decide
end
end G84

namespace G84
open PySem PySem.Spec PyProof.Rows L2
/-! W16: led_round, needed. -/
section
variable {P : Program} {w : World} {K : PySem.W.Frag} {mg : Str → Option Value} {base : Heap}
theorem while_st {α : Type} {c : TT} {tb : TS} {D : Ends} {σ : L2.St} {H : Hp} {a0 : α} (Pv : α → L2.St → Hp → Prop) (μ : α → Nat) (h0 : Pv a0 σ H)
    (hs : ∀ a σ H, Pv a σ H → c σ H fun b H1 => if b = true then tb { D with nx := fun σ' H' => ∃ a', μ a' < μ a ∧ Pv a' σ' H', ct := fun σ' H' => ∃ a', μ a' < μ a ∧ Pv a' σ' H', bk := D.nx } σ H1 else D.nx σ H1)
    (mono : ∀ a σ H Q Q', Pv a σ H → (∀ b H1, Q b H1 → Q' b H1) → c σ H Q → c σ H Q') : tWhile c tb D σ H := by
  refine ⟨fun m σ H => ∃ a, m = μ a ∧ Pv a σ H, ⟨_, _, rfl, h0⟩, ?_⟩
  rintro m σ H ⟨a, rfl, p⟩
  refine mono a σ H _ _ p (fun b H1 q => ?_) (hs a σ H p)
  cases b with
  | true => exact ⟨_, fun σ' H' ⟨a', l, p'⟩ => ⟨_, l, _, rfl, p'⟩, q⟩
  | false => exact q
def spLed (P : Program) (w : World) (K : PySem.W.Frag) : Sp := fun vs H Q _ => ∃ (A : FA) (G : Hp) (F : List Rw) (wh : Nat) (a : Addr) (opts : List Nat) (b : Bool), vs = [.ref A.fa, .int (wh : Int), .ref a, .int (bI b)] ∧ FS P w K A G H F ∧ M84.NdR F ∧ wh < F.length ∧ H a = some (.lst (iN opts)) ∧ opts.Nodup ∧ (∀ x ∈ opts, x < F.length) ∧
  ∀ G' H' l, Ex (FM A) G H G' H' → FS P w K A G' H' F → G' l = some (.lst (iN (M84.led F wh b opts))) → Q (.ref l) H'
def LV (P : Program) (w : World) (K : PySem.W.Frag) (A : FA) (G H : Hp) (F : List Rw) (wh : Nat) (o : V) (b : Bool) (res : List Nat) (s : List Nat × List Nat) (σ : L2.St) (H' : Hp) : Prop := ∃ G' lf fo, (∃ x6 x7 x8, σ = [some (.ref A.fa), some (.int (wh : Int)), some o, some (.int (bI b)), some (.ref lf), some (.ref fo), x6, x7, x8]) ∧ Ex (FM A) G H G' H' ∧ FS P w K A G' H' F ∧
  H' lf = some (.lst (iN s.1)) ∧ G' lf = none ∧ H lf = none ∧ H' fo = some (.lst (iN s.2)) ∧ G' fo = none ∧ H fo = none ∧ lf ≠ fo ∧ M84.LI F s ∧ ∃ n, M84.msr s.1 ≤ n ∧ (M84.ledN F wh b n s).2 = res
theorem sc_Forms_led_round : FnScope ["self", "whole", "options", "at", "left", "found", "option", "more", "k"] ["self", "whole", "options", "at"] (defScope s_Forms_led_round) := ⟨rfl, rfl, rfl, by decide +kernel, rfl, by decide +kernel, by decide +kernel⟩
theorem ok_led (T : TX K mg) : MethOk P w K mg base 124 "Forms" "led_round" ["self", "whole", "options", "at"] (spLed P w K) := by
  have D_Forms_behind := ok_behind (P := P) (w := w) (base := base) T
  obtain ⟨fd, F⟩ := T.d_Forms_led_round
  refine ⟨fd, F.ok sc_Forms_led_round (fun vs H Q E h => ?_) (fun cdv A outer s H vs Q E hr h => ⟨_, PSs.nox (pss_cons (ps_asg (pe_tup (pa_cons (pe_callTy (lstK K) (by rfl) T.f_list (by decide +kernel) (pa_cons (pv 2) pa_nil)) (pa_cons (pe_lst pa_nil) pa_nil))) (pg_tup rfl (pgs_cons (pg_name (i := 4) sc_Forms_led_round.nd rfl (Or.inr rfl)) (pgs_cons (pg_name (i := 5) sc_Forms_led_round.nd rfl (Or.inr rfl)) pgs_nil))))
  (pss_cons (ps_while PassesOwn.never (pt_cmpR (neD K hr.units) (pv 4) (pe_lst pa_nil) (nomark _))
    (pss_cons (ps_set (i := 6) sc_Forms_led_round.nd rfl (Or.inl rfl) (pe_bm PySem.F.plainAttrs_list PySem.F.slot_list_pop PySem.F.type_list_pop mt_popAt (pv 4) (pa_cons pe_int pa_nil)))
  (pss_cons (ps_set (i := 7) sc_Forms_led_round.nd rfl (Or.inl rfl) (pe_mK K D_Forms_behind (hr.mono (by decide)) (pv 0) (pa_cons (pv 1) (pa_cons (pv 6) (pa_cons (pv 3) pa_nil)))))
  (pss_one (ps_if (pt_cmpR op_notN (pv 7) pe_non (nomark _))
    (pss_one (ps_set (i := 4) sc_Forms_led_round.nd rfl (Or.inr rfl) (pe_op op_cat (pv 4) (pe_lc (own := [("k", 8)]) (g := gName 8) rfl sc_Forms_led_round.nd (pi_list (pv 7)) (blkOk_by (own := [("k", 8)]) (N := ["self", "whole", "options", "at", "left", "found", "option", "more", "k"]) (sc := defScope s_Forms_led_round) (by decide +kernel)) (fun _ _ _ _ _ => (pg_name (i := 8) sc_Forms_led_round.nd rfl (Or.inl rfl))) (fun _ _ _ _ _ => pts_one (PW.pt (pw_and (pt_cmpR (ninD K (un65 hr)) (pv 8) (pv 4) (by rfl)) (pw_and1 (pt_cmpR (ninD K (un65 hr)) (pv 8) (pv 5) (by rfl)))))) (fun _ _ _ _ _ => (pv 8))))))
    (pss_one (ps_if (pt_cmpR (ninD K (un65 hr)) (pv 6) (pv 5) (by rfl))
    (pss_one (ps_expr (pe_bm PySem.F.plainAttrs_list PySem.F.slot_list_append PySem.F.type_list_append mt_append (pv 5) (pa_cons (pv 6) pa_nil))))
    pss_nil)))))))
  (pss_one (ps_ret (pv 5))))), ?_⟩), T.m_Forms_led_round, T.c_Forms, F.bindsN fun _ _ _ _ _ _ us hl => match us, hl with | [_, _, _, _], _ => rfl⟩
  · obtain ⟨_, _, _, _, _, _, _, rfl, _⟩ := h
    rfl
  · obtain ⟨A, G, F, wh, a, opts, b, rfl, S, nd, hw, ha, n1, n2, k⟩ := h
    refine ⟨_, rfl, a, _, rfl, .inl (SqL.of ha), fun lf nlf => ⟨Nat.zero_le _, fun fo nfo => ⟨by show 2 ≤ sizeLine; decide, fun t nt => ?_⟩⟩⟩
    have nlo : lf ≠ fo := ne_of_none upd_same nfo
    have nfo' : H fo = none := by rw [upd_ne nlo.symm] at nfo; exact nfo
    have x1 := ((Ex.rfl' (M := FM A) S.e).loc (o := .lst (iN opts)) nlf).loc (o := .lst []) nfo
    have S1 := (S.loc (o := .lst (iN opts)) nlf).loc (o := .lst []) nfo
    have hl1 : upd (upd H lf (.lst (iN opts))) fo (.lst []) lf = some (.lst (iN opts)) := by rw [upd_ne nlo, upd_same]
    have hf1 : upd (upd H lf (.lst (iN opts))) fo (.lst []) fo = some (.lst (iN [])) := upd_same
    have x2 := x1.new (o := .tup [.ref lf, .ref fo]) nt
    have S2 := S1.keep ((Ex.rfl' x1.gh).new (o := .tup [.ref lf, .ref fo]) nt)
    have hl2 := (upd_ne (o := HO.tup [V.ref lf, V.ref fo]) (ne_of_none hl1 nt)).trans hl1
    have hf2 := (upd_ne (o := HO.tup [V.ref lf, V.ref fo]) (ne_of_none hf1 nt)).trans hf1
    have gl2 := (upd_ne (o := HO.tup [V.ref lf, V.ref fo]) (ne_of_none hl1 nt)).trans (same_free S.e nlf)
    have gf2 := (upd_ne (o := HO.tup [V.ref lf, V.ref fo]) (ne_of_none hf1 nt)).trans (same_free S.e nfo')
    refine ⟨t, _, rfl, SqT.of upd_same, rfl, _, _, rfl, _, _, rfl, rfl, ?_⟩
    generalize upd (upd (upd H lf (.lst (iN opts))) fo (.lst [])) t (.tup [.ref lf, .ref fo]) = H2 at x2 S2 hl2 hf2 ⊢
    generalize upd G t (.tup [.ref lf, .ref fo]) = G2 at x2 S2 gl2 gf2
    have le := M84.led_end S.v nd (wh := wh) (b := b) n1 n2
    refine while_st (α := List Nat × List Nat) (a0 := (opts, [])) (LV P w K A G H F wh (.ref a) b (M84.led F wh b opts)) (fun s => M84.msr s.1) ⟨G2, lf, fo, ⟨_, _, _, rfl⟩, x2, S2, hl2, gl2, nlf, hf2, gf2, nfo', nlo, M84.led_start n1 n2, 2 ^ F.length, Nat.le_of_lt (M84.msr_lt _ _ n1 n2), rfl⟩ ?_ ?_
    · clear hl2 hf2 gl2 gf2 x2 S2 nlo nlf nfo nfo' nt hl1 hf1 x1 S1
      rintro s σ H3 ⟨G3, lf, fo, ⟨x6, x7, x8, rfl⟩, x3, S3, hl3, gl3, nlf, hf3, gf3, nfo, nlo, li, n, hn, hres⟩
      refine ⟨_, rfl, Nat.zero_le _, fun p hp => ?_⟩
      have x4 := (Ex.rfl' (M := M0) S3.e).loc (o := .lst []) hp
      have S4 := S3.keep x4
      have hl4 := x4.same _ _ hl3
      have hf4 := x4.same _ _ hf3
      refine ⟨_, _, (lN_dt hl4).dp, (lN_dt (l := []) upd_same).dp, shaped_lN _, shaped_lN _, _, rfl, ?_⟩
      rw [eqv_lN]
      have x34 := x3.trans (x4.mono (M' := FM A) fun _ z => z.elim)
      generalize upd H3 p (.lst []) = H4 at x4 S4 hl4 hf4 x34 ⊢
      have nM : ¬ FM A lf := fun m => S.has m nlf
      have nMf : ¬ FM A fo := fun m => S.has m nfo
      obtain ⟨ls, fnd⟩ := s
      cases ls with
      | nil =>
        rw [decide_eq_true rfl]
        have x5 := x34.frz nfo hf4 gf3
        rw [M84.ledN_end n _ rfl] at hres
        have hres' : fnd = M84.led F wh b opts := hres
        refine iteF ⟨_, rfl, k _ _ fo x5 (S4.frz hf4 gf3 nMf) ?_⟩
        rw [upd_same, ← hres'] <;> rfl
      | cons o rest =>
        rw [decide_eq_false (fun z => nomatch z)]
        have ho := li.l1 o (List.mem_cons_self ..)
        obtain ⟨li', lt'⟩ := M84.led_li S.v nd (wh := wh) (b := b) li
        have lt' := lt' (fun z => nomatch z)
        have mpos : 0 < M84.msr (o :: rest) := by
          have e : M84.msr (o :: rest) = 2 ^ o + M84.msr rest := by unfold M84.msr; simp
          have := Nat.two_pow_pos o
          omega
        obtain ⟨n', rfl⟩ : ∃ n', n = n' + 1 := ⟨n - 1, by have : M84.msr (o :: rest) ≤ n := hn; omega⟩
        have hres' : (M84.ledN F wh b n' (M84.ledStep F wh b (o :: rest, fnd))).2 = M84.led F wh b opts := hres
        have hn' : M84.msr (M84.ledStep F wh b (o :: rest, fnd)).1 ≤ n' := by
          have h1 : M84.msr (o :: rest) ≤ n' + 1 := hn
          omega
        refine iteT ⟨_, rfl, .inl ⟨rfl, _, SqL.of hl4⟩, lf, _, 0, 0, _, rfl, rfl, hl4, by decide, by decide, by simp [seqIndex?], rfl, ?_⟩
        have x5 := x34.mut (o := .lst (iN rest)) (.inl nlf) gl3
        have S5 := S4.put (o := .lst (iN rest)) gl3 nM
        have hl5 : upd H4 lf (.lst (iN rest)) lf = some (.lst (iN rest)) := upd_same
        have hf5 : upd H4 lf (.lst (iN rest)) fo = some (.lst (iN fnd)) := (upd_ne nlo.symm).trans hf4
        show tSeq _ _ _ _ (upd H4 lf (.lst (iN rest)))
        generalize upd H4 lf (.lst (iN rest)) = H5 at x5 S5 hl5 hf5 ⊢
        refine ⟨_, rfl, A.fa, A.dx, _, rfl, S5.e _ _ S5.f, rfl, _, rfl, _, rfl, _, rfl, A, G3, F, wh, o, b, rfl, S5, hw, ho, fun hb G6 H6 x6 S6 => ?_, fun more hb G6 H6 l x6 S6 hl => ?_⟩
        · have es : M84.ledStep F wh b (o :: rest, fnd) = (rest, if o ∈ fnd then fnd else fnd ++ [o]) := by
            unfold M84.ledStep
            dsimp only
            rw [hb]
          rw [es] at li' lt' hres' hn'
          have hl6 := x6.s _ _ hl5 nM
          have hf6 := x6.s _ _ hf5 nMf
          have gl6 := x6.fr lf (by rw [hl5]; exact fun z => nomatch z) gl3
          have gf6 := x6.fr fo (by rw [hf5]; exact fun z => nomatch z) gf3
          refine ⟨_, rfl, rfl, _, rfl, iteF ⟨_, rfl, _, rfl, nD o, fnd.map nD, .int _, (lN_dt hf6).dp, shaped_nD _, shaped_lN _, _, rfl, ?_⟩⟩
          by_cases hof : o ∈ fnd
          · rw [any_yes eqv_nD hof]
            rw [if_pos hof] at li' lt' hres' hn'
            exact iteF ⟨(rest, fnd), lt', G6, lf, fo, ⟨_, _, _, rfl⟩, x5.trans x6, S6, hl6, gl6, nlf, hf6, gf6, nfo, nlo, li', n', hn', hres'⟩
          · rw [any_no eqv_nD hof]
            rw [if_neg hof] at li' lt' hres' hn'
            have lf60 : fnd.length ≤ F.length := M84.nodup_len li.n2 li.l2
            have sl := S.len
            refine iteT ⟨_, rfl, .inl ⟨rfl, _, SqL.of hf6⟩, _, rfl, fo, _, _, rfl, rfl, hf6, by rw [iN_len]; exact small1000 (by omega), ?_⟩
            refine ⟨(rest, fnd ++ [o]), lt', G6, lf, fo, ⟨_, _, _, rfl⟩, (x5.trans x6).mut (.inl nfo) gf6, S6.put gf6 nMf, (upd_ne nlo).trans hl6, gl6, nlf, ?_, gf6, nfo, nlo, li', n', hn', hres'⟩
            rw [upd_same]
            exact congrArg (fun z => some (HO.lst z)) (iN_snoc fnd o).symm
        · have es : M84.ledStep F wh b (o :: rest, fnd) = (rest ++ more.filter (fun k => !(decide (k ∈ rest)) && !(decide (k ∈ fnd))), fnd) := by
            unfold M84.ledStep
            dsimp only
            rw [hb]
          rw [es] at li' lt' hres' hn'
          have hl6 := x6.s _ _ hl5 nM
          have hf6 := x6.s _ _ hf5 nMf
          have gl6 := x6.fr lf (by rw [hl5]; exact fun z => nomatch z) gl3
          have gf6 := x6.fr fo (by rw [hf5]; exact fun z => nomatch z) gf3
          have sl := S.len
          have lmore : more.length ≤ 1000 := by
            obtain ⟨a', ha', _, rfl⟩ := M84.beh_some hb
            have := M84.nodup_len (M84.opt_nd nd b a') fun x hx => (M84.opt_lt S.v hx).1
            have := (M84.opt_lt S.v ha')
            omega
          have l60 : (rest ++ more.filter (fun k => !(decide (k ∈ rest)) && !(decide (k ∈ fnd)))).length ≤ F.length := M84.nodup_len li'.n1 li'.l1
          rw [List.length_append] at l60
          have htrue : (!decide (V.ref l = V.non)) = true := by simp
          refine ⟨_, rfl, rfl, _, rfl, ?_⟩
          rw [htrue]
          refine iteT ⟨_, rfl, _, rfl, l, rfl, ⟨_, SqL.of (S6.e _ _ hl)⟩, fun D hD => lcL (fun v => v) (liftP fun k => !(decide (k ∈ rest)) && !(decide (k ∈ fnd))) (SqL.of (S6.e _ _ hl)) hD (by rw [iN_len]; exact Nat.le_of_lt (small1000 lmore)) (fun _ => rfl) (fun x H7 Q' hx s7 q => ?_) (fun x H7 Q' hx _ s7 q => ⟨_, rfl, q⟩) ?_⟩
          · obtain ⟨m, hm, rfl⟩ := of_iN_mem hx
            refine ⟨_, rfl, _, rfl, nD m, rest.map nD, .int _, (lN_dt (s7 _ _ hl6)).dp, shaped_nD _, shaped_lN _, _, rfl, ?_⟩
            by_cases h1 : m ∈ rest
            · rw [any_yes eqv_nD h1]
              have e1 : liftP (fun k => !(decide (k ∈ rest)) && !(decide (k ∈ fnd))) (V.int (m : Int)) = false := by
                show (!(decide (m ∈ rest)) && !(decide (m ∈ fnd))) = false
                simp [h1]
              rw [e1] at q
              exact iteF q
            · rw [any_no eqv_nD h1]
              refine iteT ⟨_, rfl, _, rfl, nD m, fnd.map nD, .int _, (lN_dt (s7 _ _ hf6)).dp, shaped_nD _, shaped_lN _, _, rfl, ?_⟩
              by_cases h2 : m ∈ fnd
              · rw [any_yes eqv_nD h2]
                have e1 : liftP (fun k => !(decide (k ∈ rest)) && !(decide (k ∈ fnd))) (V.int (m : Int)) = false := by
                  show (!(decide (m ∈ rest)) && !(decide (m ∈ fnd))) = false
                  simp [h2]
                rw [e1] at q
                exact q
              · rw [any_no eqv_nD h2]
                have e1 : liftP (fun k => !(decide (k ∈ rest)) && !(decide (k ∈ fnd))) (V.int (m : Int)) = true := by
                  show (!(decide (m ∈ rest)) && !(decide (m ∈ fnd))) = true
                  simp [h1, h2]
                rw [e1] at q
                exact q
          · rw [filt_iN, List.map_id']
            have x7 := (Ex.rfl' (M := M0) S6.e).loc (o := .lst (iN (more.filter fun k => !(decide (k ∈ rest)) && !(decide (k ∈ fnd))))) hD
            have hD7 : upd H6 D (.lst (iN (more.filter fun k => !(decide (k ∈ rest)) && !(decide (k ∈ fnd))))) D = some (.lst (iN (more.filter fun k => !(decide (k ∈ rest)) && !(decide (k ∈ fnd))))) := upd_same
            have S7 := S6.keep x7
            have hl7 := x7.same _ _ hl6
            have hf7 := x7.same _ _ hf6
            generalize upd H6 D (.lst (iN (more.filter fun k => !(decide (k ∈ rest)) && !(decide (k ∈ fnd))))) = H7 at x7 hD7 S7 hl7 hf7 ⊢
            refine ⟨lf, D, _, _, rfl, rfl, hl7, hD7, by rw [iN_len, iN_len]; exact Nat.le_of_lt (small1000 (Nat.le_trans l60 (by omega))), fun p hp => ?_⟩
            have x8 := (Ex.rfl' (M := M0) S7.e).loc (o := .lst (iN rest ++ iN (more.filter fun k => !(decide (k ∈ rest)) && !(decide (k ∈ fnd))))) hp
            have x68 := (x5.trans x6).trans ((x7.trans x8).mono (M' := FM A) fun _ z => z.elim)
            refine ⟨(rest ++ more.filter (fun k => !(decide (k ∈ rest)) && !(decide (k ∈ fnd))), fnd), lt', G6, p, fo, ⟨_, _, _, rfl⟩, x68, S7.keep x8, ?_, same_free S7.e hp, ((x5.trans x6).trans (x7.mono (M' := FM A) fun _ z => z.elim)).free hp, x8.same _ _ hf7, gf6, nfo, ?_, li', n', hn', hres'⟩
            · rw [upd_same]
              refine congrArg (fun z => some (HO.lst z)) ?_
              show _ = (rest ++ _).map (fun n : Nat => V.int (n : Int))
              rw [List.map_append]
            · exact fun z => by rw [z, hf7] at hp; cases hp
    · rintro s σ H3 Q1 Q2 _ hq h
      obtain ⟨v, e1, e2, h⟩ := h
      refine ⟨v, e1, e2, fun p hp => ?_⟩
      obtain ⟨d, d', h1, h2, h3, h4, c, ec, h5⟩ := h p hp
      exact ⟨d, d', h1, h2, h3, h4, c, ec, hq _ _ h5⟩
theorem sorted_nat {ns' : List Int} {l : List Nat} (hp : ns'.Perm (l.map fun n : Nat => (n : Int))) (hs : ns'.Pairwise (· ≤ ·)) (nd : l.Nodup) : ns' = (M84.uniq l).map fun n : Nat => (n : Int) := by
  have nd' : ns'.Nodup := hp.nodup_iff.mpr (List.pairwise_map.mpr (nd.imp fun h z => h (by omega)))
  refine asc_int ?_ fun k => hp.mem_iff
  exact (List.Pairwise.and hs nd').imp fun h => by obtain ⟨h1, h2⟩ := h; omega
def spNeeded (P : Program) (w : World) (K : PySem.W.Frag) : Sp := fun vs H Q _ => ∃ (A : FA) (G : Hp) (F : List Rw) (a : Addr) (opts : List Nat) (b : Bool), vs = [.ref A.fa, .ref a, .int (bI b)] ∧ FS P w K A G H F ∧ G a = some (.lst (iN opts)) ∧ opts.Nodup ∧ (∀ x ∈ opts, x < F.length) ∧
  ∀ G' H' l, Ex (FM A) G H G' H' → FS P w K A G' H' F → G' l = some (.lst (iN (M84.needR F b opts))) → Q (.ref l) H'
def NV (P : Program) (w : World) (K : PySem.W.Frag) (A : FA) (G H : Hp) (F : List Rw) (a fo : Addr) (b : Bool) (l : List Nat) (σ : L2.St) (H' : Hp) : Prop := ∃ G', (∃ x4 x5, σ = [some (.ref A.fa), some (.ref a), some (.int (bI b)), some (.ref fo), x4, x5]) ∧ Ex (FM A) G H G' H' ∧ FS P w K A G' H' F ∧ H' fo = some (.lst (iN l)) ∧ G' fo = none
theorem sc_Forms_needed : FnScope ["self", "options", "at", "found", "one", "other"] ["self", "options", "at"] (defScope s_Forms_needed) := ⟨rfl, rfl, rfl, by decide +kernel, rfl, by decide +kernel, by decide +kernel⟩
theorem ok_needed (T : TX K mg) : MethOk P w K mg base 123 "Forms" "needed" ["self", "options", "at"] (spNeeded P w K) := by
  have D_Forms_is_over := ok_over (P := P) (w := w) (base := base) T
  obtain ⟨fd, F⟩ := T.d_Forms_needed
  refine ⟨fd, F.ok sc_Forms_needed (fun vs H Q E h => ?_) (fun cdv A outer s H vs Q E hr h => ⟨_, PSs.nox (pss_cons (ps_set (i := 3) sc_Forms_needed.nd rfl (Or.inl rfl) (pe_lst pa_nil))
  (pss_cons (ps_for PassesOwn.never rfl (pi_list (pv 1)) (pg_name (i := 4) sc_Forms_needed.nd rfl (Or.inr rfl))
    (pss_one (ps_if (pt_not (pt_val (pe_callB (anyK K) (by rfl) T.f_any (by decide +kernel) (pa_cons (pe_lc (own := [("other", 5)]) (g := gName 5) (tt := tYes) rfl sc_Forms_needed.nd (pi_list (pv 1)) (blkOk_by (own := [("other", 5)]) (N := ["self", "options", "at", "found", "one", "other"]) (sc := defScope s_Forms_needed) (by decide +kernel)) (fun _ _ _ _ _ => (pg_name (i := 5) sc_Forms_needed.nd rfl (Or.inl rfl))) (fun _ _ _ _ _ => pts_nil) (fun _ _ _ _ _ => (pe_and (pe_cmpR op_ne (pv 5) (pv 4) (nomark _)) (pe_one (pe_mK K D_Forms_is_over (hr.mono (by decide)) (pv 0) (pa_cons (pv 5) (pa_cons (pv 4) (pa_cons (pv 2) pa_nil)))))))) pa_nil))))
    (pss_one (ps_expr (pe_bm PySem.F.plainAttrs_list PySem.F.slot_list_append PySem.F.type_list_append mt_append (pv 3) (pa_cons (pv 4) pa_nil))))
    pss_nil)))
  (pss_one (ps_ret (pe_callB (srtI K) (by rfl) T.f_sorted (by decide +kernel) (pa_cons (pe_lc (own := [("one", 4)]) (g := gName 4) (tt := tYes) rfl sc_Forms_needed.nd (pi_list (pv 3)) (blkOk_by (own := [("one", 4)]) (N := ["self", "options", "at", "found", "one", "other"]) (sc := defScope s_Forms_needed) (by decide +kernel)) (fun _ _ _ _ _ => (pg_name (i := 4) sc_Forms_needed.nd rfl (Or.inl rfl))) (fun _ _ _ _ _ => pts_nil) (fun _ _ _ _ _ => (pe_callTy call_int1 (by rfl) T.f_int (by decide +kernel) (pa_cons (pv 4) pa_nil)))) pa_nil)))))), ?_⟩), T.m_Forms_needed, T.c_Forms, F.bindsN fun _ _ _ _ _ _ us hl => match us, hl with | [_, _, _], _ => rfl⟩
  · obtain ⟨_, _, _, _, _, _, rfl, _⟩ := h
    rfl
  · obtain ⟨A, G, F, a, opts, b, rfl, S, ha, n1, n2, k⟩ := h
    have l60 := M84.nodup_len n1 n2
    have sl := S.len
    refine ⟨Nat.zero_le _, fun fo nfo => ?_⟩
    have nMf : ¬ FM A fo := fun m => S.has m nfo
    have x1 := (Ex.rfl' (M := FM A) S.e).loc (o := .lst []) nfo
    have S1 := S.loc (o := .lst []) nfo
    refine ⟨_, rfl, a, rfl, ⟨_, SqL.of (x1.gh _ _ ha)⟩, for_list (K := K) (a := a) (xs := iN opts) (fun t => NV P w K A G H F a fo b ((opts.take t).filter fun x => !(opts.any fun y => decide (y ≠ x) && M84.overB F b y x))) ⟨G, ⟨_, _, rfl⟩, x1, S1, upd_same, same_free S.e nfo⟩ (fun t σ H' _ ⟨_, _, x, _⟩ => SqL.of (x.gh _ _ (x.g _ _ ha))) ?_ ?_⟩
    · rintro t x σ H2 ht ⟨G2, ⟨x4, x5, rfl⟩, x2, S2, hf, gf⟩
      obtain ⟨o, eo, rfl⟩ := of_iN ht
      have ho := n2 o (List.mem_of_getElem? eo)
      have ha2 := x2.g _ _ ha
      refine ⟨_, rfl, a, rfl, ⟨_, SqL.of (S2.e _ _ ha2)⟩, fun D hD => ?_⟩
      refine lcS (M := FM A) (S := fun G H => FS P w K A G H F) (R := RB) rb_mono (walk_list (K := K) (a := a) (xs := iN opts)) (opts.map fun y => decide (y ≠ o) && M84.overB F b y o) (by rw [iN_len, List.length_map]) (by rw [iN_len]; exact Nat.le_of_lt (small1000 (by omega))) S2.e hD S2 (fun b m => S2.has m) (fun G' H' o s g m => s.put g m) (fun G' H' x => SqL.of (x.gh _ _ (x.g _ _ ha2))) (fun _ => rfl)
        (fun jj x b' G' H' Q' ex eb xx s' q => ?_) fun G3 H3 ws x3 S3 gD hD3 rl => ?_
      · obtain ⟨y, ey, rfl⟩ := of_iN ex
        rw [List.getElem?_map, ey] at eb
        have eb' : (decide (y ≠ o) && M84.overB F b y o) = b' := Option.some.inj eb
        have hy := n2 y (List.mem_of_getElem? ey)
        refine ⟨_, rfl, _, rfl, rfl, _, rfl, ?_⟩
        have ed : (!decide (V.int (y : Int) = V.int (o : Int))) = decide (y ≠ o) := by
          rw [dec_int]
          by_cases h : y = o
          · subst h; simp
          · have : ((y : Int) == (o : Int)) = false := beq_eq_false_iff_ne.mpr (by omega)
            rw [this]; simp [h]
        rw [ed]
        by_cases h : y ≠ o
        · rw [decide_eq_true h] at eb' ⊢
          exact iteT ⟨_, rfl, A.fa, A.dx, _, rfl, s'.e _ _ s'.f, rfl, _, rfl, _, rfl, _, rfl, A, G', F, y, o, b, rfl, s', hy, ho, fun G'' H'' x3 s'' => q G'' H'' _ x3 s'' (by rw [← eb']; exact rfl)⟩
        · rw [decide_eq_false h] at eb' ⊢
          exact iteF (q G' H' _ (Ex.rfl' s'.e) s' (by rw [← eb']; exact rfl))
      · rw [rl.bl] at hD3
        have hf3 := x3.s _ _ hf nMf
        have gf3 := x3.fr fo (by rw [hf]; exact fun z => nomatch z) gf
        have ean : ((opts.map fun y => decide (y ≠ o) && M84.overB F b y o).any id) = opts.any fun y => decide (y ≠ o) && M84.overB F b y o := by rw [List.any_map] <;> rfl
        refine ⟨D, _, rfl, SqL.of hD3, ?_⟩
        rw [ean, take_snoc eo, List.filter_append]
        refine ⟨_, rfl, ?_⟩
        cases hany : opts.any fun y => decide (y ≠ o) && M84.overB F b y o with
        | true =>
          refine iteF ⟨G3, ⟨_, _, rfl⟩, x2.trans x3, S3, ?_, gf3⟩
          have e2 : [o].filter (fun x => !(opts.any fun y => decide (y ≠ x) && M84.overB F b y x)) = [] := by rw [List.filter_cons, hany] <;> rfl
          rw [e2, List.append_nil]
          exact hf3
        | false =>
          have lfl : ((opts.take t).filter fun x => !(opts.any fun y => decide (y ≠ x) && M84.overB F b y x)).length ≤ opts.length := Nat.le_trans (List.length_filter_le _ _) (by rw [List.length_take]; omega)
          refine iteT ⟨_, rfl, .inl ⟨rfl, _, SqL.of hf3⟩, _, rfl, fo, _, _, rfl, rfl, hf3, by rw [iN_len]; exact small1000 (by omega), ?_⟩
          refine ⟨G3, ⟨_, _, rfl⟩, (x2.trans x3).mut (.inl nfo) gf3, S3.put gf3 nMf, ?_, gf3⟩
          have e2 : [o].filter (fun x => !(opts.any fun y => decide (y ≠ x) && M84.overB F b y x)) = [o] := by rw [List.filter_cons, hany] <;> rfl
          rw [e2, upd_same]
          exact congrArg (fun z => some (HO.lst z)) (iN_snoc _ o).symm
    · rintro σ H2 ⟨G2, ⟨x4, x5, rfl⟩, x2, S2, hf, gf⟩
      rw [iN_len, List.take_length] at hf
      have lfl : (opts.filter fun x => !(opts.any fun y => decide (y ≠ x) && M84.overB F b y x)).length ≤ opts.length := List.length_filter_le _ _
      have nf : (opts.filter fun x => !(opts.any fun y => decide (y ≠ x) && M84.overB F b y x)).Nodup := List.Pairwise.filter _ n1
      have eneed : M84.needR F b opts = M84.uniq (opts.filter fun x => !(opts.any fun y => decide (y ≠ x) && M84.overB F b y x)) := rfl
      generalize (opts.filter fun x => !(opts.any fun y => decide (y ≠ x) && M84.overB F b y x)) = fl at hf lfl nf eneed
      refine ⟨_, rfl, fo, rfl, ⟨_, SqL.of hf⟩, fun D hD => lcL (fun v => v) (fun _ => true) (SqL.of hf) hD (by rw [iN_len]; exact Nat.le_of_lt (small1000 (by omega))) (fun _ => rfl) (fun _ _ _ _ _ q => q) (fun x H3 Q' hx _ s3 q => ?_) ?_⟩
      · obtain ⟨m, hm, rfl⟩ := of_iN_mem hx
        exact ⟨_, rfl, .inl ⟨_, rfl, q⟩⟩
      · rw [all_in, List.map_id']
        have x3 := (Ex.rfl' (M := M0) S2.e).loc (o := .lst (iN fl)) hD
        have hD3 : upd H2 D (.lst (iN fl)) D = some (.lst (iN fl)) := upd_same
        generalize upd H2 D (.lst (iN fl)) = H3 at x3 hD3 ⊢
        refine ⟨D, fl.map (fun n : Nat => (n : Int)), rfl, by rw [← ints_nat]; exact SqL.of hD3, fun ns' p hp hs hnew => ?_⟩
        have x4 := x3.new (o := .lst (ns'.map V.int)) hnew
        refine k _ _ p (x2.trans (x4.mono fun _ z => z.elim)) (S2.keep x4) ?_
        rw [upd_same, sorted_nat hp hs nf, ← ints_nat, eneed]
end
end G84

namespace G84
open PySem PySem.Spec PyProof.Rows L2
/-! W17: unlike, Forms.add, Forms.bring. -/
section
variable {P : Program} {w : World} {K : PySem.W.Frag} {mg : Str → Option Value} {base : Heap}
def spUnlike : Sp := fun vs H Q _ => ∃ (G : Hp) (a : Addr) (l : List Nat), vs = [.ref a] ∧ Same G H ∧ H a = some (.lst (iN l)) ∧ l.length < 64 ∧ ∀ G' H' p, Ex M0 G H G' H' → G' p = some (.lst (iN (M84.uniq l))) → Q (.ref p) H'
theorem sc_unlike : FnScope ["row", "one"] ["row"] (defScope s_unlike) := ⟨rfl, rfl, rfl, by decide +kernel, rfl, by decide +kernel, by decide +kernel⟩
theorem ok_unlike (T : TX K mg) : DefOk P w K mg base 1 "unlike" ["row"] spUnlike := by
  obtain ⟨fd, F⟩ := T.d_unlike
  refine ⟨fd, F.ok sc_unlike (fun vs H Q E h => ?_) (fun cdv A outer s H vs Q E hr h => ⟨_, PSs.nox (pss_one (ps_ret (pe_callB (srtO w) (by rfl) T.f_sorted (by decide +kernel) (pa_cons (pe_callTy (setK K w) (by rfl) T.f_set (by decide +kernel) (pa_cons (pe_lc (own := [("one", 1)]) (g := gName 1) (tt := tYes) rfl sc_unlike.nd (pi_list (pv 0)) (blkOk_by (own := [("one", 1)]) (N := ["row", "one"]) (sc := defScope s_unlike) (by decide +kernel)) (fun _ _ _ _ _ => (pg_name (i := 1) sc_unlike.nd rfl (Or.inl rfl))) (fun _ _ _ _ _ => pts_nil) (fun _ _ _ _ _ => (pe_callTy call_int1 (by rfl) T.f_int (by decide +kernel) (pa_cons (pv 1) pa_nil)))) pa_nil)) pa_nil)))), ?_⟩), T.g_unlike, F.kp, F.bindsN fun _ _ _ _ _ _ us hl => match us, hl with | [_], _ => rfl⟩
  · obtain ⟨_, _, _, rfl, _⟩ := h
    rfl
  · obtain ⟨G, a, l, rfl, e, ha, hl, k⟩ := h
    refine ⟨_, rfl, a, rfl, ⟨_, SqL.of ha⟩, fun D hD => lcL (fun v => v) (fun _ => true) (SqL.of ha) hD (by rw [iN_len]; exact sz63 hl) (fun _ => rfl) (fun _ _ _ _ _ q => q) (fun x H3 Q' hx _ s3 q => ?_) ?_⟩
    · obtain ⟨m, hm, rfl⟩ := of_iN_mem hx
      exact ⟨_, rfl, .inl ⟨_, rfl, q⟩⟩
    · rw [all_in, List.map_id']
      have x1 := (Ex.rfl' (M := M0) e).loc (o := .lst (iN l)) hD
      have hD1 : upd H D (.lst (iN l)) D = some (.lst (iN l)) := upd_same
      generalize upd H D (.lst (iN l)) = H1 at x1 hD1 ⊢
      dsimp only [tCB, tCons, tNil]
      refine set_step l (SqL.of hD1) (Nat.le_of_lt (Nat.lt_of_lt_of_le hl (by decide))) fun t1 n1 Ha sa _ ln _ ha1 => ?_
      refine srt_step l ha1 (Nat.lt_of_le_of_lt ln hl) fun t2 Hb sb ht2 hb1 => ?_
      have x2 := x1.trans (Ex.of_same x1.gh sa)
      have x3 := x2.trans (Ex.of_same x2.gh sb)
      have gt : G t2 = none := same_free x2.gh ht2
      exact k _ _ t2 (x3.frz (x2.free ht2) hb1 gt) upd_same
def spAdd (P : Program) (w : World) (K : PySem.W.Frag) : Sp := fun vs H Q _ => ∃ (A : FA) (G : Hp) (F : List Rw) (a b : Addr) (r : Rw), vs = [.ref A.fa, .ref a, .ref b] ∧ FS P w K A G H F ∧ M84.NdR F ∧ M84.RowOk F r ∧ G a = some (.lst (iN r.1)) ∧ G b = some (.lst (iN r.2)) ∧ F.length ≤ 56 ∧
  ∀ G' H', Ex (FM A) G H G' H' → FS P w K A G' H' (M84.addForm F r).1 → Q (.int (((M84.addForm F r).2 : Nat) : Int)) H'
theorem sc_Forms_add : FnScope ["self", "ours", "theirs", "whole", "mine"] ["self", "ours", "theirs"] (defScope s_Forms_add) := ⟨rfl, rfl, rfl, by decide +kernel, rfl, by decide +kernel, by decide +kernel⟩
theorem ok_add (T : TX K mg) : MethOk P w K mg base 125 "Forms" "add" ["self", "ours", "theirs"] (spAdd P w K) := by
  have D_Nodes_add := ok_Nodes_add (P := P) (w := w) (base := base) T
  have D_Forms_led_round := ok_led (P := P) (w := w) (base := base) T
  have D_Forms_needed := ok_needed (P := P) (w := w) (base := base) T
  obtain ⟨fd, F⟩ := T.d_Forms_add
  refine ⟨fd, F.ok sc_Forms_add (fun vs H Q E h => ?_) (fun cdv A outer s H vs Q E hr h => ⟨_, PSs.nox (pss_cons (ps_set (i := 3) sc_Forms_add.nd rfl (Or.inl rfl) (pe_mK K D_Nodes_add (hr.mono (by decide)) (pe_f K (pv 0)) (pa_cons (pv 1) (pa_cons (pv 2) pa_nil))))
  (pss_cons (ps_set (i := 4) sc_Forms_add.nd rfl (Or.inl rfl) (pe_mK K D_Forms_needed (hr.mono (by decide)) (pv 0) (pa_cons (pe_mK K D_Forms_led_round (hr.mono (by decide)) (pv 0) (pa_cons (pv 3) (pa_cons (pv 1) (pa_cons pe_int pa_nil)))) (pa_cons pe_int pa_nil))))
  (pss_one (ps_ret (pe_mK K D_Nodes_add (hr.mono (by decide)) (pe_f K (pv 0)) (pa_cons (pv 4) (pa_cons (pe_mK K D_Forms_needed (hr.mono (by decide)) (pv 0) (pa_cons (pe_mK K D_Forms_led_round (hr.mono (by decide)) (pv 0) (pa_cons (pv 3) (pa_cons (pv 2) (pa_cons pe_int pa_nil)))) (pa_cons pe_int pa_nil))) pa_nil))))))), ?_⟩), T.m_Forms_add, T.c_Forms, F.bindsN fun _ _ _ _ _ _ us hl => match us, hl with | [_, _, _], _ => rfl⟩
  · obtain ⟨_, _, _, _, _, _, rfl, _⟩ := h
    rfl
  · obtain ⟨A, G, F, a, b, r, rfl, S, nd, ok, ha, hb, lF, k⟩ := h
    have q1 := M84.nodup_len ok.n1 ok.v1
    have q2 := M84.nodup_len ok.n2 ok.v2
    refine ⟨_, rfl, A.fa, _, A.dx, _, .ref A.nd, rfl, S.e _ _ S.f, T.c_Forms, T.n_Forms_nodes, rfl, A.nd, A.dy, _, rfl, S.e _ _ S.n, rfl, _, rfl, _, rfl, A, G, F, a, b, r, rfl, S, S.e _ _ ha, S.e _ _ hb, ok.v1, ok.v2, by omega, by omega, by omega, fun G1 H1 x1 S1 => ?_⟩
    have nd1 := M84.addRow_nd nd ok
    have v1 := M84.addRow_val S.v ok
    have hw := M84.addRow_lt F r
    have le1 := M84.addRow_le F r
    have row2 := M84.row2_row S.v nd ok
    have eform := M84.addForm_eq F r
    have erow2 : M84.row2 F r = (M84.needR (M84.addRow F r).1 false (M84.led (M84.addRow F r).1 (M84.addRow F r).2 false r.1), M84.needR (M84.addRow F r).1 true (M84.led (M84.addRow F r).1 (M84.addRow F r).2 true r.2)) := rfl
    have p1 : ∀ x ∈ r.1, x < (M84.addRow F r).1.length := fun x hx => Nat.lt_of_lt_of_le (ok.v1 x hx) le1.1
    have p2 : ∀ x ∈ r.2, x < (M84.addRow F r).1.length := fun x hx => Nat.lt_of_lt_of_le (ok.v2 x hx) le1.1
    generalize (M84.addRow F r).1 = F1 at S1 nd1 v1 hw le1 row2 eform erow2 p1 p2
    generalize (M84.addRow F r).2 = wh at hw erow2 ⊢
    have m1 := M84.led_nd v1 nd1 (wh := wh) (b := false) ok.n1 p1
    have m2 := M84.led_nd v1 nd1 (wh := wh) (b := true) ok.n2 p2
    refine ⟨_, rfl, A.fa, A.dx, _, rfl, S1.e _ _ S1.f, rfl, _, rfl, A.fa, A.dx, _, rfl, S1.e _ _ S1.f, rfl, _, rfl, _, rfl, A, G1, F1, wh, a, r.1, false, rfl, S1, nd1, hw, S1.e _ _ (x1.g _ _ ha), ok.n1, p1, fun G2 H2 l x2 S2 hl => ?_⟩
    refine ⟨A, G2, F1, l, _, false, rfl, S2, hl, m1.1, m1.2, fun G3 H3 m x3 S3 hm => ?_⟩
    have x13 := (x1.trans x2).trans x3
    refine ⟨_, rfl, A.fa, _, A.dx, _, .ref A.nd, rfl, S3.e _ _ S3.f, T.c_Forms, T.n_Forms_nodes, rfl, A.nd, A.dy, _, rfl, S3.e _ _ S3.n, rfl, _, rfl, ?_⟩
    refine ⟨_, rfl, A.fa, A.dx, _, rfl, S3.e _ _ S3.f, rfl, _, rfl, A.fa, A.dx, _, rfl, S3.e _ _ S3.f, rfl, _, rfl, _, rfl, A, G3, F1, wh, b, r.2, true, rfl, S3, nd1, hw, S3.e _ _ (x13.g _ _ hb), ok.n2, p2, fun G4 H4 l2 x4 S4 hl2 => ?_⟩
    refine ⟨A, G4, F1, l2, _, true, rfl, S4, hl2, m2.1, m2.2, fun G5 H5 m' x5 S5 hm' => ?_⟩
    have q3 := M84.nodup_len row2.n1 row2.v1
    have q4 := M84.nodup_len row2.n2 row2.v2
    have hm5 := S5.e _ _ ((x4.trans x5).g _ _ hm)
    refine ⟨A, G5, F1, m, m', M84.row2 F r, rfl, S5, by rw [erow2]; exact hm5, by rw [erow2]; exact S5.e _ _ hm', row2.v1, row2.v2, by omega, by omega, by omega, fun G6 H6 x6 S6 => ?_⟩
    have k' := k G6 H6 (((x13.trans x4).trans x5).trans x6)
    rw [eform] at k'
    exact k' S6
def spBring (P : Program) (w : World) (K : PySem.W.Frag) : Sp := fun vs H Q _ => ∃ (A : FA) (G : Hp) (N : List Rw) (n : Addr), vs = [.ref A.fa, .ref n] ∧ FS P w K A G H [] ∧ Dt G (.ref n) (rowsD N) ∧ M84.Val N ∧ Sm N ∧ N.length ≤ 28 ∧
  ∀ G' H' l, Ex (FM A) G H G' H' → FS P w K A G' H' (M84.bringR N).1 → G' l = some (.lst (iN (M84.bringR N).2)) → Q (.ref l) H'
def BV (P : Program) (w : World) (K : PySem.W.Frag) (A : FA) (G H : Hp) (n l : Addr) (s : List Rw × List Nat) (σ : L2.St) (H' : Hp) : Prop := ∃ G', (∃ x3 x4 x5, σ = [some (.ref A.fa), some (.ref n), some (.ref l), x3, x4, x5]) ∧ Ex (FM A) G H G' H' ∧ FS P w K A G' H' s.1 ∧ H' l = some (.lst (iN s.2)) ∧ G' l = none
theorem sc_Forms_bring : FnScope ["self", "nodes", "there", "ours", "theirs", "k"] ["self", "nodes"] (defScope s_Forms_bring) := ⟨rfl, rfl, rfl, by decide +kernel, rfl, by decide +kernel, by decide +kernel⟩
theorem ok_bring (T : TX K mg) : MethOk P w K mg base 126 "Forms" "bring" ["self", "nodes"] (spBring P w K) := by
  have D_Forms_add := ok_add (P := P) (w := w) (base := base) T
  have D_unlike := ok_unlike (P := P) (w := w) (base := base) T
  obtain ⟨fd, F⟩ := T.d_Forms_bring
  refine ⟨fd, F.ok sc_Forms_bring (fun vs H Q E h => ?_) (fun cdv A outer s H vs Q E hr h => ⟨_, PSs.nox (pss_cons (ps_set (i := 2) sc_Forms_bring.nd rfl (Or.inr rfl) (pe_lst pa_nil))
  (pss_cons (ps_for PassesOwn.never rfl (pi_list (pv 1)) (pg_tup rfl (pgs_cons (pg_name (i := 3) sc_Forms_bring.nd rfl (Or.inl rfl)) (pgs_cons (pg_name (i := 4) sc_Forms_bring.nd rfl (Or.inl rfl)) pgs_nil)))
    (pss_one (ps_expr (pe_bm PySem.F.plainAttrs_list PySem.F.slot_list_append PySem.F.type_list_append mt_append (pv 2) (pa_cons (pe_mK K D_Forms_add (hr.mono (by decide)) (pv 0) (pa_cons (pe_d D_unlike (hr.mono (by decide)) (pa_cons (pe_lc (own := [("k", 5)]) (g := gName 5) (tt := tYes) rfl sc_Forms_bring.nd (pi_tup (pv 3)) (blkOk_by (own := [("k", 5)]) (N := ["self", "nodes", "there", "ours", "theirs", "k"]) (sc := defScope s_Forms_bring) (by decide +kernel)) (fun _ _ _ _ _ => (pg_name (i := 5) sc_Forms_bring.nd rfl (Or.inl rfl))) (fun _ _ _ _ _ => pts_nil) (fun _ _ _ _ _ => (pe_ix (ixl K) (pv 2) (pv 5) (fun _ _ => rfl)))) pa_nil)) (pa_cons (pe_d D_unlike (hr.mono (by decide)) (pa_cons (pe_lc (own := [("k", 5)]) (g := gName 5) (tt := tYes) rfl sc_Forms_bring.nd (pi_tup (pv 4)) (blkOk_by (own := [("k", 5)]) (N := ["self", "nodes", "there", "ours", "theirs", "k"]) (sc := defScope s_Forms_bring) (by decide +kernel)) (fun _ _ _ _ _ => (pg_name (i := 5) sc_Forms_bring.nd rfl (Or.inl rfl))) (fun _ _ _ _ _ => pts_nil) (fun _ _ _ _ _ => (pe_ix (ixl K) (pv 2) (pv 5) (fun _ _ => rfl)))) pa_nil)) pa_nil))) pa_nil)))))
  (pss_one (ps_ret (pv 2))))), ?_⟩), T.m_Forms_bring, T.c_Forms, F.bindsN fun _ _ _ _ _ _ us hl => match us, hl with | [_, _], _ => rfl⟩
  · obtain ⟨_, _, _, _, rfl, _⟩ := h
    rfl
  · obtain ⟨A, G, N, n, rfl, S, hv, val, sm, lN, k⟩ := h
    obtain ⟨_, rvs, en, hn, hrv⟩ := dt_lst hv
    cases en
    have lrv : rvs.length = N.length := by rw [dtAll_len hrv, List.length_map]
    refine ⟨Nat.zero_le _, fun l nl => ?_⟩
    have nM : ¬ FM A l := fun m => S.has m nl
    have x1 := (Ex.rfl' (M := FM A) S.e).loc (o := .lst []) nl
    refine ⟨_, rfl, n, rfl, ⟨_, SqL.of (x1.gh _ _ hn)⟩, for_list (K := K) (a := n) (xs := rvs) (fun i => BV P w K A G H n l ((N.take i).foldl M84.bringS ([], []))) ⟨G, ⟨_, _, _, rfl⟩, x1, S.loc nl, upd_same, same_free S.e nl⟩ (fun i σ H' _ ⟨_, _, x, _⟩ => SqL.of (x.gh _ _ (x.g _ _ hn))) ?_ ?_⟩
    · rintro i x σ H2 hi ⟨G2, ⟨x3, x4, x5, rfl⟩, x2, S2, hl2, gl2⟩
      obtain ⟨r, er, hr1⟩ := dtAll_map hrv hi
      obtain ⟨p, b, c, rfl, hp, hb, hc⟩ := dt_rowD (dt_mono x2.g hr1)
      have hi' := M84.lt_of_some er
      have bok := M84.bring_ok val i (Nat.le_of_lt hi')
      have hm := List.mem_of_getElem? er
      have z1 := sm.l r hm
      have z2 := sm.r r hm
      obtain ⟨v1, v2⟩ := val i r er
      rw [fold_take er]
      generalize (N.take i).foldl M84.bringS ([], []) = st at S2 hl2 bok ⊢
      obtain ⟨F, th⟩ := st
      have rok := M84.bring_row bok v1 v2
      have lth : th.length = i := bok.l2
      have lF : F.length ≤ 2 * i := bok.len
      have elt : ∀ (σ : L2.St) (ms : List Nat) (H0 : Hp), Same H2 H0 → σ[2]? = some (some (.ref l)) → (∀ x ∈ ms, x < th.length) → ∀ (x : V) (H8 : Hp) (Q' : VK), x ∈ iN ms → σ[5]? = some (some x) → Same H0 H8 → Q' (liftN (fun i => th.getD i 0) x) H8 →
          (tOp (rIxL K) (tVar 2) (tVar 5)) σ H8 Q' := fun σ ms H0 s0 h7 hl x H8 Q' hx h11 s1 q => by
        obtain ⟨y, hy, rfl⟩ := of_iN_mem hx
        exact ⟨_, h7, _, h11, l, _, _, V.int ((th.getD y 0 : Nat) : Int), rfl, rfl, SqL.of ((s0.trans s1) _ _ hl2), atN (iN_get (getD_at (hl y hy))), q⟩
      refine ⟨p, _, rfl, SqT.of (S2.e _ _ hp), rfl, _, _, rfl, _, _, rfl, rfl, ?_⟩
      refine ⟨_, rfl, .inl ⟨rfl, _, SqL.of hl2⟩, _, rfl, A.fa, A.dx, _, rfl, S2.e _ _ S2.f, rfl, ?_⟩
      refine ⟨_, rfl, b, rfl, ⟨_, SqT.of (S2.e _ _ hb)⟩, fun D hD => lcT (liftN fun i => th.getD i 0) (fun _ => true) (SqT.of (S2.e _ _ hb)) hD (by rw [iN_len]; exact sz63 z1) (fun _ => rfl) (fun _ _ _ _ _ q => q) (fun x H8 Q' hx _ s1 q => elt _ r.1 H2 (Same.refl H2) rfl (fun x hx => by rw [lth]; exact v1 x hx) x H8 Q' hx rfl s1 q) ?_⟩
      rw [all_in, map_liftN]
      have y1 := (Ex.rfl' (M := M0) S2.e).loc (o := .lst (iN (r.1.map fun i => th.getD i 0))) hD
      refine ⟨G2, D, _, rfl, y1.gh, upd_same, by rw [List.length_map]; exact z1, fun G3 H3 u y2 hu => ?_⟩
      have y12 := y1.trans y2
      have hc3 := y12.gh _ _ (y12.g _ _ hc)
      refine ⟨_, rfl, c, rfl, ⟨_, SqT.of hc3⟩, fun D hD => lcT (liftN fun i => th.getD i 0) (fun _ => true) (SqT.of hc3) hD (by rw [iN_len]; exact sz63 z2) (fun _ => rfl) (fun _ _ _ _ _ q => q) (fun x H8 Q' hx _ s1 q => elt _ r.2 H3 y12.same rfl (fun x hx => by rw [lth]; exact v2 x hx) x H8 Q' hx rfl s1 q) ?_⟩
      rw [all_in, map_liftN]
      have y3 := (Ex.rfl' (M := M0) y12.gh).loc (o := .lst (iN (r.2.map fun i => th.getD i 0))) hD
      refine ⟨G3, D, _, rfl, y3.gh, upd_same, by rw [List.length_map]; exact z2, fun G4 H4 u2 y4 hu2 => ?_⟩
      have y14 := (y12.trans y3).trans y4
      have S4 := S2.keep y14
      have hl4 := y14.same _ _ hl2
      have gl4 := y14.fr l (by rw [hl2]; exact fun z => nomatch z) gl2
      refine ⟨A, G4, F, u, u2, (M84.uniq (r.1.map fun i => th.getD i 0), M84.uniq (r.2.map fun i => th.getD i 0)), rfl, S4, bok.nd, rok, (y3.trans y4).g _ _ hu, hu2, by omega, fun G5 H5 x5 S5 => ?_⟩
      have hl5 := x5.s _ _ hl4 nM
      have gl5 := x5.fr l (by rw [hl4]; exact fun z => nomatch z) gl4
      refine ⟨l, _, _, rfl, rfl, hl5, by rw [iN_len, lth]; exact small1000 (by omega), ?_⟩
      refine ⟨G5, ⟨_, _, _, rfl⟩, ((x2.trans (y14.mono fun _ z => z.elim)).trans x5).mut (.inl nl) gl5, S5.put gl5 nM, ?_, gl5⟩
      rw [upd_same]
      exact congrArg (fun z => some (HO.lst z)) (iN_snoc _ _).symm
    · rintro σ H2 ⟨G2, ⟨x3, x4, x5, rfl⟩, x2, S2, hl2, gl2⟩
      rw [lrv, List.take_length] at S2 hl2
      exact ⟨_, rfl, k _ _ l (x2.frz nl hl2 gl2) (S2.frz hl2 gl2 nM) upd_same⟩
end
end G84

namespace G84
open PySem PySem.Spec PyProof.Rows L2
/-! W18: least_form, is_least_form. -/
section
variable {P : Program} {w : World} {K : PySem.W.Frag} {mg : Str → Option Value} {base : Heap}
def spLeast (K : PySem.W.Frag) : Sp := fun vs H Q _ => ∃ (G : Hp) (v : V) (N : List Rw), vs = [v] ∧ Same G H ∧ HpI K G v N ∧ N.length ≤ 28 ∧ RetH K M0 G H Q (M84.leastN N)
theorem bring_last {N : List Rw} (ne : N ≠ []) (v : M84.Val N) : (M84.bringR N).2 ≠ [] ∧ (M84.bringR N).2.getLast?.getD 0 < (M84.bringR N).1.length := by
  have ok := M84.bringR_ok v
  have hne : (M84.bringR N).2 ≠ [] := fun z => ne (by have := ok.l2; rw [z] at this; exact List.length_eq_zero_iff.mp this.symm)
  refine ⟨hne, ?_⟩
  rw [List.getLast?_eq_getLast hne]
  exact ok.lt _ (List.getLast_mem hne)
theorem sc_least_form : FnScope ["heap", "forms", "last"] ["heap"] (defScope s_least_form) := ⟨rfl, rfl, rfl, by decide +kernel, rfl, by decide +kernel, by decide +kernel⟩
theorem ok_least (T : TX K mg) : DefOk P w K mg base 127 "least_form" ["heap"] (spLeast K) := by
  have D_Forms := ok_Forms (P := P) (w := w) (base := base) T
  have D_Forms_bring := ok_bring (P := P) (w := w) (base := base) T
  have D_heap_at := ok_heap_at (P := P) (w := w) (base := base) T
  obtain ⟨fd, F⟩ := T.d_least_form
  refine ⟨fd, F.ok sc_least_form (fun vs H Q E h => ?_) (fun cdv A outer s H vs Q E hr h => ⟨_, PSs.nox (pss_cons (ps_set (i := 1) sc_least_form.nd rfl (Or.inl rfl) (pe_mk0 D_Forms (hr.mono (by decide))))
  (pss_cons (ps_set (i := 2) sc_least_form.nd rfl (Or.inl rfl) (pe_ix (ixl K) (pe_mK K D_Forms_bring (hr.mono (by decide)) (pv 1) (pa_cons (pe_f K (pv 0)) pa_nil)) (pe_un un_neg pe_int) (fun _ _ => rfl)))
  (pss_one (ps_ret (pe_d D_heap_at (hr.mono (by decide)) (pa_cons (pe_f K (pe_f K (pv 1))) (pa_cons (pv 2) pa_nil))))))), ?_⟩), T.g_least_form, F.kp, F.bindsN fun _ _ _ _ _ _ us hl => match us, hl with | [_], _ => rfl⟩
  · obtain ⟨_, _, _, rfl, _⟩ := h
    rfl
  · obtain ⟨G, v, N, rfl, e, ⟨a, dx, n, m, rfl, hh⟩, lN, k⟩ := h
    intro x dy hx hdy ne
    have y1 := (Ex.rfl' (M := M0) e).new (o := .own x) hdy
    have hx1 : upd H dy (.own x) x = none := by rw [upd_ne ne.symm]; exact hx
    have y2 := y1.loc (o := .ins (He.ga K "Forms") dy []) hx1
    have g2 := same_free y1.gh hx1
    refine ⟨_, x, dy, rfl, y2.gh, g2, upd_same, fun A G3 H3 ob eA x3 g3 h3 S3 hM => ⟨rfl, ?_⟩⟩
    have y3 := (y2.join hx x3).frz hx h3 g3
    have hMH : ∀ b, FM A b → H b = none := fun b m => y2.free (hM b m)
    have hh3 := hpAt_mono y3.g hh
    subst eA
    have xs : ∀ b, FM A b → upd G3 A.fa ob b = none := fun b m => S3.gnone m
    refine ⟨_, rfl, A.fa, A.dx, _, rfl, S3.e _ _ S3.f, rfl, _, rfl, a, _, dx, _, .ref n, rfl, y3.gh _ _ hh3.e, T.c_Heap, T.n_Heap_node_list, rfl, A, _, N, n, rfl, S3, hh3.n, hh.good.v, hh.sm, lN, fun G4 H4 l x4 S4 hl => ?_⟩
    have x14 := y3.joinM hMH x4
    obtain ⟨bne, blt⟩ := bring_last hh.good.ne hh.good.v
    refine ⟨1, rfl, l, _, _, _, rfl, rfl, SqL.of (S4.e _ _ hl), at_last bne, ?_⟩
    obtain ⟨rvs, hr, dr⟩ := S4.l
    refine ⟨_, rfl, A.fa, _, A.dx, _, .ref A.nd, rfl, S4.e _ _ S4.f, T.c_Forms, T.n_Forms_nodes, rfl, A.nd, _, A.dy, _, .ref A.rl, rfl, S4.e _ _ S4.n, T.c_Nodes, T.n_Nodes_row_list, rfl, _, rfl, ?_⟩
    have x5 := x14.frz (hMH _ (.inl rfl)) hr S4.gl
    have sl := S4.len
    exact ⟨_, .ref A.rl, _, _, rfl, x5.gh, .lst upd_same (dtAll_mono (same_upd S4.gl) dr), S4.v, blt, ⟨by omega, S4.s1, S4.s2⟩, fun G' H' v x6 hv => k G' H' v (x5.trans x6) hv⟩
theorem set_size {ns : List Nat} {n : Nat} (h : ∃ ks : List Int, ks.Nodup ∧ (∀ k, k ∈ ks ↔ k ∈ ns.map fun n : Nat => (n : Int)) ∧ ks.length = n) : n = (M84.uniq ns).length := by
  obtain ⟨ks, nd, hm, rfl⟩ := h
  have hb : ∀ k ∈ ks, 0 ≤ k := fun k hk => by
    obtain ⟨m, _, e⟩ := List.mem_map.mp ((hm k).mp hk)
    omega
  have n1 : (ks.map Int.toNat).Nodup := List.pairwise_map.mpr (List.Pairwise.imp_of_mem (fun {a b} ha hb' h z => h (by have := hb a ha; have := hb b hb'; omega)) nd)
  have m1 : ∀ z, z ∈ ks.map Int.toNat ↔ z ∈ M84.uniq ns := fun z => by
    rw [M84.mem_uniq]
    constructor
    · intro hz
      obtain ⟨k, hk, e⟩ := List.mem_map.mp hz
      obtain ⟨m, hm', em⟩ := List.mem_map.mp ((hm k).mp hk)
      have : m = z := by omega
      rw [← this]; exact hm'
    · intro hz
      exact List.mem_map.mpr ⟨(z : Int), (hm _).mpr (List.mem_map.mpr ⟨z, hz, rfl⟩), by omega⟩
  have a1 := M84.sub_len n1 fun z hz => (m1 z).mp hz
  have a2 := M84.sub_len (M84.asc_nodup (M84.asc_uniq ns)) fun z hz => (m1 z).mpr hz
  rw [List.length_map] at a1 a2
  omega
theorem dec_len (a b : Nat) : (!decide (V.int ((a : Nat) : Int) = V.int ((b : Nat) : Int))) = !decide (a = b) := by
  rw [dec_int]
  by_cases h : a = b
  · subst h; simp
  · have : ((a : Int) == (b : Int)) = false := beq_eq_false_iff_ne.mpr (by omega)
    rw [this, decide_eq_false h]
/-- no row has a move twice, up to form -/
def noTwin (N : List Rw) (r : Rw) : Bool := decide ((M84.uniq (r.1.map fun k => (M84.kinds N).getD k 0)).length = r.1.length) && decide ((M84.uniq (r.2.map fun k => (M84.kinds N).getD k 0)).length = r.2.length)
noncomputable def isLeastN (N : List Rw) : Bool := N.all (noTwin N) && decide (M84.marks leM N = M84.marks leM (M84.leastN N))
def spIsLeast (K : PySem.W.Frag) : Sp := fun vs H Q _ => ∃ (G : Hp) (v : V) (N : List Rw), vs = [v] ∧ Same G H ∧ HpI K G v N ∧ N.length ≤ 28 ∧ ∀ G' H', Ex M0 G H G' H' → Q (.bl (isLeastN N)) H'
def IV (G H : Hp) (v : V) (kk : Addr) (N : List Rw) (i : Nat) (σ : L2.St) (H' : Hp) : Prop := (∃ x2 x3 x4, σ = [some v, some (.ref kk), x2, x3, x4]) ∧ Ex M0 G H G H' ∧ (N.take i).all (noTwin N) = true
theorem sc_is_least_form : FnScope ["heap", "kinds", "ours", "theirs", "k"] ["heap"] (defScope s_is_least_form) := ⟨rfl, rfl, rfl, by decide +kernel, rfl, by decide +kernel, by decide +kernel⟩
theorem ok_is_least_form (T : TX K mg) : DefOk P w K mg base 128 "is_least_form" ["heap"] (spIsLeast K) := by
  have D_least_form := ok_least (P := P) (w := w) (base := base) T
  have D_kinds_of := ok_kinds_of (P := P) (w := w) (base := base) T
  have EQ := ok_Heap_eq (P := P) (w := w) (base := base) T
  obtain ⟨fd, F⟩ := T.d_is_least_form
  refine ⟨fd, F.ok sc_is_least_form (fun vs H Q E h => ?_) (fun cdv A outer s H vs Q E hr h => ⟨_, PSs.nox (pss_cons (ps_set (i := 1) sc_is_least_form.nd rfl (Or.inr rfl) (pe_d D_kinds_of (hr.mono (by decide)) (pa_cons (pe_f K (pv 0)) pa_nil)))
  (pss_cons (ps_for PassesOwn.never rfl (pi_list (pe_f K (pv 0))) (pg_tup rfl (pgs_cons (pg_name (i := 2) sc_is_least_form.nd rfl (Or.inl rfl)) (pgs_cons (pg_name (i := 3) sc_is_least_form.nd rfl (Or.inl rfl)) pgs_nil)))
    (pss_one (ps_if (PW.pt (pw_or (pt_cmpR op_ne (pe_callB (lenO w) (by rfl) T.f_len (by decide +kernel) (pa_cons (pe_callTy (setK K w) (by rfl) T.f_set (by decide +kernel) (pa_cons (pe_lc (own := [("k", 4)]) (g := gName 4) (tt := tYes) rfl sc_is_least_form.nd (pi_tup (pv 2)) (blkOk_by (own := [("k", 4)]) (N := ["heap", "kinds", "ours", "theirs", "k"]) (sc := defScope s_is_least_form) (by decide +kernel)) (fun _ _ _ _ _ => (pg_name (i := 4) sc_is_least_form.nd rfl (Or.inl rfl))) (fun _ _ _ _ _ => pts_nil) (fun _ _ _ _ _ => (pe_ix (ixl K) (pv 1) (pv 4) (fun _ _ => rfl)))) pa_nil)) pa_nil)) (pe_callB (lenS K) (by rfl) T.f_len (by decide +kernel) (pa_cons (pv 2) pa_nil)) (nomark _)) (pw_or1 (pt_cmpR op_ne (pe_callB (lenO w) (by rfl) T.f_len (by decide +kernel) (pa_cons (pe_callTy (setK K w) (by rfl) T.f_set (by decide +kernel) (pa_cons (pe_lc (own := [("k", 4)]) (g := gName 4) (tt := tYes) rfl sc_is_least_form.nd (pi_tup (pv 3)) (blkOk_by (own := [("k", 4)]) (N := ["heap", "kinds", "ours", "theirs", "k"]) (sc := defScope s_is_least_form) (by decide +kernel)) (fun _ _ _ _ _ => (pg_name (i := 4) sc_is_least_form.nd rfl (Or.inl rfl))) (fun _ _ _ _ _ => pts_nil) (fun _ _ _ _ _ => (pe_ix (ixl K) (pv 1) (pv 4) (fun _ _ => rfl)))) pa_nil)) pa_nil)) (pe_callB (lenS K) (by rfl) T.f_len (by decide +kernel) (pa_cons (pv 3) pa_nil)) (nomark _)))))
    (pss_one (ps_ret pe_bl))
    pss_nil)))
  (pss_one (ps_ret (pe_cmpR (heq K EQ (hr.mono (by decide))) (pv 0) (pe_d D_least_form (hr.mono (by decide)) (pa_cons (pv 0) pa_nil)) (nomark _)))))), ?_⟩), T.g_is_least_form, F.kp, F.bindsN fun _ _ _ _ _ _ us hl => match us, hl with | [_], _ => rfl⟩
  · obtain ⟨_, _, _, rfl, _⟩ := h
    rfl
  · obtain ⟨G, v, N, rfl, e, ⟨a, dx, n, m, rfl, hh⟩, lN, k⟩ := h
    obtain ⟨_, rvs, en, hn, hrv⟩ := dt_lst hh.n
    cases en
    have lrv : rvs.length = N.length := by rw [dtAll_len hrv, List.length_map]
    refine ⟨_, rfl, a, _, dx, _, .ref n, rfl, e _ _ hh.e, T.c_Heap, T.n_Heap_node_list, rfl, G, N, _, rfl, e, hh.n, hh.good.v, hh.sm, fun G1 H1 kv x1 hk => ?_⟩
    obtain ⟨kk, rfl, hkk⟩ := dt_lN hk
    have kl : (M84.kinds N).length = N.length := M84.kinds_len hh.good.v
    have hh1 := hpAt_mono x1.g hh
    have hn1 := x1.g _ _ hn
    refine ⟨_, rfl, a, _, dx, _, .ref n, rfl, x1.gh _ _ hh1.e, T.c_Heap, T.n_Heap_node_list, rfl, n, rfl, ⟨_, SqL.of (x1.gh _ _ hn1)⟩, for_list (K := K) (a := n) (xs := rvs) (IV G1 H1 (.ref a) kk N) ⟨⟨_, _, _, rfl⟩, Ex.rfl' x1.gh, by rw [List.take_zero] <;> rfl⟩ (fun i σ H' _ ⟨_, x, _⟩ => SqL.of (x.gh _ _ hn1)) ?_ ?_⟩
    · rintro i x σ H2 hi ⟨⟨x2, x3, x4, rfl⟩, y2, hall⟩
      obtain ⟨r, er, hr1⟩ := dtAll_map hrv hi
      obtain ⟨p, b, c, rfl, hp, hb, hc⟩ := dt_rowD (dt_mono x1.g hr1)
      have hm := List.mem_of_getElem? er
      have hi' := M84.lt_of_some er
      have z1 := hh.sm.l r hm
      have z2 := hh.sm.r r hm
      obtain ⟨v1, v2⟩ := hh.good.v i r er
      have elt : ∀ (σ : L2.St) (ms : List Nat) (H0 : Hp), Same G1 H0 → σ[1]? = some (some (.ref kk)) → (∀ x ∈ ms, x < (M84.kinds N).length) → ∀ (x : V) (H8 : Hp) (Q' : VK), x ∈ iN ms → σ[4]? = some (some x) → Same H0 H8 → Q' (liftN (fun i => (M84.kinds N).getD i 0) x) H8 →
          (tOp (rIxL K) (tVar 1) (tVar 4)) σ H8 Q' := fun σ ms H0 s0 h7 hl x H8 Q' hx h11 s1 q => by
        obtain ⟨y, hy, rfl⟩ := of_iN_mem hx
        exact ⟨_, h7, _, h11, kk, _, _, V.int (((M84.kinds N).getD y 0 : Nat) : Int), rfl, rfl, SqL.of ((s0.trans s1) _ _ hkk), atN (iN_get (getD_at (hl y hy))), q⟩
      refine ⟨p, _, rfl, SqT.of (y2.gh _ _ hp), rfl, _, _, rfl, _, _, rfl, rfl, ?_⟩
      refine ⟨_, rfl, b, rfl, ⟨_, SqT.of (y2.gh _ _ hb)⟩, fun D hD => lcT (liftN fun i => (M84.kinds N).getD i 0) (fun _ => true) (SqT.of (y2.gh _ _ hb)) hD (by rw [iN_len]; exact sz63 z1) (fun _ => rfl) (fun _ _ _ _ _ q => q) (fun x H8 Q' hx _ s1 q => elt _ r.1 H2 y2.gh rfl (fun x hx => by rw [kl]; exact Nat.lt_trans (v1 x hx) hi') x H8 Q' hx rfl s1 q) ?_⟩
      rw [all_in, map_liftN]
      have s3 : Same H2 (upd H2 D (.lst (iN (r.1.map fun i => (M84.kinds N).getD i 0)))) := fun b o e => by rw [upd_ne (ne_of_none e hD)]; exact e
      have hD3 : upd H2 D (.lst (iN (r.1.map fun i => (M84.kinds N).getD i 0))) D = some (.lst (iN (r.1.map fun i => (M84.kinds N).getD i 0))) := upd_same
      generalize upd H2 D (.lst (iN (r.1.map fun i => (M84.kinds N).getD i 0))) = H3 at s3 hD3 ⊢
      dsimp only [tCB, tCons, tNil]
      refine set_step (r.1.map fun i => (M84.kinds N).getD i 0) (SqL.of hD3) (by rw [List.length_map]; omega) fun t1 n1 Ha sa _ ln nk ha1 => ?_
      have eA := set_size nk
      have x3 := y2.trans (Ex.of_same y2.gh (s3.trans sa))
      have nolt : ∀ (H' : Hp), Ex M0 G1 H1 G1 H' → noTwin N r = false → Q (.bl false) H' := fun H' x hf => by
        have q := k G1 H' (x1.trans x)
        have e1 : isLeastN N = false := by
          unfold isLeastN
          have : N.all (noTwin N) = false := List.all_eq_false.mpr ⟨r, hm, by rw [hf]; decide⟩
          rw [this, Bool.false_and]
        rw [e1] at q
        exact q
      refine ⟨t1, _, _, rfl, ha1, _, rfl, b, _, rfl, .inr (SqT.of (x3.gh _ _ hb)), rfl, _, rfl, ?_⟩
      rw [dec_len, iN_len, eA]
      by_cases q1 : (M84.uniq (r.1.map fun i => (M84.kinds N).getD i 0)).length = r.1.length
      · rw [decide_eq_true q1]
        refine iteF ⟨_, rfl, c, rfl, ⟨_, SqT.of (x3.gh _ _ hc)⟩, fun D hD => lcT (liftN fun i => (M84.kinds N).getD i 0) (fun _ => true) (SqT.of (x3.gh _ _ hc)) hD (by rw [iN_len]; exact sz63 z2) (fun _ => rfl) (fun _ _ _ _ _ q => q) (fun x H8 Q' hx _ s1 q => elt _ r.2 Ha x3.gh rfl (fun x hx => by rw [kl]; exact Nat.lt_trans (v2 x hx) hi') x H8 Q' hx rfl s1 q) ?_⟩
        rw [all_in, map_liftN]
        have s4 : Same Ha (upd Ha D (.lst (iN (r.2.map fun i => (M84.kinds N).getD i 0)))) := fun b o e => by rw [upd_ne (ne_of_none e hD)]; exact e
        have hD4 : upd Ha D (.lst (iN (r.2.map fun i => (M84.kinds N).getD i 0))) D = some (.lst (iN (r.2.map fun i => (M84.kinds N).getD i 0))) := upd_same
        generalize upd Ha D (.lst (iN (r.2.map fun i => (M84.kinds N).getD i 0))) = H4 at s4 hD4 ⊢
        dsimp only [tCB, tCons, tNil]
        refine set_step (r.2.map fun i => (M84.kinds N).getD i 0) (SqL.of hD4) (by rw [List.length_map]; omega) fun t2 n2 Hb sb _ ln2 nk2 ha2 => ?_
        have eB := set_size nk2
        have x4 := x3.trans (Ex.of_same x3.gh (s4.trans sb))
        refine ⟨t2, _, _, rfl, ha2, _, rfl, c, _, rfl, .inr (SqT.of (x4.gh _ _ hc)), rfl, _, rfl, ?_⟩
        rw [dec_len, iN_len, eB]
        by_cases q2 : (M84.uniq (r.2.map fun i => (M84.kinds N).getD i 0)).length = r.2.length
        · rw [decide_eq_true q2]
          refine iteF ⟨⟨_, _, _, rfl⟩, x4, ?_⟩
          rw [take_snoc er, List.all_append, hall]
          have e1 : noTwin N r = true := by
            unfold noTwin
            rw [decide_eq_true q1, decide_eq_true q2] <;> rfl
          rw [List.all_cons, e1] <;> rfl
        · rw [decide_eq_false q2]
          refine iteT (nolt _ x4 ?_)
          unfold noTwin
          rw [decide_eq_false q2, Bool.and_false]
      · rw [decide_eq_false q1]
        refine iteT (nolt _ x3 ?_)
        unfold noTwin
        rw [decide_eq_false q1, Bool.false_and]
    · rintro σ H2 ⟨⟨x2, x3, x4, rfl⟩, y2, hall⟩
      rw [lrv, List.take_length] at hall
      refine ⟨_, rfl, _, rfl, G1, .ref a, N, rfl, y2.gh, ⟨a, dx, n, m, rfl, hh1⟩, lN, fun G3 H3 v y3 hv => ?_⟩
      have hh3 := hpAt_mono y3.g hh1
      have hv' := hv
      obtain ⟨a2, dx2, n2, m2, rfl, hh2⟩ := hv
      refine ⟨a, a2, dx, dx2, _, _, _, rfl, rfl, y3.gh _ _ hh3.e, y3.gh _ _ hh2.e, ⟨G3, N, M84.leastN N, y3.gh, ⟨a, dx, n, m, rfl, hh3⟩, hv', rfl⟩, fun H' s' => ?_⟩
      have q := k G3 H' (((x1.trans y2).trans y3).trans (Ex.of_same y3.gh s'))
      unfold isLeastN at q
      rw [hall, Bool.true_and] at q
      exact q
end
end G84

namespace G84
open PySem PySem.Spec PyProof.Rows L2
/-! W19: is_integer, star. -/
theorem walk_rg {lo : Int} {n : Nat} {xs : List V} (hx : xs = (List.range n).map fun i : Nat => V.int (lo + (i : Nat))) : Walk (Itr lo n) xs.length (fun _ => True) (YAt xs) := by
  have hl : xs.length = n := by rw [hx, List.length_map, List.length_range]
  rw [hl]
  refine walk_range.mono (fun _ h => h) fun i H x H' hi _ y => ⟨y.1, ?_⟩
  rw [hx, List.getElem?_map, List.getElem?_range hi, y.2] <;> rfl
theorem rg_nat (n : Nat) : rgV 0 (n : Int) = iN (List.range n) := by
  unfold rgV
  have e : ((n : Int) - 0).toNat = n := by omega
  rw [e]
  exact List.map_congr_left fun i _ => by rw [Int.zero_add]
section
variable {P : Program} {w : World} {K : PySem.W.Frag} {mg : Str → Option Value} {base : Heap}
def spIsInt : Sp := fun vs H Q _ => ∃ n : Int, vs = [.int n] ∧ Q (.bl true) H
theorem sc_is_integer : FnScope ["thing"] ["thing"] (defScope s_is_integer) := ⟨rfl, rfl, rfl, by decide +kernel, rfl, by decide +kernel, by decide +kernel⟩
theorem ok_is_integer (T : TX K mg) : DefOk P w K mg base 1 "is_integer" ["thing"] spIsInt := by
  obtain ⟨fd, F⟩ := T.d_is_integer
  refine ⟨fd, F.ok sc_is_integer (fun vs H Q E h => ?_) (fun cdv A outer s H vs Q E hr h => ⟨_, PSs.nox (pss_one (ps_ret (pe_and (pe_callB call_isi (by rfl) T.f_isinstance (by decide +kernel) (pa_cons (pv 0) (pa_cons (pe_bltn (v := .ty "int") (u := .type "int") rfl T.f_int (by decide +kernel) rfl) pa_nil))) (pe_one (pe_not (pe_callB call_isi (by rfl) T.f_isinstance (by decide +kernel) (pa_cons (pv 0) (pa_cons (pe_bltn (v := .ty "bool") (u := .type "bool") rfl T.f_bool (by decide +kernel) rfl) pa_nil)))))))), ?_⟩), T.g_is_integer, F.kp, F.bindsN fun _ _ _ _ _ _ us hl => match us, hl with | [_], _ => rfl⟩
  · obtain ⟨n, rfl, _⟩ := h
    rfl
  · obtain ⟨n, rfl, k⟩ := h
    exact ⟨_, rfl, _, _, .type "int", _, true, rfl, .ty _, .base (.int n), kit_ty (by decide +kernel), _, rfl, iteT ⟨_, rfl, _, _, .type "int", _, false, rfl, .ty _, .base (.int n), kit_ty (by decide +kernel), _, rfl, k⟩⟩
def spStarNodes : Sp := fun vs H Q _ => ∃ (G : Hp) (n : Nat), vs = [.int (n : Int)] ∧ Same G H ∧ n ≤ 60 ∧ Ret M0 G H Q (rowsD (M84.starN n))
def RDt {α : Type} (enc : α → PyData) : Hp → V → α → Prop := fun G v a => Dt G v (enc a)
theorem rDt_mono {α : Type} (enc : α → PyData) (G G' : Hp) (v : V) (a : α) (s : Same G G') (h : RDt enc G v a) : RDt enc G' v a := dt_mono s h
theorem rDt_all {α : Type} {enc : α → PyData} {G : Hp} {vs : List V} {as : List α} (h : RL (RDt enc) G vs as) : DtAll G vs (as.map enc) := RL.dtAll (enc := enc) ⟨h.1, h.2⟩
theorem sc_star_nodes : FnScope ["n", "k"] ["n"] (defScope s_star_nodes) := ⟨rfl, rfl, rfl, by decide +kernel, rfl, by decide +kernel, by decide +kernel⟩
theorem ok_star_nodes (T : TX K mg) : DefOk P w K mg base 1 "star_nodes" ["n"] spStarNodes := by
  obtain ⟨fd, F⟩ := T.d_star_nodes
  refine ⟨fd, F.ok sc_star_nodes (fun vs H Q E h => ?_) (fun cdv A outer s H vs Q E hr h => ⟨_, PSs.nox (pss_one (ps_ret (pe_lc (own := [("k", 1)]) (g := gName 1) (tt := tYes) rfl sc_star_nodes.nd (pi_range1 rfl T.f_range (pa_cons (pe_op op_add (pv 0) pe_int) pa_nil)) (blkOk_by (own := [("k", 1)]) (N := ["n", "k"]) (sc := defScope s_star_nodes) (by decide +kernel)) (fun _ _ _ _ _ => (pg_name (i := 1) sc_star_nodes.nd rfl (Or.inl rfl))) (fun _ _ _ _ _ => pts_nil) (fun _ _ _ _ _ => (pe_tup (pa_cons (pe_tupRg rfl (by rfl) T.f_tuple (prg_1 (by rfl) T.f_range (pv 1))) (pa_cons (pe_tupRg rfl (by rfl) T.f_tuple (prg_1 (by rfl) T.f_range (pv 1))) pa_nil))))))), ?_⟩), T.g_star_nodes, F.kp, F.bindsN fun _ _ _ _ _ _ us hl => match us, hl with | [_], _ => rfl⟩
  · obtain ⟨_, n, rfl, _⟩ := h
    rfl
  · obtain ⟨G, n, rfl, e, hn, k⟩ := h
    refine ⟨_, rfl, _, _, rfl, rfl, _, rfl, by omega, by omega, ?_⟩
    have en1 : ((n : Int) + 1).toNat = n + 1 := by omega
    rw [en1]
    intro D hD
    refine lcR (R := RDt rowD) (rDt_mono rowD) (walk_rg (lo := 0) (n := n + 1) rfl) (M84.starN n) (by rw [M84.starN_len, List.length_map, List.length_range]) (by rw [List.length_map, List.length_range]; exact Nat.le_of_lt (small1000 (by omega))) e hD (fun _ _ => trivial) (fun _ => rfl) (fun j x r G' H' Q' ex er xx q => ?_) fun G' H' ws x1 gD hD' rl => ?_
    · obtain ⟨hj, rfl⟩ := M84.starN_at er
      rw [List.getElem?_map, List.getElem?_range (by omega)] at ex
      have ex' : V.int (0 + (j : Nat)) = x := Option.some.inj ex
      rw [Int.zero_add] at ex'
      subst ex'
      refine ⟨_, rfl, _, rfl, RgOk.of_le (by omega) (by omega) (by omega) (by omega), fun p1 hp1 => ?_⟩
      rw [rg_nat]
      have y1 := (Ex.rfl' (M := M0) xx.gh).new (o := .tup (iN (List.range j))) hp1
      have gp1 : upd G' p1 (.tup (iN (List.range j))) p1 = some (.tup (iN (List.range j))) := upd_same
      generalize upd G' p1 (.tup (iN (List.range j))) = G1 at y1 gp1
      generalize upd H' p1 (.tup (iN (List.range j))) = H1 at y1 ⊢
      refine ⟨_, rfl, _, rfl, RgOk.of_le (by omega) (by omega) (by omega) (by omega), fun p2 hp2 => ?_⟩
      rw [rg_nat]
      have y2 := y1.new (o := .tup (iN (List.range j))) hp2
      have gp2 : upd G1 p2 (.tup (iN (List.range j))) p2 = some (.tup (iN (List.range j))) := upd_same
      have gp12 := (same_upd (o := .tup (iN (List.range j))) (same_free y1.gh hp2)) _ _ gp1
      generalize upd G1 p2 (.tup (iN (List.range j))) = G2 at y2 gp2 gp12
      generalize upd H1 p2 (.tup (iN (List.range j))) = H2 at y2 ⊢
      refine ⟨by show 2 ≤ sizeLine; decide, fun t ht => ?_⟩
      have gs := same_upd (o := HO.tup [V.ref p1, V.ref p2]) (same_free y2.gh ht)
      exact q _ _ _ (y2.new ht) (rowD_dt upd_same (gs _ _ gp12) (gs _ _ gp2))
    · exact k _ _ _ (x1.frz hD hD' gD) (.lst upd_same (rDt_all (rl.mono (rDt_mono rowD) (same_upd gD))))
def spStar (K : PySem.W.Frag) : Sp := fun vs H Q _ => ∃ (G : Hp) (n : Nat), vs = [.int (n : Int)] ∧ Same G H ∧ n ≤ 60 ∧ RetH K M0 G H Q (M84.starN n)
theorem sm_star {n : Nat} (h : n ≤ 60) : Sm (M84.starN n) := by
  refine ⟨by rw [M84.starN_len]; omega, fun r hr => ?_, fun r hr => ?_⟩
  all_goals
    obtain ⟨k, hk⟩ := List.mem_iff_getElem?.mp hr
    obtain ⟨h1, rfl⟩ := M84.starN_at hk
    show (List.range k).length < 64
    rw [List.length_range]
    omega
theorem sc_star : FnScope ["n"] ["n"] (defScope s_star) := ⟨rfl, rfl, rfl, by decide +kernel, rfl, by decide +kernel, by decide +kernel⟩
theorem ok_star (T : TX K mg) : DefOk P w K mg base 7 "star" ["n"] (spStar K) := by
  have D_is_integer := ok_is_integer (P := P) (w := w) (base := base) T
  have D_star_nodes := ok_star_nodes (P := P) (w := w) (base := base) T
  have D_heap_of := ok_heap_of (P := P) (w := w) (base := base) T
  obtain ⟨fd, F⟩ := T.d_star
  refine ⟨fd, F.ok sc_star (fun vs H Q E h => ?_) (fun cdv A outer s H vs Q E hr h => ⟨_, PSs.nox (pss_cons (ps_if (PW.pt (pw_or (pt_not (pt_val (pe_d D_is_integer (hr.mono (by decide)) (pa_cons (pv 0) pa_nil)))) (pw_or1 (pt_cmpR op_lt (pv 0) pe_int (nomark _)))))
    (pss_one ps_never)
    pss_nil)
  (pss_one (ps_ret (pe_d D_heap_of (hr.mono (by decide)) (pa_cons (pe_d D_star_nodes (hr.mono (by decide)) (pa_cons (pv 0) pa_nil)) pa_nil))))), ?_⟩), T.g_star, F.kp, F.bindsN fun _ _ _ _ _ _ us hl => match us, hl with | [_], _ => rfl⟩
  · obtain ⟨_, n, rfl, _⟩ := h
    rfl
  · obtain ⟨G, n, rfl, e, hn, k⟩ := h
    refine ⟨_, rfl, _, rfl, _, rfl, ?_⟩
    refine iteF ⟨_, rfl, _, _, rfl, rfl, _, rfl, ?_⟩
    have e0 : decide ((n : Int) < 0) = false := decide_eq_false (by omega)
    rw [e0]
    refine iteF ⟨_, rfl, G, n, rfl, e, hn, fun G1 H1 v x1 hv => ⟨G1, v, _, rfl, x1.gh, hv, M84.starN_good n, sm_star hn, fun G' H' v x2 h => k G' H' v (x1.trans x2) h⟩⟩
end
end G84

namespace G84
open PySem PySem.Spec PyProof.Rows L2
/-! W20: the spring of numbers. -/
theorem dtAll_int {G : Hp} : ∀ bs : List Int, DtAll G (bs.map V.int) (bs.map PyData.int)
  | [] => .nil
  | b :: bs => .cons (.int b) (dtAll_int bs)
theorem canLayAll_int : ∀ l : List Int, PyData.canLayAll0 (l.map PyData.int) = true
  | [] => by simp [PyData.canLayAll0]
  | n :: l => by simp [PyData.canLayAll0, PyData.canLay0, canLayAll_int l]
theorem depthAll_int : ∀ l : List Int, PyData.depthAll (l.map PyData.int) = 0
  | [] => by simp [PyData.depthAll]
  | n :: l => by simp [PyData.depthAll, PyData.depth, depthAll_int l]
theorem shaped_ints (l : List Int) : SeqAt.shaped (.list (l.map PyData.int)) = true := shaped_of (by simp [PyData.canLay0, canLayAll_int]) (by simp [PyData.depth, depthAll_int])
theorem eqv_nil (l : List Int) : PyData.eqv (.list (l.map PyData.int)) (.list ([] : List PyData)) = decide (l = []) := by
  cases l with
  | nil => simp [PyData.eqv, PyData.eqvAll]
  | cons x xs => simp [PyData.eqv, PyData.eqvAll]
structure SP where
  sp : Addr
  l1 : Addr
  l2 : Addr
abbrev SM (S : SP) : Addr → Prop := fun b => b = S.sp ∨ b = S.l1
structure SPR (S : SP) (c : Nat) (G H : Hp) : Prop where
  e : Same G H
  s : ∃ x : Int, H S.sp = some (.lst [.ref S.l1, .int x, .ref S.l2, .int (c : Int)])
  gs : G S.sp = none
  l : ∃ bs : List Int, H S.l1 = some (.lst (bs.map V.int))
  gl : G S.l1 = none
  m : ∃ ls : List Int, G S.l2 = some (.lst (ls.map V.int)) ∧ ls.length ≤ 63
  ne : S.sp ≠ S.l1
section
variable {S : SP} {c : Nat} {G H G' H' : Hp}
theorem SPR.has (R : SPR S c G H) {b : Addr} (m : SM S b) : H b ≠ none := by
  rcases m with rfl | rfl
  · obtain ⟨x, h⟩ := R.s; rw [h]; exact fun z => nomatch z
  · obtain ⟨x, h⟩ := R.l; rw [h]; exact fun z => nomatch z
theorem SPR.gnone (R : SPR S c G H) {b : Addr} (m : SM S b) : G b = none := by
  rcases m with rfl | rfl
  · exact R.gs
  · exact R.gl
theorem SPR.keep (R : SPR S c G H) (x : Ex M0 G H G' H') : SPR S c G' H' := by
  obtain ⟨y, h1⟩ := R.s
  obtain ⟨bs, h2⟩ := R.l
  obtain ⟨ls, h3, h4⟩ := R.m
  exact ⟨x.gh, ⟨y, x.same _ _ h1⟩, x.fr _ (R.has (.inl rfl)) R.gs, ⟨bs, x.same _ _ h2⟩, x.fr _ (R.has (.inr rfl)) R.gl, ⟨ls, x.g _ _ h3, h4⟩, R.ne⟩
theorem SPR.put (R : SPR S c G H) {p : Addr} {o : HO} (g : G p = none) (m : ¬ SM S p) : SPR S c G (upd H p o) := by
  obtain ⟨y, h1⟩ := R.s
  obtain ⟨bs, h2⟩ := R.l
  exact ⟨fun b u e => by rw [upd_ne (ne_of_none e g)]; exact R.e b u e, ⟨y, by rw [upd_ne (fun z => m (.inl z.symm))]; exact h1⟩, R.gs, ⟨bs, by rw [upd_ne (fun z => m (.inr z.symm))]; exact h2⟩, R.gl, R.m, R.ne⟩
theorem SPR.frz (R : SPR S c G H) {p : Addr} {o : HO} (h : H p = some o) (g : G p = none) (m : ¬ SM S p) : SPR S c (upd G p o) H := by
  have u := same_upd (o := o) g
  obtain ⟨ls, h3, h4⟩ := R.m
  refine ⟨fun b v e => ?_, R.s, (upd_ne (fun z => m (.inl z.symm))).trans R.gs, R.l, (upd_ne (fun z => m (.inr z.symm))).trans R.gl, ⟨ls, u _ _ h3, h4⟩, R.ne⟩
  by_cases hb : b = p
  · subst hb; rw [upd_same] at e; rw [h]; exact e
  · rw [upd_ne hb] at e; exact R.e b v e
end
section
variable {P : Program} {w : World} {K : PySem.W.Frag} {mg : Str → Option Value} {base : Heap}
def spSpring (K : PySem.W.Frag) : Sp := fun vs H Q _ => ∃ (G : Hp) (a : Addr) (ns : List Int), vs = [.ref a] ∧ Same G H ∧ SqL K H a (ns.map V.int) ∧ ns.length ≤ 63 ∧ ∀ S G' H', Ex M0 G H G' H' → SPR S 0 G' H' → (∀ b, SM S b → H b = none) → Q (.ref S.sp) H'
def liftI (p : Int → Bool) : V → Bool
  | .int z => p z
  | _ => false
theorem filt_int (p : Int → Bool) (l : List Int) : (l.map V.int).filter (liftI p) = (l.filter p).map V.int := by
  rw [List.filter_map] <;> rfl
theorem sc_law_spring : FnScope ["_law_script", "_law_little", "_law_cell"] ["_law_script"] (defScope s_law_spring) := ⟨rfl, rfl, rfl, by decide +kernel, rfl, by decide +kernel, by decide +kernel⟩
theorem ok_spring (T : TX K mg) : DefOk P w K mg base 1 "_law_spring" ["_law_script"] (spSpring K) := by
  obtain ⟨fd, F⟩ := T.d_law_spring
  refine ⟨fd, F.ok sc_law_spring (fun vs H Q E h => ?_) (fun cdv A outer s H vs Q E hr h => ⟨_, PSs.nox (pss_cons (ps_setLc (i := 1) (own := [("_law_cell", 2)]) (g := gName 2) rfl sc_law_spring.nd rfl rfl (sw_true rfl rfl rfl (by decide +kernel)) (pi_list (pv 0)) (blkOk_by (own := [("_law_cell", 2)]) (N := ["_law_script", "_law_little", "_law_cell"]) (sc := defScope s_law_spring) (by decide +kernel)) (fun _ _ _ _ _ => (pg_name (i := 2) sc_law_spring.nd rfl (Or.inl rfl))) (fun _ _ _ _ _ => pts_one (pt_cmpR op_lt (pv 2) (pe_op op_pow pe_int pe_int) (nomark _))) (fun _ _ _ _ _ => (pe_callTy call_int1 (by rfl) T.f_int (by decide +kernel) (pa_cons (pv 2) pa_nil))))
  (pss_one (ps_ret (pe_lst (pa_cons (pe_lc (own := [("_law_cell", 2)]) (g := gName 2) rfl sc_law_spring.nd (pi_list (pv 0)) (blkOk_by (own := [("_law_cell", 2)]) (N := ["_law_script", "_law_little", "_law_cell"]) (sc := defScope s_law_spring) (by decide +kernel)) (fun _ _ _ _ _ => (pg_name (i := 2) sc_law_spring.nd rfl (Or.inl rfl))) (fun _ _ _ _ _ => pts_one (pt_cmpR op_ge (pv 2) (pe_op op_pow pe_int pe_int) (nomark _))) (fun _ _ _ _ _ => (pe_callTy call_int1 (by rfl) T.f_int (by decide +kernel) (pa_cons (pv 2) pa_nil)))) (pa_cons pe_int (pa_cons (pv 1) (pa_cons pe_int pa_nil)))))))), ?_⟩), T.g_law_spring, F.kp, F.bindsN fun _ _ _ _ _ _ us hl => match us, hl with | [_], _ => rfl⟩
  · obtain ⟨_, a, _, rfl, _⟩ := h
    rfl
  · obtain ⟨G, a, ns, rfl, e, ha, hl, k⟩ := h
    have hz : (ns.map V.int).length ≤ sizeLine := by rw [List.length_map]; exact sz63 (by omega)
    refine ⟨_, rfl, a, rfl, ⟨_, ha⟩, fun D hD => lcL (fun v => v) (liftI fun z => decide (z < 10 ^ 18)) ha hD hz (fun _ => rfl) (fun x H1 Q' hx s1 q => ?_) (fun x H1 Q' hx _ s1 q => ?_) ?_⟩
    · obtain ⟨z, hz, rfl⟩ := List.mem_map.mp hx
      exact ⟨_, rfl, _, _, rfl, rfl, ⟨by decide, by decide, by decide⟩, _, _, rfl, rfl, _, rfl, q⟩
    · obtain ⟨z, hz, rfl⟩ := List.mem_map.mp hx
      exact ⟨_, rfl, .inl ⟨_, rfl, q⟩⟩
    · rw [filt_int, List.map_id']
      have x1 := (Ex.rfl' (M := M0) e).loc (o := .lst ((ns.filter fun z => decide (z < 10 ^ 18)).map V.int)) hD
      have hD1 : upd H D (.lst ((ns.filter fun z => decide (z < 10 ^ 18)).map V.int)) D = some (.lst ((ns.filter fun z => decide (z < 10 ^ 18)).map V.int)) := upd_same
      have ha1 : SqL K (upd H D (.lst ((ns.filter fun z => decide (z < 10 ^ 18)).map V.int))) a (ns.map V.int) := x1.same.seq ha
      have ll := List.length_filter_le (fun z => decide (z < 10 ^ 18)) ns
      generalize (ns.filter fun z => decide (z < 10 ^ 18)) = ls at x1 hD1 ha1 ll ⊢
      generalize upd H D (.lst (ls.map V.int)) = H1 at x1 hD1 ha1 ⊢
      have x1f := x1.frz hD hD1 (same_free e hD)
      refine ⟨_, rfl, a, rfl, ⟨_, ha1⟩, fun D2 hD2 => lcL (fun v => v) (liftI fun z => decide (10 ^ 18 ≤ z)) ha1 hD2 hz (fun _ => rfl) (fun x H2 Q' hx s1 q => ?_) (fun x H2 Q' hx _ s1 q => ?_) ?_⟩
      · obtain ⟨z, hz, rfl⟩ := List.mem_map.mp hx
        exact ⟨_, rfl, _, _, rfl, rfl, ⟨by decide, by decide, by decide⟩, _, _, rfl, rfl, _, rfl, q⟩
      · obtain ⟨z, hz, rfl⟩ := List.mem_map.mp hx
        exact ⟨_, rfl, .inl ⟨_, rfl, q⟩⟩
      · rw [filt_int, List.map_id']
        have x2 := x1f.loc (o := .lst ((ns.filter fun z => decide (10 ^ 18 ≤ z)).map V.int)) hD2
        have hD2' : upd H1 D2 (.lst ((ns.filter fun z => decide (10 ^ 18 ≤ z)).map V.int)) D2 = some (.lst ((ns.filter fun z => decide (10 ^ 18 ≤ z)).map V.int)) := upd_same
        have g2 := same_free x1f.gh hD2
        have n2 := x1f.free hD2
        generalize (ns.filter fun z => decide (10 ^ 18 ≤ z)) = bs at x2 hD2' ⊢
        generalize upd H1 D2 (.lst (bs.map V.int)) = H2 at x2 hD2' ⊢
        refine ⟨_, rfl, by show 4 ≤ sizeLine; decide, fun sp nsp => ?_⟩
        have x3 := x2.loc (o := .lst [.ref D2, .int 0, .ref D, .int 0]) nsp
        have ne : sp ≠ D2 := fun z => by rw [z, hD2'] at nsp; cases nsp
        refine k ⟨sp, D2, D⟩ _ _ x3 ⟨x3.gh, ⟨0, upd_same⟩, same_free x2.gh nsp, ⟨bs, (upd_ne ne.symm).trans hD2'⟩, g2, ⟨ls, upd_same, by omega⟩, ne⟩ ?_
        rintro b (z | z)
        · rw [z]; exact x2.free nsp
        · rw [z]; exact n2
/-- int(x), as a rule -/
abbrev rI1 : List V → Hp → VK → Prop := fun xs H Q => (∃ i, xs = [V.int i] ∧ Q (V.int i) H) ∨ ∃ k, xs = [V.bl k] ∧ Q (V.int (if k = true then 1 else 0)) H
abbrev rMo : R2 := rI (fun x j => j ≠ 0) fun i j => V.int (i.fmod j)
abbrev rMu : R2 := rI CMul fun i j => V.int (i * j)
abbrev rPl : R2 := rI0 fun i j => V.int (i + j)
abbrev rDv : R2 := rI CDivN fun i j => V.int (i.fdiv j)
/-- what take does with its cell -/
def tTake3 (K : PySem.W.Frag) : TS :=
  tSeq (tAsg (tOp rMo (tOp (rI CPow fun i j => V.int (i ^ j.toNat)) (tCB rI1 (tCons (tOp rPl (tOp rPl (tOp rMo (tCB rI1 (tCons (tVar 3) tNil)) (tC (V.int 1000003))) (tOp rMu (tC (V.int 7919)) (tOp (rIxL K) (tVar 0) (tC (V.int 3))))) (tC (V.int 13))) tNil)) (tC (V.int 5))) (tC (V.int 2147483629))) (gName 4))
    (tSeq (tAsg (tOp rMo (tCB rI1 (tCons (tOp rPl (tOp rMu (tVar 4) (tC (V.int 48271))) (tOp rMu (tC (V.int 6011)) (tOp (rIxL K) (tVar 0) (tC (V.int 3))))) tNil)) (tC (V.int 2147483587))) (gName 5))
      (tRet (tOp rMo (tOp rDv (tOp rMo (tCB rI1 (tCons (tOp rPl (tOp rMu (tVar 5) (tC (V.int 69621))) (tC (V.int 19))) tNil)) (tC (V.int 1000000007))) (tC (V.int 5))) (tVar 1))))
def tTake2 (K : PySem.W.Frag) : TS :=
  tSeq (tIfS (tTest (tOp (rI0 fun i j => V.bl (decide (j < i))) (tOp (rIxL K) (tVar 0) (tC (V.int 1))) (tC (V.int 0))))
      (tSeq (tAsg (tOp rMo (tCB rI1 (tCons (tOp (rIxL K) (tVar 0) (tC (V.int 1))) tNil)) (tVar 1)) (gName 2))
        (tSeq (tAsg (tOp rDv (tOp (rIxL K) (tVar 0) (tC (V.int 1))) (tVar 1)) (gSub (tVar 0) (tC (V.int 1)) L2.rSetL)) (tRet (tVar 2)))) tNext)
    (tSeq (tAsg (tIf (tTest (tOp (rEqD K) (tOp (rIxL K) (tVar 0) (tC (V.int 2))) (tLst tNil))) (tOp rMu (tC (V.int 17)) (tOp (rIxL K) (tVar 0) (tC (V.int 3))))
        (tOp (rIxL K) (tOp (rIxL K) (tVar 0) (tC (V.int 2))) (tOp rMo (tCB rI1 (tCons (tOp (rIxL K) (tVar 0) (tC (V.int 3))) tNil)) (tCB (fun xs H Q => ∃ p ys, xs = [V.ref p] ∧ (SqL K H p ys ∨ SqT K H p ys) ∧ Q (V.int ys.length) H) (tCons (tOp (rIxL K) (tVar 0) (tC (V.int 2))) tNil))))) (gName 3))
      (tTake3 K))
theorem fmod_fig (i : Int) {m : Nat} (hm : 1 ≤ m) : ∃ f : Nat, f < m ∧ i.fmod (m : Int) = (f : Int) := by
  have h1 := Int.fmod_nonneg_of_pos i (b := (m : Int)) (by omega)
  have h2 := Int.fmod_lt_of_pos i (b := (m : Int)) (by omega)
  exact ⟨(i.fmod m).toNat, by omega, by omega⟩
theorem take3 {K : PySem.W.Frag} {S : SP} {c m : Nat} {H : Hp} {D : Ends} {x2 : Option V} {z x : Int} {l1 l2 : V} (hs : H S.sp = some (.lst [l1, .int x, l2, .int ((c : Int) + 1)])) (hc : c < 1000000) (hm : 1 ≤ m) (m2 : m ≤ 1000) (k : ∀ f : Nat, f < m → D.rt (.int (f : Int)) H) :
    tTake3 K D [some (.ref S.sp), some (.int (m : Int)), x2, some (.int z), none, none] H := by
  obtain ⟨a, ha, ea⟩ := fmod_fig z (m := 1000003) (by decide)
  have ea' : z.fmod 1000003 = (a : Int) := ea
  refine ⟨_, rfl, .inl ⟨_, rfl, _, _, rfl, rfl, (by show (1000003 : Int) ≠ 0; decide), ?_⟩⟩
  dsimp only
  rw [ea']
  refine ⟨_, rfl, S.sp, _, _, _, rfl, rfl, SqL.of hs, atN (j := 3) rfl, _, _, rfl, rfl, .inl ⟨by decide, by decide⟩, _, _, rfl, rfl, _, _, rfl, rfl, .inl ⟨_, rfl, _, _, rfl, rfl, ⟨by decide, by decide, ?_⟩, ?_⟩⟩
  · omega
  obtain ⟨b, hb, eb⟩ := fmod_fig (((a : Int) + 7919 * ((c : Int) + 1) + 13) ^ (5 : Int).toNat) (m := 2147483629) (by decide)
  have eb' : (((a : Int) + 7919 * ((c : Int) + 1) + 13) ^ (5 : Int).toNat).fmod 2147483629 = (b : Int) := eb
  refine ⟨_, _, rfl, rfl, (by show (2147483629 : Int) ≠ 0; decide), ?_⟩
  dsimp only
  rw [eb']
  refine ⟨_, rfl, _, _, rfl, rfl, .inr ⟨by decide, by decide⟩, _, rfl, S.sp, _, _, _, rfl, rfl, SqL.of hs, atN (j := 3) rfl, _, _, rfl, rfl, .inl ⟨by decide, by decide⟩, _, _, rfl, rfl, .inl ⟨_, rfl, _, _, rfl, rfl, (by show (2147483587 : Int) ≠ 0; decide), ?_⟩⟩
  obtain ⟨d, hd, ed⟩ := fmod_fig ((b : Int) * 48271 + 6011 * ((c : Int) + 1)) (m := 2147483587) (by decide)
  have ed' : ((b : Int) * 48271 + 6011 * ((c : Int) + 1)).fmod 2147483587 = (d : Int) := ed
  dsimp only
  rw [ed']
  refine ⟨_, rfl, _, _, rfl, rfl, .inr ⟨by decide, by decide⟩, _, _, rfl, rfl, .inl ⟨_, rfl, _, _, rfl, rfl, (by show (1000000007 : Int) ≠ 0; decide), _, _, rfl, rfl, ⟨by decide, by decide⟩, _, rfl, _, _, rfl, rfl, ?_, ?_⟩⟩
  · show (m : Int) ≠ 0
    omega
  · obtain ⟨f, hf, ef⟩ := fmod_fig (((((d : Int) * 69621 + 19).fmod 1000000007)).fdiv 5) (m := m) hm
    dsimp only
    rw [ef]
    exact k f hf
theorem take2 {K : PySem.W.Frag} {S : SP} {c m : Nat} {G H : Hp} {D : Ends} {x : Int} {bs : List Int} (e : Same G H) (hs : H S.sp = some (.lst [.ref S.l1, .int x, .ref S.l2, .int ((c : Int) + 1)])) (hb : H S.l1 = some (.lst (bs.map V.int))) (gs : G S.sp = none) (gl : G S.l1 = none) (ne : S.sp ≠ S.l1) (hls : ∃ ls : List Int, G S.l2 = some (.lst (ls.map V.int)) ∧ ls.length ≤ 63)
    (hc : c < 1000000) (hm : 1 ≤ m) (m2 : m ≤ 1000) (k : ∀ f : Nat, f < m → ∀ H', Ex (SM S) G H G H' → SPR S (c + 1) G H' → D.rt (.int (f : Int)) H') :
    tTake2 K D [some (.ref S.sp), some (.int (m : Int)), none, none, none, none] H := by
  have nxt : ∀ H', (∃ y : Int, H' S.sp = some (.lst [.ref S.l1, .int y, .ref S.l2, .int ((c : Int) + 1)])) → H' S.l1 = some (.lst (bs.map V.int)) → Same G H' → SPR S (c + 1) G H' := fun H' ⟨y, h1⟩ h2 s => ⟨s, ⟨y, h1⟩, gs, ⟨bs, h2⟩, gl, hls, ne⟩
  refine ⟨_, rfl, S.sp, _, _, _, rfl, rfl, SqL.of hs, atN (j := 1) rfl, _, _, rfl, rfl, _, rfl, ?_⟩
  by_cases hx : 0 < x
  · rw [decide_eq_true hx]
    obtain ⟨f, hf, ef⟩ := fmod_fig x hm
    refine iteT ⟨_, rfl, S.sp, _, _, _, rfl, rfl, SqL.of hs, atN (j := 1) rfl, .inl ⟨_, rfl, _, rfl, _, _, rfl, rfl, (by show (m : Int) ≠ 0; omega), ?_⟩⟩
    dsimp only
    rw [ef]
    refine ⟨_, rfl, S.sp, _, _, _, rfl, rfl, SqL.of hs, atN (j := 1) rfl, _, rfl, _, _, rfl, rfl, ⟨by omega, by omega⟩, _, rfl, S.sp, _, 1, 1, rfl, rfl, hs, rfl, _, rfl, ?_⟩
    have x1 := (Ex.rfl' (M := SM S) e).mut (o := .lst [.ref S.l1, .int (x.fdiv m), .ref S.l2, .int ((c : Int) + 1)]) (.inr (.inl rfl)) gs
    exact k f hf _ x1 (nxt _ ⟨_, upd_same⟩ ((upd_ne ne.symm).trans hb) x1.gh)
  · rw [decide_eq_false hx]
    refine iteF ⟨_, rfl, S.sp, _, _, _, rfl, rfl, SqL.of hs, atN (j := 2) rfl, Nat.zero_le _, fun p hp => ?_⟩
    obtain ⟨ls, hl2, lls⟩ := hls
    have x1 := (Ex.rfl' (M := M0) e).loc (o := .lst []) hp
    have hs1 := x1.same _ _ hs
    have hb1 := x1.same _ _ hb
    have hl21 := x1.gh _ _ hl2
    refine ⟨.list (ls.map PyData.int), .list [], (Dt.lst (H := upd H p (.lst [])) hl21 (dtAll_int ls)).dp, (Dt.lst (H := upd H p (.lst [])) upd_same .nil).dp, shaped_ints ls, shaped_ints [], _, rfl, ?_⟩
    rw [eqv_nil]
    generalize upd H p (.lst []) = H1 at x1 hs1 hb1 hl21 ⊢
    have fin : ∀ f : Nat, f < m → D.rt (.int (f : Int)) H1 := fun f hf => k f hf H1 (x1.mono fun _ z => z.elim) (nxt _ ⟨_, hs1⟩ hb1 x1.gh)
    cases ls with
    | nil =>
      exact iteT ⟨_, rfl, S.sp, _, _, _, rfl, rfl, SqL.of hs1, atN (j := 3) rfl, _, _, rfl, rfl, .inl ⟨by decide, by decide⟩, take3 hs1 hc hm m2 fin⟩
    | cons z zs =>
      obtain ⟨q, hq, eq⟩ := fmod_fig ((c : Int) + 1) (m := (z :: zs).length) (by rw [List.length_cons]; omega)
      obtain ⟨y, ey⟩ := M84.some_at (l := (z :: zs).map V.int) (i := q) (by rw [List.length_map]; exact hq)
      obtain ⟨y', ey', rfl⟩ : ∃ y', (z :: zs)[q]? = some y' ∧ V.int y' = y := by
        rw [List.getElem?_map] at ey
        obtain ⟨y', h1, h2⟩ := Option.map_eq_some_iff.mp ey
        exact ⟨y', h1, h2⟩
      refine iteF ⟨_, rfl, S.sp, _, _, _, rfl, rfl, SqL.of hs1, atN (j := 2) rfl, _, rfl, S.sp, _, _, _, rfl, rfl, SqL.of hs1, atN (j := 3) rfl, .inl ⟨_, rfl, _, rfl, S.sp, _, _, _, rfl, rfl, SqL.of hs1, atN (j := 2) rfl, S.l2, _, rfl, .inl (SqL.of hl21), _, _, rfl, rfl, (by rw [List.length_map, List.length_cons]; omega), ?_⟩⟩
      dsimp only
      rw [List.length_map, eq]
      exact ⟨S.l2, _, _, _, rfl, rfl, SqL.of hl21, atN ey, take3 hs1 hc hm m2 fin⟩
def spTake : Sp := fun vs H Q _ => ∃ (S : SP) (G : Hp) (c m : Nat), vs = [.ref S.sp, .int (m : Int)] ∧ SPR S c G H ∧ 1 ≤ m ∧ m ≤ 1000 ∧ c < 1000000 ∧ ∀ f : Nat, f < m → ∀ H', Ex (SM S) G H G H' → SPR S (c + 1) G H' → Q (.int (f : Int)) H'
theorem sc_law_take : FnScope ["_law_spring_here", "_law_most", "_law_figure", "_law_cell", "_law_first", "_law_second"] ["_law_spring_here", "_law_most"] (defScope s_law_take) := ⟨rfl, rfl, rfl, by decide +kernel, rfl, by decide +kernel, by decide +kernel⟩
theorem ok_take (T : TX K mg) : DefOk P w K mg base 1 "_law_take" ["_law_spring_here", "_law_most"] spTake := by
  obtain ⟨fd, F⟩ := T.d_law_take
  refine ⟨fd, F.ok sc_law_take (fun vs H Q E h => ?_) (fun cdv A outer s H vs Q E hr h => ⟨_, PSs.nox (pss_cons (ps_asg (pe_op op_add (pe_ix (ixl K) (pv 0) pe_int (fun _ _ => rfl)) pe_int) (pg_sub (pv 0) pe_int set_list))
  (pss_cons (ps_if (PW.pt (pw_and (pt_cmpR op_eq (pe_ix (ixl K) (pv 0) pe_int (fun _ _ => rfl)) pe_int (nomark _)) (pw_and1 (pt_cmpR (neD K hr.units) (pe_ix (ixl K) (pv 0) pe_int (fun _ _ => rfl)) (pe_lst pa_nil) (nomark _)))))
    (pss_one (ps_asg (pe_bm PySem.F.plainAttrs_list PySem.F.slot_list_pop PySem.F.type_list_pop mt_popAt (pe_ix (ixl K) (pv 0) pe_int (fun _ _ => rfl)) (pa_cons pe_int pa_nil)) (pg_sub (pv 0) pe_int set_list)))
    pss_nil)
  (pss_cons (ps_if (pt_cmpR op_gt (pe_ix (ixl K) (pv 0) pe_int (fun _ _ => rfl)) pe_int (nomark _))
    (pss_cons (ps_set (i := 2) sc_law_take.nd rfl (Or.inl rfl) (pe_op op_modN (pe_callTy call_int1 (by rfl) T.f_int (by decide +kernel) (pa_cons (pe_ix (ixl K) (pv 0) pe_int (fun _ _ => rfl)) pa_nil)) (pv 1)))
  (pss_cons (ps_asg (pe_op op_fdivN (pe_ix (ixl K) (pv 0) pe_int (fun _ _ => rfl)) (pv 1)) (pg_sub (pv 0) pe_int set_list))
  (pss_one (ps_ret (pv 2)))))
    pss_nil)
  (pss_cons (ps_set (i := 3) sc_law_take.nd rfl (Or.inl rfl) (pe_ifExp (pt_cmpR (eqD K hr.units) (pe_ix (ixl K) (pv 0) pe_int (fun _ _ => rfl)) (pe_lst pa_nil) (nomark _)) (pe_op op_mul pe_int (pe_ix (ixl K) (pv 0) pe_int (fun _ _ => rfl))) (pe_ix (ixl K) (pe_ix (ixl K) (pv 0) pe_int (fun _ _ => rfl)) (pe_op op_modN (pe_callTy call_int1 (by rfl) T.f_int (by decide +kernel) (pa_cons (pe_ix (ixl K) (pv 0) pe_int (fun _ _ => rfl)) pa_nil)) (pe_callB (lenS K) (by rfl) T.f_len (by decide +kernel) (pa_cons (pe_ix (ixl K) (pv 0) pe_int (fun _ _ => rfl)) pa_nil))) (fun _ _ => rfl))))
  (pss_cons (ps_set (i := 4) sc_law_take.nd rfl (Or.inl rfl) (pe_op op_modN (pe_op op_pow (pe_callTy call_int1 (by rfl) T.f_int (by decide +kernel) (pa_cons (pe_op op_add (pe_op op_add (pe_op op_modN (pe_callTy call_int1 (by rfl) T.f_int (by decide +kernel) (pa_cons (pv 3) pa_nil)) pe_int) (pe_op op_mul pe_int (pe_ix (ixl K) (pv 0) pe_int (fun _ _ => rfl)))) pe_int) pa_nil)) pe_int) pe_int))
  (pss_cons (ps_set (i := 5) sc_law_take.nd rfl (Or.inl rfl) (pe_op op_modN (pe_callTy call_int1 (by rfl) T.f_int (by decide +kernel) (pa_cons (pe_op op_add (pe_op op_mul (pv 4) pe_int) (pe_op op_mul pe_int (pe_ix (ixl K) (pv 0) pe_int (fun _ _ => rfl)))) pa_nil)) pe_int))
  (pss_one (ps_ret (pe_op op_modN (pe_op op_fdivN (pe_op op_modN (pe_callTy call_int1 (by rfl) T.f_int (by decide +kernel) (pa_cons (pe_op op_add (pe_op op_mul (pv 5) pe_int) pe_int) pa_nil)) pe_int) pe_int) (pv 1)))))))))), ?_⟩), T.g_law_take, F.kp, F.bindsN fun _ _ _ _ _ _ us hl => match us, hl with | [_, _], _ => rfl⟩
  · obtain ⟨S, _, _, m, rfl, _⟩ := h
    rfl
  · obtain ⟨S, G, c, m, rfl, R, m1, m2, hc, k⟩ := h
    obtain ⟨x, hs⟩ := R.s
    refine ⟨_, rfl, S.sp, _, _, _, rfl, rfl, SqL.of hs, atN (j := 3) rfl, _, _, rfl, rfl, _, rfl, ?_⟩
    refine ⟨S.sp, _, 3, 3, rfl, rfl, hs, rfl, ?_⟩
    have x1 := (Ex.rfl' (M := SM S) R.e).mut (o := .lst [.ref S.l1, .int x, .ref S.l2, .int ((c : Int) + 1)]) (.inr (.inl rfl)) R.gs
    have hs1 : upd H S.sp (.lst [.ref S.l1, .int x, .ref S.l2, .int ((c : Int) + 1)]) S.sp = some (.lst [.ref S.l1, .int x, .ref S.l2, .int ((c : Int) + 1)]) := upd_same
    obtain ⟨bs, hb⟩ := R.l
    have hb1 : upd H S.sp (.lst [.ref S.l1, .int x, .ref S.l2, .int ((c : Int) + 1)]) S.l1 = some (.lst (bs.map V.int)) := (upd_ne R.ne.symm).trans hb
    show tSeq _ _ _ _ (upd H S.sp (.lst [.ref S.l1, .int x, .ref S.l2, .int ((c : Int) + 1)]))
    generalize upd H S.sp (.lst [.ref S.l1, .int x, .ref S.l2, .int ((c : Int) + 1)]) = H1 at x1 hs1 hb1 ⊢
    refine ⟨_, rfl, S.sp, _, _, _, rfl, rfl, SqL.of hs1, atN (j := 1) rfl, rfl, _, rfl, ?_⟩
    by_cases hx : x = 0
    · have e0 : decide (V.int x = V.int 0) = true := by rw [hx]; exact decide_eq_true rfl
      rw [e0]
      refine iteT ⟨_, rfl, S.sp, _, _, _, rfl, rfl, SqL.of hs1, atN (j := 0) rfl, Nat.zero_le _, fun p hp => ?_⟩
      have x2 := (Ex.rfl' (M := M0) x1.gh).loc (o := .lst []) hp
      have hs2 := x2.same _ _ hs1
      have hb2 := x2.same _ _ hb1
      refine ⟨.list (bs.map PyData.int), .list [], (Dt.lst (H := upd H1 p (.lst [])) hb2 (dtAll_int bs)).dp, (Dt.lst (H := upd H1 p (.lst [])) upd_same .nil).dp, shaped_ints bs, shaped_ints [], _, rfl, ?_⟩
      rw [eqv_nil]
      have x12 := x1.trans (x2.mono (M' := SM S) fun _ z => z.elim)
      generalize upd H1 p (.lst []) = H2 at x2 hs2 hb2 x12 ⊢
      cases bs with
      | nil =>
        exact iteF (take2 (D := { nx := fun x H' => Q .non H', rt := Q }) x2.gh hs2 hb2 R.gs R.gl R.ne R.m hc m1 m2 fun f hf H' x3 r => k f hf H' (x12.trans x3) r)
      | cons z zs =>
        refine iteT ⟨_, rfl, S.sp, _, _, _, rfl, rfl, SqL.of hs2, atN (j := 0) rfl, .inl ⟨rfl, _, SqL.of hb2⟩, S.l1, _, 0, 0, _, rfl, rfl, hb2, by decide, by decide, by simp [seqIndex?], rfl, ?_⟩
        have x3 := x12.mut (o := .lst (zs.map V.int)) (.inr (.inr rfl)) R.gl
        have hs3 : upd H2 S.l1 (.lst (zs.map V.int)) S.sp = _ := (upd_ne R.ne).trans hs2
        have x4 := x3.mut (o := .lst [.ref S.l1, .int z, .ref S.l2, .int ((c : Int) + 1)]) (.inr (.inl rfl)) R.gs
        refine ⟨_, rfl, S.sp, _, 1, 1, rfl, rfl, hs3, rfl, ?_⟩
        exact take2 (D := { nx := fun x H' => Q .non H', rt := Q }) (bs := zs) x4.gh upd_same ((upd_ne R.ne.symm).trans upd_same) R.gs R.gl R.ne R.m hc m1 m2 fun f hf H' x5 r => k f hf H' (x4.trans x5) r
    · have e0 : decide (V.int x = V.int 0) = false := decide_eq_false fun z => hx (by cases z; rfl)
      rw [e0]
      exact iteF (take2 (D := { nx := fun x H' => Q .non H', rt := Q }) x1.gh hs1 hb1 R.gs R.gl R.ne R.m hc m1 m2 fun f hf H' x3 r => k f hf H' (x1.trans x3) r)
end
end G84

namespace G84
open PySem PySem.Spec PyProof.Rows L2
/-! W21: the law's rows. -/
section
variable {P : Program} {w : World} {K : PySem.W.Frag} {mg : Str → Option Value} {base : Heap}
/-- the rows that the law lays by its numbers -/
structure LR (R : List Rw) (n : Nat) : Prop where
  v : M84.Val R
  len : R.length = n
  s : M84.SideP (· ≤ 2) R
def spLRows : Sp := fun vs H Q _ => ∃ (S : SP) (G : Hp) (c m : Nat), vs = [.ref S.sp, .int (m : Int)] ∧ SPR S c G H ∧ m ≤ 10 ∧ c ≤ 900000 ∧
  ∀ (R : List Rw) (c' : Nat) (G' H' : Hp) (v : V), LR R (m + 1) → c' ≤ c + 6 * m → Ex (SM S) G H G' H' → SPR S c' G' H' → Dt G' v (rowsL R) → Q v H'
def RO (G H : Hp) (S : SP) (c m : Nat) (f : Addr) (i : Nat) (σ : L2.St) (H' : Hp) : Prop := ∃ (G' : Hp) (R : List Rw) (c' : Nat) (ws : List V), (∃ x3 x4 x5 x6, σ = [some (.ref S.sp), some (.int (m : Int)), some (.ref f), x3, x4, x5, x6]) ∧ Ex (SM S) G H G' H' ∧ SPR S c' G' H' ∧ LR R (i + 1) ∧ c' ≤ c + 6 * i ∧ H' f = some (.lst ws) ∧ DtAll G' ws (R.map rowL) ∧ G' f = none
def RI (G H : Hp) (S : SP) (c m : Nat) (f sd : Addr) (R : List Rw) (i j : Nat) (σ : L2.St) (H' : Hp) : Prop := ∃ (G' : Hp) (L : List (List Nat)) (c' : Nat) (ws vs : List V), (∃ x3 x5 x6, σ = [some (.ref S.sp), some (.int (m : Int)), some (.ref f), x3, some (.ref sd), x5, x6]) ∧ Ex (SM S) G H G' H' ∧ SPR S c' G' H' ∧ c' ≤ c + 6 * i + 3 * j ∧ H' f = some (.lst ws) ∧ DtAll G' ws (R.map rowL) ∧ G' f = none ∧
  H' sd = some (.lst vs) ∧ DtAll G' vs (L.map lN) ∧ G' sd = none ∧ L.length = j ∧ ∀ l ∈ L, l.length ≤ 2 ∧ ∀ x ∈ l, x < i + 1
theorem sc_law_rows : FnScope ["_law_spring_here", "_law_many", "_law_found", "_law_k", "_law_sides", "_law_side", "_law_turn"] ["_law_spring_here", "_law_many"] (defScope s_law_rows) := ⟨rfl, rfl, rfl, by decide +kernel, rfl, by decide +kernel, by decide +kernel⟩
theorem ok_lrows (T : TX K mg) : DefOk P w K mg base 2 "_law_rows" ["_law_spring_here", "_law_many"] spLRows := by
  have D_law_take := ok_take (P := P) (w := w) (base := base) T
  obtain ⟨fd, F⟩ := T.d_law_rows
  refine ⟨fd, F.ok sc_law_rows (fun vs H Q E h => ?_) (fun cdv A outer s H vs Q E hr h => ⟨_, PSs.nox (pss_cons (ps_set (i := 2) sc_law_rows.nd rfl (Or.inr rfl) (pe_lst (pa_cons (pe_tup (pa_cons (pe_lst pa_nil) (pa_cons (pe_lst pa_nil) pa_nil))) pa_nil)))
  (pss_cons (ps_for PassesOwn.never rfl (pi_range1 rfl T.f_range (pa_cons (pv 1) pa_nil)) (pg_name (i := 3) sc_law_rows.nd rfl (Or.inl rfl))
    (pss_cons (ps_set (i := 4) sc_law_rows.nd rfl (Or.inl rfl) (pe_lst pa_nil))
  (pss_cons (ps_for PassesOwn.never rfl (pi_range1 rfl T.f_range (pa_cons pe_int pa_nil)) (pg_name (i := 5) sc_law_rows.nd rfl (Or.inl rfl))
    (pss_one (ps_expr (pe_bm PySem.F.plainAttrs_list PySem.F.slot_list_append PySem.F.type_list_append mt_append (pv 4) (pa_cons (pe_lc (own := [("_law_turn", 6)]) (g := gName 6) (tt := tYes) rfl sc_law_rows.nd (pi_range1 rfl T.f_range (pa_cons (pe_d D_law_take (hr.mono (by decide)) (pa_cons (pv 0) (pa_cons pe_int pa_nil))) pa_nil)) (blkOk_by (own := [("_law_turn", 6)]) (N := ["_law_spring_here", "_law_many", "_law_found", "_law_k", "_law_sides", "_law_side", "_law_turn"]) (sc := defScope s_law_rows) (by decide +kernel)) (fun _ _ _ _ _ => (pg_name (i := 6) sc_law_rows.nd rfl (Or.inl rfl))) (fun _ _ _ _ _ => pts_nil) (fun _ _ _ _ _ => (pe_d D_law_take (hr.mono (by decide)) (pa_cons (pv 0) (pa_cons (pe_callB (lenS K) (by rfl) T.f_len (by decide +kernel) (pa_cons (pv 2) pa_nil)) pa_nil))))) pa_nil)))))
  (pss_one (ps_expr (pe_bm PySem.F.plainAttrs_list PySem.F.slot_list_append PySem.F.type_list_append mt_append (pv 2) (pa_cons (pe_tup (pa_cons (pe_ix (ixl K) (pv 4) pe_int (fun _ _ => rfl)) (pa_cons (pe_ix (ixl K) (pv 4) pe_int (fun _ _ => rfl)) pa_nil))) pa_nil)))))))
  (pss_one (ps_ret (pv 2))))), ?_⟩), T.g_law_rows, F.kp, F.bindsN fun _ _ _ _ _ _ us hl => match us, hl with | [_, _], _ => rfl⟩
  · obtain ⟨S, _, _, m, rfl, _⟩ := h
    rfl
  · obtain ⟨S, G, c, m, rfl, R0, hm, hc, k⟩ := h
    refine ⟨Nat.zero_le _, fun a ha => ⟨Nat.zero_le _, fun b hb => ⟨by show 2 ≤ sizeLine; decide, fun t ht => ⟨by show 1 ≤ sizeLine; decide, fun f hf => ?_⟩⟩⟩⟩
    have gn : ∀ {b : Addr}, H b = none → ¬ SM S b := fun h m => R0.has m h
    have x1 := (Ex.rfl' (M := M0) R0.e).new (o := .lst []) ha
    have x2 := x1.new (o := .lst []) hb
    have x3 := x2.new (o := .tup [.ref a, .ref b]) ht
    have ga : upd G a (.lst []) a = some (.lst (iN [])) := upd_same
    have ga2 := same_upd (o := .lst []) (same_free x1.gh hb) _ _ ga
    have gb2 : upd (upd G a (.lst [])) b (.lst []) b = some (.lst (iN [])) := upd_same
    have gs3 := same_upd (o := HO.tup [V.ref a, V.ref b]) (same_free x2.gh ht)
    have dr : Dt (upd (upd (upd G a (.lst [])) b (.lst [])) t (.tup [.ref a, .ref b])) (.ref t) (rowL ([], [])) := rowL_dt upd_same (gs3 _ _ ga2) (gs3 _ _ gb2)
    show tSeq _ _ _ _ (upd (upd (upd (upd H a (.lst [])) b (.lst [])) t (.tup [.ref a, .ref b])) f (.lst [.ref t]))
    generalize upd (upd (upd G a (.lst [])) b (.lst [])) t (.tup [.ref a, .ref b]) = G3 at x3 dr
    generalize upd (upd (upd H a (.lst [])) b (.lst [])) t (.tup [.ref a, .ref b]) = H3 at x3 hf ⊢
    have nf := x3.free hf
    have nMf := gn nf
    have x4 := x3.loc (o := .lst [.ref t]) hf
    have hf4 : upd H3 f (.lst [.ref t]) f = some (.lst [.ref t]) := upd_same
    have gf := same_free x3.gh hf
    generalize upd H3 f (.lst [.ref t]) = H4 at x4 hf4 ⊢
    have l0 : LR [([], [])] 1 := ⟨fun k r e => by
      cases k with
      | zero => cases (Option.some.inj e); exact ⟨fun x h => (nomatch h), fun x h => (nomatch h)⟩
      | succ k => simp at e, rfl, fun r hr => by
        have : r = ([], []) := by simpa using hr
        rw [this]; exact ⟨Nat.zero_le _, Nat.zero_le _⟩⟩
    refine ⟨_, rfl, _, rfl, by omega, by omega, ?_⟩
    rw [Int.toNat_natCast]
    refine for_range (RO G H S c m f) ⟨G3, _, c, _, ⟨_, _, _, _, rfl⟩, x4.mono (fun _ z => z.elim), R0.keep x4, l0, Nat.le_refl _, hf4, .cons dr .nil, gf⟩ ?_ ?_
    · clear dr gs3 gb2 ga2 ga x1 x2 x3 x4 hf4 gf l0
      rintro i σ H5 hi ⟨G5, R, c', ws, ⟨y3, y4, y5, y6, rfl⟩, x5, R5, lr, lc, hf5, df5, gf5⟩
      have lws : ws.length = i + 1 := by rw [dtAll_len df5, List.length_map, lr.len]
      refine ⟨Nat.zero_le _, fun sd nsd => ?_⟩
      have x6 := x5.loc (o := .lst []) nsd
      have R6 := R5.keep ((Ex.rfl' R5.e).loc (o := .lst []) nsd)
      have nsd0 := x5.free nsd
      have nMs := gn nsd0
      have gsd := same_free R5.e nsd
      have hf6 : upd H5 sd (.lst []) f = some (.lst ws) := (upd_ne (ne_of_none hf5 nsd)).trans hf5
      have hs6 : upd H5 sd (.lst []) sd = some (.lst []) := upd_same
      have nfs : f ≠ sd := ne_of_none hf5 nsd
      generalize upd H5 sd (.lst []) = H6 at x6 R6 hf6 hs6 ⊢
      refine ⟨_, rfl, by decide, by decide, ?_⟩
      refine for_range (n := 2) (RI G H S c m f sd R i) ⟨G5, [], c', ws, [], ⟨_, _, _, rfl⟩, x6, R6, by omega, hf6, df5, gf5, hs6, .nil, gsd, rfl, fun l h => (nomatch h)⟩ ?_ ?_
      · rintro j σ H7 hj ⟨G7, L, c7, ws7, vs7, ⟨z3, z5, z6, rfl⟩, x7, R7, lc7, hf7, df7, gf7, hs7, ds7, gs7, lL, pL⟩
        have lws7 : ws7.length = i + 1 := by rw [dtAll_len df7, List.length_map, lr.len]
        have lvs7 : vs7.length = j := by rw [dtAll_len ds7, List.length_map, lL]
        refine ⟨_, rfl, .inl ⟨rfl, _, SqL.of hs7⟩, _, rfl, ?_⟩
        refine ⟨S, G7, c7, 3, rfl, R7, by decide, by decide, by omega, fun t0 ht0 H8 x8 R8 => ⟨_, rfl, by omega, by omega, fun D hD => ?_⟩⟩
        rw [Int.toNat_natCast]
        have hf8 := x8.s _ _ hf7 nMf
        have hs8 := x8.s _ _ hs7 nMs
        have x78 := x7.trans x8
        have nD := x78.free hD
        have nMD := gn nD
        refine lc_it (walk_range (lo := 0) (n := t0)) (fun q H' => ∃ l, l.length = q ∧ (∀ x ∈ l, x < i + 1) ∧ Ex (SM S) G H G7 H' ∧ SPR S (c7 + 1 + q) G7 H' ∧ H' D = some (.lst (iN l)) ∧ H' f = some (.lst ws7) ∧ H' sd = some (.lst vs7)) ⟨[], rfl, fun x h => (nomatch h), x78.loc hD, R8.keep ((Ex.rfl' R8.e).loc hD), upd_same, (upd_ne (ne_of_none hf8 hD)).trans hf8, (upd_ne (ne_of_none hs8 hD)).trans hs8⟩ (fun _ _ _ _ => trivial) ?_ ?_
        · rintro q x H9 _ hq ⟨l, ll, lp, x9, R9, hD9, hf9, hs9⟩ ⟨rfl, rfl⟩
          refine ⟨rfl, ?_⟩
          unfold tYes
          simp only [↓reduceIte]
          refine ⟨_, rfl, _, rfl, f, ws7, rfl, .inl (SqL.of hf9), ?_⟩
          rw [lws7]
          refine ⟨S, G7, c7 + 1 + q, i + 1, rfl, R9, by omega, by omega, by omega, fun g hg H10 x10 R10 => ?_⟩
          refine ⟨_, x10.s _ _ hD9 nMD, by rw [iN_len, ll]; exact small1000 (by omega), l ++ [g], by rw [List.length_append, ll] <;> rfl, fun x hx => ?_, (x9.trans x10).mut (.inl nD) (same_free R7.e (x8.free hD)), R10.put (same_free R7.e (x8.free hD)) nMD, ?_, ?_, ?_⟩
          · rcases List.mem_append.mp hx with hx | hx
            · exact lp x hx
            · have : x = g := by simpa using hx
              rw [this]; exact hg
          · rw [upd_same, iN_snoc]
          · exact (upd_ne (fun z => by rw [z] at hf8; rw [hf8] at hD; cases hD)).trans (x10.s _ _ hf9 nMf)
          · exact (upd_ne (fun z => by rw [z] at hs8; rw [hs8] at hD; cases hD)).trans (x10.s _ _ hs9 nMs)
        · rintro H9 ⟨l, ll, lp, x9, R9, hD9, hf9, hs9⟩
          have gD : G7 D = none := same_free R7.e (x8.free hD)
          have x10 := x9.frz nD hD9 gD
          have R10 := R9.frz hD9 gD nMD
          have gu := same_upd (o := .lst (iN l)) gD
          refine ⟨sd, vs7, _, rfl, rfl, hs9, by rw [lvs7]; exact small1000 (by omega), ?_⟩
          have gs10 : upd G7 D (.lst (iN l)) sd = none := (upd_ne (fun z => by rw [z] at hs8; rw [hs8] at hD; cases hD)).trans gs7
          have gf10 : upd G7 D (.lst (iN l)) f = none := (upd_ne (fun z => by rw [z] at hf8; rw [hf8] at hD; cases hD)).trans gf7
          refine ⟨_, L ++ [l], c7 + 1 + t0, ws7, vs7 ++ [.ref D], ⟨_, _, _, rfl⟩, x10.mut (.inl nsd0) gs10, R10.put gs10 nMs, by omega, (upd_ne nfs).trans hf9, dtAll_mono gu df7, gf10, upd_same, ?_, gs10, by rw [List.length_append, lL] <;> rfl, fun l' hl' => ?_⟩
          · rw [List.map_append]
            exact dtAll_snoc (dtAll_mono gu ds7) (lN_dt upd_same)
          · rcases List.mem_append.mp hl' with hl' | hl'
            · exact pL l' hl'
            · have : l' = l := by simpa using hl'
              rw [this]; exact ⟨by omega, lp⟩
      · rintro σ H7 ⟨G7, L, c7, ws7, vs7, ⟨z3, z5, z6, rfl⟩, x7, R7, lc7, hf7, df7, gf7, hs7, ds7, gs7, lL, pL⟩
        match L, lL with
        | [p, q], _ =>
          have lws7 : ws7.length = i + 1 := by rw [dtAll_len df7, List.length_map, lr.len]
          cases ds7 with
          | cons d1 ds7 =>
            cases ds7 with
            | cons d2 ds7 =>
              cases ds7
              obtain ⟨p1, rfl, gp1⟩ := dt_lN d1
              obtain ⟨p2, rfl, gp2⟩ := dt_lN d2
              obtain ⟨pl1, pl2⟩ := pL p (by simp)
              obtain ⟨ql1, ql2⟩ := pL q (by simp)
              refine ⟨_, rfl, .inl ⟨rfl, _, SqL.of hf7⟩, _, rfl, sd, _, _, _, rfl, rfl, SqL.of hs7, atN (j := 0) rfl, _, rfl, sd, _, _, _, rfl, rfl, SqL.of hs7, atN (j := 1) rfl, by show 2 ≤ sizeLine; decide, fun t ht => ?_⟩
              have x8 := x7.new (o := .tup [.ref p1, .ref p2]) ht
              have R8 := R7.keep ((Ex.rfl' R7.e).new (o := .tup [.ref p1, .ref p2]) ht)
              have gu := same_upd (o := HO.tup [V.ref p1, V.ref p2]) (same_free R7.e ht)
              have hf8 := (upd_ne (o := HO.tup [V.ref p1, V.ref p2]) (ne_of_none hf7 ht)).trans hf7
              have gf8 := (upd_ne (o := HO.tup [V.ref p1, V.ref p2]) (ne_of_none hf7 ht)).trans gf7
              refine ⟨f, ws7, _, rfl, rfl, hf8, by rw [lws7]; exact small1000 (by omega), ?_⟩
              refine ⟨_, R ++ [(p, q)], c7, ws7 ++ [.ref t], ⟨_, _, _, _, rfl⟩, x8.mut (.inl nf) gf8, R8.put gf8 nMf, ⟨M84.val_snoc lr.v (fun x hx => by rw [lr.len]; exact pl2 x hx) (fun x hx => by rw [lr.len]; exact ql2 x hx), by rw [List.length_append, lr.len] <;> rfl, fun r hr => ?_⟩, by omega, upd_same, ?_, gf8⟩
              · rcases List.mem_append.mp hr with hr | hr
                · exact lr.s r hr
                · have : r = (p, q) := by simpa using hr
                  rw [this]; exact ⟨pl1, ql1⟩
              · rw [List.map_append]
                exact dtAll_snoc (dtAll_mono gu df7) (rowL_dt (r := (p, q)) upd_same (gu _ _ gp1) (gu _ _ gp2))
    · rintro σ H5 ⟨G5, R, c', ws, ⟨y3, y4, y5, y6, rfl⟩, x5, R5, lr, lc, hf5, df5, gf5⟩
      exact ⟨_, rfl, k R c' _ _ _ lr lc (x5.frz nf hf5 gf5) (R5.frz hf5 gf5 nMf) (.lst upd_same (dtAll_mono (same_upd gf5) df5))⟩
end
end G84

namespace G84
open PySem PySem.Spec PyProof.Rows L2
/-! W22: the law's heaps, ladder, sums. -/
section
variable {P : Program} {w : World} {K : PySem.W.Frag} {mg : Str → Option Value} {base : Heap}
def spLHeap (K : PySem.W.Frag) : Sp := fun vs H Q _ => ∃ (G : Hp) (v : V) (R : List Rw), vs = [v] ∧ Same G H ∧ Dt G v (rowsL R) ∧ M84.Val R ∧ R ≠ [] ∧ R.length ≤ 60 ∧ M84.SideP (· < 64) R ∧ RetH K M0 G H Q (M84.heapR R)
def liftV (f : Nat → V) : V → V
  | .int z => f z.toNat
  | v => v
theorem map_liftV (f : Nat → V) (l : List Nat) : (iN l).map (liftV f) = l.map f := by
  show (l.map fun n : Nat => V.int (n : Int)).map (liftV f) = _
  rw [List.map_map]
  exact List.map_congr_left fun n _ => rfl
def HV (K : PySem.W.Frag) (G H : Hp) (v : V) (hp : Addr) (N : List (List Rw)) (σ : L2.St) (H' : Hp) : Prop := ∃ (G' : Hp) (ws : List V), (∃ x2 x3 x4, σ = [some v, some (.ref hp), x2, x3, x4]) ∧ Ex M0 G H G' H' ∧ H' hp = some (.lst ws) ∧ G' hp = none ∧ RL (HpI K) G' ws N
theorem sc_law_heap : FnScope ["_law_rows_here", "_law_heaps", "_law_ours", "_law_theirs", "_law_k"] ["_law_rows_here"] (defScope s_law_heap) := ⟨rfl, rfl, rfl, by decide +kernel, rfl, by decide +kernel, by decide +kernel⟩
theorem ok_lheap (T : TX K mg) : DefOk P w K mg base 6 "_law_heap" ["_law_rows_here"] (spLHeap K) := by
  have D_Heap := ok_Heap (P := P) (w := w) (base := base) T
  obtain ⟨fd, F⟩ := T.d_law_heap
  refine ⟨fd, F.ok sc_law_heap (fun vs H Q E h => ?_) (fun cdv A outer s H vs Q E hr h => ⟨_, PSs.nox (pss_cons (ps_set (i := 1) sc_law_heap.nd rfl (Or.inr rfl) (pe_lst pa_nil))
  (pss_cons (ps_for PassesOwn.never rfl (pi_list (pv 0)) (pg_tup rfl (pgs_cons (pg_name (i := 2) sc_law_heap.nd rfl (Or.inl rfl)) (pgs_cons (pg_name (i := 3) sc_law_heap.nd rfl (Or.inl rfl)) pgs_nil)))
    (pss_one (ps_expr (pe_bm PySem.F.plainAttrs_list PySem.F.slot_list_append PySem.F.type_list_append mt_append (pv 1) (pa_cons (pe_mk D_Heap (hr.mono (by decide)) (pa_cons (pe_lc (own := [("_law_k", 4)]) (g := gName 4) (tt := tYes) rfl sc_law_heap.nd (pi_list (pv 2)) (blkOk_by (own := [("_law_k", 4)]) (N := ["_law_rows_here", "_law_heaps", "_law_ours", "_law_theirs", "_law_k"]) (sc := defScope s_law_heap) (by decide +kernel)) (fun _ _ _ _ _ => (pg_name (i := 4) sc_law_heap.nd rfl (Or.inl rfl))) (fun _ _ _ _ _ => pts_nil) (fun _ _ _ _ _ => (pe_ix (ixl K) (pv 1) (pv 4) (fun _ _ => rfl)))) (pa_cons (pe_lc (own := [("_law_k", 4)]) (g := gName 4) (tt := tYes) rfl sc_law_heap.nd (pi_list (pv 3)) (blkOk_by (own := [("_law_k", 4)]) (N := ["_law_rows_here", "_law_heaps", "_law_ours", "_law_theirs", "_law_k"]) (sc := defScope s_law_heap) (by decide +kernel)) (fun _ _ _ _ _ => (pg_name (i := 4) sc_law_heap.nd rfl (Or.inl rfl))) (fun _ _ _ _ _ => pts_nil) (fun _ _ _ _ _ => (pe_ix (ixl K) (pv 1) (pv 4) (fun _ _ => rfl)))) pa_nil))) pa_nil)))))
  (pss_one (ps_ret (pe_ix (ixl K) (pv 1) (pe_un un_neg pe_int) (fun _ _ => rfl)))))), ?_⟩), T.g_law_heap, F.kp, F.bindsN fun _ _ _ _ _ _ us hl => match us, hl with | [_], _ => rfl⟩
  · obtain ⟨_, v, _, rfl, _⟩ := h
    rfl
  · obtain ⟨G, v, R, rfl, e, hv, val, ne, lR, sd, k⟩ := h
    obtain ⟨a, rvs, rfl, ha, hd⟩ := dt_lst hv
    have lrv : rvs.length = R.length := by rw [dtAll_len hd, List.length_map]
    have hok := M84.heapsR_ok val sd
    refine ⟨Nat.zero_le _, fun hp nhp => ?_⟩
    have x0 := (Ex.rfl' (M := M0) e).loc (o := .lst []) nhp
    refine ⟨_, rfl, a, rfl, ⟨_, SqL.of (x0.gh _ _ ha)⟩, for_list (K := K) (a := a) (xs := rvs) (fun i => HV K G H (.ref a) hp (M84.heapsR (R.take i))) ⟨G, [], ⟨_, _, _, rfl⟩, x0, upd_same, same_free e nhp, RL.nil⟩ (fun i σ H' _ ⟨_, _, _, x, _⟩ => SqL.of (x.gh _ _ (x.g _ _ ha))) ?_ ?_⟩
    · rintro i x σ H1 hi ⟨G1, ws, ⟨x2, x3, x4, rfl⟩, y1, h1, g1, rl⟩
      obtain ⟨r, er, hr1⟩ := dtAll_map hd hi
      obtain ⟨p, b, c, rfl, hpp, hb, hc⟩ := dt_rowL (dt_mono y1.g hr1)
      have hi' := M84.lt_of_some er
      obtain ⟨v1, v2⟩ := val i r er
      obtain ⟨s1, s2⟩ := sd r (List.mem_of_getElem? er)
      have val_i : M84.Val (R.take i) := M84.val_pre (M := R.drop i) (by rw [List.take_append_drop]; exact val)
      have sd_i : M84.SideP (· < 64) (R.take i) := fun q hq => sd q (List.mem_of_mem_take hq)
      obtain ⟨hl, hok_i⟩ := M84.heapsR_ok val_i sd_i
      rw [List.length_take, Nat.min_eq_left (Nat.le_of_lt hi')] at hl
      have tk : R.take (i + 1) = R.take i ++ [r] := take_snoc er
      have val_s : M84.Val (R.take i ++ [r]) := by rw [← tk]; exact M84.val_pre (M := R.drop (i + 1)) (by rw [List.take_append_drop]; exact val)
      have sd_s : M84.SideP (· < 64) (R.take i ++ [r]) := by rw [← tk]; exact fun q hq => sd q (List.mem_of_mem_take hq)
      obtain ⟨hl_s, hok_s⟩ := M84.heapsR_ok val_s sd_s
      have enew : (M84.heapsR (R.take i ++ [r]))[i]? = some (M84.joined (r.1.map fun x => (M84.heapsR (R.take i)).getD x []) (r.2.map fun x => (M84.heapsR (R.take i)).getD x [])) := by
        rw [M84.heapsR_snoc]
        unfold M84.hpS
        rw [List.getElem?_append_right (by rw [hl]; exact Nat.le_refl _), hl, Nat.sub_self] <;> rfl
      have okn := hok_s i _ enew
      have lkn := okn.len val_s (by rw [List.length_append, List.length_take, Nat.min_eq_left (Nat.le_of_lt hi')] <;> exact Nat.lt_succ_self i)
      rw [tk, M84.heapsR_snoc]
      unfold M84.hpS
      generalize M84.heapsR (R.take i) = N at rl hl okn lkn enew ⊢
      have lws : ws.length = i := by rw [rl.1, hl]
      have pick : ∀ (l : List Nat) (G0 : Hp), Same G1 G0 → (∀ x ∈ l, x < i) → RL (HpI K) G0 (l.map fun x => ws.getD x .non) (l.map fun x => N.getD x []) := by
        intro l G0 s0 hl'
        refine ⟨by rw [List.length_map, List.length_map], fun j v a hv ha => ?_⟩
        rw [List.getElem?_map] at hv ha
        obtain ⟨x, ex, e1⟩ := Option.map_eq_some_iff.mp hv
        rw [ex] at ha
        have e2 : N.getD x [] = a := Option.some.inj ha
        have hx := hl' x (List.mem_of_getElem? ex)
        obtain ⟨v', ev'⟩ := M84.some_at (l := ws) (i := x) (by omega)
        obtain ⟨a', ea', hh⟩ := rl.get' ev'
        rw [M84.getD_some ev'] at e1
        rw [M84.getD_some ea'] at e2
        rw [← e1, ← e2]
        exact hpI_mono K _ _ _ _ s0 hh
      have elt : ∀ (σ : L2.St) (l : List Nat) (H0 : Hp), Same H1 H0 → σ[1]? = some (some (.ref hp)) → (∀ x ∈ l, x < i) → ∀ (x : V) (H8 : Hp) (Q' : VK), x ∈ iN l → σ[4]? = some (some x) → Same H0 H8 → Q' (liftV (fun x => ws.getD x .non) x) H8 →
          (tOp (rIxL K) (tVar 1) (tVar 4)) σ H8 Q' := fun σ l H0 s0 h1' hl' x H8 Q' hx h4 s1 q => by
        obtain ⟨y, hy, rfl⟩ := of_iN_mem hx
        have hy' := hl' y hy
        obtain ⟨v', ev'⟩ := M84.some_at (l := ws) (i := y) (by omega)
        refine ⟨_, h1', _, h4, hp, _, _, v', rfl, rfl, SqL.of ((s0.trans s1) _ _ h1), atN ev', ?_⟩
        have q' : Q' (ws.getD y .non) H8 := q
        rw [M84.getD_some ev'] at q'
        exact q'
      have hb1 := y1.gh _ _ hb
      refine ⟨p, _, rfl, SqT.of (y1.gh _ _ hpp), rfl, _, _, rfl, _, _, rfl, rfl, ?_⟩
      refine ⟨_, rfl, .inl ⟨rfl, _, SqL.of h1⟩, ?_⟩
      refine ⟨_, rfl, b, rfl, ⟨_, SqL.of hb1⟩, fun D hD => lcL (liftV fun x => ws.getD x .non) (fun _ => true) (SqL.of hb1) hD (by rw [iN_len]; exact sz63 s1) (fun _ => rfl) (fun _ _ _ _ _ q => q) (fun x H8 Q' hx _ s1 q => elt _ r.1 H1 (Same.refl H1) rfl v1 x H8 Q' hx rfl s1 q) ?_⟩
      rw [all_in, map_liftV]
      have gD := same_free y1.gh hD
      have nD := y1.free hD
      have y2 := (Ex.rfl' (M := M0) y1.gh).new (o := .lst (r.1.map fun x => ws.getD x .non)) hD
      have gD2 : upd G1 D (.lst (r.1.map fun x => ws.getD x .non)) D = some (.lst (r.1.map fun x => ws.getD x .non)) := upd_same
      generalize upd H1 D (.lst (r.1.map fun x => ws.getD x .non)) = H2 at y2 ⊢
      generalize upd G1 D (.lst (r.1.map fun x => ws.getD x .non)) = G2 at y2 gD2
      have hc2 := y2.gh _ _ (y2.g _ _ hc)
      refine ⟨_, rfl, c, rfl, ⟨_, SqL.of hc2⟩, fun D2 hD2 => lcL (liftV fun x => ws.getD x .non) (fun _ => true) (SqL.of hc2) hD2 (by rw [iN_len]; exact sz63 s2) (fun _ => rfl) (fun _ _ _ _ _ q => q) (fun x H8 Q' hx _ s1 q => elt _ r.2 H2 y2.same rfl v2 x H8 Q' hx rfl s1 q) ?_⟩
      rw [all_in, map_liftV]
      have y3 := y2.new (o := .lst (r.2.map fun x => ws.getD x .non)) hD2
      have gD3 : upd G2 D2 (.lst (r.2.map fun x => ws.getD x .non)) D2 = some (.lst (r.2.map fun x => ws.getD x .non)) := upd_same
      have gD23 := same_upd (o := .lst (r.2.map fun x => ws.getD x .non)) (same_free y2.gh hD2) _ _ gD2
      have sm_n : Sm (M84.joined (r.1.map fun x => N.getD x []) (r.2.map fun x => N.getD x [])) := ⟨by omega, fun q hq => (okn.side q hq).1, fun q hq => (okn.side q hq).2⟩
      refine mk_heap (K := K) (Q := fun v H' => rAppend (V.ref hp) [v] H' fun _ H1 => HV K G H (.ref a) hp (N ++ [M84.joined (r.1.map fun x => N.getD x []) (r.2.map fun x => N.getD x [])]) [some (.ref a), some (.ref hp), some (.ref b), some (.ref c), x4] H1) y3.gh okn.g sm_n (.inr ⟨D, D2, _, _, _, _, rfl, rfl, gD23, gD3, pick r.1 _ y3.g v1, pick r.2 _ y3.g v2, by rw [List.length_map]; exact s1, by rw [List.length_map]; exact s2, rfl⟩) fun G4 H4 v4 y4 hv4 => ?_
      have y34 := y3.trans y4
      have h4 := y34.same _ _ h1
      have g4 := y34.fr hp (by rw [h1]; exact fun z => nomatch z) g1
      refine ⟨hp, ws, _, rfl, rfl, h4, small1000 (by omega), ?_⟩
      exact ⟨G4, ws ++ [v4], ⟨_, _, _, rfl⟩, (y1.trans y34).mut (.inl nhp) g4, upd_same, g4, (rl.mono (hpI_mono K) y34.g).snoc hv4⟩
    · rintro σ H1 ⟨G1, ws, ⟨x2, x3, x4, rfl⟩, y1, h1, g1, rl⟩
      rw [lrv, List.take_length] at rl
      have hlen := hok.1
      have npos := List.length_pos_iff.mpr ne
      have lws : ws.length = R.length := by rw [rl.1, hlen]
      obtain ⟨N, eN⟩ := M84.some_at (l := M84.heapsR R) (i := R.length - 1) (by omega)
      obtain ⟨v1, ev, hh⟩ := rl.get eN
      have eh : M84.heapR R = N := by
        unfold M84.heapR
        rw [List.getLast?_eq_getElem?, hlen, eN] <;> rfl
      have nw : ws ≠ [] := fun z => by rw [z] at lws; simp at lws; omega
      have el : atI ws (-1) = some v1 := by
        have e : ws = ws.dropLast ++ [ws.getLast nw] := (List.dropLast_concat_getLast nw).symm
        have e2 : ws.getLast nw = v1 := by
          have := List.getLast?_eq_getLast nw
          rw [List.getLast?_eq_getElem?, lws, ev] at this
          exact (Option.some.inj this).symm
        rw [e, e2]
        exact atI_last _ _
      refine ⟨_, rfl, 1, rfl, hp, ws, _, v1, rfl, rfl, SqL.of h1, el, ?_⟩
      exact k _ _ _ y1 (by rw [eh]; exact hh)
def spLadder : Sp := fun vs H Q _ => ∃ (G : Hp) (m : Nat), vs = [.int (m : Int)] ∧ Same G H ∧ 1 ≤ m ∧ m ≤ 60 ∧ Ret M0 G H Q (rowsL (M84.ladR m))
def DV (G H : Hp) (m f : Int) (fa : Addr) (n : Nat) (σ : L2.St) (H' : Hp) : Prop := ∃ (G' : Hp) (ws : List V), (∃ x2 x3, σ = [some (.int m), some (.ref fa), x2, x3]) ∧ Ex M0 G H G' H' ∧ H' fa = some (.lst ws) ∧ G' fa = none ∧ DtAll G' ws ((M84.ladR n).map rowL)
theorem rg_lad {k : Nat} (hk : 1 ≤ k) : rgV (if (k : Int) - 2 > 0 then (k : Int) - 2 else 0) (k : Int) = iN (M84.lad k) := by
  unfold rgV M84.lad
  have e : (if (k : Int) - 2 > 0 then (k : Int) - 2 else 0) = ((k - 2 : Nat) : Int) := by
    split <;> omega
  rw [e]
  have e2 : ((k : Int) - ((k - 2 : Nat) : Int)).toNat = k - (k - 2) := by omega
  rw [e2]
  show _ = ((List.range (k - (k - 2))).map fun i => k - 2 + i).map (fun n : Nat => V.int (n : Int))
  rw [List.map_map]
  refine List.map_congr_left fun i _ => ?_
  show V.int (((k - 2 : Nat) : Int) + (i : Int)) = V.int (((k - 2 + i : Nat)) : Int)
  congr 1
theorem sc_law_ladder : FnScope ["_law_many", "_law_found", "_law_k", "_law_some"] ["_law_many"] (defScope s_law_ladder) := ⟨rfl, rfl, rfl, by decide +kernel, rfl, by decide +kernel, by decide +kernel⟩
theorem ok_ladder (T : TX K mg) : DefOk P w K mg base 1 "_law_ladder" ["_law_many"] spLadder := by
  obtain ⟨fd, F⟩ := T.d_law_ladder
  refine ⟨fd, F.ok sc_law_ladder (fun vs H Q E h => ?_) (fun cdv A outer s H vs Q E hr h => ⟨_, PSs.nox (pss_cons (ps_set (i := 1) sc_law_ladder.nd rfl (Or.inl rfl) (pe_lst (pa_cons (pe_tup (pa_cons (pe_lst pa_nil) (pa_cons (pe_lst pa_nil) pa_nil))) pa_nil)))
  (pss_cons (ps_for PassesOwn.never rfl (pi_range2 rfl T.f_range (pa_cons pe_int (pa_cons (pv 0) pa_nil))) (pg_name (i := 2) sc_law_ladder.nd rfl (Or.inl rfl))
    (pss_cons (ps_set (i := 3) sc_law_ladder.nd rfl (Or.inl rfl) (pe_listRg rfl (by rfl) T.f_list (prg_2 (by rfl) T.f_range (pe_callB (call_max2 rfl) (by rfl) T.f_max (by decide +kernel) (pa_cons pe_int (pa_cons (pe_op op_sub (pv 2) pe_int) pa_nil))) (pv 2))))
  (pss_one (ps_expr (pe_bm PySem.F.plainAttrs_list PySem.F.slot_list_append PySem.F.type_list_append mt_append (pv 1) (pa_cons (pe_tup (pa_cons (pv 3) (pa_cons (pv 3) pa_nil))) pa_nil))))))
  (pss_one (ps_ret (pv 1))))), ?_⟩), T.g_law_ladder, F.kp, F.bindsN fun _ _ _ _ _ _ us hl => match us, hl with | [_], _ => rfl⟩
  · obtain ⟨_, m, rfl, _⟩ := h
    rfl
  · obtain ⟨G, m, rfl, e, m1, m2, k⟩ := h
    refine ⟨Nat.zero_le _, fun a ha => ⟨Nat.zero_le _, fun b hb => ⟨by show 2 ≤ sizeLine; decide, fun t ht => ⟨by show 1 ≤ sizeLine; decide, fun f hf => ?_⟩⟩⟩⟩
    have x1 := (Ex.rfl' (M := M0) e).new (o := .lst []) ha
    have x2 := x1.new (o := .lst []) hb
    have x3 := x2.new (o := .tup [.ref a, .ref b]) ht
    have ga : upd G a (.lst []) a = some (.lst (iN [])) := upd_same
    have ga2 := same_upd (o := .lst []) (same_free x1.gh hb) _ _ ga
    have gb2 : upd (upd G a (.lst [])) b (.lst []) b = some (.lst (iN [])) := upd_same
    have gs3 := same_upd (o := HO.tup [V.ref a, V.ref b]) (same_free x2.gh ht)
    have dr : Dt (upd (upd (upd G a (.lst [])) b (.lst [])) t (.tup [.ref a, .ref b])) (.ref t) (rowL ([], [])) := rowL_dt upd_same (gs3 _ _ ga2) (gs3 _ _ gb2)
    show tSeq _ _ _ _ (upd (upd (upd (upd H a (.lst [])) b (.lst [])) t (.tup [.ref a, .ref b])) f (.lst [.ref t]))
    generalize upd (upd (upd G a (.lst [])) b (.lst [])) t (.tup [.ref a, .ref b]) = G3 at x3 dr
    generalize upd (upd (upd H a (.lst [])) b (.lst [])) t (.tup [.ref a, .ref b]) = H3 at x3 hf ⊢
    have nf := x3.free hf
    have x4 := x3.loc (o := .lst [.ref t]) hf
    have hf4 : upd H3 f (.lst [.ref t]) f = some (.lst [.ref t]) := upd_same
    have gf := same_free x3.gh hf
    generalize upd H3 f (.lst [.ref t]) = H4 at x4 hf4 ⊢
    refine ⟨_, rfl, 1, (m : Int), rfl, ⟨by omega, by omega, by omega, by omega⟩, ?_⟩
    have en : ((m : Int) - 1).toNat = m - 1 := by omega
    rw [en]
    refine for_range (fun i => DV G H m 0 f (i + 1)) ⟨G3, _, ⟨_, _, rfl⟩, x4, hf4, gf, .cons dr .nil⟩ ?_ ?_
    · clear dr gs3 gb2 ga2 ga x1 x2 x3 x4 hf4 gf
      rintro i σ H5 hi ⟨G5, ws, ⟨y2, y3, rfl⟩, x5, hf5, gf5, d5⟩
      have lws : ws.length = i + 1 := by rw [dtAll_len d5, List.length_map, M84.ladR_len]
      have ei : (1 : Int) + (i : Nat) = ((i + 1 : Nat) : Int) := by omega
      rw [ei]
      refine ⟨_, rfl, _, _, rfl, rfl, _, _, rfl, ?_⟩
      refine ⟨_, rfl, _, _, rfl, rfl, RgOk.of_le (by split <;> omega) (by omega) (by split <;> omega) (by omega), fun q hq => ?_⟩
      rw [rg_lad (by omega)]
      have x6 := x5.new (o := .lst (iN (M84.lad (i + 1)))) hq
      have gq : upd G5 q (.lst (iN (M84.lad (i + 1)))) q = some (.lst (iN (M84.lad (i + 1)))) := upd_same
      have hf6 := (upd_ne (o := HO.lst (iN (M84.lad (i + 1)))) (ne_of_none hf5 hq)).trans hf5
      have gf6 := (upd_ne (o := HO.lst (iN (M84.lad (i + 1)))) (ne_of_none hf5 hq)).trans gf5
      have d6 := dtAll_mono (same_upd (o := HO.lst (iN (M84.lad (i + 1)))) (same_free x5.gh hq)) d5
      generalize upd H5 q (.lst (iN (M84.lad (i + 1)))) = H6 at x6 hf6 ⊢
      generalize upd G5 q (.lst (iN (M84.lad (i + 1)))) = G6 at x6 gq gf6 d6
      refine ⟨_, rfl, .inl ⟨rfl, _, SqL.of hf6⟩, _, rfl, _, rfl, by show 2 ≤ sizeLine; decide, fun t ht => ?_⟩
      have x7 := x6.new (o := .tup [.ref q, .ref q]) ht
      have hf7 := (upd_ne (o := HO.tup [V.ref q, V.ref q]) (ne_of_none hf6 ht)).trans hf6
      have gf7 := (upd_ne (o := HO.tup [V.ref q, V.ref q]) (ne_of_none hf6 ht)).trans gf6
      have gs7 := same_upd (o := HO.tup [V.ref q, V.ref q]) (same_free x6.gh ht)
      refine ⟨f, ws, _, rfl, rfl, hf7, by rw [lws]; exact small1000 (by omega), ?_⟩
      refine ⟨_, ws ++ [.ref t], ⟨_, _, rfl⟩, x7.mut (.inl nf) gf7, upd_same, gf7, ?_⟩
      rw [M84.ladR_snoc, List.map_append]
      exact dtAll_snoc (dtAll_mono gs7 d6) (rowL_dt (r := (M84.lad (i + 1), M84.lad (i + 1))) upd_same (gs7 _ _ gq) (gs7 _ _ gq))
    · rintro σ H5 ⟨G5, ws, ⟨y2, y3, rfl⟩, x5, hf5, gf5, d5⟩
      have em : m - 1 + 1 = m := by omega
      rw [em] at d5
      exact ⟨_, rfl, k _ _ _ (x5.frz nf hf5 gf5) (.lst upd_same (dtAll_mono (same_upd gf5) d5))⟩
end
end G84

namespace G84
open PySem PySem.Spec PyProof.Rows L2
/-! W23: sums of rows. -/
theorem enum_pair {i : Nat} {H H' : Hp} {x : V} {xs : List V} (h : YPair (fun i => some (.int (i : Nat))) (fun i => xs[i]?) i H x H') : ∃ T z, x = .ref T ∧ H T = none ∧ H' = upd H T (.tup [.int ((i : Nat) : Int), z]) ∧ xs[i]? = some z := by
  obtain ⟨T, y, z, h1, h2, h3, h4, h5⟩ := h
  cases h4
  exact ⟨T, z, h1, h2, h3, h5⟩
section
variable {P : Program} {w : World} {K : PySem.W.Frag} {mg : Str → Option Value} {base : Heap}
def spSummed : Sp := fun vs H Q _ => ∃ (G : Hp) (v u : V) (A B : List Rw), vs = [v, u] ∧ Same G H ∧ Dt G v (rowsL A) ∧ Dt G u (rowsL B) ∧ M84.Val A ∧ M84.Val B ∧ A.length ≤ 10 ∧ B.length ≤ 10 ∧ M84.SideP (· ≤ 2) A ∧ M84.SideP (· ≤ 2) B ∧ Ret M0 G H Q (rowsL (M84.summedR A B))
def SOv (G H : Hp) (a b f : Addr) (A B : List Rw) (n : Nat) (σ : L2.St) (H' : Hp) : Prop := ∃ (G' : Hp) (ws : List V), (∃ x4 x5 x6 x7 x8 x9 x10 x11, σ = [some (.ref a), some (.ref b), some (.ref f), some (.int (B.length : Int)), x4, x5, x6, x7, x8, x9, x10, x11]) ∧ Ex M0 G H G' H' ∧ H' f = some (.lst ws) ∧ G' f = none ∧ DtAll G' ws (((M84.summedR A B).take n).map rowL)
def SIv (G H : Hp) (a b f o t : Addr) (A B : List Rw) (k n : Nat) (σ : L2.St) (H' : Hp) : Prop := ∃ (G' : Hp) (ws : List V), (∃ x7 x8 x9 x10 x11, σ = [some (.ref a), some (.ref b), some (.ref f), some (.int (B.length : Int)), some (.int (k : Int)), some (.ref o), some (.ref t), x7, x8, x9, x10, x11]) ∧ Ex M0 G H G' H' ∧ H' f = some (.lst ws) ∧ G' f = none ∧ DtAll G' ws (((M84.summedR A B).take n).map rowL)
theorem sc_law_summed : FnScope ["_law_one", "_law_other", "_law_found", "_law_many", "_law_k", "_law_ours", "_law_theirs", "_law_j", "_law_mine", "_law_others", "_law_left", "_law_x"] ["_law_one", "_law_other"] (defScope s_law_summed) := ⟨rfl, rfl, rfl, by decide +kernel, rfl, by decide +kernel, by decide +kernel⟩
theorem ok_summed (T : TX K mg) : DefOk P w K mg base 1 "_law_summed" ["_law_one", "_law_other"] spSummed := by
  obtain ⟨fd, F⟩ := T.d_law_summed
  refine ⟨fd, F.ok sc_law_summed (fun vs H Q E h => ?_) (fun cdv A outer s H vs Q E hr h => ⟨_, PSs.nox (pss_cons (ps_asg (pe_tup (pa_cons (pe_lst pa_nil) (pa_cons (pe_callB (lenS K) (by rfl) T.f_len (by decide +kernel) (pa_cons (pv 1) pa_nil)) pa_nil))) (pg_tup rfl (pgs_cons (pg_name (i := 2) sc_law_summed.nd rfl (Or.inl rfl)) (pgs_cons (pg_name (i := 3) sc_law_summed.nd rfl (Or.inr rfl)) pgs_nil))))
  (pss_cons (ps_for PassesOwn.never rfl (pi_enum (by rfl) T.f_enumerate (pa_cons (pv 0) pa_nil)) (pg_tup rfl (pgs_cons (pg_name (i := 4) sc_law_summed.nd rfl (Or.inr rfl)) (pgs_cons (pg_tup rfl (pgs_cons (pg_name (i := 5) sc_law_summed.nd rfl (Or.inl rfl)) (pgs_cons (pg_name (i := 6) sc_law_summed.nd rfl (Or.inl rfl)) pgs_nil))) pgs_nil)))
    (pss_one (ps_for PassesOwn.never rfl (pi_enum (by rfl) T.f_enumerate (pa_cons (pv 1) pa_nil)) (pg_tup rfl (pgs_cons (pg_name (i := 7) sc_law_summed.nd rfl (Or.inr rfl)) (pgs_cons (pg_tup rfl (pgs_cons (pg_name (i := 8) sc_law_summed.nd rfl (Or.inl rfl)) (pgs_cons (pg_name (i := 9) sc_law_summed.nd rfl (Or.inl rfl)) pgs_nil))) pgs_nil)))
    (pss_cons (ps_set (i := 10) sc_law_summed.nd rfl (Or.inl rfl) (pe_op op_cat (pe_lc (own := [("_law_x", 11)]) (g := gName 11) (tt := tYes) rfl sc_law_summed.nd (pi_list (pv 5)) (blkOk_by (own := [("_law_x", 11)]) (N := ["_law_one", "_law_other", "_law_found", "_law_many", "_law_k", "_law_ours", "_law_theirs", "_law_j", "_law_mine", "_law_others", "_law_left", "_law_x"]) (sc := defScope s_law_summed) (by decide +kernel)) (fun _ _ _ _ _ => (pg_name (i := 11) sc_law_summed.nd rfl (Or.inl rfl))) (fun _ _ _ _ _ => pts_nil) (fun _ _ _ _ _ => (pe_op op_add (pe_op op_mul (pv 11) (pv 3)) (pv 7)))) (pe_lc (own := [("_law_x", 11)]) (g := gName 11) (tt := tYes) rfl sc_law_summed.nd (pi_list (pv 8)) (blkOk_by (own := [("_law_x", 11)]) (N := ["_law_one", "_law_other", "_law_found", "_law_many", "_law_k", "_law_ours", "_law_theirs", "_law_j", "_law_mine", "_law_others", "_law_left", "_law_x"]) (sc := defScope s_law_summed) (by decide +kernel)) (fun _ _ _ _ _ => (pg_name (i := 11) sc_law_summed.nd rfl (Or.inl rfl))) (fun _ _ _ _ _ => pts_nil) (fun _ _ _ _ _ => (pe_op op_add (pe_op op_mul (pv 4) (pv 3)) (pv 11))))))
  (pss_one (ps_expr (pe_bm PySem.F.plainAttrs_list PySem.F.slot_list_append PySem.F.type_list_append mt_append (pv 2) (pa_cons (pe_tup (pa_cons (pv 10) (pa_cons (pe_op op_cat (pe_lc (own := [("_law_x", 11)]) (g := gName 11) (tt := tYes) rfl sc_law_summed.nd (pi_list (pv 6)) (blkOk_by (own := [("_law_x", 11)]) (N := ["_law_one", "_law_other", "_law_found", "_law_many", "_law_k", "_law_ours", "_law_theirs", "_law_j", "_law_mine", "_law_others", "_law_left", "_law_x"]) (sc := defScope s_law_summed) (by decide +kernel)) (fun _ _ _ _ _ => (pg_name (i := 11) sc_law_summed.nd rfl (Or.inl rfl))) (fun _ _ _ _ _ => pts_nil) (fun _ _ _ _ _ => (pe_op op_add (pe_op op_mul (pv 11) (pv 3)) (pv 7)))) (pe_lc (own := [("_law_x", 11)]) (g := gName 11) (tt := tYes) rfl sc_law_summed.nd (pi_list (pv 9)) (blkOk_by (own := [("_law_x", 11)]) (N := ["_law_one", "_law_other", "_law_found", "_law_many", "_law_k", "_law_ours", "_law_theirs", "_law_j", "_law_mine", "_law_others", "_law_left", "_law_x"]) (sc := defScope s_law_summed) (by decide +kernel)) (fun _ _ _ _ _ => (pg_name (i := 11) sc_law_summed.nd rfl (Or.inl rfl))) (fun _ _ _ _ _ => pts_nil) (fun _ _ _ _ _ => (pe_op op_add (pe_op op_mul (pv 4) (pv 3)) (pv 11))))) pa_nil))) pa_nil))))))))
  (pss_one (ps_ret (pv 2))))), ?_⟩), T.g_law_summed, F.kp, F.bindsN fun _ _ _ _ _ _ us hl => match us, hl with | [_, _], _ => rfl⟩
  · obtain ⟨_, v, u, _, _, rfl, _⟩ := h
    rfl
  · obtain ⟨G, v, u, A, B, rfl, e, hv, hu, vA, vB, lA, lB, sA, sB, k⟩ := h
    obtain ⟨a, avs, rfl, ha, hda⟩ := dt_lst hv
    obtain ⟨b, bvs, rfl, hb, hdb⟩ := dt_lst hu
    have la : avs.length = A.length := by rw [dtAll_len hda, List.length_map]
    have lb : bvs.length = B.length := by rw [dtAll_len hdb, List.length_map]
    refine ⟨Nat.zero_le _, fun f nf => ?_⟩
    have x1 := (Ex.rfl' (M := M0) e).loc (o := .lst []) nf
    have hf1 : upd H f (.lst []) f = some (.lst []) := upd_same
    have gf := same_free e nf
    generalize upd H f (.lst []) = H1 at x1 hf1 ⊢
    refine ⟨_, rfl, b, bvs, rfl, .inl (SqL.of (x1.gh _ _ hb)), by show 2 ≤ sizeLine; decide, fun t ht => ?_⟩
    rw [lb]
    have x2 := x1.new (o := .tup [.ref f, .int ((B.length : Nat) : Int)]) ht
    have hf2 := (upd_ne (o := HO.tup [V.ref f, V.int ((B.length : Nat) : Int)]) (ne_of_none hf1 ht)).trans hf1
    have gf2 := (upd_ne (o := HO.tup [V.ref f, V.int ((B.length : Nat) : Int)]) (ne_of_none hf1 ht)).trans gf
    refine ⟨t, _, rfl, SqT.of upd_same, rfl, _, _, rfl, _, _, rfl, rfl, ?_⟩
    generalize upd H1 t (.tup [.ref f, .int ((B.length : Nat) : Int)]) = H2 at x2 hf2 ⊢
    generalize upd G t (.tup [.ref f, .int ((B.length : Nat) : Int)]) = G2 at x2 gf2
    have slen := M84.summedR_len A B
    refine ⟨_, rfl, a, _, rfl, SqL.of (x2.gh _ _ (x2.g _ _ ha)), for_it (walk_enum (K := K) (a := a) (xs := avs)) (fun i => SOv G H a b f A B (i * B.length)) ⟨G2, [], ⟨_, _, _, _, _, _, _, _, rfl⟩, x2, hf2, gf2, by rw [Nat.zero_mul, List.take_zero]; exact .nil⟩ (fun i σ H' _ ⟨_, _, _, x, _⟩ => SqL.of (x.gh _ _ (x.g _ _ ha))) ?_ ?_⟩
    · rintro i x σ H3 H4 hi ⟨G3, ws, ⟨z4, z5, z6, z7, z8, z9, z10, z11, rfl⟩, x3, hf3, gf3, d3⟩ y
      obtain ⟨T', z, rfl, hT, rfl, hz⟩ := enum_pair y
      obtain ⟨r, er, hr⟩ := dtAll_map hda hz
      obtain ⟨p, o, th, rfl, hp, ho, hth⟩ := dt_rowL hr
      have hi' := M84.lt_of_some er
      have x4 := x3.loc (o := .tup [.int ((i : Nat) : Int), .ref p]) hT
      have hf4 := (upd_ne (o := HO.tup [V.int ((i : Nat) : Int), V.ref p]) (ne_of_none hf3 hT)).trans hf3
      have hT4 : upd H3 T' (.tup [.int ((i : Nat) : Int), .ref p]) T' = some (.tup [.int ((i : Nat) : Int), .ref p]) := upd_same
      generalize upd H3 T' (.tup [.int ((i : Nat) : Int), .ref p]) = H4 at x4 hf4 hT4 ⊢
      refine ⟨T', _, rfl, SqT.of hT4, rfl, _, _, rfl, _, _, rfl, ⟨p, _, rfl, SqT.of (x4.gh _ _ (x4.g _ _ hp)), rfl, _, _, rfl, _, _, rfl, rfl, rfl, ?_⟩⟩
      refine ⟨_, rfl, b, _, rfl, SqL.of (x4.gh _ _ (x4.g _ _ hb)), for_it (walk_enum (K := K) (a := b) (xs := bvs)) (fun j => SIv G H a b f o th A B i (i * B.length + j)) ⟨G3, ws, ⟨_, _, _, _, _, rfl⟩, x4, hf4, gf3, d3⟩ (fun i σ H' _ ⟨_, _, _, x, _⟩ => SqL.of (x.gh _ _ (x.g _ _ hb))) ?_ ?_⟩
      · rintro j x σ H5 H6 hj ⟨G5, vs, ⟨u7, u8, u9, u10, u11, rfl⟩, x5, hf5, gf5, d5⟩ y
        obtain ⟨T2, z, rfl, hT2, rfl, hz2⟩ := enum_pair y
        obtain ⟨rb, eq, hq⟩ := dtAll_map hdb hz2
        obtain ⟨p2, m, ot, rfl, hp2, hm, hot⟩ := dt_rowL hq
        have hj' := M84.lt_of_some eq
        have x6 := x5.loc (o := .tup [.int ((j : Nat) : Int), .ref p2]) hT2
        have hf6 := (upd_ne (o := HO.tup [V.int ((j : Nat) : Int), V.ref p2]) (ne_of_none hf5 hT2)).trans hf5
        have hT6 : upd H5 T2 (.tup [.int ((j : Nat) : Int), .ref p2]) T2 = some (.tup [.int ((j : Nat) : Int), .ref p2]) := upd_same
        generalize upd H5 T2 (.tup [.int ((j : Nat) : Int), .ref p2]) = H6 at x6 hf6 hT6 ⊢
        have hb10 : ((B.length : Nat) : Int) < 2 ^ 64 := by omega
        have e1 : ∀ (σ : L2.St) (l : List Nat), σ[3]? = some (some (.int (B.length : Int))) → σ[7]? = some (some (.int (j : Int))) → ∀ (x : V) (H8 : Hp) (Q' : VK), x ∈ iN l → σ[11]? = some (some x) → Q' (liftN (fun x => x * B.length + j) x) H8 → (tOp rPl (tOp rMu (tVar 11) (tVar 3)) (tVar 7)) σ H8 Q' := by
          intro σ l h3 h7 x H8 Q' hx h11 q
          obtain ⟨y, hy, rfl⟩ := of_iN_mem hx
          refine ⟨_, h11, _, h3, _, _, rfl, rfl, .inr ⟨by omega, hb10⟩, _, h7, _, _, rfl, rfl, ?_⟩
          have ee : ((y : Int) * (B.length : Int) + (j : Int)) = ((y * B.length + j : Nat) : Int) := by rw [Int.natCast_add, Int.natCast_mul]
          dsimp only
          rw [ee]
          exact q
        have e2 : ∀ (σ : L2.St) (l : List Nat), σ[3]? = some (some (.int (B.length : Int))) → σ[4]? = some (some (.int (i : Int))) → ∀ (x : V) (H8 : Hp) (Q' : VK), x ∈ iN l → σ[11]? = some (some x) → Q' (liftN (fun x => i * B.length + x) x) H8 → (tOp rPl (tOp rMu (tVar 4) (tVar 3)) (tVar 11)) σ H8 Q' := by
          intro σ l h3 h4 x H8 Q' hx h11 q
          obtain ⟨y, hy, rfl⟩ := of_iN_mem hx
          refine ⟨_, h4, _, h3, _, _, rfl, rfl, .inr ⟨by omega, hb10⟩, _, h11, _, _, rfl, rfl, ?_⟩
          have ee : ((i : Int) * (B.length : Int) + (y : Int)) = ((i * B.length + y : Nat) : Int) := by rw [Int.natCast_add, Int.natCast_mul]
          dsimp only
          rw [ee]
          exact q
        obtain ⟨s1, s2⟩ := sA r (List.mem_of_getElem? er)
        obtain ⟨s3, s4⟩ := sB rb (List.mem_of_getElem? eq)
        have catN : ∀ l1 l2 : List Nat, iN l1 ++ iN l2 = iN (l1 ++ l2) := fun l1 l2 => by
          show _ = (l1 ++ l2).map (fun n : Nat => V.int (n : Int))
          rw [List.map_append]
        have z2 : ∀ {n : Nat}, n ≤ 2 → n ≤ sizeLine := fun h => sz63 (by omega)
        refine ⟨T2, _, rfl, SqT.of hT6, rfl, _, _, rfl, _, _, rfl, ⟨p2, _, rfl, SqT.of (x6.gh _ _ (x6.g _ _ hp2)), rfl, _, _, rfl, _, _, rfl, rfl, rfl, ?_⟩⟩
        have ho6 := x6.gh _ _ (x6.g _ _ ho)
        refine ⟨_, rfl, o, rfl, ⟨_, SqL.of ho6⟩, fun D1 hD1 => lcL (liftN fun x => x * B.length + j) (fun _ => true) (SqL.of ho6) hD1 (by rw [iN_len]; exact z2 s1) (fun _ => rfl) (fun _ _ _ _ _ q => q) (fun x H8 Q' hx _ _ q => e1 _ r.1 rfl rfl x H8 Q' hx rfl q) ?_⟩
        rw [all_in, map_liftN]
        have x7 := x6.loc (o := .lst (iN (r.1.map fun x => x * B.length + j))) hD1
        have hD1' : upd H6 D1 (.lst (iN (r.1.map fun x => x * B.length + j))) D1 = some (.lst (iN (r.1.map fun x => x * B.length + j))) := upd_same
        have hf7 := (upd_ne (o := HO.lst (iN (r.1.map fun x => x * B.length + j))) (ne_of_none hf6 hD1)).trans hf6
        generalize upd H6 D1 (.lst (iN (r.1.map fun x => x * B.length + j))) = H7 at x7 hD1' hf7 ⊢
        have hm7 := x7.gh _ _ (x7.g _ _ hm)
        refine ⟨_, rfl, m, rfl, ⟨_, SqL.of hm7⟩, fun D2 hD2 => lcL (liftN fun x => i * B.length + x) (fun _ => true) (SqL.of hm7) hD2 (by rw [iN_len]; exact z2 s3) (fun _ => rfl) (fun _ _ _ _ _ q => q) (fun x H8 Q' hx _ _ q => e2 _ rb.1 rfl rfl x H8 Q' hx rfl q) ?_⟩
        rw [all_in, map_liftN]
        have x8 := x7.loc (o := .lst (iN (rb.1.map fun x => i * B.length + x))) hD2
        have hD2' : upd H7 D2 (.lst (iN (rb.1.map fun x => i * B.length + x))) D2 = some (.lst (iN (rb.1.map fun x => i * B.length + x))) := upd_same
        have hf8 := (upd_ne (o := HO.lst (iN (rb.1.map fun x => i * B.length + x))) (ne_of_none hf7 hD2)).trans hf7
        have hD18 := (upd_ne (o := HO.lst (iN (rb.1.map fun x => i * B.length + x))) (ne_of_none hD1' hD2)).trans hD1'
        generalize upd H7 D2 (.lst (iN (rb.1.map fun x => i * B.length + x))) = H8 at x8 hD2' hf8 hD18 ⊢
        have s1' : (r.1.map fun x => x * B.length + j).length ≤ 2 := by rw [List.length_map]; exact s1
        have s2' : (r.2.map fun x => x * B.length + j).length ≤ 2 := by rw [List.length_map]; exact s2
        have s3' : (rb.1.map fun x => i * B.length + x).length ≤ 2 := by rw [List.length_map]; exact s3
        have s4' : (rb.2.map fun x => i * B.length + x).length ≤ 2 := by rw [List.length_map]; exact s4
        refine ⟨D1, D2, _, _, rfl, rfl, hD18, hD2', by rw [iN_len, iN_len]; exact Nat.le_of_lt (small1000 (by omega)), fun p3 hp3 => ?_⟩
        rw [catN]
        have g3 := same_free x8.gh hp3
        have x9 := x8.new (o := .lst (iN ((r.1.map fun x => x * B.length + j) ++ rb.1.map fun x => i * B.length + x))) hp3
        have gp3 : upd G5 p3 (.lst (iN ((r.1.map fun x => x * B.length + j) ++ rb.1.map fun x => i * B.length + x))) p3 = some (.lst (iN ((r.1.map fun x => x * B.length + j) ++ rb.1.map fun x => i * B.length + x))) := upd_same
        have hf9 := (upd_ne (o := HO.lst (iN ((r.1.map fun x => x * B.length + j) ++ rb.1.map fun x => i * B.length + x))) (ne_of_none hf8 hp3)).trans hf8
        have gf9 := (upd_ne (o := HO.lst (iN ((r.1.map fun x => x * B.length + j) ++ rb.1.map fun x => i * B.length + x))) (ne_of_none hf8 hp3)).trans gf5
        have d9 := dtAll_mono (same_upd (o := HO.lst (iN ((r.1.map fun x => x * B.length + j) ++ rb.1.map fun x => i * B.length + x))) g3) d5
        generalize upd H8 p3 (.lst (iN ((r.1.map fun x => x * B.length + j) ++ rb.1.map fun x => i * B.length + x))) = H9 at x9 hf9 ⊢
        generalize upd G5 p3 (.lst (iN ((r.1.map fun x => x * B.length + j) ++ rb.1.map fun x => i * B.length + x))) = G9 at x9 gp3 gf9 d9
        have hth9 := x9.gh _ _ (x9.g _ _ hth)
        refine ⟨_, rfl, .inl ⟨rfl, _, SqL.of hf9⟩, _, rfl, ?_⟩
        refine ⟨_, rfl, th, rfl, ⟨_, SqL.of hth9⟩, fun D3 hD3 => lcL (liftN fun x => x * B.length + j) (fun _ => true) (SqL.of hth9) hD3 (by rw [iN_len]; exact z2 s2) (fun _ => rfl) (fun _ _ _ _ _ q => q) (fun x H8 Q' hx _ _ q => e1 _ r.2 rfl rfl x H8 Q' hx rfl q) ?_⟩
        rw [all_in, map_liftN]
        have x10 := x9.loc (o := .lst (iN (r.2.map fun x => x * B.length + j))) hD3
        have hD3' : upd H9 D3 (.lst (iN (r.2.map fun x => x * B.length + j))) D3 = some (.lst (iN (r.2.map fun x => x * B.length + j))) := upd_same
        have hf10 := (upd_ne (o := HO.lst (iN (r.2.map fun x => x * B.length + j))) (ne_of_none hf9 hD3)).trans hf9
        generalize upd H9 D3 (.lst (iN (r.2.map fun x => x * B.length + j))) = H10 at x10 hD3' hf10 ⊢
        have hot10 := x10.gh _ _ (x10.g _ _ hot)
        refine ⟨_, rfl, ot, rfl, ⟨_, SqL.of hot10⟩, fun D4 hD4 => lcL (liftN fun x => i * B.length + x) (fun _ => true) (SqL.of hot10) hD4 (by rw [iN_len]; exact z2 s4) (fun _ => rfl) (fun _ _ _ _ _ q => q) (fun x H8 Q' hx _ _ q => e2 _ rb.2 rfl rfl x H8 Q' hx rfl q) ?_⟩
        rw [all_in, map_liftN]
        have x11 := x10.loc (o := .lst (iN (rb.2.map fun x => i * B.length + x))) hD4
        have hD4' : upd H10 D4 (.lst (iN (rb.2.map fun x => i * B.length + x))) D4 = some (.lst (iN (rb.2.map fun x => i * B.length + x))) := upd_same
        have hf11 := (upd_ne (o := HO.lst (iN (rb.2.map fun x => i * B.length + x))) (ne_of_none hf10 hD4)).trans hf10
        have hD311 := (upd_ne (o := HO.lst (iN (rb.2.map fun x => i * B.length + x))) (ne_of_none hD3' hD4)).trans hD3'
        generalize upd H10 D4 (.lst (iN (rb.2.map fun x => i * B.length + x))) = H11 at x11 hD4' hf11 hD311 ⊢
        refine ⟨D3, D4, _, _, rfl, rfl, hD311, hD4', by rw [iN_len, iN_len]; exact Nat.le_of_lt (small1000 (by omega)), fun p4 hp4 => ?_⟩
        rw [catN]
        have g4 := same_free x11.gh hp4
        have x12 := x11.new (o := .lst (iN ((r.2.map fun x => x * B.length + j) ++ rb.2.map fun x => i * B.length + x))) hp4
        have gp4 : upd G9 p4 (.lst (iN ((r.2.map fun x => x * B.length + j) ++ rb.2.map fun x => i * B.length + x))) p4 = some (.lst (iN ((r.2.map fun x => x * B.length + j) ++ rb.2.map fun x => i * B.length + x))) := upd_same
        have gu4 := same_upd (o := HO.lst (iN ((r.2.map fun x => x * B.length + j) ++ rb.2.map fun x => i * B.length + x))) g4
        have hf12 := (upd_ne (o := HO.lst (iN ((r.2.map fun x => x * B.length + j) ++ rb.2.map fun x => i * B.length + x))) (ne_of_none hf11 hp4)).trans hf11
        have gf12 := (upd_ne (o := HO.lst (iN ((r.2.map fun x => x * B.length + j) ++ rb.2.map fun x => i * B.length + x))) (ne_of_none hf11 hp4)).trans gf9
        have gp34 := gu4 _ _ gp3
        have d12 := dtAll_mono gu4 d9
        generalize upd H11 p4 (.lst (iN ((r.2.map fun x => x * B.length + j) ++ rb.2.map fun x => i * B.length + x))) = H12 at x12 hf12 ⊢
        generalize upd G9 p4 (.lst (iN ((r.2.map fun x => x * B.length + j) ++ rb.2.map fun x => i * B.length + x))) = G12 at x12 gp4 gf12 gp34 d12
        refine ⟨by show 2 ≤ sizeLine; decide, fun p5 hp5 => ?_⟩
        have x13 := x12.new (o := .tup [.ref p3, .ref p4]) hp5
        have gu5 := same_upd (o := HO.tup [V.ref p3, V.ref p4]) (same_free x12.gh hp5)
        have hf13 := (upd_ne (o := HO.tup [V.ref p3, V.ref p4]) (ne_of_none hf12 hp5)).trans hf12
        have gf13 := (upd_ne (o := HO.tup [V.ref p3, V.ref p4]) (ne_of_none hf12 hp5)).trans gf12
        have lvs : vs.length ≤ 200 := by
          rw [dtAll_len d5, List.length_map, List.length_take, slen]
          have := Nat.mul_le_mul lA lB
          omega
        refine ⟨f, vs, _, rfl, rfl, hf13, small1000 (by omega), ?_⟩
        refine ⟨_, vs ++ [.ref p5], ⟨_, _, _, _, _, rfl⟩, x13.mut (.inl nf) gf13, upd_same, gf13, ?_⟩
        have eidx : (M84.summedR A B)[i * B.length + j]? = some ((r.1.map fun x => x * B.length + j) ++ rb.1.map (fun x => i * B.length + x), (r.2.map fun x => x * B.length + j) ++ rb.2.map fun x => i * B.length + x) := by
          have hlt : i * B.length + j < A.length * B.length := by
            have h3 : i + 1 ≤ A.length := hi'
            have h4 := Nat.mul_le_mul_right B.length h3
            rw [Nat.add_mul, Nat.one_mul] at h4
            omega
          have hB : 0 < B.length := by omega
          have ed : (i * B.length + j) / B.length = i := by rw [Nat.mul_comm, Nat.mul_add_div hB, Nat.div_eq_of_lt hj', Nat.add_zero]
          have em : (i * B.length + j) % B.length = j := by rw [Nat.mul_comm, Nat.mul_add_mod, Nat.mod_eq_of_lt hj']
          unfold M84.summedR
          rw [List.getElem?_map, List.getElem?_range hlt]
          show some (M84.sumN A B (i * B.length + j)) = _
          unfold M84.sumN M84.sumRow M84.row
          rw [ed, em, M84.getD_some er, M84.getD_some eq]
        have etk : (M84.summedR A B).take (i * B.length + (j + 1)) = (M84.summedR A B).take (i * B.length + j) ++ [((r.1.map fun x => x * B.length + j) ++ rb.1.map (fun x => i * B.length + x), (r.2.map fun x => x * B.length + j) ++ rb.2.map fun x => i * B.length + x)] := by
          rw [← Nat.add_assoc]; exact take_snoc eidx
        rw [etk, List.map_append]
        exact dtAll_snoc (dtAll_mono gu5 d12) (rowL_dt upd_same (gu5 _ _ gp34) (gu5 _ _ gp4))
      · rintro σ H5 ⟨G5, vs, ⟨u7, u8, u9, u10, u11, rfl⟩, x5, hf5, gf5, d5⟩
        have e0 : i * B.length + bvs.length = (i + 1) * B.length := by rw [lb, Nat.add_mul, Nat.one_mul]
        rw [e0] at d5
        exact ⟨G5, vs, ⟨_, _, _, _, _, _, _, _, rfl⟩, x5, hf5, gf5, d5⟩
    · rintro σ H3 ⟨G3, ws, ⟨z4, z5, z6, z7, z8, z9, z10, z11, rfl⟩, x3, hf3, gf3, d3⟩
      rw [la, List.take_of_length_le (by rw [slen]; exact Nat.le_refl _)] at d3
      exact ⟨_, rfl, k _ _ _ (x3.frz nf hf3 gf3) (.lst upd_same (dtAll_mono (same_upd gf3) d3))⟩
end
end G84

namespace G84
open PySem PySem.Spec PyProof.Rows L2
/-! W24: the law's orders. -/
section
variable {K : PySem.W.Frag} {i : Nat} {te ta : TE} {vs : List Nat} {σ : L2.St} {H1 : Hp} {Q : VK}
/-- [h x for x in l], answers -/
theorem any_core {l : List Nat} {o D : Addr} {Qd : Hp → Prop} (h : Nat → Bool) (ho : H1 o = some (.lst (iN l))) (hD : H1 D = none) (hl : l.length ≤ 1000) (hw : ∀ x, wipe ((wipe σ vs).set i (some x)) vs = wipe σ vs)
    (el : ∀ x ∈ l, ∀ H8 Q', Same H1 H8 → Q' (.bl (h x)) H8 → te ((wipe σ vs).set i (some (.int (x : Int)))) H8 Q') (q : ∀ H', Same H1 H' → H' D = some (.lst ((l.map h).map V.bl)) → Qd H') :
    ∃ W : Nat → Nat → Hp → Prop, (∃ m, W 0 m (upd H1 D (.lst []))) ∧ ∀ j m H, W j m H →
      ((Itl K o).stop j H ∧ Qd H) ∨ ((Itl K o).go j H ∧ ∃ Nx : Hp → Prop, (∀ H', Nx H' → ∃ m', m' < m ∧ W (j + 1) m' H') ∧ ∀ x H', (Itl K o).yld j H x H' → gName i x (wipe σ vs) H' fun σ2 H2 => wipe σ2 vs = wipe σ vs ∧ tYes σ2 H2 fun b H3 =>
        if b = true then te σ2 H3 fun y H4 => ∃ acc, H4 D = some (.lst acc) ∧ acc.length < sizeLine ∧ Nx (upd H4 D (.lst (acc ++ [y]))) else Nx H3) := by
  refine lcL (liftV fun x => V.bl (h x)) (fun _ => true) (SqL.of ho) hD (by rw [iN_len]; exact Nat.le_of_lt (small1000 hl)) hw (fun _ _ _ _ _ q => q) (fun x H8 Q' hx _ s1 q => ?_) ?_
  · obtain ⟨y, hy, rfl⟩ := of_iN_mem hx
    exact el y hy H8 Q' s1 q
  · rw [all_in, map_liftV]
    have e : (l.map fun x => V.bl (h x)) = (l.map h).map V.bl := by rw [List.map_map] <;> rfl
    rw [e]
    exact q _ (fun b o e => by rw [upd_ne (ne_of_none e hD)]; exact e) upd_same
/-- L[u][w] of a list of lists -/
theorem rd2 {a b c : Nat} {L c0 : Addr} {u w : Nat} {cs : List Addr} {xs : List V} {v : V} (h1 : σ[a]? = some (some (.ref L))) (h2 : σ[b]? = some (some (.int (u : Int)))) (h3 : σ[c]? = some (some (.int (w : Int)))) (hL : H1 L = some (.lst (cs.map V.ref))) (hc : cs[u]? = some c0) (hr : H1 c0 = some (.lst xs)) (hx : xs[w]? = some v) (q : Q v H1) :
    (tOp (rIxL K) (tOp (rIxL K) (tVar a) (tVar b)) (tVar c)) σ H1 Q :=
  ⟨_, h1, _, h2, L, _, _, _, rfl, rfl, SqL.of hL, atN (x := V.ref c0) (by rw [List.getElem?_map, hc]; exact rfl), _, h3, c0, xs, _, v, rfl, rfl, SqL.of hr, atN hx, q⟩
end
theorem seq_asg {te : TE} {g : TG} {b : TS} {D : Ends} {σ : L2.St} {H : Hp} (h : te σ H fun x H1 => g x σ H1 (b D)) : tSeq (tAsg te g) b D σ H := h
theorem nn_core {ta tb : TE} {c1 c2 : Bool} {σ : L2.St} {H1 : Hp} {Q : VK} (h1 : ∀ Q' : VK, (∀ H', Same H1 H' → Q' (.bl c1) H') → ta σ H1 Q') (h2 : ∀ H' (Q' : VK), Same H1 H' → (∀ H'', Same H' H'' → Q' (.bl c2) H'') → tb σ H' Q') (q : ∀ H', Same H1 H' → Q (.bl (!c1 && !c2)) H') : tAndV (tNotV ta) (tNotV tb) σ H1 Q := by
  refine h1 _ fun H' s => ⟨c1, rfl, !c1, rfl, ?_⟩
  cases c1 with
  | true => exact iteF (q H' s)
  | false => exact iteT (h2 H' _ s fun H'' s' => ⟨c2, rfl, q H'' (s.trans s')⟩)
theorem ixN_lt {n j : Nat} (h : j < n) : ixN n (j : Int) = some j := by
  unfold ixN
  rw [if_pos (by omega), if_pos (by omega)]
  congr 1
theorem rg_at {α : Type} {n x : Nat} (h : Nat → α) (hx : x < n) : ((List.range n).map h)[x]? = some (h x) := by
  rw [List.getElem?_map, List.getElem?_range hx] <;> rfl
/-- many cells of one's own are left to stay -/
def frzG (G H : Hp) (as : List Addr) : Hp := fun b => if b ∈ as then H b else G b
theorem frzG_in {G H : Hp} {as : List Addr} {a : Addr} (h : a ∈ as) : frzG G H as a = H a := if_pos h
theorem Ex.frzL {M : Addr → Prop} {G H G' H' : Hp} (x : Ex M G H G' H') (as : List Addr) (h1 : ∀ a ∈ as, H a = none) (h2 : ∀ a ∈ as, G' a = none) : Ex M G H (frzG G' H' as) H' := by
  refine ⟨x.s, fun b u e => ?_, fun b u e => ?_, fun b hb g => ?_, x.al⟩
  · have e' := x.g b u e
    have : b ∉ as := fun m => by rw [h2 b m] at e'; cases e'
    unfold frzG
    rw [if_neg this]; exact e'
  · unfold frzG at e
    split at e
    · exact e
    · exact x.gh b u e
  · have : b ∉ as := fun m => hb (h1 b m)
    unfold frzG
    rw [if_neg this]; exact x.fr b hb g
/-- while the tables are filled -/
structure OI (G H : Hp) (al bl : Addr) (as bs : List Addr) (n m : Nat) (f g : Nat → Nat → Bool) (H' : Hp) : Prop where
  e : Same G H
  x : Ex M0 G H G H'
  a : H' al = some (.lst (as.map V.ref))
  b : H' bl = some (.lst (bs.map V.ref))
  la : as.length = n
  lb : bs.length = m
  ra : ∀ (k : Nat) c, as[k]? = some c → H' c = some (.lst ((List.range m).map fun j => V.bl (f k j)))
  rb : ∀ (j : Nat) c, bs[j]? = some c → H' c = some (.lst ((List.range n).map fun k => V.bl (g j k)))
  nd : (al :: bl :: (as ++ bs)).Nodup
  fr : ∀ c ∈ al :: bl :: (as ++ bs), H c = none
section
variable {G H H' H'' : Hp} {al bl : Addr} {as bs : List Addr} {n m : Nat} {f g : Nat → Nat → Bool}
theorem OI.keep (O : OI G H al bl as bs n m f g H') (s : Same H' H'') : OI G H al bl as bs n m f g H'' :=
  ⟨O.e, O.x.trans (Ex.of_same O.x.gh s), s _ _ O.a, s _ _ O.b, O.la, O.lb, fun k c e => s _ _ (O.ra k c e), fun k c e => s _ _ (O.rb k c e), O.nd, O.fr⟩
theorem OI.congr (O : OI G H al bl as bs n m f g H') {f' g' : Nat → Nat → Bool} (hf : ∀ k j, k < n → j < m → f k j = f' k j) (hg : ∀ j k, j < m → k < n → g j k = g' j k) : OI G H al bl as bs n m f' g' H' := by
  refine ⟨O.e, O.x, O.a, O.b, O.la, O.lb, fun k c e => ?_, fun j c e => ?_, O.nd, O.fr⟩
  · rw [O.ra k c e]
    have hk := M84.lt_of_some e
    rw [O.la] at hk
    exact congrArg (fun z => some (HO.lst z)) (List.map_congr_left fun j hj => by rw [hf k j hk (List.mem_range.mp hj)])
  · rw [O.rb j c e]
    have hj := M84.lt_of_some e
    rw [O.lb] at hj
    exact congrArg (fun z => some (HO.lst z)) (List.map_congr_left fun k hk => by rw [hg j k hj (List.mem_range.mp hk)])
theorem set_range {α : Type} {n j : Nat} (h : Nat → α) (v : α) : ((List.range n).map h).set j v = (List.range n).map fun x => if x = j then v else h x := by
  refine List.ext_getElem? fun i => ?_
  rw [List.getElem?_set]
  by_cases hi : i < n
  · rw [List.getElem?_map, List.getElem?_map, List.getElem?_range hi]
    by_cases e : j = i
    · subst e
      rw [if_pos rfl, if_pos (by rw [List.length_map, List.length_range]; exact hi)]
      simp
    · rw [if_neg e]
      have : ¬ i = j := fun z => e z.symm
      simp [this]
  · have h1 : (List.range n)[i]? = none := List.getElem?_eq_none (by rw [List.length_range]; omega)
    rw [List.getElem?_map, List.getElem?_map, h1]
    by_cases e : j = i
    · subst e
      rw [if_pos rfl, if_neg (by rw [List.length_map, List.length_range]; exact hi)] <;> rfl
    · rw [if_neg e] <;> rfl
theorem OI.setA (O : OI G H al bl as bs n m f g H') {k j : Nat} {c : Addr} (hc : as[k]? = some c) (v : Bool) : OI G H al bl as bs n m (fun k' j' => if k' = k ∧ j' = j then v else f k' j') g (upd H' c (.lst (((List.range m).map fun j => V.bl (f k j)).set j (.bl v)))) := by
  have hm : c ∈ as := List.mem_of_getElem? hc
  have nd := List.nodup_cons.mp O.nd
  have nd2 := List.nodup_cons.mp nd.2
  have nd3 := List.nodup_append.mp nd2.2
  have n1 : al ≠ c := fun z => nd.1 (List.mem_cons_of_mem _ (List.mem_append.mpr (.inl (by rw [z]; exact hm))))
  have n2 : bl ≠ c := fun z => nd2.1 (List.mem_append.mpr (.inl (by rw [z]; exact hm)))
  have hH : H c = none := O.fr c (List.mem_cons_of_mem _ (List.mem_cons_of_mem _ (List.mem_append.mpr (.inl hm))))
  have gc : G c = none := same_free O.e hH
  refine ⟨O.e, O.x.mut (.inl hH) gc, (upd_ne n1).trans O.a, (upd_ne n2).trans O.b, O.la, O.lb, fun k' c' e => ?_, fun j' c' e => ?_, O.nd, O.fr⟩
  · by_cases hk : k' = k
    · subst hk
      rw [hc] at e
      have := Option.some.inj e
      subst this
      rw [upd_same, set_range]
      refine congrArg (fun z => some (HO.lst z)) (List.map_congr_left fun x _ => ?_)
      by_cases hx : x = j
      · rw [if_pos hx, if_pos ⟨rfl, hx⟩]
      · rw [if_neg hx, if_neg (fun z => hx z.2)]
    · have hne : c' ≠ c := fun z => hk (M84.nodup_at nd3.1 e (by rw [z]; exact hc))
      rw [upd_ne hne, O.ra k' c' e]
      refine congrArg (fun z => some (HO.lst z)) (List.map_congr_left fun x _ => ?_)
      rw [if_neg (fun z => hk z.1)]
  · have hne : c' ≠ c := fun z => nd3.2.2 c hm c' (List.mem_of_getElem? e) z.symm
    rw [upd_ne hne, O.rb j' c' e]
theorem OI.setB (O : OI G H al bl as bs n m f g H') {k j : Nat} {c : Addr} (hc : bs[j]? = some c) (v : Bool) : OI G H al bl as bs n m f (fun j' k' => if j' = j ∧ k' = k then v else g j' k') (upd H' c (.lst (((List.range n).map fun k => V.bl (g j k)).set k (.bl v)))) := by
  have hm : c ∈ bs := List.mem_of_getElem? hc
  have nd := List.nodup_cons.mp O.nd
  have nd2 := List.nodup_cons.mp nd.2
  have nd3 := List.nodup_append.mp nd2.2
  have n1 : al ≠ c := fun z => nd.1 (List.mem_cons_of_mem _ (List.mem_append.mpr (.inr (by rw [z]; exact hm))))
  have n2 : bl ≠ c := fun z => nd2.1 (List.mem_append.mpr (.inr (by rw [z]; exact hm)))
  have hH : H c = none := O.fr c (List.mem_cons_of_mem _ (List.mem_cons_of_mem _ (List.mem_append.mpr (.inr hm))))
  have gc : G c = none := same_free O.e hH
  refine ⟨O.e, O.x.mut (.inl hH) gc, (upd_ne n1).trans O.a, (upd_ne n2).trans O.b, O.la, O.lb, fun k' c' e => ?_, fun j' c' e => ?_, O.nd, O.fr⟩
  · have hne : c' ≠ c := fun z => nd3.2.2 c' (List.mem_of_getElem? e) c hm z
    rw [upd_ne hne, O.ra k' c' e]
  · by_cases hk : j' = j
    · subst hk
      rw [hc] at e
      have := Option.some.inj e
      subst this
      rw [upd_same, set_range]
      refine congrArg (fun z => some (HO.lst z)) (List.map_congr_left fun x _ => ?_)
      by_cases hx : x = k
      · rw [if_pos hx, if_pos ⟨rfl, hx⟩]
      · rw [if_neg hx, if_neg (fun z => hx z.2)]
    · have hne : c' ≠ c := fun z => hk (M84.nodup_at nd3.2.1 e (by rw [z]; exact hc))
      rw [upd_ne hne, O.rb j' c' e]
      refine congrArg (fun z => some (HO.lst z)) (List.map_congr_left fun x _ => ?_)
      rw [if_neg (fun z => hk z.1)]
end
theorem rep_false (n : Nat) : (List.replicate n [V.bl false]).flatten = (List.range n).map fun _ => V.bl false := by
  induction n with
  | zero => rfl
  | succ n ih => rw [List.replicate_succ, List.flatten_cons, ih, List.range_succ_eq_map, List.map_cons, List.map_map] <;> rfl
section
variable {K : PySem.W.Frag} {i p q : Nat} {vs : List Nat} {σ : L2.St} {G H1 : Hp} {Q : VK} {a o : Addr} {xs ys : List V}
/-- [[False] * len(ys) for _ in xs] -/
theorem tab_lst {D : Addr} {Qd : Hp → Prop} (e : Same G H1) (hD : H1 D = none) (ha : H1 a = some (.lst xs)) (ho : H1 o = some (.lst ys)) (hq : ∀ x, ((wipe σ vs).set i (some x))[q]? = some (some (.ref o))) (hw : ∀ x, wipe ((wipe σ vs).set i (some x)) vs = wipe σ vs) (lx : xs.length ≤ 1000) (ly : ys.length ≤ 1000)
    (k : ∀ (cs : List Addr) H', cs.length = xs.length → Ex M0 G H1 G H' → (D :: cs).Nodup → (∀ c ∈ D :: cs, H1 c = none) → H' D = some (.lst (cs.map V.ref)) → (∀ c ∈ cs, H' c = some (.lst ((List.range ys.length).map fun _ => V.bl false))) → Qd H') :
    ∃ W : Nat → Nat → Hp → Prop, (∃ m, W 0 m (upd H1 D (.lst []))) ∧ ∀ j m H, W j m H →
      ((Itl K a).stop j H ∧ Qd H) ∨ ((Itl K a).go j H ∧ ∃ Nx : Hp → Prop, (∀ H', Nx H' → ∃ m', m' < m ∧ W (j + 1) m' H') ∧ ∀ x H', (Itl K a).yld j H x H' → gName i x (wipe σ vs) H' fun σ2 H2 => wipe σ2 vs = wipe σ vs ∧ tYes σ2 H2 fun b H3 =>
        if b = true then (tOp rRep (tLst (tCons (tC (.bl false)) tNil)) (tCB (fun xs H Q => ∃ p ys, xs = [V.ref p] ∧ (SqL K H p ys ∨ SqT K H p ys) ∧ Q (V.int ys.length) H) (tCons (tVar q) tNil))) σ2 H3 fun y H4 => ∃ acc, H4 D = some (.lst acc) ∧ acc.length < sizeLine ∧ Nx (upd H4 D (.lst (acc ++ [y]))) else Nx H3) := by
  refine lc_it (walk_list (K := K) (a := a) (xs := xs)) (fun j H' => ∃ cs : List Addr, cs.length = j ∧ Ex M0 G H1 G H' ∧ (D :: cs).Nodup ∧ (∀ c ∈ D :: cs, H1 c = none) ∧ H' D = some (.lst (cs.map V.ref)) ∧ ∀ c ∈ cs, H' c = some (.lst ((List.range ys.length).map fun _ => V.bl false)))
    ⟨[], rfl, (Ex.rfl' e).loc hD, by simp, fun c hc => by
      have : c = D := by simpa using hc
      rw [this]; exact hD, upd_same, fun c hc => (nomatch hc)⟩ (fun j H' _ ⟨_, _, x, _⟩ => SqL.of (x.same _ _ ha)) ?_ (fun H' ⟨cs, h1, h2, h3, h4, h5, h6⟩ => k cs H' h1 h2 h3 h4 h5 h6)
  rintro j x H2 H3 hj ⟨cs, lc, x2, nd, fr, hD2, hc2⟩ ⟨rfl, ex⟩
  refine ⟨hw x, ?_⟩
  unfold tYes
  simp only [↓reduceIte]
  refine ⟨by show 1 ≤ sizeLine; decide, fun p1 hp1 => ?_⟩
  have x3 := x2.loc (o := .lst [.bl false]) hp1
  have hp1' : upd H3 p1 (.lst [.bl false]) p1 = some (.lst [.bl false]) := upd_same
  have kp : ∀ {b : Addr} {u : HO}, H3 b = some u → upd H3 p1 (.lst [.bl false]) b = some u := fun h => (upd_ne (ne_of_none h hp1)).trans h
  have hD3 := kp hD2
  have hc3 : ∀ c ∈ cs, upd H3 p1 (.lst [.bl false]) c = _ := fun c hc => kp (hc2 c hc)
  generalize upd H3 p1 (.lst [.bl false]) = H4 at x3 hp1' hD3 hc3 ⊢
  refine ⟨_, hq x, o, ys, rfl, .inl (SqL.of (x3.same _ _ ho)), p1, _, _, rfl, rfl, hp1', by omega, by omega, by rw [Int.toNat_natCast]; show 1 * ys.length ≤ sizeLine; rw [Nat.one_mul]; exact Nat.le_of_lt (small1000 ly), fun p2 hp2 => ?_⟩
  rw [Int.toNat_natCast, rep_false]
  have x4 := x3.loc (o := .lst ((List.range ys.length).map fun _ => V.bl false)) hp2
  have hp2' : upd H4 p2 (.lst ((List.range ys.length).map fun _ => V.bl false)) p2 = some (.lst ((List.range ys.length).map fun _ => V.bl false)) := upd_same
  have nD2 : D ≠ p2 := ne_of_none hD3 hp2
  have hD4 : upd H4 p2 (.lst ((List.range ys.length).map fun _ => V.bl false)) D = _ := (upd_ne nD2).trans hD3
  have hc4 : ∀ c ∈ cs, upd H4 p2 (.lst ((List.range ys.length).map fun _ => V.bl false)) c = _ := fun c hc => (upd_ne (ne_of_none (hc3 c hc) hp2)).trans (hc3 c hc)
  have np2 := x3.free hp2
  have ncs : p2 ∉ cs := fun m => by rw [hc3 p2 m] at hp2; cases hp2
  generalize upd H4 p2 (.lst ((List.range ys.length).map fun _ => V.bl false)) = H5 at x4 hp2' hD4 hc4 ⊢
  refine ⟨_, hD4, by rw [List.length_map]; exact small1000 (by omega), cs ++ [p2], by rw [List.length_append, lc] <;> rfl, x4.mut (.inl hD) (same_free e hD), ?_, fun c hc => ?_, ?_, fun c hc => ?_⟩
  · have nd' := List.nodup_cons.mp nd
    refine List.nodup_cons.mpr ⟨fun m => ?_, M84.nodup_snoc nd'.2 ncs⟩
    rcases List.mem_append.mp m with m | m
    · exact nd'.1 m
    · exact nD2 (by simpa using m)
  · rcases List.mem_cons.mp hc with hc | hc
    · rw [hc]; exact hD
    · rcases List.mem_append.mp hc with hc | hc
      · exact fr c (List.mem_cons_of_mem _ hc)
      · have : c = p2 := by simpa using hc
        rw [this]; exact np2
  · rw [upd_same, List.map_append] <;> rfl
  · have hne : c ≠ D := by
      rcases List.mem_append.mp hc with hc | hc
      · exact fun z => (List.nodup_cons.mp nd).1 (by rw [← z]; exact hc)
      · have : c = p2 := by simpa using hc
        rw [this]; exact nD2.symm
    rw [upd_ne hne]
    rcases List.mem_append.mp hc with hc | hc
    · exact hc4 c hc
    · have : c = p2 := by simpa using hc
      rw [this]; exact hp2'
end
/-- after t steps -/
noncomputable def fA (A B : List Rw) (t : Nat) (k j : Nat) : Bool := decide (k * B.length + j < t) && M84.geb (M84.tr A k) (M84.tr B j)
noncomputable def fB (A B : List Rw) (t : Nat) (j k : Nat) : Bool := decide (k * B.length + j < t) && M84.geb (M84.tr B j) (M84.tr A k)
theorem dtAll_bl {G : Hp} : ∀ bs : List Bool, DtAll G (bs.map V.bl) (bs.map PyData.bool)
  | [] => .nil
  | b :: bs => .cons (.bl b) (dtAll_bl bs)
def tabD (t : List (List Bool)) : PyData := .list (t.map fun r => .list (r.map .bool))
theorem tab_dt {G : Hp} {al : Addr} {as : List Addr} {A B : List Rw} (ha : G al = some (.lst (as.map V.ref))) (la : as.length = A.length) (hr : ∀ (k : Nat) c, as[k]? = some c → G c = some (.lst ((List.range B.length).map fun j => V.bl (M84.geb (M84.tr A k) (M84.tr B j))))) : Dt G (.ref al) (tabD (M84.abv A B)) := by
  refine .lst ha (RL.dtAll (enc := fun r : List Bool => PyData.list (r.map PyData.bool)) ⟨by unfold M84.abv; rw [List.length_map, List.length_map, List.length_range, la], fun k v r hv hr' => ?_⟩)
  rw [List.getElem?_map] at hv
  obtain ⟨c, hc, rfl⟩ := Option.map_eq_some_iff.mp hv
  have hk := M84.lt_of_some hc
  rw [la] at hk
  unfold M84.abv at hr'
  rw [rg_at _ hk] at hr'
  have e := Option.some.inj hr'
  subst e
  refine .lst (hr k c hc) ?_
  have e2 : ((List.range B.length).map fun j => V.bl (M84.geb (M84.tr A k) (M84.tr B j))) = ((List.range B.length).map fun j => M84.geb (M84.tr A k) (M84.tr B j)).map V.bl := by rw [List.map_map] <;> rfl
  rw [e2]
  exact dtAll_bl _
section
variable {P : Program} {w : World} {K : PySem.W.Frag} {mg : Str → Option Value} {base : Heap}
def spOrders : Sp := fun vs H Q _ => ∃ (G : Hp) (v u : V) (A B : List Rw), vs = [v, u] ∧ Same G H ∧ Dt G v (rowsL A) ∧ Dt G u (rowsL B) ∧ M84.Val A ∧ M84.Val B ∧ A.length ≤ 60 ∧ B.length ≤ 60 ∧ M84.SideP (· < 64) A ∧ M84.SideP (· < 64) B ∧ Ret M0 G H Q (.tuple [tabD (M84.abv A B), tabD (M84.abv B A)])
def OO (G H : Hp) (a b al bl : Addr) (as bs : List Addr) (A B : List Rw) (t : Nat) (σ : L2.St) (H' : Hp) : Prop := (∃ x4 x5 x6 x7 x8 x9 x10 x11 x12 x13, σ = [some (.ref a), some (.ref b), some (.ref al), some (.ref bl), x4, x5, x6, x7, x8, x9, x10, x11, x12, x13]) ∧ OI G H al bl as bs A.length B.length (fA A B t) (fB A B t) H'
def OJ (G H : Hp) (a b al bl o th : Addr) (as bs : List Addr) (A B : List Rw) (k t : Nat) (σ : L2.St) (H' : Hp) : Prop := (∃ x7 x8 x9 x10 x11 x12 x13, σ = [some (.ref a), some (.ref b), some (.ref al), some (.ref bl), some (.int (k : Int)), some (.ref o), some (.ref th), x7, x8, x9, x10, x11, x12, x13]) ∧ OI G H al bl as bs A.length B.length (fA A B t) (fB A B t) H'
theorem sc_law_orders : FnScope ["_law_one", "_law_other", "_law_above", "_law_below", "_law_k", "_law_ours", "_law_theirs", "_law_j", "_law_mine", "_law_others", "_law_is_above", "_law_is_below", "_law_row", "_law_x"] ["_law_one", "_law_other"] (defScope s_law_orders) := ⟨rfl, rfl, rfl, by decide +kernel, rfl, by decide +kernel, by decide +kernel⟩
theorem ok_orders (T : TX K mg) : DefOk P w K mg base 1 "_law_orders" ["_law_one", "_law_other"] spOrders := by
  obtain ⟨fd, F⟩ := T.d_law_orders
  refine ⟨fd, F.ok sc_law_orders (fun vs H Q E h => ?_) (fun cdv A outer s H vs Q E hr h => ⟨_, PSs.nox (pss_cons (ps_asg (pe_tup (pa_cons (pe_lc (own := [("_law_row", 12)]) (g := gName 12) (tt := tYes) rfl sc_law_orders.nd (pi_list (pv 0)) (blkOk_by (own := [("_law_row", 12)]) (N := ["_law_one", "_law_other", "_law_above", "_law_below", "_law_k", "_law_ours", "_law_theirs", "_law_j", "_law_mine", "_law_others", "_law_is_above", "_law_is_below", "_law_row", "_law_x"]) (sc := defScope s_law_orders) (by decide +kernel)) (fun _ _ _ _ _ => (pg_name (i := 12) sc_law_orders.nd rfl (Or.inl rfl))) (fun _ _ _ _ _ => pts_nil) (fun _ _ _ _ _ => (pe_op op_rep (pe_lst (pa_cons pe_bl pa_nil)) (pe_callB (lenS K) (by rfl) T.f_len (by decide +kernel) (pa_cons (pv 1) pa_nil))))) (pa_cons (pe_lc (own := [("_law_row", 12)]) (g := gName 12) (tt := tYes) rfl sc_law_orders.nd (pi_list (pv 1)) (blkOk_by (own := [("_law_row", 12)]) (N := ["_law_one", "_law_other", "_law_above", "_law_below", "_law_k", "_law_ours", "_law_theirs", "_law_j", "_law_mine", "_law_others", "_law_is_above", "_law_is_below", "_law_row", "_law_x"]) (sc := defScope s_law_orders) (by decide +kernel)) (fun _ _ _ _ _ => (pg_name (i := 12) sc_law_orders.nd rfl (Or.inl rfl))) (fun _ _ _ _ _ => pts_nil) (fun _ _ _ _ _ => (pe_op op_rep (pe_lst (pa_cons pe_bl pa_nil)) (pe_callB (lenS K) (by rfl) T.f_len (by decide +kernel) (pa_cons (pv 0) pa_nil))))) pa_nil))) (pg_tup rfl (pgs_cons (pg_name (i := 2) sc_law_orders.nd rfl (Or.inr rfl)) (pgs_cons (pg_name (i := 3) sc_law_orders.nd rfl (Or.inr rfl)) pgs_nil))))
  (pss_cons (ps_for PassesOwn.never rfl (pi_enum (by rfl) T.f_enumerate (pa_cons (pv 0) pa_nil)) (pg_tup rfl (pgs_cons (pg_name (i := 4) sc_law_orders.nd rfl (Or.inr rfl)) (pgs_cons (pg_tup rfl (pgs_cons (pg_name (i := 5) sc_law_orders.nd rfl (Or.inl rfl)) (pgs_cons (pg_name (i := 6) sc_law_orders.nd rfl (Or.inl rfl)) pgs_nil))) pgs_nil)))
    (pss_one (ps_for PassesOwn.never rfl (pi_enum (by rfl) T.f_enumerate (pa_cons (pv 1) pa_nil)) (pg_tup rfl (pgs_cons (pg_name (i := 7) sc_law_orders.nd rfl (Or.inr rfl)) (pgs_cons (pg_tup rfl (pgs_cons (pg_name (i := 8) sc_law_orders.nd rfl (Or.inl rfl)) (pgs_cons (pg_name (i := 9) sc_law_orders.nd rfl (Or.inl rfl)) pgs_nil))) pgs_nil)))
    (pss_cons (ps_set (i := 10) sc_law_orders.nd rfl (Or.inl rfl) (pe_and (pe_not (pe_callB (anyK K) (by rfl) T.f_any (by decide +kernel) (pa_cons (pe_lc (own := [("_law_x", 13)]) (g := gName 13) (tt := tYes) rfl sc_law_orders.nd (pi_list (pv 6)) (blkOk_by (own := [("_law_x", 13)]) (N := ["_law_one", "_law_other", "_law_above", "_law_below", "_law_k", "_law_ours", "_law_theirs", "_law_j", "_law_mine", "_law_others", "_law_is_above", "_law_is_below", "_law_row", "_law_x"]) (sc := defScope s_law_orders) (by decide +kernel)) (fun _ _ _ _ _ => (pg_name (i := 13) sc_law_orders.nd rfl (Or.inl rfl))) (fun _ _ _ _ _ => pts_nil) (fun _ _ _ _ _ => (pe_ix (ixl K) (pe_ix (ixl K) (pv 3) (pv 7) (fun _ _ => rfl)) (pv 13) (fun _ _ => rfl)))) pa_nil))) (pe_one (pe_not (pe_callB (anyK K) (by rfl) T.f_any (by decide +kernel) (pa_cons (pe_lc (own := [("_law_x", 13)]) (g := gName 13) (tt := tYes) rfl sc_law_orders.nd (pi_list (pv 8)) (blkOk_by (own := [("_law_x", 13)]) (N := ["_law_one", "_law_other", "_law_above", "_law_below", "_law_k", "_law_ours", "_law_theirs", "_law_j", "_law_mine", "_law_others", "_law_is_above", "_law_is_below", "_law_row", "_law_x"]) (sc := defScope s_law_orders) (by decide +kernel)) (fun _ _ _ _ _ => (pg_name (i := 13) sc_law_orders.nd rfl (Or.inl rfl))) (fun _ _ _ _ _ => pts_nil) (fun _ _ _ _ _ => (pe_ix (ixl K) (pe_ix (ixl K) (pv 3) (pv 13) (fun _ _ => rfl)) (pv 4) (fun _ _ => rfl)))) pa_nil))))))
  (pss_cons (ps_set (i := 11) sc_law_orders.nd rfl (Or.inl rfl) (pe_and (pe_not (pe_callB (anyK K) (by rfl) T.f_any (by decide +kernel) (pa_cons (pe_lc (own := [("_law_x", 13)]) (g := gName 13) (tt := tYes) rfl sc_law_orders.nd (pi_list (pv 9)) (blkOk_by (own := [("_law_x", 13)]) (N := ["_law_one", "_law_other", "_law_above", "_law_below", "_law_k", "_law_ours", "_law_theirs", "_law_j", "_law_mine", "_law_others", "_law_is_above", "_law_is_below", "_law_row", "_law_x"]) (sc := defScope s_law_orders) (by decide +kernel)) (fun _ _ _ _ _ => (pg_name (i := 13) sc_law_orders.nd rfl (Or.inl rfl))) (fun _ _ _ _ _ => pts_nil) (fun _ _ _ _ _ => (pe_ix (ixl K) (pe_ix (ixl K) (pv 2) (pv 4) (fun _ _ => rfl)) (pv 13) (fun _ _ => rfl)))) pa_nil))) (pe_one (pe_not (pe_callB (anyK K) (by rfl) T.f_any (by decide +kernel) (pa_cons (pe_lc (own := [("_law_x", 13)]) (g := gName 13) (tt := tYes) rfl sc_law_orders.nd (pi_list (pv 5)) (blkOk_by (own := [("_law_x", 13)]) (N := ["_law_one", "_law_other", "_law_above", "_law_below", "_law_k", "_law_ours", "_law_theirs", "_law_j", "_law_mine", "_law_others", "_law_is_above", "_law_is_below", "_law_row", "_law_x"]) (sc := defScope s_law_orders) (by decide +kernel)) (fun _ _ _ _ _ => (pg_name (i := 13) sc_law_orders.nd rfl (Or.inl rfl))) (fun _ _ _ _ _ => pts_nil) (fun _ _ _ _ _ => (pe_ix (ixl K) (pe_ix (ixl K) (pv 2) (pv 13) (fun _ _ => rfl)) (pv 7) (fun _ _ => rfl)))) pa_nil))))))
  (pss_one (ps_asg (pe_tup (pa_cons (pv 10) (pa_cons (pv 11) pa_nil))) (pg_tup rfl (pgs_cons (pg_sub (pe_ix (ixl K) (pv 2) (pv 4) (fun _ _ => rfl)) (pv 7) set_list) (pgs_cons (pg_sub (pe_ix (ixl K) (pv 3) (pv 7) (fun _ _ => rfl)) (pv 4) set_list) pgs_nil))))))))))
  (pss_one (ps_ret (pe_tup (pa_cons (pv 2) (pa_cons (pv 3) pa_nil))))))), ?_⟩), T.g_law_orders, F.kp, F.bindsN fun _ _ _ _ _ _ us hl => match us, hl with | [_, _], _ => rfl⟩
  · obtain ⟨_, v, u, _, _, rfl, _⟩ := h
    rfl
  · obtain ⟨G, v, u, A, B, rfl, e, hv, hu, vA, vB, lA, lB, sA, sB, k⟩ := h
    obtain ⟨a, avs, rfl, ha, hda⟩ := dt_lst hv
    obtain ⟨b, bvs, rfl, hb, hdb⟩ := dt_lst hu
    have la : avs.length = A.length := by rw [dtAll_len hda, List.length_map]
    have lb : bvs.length = B.length := by rw [dtAll_len hdb, List.length_map]
    refine ⟨_, rfl, a, rfl, ⟨_, SqL.of (e _ _ ha)⟩, fun al nal => tab_lst (a := a) (o := b) e nal (e _ _ ha) (e _ _ hb) (fun _ => rfl) (fun _ => rfl) (by omega) (by omega) fun as H1 las x1 nda fra hal has => ?_⟩
    refine ⟨_, rfl, b, rfl, ⟨_, SqL.of (x1.gh _ _ hb)⟩, fun bl nbl => tab_lst (a := b) (o := a) (G := G) x1.gh nbl (x1.gh _ _ hb) (x1.gh _ _ ha) (fun _ => rfl) (fun _ => rfl) (by omega) (by omega) fun bs H2 lbs x2 ndb frb hbl hbs => ?_⟩
    refine ⟨by show 2 ≤ sizeLine; decide, fun t ht => ?_⟩
    have hal2 := x2.same _ _ hal
    have O0 : OI G H al bl as bs A.length B.length (fA A B 0) (fB A B 0) H2 := by
      refine ⟨e, x1.trans x2, hal2, hbl, by rw [las, la], by rw [lbs, lb], fun k' c hc => ?_, fun j c hc => ?_, ?_, fun c hc => ?_⟩
      · rw [x2.same _ _ (has c (List.mem_of_getElem? hc)), lb]
        exact congrArg (fun z => some (HO.lst z)) (List.map_congr_left fun j _ => by unfold fA; simp)
      · rw [hbs c (List.mem_of_getElem? hc), la]
        exact congrArg (fun z => some (HO.lst z)) (List.map_congr_left fun j _ => by unfold fB; simp)
      · have na := List.nodup_cons.mp nda
        have nb := List.nodup_cons.mp ndb
        have sep : ∀ c ∈ al :: as, ∀ d ∈ bl :: bs, c ≠ d := fun c hc d hd z => by
          have h1 := frb d hd
          rw [← z] at h1
          rcases List.mem_cons.mp hc with q | q
          · rw [q, hal] at h1; cases h1
          · rw [has c q] at h1; cases h1
        refine List.nodup_cons.mpr ⟨fun m => ?_, List.nodup_cons.mpr ⟨fun m => ?_, List.nodup_append.mpr ⟨na.2, nb.2, fun c hc d hd => sep c (List.mem_cons_of_mem _ hc) d (List.mem_cons_of_mem _ hd)⟩⟩⟩
        · rcases List.mem_cons.mp m with m | m
          · exact sep al (List.mem_cons_self ..) bl (List.mem_cons_self ..) m
          · rcases List.mem_append.mp m with m | m
            · exact na.1 m
            · exact sep al (List.mem_cons_self ..) al (List.mem_cons_of_mem _ m) rfl
        · rcases List.mem_append.mp m with m | m
          · exact sep bl (List.mem_cons_of_mem _ m) bl (List.mem_cons_self ..) rfl
          · exact nb.1 m
      · rcases List.mem_cons.mp hc with q | hc
        · rw [q]; exact fra al (List.mem_cons_self ..)
        · rcases List.mem_cons.mp hc with q | hc
          · rw [q]; exact x1.free (frb bl (List.mem_cons_self ..))
          · rcases List.mem_append.mp hc with hc | hc
            · exact fra c (List.mem_cons_of_mem _ hc)
            · exact x1.free (frb c (List.mem_cons_of_mem _ hc))
    have O1 := O0.keep (H'' := upd H2 t (.tup [.ref al, .ref bl])) (fun b u q => (upd_ne (ne_of_none q ht)).trans q)
    refine ⟨t, _, rfl, SqT.of upd_same, rfl, _, _, rfl, _, _, rfl, rfl, ?_⟩
    generalize upd H2 t (.tup [.ref al, .ref bl]) = H3 at O1 ⊢
    clear O0 hal hal2 hbl hbs has
    refine ⟨_, rfl, a, _, rfl, SqL.of (O1.x.gh _ _ ha), for_it (walk_enum (K := K) (a := a) (xs := avs)) (fun i => OO G H a b al bl as bs A B (i * B.length)) ⟨⟨_, _, _, _, _, _, _, _, _, _, rfl⟩, by rw [Nat.zero_mul]; exact O1⟩ (fun i σ H' _ h => SqL.of (h.2.x.gh _ _ ha)) ?_ ?_⟩
    · rintro i x σ H4 H5 hi ⟨⟨z4, z5, z6, z7, z8, z9, z10, z11, z12, z13, rfl⟩, O4⟩ y
      obtain ⟨T', z, rfl, hT, rfl, hz⟩ := enum_pair y
      obtain ⟨r, er, hr⟩ := dtAll_map hda hz
      obtain ⟨p, o, th, rfl, hp, ho, hth⟩ := dt_rowL hr
      have hi' := M84.lt_of_some er
      obtain ⟨va1, va2⟩ := vA i r er
      obtain ⟨sa1, sa2⟩ := sA r (List.mem_of_getElem? er)
      have O5 := O4.keep (H'' := upd H4 T' (.tup [.int ((i : Nat) : Int), .ref p])) (fun b u q => (upd_ne (ne_of_none q hT)).trans q)
      have hT5 : upd H4 T' (.tup [.int ((i : Nat) : Int), .ref p]) T' = some (.tup [.int ((i : Nat) : Int), .ref p]) := upd_same
      generalize upd H4 T' (.tup [.int ((i : Nat) : Int), .ref p]) = H5 at O5 hT5 ⊢
      refine ⟨T', _, rfl, SqT.of hT5, rfl, _, _, rfl, _, _, rfl, ⟨p, _, rfl, SqT.of (O5.x.gh _ _ hp), rfl, _, _, rfl, _, _, rfl, rfl, rfl, ?_⟩⟩
      refine ⟨_, rfl, b, _, rfl, SqL.of (O5.x.gh _ _ hb), for_it (walk_enum (K := K) (a := b) (xs := bvs)) (fun j => OJ G H a b al bl o th as bs A B i (i * B.length + j)) ⟨⟨_, _, _, _, _, _, _, rfl⟩, O5⟩ (fun i σ H' _ h => SqL.of (h.2.x.gh _ _ hb)) ?_ ?_⟩
      · rintro j x σ H6 H7 hj ⟨⟨u7, u8, u9, u10, u11, u12, u13, rfl⟩, O6⟩ y
        obtain ⟨T2, z, rfl, hT2, rfl, hz2⟩ := enum_pair y
        obtain ⟨rb, eq, hq⟩ := dtAll_map hdb hz2
        obtain ⟨p2, m, ot, rfl, hp2, hm, hot⟩ := dt_rowL hq
        have hj' := M84.lt_of_some eq
        obtain ⟨vb1, vb2⟩ := vB j rb eq
        obtain ⟨sb1, sb2⟩ := sB rb (List.mem_of_getElem? eq)
        have O7 := O6.keep (H'' := upd H6 T2 (.tup [.int ((j : Nat) : Int), .ref p2])) (fun b u q => (upd_ne (ne_of_none q hT2)).trans q)
        have hT7 : upd H6 T2 (.tup [.int ((j : Nat) : Int), .ref p2]) T2 = some (.tup [.int ((j : Nat) : Int), .ref p2]) := upd_same
        generalize upd H6 T2 (.tup [.int ((j : Nat) : Int), .ref p2]) = H7 at O7 hT7 ⊢
        clear O6 O5 O4 O1
        refine ⟨T2, _, rfl, SqT.of hT7, rfl, _, _, rfl, _, _, rfl, ⟨p2, _, rfl, SqT.of (O7.x.gh _ _ hp2), rfl, _, _, rfl, _, _, rfl, rfl, rfl, ?_⟩⟩
        have gA := M84.geb_rows vA vB er eq
        have gB := M84.geb_rows vB vA eq er
        -- the cells that are read
        obtain ⟨ca, hca⟩ := M84.some_at (l := as) (i := i) (by rw [O7.la]; exact hi')
        obtain ⟨cb, hcb⟩ := M84.some_at (l := bs) (i := j) (by rw [O7.lb]; exact hj')
        have done : ∀ k' j', k' < i → j' < B.length → k' * B.length + j' < i * B.length + j := fun k' j' h1 h2 => by
          have h3 : k' + 1 ≤ i := h1
          have h4 := Nat.mul_le_mul_right B.length h3
          rw [Nat.add_mul, Nat.one_mul] at h4
          omega
        have a1 : (r.2.map (fB A B (i * B.length + j) j)).any id = (r.2.map fun x => M84.geb (M84.tr B j) (M84.tr A x)).any id := by
          rw [List.map_congr_left fun x hx => show fB A B (i * B.length + j) j x = _ from by unfold fB; rw [decide_eq_true (done x j (va2 x hx) hj'), Bool.true_and]]
        have a2 : (rb.1.map (fun x => fB A B (i * B.length + j) x i)).any id = (rb.1.map fun y => M84.geb (M84.tr B y) (M84.tr A i)).any id := by
          rw [List.map_congr_left fun x hx => show fB A B (i * B.length + j) x i = _ from by unfold fB; rw [decide_eq_true (by have := vb1 x hx; omega), Bool.true_and]]
        have a3 : (rb.2.map (fA A B (i * B.length + j) i)).any id = (rb.2.map fun x => M84.geb (M84.tr A i) (M84.tr B x)).any id := by
          rw [List.map_congr_left fun x hx => show fA A B (i * B.length + j) i x = _ from by unfold fA; rw [decide_eq_true (by have := vb2 x hx; omega), Bool.true_and]]
        have a4 : (r.1.map (fun x => fA A B (i * B.length + j) x j)).any id = (r.1.map fun y => M84.geb (M84.tr A y) (M84.tr B j)).any id := by
          rw [List.map_congr_left fun x hx => show fA A B (i * B.length + j) x j = _ from by unfold fA; rw [decide_eq_true (done x j (va1 x hx) hj'), Bool.true_and]]
        show tSeq _ _ _ _ _
        refine seq_asg (nn_core (c1 := (r.2.map (fB A B (i * B.length + j) j)).any id) (c2 := (rb.1.map (fun x => fB A B (i * B.length + j) x i)).any id) (fun Q' q => ?_) (fun H' Q' s q => ?_) fun H8 s8 => ?_)
        · refine ⟨_, rfl, th, rfl, ⟨_, SqL.of (O7.x.gh _ _ hth)⟩, fun D hD => any_core _ (O7.x.gh _ _ hth) hD (by omega) (fun _ => rfl) (fun x hx H8 Q2 s2 q2 => ?_) fun H' s hD' => ⟨D, _, rfl, SqL.of hD', q H' s⟩⟩
          have O8 := O7.keep s2
          exact rd2 rfl rfl rfl O8.b hcb (O8.rb j cb hcb) (rg_at (fun k => V.bl (fB A B (i * B.length + j) j k)) (Nat.lt_trans (va2 x hx) hi')) q2
        · have O8 := O7.keep s
          refine ⟨_, rfl, m, rfl, ⟨_, SqL.of (O8.x.gh _ _ hm)⟩, fun D hD => any_core _ (O8.x.gh _ _ hm) hD (by omega) (fun _ => rfl) (fun x hx H8 Q2 s2 q2 => ?_) fun H' s hD' => ⟨D, _, rfl, SqL.of hD', q H' s⟩⟩
          have O9 := O8.keep s2
          obtain ⟨cx, hcx⟩ := M84.some_at (l := bs) (i := x) (by rw [O7.lb]; exact Nat.lt_trans (vb1 x hx) hj')
          exact rd2 rfl rfl rfl O9.b hcx (O9.rb x cx hcx) (rg_at (fun k => V.bl (fB A B (i * B.length + j) x k)) hi') q2
        · have O8 := O7.keep s8
          rw [a1, a2, ← gA]
          show tSeq _ _ _ _ _
          refine seq_asg (nn_core (c1 := (rb.2.map (fA A B (i * B.length + j) i)).any id) (c2 := (r.1.map (fun x => fA A B (i * B.length + j) x j)).any id) (fun Q' q => ?_) (fun H' Q' s q => ?_) fun H9 s9 => ?_)
          · refine ⟨_, rfl, ot, rfl, ⟨_, SqL.of (O8.x.gh _ _ hot)⟩, fun D hD => any_core _ (O8.x.gh _ _ hot) hD (by omega) (fun _ => rfl) (fun x hx H8 Q2 s2 q2 => ?_) fun H' s hD' => ⟨D, _, rfl, SqL.of hD', q H' s⟩⟩
            have O9 := O8.keep s2
            exact rd2 rfl rfl rfl O9.a hca (O9.ra i ca hca) (rg_at (fun k => V.bl (fA A B (i * B.length + j) i k)) (Nat.lt_trans (vb2 x hx) hj')) q2
          · have O9 := O8.keep s
            refine ⟨_, rfl, o, rfl, ⟨_, SqL.of (O9.x.gh _ _ ho)⟩, fun D hD => any_core _ (O9.x.gh _ _ ho) hD (by omega) (fun _ => rfl) (fun x hx H8 Q2 s2 q2 => ?_) fun H' s hD' => ⟨D, _, rfl, SqL.of hD', q H' s⟩⟩
            have O10 := O9.keep s2
            obtain ⟨cx, hcx⟩ := M84.some_at (l := as) (i := x) (by rw [O7.la]; exact Nat.lt_trans (va1 x hx) hi')
            exact rd2 rfl rfl rfl O10.a hcx (O10.ra x cx hcx) (rg_at (fun k => V.bl (fA A B (i * B.length + j) x k)) hj') q2
          · have O9 := O8.keep s9
            rw [a3, a4, ← gB]
            refine ⟨_, rfl, _, rfl, by show 2 ≤ sizeLine; decide, fun t ht => ?_⟩
            have O10 := O9.keep (H'' := upd H9 t (.tup [.bl (M84.geb (M84.tr A i) (M84.tr B j)), .bl (M84.geb (M84.tr B j) (M84.tr A i))])) (fun b u q => (upd_ne (ne_of_none q ht)).trans q)
            have ht10 : upd H9 t (.tup [.bl (M84.geb (M84.tr A i) (M84.tr B j)), .bl (M84.geb (M84.tr B j) (M84.tr A i))]) t = some (.tup [.bl (M84.geb (M84.tr A i) (M84.tr B j)), .bl (M84.geb (M84.tr B j) (M84.tr A i))]) := upd_same
            refine ⟨t, _, rfl, SqT.of ht10, rfl, _, _, rfl, ?_⟩
            generalize upd H9 t (.tup [.bl (M84.geb (M84.tr A i) (M84.tr B j)), .bl (M84.geb (M84.tr B j) (M84.tr A i))]) = H10 at O10 ⊢
            have O11 := O10.setA (j := j) hca (M84.geb (M84.tr A i) (M84.tr B j))
            refine ⟨_, rfl, _, rfl, al, _, _, _, rfl, rfl, SqL.of O10.a, atN (x := V.ref ca) (by rw [List.getElem?_map, hca]; exact rfl), _, rfl, ca, _, _, j, rfl, rfl, O10.ra i ca hca, ixN_lt (by rw [List.length_map, List.length_range]; exact hj'), _, _, rfl, ?_⟩
            generalize upd H10 ca (.lst (((List.range B.length).map fun j_1 => V.bl (fA A B (i * B.length + j) i j_1)).set j (V.bl (M84.geb (M84.tr A i) (M84.tr B j))))) = H11 at O11 ⊢
            have O12 := O11.setB (k := i) hcb (M84.geb (M84.tr B j) (M84.tr A i))
            refine ⟨_, rfl, _, rfl, bl, _, _, _, rfl, rfl, SqL.of O11.b, atN (x := V.ref cb) (by rw [List.getElem?_map, hcb]; exact rfl), _, rfl, cb, _, _, i, rfl, rfl, O11.rb j cb hcb, ixN_lt (by rw [List.length_map, List.length_range]; exact hi'), rfl, ?_⟩
            refine ⟨⟨_, _, _, _, _, _, _, rfl⟩, O12.congr (fun k' j' hk hj2 => ?_) fun j' k' hj2 hk => ?_⟩
            · unfold fA
              by_cases hh : k' = i ∧ j' = j
              · rw [if_pos hh, hh.1, hh.2, decide_eq_true (by omega), Bool.true_and]
              · rw [if_neg hh]
                congr 1
                refine decide_eq_decide.mpr ⟨fun h => by omega, fun h => ?_⟩
                refine Decidable.byContradiction fun hn => hh (M84.pair_eq hj2 hj' ?_)
                omega
            · unfold fB
              by_cases hh : j' = j ∧ k' = i
              · rw [if_pos hh, hh.1, hh.2, decide_eq_true (by omega), Bool.true_and]
              · rw [if_neg hh]
                congr 1
                refine decide_eq_decide.mpr ⟨fun h => by omega, fun h => ?_⟩
                refine Decidable.byContradiction fun hn => hh (M84.pair_eq hj2 hj' (k := k') (k' := i) ?_).symm
                omega
      · rintro σ H6 ⟨⟨u7, u8, u9, u10, u11, u12, u13, rfl⟩, O6⟩
        have e0 : i * B.length + bvs.length = (i + 1) * B.length := by rw [lb, Nat.add_mul, Nat.one_mul]
        rw [e0] at O6
        exact ⟨⟨_, _, _, _, _, _, _, _, _, _, rfl⟩, O6⟩
    · rintro σ H4 ⟨⟨z4, z5, z6, z7, z8, z9, z10, z11, z12, z13, rfl⟩, O4⟩
      rw [la] at O4
      have O5 := O4.congr (f' := fun k j => M84.geb (M84.tr A k) (M84.tr B j)) (g' := fun j k => M84.geb (M84.tr B j) (M84.tr A k)) (fun k' j' h1 h2 => by
        unfold fA
        have h4 := Nat.mul_le_mul_right B.length (show k' + 1 ≤ A.length from h1)
        rw [Nat.add_mul, Nat.one_mul] at h4
        rw [decide_eq_true (by omega), Bool.true_and]) (fun j' k' h2 h1 => by
        unfold fB
        have h4 := Nat.mul_le_mul_right B.length (show k' + 1 ≤ A.length from h1)
        rw [Nat.add_mul, Nat.one_mul] at h4
        rw [decide_eq_true (by omega), Bool.true_and])
      refine ⟨_, rfl, _, rfl, by show 2 ≤ sizeLine; decide, fun t ht => ?_⟩
      have x6 := O5.x.frzL (al :: bl :: (as ++ bs)) O5.fr fun c hc => same_free O5.e (O5.fr c hc)
      have x7 := x6.new (o := .tup [.ref al, .ref bl]) ht
      have gu := same_upd (o := HO.tup [V.ref al, V.ref bl]) (same_free x6.gh ht)
      have inA : ∀ c ∈ as, c ∈ al :: bl :: (as ++ bs) := fun c hc => List.mem_cons_of_mem _ (List.mem_cons_of_mem _ (List.mem_append.mpr (.inl hc)))
      have inB : ∀ c ∈ bs, c ∈ al :: bl :: (as ++ bs) := fun c hc => List.mem_cons_of_mem _ (List.mem_cons_of_mem _ (List.mem_append.mpr (.inr hc)))
      refine k _ _ _ x7 (.tup upd_same (.cons (tab_dt (as := as) ?_ O5.la fun k' c hc => ?_) (.cons (tab_dt (as := bs) ?_ O5.lb fun k' c hc => ?_) .nil)))
      · exact gu _ _ ((frzG_in (List.mem_cons_self ..)).trans O5.a)
      · exact gu _ _ ((frzG_in (inA c (List.mem_of_getElem? hc))).trans (O5.ra k' c hc))
      · exact gu _ _ ((frzG_in (List.mem_cons_of_mem _ (List.mem_cons_self ..))).trans O5.b)
      · exact gu _ _ ((frzG_in (inB c (List.mem_of_getElem? hc))).trans (O5.rb k' c hc))
end
end G84

namespace G84
open PySem PySem.Spec PyProof.Rows L2
/-! W25: the law's look at rows: alike, needless, round, met, least. -/
section
variable {P : Program} {w : World} {K : PySem.W.Frag} {mg : Str → Option Value} {base : Heap}
/-- a table that stands -/
def TabAt (G : Hp) (v : V) (A B : List Rw) : Prop := Dt G v (tabD (M84.abv A B))
theorem tab_get {G : Hp} {v : V} {A B : List Rw} (h : TabAt G v A B) : ∃ al xs, v = .ref al ∧ G al = some (.lst xs) ∧ xs.length = A.length ∧ ∀ k, k < A.length → ∃ c, xs[k]? = some (.ref c) ∧ G c = some (.lst ((List.range B.length).map fun j => V.bl (M84.geb (M84.tr A k) (M84.tr B j)))) := by
  obtain ⟨al, xs, rfl, ha, hd⟩ := dt_lst h
  have lx : xs.length = A.length := by rw [dtAll_len hd, List.length_map]; unfold M84.abv; rw [List.length_map, List.length_range]
  refine ⟨al, xs, rfl, ha, lx, fun k hk => ?_⟩
  obtain ⟨v, ev, hv⟩ := dtAll_get' hd (i := k) (d := .list (((List.range B.length).map fun j => M84.geb (M84.tr A k) (M84.tr B j)).map .bool)) (by
    unfold M84.abv
    rw [List.getElem?_map, rg_at _ hk] <;> rfl)
  obtain ⟨c, ys, rfl, hc, hy⟩ := dt_lst hv
  refine ⟨c, ev, ?_⟩
  have e : ∀ (bs : List Bool) (ys : List V), DtAll G ys (bs.map PyData.bool) → ys = bs.map V.bl := by
    intro bs
    induction bs with
    | nil => intro ys h; cases h; rfl
    | cons b bs ih =>
      intro ys h
      cases h with
      | cons h1 h2 =>
        cases h1
        rw [ih _ h2] <;> rfl
  rw [e _ _ hy, List.map_map] at hc
  exact hc
theorem at_last_v {xs : List V} {v : V} (h : xs[xs.length - 1]? = some v) : atI xs (-1) = some v := by
  have ne : xs ≠ [] := fun z => by rw [z] at h; simp at h
  have e : xs = xs.dropLast ++ [xs.getLast ne] := (List.dropLast_concat_getLast ne).symm
  have e2 : xs.getLast ne = v := by
    have := List.getLast?_eq_getLast ne
    rw [List.getLast?_eq_getElem?, h] at this
    exact (Option.some.inj this).symm
  rw [e, e2]
  exact atI_last _ _
def spAlike : Sp := fun vs H Q _ => ∃ (G : Hp) (v u : V) (A B : List Rw), vs = [v, u] ∧ Same G H ∧ Dt G v (rowsL A) ∧ Dt G u (rowsL B) ∧ M84.Val A ∧ M84.Val B ∧ A ≠ [] ∧ B ≠ [] ∧ A.length ≤ 60 ∧ B.length ≤ 60 ∧ M84.SideP (· < 64) A ∧ M84.SideP (· < 64) B ∧ ∀ G' H', Ex M0 G H G' H' → Q (.bl (M84.alikeB A B)) H'
theorem sc_law_alike : FnScope ["_law_one", "_law_other", "_law_above", "_law_below"] ["_law_one", "_law_other"] (defScope s_law_alike) := ⟨rfl, rfl, rfl, by decide +kernel, rfl, by decide +kernel, by decide +kernel⟩
theorem ok_alike (T : TX K mg) : DefOk P w K mg base 2 "_law_alike" ["_law_one", "_law_other"] spAlike := by
  have D_law_orders := ok_orders (P := P) (w := w) (base := base) T
  obtain ⟨fd, F⟩ := T.d_law_alike
  refine ⟨fd, F.ok sc_law_alike (fun vs H Q E h => ?_) (fun cdv A outer s H vs Q E hr h => ⟨_, PSs.nox (pss_cons (ps_asg (pe_d D_law_orders (hr.mono (by decide)) (pa_cons (pv 0) (pa_cons (pv 1) pa_nil))) (pg_tup rfl (pgs_cons (pg_name (i := 2) sc_law_alike.nd rfl (Or.inl rfl)) (pgs_cons (pg_name (i := 3) sc_law_alike.nd rfl (Or.inl rfl)) pgs_nil))))
  (pss_one (ps_ret (pe_and (pe_ix (ixl K) (pe_ix (ixl K) (pv 2) (pe_un un_neg pe_int) (fun _ _ => rfl)) (pe_un un_neg pe_int) (fun _ _ => rfl)) (pe_one (pe_ix (ixl K) (pe_ix (ixl K) (pv 3) (pe_un un_neg pe_int) (fun _ _ => rfl)) (pe_un un_neg pe_int) (fun _ _ => rfl))))))), ?_⟩), T.g_law_alike, F.kp, F.bindsN fun _ _ _ _ _ _ us hl => match us, hl with | [_, _], _ => rfl⟩
  · obtain ⟨_, v, u, _, _, rfl, _⟩ := h
    rfl
  · obtain ⟨G, v, u, A, B, rfl, e, hv, hu, vA, vB, nA, nB, lA, lB, sA, sB, k⟩ := h
    have pA := List.length_pos_iff.mpr nA
    have pB := List.length_pos_iff.mpr nB
    refine ⟨_, rfl, _, rfl, G, v, u, A, B, rfl, e, hv, hu, vA, vB, lA, lB, sA, sB, fun G1 H1 t x1 ht => ?_⟩
    obtain ⟨ta, xs, rfl, hta, hxs⟩ := dt_tup ht
    cases hxs with
    | cons d1 hxs =>
      cases hxs with
      | cons d2 hxs =>
        cases hxs
        obtain ⟨al, as, rfl, ha, la, ra⟩ := tab_get d1
        obtain ⟨bl, bs, rfl, hb, lb, rb⟩ := tab_get d2
        obtain ⟨ca, eca, hca⟩ := ra (A.length - 1) (by omega)
        obtain ⟨cb, ecb, hcb⟩ := rb (B.length - 1) (by omega)
        refine ⟨ta, _, rfl, SqT.of (x1.gh _ _ hta), rfl, _, _, rfl, _, _, rfl, rfl, ?_⟩
        refine ⟨_, rfl, 1, rfl, al, as, _, _, rfl, rfl, SqL.of (x1.gh _ _ ha), at_last_v (by rw [la]; exact eca), 1, rfl, ca, _, _, _, rfl, rfl, SqL.of (x1.gh _ _ hca), at_last_v (by rw [List.length_map, List.length_range]; exact rg_at _ (by omega)), _, rfl, ?_⟩
        have kk := k G1 H1 x1
        unfold M84.alikeB at kk
        cases hg : M84.geb (M84.tr A (A.length - 1)) (M84.tr B (B.length - 1)) with
        | false =>
          have e1 : M84.geb (M84.lastT A) (M84.lastT B) = false := hg
          rw [e1, Bool.false_and] at kk
          exact iteF kk
        | true =>
          have e1 : M84.geb (M84.lastT A) (M84.lastT B) = true := hg
          rw [e1, Bool.true_and] at kk
          exact iteT ⟨_, rfl, 1, rfl, bl, bs, _, _, rfl, rfl, SqL.of (x1.gh _ _ hb), at_last_v (by rw [lb]; exact ecb), 1, rfl, cb, _, _, _, rfl, rfl, SqL.of (x1.gh _ _ hcb), at_last_v (by rw [List.length_map, List.length_range]; exact rg_at _ (by omega)), kk⟩
def spNeedless : Sp := fun vs H Q _ => ∃ (G : Hp) (v : V) (m : Addr) (A : List Rw) (l : List Nat) (a : Nat) (b : Bool), vs = [v, .ref m, .int (a : Int), .bl b] ∧ Same G H ∧ TabAt G v A A ∧ G m = some (.lst (iN l)) ∧ a < l.length ∧ (∀ x ∈ l, x < A.length) ∧ l.length < 64 ∧ ∀ G' H', Ex M0 G H G' H' → Q (.bl (M84.needlessR A l a b)) H'
theorem cut_from (l : List V) (k : Nat) : cutV l (some ((k : Nat) : Int)) none = l.drop k := by
  unfold cutV
  rw [HT.sIx_none, HT.sIx_nat]
  by_cases h : k ≤ l.length
  · rw [Nat.min_eq_left h, List.take_of_length_le (by rw [List.length_drop]; exact Nat.le_refl _)]
  · rw [Nat.min_eq_right (by omega), Nat.sub_self, List.take_zero, List.drop_eq_nil_of_le (by omega)]
theorem sc_law_is_needless : FnScope ["_law_above", "_law_moves", "_law_at", "_law_is_ours", "_law_others", "_law_other"] ["_law_above", "_law_moves", "_law_at", "_law_is_ours"] (defScope s_law_is_needless) := ⟨rfl, rfl, rfl, by decide +kernel, rfl, by decide +kernel, by decide +kernel⟩
theorem ok_needless (T : TX K mg) : DefOk P w K mg base 1 "_law_is_needless" ["_law_above", "_law_moves", "_law_at", "_law_is_ours"] spNeedless := by
  obtain ⟨fd, F⟩ := T.d_law_is_needless
  refine ⟨fd, F.ok sc_law_is_needless (fun vs H Q E h => ?_) (fun cdv A outer s H vs Q E hr h => ⟨_, PSs.nox (pss_cons (ps_set (i := 4) sc_law_is_needless.nd rfl (Or.inl rfl) (pe_op op_cat (pe_slice (slL K) (pv 1) po_none (po_some (pv 2))) (pe_slice (slL K) (pv 1) (po_some (pe_op op_add (pv 2) pe_int)) po_none)))
  (pss_cons (ps_if (pt_val (pv 3))
    (pss_one (ps_ret (pe_callB (anyK K) (by rfl) T.f_any (by decide +kernel) (pa_cons (pe_lc (own := [("_law_other", 5)]) (g := gName 5) (tt := tYes) rfl sc_law_is_needless.nd (pi_list (pv 4)) (blkOk_by (own := [("_law_other", 5)]) (N := ["_law_above", "_law_moves", "_law_at", "_law_is_ours", "_law_others", "_law_other"]) (sc := defScope s_law_is_needless) (by decide +kernel)) (fun _ _ _ _ _ => (pg_name (i := 5) sc_law_is_needless.nd rfl (Or.inl rfl))) (fun _ _ _ _ _ => pts_nil) (fun _ _ _ _ _ => (pe_ix (ixl K) (pe_ix (ixl K) (pv 0) (pv 5) (fun _ _ => rfl)) (pe_ix (ixl K) (pv 1) (pv 2) (fun _ _ => rfl)) (fun _ _ => rfl)))) pa_nil))))
    pss_nil)
  (pss_one (ps_ret (pe_callB (anyK K) (by rfl) T.f_any (by decide +kernel) (pa_cons (pe_lc (own := [("_law_other", 5)]) (g := gName 5) (tt := tYes) rfl sc_law_is_needless.nd (pi_list (pv 4)) (blkOk_by (own := [("_law_other", 5)]) (N := ["_law_above", "_law_moves", "_law_at", "_law_is_ours", "_law_others", "_law_other"]) (sc := defScope s_law_is_needless) (by decide +kernel)) (fun _ _ _ _ _ => (pg_name (i := 5) sc_law_is_needless.nd rfl (Or.inl rfl))) (fun _ _ _ _ _ => pts_nil) (fun _ _ _ _ _ => (pe_ix (ixl K) (pe_ix (ixl K) (pv 0) (pe_ix (ixl K) (pv 1) (pv 2) (fun _ _ => rfl)) (fun _ _ => rfl)) (pv 5) (fun _ _ => rfl)))) pa_nil)))))), ?_⟩), T.g_law_is_needless, F.kp, F.bindsN fun _ _ _ _ _ _ us hl => match us, hl with | [_, _, _, _], _ => rfl⟩
  · obtain ⟨_, v, m, _, _, a, b, rfl, _⟩ := h
    rfl
  · obtain ⟨G, v, m, A, l, a, b, rfl, e, ht, hm, ha, hl, ll, k⟩ := h
    obtain ⟨al, xs, rfl, hal, lx, ra⟩ := tab_get ht
    refine ⟨_, rfl, _, rfl, _, rfl, m, _, rfl, SqL.of (e _ _ hm), fun p1 hp1 => ?_⟩
    rw [cut_to]
    have e1 : (iN l).take a = iN (l.take a) := (List.map_take).symm
    rw [e1]
    have x1 := (Ex.rfl' (M := M0) e).loc (o := .lst (iN (l.take a))) hp1
    have h1 : upd H p1 (.lst (iN (l.take a))) p1 = some (.lst (iN (l.take a))) := upd_same
    generalize upd H p1 (.lst (iN (l.take a))) = H1 at x1 h1 ⊢
    refine ⟨_, rfl, _, rfl, _, _, rfl, rfl, _, rfl, m, _, rfl, SqL.of (x1.gh _ _ hm), fun p2 hp2 => ?_⟩
    have e2 : cutV (iN l) (some ((a : Int) + 1)) none = iN (l.drop (a + 1)) := by
      have : ((a : Int) + 1) = ((a + 1 : Nat) : Int) := by omega
      rw [this, cut_from]
      exact (List.map_drop).symm
    rw [e2]
    have x2 := x1.loc (o := .lst (iN (l.drop (a + 1)))) hp2
    have h2 : upd H1 p2 (.lst (iN (l.drop (a + 1)))) p2 = some (.lst (iN (l.drop (a + 1)))) := upd_same
    have h12 := (upd_ne (o := HO.lst (iN (l.drop (a + 1)))) (ne_of_none h1 hp2)).trans h1
    generalize upd H1 p2 (.lst (iN (l.drop (a + 1)))) = H2 at x2 h2 h12 ⊢
    have lo : (M84.others l a).length ≤ 64 := by unfold M84.others; rw [List.length_append, List.length_take, List.length_drop]; omega
    refine ⟨p1, p2, _, _, rfl, rfl, h12, h2, by rw [iN_len, iN_len, List.length_take, List.length_drop]; exact Nat.le_of_lt (small1000 (by omega)), fun p3 hp3 => ?_⟩
    have e3 : iN (l.take a) ++ iN (l.drop (a + 1)) = iN (M84.others l a) := by
      show _ = (l.take a ++ l.drop (a + 1)).map (fun n : Nat => V.int (n : Int))
      rw [List.map_append]
    rw [e3]
    have x3 := x2.loc (o := .lst (iN (M84.others l a))) hp3
    have h3 : upd H2 p3 (.lst (iN (M84.others l a))) p3 = some (.lst (iN (M84.others l a))) := upd_same
    generalize upd H2 p3 (.lst (iN (M84.others l a))) = H3 at x3 h3 ⊢
    obtain ⟨z, hz⟩ := M84.some_at ha
    have ez : l.getD a 0 = z := M84.getD_some hz
    have hzl := hl z (List.mem_of_getElem? hz)
    have inl : ∀ o ∈ M84.others l a, o < A.length := fun o ho => by
      obtain ⟨j, _, ej⟩ := (M84.mem_others ha).mp ho
      exact hl o (List.mem_of_getElem? ej)
    have kk : ∀ H', Same H3 H' → Q (.bl (M84.needlessR A l a b)) H' := fun H' s => k G H' (x3.trans (Ex.of_same x3.gh s))
    unfold M84.needlessR at kk
    rw [ez] at kk
    refine ⟨_, rfl, _, rfl, ?_⟩
    cases b with
    | true =>
      refine iteT ⟨_, rfl, p3, rfl, ⟨_, SqL.of h3⟩, fun D hD => any_core (fun o => M84.geb (M84.tr A o) (M84.tr A z)) h3 hD (by omega) (fun _ => rfl) (fun o ho H8 Q' s q => ?_) fun H' s hD' => ⟨D, _, rfl, SqL.of hD', kk H' s⟩⟩
      obtain ⟨c, ec, hc⟩ := ra o (inl o ho)
      exact ⟨_, rfl, _, rfl, al, xs, _, _, rfl, rfl, SqL.of (s _ _ (x3.gh _ _ hal)), atN ec, _, rfl, _, rfl, m, _, _, _, rfl, rfl, SqL.of (s _ _ (x3.gh _ _ hm)), atN (iN_get hz), c, _, _, _, rfl, rfl, SqL.of (s _ _ (x3.gh _ _ hc)), atN (rg_at _ hzl), q⟩
    | false =>
      refine iteF ⟨_, rfl, p3, rfl, ⟨_, SqL.of h3⟩, fun D hD => any_core (fun o => M84.geb (M84.tr A z) (M84.tr A o)) h3 hD (by omega) (fun _ => rfl) (fun o ho H8 Q' s q => ?_) fun H' s hD' => ⟨D, _, rfl, SqL.of hD', kk H' s⟩⟩
      obtain ⟨c, ec, hc⟩ := ra z hzl
      exact ⟨_, rfl, _, rfl, _, rfl, m, _, _, _, rfl, rfl, SqL.of (s _ _ (x3.gh _ _ hm)), atN (iN_get hz), al, xs, _, _, rfl, rfl, SqL.of (s _ _ (x3.gh _ _ hal)), atN ec, _, rfl, c, _, _, _, rfl, rfl, SqL.of (s _ _ (x3.gh _ _ hc)), atN (rg_at _ (inl o ho)), q⟩
def spRound : Sp := fun vs H Q _ => ∃ (G : Hp) (r v : V) (A : List Rw) (n m : Nat) (b : Bool), vs = [r, v, .int (n : Int), .int (m : Int), .bl b] ∧ Same G H ∧ Dt G r (rowsL A) ∧ TabAt G v A A ∧ M84.Val A ∧ n < A.length ∧ m < A.length ∧ M84.SideP (· < 64) A ∧ ∀ G' H', Ex M0 G H G' H' → Q (.bl (M84.roundR A n m b)) H'
theorem sc_law_is_round : FnScope ["_law_rows_here", "_law_above", "_law_number", "_law_move", "_law_is_ours", "_law_behind"] ["_law_rows_here", "_law_above", "_law_number", "_law_move", "_law_is_ours"] (defScope s_law_is_round) := ⟨rfl, rfl, rfl, by decide +kernel, rfl, by decide +kernel, by decide +kernel⟩
theorem ok_round (T : TX K mg) : DefOk P w K mg base 1 "_law_is_round" ["_law_rows_here", "_law_above", "_law_number", "_law_move", "_law_is_ours"] spRound := by
  obtain ⟨fd, F⟩ := T.d_law_is_round
  refine ⟨fd, F.ok sc_law_is_round (fun vs H Q E h => ?_) (fun cdv A outer s H vs Q E hr h => ⟨_, PSs.nox (pss_cons (ps_if (pt_val (pv 4))
    (pss_one (ps_ret (pe_callB (anyK K) (by rfl) T.f_any (by decide +kernel) (pa_cons (pe_lc (own := [("_law_behind", 5)]) (g := gName 5) (tt := tYes) rfl sc_law_is_round.nd (pi_list (pe_ix (ixt K) (pe_ix (ixl K) (pv 0) (pv 3) (fun _ _ => rfl)) pe_int (fun _ _ => rfl))) (blkOk_by (own := [("_law_behind", 5)]) (N := ["_law_rows_here", "_law_above", "_law_number", "_law_move", "_law_is_ours", "_law_behind"]) (sc := defScope s_law_is_round) (by decide +kernel)) (fun _ _ _ _ _ => (pg_name (i := 5) sc_law_is_round.nd rfl (Or.inl rfl))) (fun _ _ _ _ _ => pts_nil) (fun _ _ _ _ _ => (pe_ix (ixl K) (pe_ix (ixl K) (pv 1) (pv 2) (fun _ _ => rfl)) (pv 5) (fun _ _ => rfl)))) pa_nil))))
    pss_nil)
  (pss_one (ps_ret (pe_callB (anyK K) (by rfl) T.f_any (by decide +kernel) (pa_cons (pe_lc (own := [("_law_behind", 5)]) (g := gName 5) (tt := tYes) rfl sc_law_is_round.nd (pi_list (pe_ix (ixt K) (pe_ix (ixl K) (pv 0) (pv 3) (fun _ _ => rfl)) pe_int (fun _ _ => rfl))) (blkOk_by (own := [("_law_behind", 5)]) (N := ["_law_rows_here", "_law_above", "_law_number", "_law_move", "_law_is_ours", "_law_behind"]) (sc := defScope s_law_is_round) (by decide +kernel)) (fun _ _ _ _ _ => (pg_name (i := 5) sc_law_is_round.nd rfl (Or.inl rfl))) (fun _ _ _ _ _ => pts_nil) (fun _ _ _ _ _ => (pe_ix (ixl K) (pe_ix (ixl K) (pv 1) (pv 5) (fun _ _ => rfl)) (pv 2) (fun _ _ => rfl)))) pa_nil))))), ?_⟩), T.g_law_is_round, F.kp, F.bindsN fun _ _ _ _ _ _ us hl => match us, hl with | [_, _, _, _, _], _ => rfl⟩
  · obtain ⟨_, r, v, _, n, m, b, rfl, _⟩ := h
    rfl
  · obtain ⟨G, rv, v, A, n, m, b, rfl, e, hr0, ht, vA, hn, hm, sA, k⟩ := h
    obtain ⟨al, xs, rfl, hal, lx, ra⟩ := tab_get ht
    obtain ⟨a, rvs, rfl, ha, hd⟩ := dt_lst hr0
    obtain ⟨r, er⟩ := M84.some_at hm
    obtain ⟨rw_, erv, hrv⟩ := dtAll_get' hd (i := m) (d := rowL r) (by rw [List.getElem?_map, er] <;> rfl)
    obtain ⟨p, o, th, rfl, hp, ho, hth⟩ := dt_rowL hrv
    obtain ⟨v1, v2⟩ := vA m r er
    obtain ⟨s1, s2⟩ := sA r (List.mem_of_getElem? er)
    have kk : ∀ H', Same H H' → Q (.bl (M84.roundR A n m b)) H' := fun H' s => k G H' (Ex.of_same e s)
    unfold M84.roundR at kk
    rw [M84.row_at er] at kk
    refine ⟨_, rfl, _, rfl, ?_⟩
    cases b with
    | true =>
      refine iteT ⟨_, rfl, _, rfl, a, rvs, _, _, rfl, rfl, SqL.of (e _ _ ha), atN erv, p, _, _, _, rfl, rfl, SqT.of (e _ _ hp), atN (j := 1) rfl, th, rfl, ⟨_, SqL.of (e _ _ hth)⟩, fun D hD => any_core (fun x => M84.geb (M84.tr A n) (M84.tr A x)) (e _ _ hth) hD (by omega) (fun _ => rfl) (fun x hx H8 Q' s q => ?_) fun H' s hD' => ⟨D, _, rfl, SqL.of hD', kk H' s⟩⟩
      obtain ⟨c, ec, hc⟩ := ra n hn
      exact ⟨_, rfl, _, rfl, al, xs, _, _, rfl, rfl, SqL.of (s _ _ (e _ _ hal)), atN ec, _, rfl, c, _, _, _, rfl, rfl, SqL.of (s _ _ (e _ _ hc)), atN (rg_at _ (Nat.lt_trans (v2 x hx) hm)), q⟩
    | false =>
      refine iteF ⟨_, rfl, _, rfl, a, rvs, _, _, rfl, rfl, SqL.of (e _ _ ha), atN erv, p, _, _, _, rfl, rfl, SqT.of (e _ _ hp), atN (j := 0) rfl, o, rfl, ⟨_, SqL.of (e _ _ ho)⟩, fun D hD => any_core (fun x => M84.geb (M84.tr A x) (M84.tr A n)) (e _ _ ho) hD (by omega) (fun _ => rfl) (fun x hx H8 Q' s q => ?_) fun H' s hD' => ⟨D, _, rfl, SqL.of hD', kk H' s⟩⟩
      obtain ⟨c, ec, hc⟩ := ra x (Nat.lt_trans (v1 x hx) hm)
      exact ⟨_, rfl, _, rfl, al, xs, _, _, rfl, rfl, SqL.of (s _ _ (e _ _ hal)), atN ec, _, rfl, c, _, _, _, rfl, rfl, SqL.of (s _ _ (e _ _ hc)), atN (rg_at _ hn), q⟩
end
end G84

namespace G84
open PySem PySem.Spec PyProof.Rows L2
/-! W26: the law's met, is_least. -/
section
variable {P : Program} {w : World} {K : PySem.W.Frag} {mg : Str → Option Value} {base : Heap}
def spMet : Sp := fun vs H Q _ => ∃ (G : Hp) (v : V) (A : List Rw), vs = [v] ∧ Same G H ∧ Dt G v (rowsL A) ∧ M84.Val A ∧ A ≠ [] ∧ A.length ≤ 60 ∧ M84.SideP (· < 64) A ∧ ∀ l G' H' p, M84.MetOk A l → Ex M0 G H G' H' → G' p = some (.lst (iN l)) → Q (.ref p) H'
def MV (G H : Hp) (v : V) (A : List Rw) (s : List Nat × Nat) (σ : L2.St) (H' : Hp) : Prop := ∃ f, (∃ x3 x4 x5, σ = [some v, some (.ref f), some (.int (s.2 : Int)), x3, x4, x5]) ∧ Ex M0 G H G H' ∧ H' f = some (.lst (iN s.1)) ∧ H f = none ∧ M84.MI A s
theorem sc_law_met : FnScope ["_law_rows_here", "_law_found", "_law_at", "_law_ours", "_law_theirs", "_law_move"] ["_law_rows_here"] (defScope s_law_met) := ⟨rfl, rfl, rfl, by decide +kernel, rfl, by decide +kernel, by decide +kernel⟩
theorem ok_met (T : TX K mg) : DefOk P w K mg base 1 "_law_met" ["_law_rows_here"] spMet := by
  obtain ⟨fd, F⟩ := T.d_law_met
  refine ⟨fd, F.ok sc_law_met (fun vs H Q E h => ?_) (fun cdv A outer s H vs Q E hr h => ⟨_, PSs.nox (pss_cons (ps_asg (pe_tup (pa_cons (pe_lst (pa_cons (pe_op op_sub (pe_callB (lenS K) (by rfl) T.f_len (by decide +kernel) (pa_cons (pv 0) pa_nil)) pe_int) pa_nil)) (pa_cons pe_int pa_nil))) (pg_tup rfl (pgs_cons (pg_name (i := 1) sc_law_met.nd rfl (Or.inr rfl)) (pgs_cons (pg_name (i := 2) sc_law_met.nd rfl (Or.inl rfl)) pgs_nil))))
  (pss_cons (ps_while PassesOwn.never (pt_cmpR op_lt (pv 2) (pe_callB (lenS K) (by rfl) T.f_len (by decide +kernel) (pa_cons (pv 1) pa_nil)) (nomark _))
    (pss_cons (ps_asg (pe_ix (ixl K) (pv 0) (pe_ix (ixl K) (pv 1) (pv 2) (fun _ _ => rfl)) (fun _ _ => rfl)) (pg_tup rfl (pgs_cons (pg_name (i := 3) sc_law_met.nd rfl (Or.inl rfl)) (pgs_cons (pg_name (i := 4) sc_law_met.nd rfl (Or.inl rfl)) pgs_nil))))
  (pss_cons (ps_set (i := 1) sc_law_met.nd rfl (Or.inr rfl) (pe_op op_cat (pv 1) (pe_lc (own := [("_law_move", 5)]) (g := gName 5) rfl sc_law_met.nd (pi_list (pe_callB (srtO w) (by rfl) T.f_sorted (by decide +kernel) (pa_cons (pe_callTy (setK K w) (by rfl) T.f_set (by decide +kernel) (pa_cons (pe_op op_cat (pv 3) (pv 4)) pa_nil)) pa_nil))) (blkOk_by (own := [("_law_move", 5)]) (N := ["_law_rows_here", "_law_found", "_law_at", "_law_ours", "_law_theirs", "_law_move"]) (sc := defScope s_law_met) (by decide +kernel)) (fun _ _ _ _ _ => (pg_name (i := 5) sc_law_met.nd rfl (Or.inl rfl))) (fun _ _ _ _ _ => pts_one (pt_cmpR (ninD K (un65 hr)) (pv 5) (pv 1) (by rfl))) (fun _ _ _ _ _ => (pv 5)))))
  (pss_one (ps_set (i := 2) sc_law_met.nd rfl (Or.inl rfl) (pe_op op_add (pv 2) pe_int))))))
  (pss_one (ps_ret (pv 1))))), ?_⟩), T.g_law_met, F.kp, F.bindsN fun _ _ _ _ _ _ us hl => match us, hl with | [_], _ => rfl⟩
  · obtain ⟨_, v, _, rfl, _⟩ := h
    rfl
  · obtain ⟨G, v, A, rfl, e, hv, vA, nA, lA, sA, k⟩ := h
    obtain ⟨a, rvs, rfl, ha, hd⟩ := dt_lst hv
    have la : rvs.length = A.length := by rw [dtAll_len hd, List.length_map]
    have pA := List.length_pos_iff.mpr nA
    refine ⟨_, rfl, a, rvs, rfl, .inl (SqL.of (e _ _ ha)), _, _, rfl, rfl, by show 1 ≤ sizeLine; decide, fun f nf => ⟨by show 2 ≤ sizeLine; decide, fun t ht => ?_⟩⟩
    have e1 : ((rvs.length : Int) - 1) = ((A.length - 1 : Nat) : Int) := by rw [la]; omega
    have x1 := (Ex.rfl' (M := M0) e).loc (o := .lst [.int ((rvs.length : Int) - 1)]) nf
    have hf1 : upd H f (.lst [.int ((rvs.length : Int) - 1)]) f = some (.lst [.int ((rvs.length : Int) - 1)]) := upd_same
    have x2 := x1.loc (o := .tup [.ref f, .int 0]) ht
    have hf2 := (upd_ne (o := HO.tup [V.ref f, V.int 0]) (ne_of_none hf1 ht)).trans hf1
    refine ⟨t, _, rfl, SqT.of upd_same, rfl, _, _, rfl, _, _, rfl, rfl, ?_⟩
    generalize upd (upd H f (.lst [.int ((rvs.length : Int) - 1)])) t (.tup [.ref f, .int 0]) = H2 at x2 hf2 ⊢
    rw [e1] at hf2
    refine while_st (α := List Nat × Nat) (a0 := ([A.length - 1], 0)) (MV G H (.ref a) A) (fun s => 61 - s.2) ⟨f, ⟨_, _, _, rfl⟩, x2, hf2, nf, M84.MI.start A⟩ ?_ ?_
    · rintro s σ H3 ⟨f, ⟨x3, x4, x5, rfl⟩, y3, hf, nf, mi⟩
      refine ⟨_, rfl, _, rfl, f, _, rfl, .inl (SqL.of hf), _, _, rfl, rfl, _, rfl, ?_⟩
      obtain ⟨l60, llt⟩ := mi.len vA nA
      rw [iN_len]
      by_cases hlt : s.2 < s.1.length
      · have ed : decide (((s.2 : Nat) : Int) < ((s.1.length : Nat) : Int)) = true := decide_eq_true (by omega)
        rw [ed]
        obtain ⟨o, ho⟩ := M84.some_at hlt
        have hol := llt o (List.mem_of_getElem? ho)
        obtain ⟨r, er⟩ := M84.some_at hol
        obtain ⟨rw_, erv, hrv⟩ := dtAll_get' hd (i := o) (d := rowL r) (by rw [List.getElem?_map, er] <;> rfl)
        obtain ⟨p, c, d, rfl, hp, hc, hdd⟩ := dt_rowL hrv
        obtain ⟨v1, v2⟩ := vA o r er
        obtain ⟨s1, s2⟩ := sA r (List.mem_of_getElem? er)
        have mi' := mi.step vA hlt
        have emv : M84.mv A (s.1.getD s.2 0) = r.1 ++ r.2 := by unfold M84.mv; rw [M84.getD_some ho, M84.getD_some er]
        refine iteT ⟨_, rfl, _, rfl, _, rfl, f, _, _, _, rfl, rfl, SqL.of hf, atN (iN_get ho), a, rvs, _, _, rfl, rfl, SqL.of (y3.gh _ _ ha), atN erv, p, _, rfl, SqT.of (y3.gh _ _ hp), rfl, _, _, rfl, _, _, rfl, rfl, ?_⟩
        refine ⟨_, rfl, _, rfl, _, rfl, c, d, _, _, rfl, rfl, y3.gh _ _ hc, y3.gh _ _ hdd, by rw [iN_len, iN_len]; exact Nat.le_of_lt (small1000 (by omega)), fun p1 hp1 => ?_⟩
        have el : iN r.1 ++ iN r.2 = iN (r.1 ++ r.2) := by
          show _ = (r.1 ++ r.2).map (fun n : Nat => V.int (n : Int))
          rw [List.map_append]
        rw [el]
        have y4 := y3.loc (o := .lst (iN (r.1 ++ r.2))) hp1
        have h4 : upd H3 p1 (.lst (iN (r.1 ++ r.2))) p1 = some (.lst (iN (r.1 ++ r.2))) := upd_same
        have hf4 := (upd_ne (o := HO.lst (iN (r.1 ++ r.2))) (ne_of_none hf hp1)).trans hf
        generalize upd H3 p1 (.lst (iN (r.1 ++ r.2))) = H4 at y4 h4 hf4 ⊢
        dsimp only [tCB, tCons, tNil]
        refine set_step (r.1 ++ r.2) (SqL.of h4) (by rw [List.length_append]; omega) fun t1 n1 Ha sa _ ln nk ha1 => ?_
        have en := set_size nk
        have lu : (M84.uniq (r.1 ++ r.2)).length ≤ 60 := by
          have h1 := M84.nodup_len (n := A.length) (M84.asc_nodup (M84.asc_uniq (r.1 ++ r.2))) fun x hx => by
            rcases List.mem_append.mp (M84.mem_uniq.mp hx) with q | q
            · exact Nat.lt_trans (v1 x q) hol
            · exact Nat.lt_trans (v2 x q) hol
          omega
        refine srt_step (r.1 ++ r.2) ha1 (by omega) fun t2 Hb sb _ hb1 => ?_
        have y5 := y4.trans (Ex.of_same y4.gh (sa.trans sb))
        have hf5 := (sa.trans sb) _ _ hf4
        refine ⟨t2, rfl, ⟨_, SqL.of hb1⟩, fun D hD => lcL (fun v => v) (liftP fun x => !(decide (x ∈ s.1))) (SqL.of hb1) hD (by rw [iN_len]; exact Nat.le_of_lt (small1000 (by omega))) (fun _ => rfl) (fun x H7 Q' hx s7 q => ?_) (fun x H7 Q' hx _ s7 q => ⟨_, rfl, q⟩) ?_⟩
        · obtain ⟨m, hm, rfl⟩ := of_iN_mem hx
          refine ⟨_, rfl, _, rfl, nD m, s.1.map nD, .int _, (lN_dt (s7 _ _ hf5)).dp, shaped_nD _, shaped_lN _, _, rfl, ?_⟩
          have q' : Q' (!(decide (m ∈ s.1))) H7 := q
          by_cases h1 : m ∈ s.1
          · rw [any_yes eqv_nD h1]
            rw [decide_eq_true h1] at q'
            exact q'
          · rw [any_no eqv_nD h1]
            rw [decide_eq_false h1] at q'
            exact q'
        · rw [filt_iN, List.map_id']
          have y6 := y5.loc (o := .lst (iN ((M84.uniq (r.1 ++ r.2)).filter fun x => !(decide (x ∈ s.1))))) hD
          have h6 : upd Hb D (.lst (iN ((M84.uniq (r.1 ++ r.2)).filter fun x => !(decide (x ∈ s.1))))) D = some (.lst (iN ((M84.uniq (r.1 ++ r.2)).filter fun x => !(decide (x ∈ s.1))))) := upd_same
          have hf6 := (upd_ne (o := HO.lst (iN ((M84.uniq (r.1 ++ r.2)).filter fun x => !(decide (x ∈ s.1))))) (ne_of_none hf5 hD)).trans hf5
          have lfl := List.length_filter_le (fun x => !(decide (x ∈ s.1))) (M84.uniq (r.1 ++ r.2))
          generalize upd Hb D (.lst (iN ((M84.uniq (r.1 ++ r.2)).filter fun x => !(decide (x ∈ s.1))))) = H6 at y6 h6 hf6 ⊢
          refine ⟨f, D, _, _, rfl, rfl, hf6, h6, by rw [iN_len, iN_len]; exact Nat.le_of_lt (small1000 (by omega)), fun p2 hp2 => ?_⟩
          have y7 := y6.loc (o := .lst (iN s.1 ++ iN ((M84.uniq (r.1 ++ r.2)).filter fun x => !(decide (x ∈ s.1))))) hp2
          refine ⟨_, rfl, _, _, rfl, rfl, M84.metS A s, ?_, p2, ⟨some (.ref c), some (.ref d), x5, ?_⟩, y7, ?_, y6.free hp2, mi'⟩
          · show 61 - (s.2 + 1) < 61 - s.2
            omega
          · have e2 : (((M84.metS A s).2 : Nat) : Int) = (s.2 : Int) + 1 := by unfold M84.metS; dsimp only; omega
            rw [e2] <;> rfl
          · rw [upd_same]
            refine congrArg (fun z => some (HO.lst z)) ?_
            unfold M84.metS
            rw [emv]
            show _ = (s.1 ++ _).map (fun n : Nat => V.int (n : Int))
            rw [List.map_append]
      · have ed : decide (((s.2 : Nat) : Int) < ((s.1.length : Nat) : Int)) = false := decide_eq_false (by omega)
        rw [ed]
        exact iteF ⟨_, rfl, k s.1 _ _ f (mi.fin vA hlt) (y3.frz nf hf (same_free e nf)) upd_same⟩
    · rintro s σ H3 Q1 Q2 _ hq h
      obtain ⟨v, e1, u, e2, p, ys, e3, h1, i, j, h2, h3, c, ec, h4⟩ := h
      exact ⟨v, e1, u, e2, p, ys, e3, h1, i, j, h2, h3, c, ec, hq _ _ h4⟩
def spLLeast : Sp := fun vs H Q _ => ∃ (G : Hp) (v : V) (A : List Rw), vs = [v] ∧ Same G H ∧ Dt G v (rowsL A) ∧ M84.Val A ∧ A ≠ [] ∧ A.length ≤ 60 ∧ M84.SideP (· < 64) A ∧ ∀ G' H', Ex M0 G H G' H' → Q (.bl (M84.canB (M84.lastT A))) H'
def LO (G H : Hp) (v u : V) (A : List Rw) (l : List Nat) (i : Nat) (σ : L2.St) (H' : Hp) : Prop := (∃ x2 x3 x4 x5 x6, σ = [some v, some u, x2, x3, x4, x5, x6]) ∧ Ex M0 G H G H' ∧ (l.take i).all (M84.okNode A) = true
def LI2 (G H : Hp) (v u : V) (n : Nat) (g : Addr) (xs : List V) (ok : Nat → Bool) (j : Nat) (σ : L2.St) (H' : Hp) : Prop := (∃ x3 x4 x5 x6, σ = [some v, some u, some (.int (n : Int)), x3, x4, x5, x6]) ∧ Ex M0 G H G H' ∧ H' g = some (.lst xs) ∧ ∀ i, i < j → ok i = true
theorem sc_law_is_least : FnScope ["_law_rows_here", "_law_above", "_law_number", "_law_moves", "_law_is_ours", "_law_at", "_law_move"] ["_law_rows_here"] (defScope s_law_is_least) := ⟨rfl, rfl, rfl, by decide +kernel, rfl, by decide +kernel, by decide +kernel⟩
theorem ok_lleast (T : TX K mg) : DefOk P w K mg base 2 "_law_is_least" ["_law_rows_here"] spLLeast := by
  have D_law_orders := ok_orders (P := P) (w := w) (base := base) T
  have D_law_met := ok_met (P := P) (w := w) (base := base) T
  have D_law_is_needless := ok_needless (P := P) (w := w) (base := base) T
  have D_law_is_round := ok_round (P := P) (w := w) (base := base) T
  obtain ⟨fd, F⟩ := T.d_law_is_least
  refine ⟨fd, F.ok sc_law_is_least (fun vs H Q E h => ?_) (fun cdv A outer s H vs Q E hr h => ⟨_, PSs.nox (pss_cons (ps_set (i := 1) sc_law_is_least.nd rfl (Or.inr rfl) (pe_ix (ixt K) (pe_d D_law_orders (hr.mono (by decide)) (pa_cons (pv 0) (pa_cons (pv 0) pa_nil))) pe_int (fun _ _ => rfl)))
  (pss_cons (ps_for PassesOwn.never rfl (pi_list (pe_d D_law_met (hr.mono (by decide)) (pa_cons (pv 0) pa_nil))) (pg_name (i := 2) sc_law_is_least.nd rfl (Or.inr rfl))
    (pss_one (ps_for PassesOwn.never rfl (pi_list (pe_lst (pa_cons (pe_tup (pa_cons (pe_ix (ixt K) (pe_ix (ixl K) (pv 0) (pv 2) (fun _ _ => rfl)) pe_int (fun _ _ => rfl)) (pa_cons pe_bl pa_nil))) (pa_cons (pe_tup (pa_cons (pe_ix (ixt K) (pe_ix (ixl K) (pv 0) (pv 2) (fun _ _ => rfl)) pe_int (fun _ _ => rfl)) (pa_cons pe_bl pa_nil))) pa_nil)))) (pg_tup rfl (pgs_cons (pg_name (i := 3) sc_law_is_least.nd rfl (Or.inr rfl)) (pgs_cons (pg_name (i := 4) sc_law_is_least.nd rfl (Or.inr rfl)) pgs_nil)))
    (pss_cons (ps_if (pt_val (pe_callB (anyK K) (by rfl) T.f_any (by decide +kernel) (pa_cons (pe_lc (own := [("_law_at", 5)]) (g := gName 5) (tt := tYes) rfl sc_law_is_least.nd (pi_range1 rfl T.f_range (pa_cons (pe_callB (lenS K) (by rfl) T.f_len (by decide +kernel) (pa_cons (pv 3) pa_nil)) pa_nil)) (blkOk_by (own := [("_law_at", 5)]) (N := ["_law_rows_here", "_law_above", "_law_number", "_law_moves", "_law_is_ours", "_law_at", "_law_move"]) (sc := defScope s_law_is_least) (by decide +kernel)) (fun _ _ _ _ _ => (pg_name (i := 5) sc_law_is_least.nd rfl (Or.inl rfl))) (fun _ _ _ _ _ => pts_nil) (fun _ _ _ _ _ => (pe_d D_law_is_needless (hr.mono (by decide)) (pa_cons (pv 1) (pa_cons (pv 3) (pa_cons (pv 5) (pa_cons (pv 4) pa_nil))))))) pa_nil)))
    (pss_one (ps_ret pe_bl))
    pss_nil)
  (pss_one (ps_if (pt_val (pe_callB (anyK K) (by rfl) T.f_any (by decide +kernel) (pa_cons (pe_lc (own := [("_law_move", 6)]) (g := gName 6) (tt := tYes) rfl sc_law_is_least.nd (pi_list (pv 3)) (blkOk_by (own := [("_law_move", 6)]) (N := ["_law_rows_here", "_law_above", "_law_number", "_law_moves", "_law_is_ours", "_law_at", "_law_move"]) (sc := defScope s_law_is_least) (by decide +kernel)) (fun _ _ _ _ _ => (pg_name (i := 6) sc_law_is_least.nd rfl (Or.inl rfl))) (fun _ _ _ _ _ => pts_nil) (fun _ _ _ _ _ => (pe_d D_law_is_round (hr.mono (by decide)) (pa_cons (pv 0) (pa_cons (pv 1) (pa_cons (pv 2) (pa_cons (pv 6) (pa_cons (pv 4) pa_nil)))))))) pa_nil)))
    (pss_one (ps_ret pe_bl))
    pss_nil))))))
  (pss_one (ps_ret pe_bl)))), ?_⟩), T.g_law_is_least, F.kp, F.bindsN fun _ _ _ _ _ _ us hl => match us, hl with | [_], _ => rfl⟩
  · obtain ⟨_, v, _, rfl, _⟩ := h
    rfl
  · obtain ⟨G, v, A, rfl, e, hv, vA, nA, lA, sA, k⟩ := h
    refine ⟨_, rfl, _, rfl, G, v, v, A, A, rfl, e, hv, hv, vA, vA, lA, lA, sA, sA, fun G1 H1 t x1 ht => ?_⟩
    obtain ⟨ta, xs, rfl, hta, hxs⟩ := dt_tup ht
    cases hxs with
    | @cons u vs' _ _ d1 hxs =>
      have hv1 := dt_mono x1.g hv
      refine ⟨ta, _, _, _, rfl, rfl, SqT.of (x1.gh _ _ hta), atN (j := 0) rfl, ?_⟩
      refine ⟨_, rfl, G1, v, A, rfl, x1.gh, hv1, vA, nA, lA, sA, fun l G2 H2 p mo x2 hp => ?_⟩
      have x12 := x1.trans x2
      have hv2 := dt_mono x2.g hv1
      have tabU := dt_mono x2.g d1
      obtain ⟨a, rvs, rfl, ha, hd⟩ := dt_lst hv2
      have pA := List.length_pos_iff.mpr nA
      have lfin := M84.least_iff vA nA mo
      have no : ∀ n, n ∈ l → M84.okNode A n = false → ∀ H', Ex M0 G2 H2 G2 H' → Q (.bl false) H' := fun n hn hf H' x => by
        have q := k G2 H' (x12.trans x)
        have e1 : l.all (M84.okNode A) = false := List.all_eq_false.mpr ⟨n, hn, by rw [hf]; decide⟩
        rw [← lfin, e1] at q
        exact q
      refine ⟨p, rfl, ⟨_, SqL.of (x2.gh _ _ hp)⟩, for_list (K := K) (a := p) (xs := iN l) (LO G2 H2 (.ref a) u A l) ⟨⟨_, _, _, _, _, rfl⟩, Ex.rfl' x2.gh, by rw [List.take_zero] <;> rfl⟩ (fun i σ H' _ h => SqL.of (h.2.1.gh _ _ hp)) ?_ ?_⟩
      · rintro i x σ H3 hi ⟨⟨z2, z3, z4, z5, z6, rfl⟩, x3, hall⟩
        obtain ⟨n, en, rfl⟩ := of_iN hi
        have hn := List.mem_of_getElem? en
        have hnl : n < A.length := ((mo.mem n).mp hn).lt vA (by omega)
        obtain ⟨r, er⟩ := M84.some_at hnl
        obtain ⟨rw_, erv, hrv⟩ := dtAll_get' hd (i := n) (d := rowL r) (by rw [List.getElem?_map, er] <;> rfl)
        obtain ⟨q, o, th, rfl, hq, ho, hth⟩ := dt_rowL hrv
        obtain ⟨v1, v2⟩ := vA n r er
        obtain ⟨s1, s2⟩ := sA r (List.mem_of_getElem? er)
        have erow : M84.row A n = r := M84.row_at er
        refine ⟨_, rfl, _, rfl, a, rvs, _, _, rfl, rfl, SqL.of (x3.gh _ _ ha), atN erv, q, _, _, _, rfl, rfl, SqT.of (x3.gh _ _ hq), atN (j := 0) rfl, by show 2 ≤ sizeLine; decide, fun t1 ht1 => ?_⟩
        have y1 := x3.loc (o := .tup [.ref o, .bl true]) ht1
        have g1 : upd H3 t1 (.tup [.ref o, .bl true]) t1 = some (.tup [.ref o, .bl true]) := upd_same
        generalize upd H3 t1 (.tup [.ref o, .bl true]) = H4 at y1 g1 ⊢
        refine ⟨_, rfl, _, rfl, a, rvs, _, _, rfl, rfl, SqL.of (y1.gh _ _ ha), atN erv, q, _, _, _, rfl, rfl, SqT.of (y1.gh _ _ hq), atN (j := 1) rfl, by show 2 ≤ sizeLine; decide, fun t2 ht2 => ?_⟩
        have y2 := y1.loc (o := .tup [.ref th, .bl false]) ht2
        have g2 : upd H4 t2 (.tup [.ref th, .bl false]) t2 = some (.tup [.ref th, .bl false]) := upd_same
        have g12 := (upd_ne (o := HO.tup [V.ref th, V.bl false]) (ne_of_none g1 ht2)).trans g1
        generalize upd H4 t2 (.tup [.ref th, .bl false]) = H5 at y2 g2 g12 ⊢
        refine ⟨by show 2 ≤ sizeLine; decide, fun g hg => ?_⟩
        have y3 := y2.loc (o := .lst [.ref t1, .ref t2]) hg
        have g3 : upd H5 g (.lst [.ref t1, .ref t2]) g = some (.lst [.ref t1, .ref t2]) := upd_same
        have kp : ∀ {b : Addr} {u : HO}, H5 b = some u → upd H5 g (.lst [.ref t1, .ref t2]) b = some u := fun h => (upd_ne (ne_of_none h hg)).trans h
        have g13 := kp g12
        have g23 := kp g2
        generalize upd H5 g (.lst [.ref t1, .ref t2]) = H6 at y3 g3 g13 g23 ⊢
        -- base for the inner walk: H6
        have sd : ∀ j, j < 2 → ∃ (mm : List Nat) (bb : Bool) (oo tt : Addr), [V.ref t1, V.ref t2][j]? = some (.ref tt) ∧ H6 tt = some (.tup [.ref oo, .bl bb]) ∧ G2 oo = some (.lst (iN mm)) ∧ mm.length < 64 ∧ (∀ x ∈ mm, x < A.length) ∧ (j = 0 → mm = r.1 ∧ bb = true) ∧ (j = 1 → mm = r.2 ∧ bb = false) := fun j hj => by
          match j, hj with
          | 0, _ => exact ⟨r.1, true, o, t1, rfl, g13, ho, s1, fun x hx => Nat.lt_trans (v1 x hx) hnl, fun _ => ⟨rfl, rfl⟩, fun z => (nomatch z)⟩
          | 1, _ => exact ⟨r.2, false, th, t2, rfl, g23, hth, s2, fun x hx => Nat.lt_trans (v2 x hx) hnl, fun z => (nomatch z), fun _ => ⟨rfl, rfl⟩⟩
        have ok0 : ∀ j, (j = 0 → M84.okSide A n r.1 true = false) → (j = 1 → M84.okSide A n r.2 false = false) → j < 2 → M84.okNode A n = false := fun j h0 h1 hj => by
          unfold M84.okNode
          rw [erow]
          match j, hj with
          | 0, _ => rw [h0 rfl, Bool.false_and]
          | 1, _ => rw [h1 rfl, Bool.and_false]
        refine ⟨g, rfl, ⟨_, SqL.of g3⟩, for_list (K := K) (a := g) (xs := [.ref t1, .ref t2]) (fun j σ H' => (∃ x3 x4 x5 x6, σ = [some (.ref a), some u, some (.int (n : Int)), x3, x4, x5, x6]) ∧ Ex M0 G2 H6 G2 H' ∧ (1 ≤ j → M84.okSide A n r.1 true = true) ∧ (2 ≤ j → M84.okSide A n r.2 false = true)) ⟨⟨_, _, _, _, rfl⟩, Ex.rfl' y3.gh, fun z => absurd z (by decide), fun z => absurd z (by decide)⟩ (fun j σ H' _ h => SqL.of (h.2.1.same _ _ g3)) ?_ ?_⟩
        · rintro j x σ H7 hj ⟨⟨w3, w4, w5, w6, rfl⟩, x7, ok1, ok2⟩
          have hj2 : j < 2 := M84.lt_of_some hj
          obtain ⟨mm, bb, oo, tt, ett, htt, hoo, lm, inm, c0, c1⟩ := sd j hj2
          rw [ett] at hj
          have ex := Option.some.inj hj
          subst ex
          have x27 := y3.trans x7
          refine ⟨tt, _, rfl, SqT.of (x7.same _ _ htt), rfl, _, _, rfl, _, _, rfl, rfl, ?_⟩
          refine ⟨_, rfl, oo, _, rfl, .inl (SqL.of (x7.gh _ _ hoo)), _, rfl, by rw [iN_len]; omega, by rw [iN_len]; omega, ?_⟩
          rw [Int.toNat_natCast, iN_len]
          intro D hD
          refine lcR (R := RB) rb_mono (walk_rg (lo := 0) (n := mm.length) rfl) ((List.range mm.length).map fun at_ => M84.needlessR A mm at_ bb) (by rw [List.length_map, List.length_map]) (by rw [List.length_map, List.length_range]; exact sz63 lm) x7.gh hD (fun _ _ => trivial) (fun _ => rfl) (fun jj x b' G' H' Q' ex eb xx q => ?_) fun G8 H8 ws x8 gD hD8 rl => ?_
          · have hjj : jj < mm.length := by
              have := M84.lt_of_some ex
              rw [List.length_map, List.length_range] at this
              exact this
            rw [List.getElem?_map, List.getElem?_range hjj] at ex eb
            have ex' : V.int (0 + (jj : Nat)) = x := Option.some.inj ex
            rw [Int.zero_add] at ex'
            subst ex'
            have eb' := Option.some.inj eb
            refine ⟨_, rfl, _, rfl, _, rfl, _, rfl, G', u, oo, A, mm, jj, bb, rfl, xx.gh, dt_mono xx.g tabU, xx.g _ _ hoo, hjj, inm, lm, fun G'' H'' x9 => q G'' H'' _ x9 (by rw [← eb']; exact rfl)⟩
          · rw [rl.bl] at hD8
            refine ⟨D, _, rfl, SqL.of hD8, _, rfl, ?_⟩
            have x8' : Ex M0 G2 H7 G2 H8 := Ex.of_same x7.gh x8.same
            have bad : M84.okSide A n mm bb = false → ∀ H', Ex M0 G2 H2 G2 H' → Q (.bl false) H' := fun hf H' x => no n hn (ok0 j (fun z => by
              obtain ⟨c1', c2'⟩ := c0 z
              rw [c1', c2'] at hf; exact hf) (fun z => by
              obtain ⟨c1', c2'⟩ := c1 z
              rw [c1', c2'] at hf; exact hf) hj2) H' x
            cases hS1 : ((List.range mm.length).map fun at_ => M84.needlessR A mm at_ bb).any id with
            | true =>
              refine iteT (bad ?_ H8 (x27.trans x8'))
              unfold M84.okSide
              rw [hS1] <;> rfl
            | false =>
              have x28 := x27.trans x8'
              refine iteF ⟨_, rfl, oo, rfl, ⟨_, SqL.of (x8'.gh _ _ hoo)⟩, fun D2 hD2 => ?_⟩
              refine lcR (R := RB) rb_mono (walk_list (K := K) (a := oo) (xs := iN mm)) (mm.map fun m => M84.roundR A n m bb) (by rw [List.length_map, iN_len]) (by rw [iN_len]; exact sz63 lm) x8'.gh hD2 (fun H' s' => SqL.of (s' _ _ (x8'.gh _ _ hoo))) (fun _ => rfl) (fun jj x b' G' H' Q' ex eb xx q => ?_) fun G9 H9 ws x9 gD2 hD9 rl => ?_
              · obtain ⟨m, em, rfl⟩ := of_iN ex
                rw [List.getElem?_map, em] at eb
                have eb' := Option.some.inj eb
                refine ⟨_, rfl, _, rfl, _, rfl, _, rfl, _, rfl, G', .ref a, u, A, n, m, bb, rfl, xx.gh, dt_mono xx.g hv2, dt_mono xx.g tabU, vA, hnl, inm m (List.mem_of_getElem? em), sA, fun G'' H'' x9 => q G'' H'' _ x9 (by rw [← eb']; exact rfl)⟩
              · rw [rl.bl] at hD9
                have x9' : Ex M0 G2 H8 G2 H9 := Ex.of_same x8'.gh x9.same
                refine ⟨D2, _, rfl, SqL.of hD9, _, rfl, ?_⟩
                cases hS2 : (mm.map fun m => M84.roundR A n m bb).any id with
                | true =>
                  refine iteT (bad ?_ H9 (x28.trans x9'))
                  unfold M84.okSide
                  rw [hS1, hS2] <;> rfl
                | false =>
                  have good : M84.okSide A n mm bb = true := by
                    unfold M84.okSide
                    rw [hS1, hS2] <;> rfl
                  refine iteF ⟨⟨_, _, _, _, rfl⟩, (x7.trans x8').trans x9', fun z => ?_, fun z => ?_⟩
                  · by_cases hj0 : j = 0
                    · obtain ⟨c1', c2'⟩ := c0 hj0
                      rw [c1', c2'] at good; exact good
                    · exact ok1 (by omega)
                  · have hj1 : j = 1 := by omega
                    obtain ⟨c1', c2'⟩ := c1 hj1
                    rw [c1', c2'] at good; exact good
        · rintro σ H7 ⟨⟨w3, w4, w5, w6, rfl⟩, x7, ok1, ok2⟩
          refine ⟨⟨_, _, _, _, _, rfl⟩, y3.trans x7, ?_⟩
          have e1 : M84.okNode A n = true := by
            unfold M84.okNode
            rw [erow, ok1 (Nat.le_succ 1), ok2 (Nat.le_refl 2)] <;> rfl
          rw [take_snoc en, List.all_append, hall, List.all_cons, e1] <;> rfl
      · rintro σ H3 ⟨⟨z2, z3, z4, z5, z6, rfl⟩, x3, hall⟩
        rw [iN_len, List.take_length] at hall
        have q := k G2 H3 (x12.trans x3)
        rw [← lfin, hall] at q
        exact q
end
end G84

namespace G84
open PySem PySem.Spec PyProof.Rows L2
/-! WL: the order of the marks. -/
structure STO {α : Type} (lt : α → α → Bool) : Prop where
  irr : ∀ a, lt a a = false
  tr : ∀ a b c, lt a b = true → lt b c = true → lt a c = true
  tri : ∀ a b, a ≠ b → lt a b = true ∨ lt b a = true
open PySem.W in
theorem sto_int : STO (α := Int) DatumOrd.lt := by
  refine ⟨fun a => ?_, fun a b c h1 h2 => ?_, fun a b h => ?_⟩
  · exact decide_eq_false (Int.lt_irrefl a)
  · have h1' : a < b := of_decide_eq_true h1
    have h2' : b < c := of_decide_eq_true h2
    exact decide_eq_true (Int.lt_trans h1' h2')
  · rcases Int.lt_or_gt_of_ne h with q | q
    · exact .inl (decide_eq_true q)
    · exact .inr (decide_eq_true q)
section
open PySem.W
variable {α β : Type} [DecidableEq α] [DatumOrd α] [DecidableEq β] [DatumOrd β]
theorem sto_list (h : STO (α := α) DatumOrd.lt) : STO (α := List α) listLt := by
  refine ⟨fun a => ?_, ?_, ?_⟩
  · induction a with
    | nil => rfl
    | cons x xs ih => rw [listLt, if_pos rfl]; exact ih
  · intro a
    induction a with
    | nil =>
      intro b c h1 h2
      cases c with
      | nil => cases b <;> simp [listLt] at h1 h2
      | cons z zs => rfl
    | cons x xs ih =>
      intro b c h1 h2
      cases b with
      | nil => simp [listLt] at h1
      | cons y ys =>
        cases c with
        | nil => simp [listLt] at h2
        | cons z zs =>
          rw [listLt] at h1 h2 ⊢
          by_cases e1 : x = y
          · subst e1
            rw [if_pos rfl] at h1
            by_cases e2 : x = z
            · subst e2
              rw [if_pos rfl] at h2 ⊢
              exact ih ys zs h1 h2
            · rw [if_neg e2] at h2 ⊢; exact h2
          · rw [if_neg e1] at h1
            by_cases e2 : y = z
            · subst e2
              rw [if_neg e1]; exact h1
            · rw [if_neg e2] at h2
              have h3 := h.tr _ _ _ h1 h2
              by_cases e3 : x = z
              · subst e3
                rw [h.irr] at h3; cases h3
              · rw [if_neg e3]; exact h3
  · intro a
    induction a with
    | nil =>
      intro b hb
      cases b with
      | nil => exact absurd rfl hb
      | cons y ys => exact .inl rfl
    | cons x xs ih =>
      intro b hb
      cases b with
      | nil => exact .inr rfl
      | cons y ys =>
        rw [listLt, listLt]
        by_cases e : x = y
        · subst e
          rw [if_pos rfl, if_pos rfl]
          exact ih ys fun z => hb (by rw [z])
        · rw [if_neg e, if_neg (fun z => e z.symm)]
          exact h.tri x y e
theorem sto_tup (h : STO (α := α) DatumOrd.lt) : STO (α := Tup α) DatumOrd.lt := by
  have hl := sto_list h
  refine ⟨fun a => hl.irr a.items, fun a b c => hl.tr a.items b.items c.items, fun a b ne => hl.tri a.items b.items fun e => ne ?_⟩
  cases a
  cases b
  cases e
  rfl
theorem sto_pair (h : STO (α := α) DatumOrd.lt) (k : STO (α := β) DatumOrd.lt) : STO (α := α × β) DatumOrd.lt := by
  have el : ∀ p q : α × β, DatumOrd.lt p q = if p.1 = q.1 then DatumOrd.lt p.2 q.2 else DatumOrd.lt p.1 q.1 := fun _ _ => rfl
  refine ⟨fun a => ?_, fun a b c h1 h2 => ?_, fun a b ne => ?_⟩
  · rw [el, if_pos rfl]; exact k.irr _
  · rw [el] at h1 h2 ⊢
    by_cases e1 : a.1 = b.1
    · rw [if_pos e1] at h1
      by_cases e2 : b.1 = c.1
      · rw [if_pos e2] at h2
        rw [if_pos (e1.trans e2)]
        exact k.tr _ _ _ h1 h2
      · rw [if_neg e2] at h2
        rw [if_neg (by rw [e1]; exact e2), e1]
        exact h2
    · rw [if_neg e1] at h1
      by_cases e2 : b.1 = c.1
      · rw [← e2, if_neg e1]; exact h1
      · rw [if_neg e2] at h2
        have h3 := h.tr _ _ _ h1 h2
        by_cases e3 : a.1 = c.1
        · rw [e3, h.irr] at h3; cases h3
        · rw [if_neg e3]; exact h3
  · rw [el, el]
    by_cases e : a.1 = b.1
    · rw [if_pos e, if_pos e.symm]
      exact k.tri _ _ fun z => ne (Prod.ext e z)
    · rw [if_neg e, if_neg (fun z => e z.symm)]
      exact h.tri _ _ e
end
section
open PySem.W
abbrev MkT : Type := (Tup Int × Tup Int) × Int
def mkT (m : M84.Mk) : MkT := ((⟨m.1.1.map fun n : Nat => (n : Int)⟩, ⟨m.1.2.map fun n : Nat => (n : Int)⟩), (m.2 : Int))
theorem cast_inj : ∀ {a b : List Nat}, a.map (fun n : Nat => (n : Int)) = b.map (fun n : Nat => (n : Int)) → a = b
  | [], [], _ => rfl
  | [], _ :: _, h => by simp at h
  | _ :: _, [], h => by simp at h
  | a :: as, b :: bs, h => by
    rw [List.map_cons, List.map_cons, List.cons.injEq] at h
    have : a = b := by omega
    rw [this, cast_inj h.2]
theorem mkT_fst {a b : M84.Mk} (h : (mkT a).1 = (mkT b).1) : a.1 = b.1 := by
  have h1 := Prod.mk.inj h
  have e1 := Tup.mk.inj h1.1
  have e2 := Tup.mk.inj h1.2
  exact Prod.ext (cast_inj e1) (cast_inj e2)
theorem mkT_d (m : M84.Mk) : (Datum.toD (mkT m) : PyData) = mkD m := by
  have e : ∀ l : List Nat, (PyData.tuple ((l.map fun n : Nat => (n : Int)).map Datum.toD)) = tN l := fun l => by
    unfold tN
    rw [List.map_map] <;> rfl
  show PyData.tuple [PyData.tuple [PyData.tuple _, PyData.tuple _], PyData.int _] = PyData.tuple [PyData.tuple [tN m.1.1, tN m.1.2], nD m.2]
  rw [← e, ← e] <;> rfl
theorem leM_eq (a b : M84.Mk) : leM a b = !(DatumOrd.lt (mkT b) (mkT a)) := by
  show PySem.W.dataLe false mkD a b = _
  rw [PySem.W.dataLe_eq]
  show (!dataLt (mkD b) (mkD a)) = _
  rw [← mkT_d, ← mkT_d, DatumOrd.lt_eq]
theorem sto_mkT : STO (α := MkT) DatumOrd.lt := sto_pair (sto_pair (sto_tup sto_int) (sto_tup sto_int)) sto_int
theorem leM_ok : M84.LeOk leM := by
  have S := sto_mkT
  have el : ∀ p q : MkT, DatumOrd.lt p q = if p.1 = q.1 then DatumOrd.lt p.2 q.2 else DatumOrd.lt p.1 q.1 := fun _ _ => rfl
  refine ⟨fun a b c h1 h2 => ?_, fun a b => ?_, fun m m' k k' j j' ne => ?_, fun m m' k k' ne h1 h2 => ?_⟩
  · rw [leM_eq, Bool.not_eq_true'] at h1 h2 ⊢
    cases h3 : DatumOrd.lt (mkT c) (mkT a) with
    | false => rfl
    | true =>
      by_cases e : mkT a = mkT b
      · rw [e, h2] at h3; cases h3
      · rcases S.tri _ _ e with q | q
        · have := S.tr _ _ _ h3 q
          rw [h2] at this; cases this
        · rw [h1] at q; cases q
  · rw [leM_eq, leM_eq]
    cases h1 : DatumOrd.lt (mkT b) (mkT a) with
    | false => rfl
    | true =>
      cases h2 : DatumOrd.lt (mkT a) (mkT b) with
      | false => rfl
      | true =>
        have := S.tr _ _ _ h1 h2
        rw [S.irr] at this; cases this
  · have n1 : ∀ x y : Nat, ¬ (mkT (m', x)).1 = (mkT (m, y)).1 := fun x y z => ne (mkT_fst z).symm
    rw [leM_eq, leM_eq, el, el, if_neg (n1 _ _), if_neg (n1 _ _)] <;> rfl
  · rw [leM_eq, Bool.not_eq_true'] at h1 h2
    have n1 : mkT (m, k) ≠ mkT (m', k') := fun z => ne (mkT_fst (congrArg Prod.fst z))
    rcases S.tri _ _ n1 with q | q
    · rw [h2] at q; cases q
    · rw [h1] at q; cases q
end
end G84

namespace G84
open PySem PySem.Spec PyProof.Rows L2
/-! W27: telling a heap. -/
def PM (hl rl : Addr) : Addr → Prop := fun b => b = hl ∨ b = rl
structure PS (K : PySem.W.Frag) (G H : Hp) (hl rl : Addr) (N0 : List Rw) (Hs : List (List Rw)) (js : List Nat) (R : List Rw) : Prop where
  e : Same G H
  h : ∃ hvs, H hl = some (.lst hvs) ∧ RL (HpI K) G hvs Hs
  r : ∃ rvs, H rl = some (.lst rvs) ∧ DtAll G rvs (R.map rowL)
  gh : G hl = none
  gr : G rl = none
  ne : hl ≠ rl
  p : M84.PI N0 Hs js R
section
variable {K : PySem.W.Frag} {G H G' H' : Hp} {hl rl D : Addr} {N0 R : List Rw} {Hs : List (List Rw)} {js : List Nat} {o : HO}
theorem PS.keep (S : PS K G H hl rl N0 Hs js R) (x : Ex M0 G H G' H') : PS K G' H' hl rl N0 Hs js R := by
  obtain ⟨hvs, h1, h2⟩ := S.h
  obtain ⟨rvs, r1, r2⟩ := S.r
  exact ⟨x.gh, ⟨hvs, x.same _ _ h1, h2.mono (hpI_mono K) x.g⟩, ⟨rvs, x.same _ _ r1, dtAll_mono x.g r2⟩, x.fr _ (by rw [h1]; exact fun z => nomatch z) S.gh, x.fr _ (by rw [r1]; exact fun z => nomatch z) S.gr, S.ne, S.p⟩
theorem PS.neh (S : PS K G H hl rl N0 Hs js R) (hD : H D = none) : ¬ PM hl rl D := by
  obtain ⟨hvs, h1, h2⟩ := S.h
  obtain ⟨rvs, r1, r2⟩ := S.r
  rintro (z | z)
  · rw [z, h1] at hD; cases hD
  · rw [z, r1] at hD; cases hD
theorem PS.put (S : PS K G H hl rl N0 Hs js R) (g : G D = none) (n : ¬ PM hl rl D) : PS K G (upd H D o) hl rl N0 Hs js R := by
  obtain ⟨hvs, h1, h2⟩ := S.h
  obtain ⟨rvs, r1, r2⟩ := S.r
  exact ⟨fun b u e => by rw [upd_ne (ne_of_none e g)]; exact S.e b u e, ⟨hvs, by rw [upd_ne fun z => n (.inl z.symm)]; exact h1, h2⟩, ⟨rvs, by rw [upd_ne fun z => n (.inr z.symm)]; exact r1, r2⟩, S.gh, S.gr, S.ne, S.p⟩
theorem PS.frz (S : PS K G H hl rl N0 Hs js R) (g : G D = none) (h : H D = some o) (n : ¬ PM hl rl D) : PS K (upd G D o) H hl rl N0 Hs js R := by
  obtain ⟨hvs, h1, h2⟩ := S.h
  obtain ⟨rvs, r1, r2⟩ := S.r
  refine ⟨fun b u e => ?_, ⟨hvs, h1, h2.mono (hpI_mono K) (same_upd g)⟩, ⟨rvs, r1, dtAll_mono (same_upd g) r2⟩, by rw [upd_ne fun z => n (.inl z.symm)]; exact S.gh, by rw [upd_ne fun z => n (.inr z.symm)]; exact S.gr, S.ne, S.p⟩
  by_cases hb : b = D
  · subst hb; rw [upd_same] at e; rw [← e]; exact h
  · rw [upd_ne hb] at e; exact S.e b u e
end
def spPlaceW (K : PySem.W.Frag) (n : Nat) : Sp := fun vs H Q _ => ∃ (G : Hp) (hl rl : Addr) (v : V) (N N0 : List Rw) (Hs : List (List Rw)) (js : List Nat) (R : List Rw) (j : Nat), vs = [v, .ref hl, .ref rl] ∧ HpI K G v N ∧ PS K G H hl rl N0 Hs js R ∧ M84.Val N0 ∧ N0.length ≤ 60 ∧ (∀ i, i < N0.length → M84.Dis (M84.tr N0 i)) ∧ j < N0.length ∧ M84.lastT N = M84.tr N0 j ∧ N.length < n ∧
  ∀ G' H' i Hs' js2 R2, Ex (PM hl rl) G H G' H' → PS K G' H' hl rl N0 Hs' (js ++ js2) (R ++ R2) → i < (R ++ R2).length → M84.eqv (M84.tr (R ++ R2) i) (M84.tr N0 j) → (∀ x ∈ js2, M84.dp N0 x ≤ M84.dp N0 j) → (R = [] → i + 1 = R2.length) → Q (.int (i : Int)) H'
/-- the moves of a heap are told -/
theorem pl_core {K : PySem.W.Frag} {i : Nat} {te : TE} {vs : List Nat} {σ : L2.St} {G1 H1 : Hp} {hl rl D : Addr} {N0 R : List Rw} {Hs : List (List Rw)} {js yl : List Nat} {Qd : Hp → Prop} {n top : Nat} {J : It} {Gp : Hp → Prop} {xs : List V} {Ms : List (List Rw)} (w : Walk J xs.length Gp (YAt xs)) (rl1 : RL (HpI K) G1 xs Ms) (hy : Ms.length = yl.length) (hz : xs.length ≤ sizeLine)
    (S1 : PS K G1 H1 hl rl N0 Hs js R) (hD : H1 D = none) (v0 : M84.Val N0) (l0 : N0.length ≤ 60) (dis : ∀ i, i < N0.length → M84.Dis (M84.tr N0 i)) (mv : ∀ (p : Nat) M y, Ms[p]? = some M → yl[p]? = some y → y < N0.length ∧ M84.lastT M = M84.tr N0 y ∧ M.length < n ∧ M84.dp N0 y < top)
    (hG : ∀ G' H', Ex (PM hl rl) G1 H1 G' H' → Gp H') (hw : ∀ x, wipe ((wipe σ vs).set i (some x)) vs = wipe σ vs)
    (el : ∀ x H' Q, spPlaceW K n [x, .ref hl, .ref rl] H' Q (fun _ _ _ => False) → te ((wipe σ vs).set i (some x)) H' Q)
    (hd : ∀ G' H' us Hs' js2 R2, Ex (PM hl rl) G1 H1 G' H' → PS K G' H' hl rl N0 Hs' (js ++ js2) (R ++ R2) → G' D = none → H' D = some (.lst (iN us)) → us.length = yl.length → (∀ (p : Nat) y u, yl[p]? = some y → us[p]? = some u → u < (R ++ R2).length ∧ M84.eqv (M84.tr (R ++ R2) u) (M84.tr N0 y)) → (∀ x ∈ js2, M84.dp N0 x < top) → Qd H') :
    ∃ W : Nat → Nat → Hp → Prop, (∃ m, W 0 m (upd H1 D (.lst []))) ∧ ∀ j m H, W j m H →
      (J.stop j H ∧ Qd H) ∨ (J.go j H ∧ ∃ Nx : Hp → Prop, (∀ H', Nx H' → ∃ m', m' < m ∧ W (j + 1) m' H') ∧ ∀ x H', J.yld j H x H' → gName i x (wipe σ vs) H' fun σ2 H2 => wipe σ2 vs = wipe σ vs ∧ tYes σ2 H2 fun b H3 =>
        if b = true then te σ2 H3 fun y H4 => ∃ acc, H4 D = some (.lst acc) ∧ acc.length < sizeLine ∧ Nx (upd H4 D (.lst (acc ++ [y]))) else Nx H3) := by
  have nM := S1.neh hD
  have lx : xs.length = yl.length := by rw [rl1.1, hy]
  refine lc_it w (fun t H' => ∃ G' us Hs' js2 R2, Ex (PM hl rl) G1 H1 G' H' ∧ PS K G' H' hl rl N0 Hs' (js ++ js2) (R ++ R2) ∧ G' D = none ∧ H' D = some (.lst (iN us)) ∧ us.length = t ∧ (∀ (p : Nat) y u, yl[p]? = some y → us[p]? = some u → u < (R ++ R2).length ∧ M84.eqv (M84.tr (R ++ R2) u) (M84.tr N0 y)) ∧ (∀ x ∈ js2, M84.dp N0 x < top))
    ⟨G1, [], Hs, [], [], (Ex.rfl' S1.e).loc hD, ?_, same_free S1.e hD, upd_same, rfl, fun p y u _ h => by simp at h, fun x h => (nomatch h)⟩ (fun j H' _ ⟨_, _, _, _, _, x, _⟩ => hG _ _ x) (fun t x H0 H' ht ⟨G', us, Hs', js2, R2, x1, st, gd, hd', lu, eu, dj⟩ y => ?_) (fun H' ⟨G', us, Hs', js2, R2, x1, st, gd, hd', lu, eu, dj⟩ => ?_)
  · rw [List.append_nil, List.append_nil]
    exact S1.put (same_free S1.e hD) nM
  · obtain ⟨rfl, ex⟩ := y
    refine ⟨hw x, ?_⟩
    unfold tYes
    simp only [↓reduceIte]
    obtain ⟨M, eM, hM⟩ := rl1.get' ex
    obtain ⟨yy, ey⟩ := M84.some_at (l := yl) (i := t) (by omega)
    obtain ⟨m1, m2, m3, m4⟩ := mv t M yy eM ey
    refine el x H' _ ⟨G', hl, rl, x, M, N0, Hs', js ++ js2, R ++ R2, yy, rfl, hpI_mono K _ _ _ _ x1.g hM, st, v0, l0, dis, m1, m2, m3, fun G2 H2 ii Hs2 js3 R3 x2 s2 hi ev dl _ => ⟨_, x2.s _ _ hd' nM, ?_, ?_⟩⟩
    · rw [iN_len]; omega
    · have g2 := x2.fr D (by rw [hd']; exact fun z => nomatch z) gd
      rw [List.append_assoc] at s2
      rw [List.append_assoc] at s2
      refine ⟨G2, us ++ [ii], Hs2, js2 ++ js3, R2 ++ R3, (x1.trans x2).mut (.inl hD) g2, s2.put g2 nM, g2, ?_, by rw [List.length_append, lu] <;> rfl, fun p y u hy hu => ?_, fun x hx => ?_⟩
      · rw [iN_snoc]; exact upd_same
      · rw [← List.append_assoc]
        rcases M84.snoc_some hu with h1 | ⟨h1, h2⟩
        · obtain ⟨q1, q2⟩ := eu p y u hy h1
          rw [M84.tr_app _ _ _ q1]
          exact ⟨by rw [List.length_append]; omega, q2⟩
        · rw [lu] at h1
          rw [h1, ey] at hy
          cases hy
          subst h2
          exact ⟨hi, ev⟩
      · rcases List.mem_append.mp hx with h | h
        · exact dj x h
        · exact Nat.lt_of_le_of_lt (dl x h) m4
  · exact hd G' H' us Hs' js2 R2 x1 st gd hd' (by rw [lu, lx]) eu dj
section
variable {P : Program} {w : World} {K : PySem.W.Frag} {mg : Str → Option Value} {base : Heap}
theorem sc_law_place : FnScope ["_law_heap_here", "_law_heaps", "_law_rows_here", "_law_at", "_law_one", "_law_ours", "_law_theirs", "_law_move"] ["_law_heap_here", "_law_heaps", "_law_rows_here"] (defScope s_law_place) := ⟨rfl, rfl, rfl, by decide +kernel, rfl, by decide +kernel, by decide +kernel⟩
theorem ok_lplace (T : TX K mg) : ∀ n, DefOk P w K mg base (n + 9) "_law_place" ["_law_heap_here", "_law_heaps", "_law_rows_here"] (spPlaceW K n) := by
  intro n
  induction n with
  | zero =>
    obtain ⟨fd, F⟩ := T.d_law_place
    refine ⟨fd, F.ok sc_law_place (fun vs H Q E h => ?_) (fun cdv A outer s H vs Q E hr h => ?_), T.g_law_place, F.kp, F.bindsN fun _ _ _ _ _ _ us hl => match us, hl with | [_, _, _], _ => rfl⟩
    · obtain ⟨_, _, _, v, _, _, _, _, _, _, rfl, _⟩ := h
      rfl
    · obtain ⟨_, _, _, _, _, _, _, _, _, _, _, _, _, _, _, _, _, _, hn, _⟩ := h
      exact absurd hn (Nat.not_lt_zero _)
  | succ n ih =>
    have D_law_place := ih
    have D_Heap_ours := ok_Heap_ours (P := P) (w := w) (base := base) T
    have D_Heap_theirs := ok_Heap_theirs (P := P) (w := w) (base := base) T
    have EQ := ok_Heap_eq (P := P) (w := w) (base := base) T
    obtain ⟨fd, F⟩ := T.d_law_place
    refine ⟨fd, F.ok sc_law_place (fun vs H Q E h => ?_) (fun cdv A outer s H vs Q E hr h => ⟨_, PSs.nox (pss_cons (ps_for PassesOwn.never rfl (pi_enum (by rfl) T.f_enumerate (pa_cons (pv 1) pa_nil)) (pg_tup rfl (pgs_cons (pg_name (i := 3) sc_law_place.nd rfl (Or.inl rfl)) (pgs_cons (pg_name (i := 4) sc_law_place.nd rfl (Or.inl rfl)) pgs_nil)))
    (pss_one (ps_if (pt_cmpR (heq K EQ (hr.mono (by omega))) (pv 4) (pv 0) (nomark _))
    (pss_one (ps_ret (pv 3)))
    pss_nil)))
  (pss_cons (ps_setLc (i := 5) (own := [("_law_move", 7)]) (g := gName 7) (tt := tYes) rfl sc_law_place.nd rfl rfl (sw_true rfl rfl rfl (by decide +kernel)) (pi_list (pe_m0K K D_Heap_ours (hr.mono (by omega)) (pv 0))) (blkOk_by (own := [("_law_move", 7)]) (N := ["_law_heap_here", "_law_heaps", "_law_rows_here", "_law_at", "_law_one", "_law_ours", "_law_theirs", "_law_move"]) (sc := defScope s_law_place) (by decide +kernel)) (fun _ _ _ _ _ => (pg_name (i := 7) sc_law_place.nd rfl (Or.inl rfl))) (fun _ _ _ _ _ => pts_nil) (fun _ _ _ _ _ => (pe_d D_law_place (hr.mono (by omega)) (pa_cons (pv 7) (pa_cons (pv 1) (pa_cons (pv 2) pa_nil))))))
  (pss_cons (ps_setLc (i := 6) (own := [("_law_move", 7)]) (g := gName 7) (tt := tYes) rfl sc_law_place.nd rfl rfl (sw_true rfl rfl rfl (by decide +kernel)) (pi_list (pe_m0K K D_Heap_theirs (hr.mono (by omega)) (pv 0))) (blkOk_by (own := [("_law_move", 7)]) (N := ["_law_heap_here", "_law_heaps", "_law_rows_here", "_law_at", "_law_one", "_law_ours", "_law_theirs", "_law_move"]) (sc := defScope s_law_place) (by decide +kernel)) (fun _ _ _ _ _ => (pg_name (i := 7) sc_law_place.nd rfl (Or.inl rfl))) (fun _ _ _ _ _ => pts_nil) (fun _ _ _ _ _ => (pe_d D_law_place (hr.mono (by omega)) (pa_cons (pv 7) (pa_cons (pv 1) (pa_cons (pv 2) pa_nil))))))
  (pss_cons (ps_expr (pe_bm PySem.F.plainAttrs_list PySem.F.slot_list_append PySem.F.type_list_append mt_append (pv 1) (pa_cons (pv 0) pa_nil)))
  (pss_cons (ps_expr (pe_bm PySem.F.plainAttrs_list PySem.F.slot_list_append PySem.F.type_list_append mt_append (pv 2) (pa_cons (pe_tup (pa_cons (pv 5) (pa_cons (pv 6) pa_nil))) pa_nil)))
  (pss_one (ps_ret (pe_op op_sub (pe_callB (lenS K) (by rfl) T.f_len (by decide +kernel) (pa_cons (pv 2) pa_nil)) pe_int)))))))), ?_⟩), T.g_law_place, F.kp, F.bindsN fun _ _ _ _ _ _ us hl => match us, hl with | [_, _, _], _ => rfl⟩
    · obtain ⟨_, _, _, v, _, _, _, _, _, _, rfl, _⟩ := h
      rfl
    · obtain ⟨G, hl, rl, v, N, N0, Hs, js, R, j, rfl, hv, S, v0, l0, dis, hj, hT, hn, k⟩ := h
      obtain ⟨hvs, hh, rlh⟩ := S.h
      obtain ⟨rvs, hr0, drv⟩ := S.r
      obtain ⟨a, dx, an, am, rfl, hA⟩ := hv
      have good := hA.good
      have npos := List.length_pos_iff.mpr good.ne
      refine ⟨_, rfl, hl, _, rfl, SqL.of hh, for_it (walk_enum (K := K) (a := hl) (xs := hvs)) (fun i σ H' => (∃ x3 x4 x5 x6 x7, σ = [some (.ref a), some (.ref hl), some (.ref rl), x3, x4, x5, x6, x7]) ∧ Ex M0 G H G H' ∧ ∀ p y, p < i → js[p]? = some y → M84.kd N0 y ≠ M84.kd N0 j) ⟨⟨_, _, _, _, _, rfl⟩, Ex.rfl' S.e, fun p y h => absurd h (Nat.not_lt_zero _)⟩ (fun i σ H' _ h => SqL.of (h.2.1.same _ _ hh)) ?_ ?_⟩
      · rintro i x σ H1 H2 hi ⟨⟨z3, z4, z5, z6, z7, rfl⟩, x1, no⟩ y
        obtain ⟨T', z, rfl, hT', rfl, hz⟩ := enum_pair y
        obtain ⟨M, eM, hM⟩ := rlh.get' hz
        obtain ⟨b, dy, bn, bm, rfl, hB⟩ := hM
        have x2 := x1.loc (o := .tup [.int ((i : Nat) : Int), .ref b]) hT'
        have hT2 : upd H1 T' (.tup [.int ((i : Nat) : Int), .ref b]) T' = some (.tup [.int ((i : Nat) : Int), .ref b]) := upd_same
        generalize upd H1 T' (.tup [.int ((i : Nat) : Int), .ref b]) = H2 at x2 hT2 ⊢
        obtain ⟨y', ey⟩ := M84.some_at (l := js) (i := i) (by rw [S.p.l2, ← S.p.l1]; exact M84.lt_of_some eM)
        obtain ⟨gM, hy', tM⟩ := S.p.t i M y' eM ey
        refine ⟨T', _, rfl, SqT.of hT2, rfl, _, _, rfl, _, _, rfl, rfl, ?_⟩
        refine ⟨_, rfl, _, rfl, b, a, dy, dx, _, _, _, rfl, rfl, x2.gh _ _ hB.e, x2.gh _ _ hA.e, ⟨G, M, N, x2.gh, ⟨b, dy, bn, bm, rfl, hB⟩, ⟨a, dx, an, am, rfl, hA⟩, rfl⟩, fun H3 s3 => ⟨_, rfl, ?_⟩⟩
        have x3 := x2.trans (Ex.of_same x2.gh s3)
        have mi : M84.marks leM M = M84.marks leM N ↔ M84.eqv (M84.lastT M) (M84.lastT N) := M84.marks_iff leM_ok gM good
        by_cases q : M84.marks leM M = M84.marks leM N
        · rw [decide_eq_true q]
          have ev := mi.mp q
          rw [tM, hT] at ev
          refine iteT ⟨_, rfl, ?_⟩
          have er := S.p.e i y' ey
          have hi' : i < R.length := by rw [← S.p.l2]; exact M84.lt_of_some ey
          refine k G H3 i Hs [] [] (x3.mono fun _ z => z.elim) ?_ ?_ ?_ (fun x h => (nomatch h)) (fun z => by rw [z] at hi'; exact absurd hi' (Nat.not_lt_zero _))
          · rw [List.append_nil, List.append_nil]; exact S.keep x3
          · rw [List.append_nil]; exact hi'
          · rw [List.append_nil]; exact er.trans ev
        · rw [decide_eq_false q]
          refine iteF ⟨⟨_, _, _, _, _, rfl⟩, x3, fun p y hp hy => ?_⟩
          by_cases hpi : p = i
          · subst hpi
            rw [ey] at hy
            cases hy
            intro ek
            refine q (mi.mpr ?_)
            rw [tM, hT]
            exact (M84.kd_iff v0 hy' hj).mp ek
          · exact no p y (by omega) hy
      · rintro σ H1 ⟨⟨z3, z4, z5, z6, z7, rfl⟩, x1, no⟩
        have lh : hvs.length = js.length := by rw [rlh.1, S.p.l1, S.p.l2]
        have noj : M84.kd N0 j ∉ js.map (M84.kd N0) := fun hm => by
          obtain ⟨y, hy, ey⟩ := List.mem_map.mp hm
          obtain ⟨p, hp⟩ := List.mem_iff_getElem?.mp hy
          exact no p y (by rw [lh]; exact M84.lt_of_some hp) hp ey
        have S1 := S.keep x1
        obtain ⟨r0, er0⟩ := M84.some_at hj
        have lr := lastR_at good.ne
        obtain ⟨e1, e2⟩ := M84.told_moves good v0 lr er0 hT
        obtain ⟨u1, u2⟩ := good.v _ _ lr
        obtain ⟨w1, w2⟩ := v0 _ _ er0
        have hm := List.mem_of_getElem? lr
        have sz1 := hA.sm.l _ hm
        have sz2 := hA.sm.r _ hm
        obtain ⟨l1, _⟩ := M84.told_each e1
        obtain ⟨l2, _⟩ := M84.told_each e2
        refine ⟨_, rfl, a, dx, _, rfl, x1.gh _ _ hA.e, rfl, G, .ref a, N, rfl, x1.gh, ⟨a, dx, an, am, rfl, hA⟩, fun G2 H2 l ws x2 hl2 rl2 => ?_⟩
        have S2 := S1.keep x2
        have g2 := x2.g
        refine ⟨l, rfl, ⟨_, SqL.of (x2.gh _ _ hl2)⟩, fun D hD => ?_⟩
        have nM := S2.neh hD
        refine pl_core (n := n) (top := M84.dp N0 j) (yl := r0.1) (walk_list (K := K) (a := l) (xs := ws)) rl2 (by rw [List.length_map]; exact l1) (by rw [rl2.1, List.length_map]; exact sz63 sz1) S2 hD v0 l0 dis (M84.told_mv good v0 er0 u1 (fun x hx => ⟨List.mem_append.mpr (.inl hx), Nat.lt_trans (w1 x hx) hj⟩) e1 hn) (fun G' H' x => SqL.of (x.gh _ _ (x.g _ _ hl2))) (fun _ => rfl) (fun x H' Q q => ⟨_, rfl, _, rfl, _, rfl, q⟩) ?_
        intro G3 H3 us Hs3 js2 R2 x3 S3 gD hD3 lu eu dj
        have y3 := x3.frz hD hD3 gD
        have S3' := S3.frz gD hD3 nM
        have gD3 : upd G3 D (.lst (iN us)) D = some (.lst (iN us)) := upd_same
        clear x3 S3
        generalize upd G3 D (.lst (iN us)) = G4 at y3 S3' gD3
        have hA4 := hpAt_mono (x2.g.trans y3.g) hA
        refine ⟨_, rfl, a, dx, _, rfl, y3.gh _ _ hA4.e, rfl, G4, .ref a, N, rfl, y3.gh, ⟨a, dx, an, am, rfl, hA4⟩, fun G5 H5 l' ws' x5 hl5 rl5 => ?_⟩
        have S5 := S3'.keep x5
        have gD5 := x5.g _ _ gD3
        refine ⟨l', rfl, ⟨_, SqL.of (x5.gh _ _ hl5)⟩, fun D' hD' => ?_⟩
        have nM' := S5.neh hD'
        refine pl_core (n := n) (top := M84.dp N0 j) (yl := r0.2) (walk_list (K := K) (a := l') (xs := ws')) rl5 (by rw [List.length_map]; exact l2) (by rw [rl5.1, List.length_map]; exact sz63 sz2) S5 hD' v0 l0 dis (M84.told_mv good v0 er0 u2 (fun x hx => ⟨List.mem_append.mpr (.inr hx), Nat.lt_trans (w2 x hx) hj⟩) e2 hn) (fun G' H' x => SqL.of (x.gh _ _ (x.g _ _ hl5))) (fun _ => rfl) (fun x H' Q q => ⟨_, rfl, _, rfl, _, rfl, q⟩) ?_
        intro G6 H6 us' Hs6 js3 R3 x6 S6 gD' hD6 lu' eu' dj'
        have y6 := x6.frz hD' hD6 gD'
        have S6' := S6.frz gD' hD6 nM'
        have gD6 : upd G6 D' (.lst (iN us')) D' = some (.lst (iN us')) := upd_same
        have g56 := y6.g
        clear x6 S6
        generalize upd G6 D' (.lst (iN us')) = G7 at y6 S6' gD6 g56
        have x07 : Ex (PM hl rl) G H G7 H6 := ((((x1.trans x2).mono fun _ z => z.elim).trans y3).trans (x5.mono fun _ z => z.elim)).trans y6
        have gDD := g56 _ _ gD5
        have hA7 := hpAt_mono (x5.g.trans g56) hA4
        obtain ⟨hv6, h6, rlv6⟩ := S6'.h
        obtain ⟨rv6, r6, drv6⟩ := S6'.r
        have pl := S6'.p.len v0
        have lh6 : hv6.length = ((R ++ R2) ++ R3).length := by rw [rlv6.1, S6'.p.l1]
        have lr6 : rv6.length = ((R ++ R2) ++ R3).length := by rw [dtAll_len drv6, List.length_map]
        -- the new row
        have nx : M84.PI N0 (Hs6 ++ [N]) (((js ++ js2) ++ js3) ++ [j]) (((R ++ R2) ++ R3) ++ [(us, us')]) := by
          refine S6'.p.add good hj hT (dis j hj) (fun hm => ?_) lr (by rw [lu]; exact l1.symm) (by rw [lu']; exact l2.symm) (fun p x u hx hu => ?_) (fun p x u hx hu => ?_) (by rw [lu, ← l1]; exact sz1) (by rw [lu', ← l2]; exact sz2)
          · have lt := S6'.p.jlt
            rw [List.map_append, List.map_append, List.mem_append, List.mem_append] at hm
            have bad : ∀ l : List Nat, (∀ x ∈ l, x ∈ (js ++ js2) ++ js3) → (∀ x ∈ l, M84.dp N0 x < M84.dp N0 j) → M84.kd N0 j ∉ l.map (M84.kd N0) := fun l h1 h2 hm => by
              obtain ⟨y, hy, ey⟩ := List.mem_map.mp hm
              have := M84.dp_of_kd v0 (lt y (h1 y hy)) hj ey
              have := h2 y hy
              omega
            rcases hm with (h | h) | h
            · exact noj h
            · exact bad js2 (fun x hx => List.mem_append.mpr (.inl (List.mem_append.mpr (.inr hx)))) dj h
            · exact bad js3 (fun x hx => List.mem_append.mpr (.inr hx)) dj' h
          · obtain ⟨y, ey⟩ := M84.some_at (l := r0.1) (i := p) (by rw [← l1]; exact M84.lt_of_some hx)
            obtain ⟨q1, q2⟩ := eu p y u ey hu
            rw [M84.tr_app _ _ _ q1, (M84.told_each e1).2 p x y hx ey]
            exact ⟨by rw [List.length_append]; omega, q2⟩
          · obtain ⟨y, ey⟩ := M84.some_at (l := r0.2) (i := p) (by rw [← l2]; exact M84.lt_of_some hx)
            obtain ⟨q1, q2⟩ := eu' p y u ey hu
            rw [(M84.told_each e2).2 p x y hx ey]
            exact ⟨q1, q2⟩
        refine ⟨_, rfl, .inl ⟨rfl, _, SqL.of h6⟩, _, rfl, hl, hv6, _, rfl, rfl, h6, small1000 (by omega), ?_⟩
        have x8 : Ex (PM hl rl) G H G7 (upd H6 hl (.lst (hv6 ++ [.ref a]))) := x07.mut (.inr (.inl rfl)) S6'.gh
        have h8 : upd H6 hl (.lst (hv6 ++ [.ref a])) hl = some (.lst (hv6 ++ [.ref a])) := upd_same
        have r8 : upd H6 hl (.lst (hv6 ++ [.ref a])) rl = some (.lst rv6) := by rw [upd_ne S6'.ne.symm]; exact r6
        generalize upd H6 hl (.lst (hv6 ++ [.ref a])) = H8 at x8 h8 r8 ⊢
        refine ⟨_, rfl, .inl ⟨rfl, _, SqL.of r8⟩, _, rfl, _, rfl, by show 2 ≤ sizeLine; decide, fun t ht => ?_⟩
        have x9 := x8.new (o := .tup [.ref D, .ref D']) ht
        have h9 := (upd_ne (o := HO.tup [V.ref D, V.ref D']) (ne_of_none h8 ht)).trans h8
        have r9 := (upd_ne (o := HO.tup [V.ref D, V.ref D']) (ne_of_none r8 ht)).trans r8
        have gt := same_upd (o := HO.tup [V.ref D, V.ref D']) (x8.gfree ht)
        have gh9 := (upd_ne (o := HO.tup [V.ref D, V.ref D']) (ne_of_none h8 ht)).trans S6'.gh
        have gr9 := (upd_ne (o := HO.tup [V.ref D, V.ref D']) (ne_of_none r8 ht)).trans S6'.gr
        have drow : Dt (upd G7 t (.tup [.ref D, .ref D'])) (.ref t) (rowL (us, us')) := rowL_dt upd_same (gt _ _ gDD) (gt _ _ gD6)
        generalize upd H8 t (.tup [.ref D, .ref D']) = H9 at x9 h9 r9 ⊢
        generalize upd G7 t (.tup [.ref D, .ref D']) = G9 at x9 gt gh9 gr9 drow
        refine ⟨rl, rv6, _, rfl, rfl, r9, small1000 (by omega), ?_⟩
        have x10 : Ex (PM hl rl) G H G9 (upd H9 rl (.lst (rv6 ++ [.ref t]))) := x9.mut (.inr (.inr rfl)) gr9
        have S10 : PS K G9 (upd H9 rl (.lst (rv6 ++ [.ref t]))) hl rl N0 (Hs6 ++ [N]) (((js ++ js2) ++ js3) ++ [j]) (((R ++ R2) ++ R3) ++ [(us, us')]) := by
          refine ⟨x10.gh, ⟨_, by rw [upd_ne S6'.ne]; exact h9, (rlv6.mono (hpI_mono K) gt).snoc ⟨a, dx, an, am, rfl, hpAt_mono gt hA7⟩⟩, ⟨_, upd_same, ?_⟩, gh9, gr9, S6'.ne, nx⟩
          rw [List.map_append]
          exact dtAll_snoc (dtAll_mono gt drv6) drow
        refine ⟨_, rfl, rl, _, rfl, .inl (SqL.of upd_same), _, _, rfl, rfl, ?_⟩
        have ei : (((rv6 ++ [V.ref t]).length : Nat) : Int) - 1 = ((((R ++ R2) ++ R3).length : Nat) : Int) := by
          rw [List.length_append, lr6]
          show (((_ : Nat) : Int) + 1) - 1 = _
          omega
        dsimp only
        rw [ei]
        have ea1 : ((js ++ js2) ++ js3) ++ [j] = js ++ (js2 ++ (js3 ++ [j])) := by simp
        have ea2 : ((R ++ R2) ++ R3) ++ [(us, us')] = R ++ (R2 ++ (R3 ++ [(us, us')])) := by simp
        have ev := nx.e ((R ++ R2) ++ R3).length j (by
          rw [List.getElem?_append_right (by rw [S6'.p.l2]; exact Nat.le_refl _), S6'.p.l2, Nat.sub_self] <;> rfl)
        have ltl : ((R ++ R2) ++ R3).length < (((R ++ R2) ++ R3) ++ [(us, us')]).length := by rw [List.length_append (bs := [(us, us')])]; exact Nat.lt_succ_self _
        rw [ea1, ea2] at S10
        rw [ea2] at ev ltl
        refine k G9 _ _ _ _ _ x10 S10 ltl ev (fun x hx => ?_) (fun z => ?_)
        · rcases List.mem_append.mp hx with h | h
          · exact Nat.le_of_lt (dj x h)
          · rcases List.mem_append.mp h with h | h
            · exact Nat.le_of_lt (dj' x h)
            · rw [List.mem_singleton.mp h]; exact Nat.le_refl _
        · subst z
          simp [Nat.add_assoc]
end
section
variable {P : Program} {w : World} {K : PySem.W.Frag} {mg : Str → Option Value} {base : Heap}
def spTold (K : PySem.W.Frag) : Sp := fun vs H Q _ => ∃ (G : Hp) (v : V) (N : List Rw), vs = [v] ∧ Same G H ∧ HpI K G v N ∧ N.length ≤ 56 ∧ M84.Dis (M84.lastT N) ∧ ∀ R, M84.Told N R → Ret M0 G H Q (rowsL R)
theorem sc_law_told : FnScope ["_law_heap_here", "_law_rows_here"] ["_law_heap_here"] (defScope s_law_told) := ⟨rfl, rfl, rfl, by decide +kernel, rfl, by decide +kernel, by decide +kernel⟩
theorem ok_ltold (T : TX K mg) : DefOk P w K mg base 67 "_law_told" ["_law_heap_here"] (spTold K) := by
  have D_law_place := ok_lplace (P := P) (w := w) (base := base) T 57
  obtain ⟨fd, F⟩ := T.d_law_told
  refine ⟨fd, F.ok sc_law_told (fun vs H Q E h => ?_) (fun cdv A outer s H vs Q E hr h => ⟨_, PSs.nox (pss_cons (ps_set (i := 1) sc_law_told.nd rfl (Or.inl rfl) (pe_lst pa_nil))
  (pss_cons (ps_expr (pe_d D_law_place (hr.mono (by decide)) (pa_cons (pv 0) (pa_cons (pe_lst pa_nil) (pa_cons (pv 1) pa_nil)))))
  (pss_one (ps_ret (pv 1))))), ?_⟩), T.g_law_told, F.kp, F.bindsN fun _ _ _ _ _ _ us hl => match us, hl with | [_], _ => rfl⟩
  · obtain ⟨_, v, _, rfl, _⟩ := h
    rfl
  · obtain ⟨G, v, N, rfl, e, hv, lN, dis, k⟩ := h
    have good : M84.Good N := let ⟨_, _, _, _, _, hA⟩ := hv; hA.good
    have npos := List.length_pos_iff.mpr good.ne
    refine ⟨Nat.zero_le _, fun rl nr => ?_⟩
    have x1 := (Ex.rfl' (M := M0) e).loc (o := .lst []) nr
    have r1 : upd H rl (.lst []) rl = some (.lst []) := upd_same
    generalize upd H rl (.lst []) = H1 at x1 r1 ⊢
    refine ⟨_, rfl, Nat.zero_le _, fun hl nh => ?_⟩
    have x2 := x1.loc (o := .lst []) nh
    have h2 : upd H1 hl (.lst []) hl = some (.lst []) := upd_same
    have r2 := (upd_ne (o := HO.lst []) (ne_of_none r1 nh)).trans r1
    have ne : hl ≠ rl := fun z => by rw [z, r1] at nh; cases nh
    have nh0 := x1.free nh
    generalize upd H1 hl (.lst []) = H2 at x2 h2 r2 ⊢
    have S : PS K G H2 hl rl N [] [] [] := ⟨x2.gh, ⟨[], h2, RL.nil⟩, ⟨[], r2, .nil⟩, same_free e nh0, same_free e nr, ne, M84.PI.nil N⟩
    refine ⟨_, rfl, G, hl, rl, v, N, N, [], [], [], N.length - 1, rfl, hv, S, good.v, by omega, fun i hi x b => dis x (b.trans (M84.rch_below good.v (good.all i hi))), by omega, rfl, by omega, fun G3 H3 i Hs' js2 R2 x3 S3 hi ev _ hlast => ?_⟩
    rw [List.nil_append] at S3 ev hi
    have ei := hlast rfl
    obtain ⟨rvs, r3, dr⟩ := S3.r
    have x4 := Ex.joinM x2 (M := PM hl rl) (fun b hb => by
      rcases hb with z | z
      · rw [z]; exact nh0
      · rw [z]; exact nr) x3
    have eL : M84.lastT R2 = M84.tr R2 i := by
      unfold M84.lastT
      have : R2.length - 1 = i := by omega
      rw [this]
    refine ⟨_, rfl, k R2 ⟨S3.p.v, fun z => by rw [z] at hi; exact absurd hi (Nat.not_lt_zero _), S3.p.len good.v, S3.p.sd, by rw [eL]; exact ev, by rw [eL]; exact S3.p.dis i hi⟩ _ _ _ (x4.frz nr r3 S3.gr) (.lst upd_same (dtAll_mono (same_upd S3.gr) dr))⟩
end
end G84

namespace G84
open PySem PySem.Spec PyProof.Rows L2
/-! W28: the law. -/
theorem look {N : List Rw} (g : M84.Good N) : isLeastN N = M84.canB (M84.lastT N) := M84.least_look leM_ok g
def YTrip (xs ys zs : List V) : Nat → Hp → V → Hp → Prop := fun i H v H' => ∃ T x y z, v = .ref T ∧ H T = none ∧ H' = upd H T (.tup [x, y, z]) ∧ xs[i]? = some x ∧ ys[i]? = some y ∧ zs[i]? = some z
theorem two_eq {l : List V} {a b : Addr} (h : l.length = 2) (h0 : l[0]? = some (.ref a)) (h1 : l[1]? = some (.ref b)) : l = [a, b].map V.ref := by
  match l, h, h0, h1 with
  | [p, q], _, h0, h1 => cases h0; cases h1; rfl
def LT (S : SP) (a : Addr) (t : Nat) (σ : L2.St) (H' : Hp) : Prop := ∃ (G' : Hp) (c : Nat), (∃ x2 x3 x4 x5 x6 x7 x8 x9 x10 x11, σ = [some (.ref a), some (.ref S.sp), x2, x3, x4, x5, x6, x7, x8, x9, x10, x11]) ∧ SPR S c G' H' ∧ c ≤ 1000 * t
theorem walk_zip3 {K : PySem.W.Frag} {a b c : Addr} {xs ys zs : List V} (h1 : ys.length = xs.length) (h2 : zs.length = xs.length) : Walk (Itz3 K a b c) xs.length (fun H => SqL K H a xs ∧ SqL K H b ys ∧ SqL K H c zs) (YTrip xs ys zs) :=
  ⟨fun i _ hi ⟨q1, q2, q3⟩ => ⟨xs, ys, zs, xs[i], ys[i], zs[i], q1, q2, q3, by simp [hi], by simp [show i < ys.length by omega], by simp [show i < zs.length by omega]⟩, fun _ ⟨q1, q2, q3⟩ => ⟨xs, ys, zs, q1, q2, q3, rfl, h1, h2⟩, fun _ _ _ _ _ ⟨q1, q2, q3⟩ ⟨T, x, y, z, e1, e2, e3, f1, f2, f3⟩ => ⟨T, x, y, z, e1, e2, e3, f1 _ q1, f2 _ q2, f3 _ q3⟩⟩
def ROk (G : Hp) (v : V) (A : List Rw) : Prop := Dt G v (rowsL A) ∧ M84.RowsOk A
theorem ROk.mono {G G' : Hp} {v : V} {A : List Rw} (h : ROk G v A) (s : Same G G') : ROk G' v A := ⟨dt_mono s h.1, h.2⟩
/-- at times the second rows are a sum -/
theorem sum_core {D : Ends} {u : TS} {σ : L2.St} {G H : Hp} {S : SP} {c : Nat} {L : Addr} {v0 v1 : V} {A0 A1 : List Rw} (R : SPR S c G H) (hc : c ≤ 800000) (h1 : σ[1]? = some (some (.ref S.sp))) (h3 : σ[3]? = some (some (.ref L))) (gL : G L = none) (hL : H L = some (.lst [v0, v1])) (nL : ¬ SM S L) (r0 : ROk G v0 A0) (r1 : ROk G v1 A1)
    (k : ∀ G' H' c' w1 B1, SPR S c' G' H' → c' ≤ c + 100 → G' L = none → H' L = some (.lst [v0, w1]) → ROk G' v0 A0 → ROk G' w1 B1 → u D σ H') :
    (tSeq (tIfS (tTest (tOp rEq (tCall spTake [] E0 (tCons (tVar 1) (tCons (tC (V.int 3)) tNil))) (tC (V.int 0)))) (tAsg (tCall spSummed [] E0 (tCons (tCall spLRows [] E0 (tCons (tVar 1) (tCons (tC (V.int 3)) tNil))) (tCons (tCall spLRows [] E0 (tCons (tVar 1) (tCons (tC (V.int 2)) tNil))) tNil))) (gSub (tVar 3) (tC (V.int 1)) L2.rSetL)) tNext) u) D σ H := by
  refine ⟨_, h1, S, G, c, 3, rfl, R, by decide, by decide, by omega, fun t0 ht0 H2 x2 R2 => ?_⟩
  have hL2 := x2.s _ _ hL nL
  refine ⟨rfl, _, rfl, ?_⟩
  by_cases q : V.int ((t0 : Nat) : Int) = V.int 0
  · rw [decide_eq_true q]
    refine iteT ⟨_, h1, S, G, c + 1, 3, rfl, R2, by decide, by omega, fun Ra ca Ga Ha va lra lca xa Sa dva => ⟨_, h1, S, Ga, ca, 2, rfl, Sa, by decide, by omega, fun Rb cb Gb Hb vb lrb lcb xb Sb dvb => ⟨Gb, va, vb, Ra, Rb, rfl, Sb.e, dt_mono xb.g dva, dvb, lra.v, lrb.v, by rw [lra.len]; decide, by rw [lrb.len]; decide, lra.s, lrb.s, fun G5 H5 v5 x5 d5 => ?_⟩⟩⟩
    have hLa := xa.s _ _ hL2 nL
    have hLb := xb.s _ _ hLa nL
    have hL5 := x5.same _ _ hLb
    have gLa := xa.fr L (by rw [hL2]; exact fun z => nomatch z) gL
    have gLb := xb.fr L (by rw [hLa]; exact fun z => nomatch z) gLa
    have gL5 := x5.fr L (by rw [hLb]; exact fun z => nomatch z) gLb
    refine ⟨_, h3, L, [v0, v1], 1, 1, rfl, rfl, hL5, rfl, ?_⟩
    exact k G5 _ cb v5 _ ((Sb.keep x5).put gL5 nL) (by omega) gL5 upd_same (r0.mono ((xa.g.trans xb.g).trans x5.g)) ⟨d5, M84.summed_ok lra.v lrb.v lra.s lrb.s lra.len lrb.len⟩
  · rw [decide_eq_false q]
    exact iteF (k G H2 (c + 1) v1 A1 R2 (by omega) gL hL2 r0 r1)
section
variable {K : PySem.W.Frag} {mg : Str → Option Value}
/-- what is looked at for each of the two -/
theorem turn_core (T : TX K mg) {D : Ends} {σ : L2.St} {G H : Hp} {v hv fv : V} {A : List Rw} (e : Same G H) (hl : 9 < σ.length) (h6 : σ[6]? = some (some v)) (h7 : σ[7]? = some (some hv)) (h8 : σ[8]? = some (some fv)) (r : ROk G v A) (hh : HpI K G hv (M84.heapR A)) (hf : HpI K G fv (M84.formN A))
    (k : ∀ G' H' x, Ex M0 G H G' H' → D.nx (σ.set 9 (some x)) H') :
    (tSeq (tAsg (tCall (spTold K) [] E0 (tCons (tVar 8) tNil)) (gName 9))
      (tSeq (tIfS (tOr (tNot (tB (tCB (rIsi K) (tCons (tVar 8) (tCons (tC (V.ref (He.ga K "Heap"))) tNil))))) (tOr (tNot (tB (tCall spAlike [] E0 (tCons (tVar 6) (tCons (tVar 9) tNil))))) (tNot (tB (tCall spLLeast [] E0 (tCons (tVar 9) tNil)))))) (tRet (tC (V.bl false))) tNext)
      (tSeq (tIfS (tOr (tTest (tOp (rI0 fun i j => V.bl (decide (j < i))) (tCB (rHLen K) (tCons (tVar 8) tNil)) (tCB (rHLen K) (tCons (tVar 7) tNil)))) (tOr (tTest (tOp rNotB (tCall (spIsLeast K) [] E0 (tCons (tVar 8) tNil)) (tC (V.bl true)))) (tTest (tOp (rHNe K) (tCall (spLeast K) [] E0 (tCons (tVar 8) tNil)) (tVar 8))))) (tRet (tC (V.bl false))) tNext)
        (tIfS (tTest (tOp rNe (tCall (spIsLeast K) [] E0 (tCons (tVar 7) tNil)) (tCall spLLeast [] E0 (tCons (tVar 6) tNil)))) (tRet (tC (V.bl false))) tNext)))) D σ H := by
  have ok := r.2
  have L := ok.form
  have hfl := ok.flen
  have hhl := ok.heap.2.1
  refine ⟨_, h8, G, fv, M84.formN A, rfl, e, hf, by omega, L.can.dis, fun R tl G1 H1 tv x1 ht => ?_⟩
  have g6 : (σ.set 9 (some tv))[6]? = some (some v) := by rw [List.getElem?_set_ne (by decide)]; exact h6
  have g7 : (σ.set 9 (some tv))[7]? = some (some hv) := by rw [List.getElem?_set_ne (by decide)]; exact h7
  have g8 : (σ.set 9 (some tv))[8]? = some (some fv) := by rw [List.getElem?_set_ne (by decide)]; exact h8
  have g9 : (σ.set 9 (some tv))[9]? = some (some tv) := by rw [List.getElem?_set_self hl]
  have kk := k
  replace k : ∀ G' H', Ex M0 G H G' H' → D.nx (σ.set 9 (some tv)) H' := fun G' H' x => kk G' H' tv x
  clear kk
  show tSeq _ _ _ (σ.set 9 (some tv)) H1
  generalize σ.set 9 (some tv) = σ1 at g6 g7 g8 g9 k ⊢
  obtain ⟨fa, fdx, fn, fm, rfl, hF⟩ := hf
  obtain ⟨ha, hdx, hn, hm, rfl, hH⟩ := hh
  have tlen : R.length ≤ 60 := by have := tl.len; omega
  refine ⟨_, g8, _, _, _, _, true, rfl, .own _, T.tyHeap (x1.gh _ _ (x1.g _ _ hF.e)), T.xf.hh, true, rfl, iteF ⟨_, g6, _, g9, G1, v, tv, A, R, rfl, x1.gh, dt_mono x1.g r.1, ht, ok.v, tl.v, ok.ne, tl.ne, by have := ok.len; omega, tlen, ok.sd, tl.sd, fun G2 H2 x2 => ⟨_, rfl, ?_⟩⟩⟩
  rw [ok.alike tl]
  have x12 := x1.trans x2
  refine iteF ⟨_, g9, G2, tv, R, rfl, x2.gh, dt_mono x2.g ht, tl.v, tl.ne, tlen, tl.sd, fun G3 H3 x3 => ⟨_, rfl, ?_⟩⟩
  rw [tl.canB L.can]
  have x13 := x12.trans x3
  have hF3 := hpAt_mono x13.g hF
  have hH3 := hpAt_mono x13.g hH
  have b1 := M84.marks_small (le := leM) L.g.v
  have b2 := M84.marks_small (le := leM) ok.heap.1.v
  have ml := ok.mlen (le := leM)
  refine iteF ⟨_, g8, fa, fdx, _, _, rfl, x13.gh _ _ hF3.e, ⟨G3, M84.formN A, x13.gh, ⟨fa, fdx, fn, fm, rfl, hF3⟩, rfl⟩, by omega, fun H4 s4 => ⟨_, g7, ha, hdx, _, _, rfl, s4 _ _ (x13.gh _ _ hH3.e), ⟨G3, M84.heapR A, x13.gh.trans s4, ⟨ha, hdx, hn, hm, rfl, hH3⟩, rfl⟩, by omega, fun H5 s5 => ⟨_, _, rfl, rfl, _, rfl, ?_⟩⟩⟩
  have e1 : decide (((M84.marks leM (M84.heapR A)).length : Int) < ((M84.marks leM (M84.formN A)).length : Int)) = false := decide_eq_false (by omega)
  rw [e1]
  have x5 : Ex M0 G H G3 H5 := x13.trans (Ex.of_same x13.gh (s4.trans s5))
  refine iteF ⟨_, g8, G3, .ref fa, M84.formN A, rfl, x5.gh, ⟨fa, fdx, fn, fm, rfl, hF3⟩, by omega, fun G6 H6 x6 => ⟨_, _, rfl, rfl, _, rfl, ?_⟩⟩
  rw [look L.g, ok.canF]
  have e2 : (!decide (true = true)) = false := by decide
  rw [e2]
  have hF6 := hpAt_mono x6.g hF3
  refine iteF ⟨_, g8, G6, .ref fa, M84.formN A, rfl, x6.gh, ⟨fa, fdx, fn, fm, rfl, hF6⟩, by omega, fun G7 H7 lv x7 hlv => ⟨_, g8, ?_⟩⟩
  obtain ⟨la, ldx, ln, lm, rfl, hL⟩ := hlv
  have hF7 := hpAt_mono x7.g hF6
  refine ⟨la, fa, ldx, fdx, _, _, _, rfl, rfl, x7.gh _ _ hL.e, x7.gh _ _ hF7.e, ⟨G7, _, _, x7.gh, ⟨la, ldx, ln, lm, rfl, hL⟩, ⟨fa, fdx, fn, fm, rfl, hF7⟩, rfl⟩, fun H8 s8 => ⟨_, rfl, ?_⟩⟩
  rw [decide_eq_true (ok.again leM_ok), Bool.not_true]
  have x8 : Ex M0 G H G7 H8 := ((x5.trans x6).trans x7).trans (Ex.of_same x7.gh s8)
  refine iteF ⟨_, g7, G7, .ref ha, M84.heapR A, rfl, x8.gh, ⟨ha, hdx, hn, hm, rfl, hpAt_mono (x6.g.trans x7.g) hH3⟩, by omega, fun G9 H9 x9 => ⟨_, g6, G9, v, A, rfl, x9.gh, dt_mono (x8.trans x9).g r.1, ok.v, ok.ne, by have := ok.len; omega, ok.sd, fun G10 H10 x10 => ⟨rfl, _, rfl, ?_⟩⟩⟩
  rw [look ok.heap.1, ok.canH, decide_eq_true rfl, Bool.not_true]
  exact iteF (k _ _ ((x8.trans x9).trans x10))
end
/-- the heap of no moves is made -/
theorem nil_good : M84.Good (M84.joined [] []) := M84.nil_ok.1
theorem nil_len : (M84.joined [] []).length = 1 := by decide
theorem nil_row : M84.joined [] [] = [([], [])] := by decide
theorem mk_nil {K : PySem.W.Frag} {σ : L2.St} {G H : Hp} {Q : VK} (e : Same G H) (k : RetH K M0 G H Q (M84.joined [] [])) : (tMake (He.ga K "Heap") (spHeap K) [] E0 (tCons (tLst tNil) (tCons (tLst tNil) tNil))) σ H Q := by
  refine ⟨Nat.zero_le _, fun l1 n1 => ⟨Nat.zero_le _, fun l2 n2 => ?_⟩⟩
  have x1 := (Ex.rfl' (M := M0) e).new (o := .lst []) n1
  have x2 := x1.new (o := .lst []) n2
  have g1 := same_upd (o := HO.lst []) (same_free x1.gh n2) l1 _ upd_same
  refine mk_heap (K := K) (Q := Q) x2.gh nil_good ⟨by rw [nil_len]; decide, fun r hr => ?_, fun r hr => ?_⟩ (.inr ⟨l1, l2, [], [], [], [], rfl, rfl, g1, upd_same, RL.nil, RL.nil, by decide, by decide, rfl⟩) fun G' H' v y h => k G' H' v (x2.trans y) h
  · rw [nil_row] at hr; rw [List.mem_singleton.mp hr]; decide
  · rw [nil_row] at hr; rw [List.mem_singleton.mp hr]; decide
abbrev tNilH (K : PySem.W.Frag) : TE := tMake (He.ga K "Heap") (spHeap K) [] E0 (tCons (tLst tNil) (tCons (tLst tNil) tNil))
/-- the least form of the heap of no moves is that heap -/
theorem nil_core {K : PySem.W.Frag} {D : Ends} {σ : L2.St} {G H : Hp} (e : Same G H) (k : ∀ H', D.rt (.bl true) H') : (tRet (tOp (rHEq K) (tCall (spLeast K) [] E0 (tCons (tNilH K) tNil)) (tNilH K))) D σ H := by
  refine mk_nil (K := K) (σ := σ) (Q := fun v H1 => spLeast K ([v] ++ []) H1 (fun u H2 => tNilH K σ H2 fun y H3 => rHEq K u y H3 D.rt) E0) e fun G8 H8 v8 y8 h8 => ?_
  refine ⟨G8, v8, _, rfl, y8.gh, h8, by rw [nil_len]; decide, fun G9 H9 v9 y9 h9 => mk_nil (K := K) y9.gh fun G10 H10 v10 y10 h10 => ?_⟩
  obtain ⟨pa, px, pn, pm, rfl, hP⟩ := h9
  obtain ⟨qa, qx, qn, qm, rfl, hQ⟩ := h10
  have hP10 := hpAt_mono y10.g hP
  refine ⟨pa, qa, px, qx, _, _, _, rfl, rfl, y10.gh _ _ hP10.e, y10.gh _ _ hQ.e, ⟨G10, _, _, y10.gh, ⟨pa, px, pn, pm, rfl, hP10⟩, ⟨qa, qx, qn, qm, rfl, hQ⟩, rfl⟩, fun H11 s11 => ?_⟩
  rw [decide_eq_true (M84.nil_form leM_ok)]
  exact k _
section
variable {P : Program} {w : World} {K : PySem.W.Frag} {mg : Str → Option Value} {base : Heap}
def spLaw (K : PySem.W.Frag) : Sp := fun vs H Q _ => ∃ (a : Addr) (ns : List Int), vs = [.ref a] ∧ SqL K H a (ns.map V.int) ∧ ns.length ≤ 63 ∧ ∀ H', Q (.bl true) H'
theorem sc_law : FnScope ["_law_script", "_law_spring_here", "_law_turn", "_law_some", "_law_heaps", "_law_forms", "_law_rows_here", "_law_heap_here", "_law_form", "_law_told_here", "_law_many", "_law_k"] ["_law_script"] (defScope s_law) := ⟨rfl, rfl, rfl, by decide +kernel, rfl, by decide +kernel, by decide +kernel⟩
theorem ok_lawF (T : TX K mg) {fd : FuncData} (F : FunD K d_law.name d_law.qual d_law.params d_law.body d_law.scope [] [] (He.fAd K d_law.at_) fd) : FnOk P w K mg base CX0 130 (He.ga K "law") fd ["_law_script"] (spLaw K) := by
  have D_law_spring := ok_spring (P := P) (w := w) (base := base) T
  have D_law_take := ok_take (P := P) (w := w) (base := base) T
  have D_law_rows := ok_lrows (P := P) (w := w) (base := base) T
  have D_law_summed := ok_summed (P := P) (w := w) (base := base) T
  have D_law_heap := ok_lheap (P := P) (w := w) (base := base) T
  have D_law_told := ok_ltold (P := P) (w := w) (base := base) T
  have D_law_alike := ok_alike (P := P) (w := w) (base := base) T
  have D_law_is_least := ok_lleast (P := P) (w := w) (base := base) T
  have D_law_ladder := ok_ladder (P := P) (w := w) (base := base) T
  have D_least_form := ok_least (P := P) (w := w) (base := base) T
  have D_is_least_form := ok_is_least_form (P := P) (w := w) (base := base) T
  have D_star := ok_star (P := P) (w := w) (base := base) T
  have D_Heap := ok_Heap (P := P) (w := w) (base := base) T
  have EQ := ok_Heap_eq (P := P) (w := w) (base := base) T
  have LN := ok_Heap_len (P := P) (w := w) (base := base) T
  refine F.ok sc_law (fun vs H Q E h => ?_) (fun cdv A outer s H vs Q E hr h => ⟨_, PSs.nox (pss_cons (ps_set (i := 1) sc_law.nd rfl (Or.inr rfl) (pe_d D_law_spring (hr.mono (by decide)) (pa_cons (pv 0) pa_nil)))
  (pss_cons (ps_for PassesOwn.never rfl (pi_range1 rfl T.f_range (pa_cons pe_int pa_nil)) (pg_name (i := 2) sc_law.nd rfl (Or.inl rfl))
    (pss_cons (ps_setLc (i := 3) (own := [("_law_k", 11)]) (g := gName 11) (tt := tYes) rfl sc_law.nd rfl rfl (sw_true rfl rfl rfl (by decide +kernel)) (pi_range1 rfl T.f_range (pa_cons pe_int pa_nil)) (blkOk_by (own := [("_law_k", 11)]) (N := ["_law_script", "_law_spring_here", "_law_turn", "_law_some", "_law_heaps", "_law_forms", "_law_rows_here", "_law_heap_here", "_law_form", "_law_told_here", "_law_many", "_law_k"]) (sc := defScope s_law) (by decide +kernel)) (fun _ _ _ _ _ => (pg_name (i := 11) sc_law.nd rfl (Or.inl rfl))) (fun _ _ _ _ _ => pts_nil) (fun _ _ _ _ _ => (pe_d D_law_rows (hr.mono (by decide)) (pa_cons (pv 1) (pa_cons (pe_op op_add pe_int (pe_d D_law_take (hr.mono (by decide)) (pa_cons (pv 1) (pa_cons pe_int pa_nil)))) pa_nil)))))
  (pss_cons (ps_if (pt_cmpR op_eq (pe_d D_law_take (hr.mono (by decide)) (pa_cons (pv 1) (pa_cons pe_int pa_nil))) pe_int (nomark _))
    (pss_one (ps_asg (pe_d D_law_summed (hr.mono (by decide)) (pa_cons (pe_d D_law_rows (hr.mono (by decide)) (pa_cons (pv 1) (pa_cons pe_int pa_nil))) (pa_cons (pe_d D_law_rows (hr.mono (by decide)) (pa_cons (pv 1) (pa_cons pe_int pa_nil))) pa_nil))) (pg_sub (pv 3) pe_int set_list)))
    pss_nil)
  (pss_cons (ps_setLc (i := 4) (own := [("_law_rows_here", 6)]) (g := gName 6) (tt := tYes) rfl sc_law.nd rfl rfl (sw_true rfl rfl rfl (by decide +kernel)) (pi_list (pv 3)) (blkOk_by (own := [("_law_rows_here", 6)]) (N := ["_law_script", "_law_spring_here", "_law_turn", "_law_some", "_law_heaps", "_law_forms", "_law_rows_here", "_law_heap_here", "_law_form", "_law_told_here", "_law_many", "_law_k"]) (sc := defScope s_law) (by decide +kernel)) (fun _ _ _ _ _ => (pg_name (i := 6) sc_law.nd rfl (Or.inl rfl))) (fun _ _ _ _ _ => pts_nil) (fun _ _ _ _ _ => (pe_d D_law_heap (hr.mono (by decide)) (pa_cons (pv 6) pa_nil))))
  (pss_cons (ps_setLc (i := 5) (own := [("_law_heap_here", 7)]) (g := gName 7) (tt := tYes) rfl sc_law.nd rfl rfl (sw_true rfl rfl rfl (by decide +kernel)) (pi_list (pv 4)) (blkOk_by (own := [("_law_heap_here", 7)]) (N := ["_law_script", "_law_spring_here", "_law_turn", "_law_some", "_law_heaps", "_law_forms", "_law_rows_here", "_law_heap_here", "_law_form", "_law_told_here", "_law_many", "_law_k"]) (sc := defScope s_law) (by decide +kernel)) (fun _ _ _ _ _ => (pg_name (i := 7) sc_law.nd rfl (Or.inl rfl))) (fun _ _ _ _ _ => pts_nil) (fun _ _ _ _ _ => (pe_d D_least_form (hr.mono (by decide)) (pa_cons (pv 7) pa_nil))))
  (pss_cons (ps_for PassesOwn.never rfl (pi_zip3 (by rfl) T.f_zip (pa_cons (pv 3) (pa_cons (pv 4) (pa_cons (pv 5) pa_nil)))) (pg_tup rfl (pgs_cons (pg_name (i := 6) sc_law.nd rfl (Or.inl rfl)) (pgs_cons (pg_name (i := 7) sc_law.nd rfl (Or.inl rfl)) (pgs_cons (pg_name (i := 8) sc_law.nd rfl (Or.inl rfl)) pgs_nil))))
    (pss_cons (ps_set (i := 9) sc_law.nd rfl (Or.inl rfl) (pe_d D_law_told (hr.mono (by decide)) (pa_cons (pv 8) pa_nil)))
  (pss_cons (ps_if (PW.pt (pw_or (pt_not (pt_val (pe_callB call_isi (by rfl) T.f_isinstance (by decide +kernel) (pa_cons (pv 8) (pa_cons (pe_glob (v := .ref (He.ga K "Heap")) (u := .ref (He.ga K "Heap")) rfl T.g_Heap rfl) pa_nil))))) (pw_or (pt_not (pt_val (pe_d D_law_alike (hr.mono (by decide)) (pa_cons (pv 6) (pa_cons (pv 9) pa_nil))))) (pw_or1 (pt_not (pt_val (pe_d D_law_is_least (hr.mono (by decide)) (pa_cons (pv 9) pa_nil))))))))
    (pss_one (ps_ret pe_bl))
    pss_nil)
  (pss_cons (ps_if (PW.pt (pw_or (pt_cmpR op_gt (pe_callB (hlen K LN (hr.mono (by decide))) (by rfl) T.f_len (by decide +kernel) (pa_cons (pv 8) pa_nil)) (pe_callB (hlen K LN (hr.mono (by decide))) (by rfl) T.f_len (by decide +kernel) (pa_cons (pv 7) pa_nil)) (nomark _)) (pw_or (pt_cmpR op_notBl (pe_d D_is_least_form (hr.mono (by decide)) (pa_cons (pv 8) pa_nil)) pe_bl (nomark _)) (pw_or1 (pt_cmpR (hne K EQ (hr.mono (by decide))) (pe_d D_least_form (hr.mono (by decide)) (pa_cons (pv 8) pa_nil)) (pv 8) (nomark _))))))
    (pss_one (ps_ret pe_bl))
    pss_nil)
  (pss_one (ps_if (pt_cmpR op_ne (pe_d D_is_least_form (hr.mono (by decide)) (pa_cons (pv 7) pa_nil)) (pe_d D_law_is_least (hr.mono (by decide)) (pa_cons (pv 6) pa_nil)) (nomark _))
    (pss_one (ps_ret pe_bl))
    pss_nil))))))
  (pss_cons (ps_if (pt_cmpR op_ne (pe_cmpR (heq K EQ (hr.mono (by decide))) (pe_ix (ixl K) (pv 5) pe_int (fun _ _ => rfl)) (pe_ix (ixl K) (pv 5) pe_int (fun _ _ => rfl)) (nomark _)) (pe_d D_law_alike (hr.mono (by decide)) (pa_cons (pe_ix (ixl K) (pv 3) pe_int (fun _ _ => rfl)) (pa_cons (pe_ix (ixl K) (pv 3) pe_int (fun _ _ => rfl)) pa_nil))) (nomark _))
    (pss_one (ps_ret pe_bl))
    pss_nil)
  (pss_one (ps_if (pt_cmpR (hneL K EQ (hr.mono (by decide))) (pv 4) (pe_lc (own := [("_law_rows_here", 6)]) (g := gName 6) (tt := tYes) rfl sc_law.nd (pi_list (pv 3)) (blkOk_by (own := [("_law_rows_here", 6)]) (N := ["_law_script", "_law_spring_here", "_law_turn", "_law_some", "_law_heaps", "_law_forms", "_law_rows_here", "_law_heap_here", "_law_form", "_law_told_here", "_law_many", "_law_k"]) (sc := defScope s_law) (by decide +kernel)) (fun _ _ _ _ _ => (pg_name (i := 6) sc_law.nd rfl (Or.inl rfl))) (fun _ _ _ _ _ => pts_nil) (fun _ _ _ _ _ => (pe_d D_law_heap (hr.mono (by decide)) (pa_cons (pv 6) pa_nil)))) (nomark _))
    (pss_one (ps_ret pe_bl))
    pss_nil)))))))))
  (pss_cons (ps_set (i := 10) sc_law.nd rfl (Or.inl rfl) (pe_op op_add pe_int (pe_d D_law_take (hr.mono (by decide)) (pa_cons (pv 1) (pa_cons pe_int pa_nil)))))
  (pss_cons (ps_if (pt_cmpR (hne K EQ (hr.mono (by decide))) (pe_d D_least_form (hr.mono (by decide)) (pa_cons (pe_d D_law_heap (hr.mono (by decide)) (pa_cons (pe_d D_law_ladder (hr.mono (by decide)) (pa_cons (pv 10) pa_nil)) pa_nil)) pa_nil)) (pe_d D_star (hr.mono (by decide)) (pa_cons (pe_op op_modN (pe_op op_sub (pv 10) pe_int) pe_int) pa_nil)) (nomark _))
    (pss_one (ps_ret pe_bl))
    pss_nil)
  (pss_one (ps_ret (pe_cmpR (heq K EQ (hr.mono (by decide))) (pe_d D_least_form (hr.mono (by decide)) (pa_cons (pe_mk D_Heap (hr.mono (by decide)) (pa_cons (pe_lst pa_nil) (pa_cons (pe_lst pa_nil) pa_nil))) pa_nil)) (pe_mk D_Heap (hr.mono (by decide)) (pa_cons (pe_lst pa_nil) (pa_cons (pe_lst pa_nil) pa_nil))) (nomark _)))))))), ?_⟩)
  · obtain ⟨a, ns, rfl, _⟩ := h
    rfl
  · obtain ⟨a, ns, rfl, hS, hl, k⟩ := h
    refine ⟨_, rfl, H, a, ns, rfl, Same.refl H, hS, hl, fun S G0 H0 x0 R0 fr => ?_⟩
    have gn : ∀ {c' : Nat} {G' H' : Hp}, SPR S c' G' H' → ∀ {b : Addr}, H' b = none → ¬ SM S b := fun R _ h m => R.has m h
    refine ⟨_, rfl, by decide, by decide, ?_⟩
    refine for_range (n := 3) (LT S a) ⟨G0, 0, ⟨_, _, _, _, _, _, _, _, _, _, rfl⟩, R0, Nat.zero_le _⟩ ?_ ?_
    · clear R0 x0 fr
      rintro t σ H1 ht ⟨G1, c, ⟨x2, x3, x4, x5, x6, x7, x8, x9, x10, x11, rfl⟩, R1, hc⟩
      refine ⟨_, rfl, by decide, by decide, fun D hD => ?_⟩
      have nM := gn R1 hD
      refine lc_it (walk_range (lo := 0) (n := 2)) (fun q H' => ∃ G' c' ws, Ex (SM S) G1 H1 G' H' ∧ SPR S c' G' H' ∧ c' ≤ c + 100 * q ∧ G' D = none ∧ H' D = some (.lst ws) ∧ ws.length = q ∧ ∀ v ∈ ws, ∃ A, ROk G' v A) ⟨G1, c, [], (Ex.rfl' R1.e).loc hD, R1.put (same_free R1.e hD) nM, by omega, same_free R1.e hD, upd_same, rfl, fun v h => (nomatch h)⟩ (fun _ _ _ _ => trivial) ?_ ?_
      · rintro q x H2 _ hq ⟨G2, c2, ws, y2, R2, l2, gD, hD2, lw, aw⟩ ⟨rfl, rfl⟩
        refine ⟨rfl, ?_⟩
        unfold tYes
        simp only [↓reduceIte]
        refine ⟨_, rfl, _, rfl, S, G2, c2, 5, rfl, R2, by decide, by decide, by omega, fun t0 ht0 H3 y3 R3 => ⟨_, _, rfl, rfl, ?_⟩⟩
        have et : (2 : Int) + ((t0 : Nat) : Int) = ((2 + t0 : Nat) : Int) := by omega
        dsimp only
        rw [et]
        refine ⟨S, G2, c2 + 1, 2 + t0, rfl, R3, by omega, by omega, fun A c4 G4 H4 v lr lc y4 R4 dv => ?_⟩
        have hD3 := y3.s _ _ hD2 nM
        have hD4 := y4.s _ _ hD3 nM
        have gD4 := y4.fr D (by rw [hD3]; exact fun z => nomatch z) gD
        refine ⟨ws, hD4, small1000 (by omega), G4, c4, ws ++ [v], ((y2.trans y3).trans y4).mut (.inl hD) gD4, R4.put gD4 nM, by omega, gD4, upd_same, by rw [List.length_append, lw] <;> rfl, fun u hu => ?_⟩
        rcases List.mem_append.mp hu with h | h
        · obtain ⟨B, hB⟩ := aw u h
          exact ⟨B, hB.mono y4.g⟩
        · rw [List.mem_singleton.mp h]
          exact ⟨A, dv, M84.rows_ok lr.v lr.len lr.s (by omega) (by omega)⟩
      · rintro H2 ⟨G2, c2, ws, y2, R2, l2, gD, hD2, lw, aw⟩
        obtain ⟨v0, v1, rfl⟩ : ∃ v0 v1, ws = [v0, v1] := by
          match ws, lw with
          | [p, q], _ => exact ⟨p, q, rfl⟩
        obtain ⟨A0, r0⟩ := aw v0 (by simp)
        obtain ⟨A1', r1'⟩ := aw v1 (by simp)
        show tSeq _ _ _ _ _
        refine sum_core (v1 := v1) R2 (by omega) rfl rfl gD hD2 nM r0 r1' ?_
        clear r0 r1' aw R2 gD hD2 y2 R1
        intro G3 H3 c3 w1 A1 R3 l3 gD3 hD3 r0 r1
        have R4 := R3.frz hD3 gD3 nM
        have gD4 : upd G3 D (.lst [v0, w1]) D = some (.lst [v0, w1]) := upd_same
        replace r0 := r0.mono (same_upd (o := HO.lst [v0, w1]) gD3)
        replace r1 := r1.mono (same_upd (o := HO.lst [v0, w1]) gD3)
        clear R3 gD3 hD3
        generalize upd G3 D (.lst [v0, w1]) = G4 at R4 gD4 r0 r1
        have pickA : ∀ (j : Nat) (x : V) (N : List Rw), [v0, w1][j]? = some x → [M84.heapR A0, M84.heapR A1][j]? = some N → ∃ A, ROk G4 x A ∧ N = M84.heapR A := by
          intro j x N ex en
          match j, ex, en with
          | 0, ex, en => cases ex; cases en; exact ⟨A0, r0, rfl⟩
          | 1, ex, en => cases ex; cases en; exact ⟨A1, r1, rfl⟩
          | j + 2, ex, _ => simp at ex
        refine ⟨_, rfl, D, rfl, ⟨_, SqL.of (R4.e _ _ gD4)⟩, fun E2 hE => ?_⟩
        refine lcR (R := HpI K) (hpI_mono K) (walk_list (K := K) (a := D) (xs := [v0, w1])) [M84.heapR A0, M84.heapR A1] rfl (by show 2 ≤ sizeLine; decide) R4.e hE (fun H' s' => SqL.of (s' _ _ (R4.e _ _ gD4))) (fun _ => rfl) (fun j x N G' H' Q' ex en xx q => ?_) ?_
        · obtain ⟨A, rA, rfl⟩ := pickA j x N ex en
          exact ⟨_, rfl, G', x, A, rfl, xx.gh, dt_mono xx.g rA.1, rA.2.v, rA.2.ne, by have := rA.2.len; omega, rA.2.sd, q⟩
        intro G5 H5 hs y5 gE hE5 rl5
        have nME := gn R4 hE
        have R6 := (R4.keep y5).frz hE5 gE nME
        have s46 := y5.g.trans (same_upd (o := HO.lst hs) gE)
        have gE6 : upd G5 E2 (.lst hs) E2 = some (.lst hs) := upd_same
        replace rl5 := rl5.mono (hpI_mono K) (same_upd (o := HO.lst hs) gE)
        clear y5 gE hE5
        generalize upd G5 E2 (.lst hs) = G6 at R6 s46 gE6 rl5
        have gD6 := s46 _ _ gD4
        refine ⟨_, rfl, E2, rfl, ⟨_, SqL.of (R6.e _ _ gE6)⟩, fun F2 hF => ?_⟩
        have lhs : hs.length = 2 := rl5.1
        refine lcR (R := HpI K) (hpI_mono K) (walk_list (K := K) (a := E2) (xs := hs)) [M84.formN A0, M84.formN A1] lhs.symm (by rw [lhs]; show 2 ≤ sizeLine; decide) R6.e hF (fun H' s' => SqL.of (s' _ _ (R6.e _ _ gE6))) (fun _ => rfl) (fun j x N G' H' Q' ex en xx q => ?_) ?_
        · obtain ⟨M, eM, hM⟩ := rl5.get' ex
          have key : ∃ A, M84.RowsOk A ∧ M = M84.heapR A ∧ N = M84.formN A := by
            match j, eM, en with
            | 0, eM, en => cases eM; cases en; exact ⟨A0, r0.2, rfl, rfl⟩
            | 1, eM, en => cases eM; cases en; exact ⟨A1, r1.2, rfl, rfl⟩
            | j + 2, eM, _ => simp at eM
          obtain ⟨A, oA, rfl, rfl⟩ := key
          exact ⟨_, rfl, G', x, _, rfl, xx.gh, hpI_mono K _ _ _ _ xx.g hM, by have := oA.heap.2.1; omega, q⟩
        intro G7 H7 fs y7 gF hF7 rl7
        have nMF := gn R6 hF
        have R8 := (R6.keep y7).frz hF7 gF nMF
        have s68 := y7.g.trans (same_upd (o := HO.lst fs) gF)
        have gF8 : upd G7 F2 (.lst fs) F2 = some (.lst fs) := upd_same
        replace rl7 := rl7.mono (hpI_mono K) (same_upd (o := HO.lst fs) gF)
        clear y7 gF hF7
        generalize upd G7 F2 (.lst fs) = G8 at R8 s68 gF8 rl7
        have gD8 := s68 _ _ gD6
        have gE8 := s68 _ _ gE6
        replace rl5 := rl5.mono (hpI_mono K) s68
        have r08 := r0.mono (s46.trans s68)
        have r18 := r1.mono (s46.trans s68)
        have lfs : fs.length = 2 := rl7.1
        refine ⟨_, rfl, _, rfl, _, rfl, D, E2, F2, [v0, w1], hs, fs, rfl, SqL.of (R8.e _ _ gD8), SqL.of (R8.e _ _ gE8), SqL.of (R8.e _ _ gF8), for_it (walk_zip3 (K := K) (a := D) (b := E2) (c := F2) (xs := [v0, w1]) (ys := hs) (zs := fs) lhs lfs) (fun i σ H' => (∃ z2 z6 z7 z8 z9 z10 z11, σ = [some (.ref a), some (.ref S.sp), z2, some (.ref D), some (.ref E2), some (.ref F2), z6, z7, z8, z9, z10, z11]) ∧ Ex M0 G8 H7 G8 H') ⟨⟨_, _, _, _, _, _, _, rfl⟩, Ex.rfl' R8.e⟩ (fun i σ H' _ h => ⟨SqL.of (h.2.gh _ _ gD8), SqL.of (h.2.gh _ _ gE8), SqL.of (h.2.gh _ _ gF8)⟩) ?_ ?_⟩
        · rintro i x σ H9 H10 hi ⟨⟨z2, z6, z7, z8, z9, z10, z11, rfl⟩, y9⟩ ⟨T', p, q, r, rfl, hT, rfl, e1, e2, e3⟩
          have y10 := y9.loc (o := .tup [p, q, r]) hT
          have hT2 : upd H9 T' (.tup [p, q, r]) T' = some (.tup [p, q, r]) := upd_same
          generalize upd H9 T' (.tup [p, q, r]) = H10 at y10 hT2 ⊢
          obtain ⟨M, eM, hM⟩ := rl5.get' e2
          obtain ⟨N, eN, hN⟩ := rl7.get' e3
          have key : ∃ A, ROk G8 p A ∧ M = M84.heapR A ∧ N = M84.formN A := by
            match i, e1, eM, eN with
            | 0, e1, eM, eN => cases e1; cases eM; cases eN; exact ⟨A0, r08, rfl, rfl⟩
            | 1, e1, eM, eN => cases e1; cases eM; cases eN; exact ⟨A1, r18, rfl, rfl⟩
            | i + 2, e1, _, _ => simp at e1
          obtain ⟨A, rA, rfl, rfl⟩ := key
          refine ⟨T', _, rfl, SqT.of hT2, rfl, _, _, rfl, _, _, rfl, _, _, rfl, rfl, ?_⟩
          exact turn_core T y10.gh (by show 9 < 12; decide) rfl rfl rfl rA hM hN (fun G' H' x xx => ⟨⟨_, _, _, _, _, _, _, rfl⟩, y10.trans (Ex.of_same y10.gh xx.same)⟩)
        · rintro σ H9 ⟨⟨z2, z6, z7, z8, z9, z10, z11, rfl⟩, y9⟩
          obtain ⟨w0, ew0, hf0⟩ := rl7.get (j := 0) rfl
          obtain ⟨w1', ew1, hf1⟩ := rl7.get (j := 1) rfl
          obtain ⟨fa0, fx0, fn0, fm0, rfl, hF0⟩ := hf0
          obtain ⟨fa1, fx1, fn1, fm1, rfl, hF1⟩ := hf1
          have ok0 := r08.2
          have ok1 := r18.2
          have len0 := ok0.len
          have len1 := ok1.len
          refine ⟨_, rfl, F2, _, _, _, rfl, rfl, SqL.of (y9.gh _ _ gF8), atN (j := 0) ew0, _, rfl, F2, _, _, _, rfl, rfl, SqL.of (y9.gh _ _ gF8), atN (j := 1) ew1, fa0, fa1, fx0, fx1, _, _, _, rfl, rfl, y9.gh _ _ hF0.e, y9.gh _ _ hF1.e, ⟨G8, _, _, y9.gh, ⟨fa0, fx0, fn0, fm0, rfl, hF0⟩, ⟨fa1, fx1, fn1, fm1, rfl, hF1⟩, rfl⟩, fun H10 s10 => ?_⟩
          have y10 := y9.trans (Ex.of_same y9.gh s10)
          refine ⟨_, rfl, D, _, _, _, rfl, rfl, SqL.of (y10.gh _ _ gD8), atN (j := 0) rfl, _, rfl, D, _, _, _, rfl, rfl, SqL.of (y10.gh _ _ gD8), atN (j := 1) rfl, G8, v0, w1, A0, A1, rfl, y10.gh, r08.1, r18.1, ok0.v, ok1.v, ok0.ne, ok1.ne, by omega, by omega, ok0.sd, ok1.sd, fun G11 H11 y11 => ⟨rfl, _, rfl, ?_⟩⟩
          rw [M84.RowsOk.same leM_ok ok0 ok1, decide_eq_true rfl, Bool.not_true]
          refine iteF ?_
          have y812 := y10.trans y11
          obtain ⟨u0, eu0, hh0⟩ := rl5.get (j := 0) rfl
          obtain ⟨u1, eu1, hh1⟩ := rl5.get (j := 1) rfl
          obtain ⟨ha0, hx0, hn0, hm0, rfl, hH0⟩ := hh0
          obtain ⟨ha1, hx1, hn1, hm1, rfl, hH1⟩ := hh1
          have ehs : hs = [ha0, ha1].map V.ref := two_eq lhs eu0 eu1
          refine ⟨_, rfl, _, rfl, D, rfl, ⟨_, SqL.of (y812.gh _ _ (y812.g _ _ gD8))⟩, fun L hL => ?_⟩
          refine lcR (R := HpI K) (hpI_mono K) (walk_list (K := K) (a := D) (xs := [v0, w1])) [M84.heapR A0, M84.heapR A1] rfl (by show 2 ≤ sizeLine; decide) y812.gh hL (fun H' s' => SqL.of (s' _ _ (y812.gh _ _ (y812.g _ _ gD8)))) (fun _ => rfl) (fun j x N G' H' Q' ex en xx q => ?_) ?_
          · obtain ⟨A, rA, rfl⟩ := pickA j x N ex en
            have rA' := rA.mono (((s46.trans s68).trans y812.g).trans xx.g)
            exact ⟨_, rfl, G', x, A, rfl, xx.gh, rA'.1, rA.2.v, rA.2.ne, by have := rA.2.len; omega, rA.2.sd, q⟩
          intro G13 H13 ks y13 gL hL13 rlk
          have lks : ks.length = 2 := rlk.1
          obtain ⟨q0, eq0, hk0⟩ := rlk.get (j := 0) rfl
          obtain ⟨q1, eq1, hk1⟩ := rlk.get (j := 1) rfl
          obtain ⟨ka0, kx0, kn0, km0, rfl, hK0⟩ := hk0
          obtain ⟨ka1, kx1, kn1, km1, rfl, hK1⟩ := hk1
          have eks : ks = [ka0, ka1].map V.ref := two_eq lks eq0 eq1
          have y813 := y812.trans (Ex.of_same y812.gh y13.same)
          have g813 := y812.g.trans y13.g
          have hH0' := hpAt_mono g813 hH0
          have hH1' := hpAt_mono g813 hH1
          refine ⟨E2, L, [ha0, ha1], [ka0, ka1], rfl, rfl, by rw [← ehs]; exact y813.gh _ _ (y812.g _ _ gE8), by rw [← eks]; exact hL13, rfl, fun i p q ep eq => ?_, fun H14 s14 => ⟨_, rfl, iteF ?_⟩⟩
          · match i, ep, eq with
            | 0, ep, eq =>
              cases ep; cases eq
              exact ⟨⟨_, _, y13.gh _ _ hH0'.e⟩, ⟨_, _, y13.gh _ _ hK0.e⟩, fun H' s' => ⟨G13, _, _, y13.gh.trans s', ⟨_, _, _, _, rfl, hH0'⟩, ⟨_, _, _, _, rfl, hK0⟩, (decide_eq_true rfl).symm⟩⟩
            | 1, ep, eq =>
              cases ep; cases eq
              exact ⟨⟨_, _, y13.gh _ _ hH1'.e⟩, ⟨_, _, y13.gh _ _ hK1.e⟩, fun H' s' => ⟨G13, _, _, y13.gh.trans s', ⟨_, _, _, _, rfl, hH1'⟩, ⟨_, _, _, _, rfl, hK1⟩, (decide_eq_true rfl).symm⟩⟩
            | i + 2, ep, _ => simp at ep
          · exact ⟨G13, c3, ⟨_, _, _, _, _, _, _, _, _, _, rfl⟩, (R8.keep (y812.trans y13)).keep (Ex.of_same y13.gh s14), by omega⟩
    · rintro σ H1 ⟨G1, c, ⟨x2, x3, x4, x5, x6, x7, x8, x9, x10, x11, rfl⟩, R1, hc⟩
      have ne3 : ∀ t0 : Nat, t0 < 3 → M84.RowsOk (M84.ladR (11 + t0)) := fun t0 h => M84.ladR_ok (by omega) (by omega)
      refine ⟨_, rfl, S, G1, c, 3, rfl, R1, by decide, by decide, by omega, fun t0 ht0 H2 y2 R2 => ⟨_, _, rfl, rfl, ?_⟩⟩
      have em : (11 : Int) + ((t0 : Nat) : Int) = ((11 + t0 : Nat) : Int) := by omega
      dsimp only
      rw [em]
      have ok := ne3 t0 ht0
      have okh := ok.heap
      have L := ok.form
      refine ⟨_, rfl, G1, 11 + t0, rfl, R2.e, by omega, by omega, fun G3 H3 v3 y3 d3 => ⟨G3, v3, M84.ladR (11 + t0), rfl, y3.gh, d3, ok.v, ok.ne, by have := ok.len; omega, ok.sd, fun G4 H4 v4 y4 h4 => ⟨G4, v4, _, rfl, y4.gh, h4, by have := okh.2.1; omega, fun G5 H5 v5 y5 h5 => ?_⟩⟩⟩
      refine ⟨_, rfl, _, _, rfl, rfl, _, _, rfl, rfl, by show (3 : Int) ≠ 0; decide, ?_⟩
      have es : ((((11 + t0 : Nat) : Int) - 1).fmod 3) = (((11 + t0 - 1) % 3 : Nat) : Int) := by
        have e1 : (((11 + t0 : Nat) : Int) - 1) = ((11 + t0 - 1 : Nat) : Int) := by omega
        rw [e1, Int.fmod_eq_emod_of_nonneg _ (by decide)]
        omega
      refine ⟨G5, (11 + t0 - 1) % 3, congrArg (fun z : Int => [V.int z]) es, y5.gh, by omega, fun G6 H6 v6 y6 h6 => ?_⟩
      obtain ⟨fa, fx, fn, fm, rfl, hF⟩ := h5
      obtain ⟨sa, sx, sn, sm, rfl, hS6⟩ := h6
      have hF6 := hpAt_mono y6.g hF
      refine ⟨fa, sa, fx, sx, _, _, _, rfl, rfl, y6.gh _ _ hF6.e, y6.gh _ _ hS6.e, ⟨G6, _, _, y6.gh, ⟨fa, fx, fn, fm, rfl, hF6⟩, ⟨sa, sx, sn, sm, rfl, hS6⟩, rfl⟩, fun H7 s7 => ⟨_, rfl, ?_⟩⟩
      rw [decide_eq_true (M84.ladder_star leM_ok (by omega) (by omega)), Bool.not_true]
      exact iteF (nil_core (y6.gh.trans s7) fun _ => k _)
end
end G84

/-! Head84: the head's run (printed). -/
namespace G84
open PySem PySem.Spec PyProof.Rows L2
def names1 : List PySem.Str := ["GameError", "BadNumber", "BadHeap", "is_integer", "is_list", "Nodes", "Rows", "checked_heaps", "place_in", "joined_rows", "mark_of", "kinds_of", "depths_of", "marks_of", "Heap", "heap_of", "heap_at", "summed_moves", "summed_rows", "Forms", "unlike", "least_form", "is_least_form", "star_nodes", "star", "_law_spring", "_law_take", "_law_rows", "_law_heap", "_law_place"]
def names2 : List PySem.Str := ["_law_told", "_law_orders", "_law_alike", "_law_summed", "_law_is_needless", "_law_is_round", "_law_met", "_law_is_least", "_law_ladder"]
abbrev R : PySem.W.OpenRow := PySem.W.OpenLaw.row PySem.Challenge.rw_gameworths_k84_whole_least_forms
def ob (s : PySem.W.SharedT) : He.AlD := obsXG 4 (HandSHeadRun.getT s)
theorem ob_eq (s : PySem.W.SharedT) : ob s = hk.obs s.abs := obsXG_eq (HandSHeadRun.getT_eq s)
theorem run (w : World) : HandSHeadRun.RunEq R (PySem.W.view R.prog [44]) hk ob 10000 (names1 ++ names2) w := by
  intro os
  kernel_rfl
end G84

namespace G84
open PySem PySem.Spec PyProof.Rows L2
/-! Fin: the law holds. -/
theorem facts {P : Program} {w : World} {K : PySem.W.Frag} {h : Heap} {mg : Str → Option Value} {f : Addr} (X : K.In h) (G : h.Ns mainGlobals mg) (hfa : mg ("law" : Str) = some (.ref f)) (c : SaysX K) :
    ∃ fd : FuncData, (∀ (s : Shared) (v : Value), BindsTo s fd ⟨[v], []⟩ [("_law_script", v)]) ∧ ∀ base : Heap, K.In base → base.Ns mainGlobals mg → FnOk P w K mg base CX0 130 f fd ["_law_script"] (spLaw K) := by
  have T : TX K mg := ⟨⟨h, X, G⟩, c⟩
  obtain ⟨fd, F⟩ := T.d_law
  have e := hfa.symm.trans T.g_law
  cases e
  have b := FunD.bindsA (ps := ["_law_script"]) F fun _ _ _ _ _ _ us hl => match us, hl with | [_], _ => rfl
  exact ⟨fd, fun s v => b s [v] rfl, fun base _ _ => ok_lawF T F⟩
end G84
open PySem PySem.W PySem.Calls PyProof.Rows
theorem PySem.Challenge.cw_gameworths_k84_whole_least_forms_holds : PySem.Challenge.rw_gameworths_k84_whole_least_forms.Holds := by
  w_on; o_law
  refine HandSHeadRun.head_any (r := OpenLaw.row PySem.Challenge.rw_gameworths_k84_whole_least_forms) (q := view (OpenLaw.row PySem.Challenge.rw_gameworths_k84_whole_least_forms).prog [44]) (H := G84.hk) (ob := G84.ob) (M := 10000) (loose := G84.names1 ++ G84.names2) (d := HandSHeadRun.topDef (OpenLaw.row PySem.Challenge.rw_gameworths_k84_whole_least_forms).prog 44) (kwd := []) G84.ob_eq
    (by kernel_rfl) (fun s => by kernel_rfl) G84.run (by kernel_rfl) (by kernel_rfl) (by kernel_rfl) (by rfl) (by first | assumption | decide +kernel) (by decide +kernel) ⟨rfl, rfl, rfl, rfl, rfl, by decide +kernel⟩ ?hw ?hc
  case hw => w_witness2
  case hc =>
    refine L2.walk_ofE (l := PySem.Challenge.rw_gameworths_k84_whole_least_forms) (n := 63) (k := 130) (x := "_law_script") (CX := L2.CX0) rfl (by decide) (by kernel_rfl) ⟨rfl, by decide, by decide⟩ ?F (fun _ _ _ _ z => z)
    intro w mg fa h Y G hmg0
    obtain ⟨K, KX, c⟩ := Y
    have hmg : mg ("law" : PySem.Str) = some (.ref fa) := by
      have e : (HandSHeadRun.topDef (OpenLaw.row PySem.Challenge.rw_gameworths_k84_whole_least_forms).prog 44).name = ("law" : PySem.Str) := by kernel_rfl
      rw [← e]
      exact hmg0
    obtain ⟨fd, hb, hF⟩ := G84.facts (P := (PySem.Challenge.rw_gameworths_k84_whole_least_forms).prog) (w := w) KX G hmg c
    exact ⟨K, fd, G84.spLaw K, KX, hb, fun H a ns hl _ hS => ⟨a, ns, rfl, hS, hl, fun _ => rfl⟩, hF⟩
