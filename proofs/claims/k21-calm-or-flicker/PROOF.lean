import PyProof.Rows.All
import Wide.All
import OpenK.AllK
import Wide.FinOn
import HandS.ForMost
import HandS.Walk
import HandS.IsInst
import HandS.Style
import HandS.SortRule
import HandS.Wide
import KE.GoesEnum
import PySem.Challenge.RW_steadycover_k21_whole_calm_or_flicker

/-! ## StMath -/
section
set_option autoImplicit false
/-! The plain mathematics: cubes, words of products, orders of wires. No program here. -/
namespace Stc
/-- a sign: "0", "1", "-" -/
inductive Sg where
  | z | o | d
  deriving DecidableEq
abbrev Cub := List Sg
/-- the i-th sign -/
def g (c : Cub) (i : Nat) : Sg := c.getD i .d
def IsPt (c : Cub) : Prop := ∀ i, i < c.length → g c i ≠ .d
def Inside (c d : Cub) : Prop := ∀ i, i < c.length → g c i = .d ∨ g c i = g d i
instance (c d : Cub) : Decidable (Inside c d) := inferInstanceAs (Decidable (∀ i, i < c.length → g c i = .d ∨ g c i = g d i))
def opp : Sg → Sg → Bool
  | .z, .o => true
  | .o, .z => true
  | _, _ => false
def opposedF (c d : Cub) : List Nat := (List.range c.length).filter fun i => opp (g c i) (g d i)
def joinF (c d : Cub) : Cub := (List.range c.length).map fun i => if g c i = g d i then g c i else .d
def Reach (cov : List Cub) (p : Cub) : Prop := ∃ c, c ∈ cov ∧ Inside c p
instance (cov : List Cub) (p : Cub) : Decidable (Reach cov p) := inferInstanceAs (Decidable (∃ c, c ∈ cov ∧ Inside c p))
abbrev Wr := Nat × Nat
def cu (cov : List Cub) (j : Nat) : Cub := cov.getD j []
/-- the input i turns, and the product has a literal there -/
def Wi (s e c : Cub) (i : Nat) : Bool := decide (g c i ≠ .d) && decide (g s i ≠ g e i)
def wiresOf (s e c : Cub) (j : Nat) : List Wr := ((List.range c.length).filter fun i => Wi s e c i).map fun i => (j, i)
def wiresF (s e : Cub) (cov : List Cub) : List Wr := (List.range cov.length).flatMap fun j => wiresOf s e (cu cov j) j

inductive W where
  | w0 | w1 | w01 | w10 | w010
  deriving DecidableEq
def Conf (s e c : Cub) (i : Nat) : Prop := g c i ≠ .d ∧ g s i = g e i ∧ g c i ≠ g s i
def Ris (s e c : Cub) (i : Nat) : Prop := g c i ≠ .d ∧ g s i ≠ g e i ∧ g c i = g e i
def Fal (s e c : Cub) (i : Nat) : Prop := g c i ≠ .d ∧ g s i ≠ g e i ∧ g c i ≠ g e i
instance (s e c : Cub) (i : Nat) : Decidable (Conf s e c i) := inferInstanceAs (Decidable (_ ∧ _ ∧ _))
instance (s e c : Cub) (i : Nat) : Decidable (Ris s e c i) := inferInstanceAs (Decidable (_ ∧ _ ∧ _))
instance (s e c : Cub) (i : Nat) : Decidable (Fal s e c i) := inferInstanceAs (Decidable (_ ∧ _ ∧ _))
/-- some input below k -/
def Ex (P : Nat → Prop) (k : Nat) : Prop := ∃ i, i < k ∧ P i
instance (P : Nat → Prop) [DecidablePred P] (k : Nat) : Decidable (Ex P k) := inferInstanceAs (Decidable (∃ i, i < k ∧ P i))
theorem ex_succ {P : Nat → Prop} {k : Nat} : Ex P (k + 1) ↔ Ex P k ∨ P k := by
  constructor
  · rintro ⟨i, hi, p⟩
    by_cases e : i = k
    · subst e; exact .inr p
    · exact .inl ⟨i, by omega, p⟩
  · rintro (⟨i, hi, p⟩ | p)
    · exact ⟨i, by omega, p⟩
    · exact ⟨k, by omega, p⟩
theorem ex_zero {P : Nat → Prop} : ¬ Ex P 0 := fun ⟨_, h, _⟩ => by omega
def wOf (r f : Bool) : W := if r = true then (if f = true then .w010 else .w01) else (if f = true then .w10 else .w1)
def pw (s e c : Cub) : W := if Ex (Conf s e c) c.length then .w0 else wOf (decide (Ex (Ris s e c) c.length)) (decide (Ex (Fal s e c) c.length))

/-! ### playing -/
def Shows (s e c : Cub) (j : Nat) (T : List Wr) : Prop := ∀ i, i < c.length → g c i = .d ∨ g c i = (if (j, i) ∈ T then g e i else g s i)
instance (s e c : Cub) (j : Nat) (T : List Wr) : Decidable (Shows s e c j T) := inferInstanceAs (Decidable (∀ i, i < c.length → g c i = .d ∨ g c i = (if (j, i) ∈ T then g e i else g s i)))
def OrS (s e : Cub) (cov : List Cub) (T : List Wr) : Prop := ∃ j, j < cov.length ∧ Shows s e (cu cov j) j T
instance (s e : Cub) (cov : List Cub) (T : List Wr) : Decidable (OrS s e cov T) := inferInstanceAs (Decidable (∃ j, j < cov.length ∧ Shows s e (cu cov j) j T))
/-- the word's length behind k wires -/
def wlen (f : Nat → Bool) : Nat → Nat
  | 0 => 1
  | k + 1 => wlen f k + (if f (k + 1) = f k then 0 else 1)
theorem wlen_mono (f : Nat → Bool) : ∀ {a b : Nat}, a ≤ b → wlen f a ≤ wlen f b
  | a, 0, h => by
    have e : a = 0 := by omega
    subst e; exact Nat.le_refl _
  | a, b + 1, h => by
    by_cases e : a = b + 1
    · subst e; exact Nat.le_refl _
    · have q := wlen_mono f (a := a) (b := b) (by omega)
      show wlen f a ≤ wlen f b + _
      omega
theorem wlen_ne (f : Nat → Bool) : ∀ {a b : Nat}, a ≤ b → f a ≠ f b → wlen f a + 1 ≤ wlen f b
  | a, 0, h, ne => by
    have e : a = 0 := by omega
    subst e; exact absurd rfl ne
  | a, b + 1, h, ne => by
    have hab : a ≠ b + 1 := fun e => by subst e; exact ne rfl
    by_cases e : f (b + 1) = f b
    · have q := wlen_ne f (a := a) (b := b) (by omega) (by rw [← e]; exact ne)
      show wlen f a + 1 ≤ wlen f b + _
      omega
    · have q := wlen_mono f (a := a) (b := b) (by omega)
      show wlen f a + 1 ≤ wlen f b + (if f (b + 1) = f b then 0 else 1)
      rw [if_neg e]
      omega
theorem wlen_three (f : Nat → Bool) {a b c : Nat} (h1 : a ≤ b) (h2 : b ≤ c) (n1 : f a ≠ f b) (n2 : f b ≠ f c) {k : Nat} (hk : c ≤ k) : 2 < wlen f k := by
  have q1 := wlen_ne f h1 n1
  have q2 := wlen_ne f h2 n2
  have q3 := wlen_mono f hk
  have q4 := wlen_mono f (Nat.zero_le a)
  have q5 : wlen f 0 = 1 := rfl
  omega
/-- once it is b it stays b -/
theorem wlen_two (f : Nat → Bool) (b : Bool) (h : ∀ k, f k = b → f (k + 1) = b) : ∀ k, wlen f k ≤ if f k = b then 2 else 1
  | 0 => by
    show 1 ≤ _
    by_cases e : f 0 = b
    · rw [if_pos e]; omega
    · rw [if_neg e]; exact Nat.le_refl _
  | k + 1 => by
    have ih := wlen_two f b h k
    show wlen f k + (if f (k + 1) = f k then 0 else 1) ≤ _
    by_cases e : f k = b
    · have e2 := h k e
      rw [if_pos e] at ih
      rw [if_pos e2, if_pos (e2.trans e.symm)]
      omega
    · rw [if_neg e] at ih
      by_cases e2 : f (k + 1) = b
      · rw [if_pos e2]
        have q : (if f (k + 1) = f k then 0 else 1) ≤ 1 := by
          by_cases e3 : f (k + 1) = f k
          · rw [if_pos e3]; omega
          · rw [if_neg e3]; exact Nat.le_refl _
        omega
      · rw [if_neg e2]
        have e3 : f (k + 1) = f k := by
          cases h1 : f (k + 1) <;> cases h2 : f k <;> cases b <;> simp_all
        rw [if_pos e3]
        exact ih
theorem wlen_le2 (f : Nat → Bool) (b : Bool) (h : ∀ k, f k = b → f (k + 1) = b) (k : Nat) : wlen f k ≤ 2 := by
  have q := wlen_two f b h k
  by_cases e : f k = b
  · rw [if_pos e] at q; exact q
  · rw [if_neg e] at q; omega
def fOf (s e : Cub) (cov : List Cub) (ord : List Wr) (k : Nat) : Bool := decide (OrS s e cov (ord.take k))

/-! ### the words of products and what they show -/
section
variable {s e c : Cub}
theorem sg3 {x y w : Sg} (hx : x ≠ .d) (hy : y ≠ .d) (hw : w ≠ .d) (h : x ≠ y) (h2 : w ≠ y) : w = x := by
  cases x <;> cases y <;> cases w <;> simp_all
/-- a change of n inputs and a cube of n -/
structure Fit (s e c : Cub) : Prop where
  ls : s.length = c.length
  le : e.length = c.length
  ps : IsPt s
  pe : IsPt e
theorem Fit.sd (F : Fit s e c) {i : Nat} (hi : i < c.length) : g s i ≠ .d := F.ps i (by rw [F.ls]; exact hi)
theorem Fit.ed (F : Fit s e c) {i : Nat} (hi : i < c.length) : g e i ≠ .d := F.pe i (by rw [F.le]; exact hi)
theorem Fit.fal (F : Fit s e c) {i : Nat} (hi : i < c.length) : Fal s e c i ↔ g c i ≠ .d ∧ g s i ≠ g e i ∧ g c i = g s i := by
  constructor
  · rintro ⟨h1, h2, h3⟩
    exact ⟨h1, h2, sg3 (F.sd hi) (F.ed hi) h1 h2 h3⟩
  · rintro ⟨h1, h2, h3⟩
    exact ⟨h1, h2, by rw [h3]; exact h2⟩
theorem pw0 : pw s e c = .w0 ↔ Ex (Conf s e c) c.length := by
  unfold pw
  by_cases h : Ex (Conf s e c) c.length
  · rw [if_pos h]; exact ⟨fun _ => h, fun _ => rfl⟩
  · rw [if_neg h]
    refine ⟨fun q => ?_, fun q => absurd q h⟩
    exfalso
    revert q
    unfold wOf
    cases decide (Ex (Ris s e c) c.length) <;> cases decide (Ex (Fal s e c) c.length) <;> simp
theorem pw_cases : (Ex (Conf s e c) c.length ∧ pw s e c = .w0) ∨ (¬ Ex (Conf s e c) c.length ∧
    ((pw s e c = .w1 ∧ ¬ Ex (Ris s e c) c.length ∧ ¬ Ex (Fal s e c) c.length) ∨ (pw s e c = .w01 ∧ Ex (Ris s e c) c.length ∧ ¬ Ex (Fal s e c) c.length) ∨
    (pw s e c = .w10 ∧ ¬ Ex (Ris s e c) c.length ∧ Ex (Fal s e c) c.length) ∨ (pw s e c = .w010 ∧ Ex (Ris s e c) c.length ∧ Ex (Fal s e c) c.length))) := by
  by_cases h : Ex (Conf s e c) c.length
  · exact .inl ⟨h, pw0.mpr h⟩
  · refine .inr ⟨h, ?_⟩
    unfold pw
    rw [if_neg h]
    by_cases h1 : Ex (Ris s e c) c.length <;> by_cases h2 : Ex (Fal s e c) c.length <;> simp [h1, h2, wOf]
/-- no fixed literal is against it -/
abbrev NoC (s e c : Cub) : Prop := ¬ Ex (Conf s e c) c.length
theorem noC_at (h : NoC s e c) {i : Nat} (hi : i < c.length) (h1 : g c i ≠ .d) (h2 : g s i = g e i) : g c i = g s i := by
  by_cases q : g c i = g s i
  · exact q
  · exact absurd ⟨i, hi, h1, h2, q⟩ h
/-- what a product shows: nothing if a fixed literal is against it -/
theorem shows_conf {j : Nat} {T : List Wr} (h : Ex (Conf s e c) c.length) : ¬ Shows s e c j T := fun q => by
  obtain ⟨i, hi, h1, h2, h3⟩ := h
  rcases q i hi with z | z
  · exact h1 z
  · by_cases m : (j, i) ∈ T
    · rw [if_pos m, ← h2] at z; exact h3 z
    · rw [if_neg m] at z; exact h3 z
theorem shows_iff (F : Fit s e c) (h : NoC s e c) {j : Nat} {T : List Wr} :
    Shows s e c j T ↔ (∀ i, i < c.length → Ris s e c i → (j, i) ∈ T) ∧ (∀ i, i < c.length → Fal s e c i → (j, i) ∉ T) := by
  constructor
  · intro q
    refine ⟨fun i hi r => ?_, fun i hi r m => ?_⟩
    · rcases q i hi with z | z
      · exact absurd z r.1
      · by_cases m : (j, i) ∈ T
        · exact m
        · rw [if_neg m] at z
          exact absurd (z.symm.trans r.2.2) r.2.1
    · rcases q i hi with z | z
      · exact absurd z r.1
      · rw [if_pos m] at z
        exact r.2.2 z
  · rintro ⟨q1, q2⟩ i hi
    by_cases hd : g c i = .d
    · exact .inl hd
    · refine .inr ?_
      by_cases hs : g s i = g e i
      · have a := noC_at h hi hd hs
        by_cases m : (j, i) ∈ T
        · rw [if_pos m, a, hs]
        · rw [if_neg m, a]
      · by_cases r : g c i = g e i
        · rw [if_pos (q1 i hi ⟨hd, hs, r⟩), r]
        · rw [if_neg (q2 i hi ⟨hd, hs, r⟩)]
          exact ((F.fal hi).mp ⟨hd, hs, r⟩).2.2
theorem inside_s (F : Fit s e c) : Inside c s ↔ pw s e c = .w1 ∨ pw s e c = .w10 := by
  have key : Inside c s ↔ NoC s e c ∧ ¬ Ex (Ris s e c) c.length := by
    constructor
    · intro h
      refine ⟨fun ⟨i, hi, h1, h2, h3⟩ => ?_, fun ⟨i, hi, h1, h2, h3⟩ => ?_⟩
      · rcases h i hi with z | z
        · exact h1 z
        · exact h3 z
      · rcases h i hi with z | z
        · exact h1 z
        · exact h2 (z.symm.trans h3)
    · rintro ⟨h1, h2⟩ i hi
      by_cases hd : g c i = .d
      · exact .inl hd
      · refine .inr ?_
        by_cases hs : g s i = g e i
        · exact noC_at h1 hi hd hs
        · by_cases r : g c i = g e i
          · exact absurd ⟨i, hi, hd, hs, r⟩ h2
          · exact ((F.fal hi).mp ⟨hd, hs, r⟩).2.2
  rw [key]
  rcases pw_cases (s := s) (e := e) (c := c) with ⟨a, b⟩ | ⟨a, ⟨b, r, f⟩ | ⟨b, r, f⟩ | ⟨b, r, f⟩ | ⟨b, r, f⟩⟩ <;> rw [b] <;> simp_all [NoC]
theorem inside_e (F : Fit s e c) : Inside c e ↔ pw s e c = .w1 ∨ pw s e c = .w01 := by
  have key : Inside c e ↔ NoC s e c ∧ ¬ Ex (Fal s e c) c.length := by
    constructor
    · intro h
      refine ⟨fun ⟨i, hi, h1, h2, h3⟩ => ?_, fun ⟨i, hi, h1, h2, h3⟩ => ?_⟩
      · rcases h i hi with z | z
        · exact h1 z
        · exact h3 (z.trans h2.symm)
      · rcases h i hi with z | z
        · exact h1 z
        · exact h3 z
    · rintro ⟨h1, h2⟩ i hi
      by_cases hd : g c i = .d
      · exact .inl hd
      · refine .inr ?_
        by_cases hs : g s i = g e i
        · rw [← hs]; exact noC_at h1 hi hd hs
        · by_cases r : g c i = g e i
          · exact r
          · exact absurd ⟨i, hi, hd, hs, r⟩ h2
  rw [key]
  rcases pw_cases (s := s) (e := e) (c := c) with ⟨a, b⟩ | ⟨a, ⟨b, r, f⟩ | ⟨b, r, f⟩ | ⟨b, r, f⟩ | ⟨b, r, f⟩⟩ <;> rw [b] <;> simp_all [NoC]
theorem g_join {i : Nat} (hi : i < s.length) : g (joinF s e) i = if g s i = g e i then g s i else .d := by
  unfold joinF
  show List.getD _ i _ = _
  rw [List.getD_eq_getElem?_getD, List.getElem?_map, List.getElem?_range hi]
  rfl
theorem join_length : (joinF s e).length = s.length := by
  unfold joinF
  rw [List.length_map, List.length_range]
theorem inside_j (F : Fit s e c) : Inside c (joinF s e) ↔ pw s e c = .w1 := by
  have key : Inside c (joinF s e) ↔ NoC s e c ∧ ¬ Ex (Ris s e c) c.length ∧ ¬ Ex (Fal s e c) c.length := by
    constructor
    · intro h
      refine ⟨fun ⟨i, hi, h1, h2, h3⟩ => ?_, fun ⟨i, hi, h1, h2, h3⟩ => ?_, fun ⟨i, hi, h1, h2, h3⟩ => ?_⟩
      all_goals
        have z := (h i hi).resolve_left h1
        rw [g_join (by rw [F.ls]; exact hi)] at z
      · rw [if_pos h2] at z; exact h3 z
      · rw [if_neg h2] at z; exact h1 z
      · rw [if_neg h2] at z; exact h1 z
    · rintro ⟨h1, h2, h3⟩ i hi
      by_cases hd : g c i = .d
      · exact .inl hd
      · refine .inr ?_
        rw [g_join (by rw [F.ls]; exact hi)]
        by_cases hs : g s i = g e i
        · rw [if_pos hs]; exact noC_at h1 hi hd hs
        · by_cases r : g c i = g e i
          · exact absurd ⟨i, hi, hd, hs, r⟩ h2
          · exact absurd ⟨i, hi, hd, hs, r⟩ h3
  rw [key]
  rcases pw_cases (s := s) (e := e) (c := c) with ⟨a, b⟩ | ⟨a, ⟨b, r, f⟩ | ⟨b, r, f⟩ | ⟨b, r, f⟩ | ⟨b, r, f⟩⟩ <;> rw [b] <;> simp_all [NoC]
theorem opp_iff {x y : Sg} : opp x y = true ↔ x ≠ .d ∧ y ≠ .d ∧ x ≠ y := by
  cases x <;> cases y <;> simp [opp]
theorem opposed_nil (F : Fit s e c) : opposedF c (joinF s e) = [] ↔ pw s e c ≠ .w0 := by
  have key : opposedF c (joinF s e) = [] ↔ NoC s e c := by
    unfold opposedF
    rw [List.filter_eq_nil_iff]
    constructor
    · rintro h ⟨i, hi, h1, h2, h3⟩
      refine h i (List.mem_range.mpr hi) ?_
      rw [g_join (by rw [F.ls]; exact hi), if_pos h2]
      exact opp_iff.mpr ⟨h1, F.sd hi, h3⟩
    · intro h i hm q
      have hi := List.mem_range.mp hm
      rw [g_join (by rw [F.ls]; exact hi)] at q
      obtain ⟨q1, q2, q3⟩ := opp_iff.mp q
      by_cases hs : g s i = g e i
      · rw [if_pos hs] at q3
        exact h ⟨i, hi, q1, hs, q3⟩
      · rw [if_neg hs] at q2
        exact q2 rfl
  rw [key, Ne, pw0]
end

/-! ### calm -/
def Calm (s e : Cub) (cov : List Cub) : Prop := (∃ c, c ∈ cov ∧ pw s e c = .w1) ∨ ((∀ c, c ∈ cov → pw s e c ≠ .w010) ∧ ¬ ((∃ c, c ∈ cov ∧ pw s e c = .w10) ∧ ∃ c, c ∈ cov ∧ pw s e c = .w01))
instance (s e : Cub) (cov : List Cub) : Decidable (Calm s e cov) := inferInstanceAs (Decidable (_ ∨ _ ∧ ¬ (_ ∧ _)))
/-- a change and a cover of n inputs -/
structure Fits (n : Nat) (s e : Cub) (cov : List Cub) : Prop where
  ls : s.length = n
  le : e.length = n
  ps : IsPt s
  pe : IsPt e
  lc : ∀ c, c ∈ cov → c.length = n
section
variable {n : Nat} {s e : Cub} {cov : List Cub}
theorem Fits.fit (F : Fits n s e cov) {c : Cub} (h : c ∈ cov) : Fit s e c := ⟨F.ls.trans (F.lc c h).symm, F.le.trans (F.lc c h).symm, F.ps, F.pe⟩
theorem Fits.back (F : Fits n s e cov) : Fits n e s cov := ⟨F.le, F.ls, F.pe, F.ps, F.lc⟩
theorem cu_mem {j : Nat} (h : j < cov.length) : cu cov j ∈ cov := by
  unfold cu
  rw [List.getD_eq_getElem?_getD, List.getElem?_eq_getElem h]
  exact List.getElem_mem h
theorem mem_cu {c : Cub} (h : c ∈ cov) : ∃ j, j < cov.length ∧ cu cov j = c := by
  obtain ⟨j, hj, e⟩ := List.mem_iff_getElem.mp h
  refine ⟨j, hj, ?_⟩
  unfold cu
  rw [List.getD_eq_getElem?_getD, List.getElem?_eq_getElem hj]
  exact e
theorem Fits.fitj (F : Fits n s e cov) {j : Nat} (h : j < cov.length) : Fit s e (cu cov j) := F.fit (cu_mem h)
theorem pw_back (F : Fits n s e cov) {c : Cub} (h : c ∈ cov) : (pw e s c = .w1 ↔ pw s e c = .w1) ∧ (pw e s c = .w010 ↔ pw s e c = .w010) ∧ (pw e s c = .w10 ↔ pw s e c = .w01) ∧ (pw e s c = .w01 ↔ pw s e c = .w10) := by
  have A := F.fit h
  have c1 : Ex (Conf e s c) c.length ↔ Ex (Conf s e c) c.length := by
    constructor
    · rintro ⟨i, hi, h1, h2, h3⟩; exact ⟨i, hi, h1, h2.symm, by rw [← h2]; exact h3⟩
    · rintro ⟨i, hi, h1, h2, h3⟩; exact ⟨i, hi, h1, h2.symm, by rw [← h2]; exact h3⟩
  have c2 : Ex (Ris e s c) c.length ↔ Ex (Fal s e c) c.length := by
    constructor
    · rintro ⟨i, hi, h1, h2, h3⟩; exact ⟨i, hi, (A.fal hi).mpr ⟨h1, h2.symm, h3⟩⟩
    · rintro ⟨i, hi, r⟩
      obtain ⟨h1, h2, h3⟩ := (A.fal hi).mp r
      exact ⟨i, hi, h1, h2.symm, h3⟩
  have c3 : Ex (Fal e s c) c.length ↔ Ex (Ris s e c) c.length := by
    have B := F.back.fit h
    constructor
    · rintro ⟨i, hi, r⟩
      obtain ⟨h1, h2, h3⟩ := (B.fal hi).mp r
      exact ⟨i, hi, h1, h2.symm, h3⟩
    · rintro ⟨i, hi, h1, h2, h3⟩; exact ⟨i, hi, (B.fal hi).mpr ⟨h1, h2.symm, h3⟩⟩
  rcases pw_cases (s := s) (e := e) (c := c) with ⟨a, b⟩ | ⟨a, ⟨b, r, f⟩ | ⟨b, r, f⟩ | ⟨b, r, f⟩ | ⟨b, r, f⟩⟩ <;>
    rcases pw_cases (s := e) (e := s) (c := c) with ⟨a', b'⟩ | ⟨a', ⟨b', r', f'⟩ | ⟨b', r', f'⟩ | ⟨b', r', f'⟩ | ⟨b', r', f'⟩⟩ <;> simp_all
theorem calm_back (F : Fits n s e cov) : Calm e s cov ↔ Calm s e cov := by
  have key : ∀ {s e : Cub}, Fits n s e cov → Calm s e cov → Calm e s cov := fun {s e} F h => by
    rcases h with ⟨c, hc, q⟩ | ⟨h1, h2⟩
    · exact .inl ⟨c, hc, (pw_back F hc).1.mpr q⟩
    · refine .inr ⟨fun c hc q => h1 c hc ((pw_back F hc).2.1.mp q), fun ⟨⟨c, hc, q⟩, c', hc', q'⟩ => h2 ⟨⟨c', hc', (pw_back F hc').2.2.2.mp q'⟩, c, hc, (pw_back F hc).2.2.1.mp q⟩⟩
  exact ⟨key F.back, key F⟩
/-- in a calm change no word is longer than two signs -/
theorem calm_len (F : Fits n s e cov) (h : Calm s e cov) (ord : List Wr) (k : Nat) : wlen (fOf s e cov ord) k ≤ 2 := by
  have sub : ∀ k (x : Wr), x ∈ ord.take k → x ∈ ord.take (k + 1) := fun k x m => by
    rw [List.take_add_one]
    exact List.mem_append_left _ m
  rcases h with ⟨c, hc, q⟩ | ⟨h1, h2⟩
  · refine wlen_le2 _ true (fun k _ => ?_) k
    obtain ⟨j, hj, ej⟩ := mem_cu hc
    refine decide_eq_true ⟨j, hj, ?_⟩
    rw [ej]
    rcases pw_cases (s := s) (e := e) (c := c) with ⟨a, b⟩ | ⟨a, ⟨b, r, f⟩ | ⟨b, r, f⟩ | ⟨b, r, f⟩ | ⟨b, r, f⟩⟩ <;> rw [b] at q <;> try cases q
    · exact (shows_iff (F.fit hc) a).mpr ⟨fun i hi z => absurd ⟨i, hi, z⟩ r, fun i hi z => absurd ⟨i, hi, z⟩ f⟩
  · by_cases up : ∃ c, c ∈ cov ∧ pw s e c = .w01
    · -- no product falls: once on, it stays on
      have no : ∀ c, c ∈ cov → ¬ pw s e c = .w10 := fun c hc q => h2 ⟨⟨c, hc, q⟩, up⟩
      refine wlen_le2 _ true (fun k hk => ?_) k
      obtain ⟨j, hj, q⟩ := of_decide_eq_true hk
      have hc := cu_mem hj
      refine decide_eq_true ⟨j, hj, ?_⟩
      rcases pw_cases (s := s) (e := e) (c := cu cov j) with ⟨a, b⟩ | ⟨a, ⟨b, r, f⟩ | ⟨b, r, f⟩ | ⟨b, r, f⟩ | ⟨b, r, f⟩⟩
      · exact absurd q (shows_conf a)
      · exact (shows_iff (F.fit hc) a).mpr ⟨fun i hi z => absurd ⟨i, hi, z⟩ r, fun i hi z => absurd ⟨i, hi, z⟩ f⟩
      · exact (shows_iff (F.fit hc) a).mpr ⟨fun i hi z => sub k _ (((shows_iff (F.fit hc) a).mp q).1 i hi z), fun i hi z => absurd ⟨i, hi, z⟩ f⟩
      · exact absurd b (no _ hc)
      · exact absurd b (h1 _ hc)
    · -- no product rises: once off, it stays off
      refine wlen_le2 _ false (fun k hk => ?_) k
      have hn := of_decide_eq_false hk
      refine decide_eq_false fun ⟨j, hj, q⟩ => hn ⟨j, hj, ?_⟩
      have hc := cu_mem hj
      rcases pw_cases (s := s) (e := e) (c := cu cov j) with ⟨a, b⟩ | ⟨a, ⟨b, r, f⟩ | ⟨b, r, f⟩ | ⟨b, r, f⟩ | ⟨b, r, f⟩⟩
      · exact absurd q (shows_conf a)
      · exact (shows_iff (F.fit hc) a).mpr ⟨fun i hi z => absurd ⟨i, hi, z⟩ r, fun i hi z => absurd ⟨i, hi, z⟩ f⟩
      · exact absurd ⟨_, hc, b⟩ up
      · exact (shows_iff (F.fit hc) a).mpr ⟨fun i hi z => absurd ⟨i, hi, z⟩ r, fun i hi z m => ((shows_iff (F.fit hc) a).mp q).2 i hi z (sub k _ m)⟩
      · exact absurd b (h1 _ hc)
end

/-! ### the longest order -/
def risOf (s e c : Cub) (j : Nat) : List Wr := ((opposedF s e).filter fun i => decide (g c i = g e i)).map fun i => (j, i)
def falOf (s e c : Cub) (j : Nat) : List Wr := ((opposedF s e).filter fun i => decide (g c i = g s i)).map fun i => (j, i)
def longA (s e : Cub) (cov : List Cub) : List Wr := (wiresF s e cov).filter fun w => decide (pw s e (cu cov w.1) = .w10)
def longH (s e : Cub) (cov : List Cub) (j : Nat) : List Wr := if pw s e (cu cov j) = .w010 then risOf s e (cu cov j) j ++ falOf s e (cu cov j) j else []
def longB (s e : Cub) (cov : List Cub) (k : Nat) : List Wr := (List.range k).flatMap (longH s e cov)
def longC (s e : Cub) (cov : List Cub) : List Wr := (wiresF s e cov).filter fun w => decide (pw s e (cu cov w.1) = .w0) || decide (pw s e (cu cov w.1) = .w01)
def longF (s e : Cub) (cov : List Cub) : List Wr := longA s e cov ++ longB s e cov cov.length ++ longC s e cov
theorem mem_wiresOf {s e c : Cub} {j : Nat} {w : Wr} : w ∈ wiresOf s e c j ↔ w.1 = j ∧ w.2 < c.length ∧ g c w.2 ≠ .d ∧ g s w.2 ≠ g e w.2 := by
  unfold wiresOf Wi
  obtain ⟨a, b⟩ := w
  simp only [List.mem_map, List.mem_filter, List.mem_range, Bool.and_eq_true, decide_eq_true_eq, Prod.mk.injEq]
  constructor
  · rintro ⟨i, ⟨h1, h2, h3⟩, rfl, rfl⟩
    exact ⟨rfl, h1, h2, h3⟩
  · rintro ⟨rfl, h1, h2, h3⟩
    exact ⟨b, ⟨h1, h2, h3⟩, rfl, rfl⟩
theorem mem_wiresF {s e : Cub} {cov : List Cub} {w : Wr} : w ∈ wiresF s e cov ↔ w.1 < cov.length ∧ w.2 < (cu cov w.1).length ∧ g (cu cov w.1) w.2 ≠ .d ∧ g s w.2 ≠ g e w.2 := by
  unfold wiresF
  simp only [List.mem_flatMap, List.mem_range, mem_wiresOf]
  constructor
  · rintro ⟨j, hj, rfl, h⟩
    exact ⟨hj, h⟩
  · rintro ⟨hj, h⟩
    exact ⟨w.1, hj, rfl, h⟩
/-- the wires ascend -/
def Lt2 (a b : Wr) : Prop := a.1 < b.1 ∨ (a.1 = b.1 ∧ a.2 < b.2)
theorem wires_up (s e : Cub) (cov : List Cub) : (wiresF s e cov).Pairwise Lt2 := by
  unfold wiresF
  rw [List.pairwise_flatMap]
  constructor
  · intro j _
    unfold wiresOf
    rw [List.pairwise_map]
    exact (List.pairwise_lt_range.filter _).imp fun {a b} h => .inr ⟨rfl, h⟩
  · refine List.pairwise_lt_range.imp fun {a b} h x hx y hy => ?_
    rw [mem_wiresOf] at hx hy
    exact .inl (by rw [hx.1, hy.1]; exact h)
theorem wires_nodup (s e : Cub) (cov : List Cub) : (wiresF s e cov).Nodup := (wires_up s e cov).imp fun {a b} h q => by
  subst q
  rcases h with h | ⟨_, h⟩ <;> omega
theorem mem_opposed {s e : Cub} {i : Nat} : i ∈ opposedF s e ↔ i < s.length ∧ g s i ≠ .d ∧ g e i ≠ .d ∧ g s i ≠ g e i := by
  unfold opposedF
  rw [List.mem_filter, List.mem_range, opp_iff]
section
variable {n : Nat} {s e : Cub} {cov : List Cub}
theorem mem_ris (F : Fits n s e cov) {c : Cub} (hc : c ∈ cov) {j : Nat} {w : Wr} : w ∈ risOf s e c j ↔ w.1 = j ∧ w.2 < c.length ∧ Ris s e c w.2 := by
  have A := F.fit hc
  unfold risOf
  obtain ⟨a, b⟩ := w
  simp only [List.mem_map, List.mem_filter, mem_opposed, decide_eq_true_eq, Prod.mk.injEq]
  constructor
  · rintro ⟨i, ⟨⟨h1, h2, h3, h4⟩, h5⟩, rfl, rfl⟩
    exact ⟨rfl, by rw [← A.ls]; exact h1, by rw [h5]; exact h3, h4, h5⟩
  · rintro ⟨rfl, h1, h2, h3, h4⟩
    exact ⟨b, ⟨⟨by rw [A.ls]; exact h1, A.sd h1, A.ed h1, h3⟩, h4⟩, rfl, rfl⟩
theorem mem_fal (F : Fits n s e cov) {c : Cub} (hc : c ∈ cov) {j : Nat} {w : Wr} : w ∈ falOf s e c j ↔ w.1 = j ∧ w.2 < c.length ∧ Fal s e c w.2 := by
  have A := F.fit hc
  unfold falOf
  obtain ⟨a, b⟩ := w
  simp only [List.mem_map, List.mem_filter, mem_opposed, decide_eq_true_eq, Prod.mk.injEq]
  constructor
  · rintro ⟨i, ⟨⟨h1, h2, h3, h4⟩, h5⟩, rfl, rfl⟩
    have hi : i < c.length := by rw [← A.ls]; exact h1
    exact ⟨rfl, hi, (A.fal hi).mpr ⟨by rw [h5]; exact h2, h4, h5⟩⟩
  · rintro ⟨rfl, h1, h⟩
    obtain ⟨h2, h3, h4⟩ := (A.fal h1).mp h
    exact ⟨b, ⟨⟨by rw [A.ls]; exact h1, A.sd h1, A.ed h1, h3⟩, h4⟩, rfl, rfl⟩
theorem mem_longA {w : Wr} : w ∈ longA s e cov ↔ w ∈ wiresF s e cov ∧ pw s e (cu cov w.1) = .w10 := by
  unfold longA
  rw [List.mem_filter, decide_eq_true_eq]
theorem mem_longC {w : Wr} : w ∈ longC s e cov ↔ w ∈ wiresF s e cov ∧ (pw s e (cu cov w.1) = .w0 ∨ pw s e (cu cov w.1) = .w01) := by
  unfold longC
  rw [List.mem_filter, Bool.or_eq_true, decide_eq_true_eq, decide_eq_true_eq]
theorem mem_longH (F : Fits n s e cov) {j : Nat} (hj : j < cov.length) {w : Wr} : w ∈ longH s e cov j ↔ w.1 = j ∧ pw s e (cu cov j) = .w010 ∧ w.2 < (cu cov j).length ∧ (Ris s e (cu cov j) w.2 ∨ Fal s e (cu cov j) w.2) := by
  unfold longH
  by_cases h : pw s e (cu cov j) = .w010
  · rw [if_pos h, List.mem_append, mem_ris F (cu_mem hj), mem_fal F (cu_mem hj)]
    constructor
    · rintro (⟨h1, h2, h3⟩ | ⟨h1, h2, h3⟩)
      · exact ⟨h1, h, h2, .inl h3⟩
      · exact ⟨h1, h, h2, .inr h3⟩
    · rintro ⟨h1, _, h2, h3 | h3⟩
      · exact .inl ⟨h1, h2, h3⟩
      · exact .inr ⟨h1, h2, h3⟩
  · rw [if_neg h]
    exact ⟨fun q => (List.not_mem_nil q).elim, fun q => absurd q.2.1 h⟩
theorem wire_rf {c : Cub} {i : Nat} : (g c i ≠ .d ∧ g s i ≠ g e i) ↔ (Ris s e c i ∨ Fal s e c i) := by
  unfold Ris Fal
  by_cases h : g c i = g e i <;> simp [h]
theorem mem_longF (F : Fits n s e cov) {w : Wr} : w ∈ longF s e cov ↔ w ∈ wiresF s e cov := by
  unfold longF longB
  rw [List.mem_append, List.mem_append, mem_longA, mem_longC, List.mem_flatMap]
  constructor
  · rintro ((h | ⟨j, hj, h⟩) | h)
    · exact h.1
    · have hj' := List.mem_range.mp hj
      obtain ⟨rfl, h1, h2, h3⟩ := (mem_longH F hj').mp h
      exact mem_wiresF.mpr ⟨hj', h2, wire_rf.mpr h3⟩
    · exact h.1
  · intro h
    obtain ⟨h1, h2, h3⟩ := mem_wiresF.mp h
    rcases pw_cases (s := s) (e := e) (c := cu cov w.1) with ⟨a, b⟩ | ⟨a, ⟨b, r, f⟩ | ⟨b, r, f⟩ | ⟨b, r, f⟩ | ⟨b, r, f⟩⟩
    · exact .inr ⟨h, .inl b⟩
    · rcases wire_rf.mp h3 with q | q
      · exact absurd ⟨w.2, h2, q⟩ r
      · exact absurd ⟨w.2, h2, q⟩ f
    · exact .inr ⟨h, .inr b⟩
    · exact .inl (.inl ⟨h, b⟩)
    · exact .inl (.inr ⟨w.1, List.mem_range.mpr h1, (mem_longH F h1).mpr ⟨rfl, b, h2, wire_rf.mp h3⟩⟩)
theorem nodup_snd {α : Type} {l : List Nat} {f : Nat → α} (hf : ∀ a b, f a = f b → a = b) (h : l.Nodup) : (l.map f).Nodup := by
  unfold List.Nodup
  rw [List.pairwise_map]
  exact List.Pairwise.imp (fun {a b} q z => q (hf a b z)) h
theorem longH_nodup (F : Fits n s e cov) {j : Nat} (hj : j < cov.length) : (longH s e cov j).Nodup := by
  unfold longH
  by_cases h : pw s e (cu cov j) = .w010
  · rw [if_pos h, List.nodup_append]
    have o : (opposedF s e).Nodup := List.Pairwise.filter _ List.nodup_range
    refine ⟨?_, ?_, fun a ha b hb q => ?_⟩
    · unfold risOf
      exact nodup_snd (fun a b q => congrArg Prod.snd q) (List.Pairwise.filter _ o)
    · unfold falOf
      exact nodup_snd (fun a b q => congrArg Prod.snd q) (List.Pairwise.filter _ o)
    · subst q
      have h1 := (mem_ris F (cu_mem hj)).mp ha
      have h2 := (mem_fal F (cu_mem hj)).mp hb
      exact h2.2.2.2.2 h1.2.2.2.2
  · rw [if_neg h]
    exact List.nodup_nil
theorem longB_nodup (F : Fits n s e cov) : (longB s e cov cov.length).Nodup := by
  unfold longB List.Nodup
  rw [List.pairwise_flatMap]
  constructor
  · intro j hj
    exact longH_nodup F (List.mem_range.mp hj)
  · refine List.Pairwise.imp_of_mem (fun {a b} ha hb h x hx y hy q => ?_) (List.pairwise_lt_range (n := cov.length))
    have h1 := ((mem_longH F (List.mem_range.mp ha)).mp hx).1
    have h2 := ((mem_longH F (List.mem_range.mp hb)).mp hy).1
    rw [q, h2] at h1
    omega
theorem longF_nodup (F : Fits n s e cov) : (longF s e cov).Nodup := by
  unfold longF
  rw [List.nodup_append, List.nodup_append]
  have hB : ∀ x, x ∈ longB s e cov cov.length → pw s e (cu cov x.1) = .w010 := fun x hx => by
    unfold longB at hx
    obtain ⟨j, hj, h⟩ := List.mem_flatMap.mp hx
    obtain ⟨rfl, h1, _⟩ := (mem_longH F (List.mem_range.mp hj)).mp h
    exact h1
  refine ⟨⟨List.Pairwise.filter _ (wires_nodup s e cov), longB_nodup F, fun a ha b hb q => ?_⟩, List.Pairwise.filter _ (wires_nodup s e cov), fun a ha b hb q => ?_⟩
  · subst q
    have h1 := (mem_longA.mp ha).2
    rw [hB a hb] at h1
    cases h1
  · subst q
    have h2 := (mem_longC.mp hb).2
    rcases List.mem_append.mp ha with ha | ha
    · rw [(mem_longA.mp ha).2] at h2
      rcases h2 with h2 | h2 <;> cases h2
    · rw [hB a ha] at h2
      rcases h2 with h2 | h2 <;> cases h2
theorem longF_perm (F : Fits n s e cov) : (longF s e cov).Perm (wiresF s e cov) :=
  (List.perm_ext_iff_of_nodup (longF_nodup F) (wires_nodup s e cov)).mpr fun _ => mem_longF F
/-- behind the falling products, and some of the rising and falling ones whole, nothing shows -/
theorem off_at (F : Fits n s e cov) (h1 : ∀ c, c ∈ cov → pw s e c ≠ .w1) (r : List Nat) (hr : ∀ j, j ∈ r → j < cov.length) : ¬ OrS s e cov (longA s e cov ++ r.flatMap (longH s e cov)) := by
  rintro ⟨j, hj, q⟩
  have hc := cu_mem hj
  have mB : ∀ {w : Wr}, w ∈ r.flatMap (longH s e cov) → w.1 ∈ r ∧ pw s e (cu cov w.1) = .w010 := fun {w} hw => by
    obtain ⟨j, hj, h⟩ := List.mem_flatMap.mp hw
    obtain ⟨rfl, h1, _⟩ := (mem_longH F (hr j hj)).mp h
    exact ⟨hj, h1⟩
  rcases pw_cases (s := s) (e := e) (c := cu cov j) with ⟨a, b⟩ | ⟨a, ⟨b, r', f⟩ | ⟨b, r', f⟩ | ⟨b, r', f⟩ | ⟨b, r', f⟩⟩
  · exact shows_conf a q
  · exact h1 _ hc b
  · obtain ⟨i, hi, z⟩ := r'
    have m := ((shows_iff (F.fit hc) a).mp q).1 i hi z
    rcases List.mem_append.mp m with m | m
    · have y := (mem_longA.mp m).2
      rw [b] at y; cases y
    · have y := (mB m).2
      rw [b] at y; cases y
  · obtain ⟨i, hi, z⟩ := f
    exact ((shows_iff (F.fit hc) a).mp q).2 i hi z (List.mem_append_left _ (mem_longA.mpr ⟨mem_wiresF.mpr ⟨hj, hi, wire_rf.mpr (.inr z)⟩, b⟩))
  · by_cases hjr : j ∈ r
    · obtain ⟨i, hi, z⟩ := f
      exact ((shows_iff (F.fit hc) a).mp q).2 i hi z (List.mem_append_right _ (List.mem_flatMap.mpr ⟨j, hjr, (mem_longH F hj).mpr ⟨rfl, b, hi, .inr z⟩⟩))
    · obtain ⟨i, hi, z⟩ := r'
      have m := ((shows_iff (F.fit hc) a).mp q).1 i hi z
      rcases List.mem_append.mp m with m | m
      · have y := (mem_longA.mp m).2
        rw [b] at y; cases y
      · exact hjr (mB m).1
theorem not_calm (h : ¬ Calm s e cov) : (∀ c, c ∈ cov → pw s e c ≠ .w1) ∧ ((∃ c, c ∈ cov ∧ pw s e c = .w010) ∨ ((∃ c, c ∈ cov ∧ pw s e c = .w10) ∧ ∃ c, c ∈ cov ∧ pw s e c = .w01)) := by
  refine ⟨fun c hc q => h (.inl ⟨c, hc, q⟩), ?_⟩
  by_cases h1 : ∃ c, c ∈ cov ∧ pw s e c = .w010
  · exact .inl h1
  · by_cases h2 : (∃ c, c ∈ cov ∧ pw s e c = .w10) ∧ ∃ c, c ∈ cov ∧ pw s e c = .w01
    · exact .inr h2
    · exact absurd (.inr ⟨fun c hc q => h1 ⟨c, hc, q⟩, h2⟩) h
/-- the longest order's word has three signs at least -/
theorem long_len (F : Fits n s e cov) (h : ¬ Calm s e cov) : 2 < wlen (fOf s e cov (longF s e cov)) (longF s e cov).length := by
  obtain ⟨h1, h2⟩ := not_calm h
  have val : ∀ {T R : List Wr}, longF s e cov = T ++ R → fOf s e cov (longF s e cov) T.length = decide (OrS s e cov T) := fun {T R} q => by
    unfold fOf
    rw [q, List.take_left]
  have le : ∀ {T R : List Wr}, longF s e cov = T ++ R → T.length ≤ (longF s e cov).length := fun {T R} q => by
    rw [q, List.length_append]; omega
  rcases h2 with ⟨c, hc, b⟩ | ⟨⟨c, hc, b⟩, c', hc', b'⟩
  · obtain ⟨j, hj, rfl⟩ := mem_cu hc
    obtain ⟨r1, r2, hr⟩ := List.append_of_mem (List.mem_range.mpr hj)
    have nd : (r1 ++ j :: r2).Nodup := by rw [← hr]; exact List.nodup_range
    have hj1 : j ∉ r1 := fun m => (List.nodup_append.mp nd).2.2 j m j List.mem_cons_self rfl
    have hrl : ∀ k, k ∈ r1 → k < cov.length := fun k m => List.mem_range.mp (by rw [hr]; exact List.mem_append_left _ m)
    have eh : longH s e cov j = risOf s e (cu cov j) j ++ falOf s e (cu cov j) j := by unfold longH; rw [if_pos b]
    have eB : longB s e cov cov.length = r1.flatMap (longH s e cov) ++ (risOf s e (cu cov j) j ++ (falOf s e (cu cov j) j ++ r2.flatMap (longH s e cov))) := by
      unfold longB
      rw [hr, List.flatMap_append, List.flatMap_cons, eh, List.append_assoc]
    have e1 : longF s e cov = (longA s e cov ++ r1.flatMap (longH s e cov)) ++ (risOf s e (cu cov j) j ++ (falOf s e (cu cov j) j ++ r2.flatMap (longH s e cov)) ++ longC s e cov) := by
      unfold longF
      rw [eB]
      simp only [List.append_assoc]
    have e2 : longF s e cov = (longA s e cov ++ r1.flatMap (longH s e cov) ++ risOf s e (cu cov j) j) ++ (falOf s e (cu cov j) j ++ r2.flatMap (longH s e cov) ++ longC s e cov) := by
      rw [e1]
      simp only [List.append_assoc]
    have e3 : longF s e cov = (longA s e cov ++ (r1 ++ [j]).flatMap (longH s e cov)) ++ (r2.flatMap (longH s e cov) ++ longC s e cov) := by
      rw [e1, List.flatMap_append, List.flatMap_singleton, eh]
      simp only [List.append_assoc]
    have o1 : ¬ OrS s e cov (longA s e cov ++ r1.flatMap (longH s e cov)) := off_at F h1 r1 hrl
    have o3 : ¬ OrS s e cov (longA s e cov ++ (r1 ++ [j]).flatMap (longH s e cov)) := off_at F h1 (r1 ++ [j]) fun k m => by
      rcases List.mem_append.mp m with m | m
      · exact hrl k m
      · rw [List.mem_singleton.mp m]; exact hj
    have o2 : OrS s e cov (longA s e cov ++ r1.flatMap (longH s e cov) ++ risOf s e (cu cov j) j) := by
      refine ⟨j, hj, ?_⟩
      have a : NoC s e (cu cov j) := fun z => by
        rw [pw0.mpr z] at b; cases b
      refine (shows_iff (F.fit hc) a).mpr ⟨fun i hi z => List.mem_append_right _ ((mem_ris F hc).mpr ⟨rfl, hi, z⟩), fun i hi z m => ?_⟩
      rcases List.mem_append.mp m with m | m
      · rcases List.mem_append.mp m with m | m
        · have y := (mem_longA.mp m).2
          have y : pw s e (cu cov j) = .w10 := y
          rw [b] at y; cases y
        · obtain ⟨k, hk, y⟩ := List.mem_flatMap.mp m
          have y := ((mem_longH F (hrl k hk)).mp y).1
          have y : j = k := y
          rw [y] at hj1
          exact hj1 hk
      · exact z.2.2 ((mem_ris F hc).mp m).2.2.2.2
    have l12 : (longA s e cov ++ r1.flatMap (longH s e cov)).length ≤ (longA s e cov ++ r1.flatMap (longH s e cov) ++ risOf s e (cu cov j) j).length := by
      rw [List.length_append (bs := risOf s e (cu cov j) j)]; omega
    have l23 : (longA s e cov ++ r1.flatMap (longH s e cov) ++ risOf s e (cu cov j) j).length ≤ (longA s e cov ++ (r1 ++ [j]).flatMap (longH s e cov)).length := by
      rw [List.flatMap_append, List.flatMap_singleton, eh]
      simp only [List.length_append]
      omega
    refine wlen_three _ l12 l23 ?_ ?_ (le e3)
    · rw [val e1, val e2, decide_eq_false o1, decide_eq_true o2]; decide
    · rw [val e2, val e3, decide_eq_false o3, decide_eq_true o2]; decide
  · obtain ⟨j, hj, rfl⟩ := mem_cu hc
    obtain ⟨j', hj', rfl⟩ := mem_cu hc'
    have e0 : longF s e cov = [] ++ longF s e cov := rfl
    have e1 : longF s e cov = (longA s e cov ++ ([] : List Nat).flatMap (longH s e cov)) ++ (longB s e cov cov.length ++ longC s e cov) := by
      unfold longF
      simp
    have e2 : longF s e cov = longF s e cov ++ [] := (List.append_nil _).symm
    have o0 : OrS s e cov [] := by
      refine ⟨j, hj, ?_⟩
      rcases pw_cases (s := s) (e := e) (c := cu cov j) with ⟨a, b2⟩ | ⟨a, ⟨b2, r', f⟩ | ⟨b2, r', f⟩ | ⟨b2, r', f⟩ | ⟨b2, r', f⟩⟩ <;> rw [b] at b2 <;> try cases b2
      exact (shows_iff (F.fit hc) a).mpr ⟨fun i hi z => absurd ⟨i, hi, z⟩ r', fun i hi z m => (List.not_mem_nil m).elim⟩
    have o1 : ¬ OrS s e cov (longA s e cov ++ ([] : List Nat).flatMap (longH s e cov)) := off_at F h1 [] fun k m => (List.not_mem_nil m).elim
    have o2 : OrS s e cov (longF s e cov) := by
      refine ⟨j', hj', ?_⟩
      rcases pw_cases (s := s) (e := e) (c := cu cov j') with ⟨a, b2⟩ | ⟨a, ⟨b2, r', f⟩ | ⟨b2, r', f⟩ | ⟨b2, r', f⟩ | ⟨b2, r', f⟩⟩ <;> rw [b'] at b2 <;> try cases b2
      exact (shows_iff (F.fit hc') a).mpr ⟨fun i hi z => (mem_longF F).mpr (mem_wiresF.mpr ⟨hj', hi, wire_rf.mpr (.inl z)⟩), fun i hi z => absurd ⟨i, hi, z⟩ f⟩
    refine wlen_three _ (Nat.zero_le _) (le e1) ?_ ?_ (Nat.le_refl _)
    · rw [val e1, show 0 = ([] : List Wr).length from rfl, val e0, decide_eq_false o1, decide_eq_true o0]; decide
    · rw [val e1, val e2, decide_eq_false o1, decide_eq_true o2]; decide
end
/-- the longest word's length, by the products' words -/
def lenW (ws : List W) : Nat := if W.w1 ∈ ws then 1 else (if W.w10 ∈ ws then 1 else 0) + 1 + 2 * ws.count .w010 + (if W.w01 ∈ ws then 1 else 0)
theorem lenW_calm {s e : Cub} {cov : List Cub} : lenW (cov.map (pw s e)) ≤ 2 ↔ Calm s e cov := by
  have mw : ∀ w, w ∈ cov.map (pw s e) ↔ ∃ c, c ∈ cov ∧ pw s e c = w := fun w => List.mem_map
  unfold lenW Calm
  by_cases h1 : W.w1 ∈ cov.map (pw s e)
  · rw [if_pos h1]
    exact ⟨fun _ => .inl ((mw _).mp h1), fun _ => by omega⟩
  · rw [if_neg h1, ← mw, ← mw, ← mw]
    by_cases h2 : W.w010 ∈ cov.map (pw s e)
    · have q : 0 < (cov.map (pw s e)).count .w010 := List.count_pos_iff.mpr h2
      constructor
      · intro z; omega
      · rintro (z | z)
        · exact absurd z h1
        · obtain ⟨c, hc, y⟩ := (mw _).mp h2
          exact absurd y (z.1 c hc)
    · have q : (cov.map (pw s e)).count .w010 = 0 := List.count_eq_zero.mpr h2
      rw [q]
      have no : ∀ c, c ∈ cov → pw s e c ≠ .w010 := fun c hc y => h2 ((mw _).mpr ⟨c, hc, y⟩)
      by_cases a : W.w10 ∈ cov.map (pw s e) <;> by_cases b : W.w01 ∈ cov.map (pw s e) <;> simp [a, b, h1] <;> exact no
end Stc
end

/-! ## StRules -/
section
set_option Elab.async false
set_option linter.all false
set_option maxRecDepth 100000
set_option maxHeartbeats 4000000
/-! Rules of my own over the layer: enumerate of a text, of a list or a tuple; a walk over a list or a tuple; text times int; list.count of texts. -/
namespace StR
open PySem PySem.Spec PyProof.Rows L2


/-! ### heaps, a list or a tuple at an address -/
theorem same_upd {H : Hp} {p : Addr} {o : HO} (h : H p = none) : Same H (upd H p o) := fun _ _ e => (upd_ne (ne_of_none e h)).trans e
def Sq1 (H : Hp) (b : Addr) (xs : List V) : Prop := H b = some (.lst xs) ∨ H b = some (.tup xs)
theorem Sq1.same {H H' : Hp} {b : Addr} {xs : List V} (s : Same H H') (h : Sq1 H b xs) : Sq1 H' b xs := h.imp (s _ _) (s _ _)
theorem Sq1.keep {H H' : Hp} {b : Addr} {xs : List V} (h : Sq1 H b xs) (s : Same H H') : H' b = H b := by
  rcases h with q | q <;> rw [s _ _ q, q]
theorem Sq1.seq {K : PySem.W.Frag} {H : Hp} {b : Addr} {xs : List V} (h : Sq1 H b xs) : SqL K H b xs ∨ SqT K H b xs := h.imp SqL.of SqT.of
/-- a subscript of a list or tuple -/
def rIxQ : R2 := fun x y H Q => ∃ p xs i v, x = .ref p ∧ y = .int i ∧ Sq1 H p xs ∧ atI xs i = some v ∧ Q v H
theorem ix_sq {X : Cx} : IxR X rIxQ := by
  rintro ex sl pins s σ H x y v u Q I rx ry ⟨p, xs, i, z, e1, e2, hq | hq, he, q⟩ hs
  · exact ix_list ex sl pins s σ H x y v u Q I rx ry ⟨p, xs, i, z, e1, e2, SqL.of hq, he, q⟩ hs
  · exact ix_tup ex sl pins s σ H x y v u Q I rx ry ⟨p, xs, i, z, e1, e2, SqT.of hq, he, q⟩ hs

/-! ### an enumerate object over anything that is drawn -/
/-- n pairs: the turn's number and f of it, each in a new tuple, while G stands -/
def Jp (n : Nat) (f : Nat → Option V) (G : Hp → Prop) : It where
  go i H := i < n ∧ G H
  yld i H v H' := ∃ T x, v = .ref T ∧ H T = none ∧ H' = upd H T (.tup [.int (i : Nat), x]) ∧ f i = some x
  stop i H := i = n ∧ G H
theorem walk_jp {n : Nat} {f : Nat → Option V} {G : Hp → Prop} : Walk (Jp n f G) n G (YPair (fun i => some (.int (i : Nat))) f) where
  goes _ _ hi g := ⟨hi, g⟩
  stops _ g := ⟨rfl, g⟩
  yields := fun _ _ _ _ _ _ ⟨T, x, e1, e2, e3, e4⟩ => ⟨T, _, x, e1, e2, e3, rfl, e4⟩
/-- a record that is no cell -/
def Rc (h : Heap) (b : Addr) : Prop := ∃ o, h.get? b = some o ∧ ∀ v, o.data ≠ .cell v
/-- how far the inner iterator is: what is known of it by itself (cur), and what it draws where a state is at hand -/
structure Src (P : Program) (w : World) (K : PySem.W.Frag) (n : Nat) (f : Nat → Option V) (G : Hp → Prop) (it : Addr) (cur : Nat → Heap → Prop) : Prop where
  rc : ∀ i h, cur i h → Rc h it
  at' : ∀ i h h', cur i h → (∀ o, h.get? it = some o → h'.get? it = some o) → cur i h'
  draws : ∀ (X : Cx), X.prog = P → X.w = w → X.K = K → X.calm = true → ∀ (i : Nat) (pins : List (Addr × Obj)) (s : Shared) (σ : L2.St) (H : Hp), Inv X pins σ H s → H it = none → cur i s.heap → G H →
    ∃ (fp : List Addr) (Pt : Nat → Value → Prop) (St : Nat → Heap → Prop), Draws P w X.A.in1 it fp n Pt St ∧ it ∈ fp ∧ (∀ b ∈ fp, b = it ∨ (H b).isSome = true) ∧ St i s.heap ∧ (∀ j u, Pt j u → ∃ x, f j = some x ∧ RelV x u) ∧ ∀ h, St (i + 1) h → cur (i + 1) h
theorem turn_jp {P : Program} {w : World} {K : PySem.W.Frag} {elts : List Expr} {kk : Nat} {tpos : Pos} {n : Nat} {f : Nat → Option V} {G : Hp → Prop} {it : Addr} {cur : Nat → Heap → Prop} (S : Src P w K n f G it cur) (e : Addr) (hne : e ≠ it) :
    Turn P w K (.Tuple elts kk tpos) (Jp n f G) [e, it] e (fun i h => (∃ old, IsEnum h e it (i : Nat) old) ∧ cur i h) where
  mem := .head _
  obj := by
    rintro i h ⟨⟨old, he⟩, hc⟩ b hb
    rcases (by simpa using hb : b = e ∨ b = it) with rfl | rfl
    · exact ⟨_, he, fun _ z => nomatch z⟩
    · exact S.rc i h hc
  keep := fun i h h' ⟨⟨old, he⟩, hc⟩ k => ⟨⟨old, k e (.head _) _ he⟩, S.at' i h h' hc (k it (.tail _ (.head _)))⟩
  self := fun _ _ _ _ _ ⟨⟨_, he⟩, _⟩ q => wpAny_pyIter_enum he q
  item := by
    rintro X rfl rfl rfl calm i pins s σ H E I hf ⟨⟨old, he⟩, hc⟩ ⟨hi, hg⟩
    have ne := (hf e (.head _)).1
    have nit := (hf it (.tail _ (.head _))).1
    obtain ⟨fp, Pt, St, D, m1, m2, st, rel, nxt⟩ := S.draws X rfl rfl rfl calm i pins s σ H I nit hc hg
    have hef : e ∉ fp := fun z => (m2 e z).elim hne fun y => by rw [ne] at y; cases y
    have W := WalksT.enumerateD D e hne hef m1
    refine W.item i s _ E hi ⟨⟨old, he⟩, st⟩ fun t vals h1 tk hP ht hT hM k1 => ⟨_, rfl, W.go elts kk tpos i t { s with heap := h1, toks := tk } _ _ hM fun h2 hS k2 => ?_⟩
    obtain ⟨tt, u, hu, rfl⟩ := hP
    obtain ⟨x, hx, rx⟩ := rel i u hu
    obtain ⟨o, g1, g2, m, g3⟩ := hT
    have new : ObjOk X.prog X.w (upd H t (.tup [.int (i : Nat), x])) h2 t (.tup [.int (i : Nat), x]) :=
      ⟨show 2 ≤ sizeLine by decide, [.int i tt, u], .cons ⟨tt, rfl⟩ (.cons rx .nil), o, k2 t o (W.apart i t h1 hM) g1, g2, m, g3⟩
    have J := I.turnedNew (t' := tk) (ch := [e, it]) (fun b y nb z => k2 b y nb (k1 b y nb z)) hf ht new
    refine ⟨.ref t, _, J, rfl, ⟨t, x, rfl, I.hok.fresh ht, rfl, hx⟩, ⟨hS.1, nxt h2 hS.2⟩, fun b hb => ?_⟩
    have lt : b < s.heap.objs.size := by
      rcases (by simpa using hb : b = e ∨ b = it) with rfl | rfl
      · exact Heap.lt_size he
      · obtain ⟨y, z, _⟩ := S.rc i _ hc
        exact Heap.lt_size z
    rw [upd_ne (Nat.ne_of_lt (Nat.lt_of_lt_of_le lt ht))]
    exact (hf b hb).1
  done := by
    rintro X rfl rfl rfl calm i pins s σ H E I hf ⟨⟨old, he⟩, hc⟩ ⟨rfl, hg⟩
    have ne := (hf e (.head _)).1
    obtain ⟨fp, Pt, St, D, m1, m2, st, _, _⟩ := S.draws X rfl rfl rfl calm i pins s σ H I (hf it (.tail _ (.head _))).1 hc hg
    have hef : e ∉ fp := fun z => (m2 e z).elim hne fun y => by rw [ne] at y; cases y
    exact (WalksT.enumerateD D e hne hef m1).done s _ E ⟨⟨old, he⟩, st⟩ fun h1 tk k1 => ⟨rfl, I.turnedL (t' := tk) (ch := [e, it]) k1 hf⟩
/-- the enumerate object that has just been made, behind its inner iterator -/
theorem pie_jp {X : Cx} {pins : List (Addr × Obj)} {σ : L2.St} {H : Hp} {s : Shared} {R : It → Hp → Prop} {elts : List Expr} {kk : Nat} {tpos : Pos} {n : Nat} {f : Nat → Option V} {G : Hp → Prop} {cur : Nat → Heap → Prop} {h' : Heap}
    (I : Inv X pins σ H s) (S : Src X.prog X.w X.K n f G s.heap.objs.size cur) (he : IsEnum h' (s.heap.objs.size + 1) s.heap.objs.size 0 .none) (hc : cur 0 h') (k : ∀ b o, s.heap.get? b = some o → h'.get? b = some o) (q : R (Jp n f G) H) :
    PIE X pins σ (.Tuple elts kk tpos) R (.ref (s.heap.objs.size + 1)) { s with heap := h' } := by
  refine ⟨_, _, _, _, H, rfl, I.kept (t' := s.toks) k, turn_jp S (s.heap.objs.size + 1) (Nat.succ_ne_self _), ⟨⟨_, he⟩, hc⟩, fun b hb => ?_, q⟩
  have le : s.heap.objs.size ≤ b := by
    rcases (by simpa using hb : b = s.heap.objs.size + 1 ∨ b = s.heap.objs.size) with z | z
    · rw [z]; exact Nat.le_succ _
    · exact Nat.le_of_eq z.symm
  exact I.fpOk le (I.hok.fresh le)

/-! ### enumerate(text) -/
def Itez (z : Str) : It := Jp z.cps.size (fun i => (z.cps[i]?).map fun c => V.str ⟨#[c]⟩) fun _ => True
theorem walk_enumz {z : Str} : Walk (Itez z) z.cps.size (fun _ => True) (YPair (fun i => some (.int (i : Nat))) (fun i => (z.cps[i]?).map fun c => V.str ⟨#[c]⟩)) := walk_jp
theorem src_text {P : Program} {w : World} {K : PySem.W.Frag} (z : Str) (t : Tok) (it : Addr) : Src P w K z.cps.size (fun i => (z.cps[i]?).map fun c => V.str ⟨#[c]⟩) (fun _ => True) it (fun i h => h.IsStrIter it (strIterType z) z t i) where
  rc := fun _ _ ⟨o, h1, _, h2⟩ => ⟨o, h1, fun _ y => by rw [h2] at y; cases y⟩
  at' := fun _ _ _ ⟨o, h1, r⟩ k => ⟨o, k o h1, r⟩
  draws := by
    rintro X rfl rfl rfl calm i pins s σ H I ni hc _
    refine ⟨_, _, _, Draws.text (A := X.A.in1) (I.ok.hd calm) it z t, .head _, fun b hb => .inl (List.mem_singleton.mp hb), hc, ?_, fun _ y => y⟩
    rintro j u ⟨c, tk, hj, rfl⟩
    exact ⟨.str ⟨#[c]⟩, congrArg (Option.map _) hj, tk, rfl⟩
def iEnumz (ta : TA) : TI := fun σ H R => ta σ H fun vs H1 => ∃ z, vs = [.str z] ∧ R (Itez z) H1
theorem pi_enumz {X : Cx} {e : Expr} {ta : TA} {p pos tpos : Pos} {elts : List Expr} {kk : Nat} (hg : Gl X "enumerate") (hm : X.mg "enumerate" = none) (ha : PA X [e] ta) (hs : starEach [e] X.env = [(false, eval e X.env)] := by rfl) :
    PI X (.Tuple elts kk tpos) (.Call (.Name "enumerate" p) [e] [] pos) (iEnumz ta) := by
  constructor
  intro pins s σ H R I h
  refine Call_ (ld_blt I hg hm boot_enumerate (PyProof.Rows.callWith_type1 (thn (ha.run pos pins s σ H _ I h) ?_) hs rfl))
  rintro us s1 ⟨vs, H1, I1, r1, z, rfl, q⟩
  obtain ⟨u, rfl, t, rfl⟩ := vals1 r1
  exact call_enumerate_str fun h' he hit _ k => wpAny_pyIter_enum he (pie_jp I1 (src_text z t _) he hit k q)

/-! ### enumerate(list or tuple), for .. in a list or tuple -/
theorem src_list {P : Program} {w : World} {K : PySem.W.Frag} {a : Addr} {xs : List V} (it : Addr) : Src P w K xs.length (fun i => xs[i]?) (fun H => H a = some (.lst xs)) it (fun i h => h.IsListIter it a i) where
  rc := fun _ _ ⟨o, h1, _, h2⟩ => ⟨o, h1, fun _ y => by rw [h2] at y; cases y⟩
  at' := fun _ _ _ ⟨o, h1, r⟩ k => ⟨o, k o h1, r⟩
  draws := by
    rintro X rfl rfl rfl calm i pins s σ H I ni hc hG
    obtain ⟨us, rv, pl, _⟩ := I.list (SqL.of hG)
    have D := Draws.list (prog := X.prog) (w := X.w) (A := X.A.in1) (I.ok.hd calm) it a (ne_of_none hG ni) us.toArray
    rw [List.size_toArray, ← rv.length] at D
    refine ⟨_, _, _, D, .head _, fun b hb => ?_, ⟨hc, pl.isList⟩, fun j u hu => ?_, fun _ y => y.1⟩
    · rcases (by simpa using hb : b = it ∨ b = a) with rfl | rfl
      · exact .inl rfl
      · exact .inr (by rw [hG]; rfl)
    · have hu : us[j]? = some u := by simpa using hu
      have hj : j < xs.length := by rw [rv.length]; exact (List.getElem?_eq_some_iff.mp hu).1
      obtain ⟨u', e1, r⟩ := rv.get (List.getElem?_eq_getElem hj)
      rw [hu] at e1
      cases e1
      exact ⟨_, List.getElem?_eq_getElem hj, r⟩
theorem src_tuple {P : Program} {w : World} {K : PySem.W.Frag} {a : Addr} {xs : List V} (it : Addr) : Src P w K xs.length (fun i => xs[i]?) (fun H => H a = some (.tup xs)) it (fun i h => h.IsTupleIter it a i) where
  rc := fun _ _ ⟨o, h1, _, h2⟩ => ⟨o, h1, fun _ y => by rw [h2] at y; cases y⟩
  at' := fun _ _ _ ⟨o, h1, r⟩ k => ⟨o, k o h1, r⟩
  draws := by
    rintro X rfl rfl rfl calm i pins s σ H I ni hc hG
    obtain ⟨us, rv, pl, _⟩ := I.tuple (SqT.of hG)
    have D := Draws.tuple (prog := X.prog) (w := X.w) (A := X.A.in1) (I.ok.hd calm) it a (ne_of_none hG ni) us.toArray
    rw [List.size_toArray, ← rv.length] at D
    refine ⟨_, _, _, D, .head _, fun b hb => ?_, ⟨hc, pl⟩, fun j u hu => ?_, fun _ y => y.1⟩
    · rcases (by simpa using hb : b = it ∨ b = a) with rfl | rfl
      · exact .inl rfl
      · exact .inr (by rw [hG]; rfl)
    · have hu : us[j]? = some u := by simpa using hu
      have hj : j < xs.length := by rw [rv.length]; exact (List.getElem?_eq_some_iff.mp hu).1
      obtain ⟨u', e1, r⟩ := rv.get (List.getElem?_eq_getElem hj)
      rw [hu] at e1
      cases e1
      exact ⟨_, List.getElem?_eq_getElem hj, r⟩
/-- the object that iter(a tuple) is -/
abbrev tit (a : Addr) : Obj := { cls := .type "tuple_iterator", data := .fields #[.ref a, .int 0 0] }
/-- the object that enumerate is, over the iterator at it -/
abbrev eob (it : Addr) : Obj := { cls := .type "enumerate", data := .fields #[.none, .bool false, .ref it, rawInt 0, .none, .none] }
theorem new_enum_tuple (a : Addr) (us : Array Value) :
    Meets (Builtin.«enumerate.__new__» ⟨[.type "enumerate", .ref a], []⟩) (fun _ R s => s.heap.IsTuple a us ∧ R (.ok (.ret (.ref (s.heap.push (tit a)).objs.size))) { s with heap := (s.heap.push (tit a)).push (eob s.heap.objs.size) }) := by
  refine .of_wp ?_
  rintro prog w A R ⟨hp, gs, dr, tk, os⟩ ⟨ha, fin⟩
  have sub := sub_enumerate
  have walk {B : Around} {E : Value → Shared → Prop} {Q : Value → Shared → Prop} (y : Q (.ref hp.objs.size) ⟨hp.push (tit a), gs, dr, tk, os⟩) : wpAny (model prog w) B (pyIter (.ref a)) Q E ⟨hp, gs, dr, tk, os⟩ := (begins_tuple a us).iter prog w B E _ Q ha y
  wp_walk using walk
  refine wpAny_stack_any fun fr => wpAny_pure ?_
  split
  next c _ _ _ _ _ =>
    cases (c == Value.type "enumerate") <;> (wp_walk using walk; exact ⟨_, rfl, fin⟩)
  next =>
    wp_walk using walk
    exact ⟨_, rfl, fin⟩
theorem call_enum_tuple {prog : Program} {w : World} {A : Around} {E : Value → Shared → Prop} {s : Shared} {a : Addr} {us : Array Value} {Q : Value → Shared → Prop} (ha : s.heap.IsTuple a us)
    (h : ∀ h', IsEnum h' (s.heap.objs.size + 1) s.heap.objs.size 0 .none → h'.IsTupleIter s.heap.objs.size a 0 → (∀ b o, s.heap.get? b = some o → h'.get? b = some o) → Q (.ref (s.heap.objs.size + 1)) { s with heap := h' }) :
    wpAny (model prog w) A (call (.type "enumerate") [.ref a]) Q E s := by
  have z : (s.heap.push (tit a)).objs.size = s.heap.objs.size + 1 := Heap.size_push ..
  have e1 : (s.heap.push (tit a)).get? s.heap.objs.size = some (tit a) := Heap.get?_push_size _ rfl
  have e2 : ((s.heap.push (tit a)).push (eob s.heap.objs.size)).get? (s.heap.objs.size + 1) = some (eob s.heap.objs.size) := z ▸ Heap.get?_push_size (s.heap.push (tit a)) rfl
  have kp : ∀ b o, s.heap.get? b = some o → ((s.heap.push (tit a)).push (eob s.heap.objs.size)).get? b = some o := fun b o y => Heap.get?_push_of_some _ (Heap.get?_push_of_some _ y)
  refine callType_new F.called_enumerate (by decide) (F.typeCall_enumerate_1 _) (F.newCall_enumerate_1 _) (F.args_object_init_2 · _) F.entry_enumerate_new (new_enum_tuple a us) ⟨ha, ?_⟩
  rw [z]
  exact ⟨⟨_, e2, rfl⟩, h _ e2 ⟨_, Heap.get?_push_of_some _ e1, rfl, rfl⟩ kp⟩
def iEnumS (ta : TA) : TI := fun σ H R => ta σ H fun vs H1 => ∃ b xs, vs = [.ref b] ∧ Sq1 H1 b xs ∧ ∀ J, Walk J xs.length (fun H' => H' b = H1 b) (YPair (fun i => some (.int (i : Nat))) (fun i => xs[i]?)) → R J H1
theorem pi_enumS {X : Cx} {e : Expr} {ta : TA} {p pos tpos : Pos} {elts : List Expr} {kk : Nat} (hg : Gl X "enumerate") (hm : X.mg "enumerate" = none) (ha : PA X [e] ta) (hs : starEach [e] X.env = [(false, eval e X.env)] := by rfl) :
    PI X (.Tuple elts kk tpos) (.Call (.Name "enumerate" p) [e] [] pos) (iEnumS ta) := by
  constructor
  intro pins s σ H R I h
  refine Call_ (ld_blt I hg hm boot_enumerate (PyProof.Rows.callWith_type1 (thn (ha.run pos pins s σ H _ I h) ?_) hs rfl))
  rintro us s1 ⟨vs, H1, I1, r1, b, xs, rfl, hq, q⟩
  obtain ⟨u, rfl, rfl⟩ := vals1 r1
  rcases hq with hq | hq
  · obtain ⟨its, _, pl, _⟩ := I1.list (SqL.of hq)
    exact call_enumerate_list pl.isList fun h' he hit _ k => wpAny_pyIter_enum he (pie_jp I1 (src_list _) he hit k (q _ (walk_jp.mono (fun _ y => y.trans hq) fun _ _ _ _ _ _ y => y)))
  · obtain ⟨its, _, pl, _⟩ := I1.tuple (SqT.of hq)
    exact call_enum_tuple pl fun h' he hit k => wpAny_pyIter_enum he (pie_jp I1 (src_tuple _) he hit k (q _ (walk_jp.mono (fun _ y => y.trans hq) fun _ _ _ _ _ _ y => y)))
def iSeqS (te : TE) : TI := fun σ H R => te σ H fun x H1 => ∃ b xs, x = .ref b ∧ Sq1 H1 b xs ∧ ∀ J, Walk J xs.length (fun H' => H' b = H1 b) (YAt xs) → R J H1
theorem pi_seqS {X : Cx} {tg l : Expr} {tl : TE} (hl : PE X l tl) : PI X tg l (iSeqS tl) := by
  constructor
  intro pins s σ H R I h
  refine thn (hl.run pins s σ H _ I h) ?_
  rintro v s1 ⟨x, H1, I1, r1, b, xs, rfl, hq, q⟩
  cases r1
  rcases hq with hq | hq
  · obtain ⟨its, _, pl, _⟩ := I1.list (SqL.of hq)
    exact wpAny_pyIter_list pl.isList (pi_one (tk := s1.toks) I1 _ (turn_list b _) ⟨_, Heap.get?_push_size _ rfl, rfl, rfl⟩ (q _ (walk_list.mono (fun _ y => SqL.of (y.trans hq)) fun _ _ _ _ _ _ y => y)))
  · obtain ⟨its, _, pl, _⟩ := I1.tuple (SqT.of hq)
    exact wpAny_pyIter_tuple pl (pi_one (tk := s1.toks) I1 _ (turn_tuple b _) ⟨_, Heap.get?_push_size _ rfl, rfl, rfl⟩ (q _ (walk_tup.mono (fun _ y => SqT.of (y.trans hq)) fun _ _ _ _ _ _ y => y)))

/-! ### text * int: a text of that length -/
def rRepS : R2 := fun x y H Q => ∃ (z : Str) (k : Int), x = .str z ∧ y = .int k ∧ 0 ≤ k ∧ k ≤ 1000 ∧ z.length ≤ 1000 ∧ ∀ r : Str, r.length = z.length * k.toNat → Q (.str r) H
theorem rep_size (z : Array Nat) : ∀ (n : Nat) (acc : Array Nat), ((List.replicate n z).foldl (· ++ ·) acc).size = acc.size + z.size * n
  | 0, acc => by simp
  | n + 1, acc => by
    rw [List.replicate_succ, List.foldl_cons, rep_size z n, Array.size_append, Nat.mul_succ]
    omega
theorem op_repS {X : Cx} : OpR X (binaryOp .Mult) rRepS := by
  intro pins s σ H x y v u Q I rx ry h
  obtain ⟨z, k, rfl, rfl, h0, h1, hz, q⟩ := h
  obtain ⟨t, rfl⟩ := rx
  obtain ⟨t', rfl⟩ := ry
  have hk : k.toNat ≤ 1000 := by omega
  have hzk : z.length * k.toNat ≤ 1000 * 1000 := Nat.mul_le_mul hz hk
  refine P.mul_str ?_ (fun hn _ => ?_) (fun _ _ => ?_) ?_
  · rw [decide_eq_false (by omega), decide_eq_false (by omega)]; rfl
  · intro hgt
    have hq : (1000 : Int) ≤ (2 ^ 63 - 1) / k := by
      rw [Int.le_ediv_iff_mul_le (by omega)]
      omega
    omega
  · show decide (z.length * k.toNat > sizeLine) = false
    refine decide_eq_false ?_
    have : sizeLine = 16777216 := by decide
    omega
  · by_cases hn : k < 1
    · rw [if_pos hn]
      have e : k.toNat = 0 := by omega
      refine ⟨by decide, .str Str.empty, H, I.tok _, ⟨_, rfl⟩, q _ ?_⟩
      rw [e, Nat.mul_zero]; rfl
    · rw [if_neg hn]
      by_cases hb : (k == 1 || z.length == 0) = true
      · rw [if_pos hb]
        refine ⟨.str z, H, I, ⟨_, rfl⟩, q _ ?_⟩
        rcases Bool.or_eq_true _ _ ▸ hb with hb | hb
        · have e : k = 1 := by simpa using hb
          rw [e]; simp
        · have e : z.length = 0 := by simpa using hb
          rw [e]; simp
      · rw [if_neg hb]
        have el : (⟨(List.replicate k.toNat z.cps).foldl (· ++ ·) #[]⟩ : Str).length = z.length * k.toNat := by
          show ((List.replicate k.toNat z.cps).foldl (· ++ ·) #[]).size = z.cps.size * k.toNat
          rw [rep_size]
          simp
        refine ⟨?_, .str _, H, I.tok _, ⟨_, rfl⟩, q _ el⟩
        rw [el]
        have : sizeLine = 16777216 := by decide
        omega

/-! ### xs.count(text) -/
def rCntS (K : PySem.W.Frag) : V → List V → Hp → VK → Prop := fun x xs H Q => ∃ (p : Addr) (ys : List Str) (k : Str), x = .ref p ∧ xs = [.str k] ∧ SqL K H p (ys.map V.str) ∧ Q (.int (ys.count k : Nat)) H
theorem cnt_in (k : Str) : ∀ ys : List Str, countIn (.str k) (ys.map PyData.str) = ((ys.count k : Nat) : Int)
  | [] => rfl
  | y :: ys => by
    rw [List.map_cons, countIn, cnt_in k ys, List.count_cons]
    by_cases e : y = k
    · subst e
      simp [same]
      omega
    · simp [same, e]
theorem mt_lcountS {X : Cx} : MtR X "list.count" (rCntS X.K) := by
  intro pins s σ H x xs v us Q I rx rxs h
  obtain ⟨p, ys, k, rfl, rfl, hs, q⟩ := h
  cases rx
  obtain ⟨u, rfl, ru⟩ := rxs.one
  obtain ⟨t, rfl⟩ := ru
  obtain ⟨its, rv, hl, hlen⟩ := I.list hs
  refine count_list_strs hl.isList (Vals.strs rv) ?_
  rw [cnt_in]
  exact ⟨.int (ys.count k : Nat), H, I.tok _, ⟨s.toks, rfl⟩, q⟩

end StR
end

/-! ## StBase -/
section
set_option Elab.async false
set_option linter.all false
set_option maxRecDepth 100000
/-! The text by places, the names of each def by slots. -/
namespace Stc
open PySem L2 StR
def topS (i : Nat) : Stmt := PySem.Challenge.pw_steadycover_k21_whole_calm_or_flicker.main.body.getD i (.Pass ⟨0, 0, 0, 0⟩)
abbrev s_signs_fit : Stmt := topS 6
theorem c_signs_fit : FnScope ["thing", "n", "signs", "sign"] ["thing", "n", "signs"] (defScope s_signs_fit) := ⟨rfl, rfl, rfl, by decide +kernel, rfl, by decide +kernel, by decide +kernel⟩
abbrev s_is_point : Stmt := topS 7
theorem c_is_point : FnScope ["thing", "n"] ["thing", "n"] (defScope s_is_point) := ⟨rfl, rfl, rfl, by decide +kernel, rfl, by decide +kernel, by decide +kernel⟩
abbrev s_is_cube : Stmt := topS 8
theorem c_is_cube : FnScope ["thing", "n"] ["thing", "n"] (defScope s_is_cube) := ⟨rfl, rfl, rfl, by decide +kernel, rfl, by decide +kernel, by decide +kernel⟩
abbrev s_some_size : Stmt := topS 9
theorem c_some_size : FnScope ["thing"] ["thing"] (defScope s_some_size) := ⟨rfl, rfl, rfl, by decide +kernel, rfl, by decide +kernel, by decide +kernel⟩
abbrev s_inside : Stmt := topS 10
theorem c_inside : FnScope ["c", "d", "at", "sign"] ["c", "d"] (defScope s_inside) := ⟨rfl, rfl, rfl, by decide +kernel, rfl, by decide +kernel, by decide +kernel⟩
abbrev s_opposed : Stmt := topS 11
theorem c_opposed : FnScope ["c", "d", "at", "sign"] ["c", "d"] (defScope s_opposed) := ⟨rfl, rfl, rfl, by decide +kernel, rfl, by decide +kernel, by decide +kernel⟩
abbrev s_joined : Stmt := topS 12
theorem c_joined : FnScope ["c", "d", "at", "sign"] ["c", "d"] (defScope s_joined) := ⟨rfl, rfl, rfl, by decide +kernel, rfl, by decide +kernel, by decide +kernel⟩
abbrev s_is_change : Stmt := topS 14
theorem c_is_change : FnScope ["thing", "n"] ["thing", "n"] (defScope s_is_change) := ⟨rfl, rfl, rfl, by decide +kernel, rfl, by decide +kernel, by decide +kernel⟩
abbrev s_size_of_change : Stmt := topS 15
theorem c_size_of_change : FnScope ["change", "size"] ["change"] (defScope s_size_of_change) := ⟨rfl, rfl, rfl, by decide +kernel, rfl, by decide +kernel, by decide +kernel⟩
abbrev s_check_cover : Stmt := topS 18
theorem c_check_cover : FnScope ["cover", "n", "at", "cube"] ["cover", "n"] (defScope s_check_cover) := ⟨rfl, rfl, rfl, by decide +kernel, rfl, by decide +kernel, by decide +kernel⟩
abbrev s_check_both : Stmt := topS 19
theorem c_check_both : FnScope ["change", "cover"] ["change", "cover"] (defScope s_check_both) := ⟨rfl, rfl, rfl, by decide +kernel, rfl, by decide +kernel, by decide +kernel⟩
abbrev s_reaches : Stmt := topS 20
theorem c_reaches : FnScope ["cover", "point", "cube"] ["cover", "point"] (defScope s_reaches) := ⟨rfl, rfl, rfl, by decide +kernel, rfl, by decide +kernel, by decide +kernel⟩
abbrev s_list_wires : Stmt := topS 21
theorem c_list_wires : FnScope ["change", "cover", "start", "end", "j", "cube", "i", "sign"] ["change", "cover"] (defScope s_list_wires) := ⟨rfl, rfl, rfl, by decide +kernel, rfl, by decide +kernel, by decide +kernel⟩
abbrev s_product_word : Stmt := topS 22
theorem c_product_word : FnScope ["change", "cube", "start", "end", "rising", "falling", "i", "sign"] ["change", "cube"] (defScope s_product_word) := ⟨rfl, rfl, rfl, by decide +kernel, rfl, by decide +kernel, by decide +kernel⟩
abbrev s_product_words : Stmt := topS 23
theorem c_product_words : FnScope ["change", "cover", "cube"] ["change", "cover"] (defScope s_product_words) := ⟨rfl, rfl, rfl, by decide +kernel, rfl, by decide +kernel, by decide +kernel⟩
abbrev s_longest : Stmt := topS 24
theorem c_longest : FnScope ["change", "cover", "words", "front", "back"] ["change", "cover"] (defScope s_longest) := ⟨rfl, rfl, rfl, by decide +kernel, rfl, by decide +kernel, by decide +kernel⟩
abbrev s_longest_order : Stmt := topS 25
theorem c_longest_order : FnScope ["change", "cover", "words", "start", "end", "order", "j", "i", "word"] ["change", "cover"] (defScope s_longest_order) := ⟨rfl, rfl, rfl, by decide +kernel, rfl, by decide +kernel, by decide +kernel⟩
abbrev s_flicker : Stmt := topS 26
theorem c_flicker : FnScope ["change", "cover"] ["change", "cover"] (defScope s_flicker) := ⟨rfl, rfl, rfl, by decide +kernel, rfl, by decide +kernel, by decide +kernel⟩
abbrev s_why : Stmt := topS 27
theorem c_why : FnScope ["change", "cover", "start", "end", "cube", "before", "after", "j", "product"] ["change", "cover"] (defScope s_why) := ⟨rfl, rfl, rfl, by decide +kernel, rfl, by decide +kernel, by decide +kernel⟩
abbrev s_calm : Stmt := topS 28
theorem c_calm : FnScope ["change", "cover"] ["change", "cover"] (defScope s_calm) := ⟨rfl, rfl, rfl, by decide +kernel, rfl, by decide +kernel, by decide +kernel⟩
abbrev s_law_mixed : Stmt := topS 30
theorem c_law_mixed : FnScope ["_law_seed", "_law_k", "_law_one", "_law_two", "_law_three"] ["_law_seed", "_law_k"] (defScope s_law_mixed) := ⟨rfl, rfl, rfl, by decide +kernel, rfl, by decide +kernel, by decide +kernel⟩
abbrev s_law_draws : Stmt := topS 31
theorem c_law_draws : FnScope ["_law_script", "_law_many", "_law_rows", "_law_seed", "_law_at", "_law_cell", "_law_k"] ["_law_script", "_law_many"] (defScope s_law_draws) := ⟨rfl, rfl, rfl, by decide +kernel, rfl, by decide +kernel, by decide +kernel⟩
abbrev s_law_strings : Stmt := topS 32
theorem c_law_strings : FnScope ["_law_n", "_law_signs", "_law_rows", "_law_at", "_law_longer", "_law_row", "_law_sign"] ["_law_n", "_law_signs"] (defScope s_law_strings) := ⟨rfl, rfl, rfl, by decide +kernel, rfl, by decide +kernel, by decide +kernel⟩
abbrev s_law_in : Stmt := topS 33
theorem c_law_in : FnScope ["_law_cube_here", "_law_inner", "_law_at"] ["_law_cube_here", "_law_inner"] (defScope s_law_in) := ⟨rfl, rfl, rfl, by decide +kernel, rfl, by decide +kernel, by decide +kernel⟩
abbrev s_law_cube : Stmt := topS 34
theorem c_law_cube : FnScope ["_law_number", "_law_n", "_law_text", "_law_at"] ["_law_number", "_law_n"] (defScope s_law_cube) := ⟨rfl, rfl, rfl, by decide +kernel, rfl, by decide +kernel, by decide +kernel⟩
abbrev s_law_point : Stmt := topS 35
theorem c_law_point : FnScope ["_law_number", "_law_n", "_law_text", "_law_at"] ["_law_number", "_law_n"] (defScope s_law_point) := ⟨rfl, rfl, rfl, by decide +kernel, rfl, by decide +kernel, by decide +kernel⟩
abbrev s_law_change : Stmt := topS 36
theorem c_law_change : FnScope ["_law_number", "_law_n", "_law_start", "_law_mask", "_law_end", "_law_at"] ["_law_number", "_law_n"] (defScope s_law_change) := ⟨rfl, rfl, rfl, by decide +kernel, rfl, by decide +kernel, by decide +kernel⟩
abbrev s_law_joined : Stmt := topS 37
theorem c_law_joined : FnScope ["_law_one", "_law_other", "_law_text", "_law_at"] ["_law_one", "_law_other"] (defScope s_law_joined) := ⟨rfl, rfl, rfl, by decide +kernel, rfl, by decide +kernel, by decide +kernel⟩
abbrev s_law_cover : Stmt := topS 38
theorem c_law_cover : FnScope ["_law_draws_here", "_law_n", "_law_many", "_law_k"] ["_law_draws_here", "_law_n", "_law_many"] (defScope s_law_cover) := ⟨rfl, rfl, rfl, by decide +kernel, rfl, by decide +kernel, by decide +kernel⟩
abbrev s_law_covers : Stmt := topS 39
theorem c_law_covers : FnScope ["_law_cover_here", "_law_point_here", "_law_cube_here"] ["_law_cover_here", "_law_point_here"] (defScope s_law_covers) := ⟨rfl, rfl, rfl, by decide +kernel, rfl, by decide +kernel, by decide +kernel⟩
abbrev s_law_wires : Stmt := topS 40
theorem c_law_wires : FnScope ["_law_change_here", "_law_cover_here", "_law_rows", "_law_j", "_law_i"] ["_law_change_here", "_law_cover_here"] (defScope s_law_wires) := ⟨rfl, rfl, rfl, by decide +kernel, rfl, by decide +kernel, by decide +kernel⟩
abbrev s_law_shown : Stmt := topS 41
theorem c_law_shown : FnScope ["_law_change_here", "_law_cover_here", "_law_turned", "_law_j", "_law_good", "_law_i", "_law_seen"] ["_law_change_here", "_law_cover_here", "_law_turned"] (defScope s_law_shown) := ⟨rfl, rfl, rfl, by decide +kernel, rfl, by decide +kernel, by decide +kernel⟩
abbrev s_law_played : Stmt := topS 42
theorem c_law_played : FnScope ["_law_change_here", "_law_cover_here", "_law_order", "_law_turned", "_law_word", "_law_wire", "_law_sign"] ["_law_change_here", "_law_cover_here", "_law_order"] (defScope s_law_played) := ⟨rfl, rfl, rfl, by decide +kernel, rfl, by decide +kernel, by decide +kernel⟩
abbrev s_law_shuffled : Stmt := topS 43
theorem c_law_shuffled : FnScope ["_law_rows", "_law_number", "_law_step", "_law_left", "_law_order", "_law_k"] ["_law_rows", "_law_number", "_law_step"] (defScope s_law_shuffled) := ⟨rfl, rfl, rfl, by decide +kernel, rfl, by decide +kernel, by decide +kernel⟩
abbrev s_law_same : Stmt := topS 44
theorem c_law_same : FnScope ["_law_actual", "_law_due", "_law_at"] ["_law_actual", "_law_due"] (defScope s_law_same) := ⟨rfl, rfl, rfl, by decide +kernel, rfl, by decide +kernel, by decide +kernel⟩
abbrev s_law_reason_holds : Stmt := topS 45
theorem c_law_reason_holds : FnScope ["_law_change_here", "_law_cover_here", "_law_reason", "_law_cube_here", "_law_before", "_law_after", "_law_product", "_law_at"] ["_law_change_here", "_law_cover_here", "_law_reason"] (defScope s_law_reason_holds) := ⟨rfl, rfl, rfl, by decide +kernel, rfl, by decide +kernel, by decide +kernel⟩
abbrev s_law_right : Stmt := topS 46
theorem c_law_right : FnScope ["_law_change_here", "_law_cover_here", "_law_number", "_law_reason", "_law_told", "_law_quiet", "_law_known", "_law_order"] ["_law_change_here", "_law_cover_here", "_law_number"] (defScope s_law_right) := ⟨rfl, rfl, rfl, by decide +kernel, rfl, by decide +kernel, by decide +kernel⟩
abbrev s_law : Stmt := topS 47
theorem c_law : FnScope ["_law_script", "_law_draws_here", "_law_n", "_law_cover_here", "_law_rows", "_law_start", "_law_end", "_law_change_here", "_law_back", "_law_k"] ["_law_script"] (defScope s_law) := ⟨rfl, rfl, rfl, by decide +kernel, rfl, by decide +kernel, by decide +kernel⟩
/-- the def x with the text st -/
structure Df (K : PySem.W.Frag) (mg : Str → Option Value) (x : Str) (st : Stmt) (ps : List Str) : Prop where
  ex : ∃ (f : Addr) (fd : FuncData), Fun K x x st f fd ∧ mg x = some (.ref f) ∧ Binds K fd ps []
/-! ### the built-ins' names -/
structure Bi (mg : Str → Option Value) : Prop where
  isi : mg "isinstance" = none
  len : mg "len" = none
  str : mg "str" = none
  int : mg "int" = none
  bool : mg "bool" = none
  lst : mg "list" = none
  tup : mg "tuple" = none
  enu : mg "enumerate" = none
  any : mg "any" = none
  rng : mg "range" = none
  srt : mg "sorted" = none
/-- what the top has left -/
structure Txt (K : PySem.W.Frag) (mg : Str → Option Value) : Prop where
  bi : Bi mg
  mi : ∃ t, mg "MOST_INPUTS" = some (.int 4 t)
  mp : ∃ t, mg "MOST_PRODUCTS" = some (.int 40 t)
  d_signs_fit : Df K mg "signs_fit" s_signs_fit ["thing", "n", "signs"]
  d_is_point : Df K mg "is_point" s_is_point ["thing", "n"]
  d_is_cube : Df K mg "is_cube" s_is_cube ["thing", "n"]
  d_some_size : Df K mg "some_size" s_some_size ["thing"]
  d_inside : Df K mg "inside" s_inside ["c", "d"]
  d_opposed : Df K mg "opposed" s_opposed ["c", "d"]
  d_joined : Df K mg "joined" s_joined ["c", "d"]
  d_is_change : Df K mg "is_change" s_is_change ["thing", "n"]
  d_size_of_change : Df K mg "size_of_change" s_size_of_change ["change"]
  d_check_cover : Df K mg "check_cover" s_check_cover ["cover", "n"]
  d_check_both : Df K mg "check_both" s_check_both ["change", "cover"]
  d_reaches : Df K mg "reaches" s_reaches ["cover", "point"]
  d_list_wires : Df K mg "list_wires" s_list_wires ["change", "cover"]
  d_product_word : Df K mg "product_word" s_product_word ["change", "cube"]
  d_product_words : Df K mg "product_words" s_product_words ["change", "cover"]
  d_longest : Df K mg "longest" s_longest ["change", "cover"]
  d_longest_order : Df K mg "longest_order" s_longest_order ["change", "cover"]
  d_flicker : Df K mg "flicker" s_flicker ["change", "cover"]
  d_why : Df K mg "why" s_why ["change", "cover"]
  d_calm : Df K mg "calm" s_calm ["change", "cover"]
  d_law_mixed : Df K mg "_law_mixed" s_law_mixed ["_law_seed", "_law_k"]
  d_law_draws : Df K mg "_law_draws" s_law_draws ["_law_script", "_law_many"]
  d_law_strings : Df K mg "_law_strings" s_law_strings ["_law_n", "_law_signs"]
  d_law_in : Df K mg "_law_in" s_law_in ["_law_cube_here", "_law_inner"]
  d_law_cube : Df K mg "_law_cube" s_law_cube ["_law_number", "_law_n"]
  d_law_point : Df K mg "_law_point" s_law_point ["_law_number", "_law_n"]
  d_law_change : Df K mg "_law_change" s_law_change ["_law_number", "_law_n"]
  d_law_joined : Df K mg "_law_joined" s_law_joined ["_law_one", "_law_other"]
  d_law_cover : Df K mg "_law_cover" s_law_cover ["_law_draws_here", "_law_n", "_law_many"]
  d_law_covers : Df K mg "_law_covers" s_law_covers ["_law_cover_here", "_law_point_here"]
  d_law_wires : Df K mg "_law_wires" s_law_wires ["_law_change_here", "_law_cover_here"]
  d_law_shown : Df K mg "_law_shown" s_law_shown ["_law_change_here", "_law_cover_here", "_law_turned"]
  d_law_played : Df K mg "_law_played" s_law_played ["_law_change_here", "_law_cover_here", "_law_order"]
  d_law_shuffled : Df K mg "_law_shuffled" s_law_shuffled ["_law_rows", "_law_number", "_law_step"]
  d_law_same : Df K mg "_law_same" s_law_same ["_law_actual", "_law_due"]
  d_law_reason_holds : Df K mg "_law_reason_holds" s_law_reason_holds ["_law_change_here", "_law_cover_here", "_law_reason"]
  d_law_right : Df K mg "_law_right" s_law_right ["_law_change_here", "_law_cover_here", "_law_number"]
  d_law : Df K mg "law" s_law ["_law_script"]
/-! ### cubes as texts -/
def Sg.code : Sg → Nat
  | .z => 48
  | .o => 49
  | .d => 45
def sgS (x : Sg) : Str := ⟨#[x.code]⟩
def enc (c : Cub) : Str := ⟨(c.map Sg.code).toArray⟩
abbrev ev (c : Cub) : V := .str (enc c)
abbrev sv (x : Sg) : V := .str (sgS x)
theorem code_inj {x y : Sg} (h : x.code = y.code) : x = y := by
  cases x <;> cases y <;> first | rfl | cases h
theorem sgS_inj {x y : Sg} (h : sgS x = sgS y) : x = y := by
  have q : #[x.code] = #[y.code] := congrArg Str.cps h
  exact code_inj (by simpa using q)
theorem enc_len (c : Cub) : (enc c).length = c.length := by
  show (c.map Sg.code).toArray.size = _
  simp
theorem enc_inj {c d : Cub} (h : enc c = enc d) : c = d := by
  have q : (c.map Sg.code).toArray = (d.map Sg.code).toArray := congrArg Str.cps h
  have q : c.map Sg.code = d.map Sg.code := by simpa using q
  exact List.map_inj_right (fun _ _ => code_inj) |>.mp q
theorem enc_cps (c : Cub) : (enc c).cps.toList = c.map Sg.code := by
  show (c.map Sg.code).toArray.toList = _
  simp
theorem g_get {c : Cub} {i : Nat} (h : i < c.length) : c[i]? = some (g c i) := by
  unfold g
  rw [List.getD_eq_getElem?_getD, List.getElem?_eq_getElem h]
  rfl
theorem enc_at {c : Cub} {i : Nat} (h : i < c.length) : atI (enc c).cps.toList (i : Int) = some (g c i).code := by
  refine atI_nat ?_
  rw [enc_cps, List.getElem?_map, g_get h]
  rfl
theorem enc_at' {c : Cub} {i : Nat} (h : i < c.length) : (enc c).cps[i]? = some (g c i).code := by
  have q : (enc c).cps.toList[i]? = some (g c i).code := by
    rw [enc_cps, List.getElem?_map, g_get h]
    rfl
  simpa using q
theorem enc_size (c : Cub) : (enc c).cps.size = c.length := enc_len c
theorem s_dash : (Str.ofString "-" : Str) = sgS .d := by decide +kernel
theorem s_zero : (Str.ofString "0" : Str) = sgS .z := by decide +kernel
theorem s_one : (Str.ofString "1" : Str) = sgS .o := by decide +kernel
theorem sv_eq {x y : Sg} : (V.str ⟨#[x.code]⟩ = V.str ⟨#[y.code]⟩) ↔ x = y := ⟨fun h => sgS_inj (V.str.inj h), fun h => by rw [h]⟩
theorem small {n : Nat} (h : n ≤ 1000) : n ≤ sizeLine := Nat.le_of_lt (small1000 h)
theorem ifN {c : Prop} [Decidable c] {A B : Prop} (h1 : ¬ c → A) (h2 : c → B) : if (!decide c) = true then A else B := by
  by_cases h : c
  · rw [decide_eq_true h]; exact iteF (h2 h)
  · rw [decide_eq_false h]; exact iteT (h1 h)
theorem ifD {c : Prop} [Decidable c] {A B : Prop} (h1 : c → A) (h2 : ¬ c → B) : if decide c = true then A else B := by
  by_cases h : c
  · rw [decide_eq_true h]; exact iteT (h1 h)
  · rw [decide_eq_false h]; exact iteF (h2 h)
theorem ifB {b : Bool} {A B : Prop} (h1 : b = true → A) (h2 : b = false → B) : if b = true then A else B := by
  cases b
  · exact iteF (h2 rfl)
  · exact iteT (h1 rfl)
/-- a turn of enumerate over a cube's text -/
theorem yz {c : Cub} {i : Nat} {H : Hp} {v : V} {H' : Hp} (hi : i < (enc c).cps.size) (y : YPair (fun i => some (.int (i : Nat))) (fun i => ((enc c).cps[i]?).map fun c => V.str ⟨#[c]⟩) i H v H') :
    i < c.length ∧ ∃ T, v = .ref T ∧ H T = none ∧ H' = upd H T (.tup [.int (i : Nat), sv (g c i)]) := by
  rw [enc_size] at hi
  obtain ⟨T, x1, x2, rfl, nT, rfl, e1, e2⟩ := y
  have e2 : ((enc c).cps[i]?).map (fun c => V.str ⟨#[c]⟩) = some x2 := e2
  rw [enc_at' hi] at e2
  have e1 : x1 = .int (i : Nat) := (Option.some.inj e1).symm
  have e2 : x2 = sv (g c i) := (Option.some.inj e2).symm
  subst e1 e2
  exact ⟨hi, T, rfl, nT, rfl⟩
theorem lt_succ {P : Nat → Prop} {i : Nat} (h : ∀ j, j < i → P j) (hi : P i) : ∀ j, j < i + 1 → P j := fun j hj => by
  by_cases e : j = i
  · rw [e]; exact hi
  · exact h j (by omega)
theorem same_set {H H' : Hp} {D : Addr} {o : HO} (s : Same H H') (n : H D = none) : Same H (upd H' D o) := fun b x e => by
  rw [upd_ne (ne_of_none e n)]
  exact s b x e
theorem in_opp (a b : Sg) : inV (.str (sgS a ++ sgS b)) [.str (Str.ofString "01"), .str (Str.ofString "10")] = opp a b := by
  cases a <;> cases b <;> decide +kernel
theorem join_sg : ∀ c : Cub, Txt.join (Str.ofString "") (c.map sgS) = enc c := fun c => by
  rw [TL.join_eq]
  have e0 : (Str.ofString "" : Str) = ⟨#[]⟩ := by decide +kernel
  rw [e0]
  induction c with
  | nil => rfl
  | cons x r ih =>
    cases r with
    | nil => rfl
    | cons y r =>
      show sgS x ++ ⟨#[]⟩ ++ Str.join ⟨#[]⟩ ((y :: r).map sgS) = _
      rw [ih]
      show Str.mk ((#[x.code] ++ #[]) ++ ((y :: r).map Sg.code).toArray) = Str.mk ((x :: y :: r).map Sg.code).toArray
      congr 1
      apply Array.toList_inj.mp
      simp
theorem sum_one (c : Cub) : ((c.map sgS).map (·.length)).sum = c.length := by
  induction c with
  | nil => rfl
  | cons x r ih =>
    rw [List.map_cons, List.map_cons, List.sum_cons, ih, List.length_cons]
    show 1 + r.length = r.length + 1
    omega
theorem range_succ_filter (p : Nat → Bool) (i : Nat) : (List.range (i + 1)).filter p = (List.range i).filter p ++ (if p i = true then [i] else []) := by
  rw [List.range_succ, List.filter_append, List.filter_cons, List.filter_nil]
theorem filter_len (p : Nat → Bool) (i : Nat) : ((List.range i).filter p).length ≤ i := by
  have q := List.length_filter_le p (List.range i)
  rw [List.length_range] at q
  exact q
/-- every sign of a point is one of "01", of a cube one of "01-" -/
theorem pt_codes {c : Cub} (h : IsPt c) : ∀ x, x ∈ (enc c).cps.toList → x ∈ (Str.ofString "01").cps.toList := fun x hx => by
  have e : (Str.ofString "01").cps.toList = [48, 49] := by decide +kernel
  rw [enc_cps] at hx
  obtain ⟨y, hy, rfl⟩ := List.mem_map.mp hx
  obtain ⟨i, hi, rfl⟩ := List.mem_iff_getElem.mp hy
  have q := h i hi
  have q2 : g c i = c[i] := by
    have := g_get hi
    rw [List.getElem?_eq_getElem hi] at this
    exact (Option.some.inj this).symm
  rw [q2] at q
  rw [e]
  cases z : c[i] with
  | z => decide
  | o => decide
  | d => exact absurd z q
theorem cub_codes (c : Cub) : ∀ x, x ∈ (enc c).cps.toList → x ∈ (Str.ofString "01-").cps.toList := fun x hx => by
  have e : (Str.ofString "01-").cps.toList = [48, 49, 45] := by decide +kernel
  rw [enc_cps] at hx
  obtain ⟨y, hy, rfl⟩ := List.mem_map.mp hx
  rw [e]
  cases y <;> decide

section
variable (P : Program) (w : World) (K : PySem.W.Frag) (mg : Str → Option Value) (base : Heap)
/-- the def x keeps the promise sp -/
def Ok (k : Nat) (x : Str) (ps : List Str) (sp : Sp) : Prop := ∃ (f : Addr) (fd : FuncData), FnOk P w K mg base CX0 k f fd ps sp ∧ mg x = some (.ref f) ∧ PySem.W.keepIn K (.ref f) = true ∧ Binds K fd ps []
end
theorem Df.ok {P : Program} {w : World} {K : PySem.W.Frag} {mg : Str → Option Value} {base : Heap} {k : Nat} {x : Str} {st : Stmt} {ps : List Str} {sp : Sp} (D : Df K mg x st ps) (h : ∀ f fd, Fun K x x st f fd → FnOk P w K mg base CX0 k f fd ps sp) : Ok P w K mg base k x ps sp := by
  obtain ⟨f, fd, F, m, b⟩ := D.ex
  exact ⟨f, fd, h f fd F, m, F.kp, b⟩
/-- a change and a cover, handed in -/
structure Arg (H : Hp) (a b : Addr) (n : Nat) (s e : Cub) (cov : List Cub) : Prop where
  fits : Fits n s e cov
  n1 : 1 ≤ n
  n4 : n ≤ 4
  ne : s ≠ e
  cl : cov.length ≤ 12
  ch : H a = some (.tup [ev s, ev e])
  cv : Sq1 H b (cov.map ev)
theorem Arg.same {H H' : Hp} {a b : Addr} {n : Nat} {s e : Cub} {cov : List Cub} (A : Arg H a b n s e cov) (sm : Same H H') : Arg H' a b n s e cov := ⟨A.fits, A.n1, A.n4, A.ne, A.cl, sm _ _ A.ch, A.cv.same sm⟩
theorem cov_at {cov : List Cub} {i : Nat} (h : i < cov.length) : (cov.map ev)[i]? = some (ev (cu cov i)) := by
  unfold cu
  rw [List.getElem?_map, List.getD_eq_getElem?_getD, List.getElem?_eq_getElem h]
  rfl
/-- a turn of enumerate over a cover -/
theorem ycov {cov : List Cub} {i : Nat} {H : Hp} {v : V} {H' : Hp} (hi : i < (cov.map ev).length) (y : YPair (fun i => some (.int (i : Nat))) (fun i => (cov.map ev)[i]?) i H v H') :
    i < cov.length ∧ ∃ T, v = .ref T ∧ H T = none ∧ H' = upd H T (.tup [.int (i : Nat), ev (cu cov i)]) := by
  rw [List.length_map] at hi
  obtain ⟨T, x1, x2, rfl, nT, rfl, e1, e2⟩ := y
  have e2 : (cov.map ev)[i]? = some x2 := e2
  rw [cov_at hi] at e2
  have e1 : x1 = .int (i : Nat) := (Option.some.inj e1).symm
  have e2 : x2 = ev (cu cov i) := (Option.some.inj e2).symm
  subst e1 e2
  exact ⟨hi, T, rfl, nT, rfl⟩
/-! ### two loops of one comprehension -/
/-- from H0 on every draw of J does a step, and Z holds when J has ended; the second number goes down -/
abbrev Turns (J : It) (step : (Hp → Prop) → V → Hp → Prop) (Z : Hp → Prop) (H0 : Hp) : Prop :=
  ∃ W : Nat → Nat → Hp → Prop, (∃ m, W 0 m H0) ∧
    ∀ t m H, W t m H → (J.stop t H ∧ Z H) ∨ (J.go t H ∧ ∃ N : Hp → Prop,
      (∀ E, N E → ∃ l, l < m ∧ W (t + 1) l E) ∧
      ∀ v E, J.yld t H v E → step N v E)
/-- at a walk of n turns I t is kept -/
theorem by_turns {J : It} {n : Nat} {G : Hp → Prop} {Y : Nat → Hp → V → Hp → Prop} (wk : Walk J n G Y) {step : (Hp → Prop) → V → Hp → Prop} {Z : Hp → Prop} {H0 : Hp} (I : Nat → Hp → Prop)
    (first : I 0 H0) (stands : ∀ t H, t ≤ n → I t H → G H) (turn : ∀ t v H E, t < n → I t H → Y t H v E → step (I (t + 1)) v E) (last : ∀ H, I n H → Z H) : Turns J step Z H0 := by
  refine ⟨fun t m H => t + m = n ∧ I t H, ⟨n, Nat.zero_add n, first⟩, fun t m H hW => ?_⟩
  obtain ⟨hm, hI⟩ := hW
  have hg := stands t H (by omega) hI
  cases m with
  | zero =>
    have ht : t = n := hm
    rw [ht] at hI
    rw [ht]
    exact Or.inl ⟨wk.stops H hg, last H hI⟩
  | succ m =>
    have ht : t < n := by omega
    refine Or.inr ⟨wk.goes t H ht hg, I (t + 1), ?_, ?_⟩
    · intro E hE
      exact ⟨m, Nat.lt_succ_self m, by omega, hE⟩
    · intro v E y
      exact turn t v H E ht hI (wk.yields t H v E ht hg y)
/-- y goes to the end of the list at D -/
abbrev Put (D : Addr) (N : Hp → Prop) (y : V) (H : Hp) : Prop := ∃ acc, H D = some (.lst acc) ∧ acc.length < sizeLine ∧ N (upd H D (.lst (acc ++ [y])))
/-- a draw of the inner loop -/
abbrev RowIn (g1 : TG) (tt1 : TT) (te : TE) (vs1 : List Nat) (D : Addr) (z : L2.St) (N : Hp → Prop) (v : V) (H : Hp) : Prop :=
  g1 v z H fun a E => wipe a vs1 = z ∧ tt1 a E fun b F => if b = true then te a F (Put D N) else N F
/-- a draw of the outer loop -/
abbrev RowOut (g g1 : TG) (tt tt1 : TT) (wi1 : TI) (te : TE) (vs vs1 : List Nat) (D : Addr) (z : L2.St) (N : Hp → Prop) (v : V) (H : Hp) : Prop :=
  g v z H fun a E => wipe a vs = z ∧ tt a E fun b F => if b = true then wi1 a F (fun J1 => Turns J1 (RowIn g1 tt1 te vs1 D (wipe a vs1)) N) else N F
section
variable {J : It} {n : Nat} {G : Hp → Prop} {Y : Nat → Hp → V → Hp → Prop} {g g1 : TG} {tt tt1 : TT} {wi1 : TI} {te : TE} {vs vs1 : List Nat} {a : L2.St} {H0 : Hp} {D : Addr} {Z : Hp → Prop}
/-- the inner loop, z the slots with its own names wiped -/
theorem lc2_in (wk : Walk J n G Y) (z : L2.St) (ez : wipe a vs1 = z) (I : Nat → Hp → Prop) (first : I 0 H0) (stands : ∀ t H, t ≤ n → I t H → G H)
    (turn : ∀ t v H E, t < n → I t H → Y t H v E → RowIn g1 tt1 te vs1 D z (I (t + 1)) v E) (last : ∀ H, I n H → Z H) : Turns J (RowIn g1 tt1 te vs1 D (wipe a vs1)) Z H0 := by
  rw [ez]
  exact by_turns wk I first stands turn last
/-- the outer loop -/
theorem lc2_out (wk : Walk J n G Y) (z : L2.St) (ez : wipe a vs = z) (I : Nat → Hp → Prop) (first : I 0 (upd H0 D (.lst []))) (stands : ∀ t H, t ≤ n → I t H → G H)
    (turn : ∀ t v H E, t < n → I t H → Y t H v E → RowOut g g1 tt tt1 wi1 te vs vs1 D z (I (t + 1)) v E) (last : ∀ H, I n H → Z H) : Turns J (RowOut g g1 tt tt1 wi1 te vs vs1 D (wipe a vs)) Z (upd H0 D (.lst [])) := by
  rw [ez]
  exact by_turns wk I first stands turn last
end
/-! ### lists of wires: tuples of two numbers -/
structure Ws (H : Hp) (xs : List V) (ws : List Wr) : Prop where
  len : xs.length = ws.length
  get : ∀ (i : Nat) (x : Wr), ws[i]? = some x → ∃ t, xs[i]? = some (.ref t) ∧ H t = some (.tup [.int (x.1 : Nat), .int (x.2 : Nat)])
theorem Ws.nil {H : Hp} : Ws H [] [] := ⟨rfl, fun i x h => by simp at h⟩
theorem Ws.same {H H' : Hp} {xs : List V} {ws : List Wr} (h : Ws H xs ws) (s : Same H H') : Ws H' xs ws := ⟨h.len, fun i x e => by
  obtain ⟨t, e1, e2⟩ := h.get i x e
  exact ⟨t, e1, s _ _ e2⟩⟩
theorem Ws.snoc {H : Hp} {xs : List V} {ws : List Wr} {t : Addr} {a b : Nat} (h : Ws H xs ws) (e : H t = some (.tup [.int (a : Nat), .int (b : Nat)])) : Ws H (xs ++ [.ref t]) (ws ++ [(a, b)]) := by
  refine ⟨by simp [h.len], fun i x hx => ?_⟩
  by_cases hi : i < ws.length
  · rw [List.getElem?_append_left hi] at hx
    obtain ⟨t', e1, e2⟩ := h.get i x hx
    exact ⟨t', by rw [List.getElem?_append_left (by rw [h.len]; exact hi)]; exact e1, e2⟩
  · rw [List.getElem?_append_right (by omega)] at hx
    have hi' : i = ws.length := by
      have := (List.getElem?_eq_some_iff.mp hx).1
      simp at this
      omega
    subst hi'
    rw [Nat.sub_self] at hx
    have ex : x = (a, b) := (Option.some.inj hx).symm
    subst ex
    refine ⟨t, ?_, e⟩
    rw [List.getElem?_append_right (by rw [h.len]; exact Nat.le_refl _), h.len, Nat.sub_self]
    rfl
theorem Ws.append {H : Hp} {xs ys : List V} {ws zs : List Wr} (h : Ws H xs ws) (k : Ws H ys zs) : Ws H (xs ++ ys) (ws ++ zs) := by
  refine ⟨by simp [h.len, k.len], fun i x hx => ?_⟩
  by_cases hi : i < ws.length
  · rw [List.getElem?_append_left hi] at hx
    obtain ⟨t', e1, e2⟩ := h.get i x hx
    exact ⟨t', by rw [List.getElem?_append_left (by rw [h.len]; exact hi)]; exact e1, e2⟩
  · rw [List.getElem?_append_right (by omega)] at hx
    obtain ⟨t', e1, e2⟩ := k.get _ x hx
    exact ⟨t', by rw [List.getElem?_append_right (by rw [h.len]; omega), h.len]; exact e1, e2⟩
/-- a list of wires at p -/
def WL (H : Hp) (p : Addr) (ws : List Wr) : Prop := ∃ xs, H p = some (.lst xs) ∧ Ws H xs ws
theorem WL.same {H H' : Hp} {p : Addr} {ws : List Wr} (h : WL H p ws) (s : Same H H') : WL H' p ws := by
  obtain ⟨xs, e, k⟩ := h
  exact ⟨xs, s _ _ e, k.same s⟩
/-! ### the words of products as texts -/
def wS : W → Str
  | .w0 => Str.ofString "0"
  | .w1 => Str.ofString "1"
  | .w01 => Str.ofString "01"
  | .w10 => Str.ofString "10"
  | .w010 => Str.ofString "010"
theorem wS_eq (a b : W) : (wS a == wS b) = decide (a = b) := by
  cases a <;> cases b <;> decide +kernel
theorem wS_inj {a b : W} (h : wS a = wS b) : a = b := by
  have q := wS_eq a b
  rw [h, beq_self_eq_true] at q
  exact of_decide_eq_true q.symm
theorem inV_w (x : W) (ws : List W) : inV (.str (wS x)) (ws.map fun y => V.str (wS y)) = decide (x ∈ ws) := by
  unfold inV
  induction ws with
  | nil => simp
  | cons y r ih =>
    rw [List.map_cons, List.any_cons, ih]
    show ((wS y == wS x) || decide (x ∈ r)) = _
    rw [wS_eq]
    by_cases e : y = x
    · subst e; simp
    · have e' : ¬ x = y := fun z => e z.symm
      simp [e, e']
theorem cnt_w (x : W) (ws : List W) : (ws.map wS).count (wS x) = ws.count x := by
  induction ws with
  | nil => rfl
  | cons y r ih =>
    rw [List.map_cons, List.count_cons, List.count_cons, ih, wS_eq]
    by_cases e : y = x
    · simp [e]
    · simp [e]
end Stc
end

/-! ## W1 -/
section
set_option Elab.async false
set_option linter.all false
set_option maxRecDepth 100000
set_option maxHeartbeats 4000000
namespace Stc
open PySem PySem.Spec PyProof.Rows L2 StR
section
variable {P : Program} {w : World} {K : PySem.W.Frag} {mg : Str → Option Value} {base : Heap}
/-! ### inside -/
def spInside : Sp := fun vs H Q _ => ∃ (c d : Cub), vs = [ev c, ev d] ∧ c.length ≤ d.length ∧ d.length ≤ 1000 ∧ ∀ H', Same H H' → Q (.bl (decide (Inside c d))) H'
theorem ok_inside {k : Nat} (T : Txt K mg) : Ok P w K mg base (k + 1) "inside" ["c", "d"] spInside := T.d_inside.ok fun f fd F => by
  refine F.ok c_inside (fun vs H Q E h => ?_) (fun cdv A outer s H vs Q E hr h => ?_)
  · obtain ⟨c, d, rfl, _⟩ := h
    rfl
  · obtain ⟨c, d, rfl, hcd, hd, q⟩ := h
    refine ⟨_, pss_cons (ps_for PassesOwn.never rfl (pi_enumz (by rfl) T.bi.enu (pa_cons (pv 0) pa_nil))
        (pg_tup rfl (pgs_cons (pg_name (i := 2) c_inside.nd rfl (.inl rfl)) (pgs_cons (pg_name (i := 3) c_inside.nd rfl (.inl rfl)) pgs_nil)))
        (pss_one (ps_if (PW.pt (pw_and (pt_cmpR op_ne (pv 3) pe_str (nomark _)) (pw_and1 (pt_cmpR op_ne (pv 3) (pe_ix ix_str (pv 1) (pv 2) (fun _ _ => rfl)) (nomark _)))))
          (pss_one (ps_ret pe_bl)) pss_nil)))
      (pss_one (ps_ret pe_bl)), ?_⟩
    refine ⟨ev c, rfl, enc c, rfl, for_it walk_enumz (fun i σ H' => (∃ x y, σ = [some (ev c), some (ev d), x, y]) ∧ Same H H' ∧ ∀ j, j < i → g c j = .d ∨ g c j = g d j)
      ⟨⟨none, none, rfl⟩, Same.refl H, fun j hj => by omega⟩ (fun _ _ _ _ _ => trivial) ?_ ?_⟩
    · rintro i v σ H1 H2 hi ⟨⟨x, y, rfl⟩, sm, hp⟩ y
      obtain ⟨hi, T', rfl, nT, rfl⟩ := yz hi y
      refine ⟨T', _, rfl, .inl (.inl upd_same), rfl, _, _, rfl, _, _, rfl, rfl, ?_⟩
      have sm' : Same H (upd H1 T' (.tup [.int (i : Nat), sv (g c i)])) := sm.trans (same_upd nT)
      refine ⟨sv (g c i), rfl, rfl, _, rfl, ifN (fun h1 => ?_) (fun h1 => iteF ?_)⟩
      · refine ⟨sv (g c i), rfl, ev d, rfl, .int (i : Nat), rfl, enc d, i, (g d i).code, rfl, rfl, small (by rw [enc_len]; exact hd), enc_at (by omega), rfl, _, rfl, ifN (fun h2 => ?_) (fun h2 => ?_)⟩
        · have n1 : ¬ Inside c d := fun z => by
            rcases z i hi with z | z
            · refine h1 ?_
              rw [z]
              exact (congrArg V.str s_dash).symm
            · exact h2 (sv_eq.mpr z)
          have q' := q _ sm'
          rw [decide_eq_false n1] at q'
          exact q'
        · exact ⟨⟨_, _, rfl⟩, sm', lt_succ hp (.inr (sv_eq.mp h2))⟩
      · refine ⟨⟨_, _, rfl⟩, sm', lt_succ hp (.inl ?_)⟩
        exact sgS_inj (V.str.inj (h1.trans (congrArg V.str s_dash)))
    · rintro σ H1 ⟨_, sm, hp⟩
      rw [enc_size] at hp
      have q' := q _ sm
      rw [decide_eq_true (show Inside c d from hp)] at q'
      exact q'

/-! ### signs_fit, is_point, is_cube, some_size -/
def spSigns : Sp := fun vs H Q _ => ∃ (z y : Str), vs = [.str z, .int z.length, .str y] ∧ z.length ≤ 1000 ∧ (∀ x, x ∈ z.cps.toList → x ∈ y.cps.toList) ∧ Q (.bl true) H
theorem ok_signs_fit {k : Nat} (T : Txt K mg) : Ok P w K mg base (k + 1) "signs_fit" ["thing", "n", "signs"] spSigns := T.d_signs_fit.ok fun f fd F => by
  refine F.ok c_signs_fit (fun vs H Q E h => ?_) (fun cdv A outer s H vs Q E hr h => ?_)
  · obtain ⟨z, y, rfl, _⟩ := h
    rfl
  · obtain ⟨z, y, rfl, hz, hy, q⟩ := h
    refine ⟨_, pss_cons (ps_if (PW.pt (pw_or (pt_not (pt_val (pe_callB call_isi (by rfl) T.bi.isi PyProof.Rows.boot_isinstance (pa_cons (pv 0) (pa_cons (pe_bltn (v := .ty "str") (by rfl) T.bi.str (by decide +kernel) rfl) pa_nil)))))
          (pw_or1 (pt_cmpR op_ne (pe_callB call_len_str (by rfl) T.bi.len PySem.boot_len (pa_cons (pv 0) pa_nil)) (pv 1) (nomark _)))))
        (pss_one (ps_ret pe_bl)) pss_nil)
      (pss_cons (ps_for PassesOwn.never rfl (pi_str (pv 0)) (pg_name (i := 3) c_signs_fit.nd rfl (.inl rfl))
        (pss_one (ps_if (pt_cmpR op_notIn_sign (pv 3) (pv 2) (by rfl)) (pss_one (ps_ret pe_bl)) pss_nil)))
      (pss_one (ps_ret pe_bl))), ?_⟩
    refine ⟨.str z, rfl, _, _, _, _, true, rfl, .ty _, .base (.str _), kit_ty (by decide +kernel), true, rfl, iteF ?_⟩
    refine ⟨.str z, rfl, z, rfl, small hz, _, rfl, rfl, _, rfl, iteNS rfl ?_⟩
    refine ⟨.str z, rfl, z, rfl, for_it walk_str (fun i σ H' => (∃ x, σ = [some (.str z), some (.int z.length), some (.str y), x]) ∧ H' = H) ⟨⟨none, rfl⟩, rfl⟩ (fun _ _ _ _ _ => trivial) ?_ ?_⟩
    · rintro i v σ H1 H2 hi ⟨⟨x, rfl⟩, rfl⟩ ⟨rfl, c, hc, rfl⟩
      have hm : c ∈ z.cps.toList := by
        have q : z.cps.toList[i]? = some c := by simpa using hc
        exact List.mem_of_getElem? q
      refine ⟨_, rfl, _, rfl, c, y, rfl, rfl, _, rfl, iteNS (hy c hm) ?_⟩
      exact ⟨⟨_, rfl⟩, rfl⟩
    · rintro σ H1 ⟨_, rfl⟩
      exact q
def spIsPoint : Sp := fun vs H Q _ => ∃ (c : Cub), vs = [ev c, .int c.length] ∧ IsPt c ∧ c.length ≤ 4 ∧ Q (.bl true) H
theorem ok_is_point {k : Nat} (T : Txt K mg) : Ok P w K mg base (k + 2) "is_point" ["thing", "n"] spIsPoint := T.d_is_point.ok fun f fd F => by
  obtain ⟨f1, fd1, G1, m1, k1, b1⟩ := ok_signs_fit (P := P) (w := w) (base := base) (k := k) T
  refine F.ok c_is_point (fun vs H Q E h => ?_) (fun cdv A outer s H vs Q E hr h => ?_)
  · obtain ⟨c, rfl, _⟩ := h
    rfl
  · obtain ⟨c, rfl, hp, hl, q⟩ := h
    refine ⟨_, pss_one (ps_ret (pe_call G1 hr (by rfl) m1 k1 b1 .nil pass0 (pa_cons (pv 0) (pa_cons (pv 1) (pa_cons pe_str pa_nil))))), ?_⟩
    refine ⟨ev c, rfl, .int c.length, rfl, enc c, _, ?_, by rw [enc_len]; omega, pt_codes hp, q⟩
    rw [enc_len]
    rfl
def spIsCube : Sp := fun vs H Q _ => ∃ (c : Cub), vs = [ev c, .int c.length] ∧ c.length ≤ 4 ∧ Q (.bl true) H
theorem ok_is_cube {k : Nat} (T : Txt K mg) : Ok P w K mg base (k + 2) "is_cube" ["thing", "n"] spIsCube := T.d_is_cube.ok fun f fd F => by
  obtain ⟨f1, fd1, G1, m1, k1, b1⟩ := ok_signs_fit (P := P) (w := w) (base := base) (k := k) T
  refine F.ok c_is_cube (fun vs H Q E h => ?_) (fun cdv A outer s H vs Q E hr h => ?_)
  · obtain ⟨c, rfl, _⟩ := h
    rfl
  · obtain ⟨c, rfl, hl, q⟩ := h
    refine ⟨_, pss_one (ps_ret (pe_call G1 hr (by rfl) m1 k1 b1 .nil pass0 (pa_cons (pv 0) (pa_cons (pv 1) (pa_cons pe_str pa_nil))))), ?_⟩
    refine ⟨ev c, rfl, .int c.length, rfl, enc c, _, ?_, by rw [enc_len]; omega, cub_codes c, q⟩
    rw [enc_len]
    rfl
def spSize : Sp := fun vs H Q _ => ∃ (z : Str), vs = [.str z] ∧ z.length ≤ 4 ∧ Q (.int z.length) H
theorem ok_some_size {k : Nat} (T : Txt K mg) : Ok P w K mg base (k + 1) "some_size" ["thing"] spSize := T.d_some_size.ok fun f fd F => by
  obtain ⟨t, mM⟩ := T.mi
  refine F.ok c_some_size (fun vs H Q E h => ?_) (fun cdv A outer s H vs Q E hr h => ?_)
  · obtain ⟨z, rfl, _⟩ := h
    rfl
  · obtain ⟨z, rfl, hz, q⟩ := h
    refine ⟨_, pss_cons (ps_if (PW.pt (pw_and (pt_val (pe_callB call_isi (by rfl) T.bi.isi PyProof.Rows.boot_isinstance (pa_cons (pv 0) (pa_cons (pe_bltn (v := .ty "str") (by rfl) T.bi.str (by decide +kernel) rfl) pa_nil))))
          (pw_and1 (pt_cmpR op_le (pe_callB call_len_str (by rfl) T.bi.len PySem.boot_len (pa_cons (pv 0) pa_nil)) (pe_glob (v := .int 4) (by rfl) mM ⟨_, rfl⟩) (nomark _)))))
        (pss_one (ps_ret (pe_callB call_len_str (by rfl) T.bi.len PySem.boot_len (pa_cons (pv 0) pa_nil)))) pss_nil)
      (pss_one (ps_ret pe_int)), ?_⟩
    refine ⟨.str z, rfl, _, _, _, _, true, rfl, .ty _, .base (.str _), kit_ty (by decide +kernel), true, rfl, iteT ?_⟩
    refine ⟨.str z, rfl, z, rfl, small (by omega), _, _, rfl, rfl, _, rfl, ifD (fun _ => ?_) (fun h => ?_)⟩
    · exact ⟨.str z, rfl, z, rfl, small (by omega), q⟩
    · exact absurd (show (z.length : Int) ≤ 4 by omega) h
/-! ### opposed, joined -/
def spOpposed : Sp := fun vs H Q _ => ∃ (c d : Cub), vs = [ev c, ev d] ∧ c.length ≤ d.length ∧ d.length ≤ 1000 ∧ ∀ H' p, Same H H' → H p = none → H' p = some (.lst ((opposedF c d).map fun (i : Nat) => V.int i)) → Q (.ref p) H'
theorem ok_opposed {k : Nat} (T : Txt K mg) : Ok P w K mg base (k + 1) "opposed" ["c", "d"] spOpposed := T.d_opposed.ok fun f fd F => by
  refine F.ok c_opposed (fun vs H Q E h => ?_) (fun cdv A outer s H vs Q E hr h => ?_)
  · obtain ⟨c, d, rfl, _⟩ := h
    rfl
  · obtain ⟨c, d, rfl, hcd, hd, q⟩ := h
    refine ⟨_, pss_one (ps_ret (pe_lc (own := [("at", 2), ("sign", 3)]) (g := gTup K 2 (gCons (gName 2) (gCons (gName 3) gNil))) (tt := tTest (tOp (rIn K false) _ _)) rfl c_opposed.nd (pi_enumz (by rfl) T.bi.enu (pa_cons (pv 0) pa_nil))
      (blkOk_by (N := ["c", "d", "at", "sign"]) (sc := defScope s_opposed) (by decide +kernel))
      (fun _ _ _ _ _ => pg_tup rfl (pgs_cons (pg_name (i := 2) c_opposed.nd rfl (.inl rfl)) (pgs_cons (pg_name (i := 3) c_opposed.nd rfl (.inl rfl)) pgs_nil)))
      (fun _ _ _ _ _ => pts_one (pt_cmpR op_in_seq (pe_op op_add_str (pv 3) (pe_ix ix_str (pv 1) (pv 2) (fun _ _ => rfl))) (pe_tup (pa_cons pe_str (pa_cons pe_str pa_nil))) (by rfl)))
      (fun _ _ _ _ _ => pv 2))), ?_⟩
    refine ⟨ev c, rfl, enc c, rfl, fun D nD => lc_it walk_enumz (fun i H' => Same H H' ∧ H' D = some (.lst (((List.range i).filter fun i => opp (g c i) (g d i)).map fun (i : Nat) => V.int i)))
      ⟨same_upd nD, upd_same⟩ (fun _ _ _ _ => trivial) ?_ ?_⟩
    · rintro i v H1 H2 hi ⟨sm, eD⟩ y
      obtain ⟨hi, T', rfl, nT, rfl⟩ := yz hi y
      refine ⟨T', _, rfl, .inl (.inl upd_same), rfl, _, _, rfl, _, _, rfl, rfl, rfl, ?_⟩
      have nTD : D ≠ T' := ne_of_none eD nT
      have sm' : Same H (upd H1 T' (.tup [.int (i : Nat), sv (g c i)])) := sm.trans (same_upd nT)
      have eD' : upd H1 T' (.tup [.int (i : Nat), sv (g c i)]) D = some (.lst (((List.range i).filter fun i => opp (g c i) (g d i)).map fun (i : Nat) => V.int i)) := by rw [upd_ne nTD]; exact eD
      refine ⟨sv (g c i), rfl, ev d, rfl, .int (i : Nat), rfl, enc d, i, (g d i).code, rfl, rfl, small (by rw [enc_len]; exact hd), enc_at (by omega), _, _, rfl, rfl, by show 2 ≤ sizeLine; decide, ?_⟩
      refine ⟨by show 2 ≤ sizeLine; decide, fun p np => ?_⟩
      refine ⟨p, _, rfl, .inr (.inl (.inl upd_same)), rfl, rfl, _, rfl, ?_⟩
      have eI : inV (.str (sgS (g c i) ++ sgS (g d i))) [.str (Str.ofString "01"), .str (Str.ofString "10")] = opp (g c i) (g d i) := in_opp _ _
      have nDp : D ≠ p := ne_of_none eD' np
      have sm2 := sm'.trans (same_upd (o := .tup [V.str (Str.ofString "01"), V.str (Str.ofString "10")]) np)
      show if inV (.str (sgS (g c i) ++ sgS (g d i))) [.str (Str.ofString "01"), .str (Str.ofString "10")] = true then _ else _
      rw [eI]
      refine ifB (fun h => ?_) (fun h => ?_)
      · refine ⟨.int (i : Nat), rfl, _, by rw [upd_ne nDp]; exact eD', ?_, same_set sm2 nD, ?_⟩
        · rw [List.length_map]
          exact small1000 (Nat.le_trans (filter_len _ _) (by omega))
        · rw [upd_same, range_succ_filter, if_pos h, List.map_append]
          rfl
      · refine ⟨sm2, ?_⟩
        rw [upd_ne nDp, eD', range_succ_filter, if_neg (by rw [h]; decide), List.append_nil]
    · rintro H1 ⟨sm, eD⟩
      rw [enc_size] at eD
      exact q _ _ sm nD eD
def spJoined : Sp := fun vs H Q _ => ∃ (c d : Cub), vs = [ev c, ev d] ∧ c.length ≤ d.length ∧ d.length ≤ 1000 ∧ ∀ H', Same H H' → Q (ev (joinF c d)) H'
theorem ok_joined {k : Nat} (T : Txt K mg) : Ok P w K mg base (k + 1) "joined" ["c", "d"] spJoined := T.d_joined.ok fun f fd F => by
  refine F.ok c_joined (fun vs H Q E h => ?_) (fun cdv A outer s H vs Q E hr h => ?_)
  · obtain ⟨c, d, rfl, _⟩ := h
    rfl
  · obtain ⟨c, d, rfl, hcd, hd, q⟩ := h
    refine ⟨_, pss_one (ps_ret (pe_join pe_str (pe_lc (own := [("at", 2), ("sign", 3)]) (g := gTup K 2 (gCons (gName 2) (gCons (gName 3) gNil))) (tt := tYes) rfl c_joined.nd (pi_enumz (by rfl) T.bi.enu (pa_cons (pv 0) pa_nil))
      (blkOk_by (N := ["c", "d", "at", "sign"]) (sc := defScope s_joined) (by decide +kernel))
      (fun _ _ _ _ _ => pg_tup rfl (pgs_cons (pg_name (i := 2) c_joined.nd rfl (.inl rfl)) (pgs_cons (pg_name (i := 3) c_joined.nd rfl (.inl rfl)) pgs_nil)))
      (fun _ _ _ _ _ => pts_nil)
      (fun _ _ _ _ _ => pe_ifExp (pt_cmpR op_eq (pv 3) (pe_ix ix_str (pv 1) (pv 2) (fun _ _ => rfl)) (nomark _)) (pv 3) pe_str)))), ?_⟩
    refine ⟨⟨_, rfl⟩, ev c, rfl, enc c, rfl, fun D nD => lc_it walk_enumz (fun i H' => Same H H' ∧ H' D = some (.lst ((((List.range i).map fun i => if g c i = g d i then g c i else .d).map sgS).map V.str)))
      ⟨same_upd nD, upd_same⟩ (fun _ _ _ _ => trivial) ?_ ?_⟩
    · rintro i v H1 H2 hi ⟨sm, eD⟩ y
      obtain ⟨hi, T', rfl, nT, rfl⟩ := yz hi y
      refine ⟨T', _, rfl, .inl (.inl upd_same), rfl, _, _, rfl, _, _, rfl, rfl, rfl, ?_⟩
      have nTD : D ≠ T' := ne_of_none eD nT
      have sm' : Same H (upd H1 T' (.tup [.int (i : Nat), sv (g c i)])) := sm.trans (same_upd nT)
      have fin : ∀ x : Sg, x = (if g c i = g d i then g c i else .d) → ∃ acc, upd H1 T' (.tup [.int (i : Nat), sv (g c i)]) D = some (.lst acc) ∧ acc.length < sizeLine ∧
          Same H (upd (upd H1 T' (.tup [.int (i : Nat), sv (g c i)])) D (.lst (acc ++ [sv x]))) ∧ (upd (upd H1 T' (.tup [.int (i : Nat), sv (g c i)])) D (.lst (acc ++ [sv x]))) D = some (.lst ((((List.range (i + 1)).map fun i => if g c i = g d i then g c i else .d).map sgS).map V.str)) := fun x hx => by
        refine ⟨_, by rw [upd_ne nTD]; exact eD, ?_, same_set sm' nD, ?_⟩
        · rw [List.length_map, List.length_map, List.length_map, List.length_range]
          exact small1000 (by omega)
        · rw [upd_same, List.range_succ, List.map_append, List.map_append, List.map_append, hx]
          rfl
      refine ⟨sv (g c i), rfl, ev d, rfl, .int (i : Nat), rfl, enc d, i, (g d i).code, rfl, rfl, small (by rw [enc_len]; exact hd), enc_at (by omega), rfl, _, rfl, ifD (fun h => ?_) (fun h => ?_)⟩
      · exact ⟨sv (g c i), rfl, fin (g c i) (by rw [if_pos (sv_eq.mp h)])⟩
      · have z := fin .d (by rw [if_neg fun z => h (sv_eq.mpr z)])
        have e : sv .d = V.str (Str.ofString "-") := (congrArg V.str s_dash).symm
        rw [e] at z
        exact z
    · rintro H1 ⟨sm, eD⟩
      rw [enc_size] at eD
      refine ⟨Str.ofString "", D, (joinF c d).map sgS, rfl, rfl, .inl (.inl (.inl eD)), ?_, ?_⟩
      · rw [sum_one, show (Str.ofString "").length = 0 by decide +kernel, Nat.mul_zero, join_length]
        omega
      · rw [join_sg]
        exact q _ sm
end
end Stc
end

/-! ## W2 -/
section
set_option Elab.async false
set_option linter.all false
set_option maxRecDepth 100000
set_option maxHeartbeats 4000000
namespace Stc
open PySem PySem.Spec PyProof.Rows L2 StR
section
variable {P : Program} {w : World} {K : PySem.W.Frag} {mg : Str → Option Value} {base : Heap}
/-! ### is_change, size_of_change -/
def spIsChange : Sp := fun vs H Q _ => ∃ (a : Addr) (s e : Cub) (n : Nat), vs = [.ref a, .int n] ∧ H a = some (.tup [ev s, ev e]) ∧ s.length = n ∧ e.length = n ∧ n ≤ 4 ∧ IsPt s ∧ IsPt e ∧ s ≠ e ∧ Q (.bl true) H
theorem ok_is_change {k : Nat} (T : Txt K mg) : Ok P w K mg base (k + 3) "is_change" ["thing", "n"] spIsChange := T.d_is_change.ok fun f fd F => by
  obtain ⟨f1, fd1, G1, m1, k1, b1⟩ := ok_is_point (P := P) (w := w) (base := base) (k := k) T
  refine F.ok c_is_change (fun vs H Q E h => ?_) (fun cdv A outer s H vs Q E hr h => ?_)
  · obtain ⟨a, s, e, n, rfl, _⟩ := h
    rfl
  · obtain ⟨a, s, e, n, rfl, ha, ls, le, n4, ps, pe, ne, q⟩ := h
    have hT : SqT K H a [ev s, ev e] := SqT.of ha
    refine ⟨_, pss_cons (ps_if (PW.pt (pw_or (pt_not (pt_val (pe_callB call_isi (by rfl) T.bi.isi PyProof.Rows.boot_isinstance (pa_cons (pv 0) (pa_cons (pe_bltn (v := .ty "tuple") (by rfl) T.bi.tup (by decide +kernel) rfl) pa_nil)))))
          (pw_or1 (pt_cmpR op_ne (pe_callB call_len_seq (by rfl) T.bi.len PySem.boot_len (pa_cons (pv 0) pa_nil)) pe_int (nomark _)))))
        (pss_one (ps_ret pe_bl)) pss_nil)
      (pss_one (ps_ret (pe_and (pe_call G1 hr (by rfl) m1 k1 b1 .nil pass0 (pa_cons (pe_ix ix_tup (pv 0) pe_int (fun _ _ => rfl)) (pa_cons (pv 1) pa_nil)))
        (pe_and (pe_call G1 hr (by rfl) m1 k1 b1 .nil pass0 (pa_cons (pe_ix ix_tup (pv 0) pe_int (fun _ _ => rfl)) (pa_cons (pv 1) pa_nil)))
          (pe_one (pe_cmpR op_ne (pe_ix ix_tup (pv 0) pe_int (fun _ _ => rfl)) (pe_ix ix_tup (pv 0) pe_int (fun _ _ => rfl)) (nomark _))))))), ?_⟩
    refine ⟨.ref a, rfl, _, _, _, _, true, rfl, .ty _, .base (.tup ha), kit_ty (by decide +kernel), true, rfl, iteF ?_⟩
    refine ⟨.ref a, rfl, a, _, rfl, .inr hT, rfl, _, rfl, iteNS rfl ?_⟩
    refine ⟨.ref a, rfl, a, _, 0, ev s, rfl, rfl, hT, atI_nat (j := 0) rfl, .int n, rfl, s, (by rw [ls]; rfl), ps, by omega, true, rfl, iteT ?_⟩
    refine ⟨.ref a, rfl, a, _, 1, ev e, rfl, rfl, hT, atI_nat (j := 1) rfl, .int n, rfl, e, (by rw [le]; rfl), pe, by omega, true, rfl, iteT ?_⟩
    refine ⟨.ref a, rfl, a, _, 0, ev s, rfl, rfl, hT, atI_nat (j := 0) rfl, .ref a, rfl, a, _, 1, ev e, rfl, rfl, hT, atI_nat (j := 1) rfl, rfl, ?_⟩
    rw [decide_eq_false (show ¬ ev s = ev e from fun z => ne (enc_inj (V.str.inj z)))]
    exact q
def spSzc : Sp := fun vs H Q _ => ∃ (a : Addr) (s e : Cub) (n : Nat), vs = [.ref a] ∧ H a = some (.tup [ev s, ev e]) ∧ s.length = n ∧ e.length = n ∧ 1 ≤ n ∧ n ≤ 4 ∧ IsPt s ∧ IsPt e ∧ s ≠ e ∧ Q (.int n) H
theorem ok_size_of_change {k : Nat} (T : Txt K mg) : Ok P w K mg base (k + 4) "size_of_change" ["change"] spSzc := T.d_size_of_change.ok fun f fd F => by
  obtain ⟨f1, fd1, G1, m1, k1, b1⟩ := ok_some_size (P := P) (w := w) (base := base) (k := k + 2) T
  obtain ⟨f2, fd2, G2, m2, k2, b2⟩ := ok_is_change (P := P) (w := w) (base := base) (k := k) T
  refine F.ok c_size_of_change (fun vs H Q E h => ?_) (fun cdv A outer s H vs Q E hr h => ?_)
  · obtain ⟨a, s, e, n, rfl, _⟩ := h
    rfl
  · obtain ⟨a, s, e, n, rfl, ha, ls, le, n1, n4, ps, pe, ne, q⟩ := h
    have hT : SqT K H a [ev s, ev e] := SqT.of ha
    refine ⟨_, pss_cons (ps_if (PW.pt (pw_or (pt_not (pt_val (pe_callB call_isi (by rfl) T.bi.isi PyProof.Rows.boot_isinstance (pa_cons (pv 0) (pa_cons (pe_bltn (v := .ty "tuple") (by rfl) T.bi.tup (by decide +kernel) rfl) pa_nil)))))
          (pw_or1 (pt_cmpR op_ne (pe_callB call_len_seq (by rfl) T.bi.len PySem.boot_len (pa_cons (pv 0) pa_nil)) pe_int (nomark _)))))
        pss_never pss_nil)
      (pss_cons (ps_set (i := 1) c_size_of_change.nd rfl (.inl rfl) (pe_call G1 hr (by rfl) m1 k1 b1 .nil pass0 (pa_cons (pe_ix ix_tup (pv 0) pe_int (fun _ _ => rfl)) pa_nil)))
      (pss_cons (ps_if (PW.pt (pw_or (pt_cmpR op_eq (pv 1) pe_int (nomark _)) (pw_or1 (pt_not (pt_val (pe_call G2 hr (by rfl) m2 k2 b2 .nil pass0 (pa_cons (pv 0) (pa_cons (pv 1) pa_nil)))))))) pss_never pss_nil)
      (pss_one (ps_ret (pv 1))))), ?_⟩
    refine ⟨.ref a, rfl, _, _, _, _, true, rfl, .ty _, .base (.tup ha), kit_ty (by decide +kernel), true, rfl, iteF ?_⟩
    refine ⟨.ref a, rfl, a, _, rfl, .inr hT, rfl, _, rfl, iteNS rfl ?_⟩
    refine ⟨.ref a, rfl, a, _, 0, ev s, rfl, rfl, hT, atI_nat (j := 0) rfl, enc s, rfl, by rw [enc_len]; omega, ?_⟩
    rw [enc_len, ls]
    refine ⟨.int n, rfl, rfl, _, rfl, ifD (fun z => ?_) (fun _ => ?_)⟩
    · have z : (n : Int) = 0 := V.int.inj z
      omega
    · refine ⟨.ref a, rfl, .int n, rfl, a, s, e, n, rfl, ha, ls, le, n4, ps, pe, ne, true, rfl, iteF ?_⟩
      exact ⟨.int n, rfl, q⟩
/-! ### check_cover, check_both -/
def spCheckCover : Sp := fun vs H Q _ => ∃ (b : Addr) (n : Nat) (cov : List Cub), vs = [.ref b, .int n] ∧ Sq1 H b (cov.map ev) ∧ (∀ c, c ∈ cov → c.length = n) ∧ n ≤ 4 ∧ cov.length ≤ 12 ∧ ∀ H', Same H H' → Q .non H'
theorem isi_sq {K : PySem.W.Frag} {H : Hp} {b : Addr} {xs : List V} (h : Sq1 H b xs) : ∃ t, TyX K H (.ref b) t ∧ PySem.W.kitAny K t [.type "list", .type "tuple"] = some true := by
  rcases h with h | h
  · exact ⟨_, .base (.lst h), kitAny_cons (b := true) (kit_ty (by decide +kernel)) (fun z => nomatch z) (fun _ => rfl)⟩
  · exact ⟨_, .base (.tup h), kitAny_cons (b := false) (kit_ty (by decide +kernel)) (fun _ => kitAny_cons (b := true) (kit_ty (by decide +kernel)) (fun z => nomatch z) (fun _ => rfl)) (fun z => nomatch z)⟩
theorem ok_check_cover {k : Nat} (T : Txt K mg) : Ok P w K mg base (k + 3) "check_cover" ["cover", "n"] spCheckCover := T.d_check_cover.ok fun f fd F => by
  obtain ⟨f1, fd1, G1, m1, k1, b1⟩ := ok_is_cube (P := P) (w := w) (base := base) (k := k) T
  obtain ⟨t, mM⟩ := T.mp
  refine F.ok c_check_cover (fun vs H Q E h => ?_) (fun cdv A outer s H vs Q E hr h => ?_)
  · obtain ⟨b, n, cov, rfl, _⟩ := h
    rfl
  · obtain ⟨b, n, cov, rfl, hb, hc, n4, hl, q⟩ := h
    refine ⟨_, pss_cons (ps_if (PW.pt (pw_or (pt_not (pt_val (pe_callB call_isiT (by rfl) T.bi.isi PyProof.Rows.boot_isinstance (pa_cons (pv 0) (pa_cons (pe_tup (pa_cons (pe_bltn (v := .ty "list") (by rfl) T.bi.lst (by decide +kernel) rfl) (pa_cons (pe_bltn (v := .ty "tuple") (by rfl) T.bi.tup (by decide +kernel) rfl) pa_nil))) pa_nil)))))
          (pw_or1 (pt_cmpR op_gt (pe_callB call_len_seq (by rfl) T.bi.len PySem.boot_len (pa_cons (pv 0) pa_nil)) (pe_glob (v := .int 40) (by rfl) mM ⟨_, rfl⟩) (nomark _)))))
        pss_never pss_nil)
      (pss_one (ps_for PassesOwn.never rfl (pi_enumS (by rfl) T.bi.enu (pa_cons (pv 0) pa_nil))
        (pg_tup rfl (pgs_cons (pg_name (i := 2) c_check_cover.nd rfl (.inl rfl)) (pgs_cons (pg_name (i := 3) c_check_cover.nd rfl (.inl rfl)) pgs_nil)))
        (pss_one (ps_if (pt_not (pt_val (pe_call G1 hr (by rfl) m1 k1 b1 .nil pass0 (pa_cons (pv 3) (pa_cons (pv 1) pa_nil))))) pss_never pss_nil)))), ?_⟩
    refine ⟨.ref b, rfl, by show 2 ≤ sizeLine; decide, fun p np => ?_⟩
    have s1 : Same H (upd H p (.tup [.ty "list", .ty "tuple"])) := same_upd np
    obtain ⟨t, ty, kt⟩ := isi_sq (K := K) (hb.same s1)
    generalize hH : upd H p (.tup [.ty "list", .ty "tuple"]) = H0 at s1 ty
    refine ⟨_, p, _, t, _, true, rfl, (by rw [← hH]; exact upd_same), .cons (.ty _) (.cons (.ty _) .nil), ty, kt, true, rfl, iteF ?_⟩
    refine ⟨.ref b, rfl, b, _, rfl, (hb.same s1).seq, _, _, rfl, rfl, _, rfl, ifD (fun z => ?_) (fun _ => ?_)⟩
    · have z : (40 : Int) < ((cov.map ev).length : Nat) := z
      rw [List.length_map] at z
      omega
    refine ⟨.ref b, rfl, b, _, rfl, hb.same s1, fun J wk => for_it wk (fun i σ H' => (∃ x y, σ = [some (.ref b), some (.int n), x, y]) ∧ Same H0 H') ⟨⟨none, none, rfl⟩, Same.refl _⟩ (fun i σ H' _ h => (hb.same s1).keep h.2) ?_ ?_⟩
    · rintro i v σ H1 H2 hi ⟨⟨x, y, rfl⟩, sm⟩ y
      obtain ⟨hi, T', rfl, nT, rfl⟩ := ycov hi y
      refine ⟨T', _, rfl, .inl (.inl upd_same), rfl, _, _, rfl, _, _, rfl, rfl, ?_⟩
      have sm' : Same H0 (upd H1 T' (.tup [.int (i : Nat), ev (cu cov i)])) := sm.trans (same_upd nT)
      have hn := hc _ (cu_mem hi)
      refine ⟨ev (cu cov i), rfl, .int n, rfl, cu cov i, (by rw [hn]; rfl), by omega, true, rfl, iteF ?_⟩
      exact ⟨⟨_, _, rfl⟩, sm'⟩
    · rintro σ H1 ⟨_, sm⟩
      exact q _ (s1.trans sm)
def spCheckBoth : Sp := fun vs H Q _ => ∃ (a b : Addr) (n : Nat) (s e : Cub) (cov : List Cub), vs = [.ref a, .ref b] ∧ Arg H a b n s e cov ∧ ∀ H', Same H H' → Q .non H'
theorem ok_check_both {k : Nat} (T : Txt K mg) : Ok P w K mg base (k + 5) "check_both" ["change", "cover"] spCheckBoth := T.d_check_both.ok fun f fd F => by
  obtain ⟨f1, fd1, G1, m1, k1, b1⟩ := ok_check_cover (P := P) (w := w) (base := base) (k := k + 1) T
  obtain ⟨f2, fd2, G2, m2, k2, b2⟩ := ok_size_of_change (P := P) (w := w) (base := base) (k := k) T
  refine F.ok c_check_both (fun vs H Q E h => ?_) (fun cdv A outer s H vs Q E hr h => ?_)
  · obtain ⟨a, b, n, s, e, cov, rfl, _⟩ := h
    rfl
  · obtain ⟨a, b, n, s, e, cov, rfl, R, q⟩ := h
    refine ⟨_, pss_one (ps_expr (pe_call G1 hr (by rfl) m1 k1 b1 .nil pass0 (pa_cons (pv 1) (pa_cons (pe_call G2 hr (by rfl) m2 k2 b2 .nil pass0 (pa_cons (pv 0) pa_nil)) pa_nil)))), ?_⟩
    exact ⟨.ref b, rfl, .ref a, rfl, a, s, e, n, rfl, R.ch, R.fits.ls, R.fits.le, R.n1, R.n4, R.fits.ps, R.fits.pe, R.ne, b, n, cov, rfl, R.cv, R.fits.lc, R.n4, R.cl, q⟩
/-! ### reaches -/
def spReaches : Sp := fun vs H Q _ => ∃ (b : Addr) (cov : List Cub) (p : Cub), vs = [.ref b, ev p] ∧ Sq1 H b (cov.map ev) ∧ (∀ c, c ∈ cov → c.length ≤ p.length) ∧ p.length ≤ 1000 ∧ cov.length ≤ 12 ∧ ∀ H', Same H H' → Q (.bl (decide (Reach cov p))) H'
theorem any_reach (cov : List Cub) (p : Cub) : (cov.map fun c => decide (Inside c p)).any id = decide (Reach cov p) := by
  by_cases h : Reach cov p
  · rw [decide_eq_true h]
    obtain ⟨c, hc, i⟩ := h
    exact List.any_eq_true.mpr ⟨true, List.mem_map.mpr ⟨c, hc, decide_eq_true i⟩, rfl⟩
  · rw [decide_eq_false h]
    refine List.any_eq_false.mpr fun b hb q => ?_
    obtain ⟨c, hc, rfl⟩ := List.mem_map.mp hb
    exact h ⟨c, hc, of_decide_eq_true q⟩
theorem map_take_succ {α β : Type} (f : α → β) {l : List α} {i : Nat} {x : α} (h : l[i]? = some x) : (l.take (i + 1)).map f = (l.take i).map f ++ [f x] := by
  rw [List.take_add_one, h, List.map_append]
  rfl
theorem cu_get {cov : List Cub} {i : Nat} (h : i < cov.length) : cov[i]? = some (cu cov i) := by
  unfold cu
  rw [List.getD_eq_getElem?_getD, List.getElem?_eq_getElem h]
  rfl
theorem ok_reaches {k : Nat} (T : Txt K mg) : Ok P w K mg base (k + 2) "reaches" ["cover", "point"] spReaches := T.d_reaches.ok fun f fd F => by
  obtain ⟨f1, fd1, G1, m1, k1, b1⟩ := ok_inside (P := P) (w := w) (base := base) (k := k) T
  refine F.ok c_reaches (fun vs H Q E h => ?_) (fun cdv A outer s H vs Q E hr h => ?_)
  · obtain ⟨b, cov, p, rfl, _⟩ := h
    rfl
  · obtain ⟨b, cov, p, rfl, hb, hc, hp, hl, q⟩ := h
    refine ⟨_, pss_one (ps_ret (pe_callB (cr_any rfl) (by rfl) T.bi.any (by decide +kernel) (pa_cons
      (pe_lc (own := [("cube", 2)]) (g := gName 2) (tt := tYes) rfl c_reaches.nd (pi_seqS (pv 0)) (blkOk_by (N := ["cover", "point", "cube"]) (sc := defScope s_reaches) (by decide +kernel))
        (fun _ _ _ _ _ => pg_name (i := 2) c_reaches.nd rfl (.inl rfl)) (fun _ _ _ _ _ => pts_nil)
        (fun _ _ _ _ _ => pe_call G1 hr (by rfl) m1 k1 b1 .nil pass0 (pa_cons (pv 2) (pa_cons (pv 1) pa_nil)))) pa_nil))), ?_⟩
    refine ⟨.ref b, rfl, b, _, rfl, hb, fun J wk => fun D nD => lc_it wk (fun i H' => Same H H' ∧ H' D = some (.lst (((cov.take i).map fun c => decide (Inside c p)).map V.bl))) ⟨same_upd nD, upd_same⟩ (fun _ _ _ h => hb.keep h.1) ?_ ?_⟩
    · rintro i v H1 H2 hi ⟨sm, eD⟩ ⟨rfl, hx⟩
      rw [List.length_map] at hi
      rw [cov_at hi] at hx
      have hx : v = ev (cu cov i) := (Option.some.inj hx).symm
      subst hx
      refine ⟨rfl, ?_⟩
      refine ⟨ev (cu cov i), rfl, ev p, rfl, cu cov i, p, rfl, hc _ (cu_mem hi), hp, fun H3 sm3 => ?_⟩
      refine ⟨_, sm3 _ _ eD, ?_, same_set (sm.trans sm3) nD, ?_⟩
      · rw [List.length_map, List.length_map, List.length_take]
        exact small1000 (by omega)
      · rw [upd_same, map_take_succ _ (cu_get hi), List.map_append]
        rfl
    · rintro H1 ⟨sm, eD⟩
      rw [List.length_map, List.take_of_length_le (Nat.le_refl _)] at eD
      refine ⟨D, _, rfl, .inl (.inl eD), ?_⟩
      rw [any_reach]
      exact q _ sm
end
end Stc
end

/-! ## W3 -/
section
set_option Elab.async false
set_option linter.all false
set_option maxRecDepth 100000
set_option maxHeartbeats 4000000
namespace Stc
open PySem PySem.Spec PyProof.Rows L2 StR
theorem Ws.setL {H : Hp} {D : Addr} {o : HO} {ys xs : List V} {ws : List Wr} (h : Ws H xs ws) (e : H D = some (.lst ys)) : Ws (upd H D o) xs ws := ⟨h.len, fun i x hx => by
  obtain ⟨t, e1, e2⟩ := h.get i x hx
  refine ⟨t, e1, ?_⟩
  rw [upd_ne (ne_of e2 e (by intro z; cases z))]
  exact e2⟩
theorem Ws.push {H : Hp} {D : Addr} {xs : List V} {ws : List Wr} {t : Addr} {a b : Nat} (h : Ws H xs ws) (e : H D = some (.lst xs)) (ht : H t = some (.tup [.int (a : Nat), .int (b : Nat)])) : Ws (upd H D (.lst (xs ++ [.ref t]))) (xs ++ [.ref t]) (ws ++ [(a, b)]) :=
  (h.snoc ht).setL e
/-- the wires of product j at the first k inputs -/
def wiresTo (s e c : Cub) (j k : Nat) : List Wr := ((List.range k).filter fun i => Wi s e c i).map fun i => (j, i)
theorem wiresTo_succ (s e c : Cub) (j k : Nat) : wiresTo s e c j (k + 1) = wiresTo s e c j k ++ (if Wi s e c k = true then [(j, k)] else []) := by
  unfold wiresTo
  rw [range_succ_filter, List.map_append]
  by_cases h : Wi s e c k = true
  · rw [if_pos h, if_pos h]; rfl
  · rw [if_neg h, if_neg h]; rfl
theorem wiresTo_len (s e c : Cub) (j k : Nat) : (wiresTo s e c j k).length ≤ k := by
  unfold wiresTo
  rw [List.length_map]
  exact filter_len _ _
def wiresFTo (s e : Cub) (cov : List Cub) (m : Nat) : List Wr := (List.range m).flatMap fun j => wiresOf s e (cu cov j) j
theorem wiresFTo_succ (s e : Cub) (cov : List Cub) (m : Nat) : wiresFTo s e cov (m + 1) = wiresFTo s e cov m ++ wiresTo s e (cu cov m) m (cu cov m).length := by
  unfold wiresFTo
  rw [List.range_succ, List.flatMap_append, List.flatMap_singleton]
  rfl
theorem wiresFTo_len {n : Nat} {s e : Cub} {cov : List Cub} (h : ∀ c, c ∈ cov → c.length ≤ n) : ∀ m, m ≤ cov.length → (wiresFTo s e cov m).length ≤ m * n
  | 0, _ => by simp [wiresFTo]
  | m + 1, hm => by
    rw [wiresFTo_succ, List.length_append, Nat.succ_mul]
    have a := wiresFTo_len (s := s) (e := e) h m (by omega)
    have b := wiresTo_len s e (cu cov m) m (cu cov m).length
    have c := h _ (cu_mem (show m < cov.length by omega))
    omega
section
variable {P : Program} {w : World} {K : PySem.W.Frag} {mg : Str → Option Value} {base : Heap}
/-! ### list_wires -/
def spWires : Sp := fun vs H Q _ => ∃ (a b : Addr) (n : Nat) (s e : Cub) (cov : List Cub), vs = [.ref a, .ref b] ∧ Arg H a b n s e cov ∧ ∀ H' p, Same H H' → H p = none → WL H' p (wiresF s e cov) → Q (.ref p) H'
theorem ok_list_wires {k : Nat} (T : Txt K mg) : Ok P w K mg base (k + 1) "list_wires" ["change", "cover"] spWires := T.d_list_wires.ok fun f fd F => by
  refine F.ok c_list_wires (fun vs H Q E h => ?_) (fun cdv A outer s H vs Q E hr h => ?_)
  · obtain ⟨a, b, n, s, e, cov, rfl, _⟩ := h
    rfl
  · obtain ⟨a, b, n, s, e, cov, rfl, R, q⟩ := h
    have nd := c_list_wires.nd
    refine ⟨_, pss_cons (ps_asg (pv 0) (pg_tup rfl (pgs_cons (pg_name (i := 2) nd rfl (.inr rfl)) (pgs_cons (pg_name (i := 3) nd rfl (.inr rfl)) pgs_nil))))
      (pss_one (ps_ret (pe_lc2 (own := [("j", 4), ("cube", 5), ("i", 6), ("sign", 7)]) (vs1 := [6, 7]) (g := gTup K 2 (gCons (gName 4) (gCons (gName 5) gNil))) (tt := tYes) (g1 := gTup K 2 (gCons (gName 6) (gCons (gName 7) gNil)))
        rfl nd (pi_enumS (by rfl) T.bi.enu (pa_cons (pv 1) pa_nil)) (blkOk_by (N := ["change", "cover", "start", "end", "j", "cube", "i", "sign"]) (sc := defScope s_list_wires) (by decide +kernel)) (by decide)
        (fun _ _ _ _ _ => pg_tup rfl (pgs_cons (pg_name (i := 4) nd rfl (.inl rfl)) (pgs_cons (pg_name (i := 5) nd rfl (.inl rfl)) pgs_nil)))
        (fun _ _ _ _ _ => pts_nil)
        (fun _ _ _ _ _ => pi_enumz (by rfl) T.bi.enu (pa_cons (pv 5) pa_nil))
        (fun _ _ _ _ _ => pg_tup rfl (pgs_cons (pg_name (i := 6) nd rfl (.inl rfl)) (pgs_cons (pg_name (i := 7) nd rfl (.inl rfl)) pgs_nil)))
        (fun _ _ _ _ _ => pts_one (PW.pt (pw_and (pt_cmpR op_ne (pv 7) pe_str (nomark _)) (pw_and1 (pt_cmpR op_ne (pe_ix ix_str (pv 2) (pv 6) (fun _ _ => rfl)) (pe_ix ix_str (pv 3) (pv 6) (fun _ _ => rfl)) (nomark _))))))
        (fun _ _ _ _ _ => pe_tup (pa_cons (pv 4) (pa_cons (pv 6) pa_nil)))))), ?_⟩
    refine ⟨.ref a, rfl, a, _, rfl, SqT.of R.ch, rfl, ev s, _, rfl, ev e, _, rfl, rfl, ?_⟩
    refine ⟨.ref b, rfl, b, _, rfl, R.cv, fun J wk => fun D nD => lc2_out wk [some (.ref a), some (.ref b), some (ev s), some (ev e), none, none, none, none] rfl (fun i H' => Same H H' ∧ ∃ xs, H' D = some (.lst xs) ∧ Ws H' xs (wiresFTo s e cov i))
      ⟨same_upd nD, [], upd_same, Ws.nil⟩ (fun _ _ _ h => R.cv.keep h.1) ?_ ?_⟩
    · rintro i v H1 H2 hi ⟨sm, xs, eD, hx⟩ y
      obtain ⟨hi, T', rfl, nT, rfl⟩ := ycov hi y
      refine ⟨T', _, rfl, .inl (.inl upd_same), rfl, _, _, rfl, _, _, rfl, rfl, rfl, ?_⟩
      have smT : Same H1 (upd H1 T' (.tup [.int (i : Nat), ev (cu cov i)])) := same_upd nT
      have hc := R.fits.lc _ (cu_mem hi)
      have ls := R.fits.ls
      have le := R.fits.le
      have n4 := R.n4
      have cl := R.cl
      refine ⟨ev (cu cov i), rfl, enc (cu cov i), rfl, lc2_in walk_enumz [some (.ref a), some (.ref b), some (ev s), some (ev e), some (.int (i : Nat)), some (ev (cu cov i)), none, none] rfl (fun j H' => Same H H' ∧ ∃ xs, H' D = some (.lst xs) ∧ Ws H' xs (wiresFTo s e cov i ++ wiresTo s e (cu cov i) i j))
        ⟨sm.trans smT, xs, smT _ _ eD, ?_⟩ (fun _ _ _ _ => trivial) ?_ ?_⟩
      · show Ws _ xs (wiresFTo s e cov i ++ [])
        rw [List.append_nil]
        exact hx.same smT
      · rintro j v H3 H4 hj ⟨sm3, xs3, eD3, hx3⟩ y
        obtain ⟨hj, T2, rfl, nT2, rfl⟩ := yz hj y
        refine ⟨T2, _, rfl, .inl (.inl upd_same), rfl, _, _, rfl, _, _, rfl, rfl, rfl, ?_⟩
        have smT2 : Same H3 (upd H3 T2 (.tup [.int (j : Nat), sv (g (cu cov i) j)])) := same_upd nT2
        have sm4 := sm3.trans smT2
        have eD4 := smT2 _ _ eD3
        have hx4 := hx3.same smT2
        have no : Wi s e (cu cov i) j = false → Same H (upd H3 T2 (.tup [.int (j : Nat), sv (g (cu cov i) j)])) ∧ ∃ xs, upd H3 T2 (.tup [.int (j : Nat), sv (g (cu cov i) j)]) D = some (.lst xs) ∧
            Ws (upd H3 T2 (.tup [.int (j : Nat), sv (g (cu cov i) j)])) xs (wiresFTo s e cov i ++ wiresTo s e (cu cov i) i (j + 1)) := fun z => by
          refine ⟨sm4, xs3, eD4, ?_⟩
          rw [wiresTo_succ, if_neg (by rw [z]; decide), List.append_nil]
          exact hx4
        refine ⟨sv (g (cu cov i) j), rfl, rfl, _, rfl, ifN (fun h1 => ?_) (fun h1 => iteF ?_)⟩
        · refine ⟨ev s, rfl, .int (j : Nat), rfl, enc s, j, (g s j).code, rfl, rfl, small (by rw [enc_len]; omega), enc_at (by omega), ev e, rfl, .int (j : Nat), rfl, enc e, j, (g e j).code, rfl, rfl, small (by rw [enc_len]; omega), enc_at (by omega), rfl, _, rfl, ifN (fun h2 => ?_) (fun h2 => ?_)⟩
          · refine ⟨.int (i : Nat), rfl, .int (j : Nat), rfl, by show 2 ≤ sizeLine; decide, fun p np => ?_⟩
            have smp : Same (upd H3 T2 (.tup [.int (j : Nat), sv (g (cu cov i) j)])) (upd (upd H3 T2 (.tup [.int (j : Nat), sv (g (cu cov i) j)])) p (.tup [.int (i : Nat), .int (j : Nat)])) := same_upd np
            have eDp := smp _ _ eD4
            refine ⟨xs3, eDp, ?_, same_set (sm4.trans smp) nD, _, upd_same, ?_⟩
            · rw [hx3.len, List.length_append]
              have l1 := wiresFTo_len (s := s) (e := e) (fun c hc => Nat.le_of_eq (R.fits.lc c hc)) i (by omega)
              have l2 := wiresTo_len s e (cu cov i) i j
              have l3 : i * n ≤ 12 * 4 := Nat.mul_le_mul (by omega) n4
              exact small1000 (by omega)
            · have wi : Wi s e (cu cov i) j = true := by
                unfold Wi
                rw [decide_eq_true (show g (cu cov i) j ≠ .d from fun z => h1 (by rw [z]; exact (congrArg V.str s_dash).symm)), decide_eq_true (show g s j ≠ g e j from fun z => h2 (sv_eq.mpr z))]
                rfl
              rw [wiresTo_succ, if_pos wi, ← List.append_assoc]
              exact (hx4.same smp).push eDp upd_same
          · refine no ?_
            unfold Wi
            rw [decide_eq_false (show ¬ g s j ≠ g e j from fun z => z (sv_eq.mp h2)), Bool.and_false]
        · refine no ?_
          unfold Wi
          rw [decide_eq_false (show ¬ g (cu cov i) j ≠ .d from fun z => z (sgS_inj (V.str.inj (h1.trans (congrArg V.str s_dash))))), Bool.false_and]
      · rintro H3 ⟨sm3, xs3, eD3, hx3⟩
        rw [enc_size] at hx3
        refine ⟨sm3, xs3, eD3, ?_⟩
        rw [wiresFTo_succ]
        exact hx3
    · rintro H1 ⟨sm, xs, eD, hx⟩
      rw [List.length_map] at hx
      exact q _ _ sm nD ⟨xs, eD, hx⟩
end
end Stc
end

/-! ## W4 -/
section
set_option Elab.async false
set_option linter.all false
set_option maxRecDepth 100000
set_option maxHeartbeats 4000000
namespace Stc
open PySem PySem.Spec PyProof.Rows L2 StR
section
variable {P : Program} {w : World} {K : PySem.W.Frag} {mg : Str → Option Value} {base : Heap}
/-! ### product_word -/
def spWord : Sp := fun vs H Q _ => ∃ (a : Addr) (s e c : Cub), vs = [.ref a, ev c] ∧ H a = some (.tup [ev s, ev e]) ∧ Fit s e c ∧ c.length ≤ 4 ∧ ∀ H', Same H H' → Q (.str (wS (pw s e c))) H'
theorem ok_product_word {k : Nat} (T : Txt K mg) : Ok P w K mg base (k + 1) "product_word" ["change", "cube"] spWord := T.d_product_word.ok fun f fd F => by
  refine F.ok c_product_word (fun vs H Q E h => ?_) (fun cdv A outer s H vs Q E hr h => ?_)
  · obtain ⟨a, s, e, c, rfl, _⟩ := h
    rfl
  · obtain ⟨a, s, e, c, rfl, ha, R, l4, q⟩ := h
    have nd := c_product_word.nd
    have ls := R.ls
    have le := R.le
    refine ⟨_, pss_cons (ps_asg (pv 0) (pg_tup rfl (pgs_cons (pg_name (i := 2) nd rfl (.inl rfl)) (pgs_cons (pg_name (i := 3) nd rfl (.inl rfl)) pgs_nil))))
      (pss_cons (ps_asg (pe_tup (pa_cons pe_bl (pa_cons pe_bl pa_nil))) (pg_tup rfl (pgs_cons (pg_name (i := 4) nd rfl (.inl rfl)) (pgs_cons (pg_name (i := 5) nd rfl (.inl rfl)) pgs_nil))))
      (pss_cons (ps_for PassesOwn.never rfl (pi_enumz (by rfl) T.bi.enu (pa_cons (pv 1) pa_nil))
        (pg_tup rfl (pgs_cons (pg_name (i := 6) nd rfl (.inl rfl)) (pgs_cons (pg_name (i := 7) nd rfl (.inl rfl)) pgs_nil)))
        (pss_cons (ps_if (pt_cmpR op_eq (pv 7) pe_str (nomark _)) (pss_one ps_continue) pss_nil)
        (pss_one (ps_if (pt_cmpR op_eq (pe_ix ix_str (pv 2) (pv 6) (fun _ _ => rfl)) (pe_ix ix_str (pv 3) (pv 6) (fun _ _ => rfl)) (nomark _))
          (pss_one (ps_if (pt_cmpR op_ne (pv 7) (pe_ix ix_str (pv 2) (pv 6) (fun _ _ => rfl)) (nomark _)) (pss_one (ps_ret pe_str)) pss_nil))
          (pss_one (ps_if (pt_cmpR op_eq (pv 7) (pe_ix ix_str (pv 3) (pv 6) (fun _ _ => rfl)) (nomark _))
            (pss_one (ps_set (i := 4) nd rfl (.inl rfl) pe_bl)) (pss_one (ps_set (i := 5) nd rfl (.inl rfl) pe_bl))))))))
      (pss_cons (ps_if (pt_val (pv 4)) (pss_one (ps_ret (pe_ifExp (pt_val (pv 5)) pe_str pe_str))) pss_nil)
      (pss_one (ps_ret (pe_ifExp (pt_val (pv 5)) pe_str pe_str)))))), ?_⟩
    refine ⟨.ref a, rfl, a, _, rfl, SqT.of ha, rfl, ev s, _, rfl, ev e, _, rfl, rfl, ?_⟩
    refine ⟨by show 2 ≤ sizeLine; decide, fun p0 np0 => ?_⟩
    refine ⟨p0, _, rfl, .inl (.inl upd_same), rfl, _, _, rfl, _, _, rfl, rfl, ?_⟩
    have s0 : Same H (upd H p0 (.tup [.bl false, .bl false])) := same_upd np0
    refine ⟨ev c, rfl, enc c, rfl, for_it walk_enumz (fun i σ H' => (∃ x y, σ = [some (.ref a), some (ev c), some (ev s), some (ev e), some (.bl (decide (Ex (Ris s e c) i))), some (.bl (decide (Ex (Fal s e c) i))), x, y]) ∧ Same H H' ∧ ¬ Ex (Conf s e c) i)
      ⟨⟨none, none, ?_⟩, s0, ex_zero⟩ (fun _ _ _ _ _ => trivial) ?_ ?_⟩
    · rw [decide_eq_false (ex_zero (P := Ris s e c)), decide_eq_false (ex_zero (P := Fal s e c))]
      rfl
    · rintro i v σ H1 H2 hi ⟨⟨x, y, rfl⟩, sm, nc⟩ y
      obtain ⟨hi, T', rfl, nT, rfl⟩ := yz hi y
      refine ⟨T', _, rfl, .inl (.inl upd_same), rfl, _, _, rfl, _, _, rfl, rfl, ?_⟩
      have sm' : Same H (upd H1 T' (.tup [.int (i : Nat), sv (g c i)])) := sm.trans (same_upd nT)
      have rs : ∀ {Z : Nat → Prop} [DecidablePred Z], ¬ Z i → decide (Ex Z (i + 1)) = decide (Ex Z i) := fun {Z} _ h => by
        by_cases z : Ex Z i
        · rw [decide_eq_true z, decide_eq_true (ex_succ.mpr (.inl z))]
        · rw [decide_eq_false z, decide_eq_false fun y => (ex_succ.mp y).elim z h]
      refine ⟨sv (g c i), rfl, rfl, _, rfl, ifD (fun h1 => ?_) (fun h1 => ?_)⟩
      · have hd : g c i = .d := sgS_inj (V.str.inj (h1.trans (congrArg V.str s_dash)))
        refine ⟨⟨some (.int (i : Nat)), some (sv (g c i)), ?_⟩, sm', fun z => (ex_succ.mp z).elim nc fun z => z.1 hd⟩
        rw [rs (Z := Ris s e c) (fun z => z.1 hd), rs (Z := Fal s e c) (fun z => z.1 hd)]
        rfl
      · have hd : g c i ≠ .d := fun z => h1 (by rw [z]; exact (congrArg V.str s_dash).symm)
        refine ⟨ev s, rfl, .int (i : Nat), rfl, enc s, i, (g s i).code, rfl, rfl, small (by rw [enc_len]; omega), enc_at (by omega), ev e, rfl, .int (i : Nat), rfl, enc e, i, (g e i).code, rfl, rfl, small (by rw [enc_len]; omega), enc_at (by omega), rfl, _, rfl, ifD (fun h2 => ?_) (fun h2 => ?_)⟩
        · have h2 := sv_eq.mp h2
          refine ⟨sv (g c i), rfl, ev s, rfl, .int (i : Nat), rfl, enc s, i, (g s i).code, rfl, rfl, small (by rw [enc_len]; omega), enc_at (by omega), rfl, _, rfl, ifN (fun h3 => ?_) (fun h3 => ?_)⟩
          · have h3 : g c i ≠ g s i := fun z => h3 (sv_eq.mpr z)
            have q' := q _ sm'
            rw [pw0.mpr ⟨i, hi, hd, h2, h3⟩] at q'
            exact q'
          · have h3 := sv_eq.mp h3
            refine ⟨⟨some (.int (i : Nat)), some (sv (g c i)), ?_⟩, sm', fun z => (ex_succ.mp z).elim nc fun z => z.2.2 h3⟩
            rw [rs (Z := Ris s e c) (fun z => z.2.1 h2), rs (Z := Fal s e c) (fun z => z.2.1 h2)]
            rfl
        · have h2 : g s i ≠ g e i := fun z => h2 (sv_eq.mpr z)
          have nc' : ¬ Ex (Conf s e c) (i + 1) := fun z => (ex_succ.mp z).elim nc fun z => h2 z.2.1
          refine ⟨sv (g c i), rfl, ev e, rfl, .int (i : Nat), rfl, enc e, i, (g e i).code, rfl, rfl, small (by rw [enc_len]; omega), enc_at (by omega), rfl, _, rfl, ifD (fun h3 => ?_) (fun h3 => ?_)⟩
          · have h3 := sv_eq.mp h3
            refine ⟨⟨some (.int (i : Nat)), some (sv (g c i)), ?_⟩, sm', nc'⟩
            rw [decide_eq_true ((ex_succ (P := Ris s e c)).mpr (.inr ⟨hd, h2, h3⟩)), rs (Z := Fal s e c) (fun z => z.2.2 h3)]
            rfl
          · have h3 : g c i ≠ g e i := fun z => h3 (sv_eq.mpr z)
            refine ⟨⟨some (.int (i : Nat)), some (sv (g c i)), ?_⟩, sm', nc'⟩
            rw [decide_eq_true ((ex_succ (P := Fal s e c)).mpr (.inr ⟨hd, h2, h3⟩)), rs (Z := Ris s e c) (fun z => h3 z.2.2)]
            rfl
    · rintro σ H1 ⟨⟨x, y, rfl⟩, sm, nc⟩
      rw [enc_size] at nc ⊢
      have q' := q _ sm
      have e1 : pw s e c = wOf (decide (Ex (Ris s e c) c.length)) (decide (Ex (Fal s e c) c.length)) := by
        unfold pw
        rw [if_neg nc]
      rw [e1] at q'
      refine ⟨_, rfl, _, rfl, ifB (fun h1 => ?_) (fun h1 => ?_)⟩
      · refine ⟨_, rfl, _, rfl, ifB (fun h2 => ?_) (fun h2 => ?_)⟩
        · rw [h1, h2] at q'; exact q'
        · rw [h1, h2] at q'; exact q'
      · refine ⟨_, rfl, _, rfl, ifB (fun h2 => ?_) (fun h2 => ?_)⟩
        · rw [h1, h2] at q'; exact q'
        · rw [h1, h2] at q'; exact q'
/-! ### product_words, longest -/
def spWords : Sp := fun vs H Q _ => ∃ (a b : Addr) (n : Nat) (s e : Cub) (cov : List Cub), vs = [.ref a, .ref b] ∧ Arg H a b n s e cov ∧ ∀ H' p, Same H H' → H p = none → H' p = some (.lst ((cov.map (pw s e)).map fun y => V.str (wS y))) → Q (.ref p) H'
theorem ok_product_words {k : Nat} (T : Txt K mg) : Ok P w K mg base (k + 6) "product_words" ["change", "cover"] spWords := T.d_product_words.ok fun f fd F => by
  obtain ⟨f1, fd1, G1, m1, k1, b1⟩ := ok_check_both (P := P) (w := w) (base := base) (k := k) T
  obtain ⟨f2, fd2, G2, m2, k2, b2⟩ := ok_product_word (P := P) (w := w) (base := base) (k := k + 4) T
  refine F.ok c_product_words (fun vs H Q E h => ?_) (fun cdv A outer s H vs Q E hr h => ?_)
  · obtain ⟨a, b, n, s, e, cov, rfl, _⟩ := h
    rfl
  · obtain ⟨a, b, n, s, e, cov, rfl, R, q⟩ := h
    refine ⟨_, pss_cons (ps_expr (pe_call G1 hr (by rfl) m1 k1 b1 .nil pass0 (pa_cons (pv 0) (pa_cons (pv 1) pa_nil))))
      (pss_one (ps_ret (pe_lc (own := [("cube", 2)]) (g := gName 2) (tt := tYes) rfl c_product_words.nd (pi_seqS (pv 1)) (blkOk_by (N := ["change", "cover", "cube"]) (sc := defScope s_product_words) (by decide +kernel))
        (fun _ _ _ _ _ => pg_name (i := 2) c_product_words.nd rfl (.inl rfl)) (fun _ _ _ _ _ => pts_nil)
        (fun _ _ _ _ _ => pe_call G2 hr (by rfl) m2 k2 b2 .nil pass0 (pa_cons (pv 0) (pa_cons (pv 2) pa_nil)))))), ?_⟩
    refine ⟨.ref a, rfl, .ref b, rfl, a, b, n, s, e, cov, rfl, R, fun H0 s0 => ?_⟩
    have R0 := R.same s0
    refine ⟨.ref b, rfl, b, _, rfl, R0.cv, fun J wk => fun D nD => lc_it wk (fun i H' => Same H0 H' ∧ H' D = some (.lst (((cov.take i).map (pw s e)).map fun y => V.str (wS y)))) ⟨same_upd nD, upd_same⟩ (fun _ _ _ h => R0.cv.keep h.1) ?_ ?_⟩
    · rintro i v H1 H2 hi ⟨sm, eD⟩ ⟨rfl, hx⟩
      rw [List.length_map] at hi
      rw [cov_at hi] at hx
      have hx : v = ev (cu cov i) := (Option.some.inj hx).symm
      subst hx
      have hc := R.fits.lc _ (cu_mem hi)
      have n4 := R.n4
      have cl := R.cl
      refine ⟨rfl, ?_⟩
      refine ⟨.ref a, rfl, ev (cu cov i), rfl, a, s, e, cu cov i, rfl, (R0.same sm).ch, R.fits.fitj hi, by omega, fun H3 sm3 => ?_⟩
      refine ⟨_, sm3 _ _ eD, ?_, same_set (sm.trans sm3) nD, ?_⟩
      · rw [List.length_map, List.length_map, List.length_take]
        exact small1000 (by omega)
      · rw [upd_same, map_take_succ _ (cu_get hi), List.map_append]
        rfl
    · rintro H1 ⟨sm, eD⟩
      rw [List.length_map, List.take_of_length_le (Nat.le_refl _)] at eD
      exact q _ _ (s0.trans sm) (s0.free nD) eD
def spLongest : Sp := fun vs H Q _ => ∃ (a b : Addr) (n : Nat) (s e : Cub) (cov : List Cub), vs = [.ref a, .ref b] ∧ Arg H a b n s e cov ∧ ∀ H' (z : Str), Same H H' → z.length = lenW (cov.map (pw s e)) → Q (.str z) H'
theorem len_app (x y : Str) : (x ++ y : Str).length = x.length + y.length := by
  show (x.cps ++ y.cps).size = _
  rw [Array.size_append]
  rfl
theorem ok_longest {k : Nat} (T : Txt K mg) : Ok P w K mg base (k + 7) "longest" ["change", "cover"] spLongest := T.d_longest.ok fun f fd F => by
  obtain ⟨f1, fd1, G1, m1, k1, b1⟩ := ok_product_words (P := P) (w := w) (base := base) (k := k) T
  refine F.ok c_longest (fun vs H Q E h => ?_) (fun cdv A outer s H vs Q E hr h => ?_)
  · obtain ⟨a, b, n, s, e, cov, rfl, _⟩ := h
    rfl
  · obtain ⟨a, b, n, s, e, cov, rfl, R, q⟩ := h
    have nd := c_longest.nd
    refine ⟨_, pss_cons (ps_set (i := 2) nd rfl (.inl rfl) (pe_call G1 hr (by rfl) m1 k1 b1 .nil pass0 (pa_cons (pv 0) (pa_cons (pv 1) pa_nil))))
      (pss_cons (ps_if (pt_cmpR op_in_seq pe_str (pv 2) (by rfl)) (pss_one (ps_ret pe_str)) pss_nil)
      (pss_cons (ps_set (i := 3) nd rfl (.inl rfl) (pe_ifExp (pt_cmpR op_in_seq pe_str (pv 2) (by rfl)) pe_str pe_str))
      (pss_cons (ps_set (i := 4) nd rfl (.inl rfl) (pe_ifExp (pt_cmpR op_in_seq pe_str (pv 2) (by rfl)) pe_str pe_str))
      (pss_one (ps_ret (pe_op op_add_str (pe_op op_add_str (pe_op op_add_str (pv 3) pe_str)
        (pe_op op_repS pe_str (pe_bm PySem.F.plainAttrs_list PySem.F.slot_list_count PySem.F.type_list_count mt_lcountS (pv 2) (pa_cons pe_str pa_nil)))) (pv 4))))))), ?_⟩
    refine ⟨.ref a, rfl, .ref b, rfl, a, b, n, s, e, cov, rfl, R, fun H1 p sm np ep => ?_⟩
    have cl := R.cl
    have hf : ((cov.map (pw s e)).map fun y => V.str (wS y)).all flatV = true := by
      rw [List.all_eq_true]
      intro x hx
      obtain ⟨y, _, rfl⟩ := List.mem_map.mp hx
      rfl
    have hv : ∀ x : W, inV (.str (wS x)) ((cov.map (pw s e)).map fun y => V.str (wS y)) = decide (x ∈ cov.map (pw s e)) := fun x => inV_w x _
    have inq : ∀ (x : W) {A B : Prop}, (x ∈ cov.map (pw s e) → A) → (x ∉ cov.map (pw s e) → B) → if inV (.str (wS x)) ((cov.map (pw s e)).map fun y => V.str (wS y)) = true then A else B := fun x A B h1 h2 => by
      rw [hv]
      exact ifD h1 h2
    have l1 : (Str.ofString "1").length = 1 := by decide +kernel
    have l0 : (Str.ofString "0").length = 1 := by decide +kernel
    have le : (Str.ofString "").length = 0 := by decide +kernel
    have l10 : (Str.ofString "10").length = 2 := by decide +kernel
    have cnt : ((cov.map (pw s e)).map wS).count (Str.ofString "010") = (cov.map (pw s e)).count .w010 := cnt_w .w010 _
    have cle : (cov.map (pw s e)).count .w010 ≤ 12 := by
      have z := List.count_le_length (a := W.w010) (l := cov.map (pw s e))
      rw [List.length_map] at z
      omega
    have fin : ∀ (x y : Str), x.length ≤ 1 → y.length ≤ 1 → x.length + 1 + 2 * (cov.map (pw s e)).count .w010 + y.length = lenW (cov.map (pw s e)) →
        tRet (tOp (fun x y H Q => ∃ i j, x = .str i ∧ y = .str j ∧ i.length + j.length ≤ sizeLine ∧ Q (.str (i ++ j)) H) (tOp (fun x y H Q => ∃ i j, x = .str i ∧ y = .str j ∧ i.length + j.length ≤ sizeLine ∧ Q (.str (i ++ j)) H) (tOp (fun x y H Q => ∃ i j, x = .str i ∧ y = .str j ∧ i.length + j.length ≤ sizeLine ∧ Q (.str (i ++ j)) H) (tVar 3) (tC (.str (Str.ofString "0"))))
          (tOp rRepS (tC (.str (Str.ofString "10"))) (tBM K "list" (rCntS K) (tVar 2) (tCons (tC (.str (Str.ofString "010"))) tNil)))) (tVar 4))
        { nx := fun _ H' => Q .non H', rt := Q } [some (.ref a), some (.ref b), some (.ref p), some (.str x), some (.str y)] H1 := fun x y hx hy hl => by
      refine ⟨.str x, rfl, _, _, rfl, rfl, small (by omega), .ref p, rfl, .inl ⟨rfl, _, SqL.of ep⟩, p, (cov.map (pw s e)).map wS, _, rfl, rfl, ?_, ?_⟩
      · have e1 : ((cov.map (pw s e)).map wS).map V.str = (cov.map (pw s e)).map fun y => V.str (wS y) := List.map_map ..
        rw [e1]
        exact SqL.of ep
      · rw [cnt]
        refine ⟨_, _, rfl, rfl, by omega, by omega, by omega, fun r hr => ⟨_, _, rfl, rfl, ?_, .str y, rfl, _, _, rfl, rfl, ?_, q _ _ sm ?_⟩⟩
        · rw [len_app, hr, l10]
          exact small (by omega)
        · rw [len_app, len_app, hr, l10]
          exact small (by omega)
        · rw [len_app, len_app, len_app, hr, l0, l10, ← hl]
          omega
    refine ⟨.ref p, rfl, p, _, rfl, .inl (SqL.of ep), rfl, hf, _, rfl, inq .w1 (fun h1 => ?_) (fun h1 => ?_)⟩
    · refine q _ _ sm ?_
      rw [l1]
      unfold lenW
      rw [if_pos h1]
    · refine ⟨.ref p, rfl, p, _, rfl, .inl (SqL.of ep), rfl, hf, _, rfl, inq .w10 (fun h2 => ?_) (fun h2 => ?_)⟩
      all_goals
        refine ⟨.ref p, rfl, p, _, rfl, .inl (SqL.of ep), rfl, hf, _, rfl, inq .w01 (fun h3 => ?_) (fun h3 => ?_)⟩
        all_goals
          refine fin _ _ (by omega) (by omega) ?_
          unfold lenW
          rw [if_neg h1]
          simp only [l1, le, if_pos, if_neg, h2, h3, not_false_eq_true, reduceIte]
end
end Stc
end

/-! ## W5 -/
section
set_option Elab.async false
set_option linter.all false
set_option maxRecDepth 100000
set_option maxHeartbeats 4000000
namespace Stc
open PySem PySem.Spec PyProof.Rows L2 StR
/-- all that was tracked is as it was, but for what stands at o -/
def SameX (o : Addr) (H H' : Hp) : Prop := ∀ b x, b ≠ o → H b = some x → H' b = some x
theorem SameX.refl (o : Addr) (H : Hp) : SameX o H H := fun _ _ _ h => h
theorem SameX.same {o : Addr} {H H1 H2 : Hp} (a : SameX o H H1) (b : Same H1 H2) : SameX o H H2 := fun c x n e => b c x (a c x n e)
theorem SameX.set {o : Addr} {H H1 : Hp} {x : HO} (a : SameX o H H1) : SameX o H (upd H1 o x) := fun c y n e => by
  rw [upd_ne n]
  exact a c y n e
theorem SameX.out {o : Addr} {H H1 : Hp} (a : SameX o H H1) (n : H o = none) : Same H H1 := fun c x e => a c x (ne_of_none e n) e
theorem same_in {o : Addr} {H H1 H2 : Hp} (s : Same H H1) (a : SameX o H1 H2) (n : H o = none) : Same H H2 := fun c x e => a c x (ne_of_none e n) (s c x e)
theorem Ws.sameX {o : Addr} {H H' : Hp} {xs ys : List V} {ws : List Wr} (h : Ws H xs ws) (s : SameX o H H') (e : H o = some (.lst ys)) : Ws H' xs ws := ⟨h.len, fun i x hx => by
  obtain ⟨t, e1, e2⟩ := h.get i x hx
  exact ⟨t, e1, s _ _ (ne_of e2 e (by intro z; cases z)) e2⟩⟩
theorem Ws.at {H : Hp} {xs : List V} {ws : List Wr} (h : Ws H xs ws) {i : Nat} {v : V} (e : xs[i]? = some v) : ∃ x t, ws[i]? = some x ∧ v = .ref t ∧ H t = some (.tup [.int (x.1 : Nat), .int (x.2 : Nat)]) := by
  have hi : i < ws.length := by rw [← h.len]; exact (List.getElem?_eq_some_iff.mp e).1
  obtain ⟨t, e1, e2⟩ := h.get i _ (List.getElem?_eq_getElem hi)
  rw [e] at e1
  exact ⟨_, t, List.getElem?_eq_getElem hi, Option.some.inj e1, e2⟩
theorem filter_take_succ {α : Type} (p : α → Bool) {l : List α} {i : Nat} {x : α} (h : l[i]? = some x) : (l.take (i + 1)).filter p = (l.take i).filter p ++ (if p x = true then [x] else []) := by
  rw [List.take_add_one, h, List.filter_append]
  congr 1
  show [x].filter p = _
  rw [List.filter_cons, List.filter_nil]
theorem opposed_len (s e : Cub) : (opposedF s e).length ≤ s.length := filter_len _ _
section
variable {P : Program} {w : World} {K : PySem.W.Frag} {mg : Str → Option Value} {base : Heap}
/-- [(j, i) for i in opposed(start, end) if cover[j][i] == q[i]], q in slot k -/
theorem lc_opp {a b pw' o : Addr} {n : Nat} {s e : Cub} {cov : List Cub} {H : Hp} (R : Arg H a b n s e cov) {j : Nat} (hj : j < cov.length) {k : Nat} {q : Cub} {y8 : Option V} (hq : q.length = n) {σ : L2.St}
    (eσ : σ = [some (.ref a), some (.ref b), some (.ref pw'), some (ev s), some (ev e), some (.ref o), some (.int (j : Nat)), none, y8]) (hk : σ[k]? = some (some (ev q))) {σ0 : L2.St} {i7 : Option V} (e0 : σ0 = [some (.ref a), some (.ref b), some (.ref pw'), some (ev s), some (ev e), some (.ref o), some (.int (j : Nat)), i7, y8]) (hk7 : k ≠ 7) {Q : VK}
    (fin : ∀ (H' : Hp) (D : Addr) (ys : List V), Same H H' → H D = none → H' D = some (.lst ys) → Ws H' ys (((opposedF s e).filter fun i => decide (g (cu cov j) i = g q i)).map fun i => (j, i)) → Q (.ref D) H') :
    tLc (iList K (tCall spOpposed [] E0 (tCons (tVar 3) (tCons (tVar 4) tNil)))) (gName 7) (tTest (tOp rEq (tOp rIxS (tOp rIxQ (tVar 1) (tVar 6)) (tVar 7)) (tOp rIxS (tVar k) (tVar 7)))) (tTup (tCons (tVar 6) (tCons (tVar 7) tNil))) [7] σ0 H Q := by
  have ls := R.fits.ls
  have le := R.fits.le
  have n4 := R.n4
  have cl := R.cl
  have hc := R.fits.lc _ (cu_mem hj)
  have ew : wipe σ0 [7] = σ := by rw [e0, eσ]; rfl
  have h3 : σ0[3]? = some (some (ev s)) := by rw [e0]; rfl
  have h4 : σ0[4]? = some (some (ev e)) := by rw [e0]; rfl
  refine ⟨ev s, h3, ev e, h4, s, e, rfl, by omega, by omega, fun H1 p sm np ep => ?_⟩
  refine ⟨p, rfl, ⟨_, SqL.of ep⟩, fun D nD => lc_it walk_list (fun t H' => Same H1 H' ∧ ∃ ys, H' D = some (.lst ys) ∧ Ws H' ys ((((opposedF s e).take t).filter fun i => decide (g (cu cov j) i = g q i)).map fun i => (j, i)))
    ⟨same_upd nD, [], upd_same, Ws.nil⟩ (fun t H' _ h => SqL.of (h.1 _ _ ep)) ?_ ?_⟩
  · rintro t v H2 H3 ht ⟨sm2, ys, eD, hy⟩ ⟨rfl, hx⟩
    rw [ew]
    rw [List.getElem?_map] at hx
    obtain ⟨i, hi, rfl⟩ : ∃ i, (opposedF s e)[t]? = some i ∧ v = .int (i : Nat) := by
      cases z : (opposedF s e)[t]? with
      | none => rw [z] at hx; cases hx
      | some i => rw [z] at hx; exact ⟨i, rfl, (Option.some.inj hx).symm⟩
    have hin : i < s.length := (mem_opposed.mp (List.mem_of_getElem? hi)).1
    have htl : t < (opposedF s e).length := (List.getElem?_eq_some_iff.mp hi).1
    have ol := opposed_len s e
    have R2 := R.same (sm.trans sm2)
    have hk' : (σ.set 7 (some (.int (i : Nat))))[k]? = some (some (ev q)) := by
      rw [List.getElem?_set_ne (Ne.symm hk7)]
      exact hk
    have hk1 : (σ.set 7 (some (.int (i : Nat))))[1]? = some (some (.ref b)) := by rw [eσ]; rfl
    have hk6 : (σ.set 7 (some (.int (i : Nat))))[6]? = some (some (.int (j : Nat))) := by rw [eσ]; rfl
    have hk7' : (σ.set 7 (some (.int (i : Nat))))[7]? = some (some (.int (i : Nat))) := by rw [eσ]; rfl
    have hw : wipe (σ.set 7 (some (.int (i : Nat)))) [7] = σ := by rw [eσ]; rfl
    refine ⟨hw, ?_⟩
    refine ⟨.ref b, hk1, .int (j : Nat), hk6, b, _, j, ev (cu cov j), rfl, rfl, R2.cv, atI_nat (cov_at hj), .int (i : Nat), hk7', enc (cu cov j), i, (g (cu cov j) i).code, rfl, rfl, small (by rw [enc_len]; omega), enc_at (by omega),
      ev q, hk', .int (i : Nat), hk7', enc q, i, (g q i).code, rfl, rfl, small (by rw [enc_len]; omega), enc_at (by omega), rfl, _, rfl, ifD (fun h1 => ?_) (fun h1 => ?_)⟩
    · have h1 := sv_eq.mp h1
      refine ⟨.int (j : Nat), hk6, .int (i : Nat), hk7', by show 2 ≤ sizeLine; decide, fun z nz => ?_⟩
      have sz : Same H3 (upd H3 z (.tup [.int (j : Nat), .int (i : Nat)])) := same_upd nz
      refine ⟨ys, sz _ _ eD, ?_, same_set (sm2.trans sz) nD, _, upd_same, ?_⟩
      · rw [hy.len, List.length_map]
        have z1 := List.length_filter_le (fun i => decide (g (cu cov j) i = g q i)) ((opposedF s e).take t)
        rw [List.length_take] at z1
        exact small1000 (by omega)
      · rw [filter_take_succ _ hi, if_pos (decide_eq_true h1), List.map_append]
        exact (hy.same sz).push (sz _ _ eD) upd_same
    · refine ⟨sm2, ys, eD, ?_⟩
      rw [filter_take_succ _ hi, if_neg (by rw [decide_eq_false fun z => h1 (sv_eq.mpr z)]; decide), List.append_nil]
      exact hy
  · rintro H2 ⟨sm2, ys, eD, hy⟩
    rw [List.length_map, List.take_of_length_le (Nat.le_refl _)] at hy
    exact fin H2 D ys (sm.trans sm2) (sm.free nD) eD hy
end
end Stc
end

/-! ## W6 -/
section
set_option Elab.async false
set_option linter.all false
set_option maxRecDepth 100000
set_option maxHeartbeats 4000000
namespace Stc
open PySem PySem.Spec PyProof.Rows L2 StR
section
variable {P : Program} {w : World} {K : PySem.W.Frag} {mg : Str → Option Value} {base : Heap}
theorem wv_eq {x y : W} : (V.str (wS x) = V.str (wS y)) ↔ x = y := ⟨fun h => wS_inj (V.str.inj h), fun h => by rw [h]⟩
theorem wires_len {n : Nat} {s e : Cub} {cov : List Cub} (h : ∀ c, c ∈ cov → c.length ≤ n) : (wiresF s e cov).length ≤ cov.length * n := wiresFTo_len h cov.length (Nat.le_refl _)
theorem longB_succ (s e : Cub) (cov : List Cub) (k : Nat) : longB s e cov (k + 1) = longB s e cov k ++ longH s e cov k := by
  unfold longB
  rw [List.range_succ, List.flatMap_append, List.flatMap_singleton]
theorem longH_len (s e : Cub) (cov : List Cub) (k : Nat) : (longH s e cov k).length ≤ s.length + s.length := by
  unfold longH
  by_cases h : pw s e (cu cov k) = .w010
  · rw [if_pos h, List.length_append]
    unfold risOf falOf
    rw [List.length_map, List.length_map]
    have a := opposed_len s e
    have b := List.length_filter_le (fun i => decide (g (cu cov k) i = g e i)) (opposedF s e)
    have c := List.length_filter_le (fun i => decide (g (cu cov k) i = g s i)) (opposedF s e)
    omega
  · rw [if_neg h]; exact Nat.zero_le _
theorem longB_len (s e : Cub) (cov : List Cub) : ∀ k, (longB s e cov k).length ≤ k * (s.length + s.length)
  | 0 => by simp [longB]
  | k + 1 => by
    rw [longB_succ, List.length_append, Nat.succ_mul]
    have a := longB_len s e cov k
    have b := longH_len s e cov k
    omega
theorem in_w0w01 (x : W) : inV (.str (wS x)) [.str (Str.ofString "0"), .str (Str.ofString "01")] = (decide (x = .w0) || decide (x = .w01)) := by
  cases x <;> decide +kernel
theorem fl {α : Type} (p : α → Bool) (l : List α) (i : Nat) : ((l.take i).filter p).length ≤ l.length := by
  have a := List.length_filter_le p (l.take i)
  rw [List.length_take] at a
  omega
def spLongOrd : Sp := fun vs H Q _ => ∃ (a b : Addr) (n : Nat) (s e : Cub) (cov : List Cub), vs = [.ref a, .ref b] ∧ Arg H a b n s e cov ∧ ∀ H' p, Same H H' → H p = none → WL H' p (longF s e cov) → Q (.ref p) H'
theorem ok_longest_order {k : Nat} (T : Txt K mg) : Ok P w K mg base (k + 7) "longest_order" ["change", "cover"] spLongOrd := T.d_longest_order.ok fun f fd F => by
  obtain ⟨f1, fd1, G1, m1, k1, b1⟩ := ok_product_words (P := P) (w := w) (base := base) (k := k) T
  obtain ⟨f2, fd2, G2, m2, k2, b2⟩ := ok_list_wires (P := P) (w := w) (base := base) (k := k + 5) T
  obtain ⟨f3, fd3, G3, m3, k3, b3⟩ := ok_opposed (P := P) (w := w) (base := base) (k := k + 5) T
  refine F.ok c_longest_order (fun vs H Q E h => ?_) (fun cdv A outer s H vs Q E hr h => ?_)
  · obtain ⟨a, b, n, s, e, cov, rfl, _⟩ := h
    rfl
  · obtain ⟨a, b, n, s, e, cov, rfl, R, q⟩ := h
    have nd := c_longest_order.nd
    refine ⟨_, pss_cons (ps_set (i := 2) nd rfl (.inl rfl) (pe_call G1 hr (by rfl) m1 k1 b1 .nil pass0 (pa_cons (pv 0) (pa_cons (pv 1) pa_nil))))
      (pss_cons (ps_asg (pv 0) (pg_tup rfl (pgs_cons (pg_name (i := 3) nd rfl (.inr rfl)) (pgs_cons (pg_name (i := 4) nd rfl (.inr rfl)) pgs_nil))))
      (pss_cons (ps_set (i := 5) nd rfl (.inl rfl) (pe_lst pa_nil))
      (pss_cons (ps_for PassesOwn.never rfl (pi_list (pe_call G2 hr (by rfl) m2 k2 b2 .nil pass0 (pa_cons (pv 0) (pa_cons (pv 1) pa_nil))))
        (pg_tup rfl (pgs_cons (pg_name (i := 6) nd rfl (.inr rfl)) (pgs_cons (pg_name (i := 7) nd rfl (.inl rfl)) pgs_nil)))
        (pss_one (ps_if (pt_cmpR op_eq (pe_ix ix_list (pv 2) (pv 6) (fun _ _ => rfl)) pe_str (nomark _))
          (pss_one (ps_expr (pe_bm PySem.F.plainAttrs_list PySem.F.slot_list_append PySem.F.type_list_append mt_append (pv 5) (pa_cons (pe_tup (pa_cons (pv 6) (pa_cons (pv 7) pa_nil))) pa_nil)))) pss_nil)))
      (pss_cons (ps_for PassesOwn.never rfl (pi_enumS (by rfl) T.bi.enu (pa_cons (pv 2) pa_nil))
        (pg_tup rfl (pgs_cons (pg_name (i := 6) nd rfl (.inr rfl)) (pgs_cons (pg_name (i := 8) nd rfl (.inl rfl)) pgs_nil)))
        (pss_one (ps_if (pt_cmpR op_eq (pv 8) pe_str (nomark _))
          (pss_cons (ps_aug (i := 5) nd rfl (.inl rfl) (pe_lc (own := [("i", 7)]) (g := gName 7) rfl nd (pi_list (pe_call G3 hr (by rfl) m3 k3 b3 .nil pass0 (pa_cons (pv 3) (pa_cons (pv 4) pa_nil))))
            (blkOk_by (N := ["change", "cover", "words", "start", "end", "order", "j", "i", "word"]) (sc := defScope s_longest_order) (by decide +kernel)) (fun _ _ _ _ _ => pg_name (i := 7) nd rfl (.inl rfl))
            (fun _ _ _ _ _ => pts_one (pt_cmpR op_eq (pe_ix ix_str (pe_ix ix_sq (pv 1) (pv 6) (fun _ _ => rfl)) (pv 7) (fun _ _ => rfl)) (pe_ix ix_str (pv 4) (pv 7) (fun _ _ => rfl)) (nomark _)))
            (fun _ _ _ _ _ => pe_tup (pa_cons (pv 6) (pa_cons (pv 7) pa_nil)))) iop_ext)
          (pss_one (ps_aug (i := 5) nd rfl (.inl rfl) (pe_lc (own := [("i", 7)]) (g := gName 7) rfl nd (pi_list (pe_call G3 hr (by rfl) m3 k3 b3 .nil pass0 (pa_cons (pv 3) (pa_cons (pv 4) pa_nil))))
            (blkOk_by (N := ["change", "cover", "words", "start", "end", "order", "j", "i", "word"]) (sc := defScope s_longest_order) (by decide +kernel)) (fun _ _ _ _ _ => pg_name (i := 7) nd rfl (.inl rfl))
            (fun _ _ _ _ _ => pts_one (pt_cmpR op_eq (pe_ix ix_str (pe_ix ix_sq (pv 1) (pv 6) (fun _ _ => rfl)) (pv 7) (fun _ _ => rfl)) (pe_ix ix_str (pv 3) (pv 7) (fun _ _ => rfl)) (nomark _)))
            (fun _ _ _ _ _ => pe_tup (pa_cons (pv 6) (pa_cons (pv 7) pa_nil)))) iop_ext))) pss_nil)))
      (pss_cons (ps_for PassesOwn.never rfl (pi_list (pe_call G2 hr (by rfl) m2 k2 b2 .nil pass0 (pa_cons (pv 0) (pa_cons (pv 1) pa_nil))))
        (pg_tup rfl (pgs_cons (pg_name (i := 6) nd rfl (.inr rfl)) (pgs_cons (pg_name (i := 7) nd rfl (.inl rfl)) pgs_nil)))
        (pss_one (ps_if (pt_cmpR op_in_seq (pe_ix ix_list (pv 2) (pv 6) (fun _ _ => rfl)) (pe_tup (pa_cons pe_str (pa_cons pe_str pa_nil))) (by rfl))
          (pss_one (ps_expr (pe_bm PySem.F.plainAttrs_list PySem.F.slot_list_append PySem.F.type_list_append mt_append (pv 5) (pa_cons (pe_tup (pa_cons (pv 6) (pa_cons (pv 7) pa_nil))) pa_nil)))) pss_nil)))
      (pss_one (ps_ret (pv 5)))))))), ?_⟩
    have ls := R.fits.ls
    have le := R.fits.le
    have n4 := R.n4
    have cl := R.cl
    have wl : (wiresF s e cov).length ≤ 48 := Nat.le_trans (wires_len (n := n) fun c hc => Nat.le_of_eq (R.fits.lc c hc)) (Nat.mul_le_mul cl n4)
    -- words, start, end, order
    refine ⟨.ref a, rfl, .ref b, rfl, a, b, n, s, e, cov, rfl, R, fun H1 pw' sm1 npw epw => ?_⟩
    have R1 := R.same sm1
    refine ⟨.ref a, rfl, a, _, rfl, SqT.of R1.ch, rfl, ev s, _, rfl, ev e, _, rfl, rfl, ?_⟩
    refine ⟨Nat.zero_le _, fun o no => ?_⟩
    have sm2 : Same H1 (upd H1 o (.lst [])) := same_upd no
    -- the falling products' wires
    refine ⟨.ref a, rfl, .ref b, rfl, a, b, n, s, e, cov, rfl, R1.same sm2, fun H3 p sm3 np hp => ?_⟩
    obtain ⟨ys, ep, hy⟩ := hp
    have eo3 : H3 o = some (.lst []) := sm3 _ _ upd_same
    have s13 : Same H1 H3 := sm2.trans sm3
    have npo : p ≠ o := fun z => by rw [z, upd_same] at np; cases np
    have word_at : ∀ {H' : Hp} {j : Nat}, H' pw' = some (.lst ((cov.map (pw s e)).map fun y => V.str (wS y))) → j < cov.length → atI ((cov.map (pw s e)).map fun y => V.str (wS y)) (j : Int) = some (.str (wS (pw s e (cu cov j)))) := fun {H' j} _ hj => by
      refine atI_nat ?_
      rw [List.getElem?_map, List.getElem?_map, cu_get hj]
      rfl
    refine ⟨p, rfl, ⟨_, SqL.of ep⟩, for_it walk_list (fun i σ H' => (∃ x y, σ = [some (.ref a), some (.ref b), some (.ref pw'), some (ev s), some (ev e), some (.ref o), x, y, none]) ∧ SameX o H3 H' ∧
        ∃ xs, H' o = some (.lst xs) ∧ Ws H' xs (((wiresF s e cov).take i).filter fun w => decide (pw s e (cu cov w.1) = .w10))) ⟨⟨none, none, rfl⟩, SameX.refl _ _, [], eo3, Ws.nil⟩ (fun i σ H' _ h => SqL.of (h.2.1 _ _ npo ep)) ?_ ?_⟩
    · rintro i v σ H4 H5 hi ⟨⟨x, y, rfl⟩, sx, xs, eo, hx⟩ ⟨rfl, hv⟩
      obtain ⟨wr, t, hw, rfl, et⟩ := (hy.sameX sx eo3).at hv
      have hm := mem_wiresF.mp (List.mem_of_getElem? hw)
      refine ⟨t, _, rfl, SqT.of et, rfl, _, _, rfl, _, _, rfl, rfl, ?_⟩
      have epw5 : H5 pw' = some (.lst ((cov.map (pw s e)).map fun y => V.str (wS y))) := (same_in s13 sx no) _ _ epw
      refine ⟨.ref pw', rfl, .int (wr.1 : Nat), rfl, pw', _, wr.1, .str (wS (pw s e (cu cov wr.1))), rfl, rfl, SqL.of epw5, word_at epw5 hm.1, rfl, _, rfl, ifD (fun h1 => ?_) (fun h1 => ?_)⟩
      · have h1 : pw s e (cu cov wr.1) = .w10 := wS_inj (V.str.inj h1)
        refine ⟨.ref o, rfl, .inl ⟨rfl, _, SqL.of eo⟩, .int (wr.1 : Nat), rfl, .int (wr.2 : Nat), rfl, by show 2 ≤ sizeLine; decide, fun z nz => ?_⟩
        have sz : Same H5 (upd H5 z (.tup [.int (wr.1 : Nat), .int (wr.2 : Nat)])) := same_upd nz
        have eo' := sz _ _ eo
        refine ⟨o, xs, .ref z, rfl, rfl, eo', ?_, ⟨_, _, rfl⟩, (sx.same sz).set, _, upd_same, ?_⟩
        · rw [hx.len]
          exact small1000 (Nat.le_trans (fl _ _ _) (by omega))
        · rw [filter_take_succ _ hw, if_pos (decide_eq_true h1)]
          exact (hx.same sz).push eo' upd_same
      · refine ⟨⟨_, _, rfl⟩, sx, xs, eo, ?_⟩
        rw [filter_take_succ _ hw, if_neg (by rw [decide_eq_false fun z => h1 (wv_eq.mpr z)]; decide), List.append_nil]
        exact hx
    rintro σ H4 ⟨⟨x, y, rfl⟩, sx4, xs4, eo4, hx4⟩
    rw [hy.len, List.take_of_length_le (Nat.le_refl _)] at hx4
    -- the rising and falling products
    have s14 := same_in s13 sx4 no
    have lA : (longA s e cov).length ≤ 48 := Nat.le_trans (List.length_filter_le _ _) wl
    have q0 := q
    refine ⟨.ref pw', rfl, pw', _, rfl, .inl (s14 _ _ epw), fun J wk => for_it wk (fun i σ H' => (∃ x y z, σ = [some (.ref a), some (.ref b), some (.ref pw'), some (ev s), some (ev e), some (.ref o), x, y, z]) ∧ Same H1 H' ∧
        ∃ xs, H' o = some (.lst xs) ∧ Ws H' xs (longA s e cov ++ longB s e cov i)) ⟨⟨_, _, _, rfl⟩, s14, xs4, eo4, ?_⟩ (fun i σ H' _ h => (h.2.1 _ _ epw).trans (s14 _ _ epw).symm) ?_ ?_⟩
    · rw [show longB s e cov 0 = [] from rfl, List.append_nil]
      exact hx4
    · rintro i v σ H5 H6 hi ⟨⟨x, y, z, rfl⟩, s15, xs, eo, hx⟩ ⟨T', x1, x2, rfl, nT, rfl, e1, e2⟩
      rw [List.length_map, List.length_map] at hi
      have e1 : x1 = .int (i : Nat) := (Option.some.inj e1).symm
      have e2 : ((cov.map (pw s e)).map fun y => V.str (wS y))[i]? = some x2 := e2
      rw [List.getElem?_map, List.getElem?_map, cu_get hi] at e2
      have e2 : x2 = .str (wS (pw s e (cu cov i))) := (Option.some.inj e2).symm
      subst e1 e2
      refine ⟨T', _, rfl, .inl (.inl upd_same), rfl, _, _, rfl, _, _, rfl, rfl, ?_⟩
      have s56 : Same H5 (upd H5 T' (.tup [.int (i : Nat), .str (wS (pw s e (cu cov i)))])) := same_upd nT
      have eo6 := s56 _ _ eo
      have s16 := s15.trans s56
      have hx6 := hx.same s56
      have lB := longB_len s e cov i
      have lB' : i * (s.length + s.length) ≤ 12 * 8 := Nat.mul_le_mul (by omega) (by omega)
      have lx : xs.length ≤ 144 := by
        rw [hx.len, List.length_append]
        omega
      refine ⟨.str (wS (pw s e (cu cov i))), rfl, rfl, _, rfl, ifD (fun h1 => ?_) (fun h1 => ?_)⟩
      · have h1 : pw s e (cu cov i) = .w010 := wS_inj (V.str.inj h1)
        have lr : ((opposedF s e).filter fun t => decide (g (cu cov i) t = g e t)).length ≤ 4 := by
          have a := List.length_filter_le (fun t => decide (g (cu cov i) t = g e t)) (opposedF s e)
          have b := opposed_len s e
          omega
        have lf : ((opposedF s e).filter fun t => decide (g (cu cov i) t = g s t)).length ≤ 4 := by
          have a := List.length_filter_le (fun t => decide (g (cu cov i) t = g s t)) (opposedF s e)
          have b := opposed_len s e
          omega
        refine ⟨.ref o, rfl, lc_opp (R1.same s16) hi (k := 4) (q := e) le rfl rfl rfl (by decide) (fun H7 D ys7 s67 nD eD hy7 => ?_)⟩
        have eo7 := s67 _ _ eo6
        refine ⟨o, D, xs, ys7, rfl, rfl, eo7, eD, small (by rw [hy7.len, List.length_map]; omega), ?_⟩
        have s17 : Same H1 (upd H7 o (.lst (xs ++ ys7))) := same_set (s16.trans s67) no
        have hx7 : Ws (upd H7 o (.lst (xs ++ ys7))) (xs ++ ys7) (longA s e cov ++ longB s e cov i ++ risOf s e (cu cov i) i) := ((hx6.same s67).append hy7).setL eo7
        refine ⟨.ref o, rfl, lc_opp (R1.same s17) hi (k := 3) (q := s) ls rfl rfl rfl (by decide) (fun H8 D2 ys8 s78 nD2 eD2 hy8 => ?_)⟩
        have eo8 := s78 _ _ upd_same
        refine ⟨o, D2, xs ++ ys7, ys8, rfl, rfl, eo8, eD2, small (by rw [List.length_append, hy7.len, hy8.len, List.length_map, List.length_map]; omega), ?_⟩
        refine ⟨⟨_, _, _, rfl⟩, same_set (s17.trans s78) no, _, upd_same, ?_⟩
        rw [longB_succ, show longH s e cov i = risOf s e (cu cov i) i ++ falOf s e (cu cov i) i by unfold longH; rw [if_pos h1], ← List.append_assoc, ← List.append_assoc]
        exact ((hx7.same s78).append hy8).setL eo8
      · refine ⟨⟨_, _, _, rfl⟩, s16, xs, eo6, ?_⟩
        rw [longB_succ, show longH s e cov i = [] by unfold longH; rw [if_neg fun z => h1 (by rw [z]; rfl)], List.append_nil]
        exact hx6
    rintro σ H5 ⟨⟨x, y, z, rfl⟩, s15, xs5, eo5, hx5⟩
    rw [List.length_map, List.length_map] at hx5
    -- the wires of the others
    refine ⟨.ref a, rfl, .ref b, rfl, a, b, n, s, e, cov, rfl, R1.same s15, fun H6 p6 s56 np6 hp6 => ?_⟩
    obtain ⟨ys6, ep6, hy6⟩ := hp6
    have eo6 : H6 o = some (.lst xs5) := s56 _ _ eo5
    have s16 : Same H1 H6 := s15.trans s56
    have npo6 : p6 ≠ o := fun z => by rw [z, eo5] at np6; cases np6
    have lx5 : xs5.length ≤ 144 := by
      have lB := longB_len s e cov cov.length
      have lB' : cov.length * (s.length + s.length) ≤ 12 * 8 := Nat.mul_le_mul (by omega) (by omega)
      rw [hx5.len, List.length_append]
      omega
    refine ⟨p6, rfl, ⟨_, SqL.of ep6⟩, for_it walk_list (fun i σ H' => (∃ x y z, σ = [some (.ref a), some (.ref b), some (.ref pw'), some (ev s), some (ev e), some (.ref o), x, y, z]) ∧ SameX o H6 H' ∧
        ∃ xs, H' o = some (.lst xs) ∧ Ws H' xs (longA s e cov ++ longB s e cov cov.length ++ ((wiresF s e cov).take i).filter fun w => decide (pw s e (cu cov w.1) = .w0) || decide (pw s e (cu cov w.1) = .w01)))
        ⟨⟨_, _, _, rfl⟩, SameX.refl _ _, xs5, eo6, ?_⟩ (fun i σ H' _ h => SqL.of (h.2.1 _ _ npo6 ep6)) ?_ ?_⟩
    · rw [List.take_zero, List.filter_nil, List.append_nil]
      exact hx5.same s56
    · rintro i v σ H4 H5 hi ⟨⟨x, y, z, rfl⟩, sx, xs, eo, hx⟩ ⟨rfl, hv⟩
      obtain ⟨wr, t, hw, rfl, et⟩ := (hy6.sameX sx eo6).at hv
      have hm := mem_wiresF.mp (List.mem_of_getElem? hw)
      refine ⟨t, _, rfl, SqT.of et, rfl, _, _, rfl, _, _, rfl, rfl, ?_⟩
      have epw5 : H5 pw' = some (.lst ((cov.map (pw s e)).map fun y => V.str (wS y))) := (same_in s16 sx no) _ _ epw
      refine ⟨.ref pw', rfl, .int (wr.1 : Nat), rfl, pw', _, wr.1, .str (wS (pw s e (cu cov wr.1))), rfl, rfl, SqL.of epw5, word_at epw5 hm.1, by show 2 ≤ sizeLine; decide, fun c nc => ?_⟩
      have sc : Same H5 (upd H5 c (.tup [.str (Str.ofString "0"), .str (Str.ofString "01")])) := same_upd nc
      refine ⟨c, _, rfl, .inr (SqT.of upd_same), rfl, rfl, _, rfl, ?_⟩
      show if inV (.str (wS (pw s e (cu cov wr.1)))) [.str (Str.ofString "0"), .str (Str.ofString "01")] = true then _ else _
      rw [in_w0w01]
      have eo1 := sc _ _ eo
      have lt : (((wiresF s e cov).take i).filter fun w => decide (pw s e (cu cov w.1) = .w0) || decide (pw s e (cu cov w.1) = .w01)).length ≤ 48 := Nat.le_trans (fl _ _ _) wl
      have lxs : xs.length ≤ 192 := by
        have lx := lx5
        rw [hx5.len] at lx
        rw [hx.len, List.length_append]
        omega
      refine ifB (fun h1 => ?_) (fun h1 => ?_)
      · refine ⟨.ref o, rfl, .inl ⟨rfl, _, SqL.of eo1⟩, .int (wr.1 : Nat), rfl, .int (wr.2 : Nat), rfl, by show 2 ≤ sizeLine; decide, fun z nz => ?_⟩
        have sz : Same (upd H5 c (.tup [.str (Str.ofString "0"), .str (Str.ofString "01")])) (upd (upd H5 c (.tup [.str (Str.ofString "0"), .str (Str.ofString "01")])) z (.tup [.int (wr.1 : Nat), .int (wr.2 : Nat)])) := same_upd nz
        have eo' := sz _ _ eo1
        refine ⟨o, xs, .ref z, rfl, rfl, eo', small1000 (by omega), ⟨_, _, _, rfl⟩, ((sx.same sc).same sz).set, _, upd_same, ?_⟩
        rw [filter_take_succ _ hw, if_pos h1, ← List.append_assoc]
        exact ((hx.same sc).same sz).push eo' upd_same
      · refine ⟨⟨_, _, _, rfl⟩, sx.same sc, xs, eo1, ?_⟩
        rw [filter_take_succ _ hw, if_neg (by rw [h1]; decide), List.append_nil]
        exact hx.same sc
    rintro σ H7 ⟨⟨x, y, z, rfl⟩, sx7, xs7, eo7, hx7⟩
    rw [hy6.len, List.take_of_length_le (Nat.le_refl _)] at hx7
    exact ⟨.ref o, rfl, q _ _ (sm1.trans (same_in s16 sx7 no)) (sm1.free no) ⟨xs7, eo7, hx7⟩⟩
end
end Stc
end

/-! ## W7 -/
section
set_option Elab.async false
set_option linter.all false
set_option maxRecDepth 100000
set_option maxHeartbeats 4000000
namespace Stc
open PySem PySem.Spec PyProof.Rows L2 StR
/-! ### the reasons -/
section
variable {n : Nat} {s e : Cub} {cov : List Cub}
theorem reach_s (F : Fits n s e cov) : Reach cov s ↔ ∃ c, c ∈ cov ∧ (pw s e c = .w1 ∨ pw s e c = .w10) := by
  constructor
  · rintro ⟨c, hc, h⟩
    exact ⟨c, hc, (inside_s (F.fit hc)).mp h⟩
  · rintro ⟨c, hc, h⟩
    exact ⟨c, hc, (inside_s (F.fit hc)).mpr h⟩
theorem reach_e (F : Fits n s e cov) : Reach cov e ↔ ∃ c, c ∈ cov ∧ (pw s e c = .w1 ∨ pw s e c = .w01) := by
  constructor
  · rintro ⟨c, hc, h⟩
    exact ⟨c, hc, (inside_e (F.fit hc)).mp h⟩
  · rintro ⟨c, hc, h⟩
    exact ⟨c, hc, (inside_e (F.fit hc)).mpr h⟩
theorem calm_both (F : Fits n s e cov) (hs : Reach cov s) (he : Reach cov e) : Calm s e cov ↔ Reach cov (joinF s e) := by
  constructor
  · rintro (⟨c, hc, h⟩ | ⟨h1, h2⟩)
    · exact ⟨c, hc, (inside_j (F.fit hc)).mpr h⟩
    · obtain ⟨c, hc, h | h⟩ := (reach_s F).mp hs
      · exact ⟨c, hc, (inside_j (F.fit hc)).mpr h⟩
      · obtain ⟨c', hc', h' | h'⟩ := (reach_e F).mp he
        · exact ⟨c', hc', (inside_j (F.fit hc')).mpr h'⟩
        · exact absurd ⟨⟨c, hc, h⟩, c', hc', h'⟩ h2
  · rintro ⟨c, hc, h⟩
    exact .inl ⟨c, hc, (inside_j (F.fit hc)).mp h⟩
/-- product j is a reason, where start and end aren't both covered -/
def Reason (s e : Cub) (cov : List Cub) (j : Nat) : Prop := opposedF (cu cov j) (joinF s e) = [] ∧ (Reach cov s → ¬ Inside (cu cov j) s) ∧ (Reach cov e → ¬ Inside (cu cov j) e)
theorem reason_iff (F : Fits n s e cov) (nb : ¬ (Reach cov s ∧ Reach cov e)) {j : Nat} (hj : j < cov.length) : Reason s e cov j ↔ pw s e (cu cov j) = .w010 := by
  have hc := cu_mem hj
  have A := F.fit hc
  unfold Reason
  rw [opposed_nil A, inside_s A, inside_e A]
  rcases pw_cases (s := s) (e := e) (c := cu cov j) with ⟨a, b⟩ | ⟨a, ⟨b, r, f⟩ | ⟨b, r, f⟩ | ⟨b, r, f⟩ | ⟨b, r, f⟩⟩
  · rw [b]; simp
  · exact absurd ⟨(reach_s F).mpr ⟨_, hc, .inl b⟩, (reach_e F).mpr ⟨_, hc, .inl b⟩⟩ nb
  · have y := (reach_e F).mpr ⟨_, hc, .inr b⟩
    rw [b]; simp [y]
  · have y := (reach_s F).mpr ⟨_, hc, .inr b⟩
    rw [b]; simp [y]
  · rw [b]; simp
theorem calm_meets (F : Fits n s e cov) (nb : ¬ (Reach cov s ∧ Reach cov e)) : Calm s e cov ↔ ∀ j, j < cov.length → ¬ Reason s e cov j := by
  have no1 : ∀ c, c ∈ cov → pw s e c ≠ .w1 := fun c hc b => nb ⟨(reach_s F).mpr ⟨_, hc, .inl b⟩, (reach_e F).mpr ⟨_, hc, .inl b⟩⟩
  constructor
  · rintro (⟨c, hc, h⟩ | ⟨h1, h2⟩) j hj r
    · exact no1 c hc h
    · exact h1 _ (cu_mem hj) ((reason_iff F nb hj).mp r)
  · intro h
    refine .inr ⟨fun c hc b => ?_, fun ⟨⟨c, hc, b⟩, c', hc', b'⟩ => nb ⟨(reach_s F).mpr ⟨_, hc, .inr b⟩, (reach_e F).mpr ⟨_, hc', .inr b'⟩⟩⟩
    obtain ⟨j, hj, rfl⟩ := mem_cu hc
    exact h j hj ((reason_iff F nb hj).mpr b)
end
section
variable {P : Program} {w : World} {K : PySem.W.Frag} {mg : Str → Option Value} {base : Heap}
/-! ### flicker -/
def spFlicker : Sp := fun vs H Q _ => ∃ (a b : Addr) (n : Nat) (s e : Cub) (cov : List Cub), vs = [.ref a, .ref b] ∧ Arg H a b n s e cov ∧ (Calm s e cov → ∀ H', Same H H' → Q .non H') ∧
  (¬ Calm s e cov → ∀ H' p, Same H H' → H p = none → WL H' p (longF s e cov) → Q (.ref p) H')
theorem ok_flicker {k : Nat} (T : Txt K mg) : Ok P w K mg base (k + 8) "flicker" ["change", "cover"] spFlicker := T.d_flicker.ok fun f fd F => by
  obtain ⟨f1, fd1, G1, m1, k1, b1⟩ := ok_longest (P := P) (w := w) (base := base) (k := k) T
  obtain ⟨f2, fd2, G2, m2, k2, b2⟩ := ok_longest_order (P := P) (w := w) (base := base) (k := k) T
  refine F.ok c_flicker (fun vs H Q E h => ?_) (fun cdv A outer s H vs Q E hr h => ?_)
  · obtain ⟨a, b, n, s, e, cov, rfl, _⟩ := h
    rfl
  · obtain ⟨a, b, n, s, e, cov, rfl, R, q1, q2⟩ := h
    refine ⟨_, pss_cons (ps_if (pt_cmpR op_le (pe_callB call_len_str (by rfl) T.bi.len PySem.boot_len (pa_cons (pe_call G1 hr (by rfl) m1 k1 b1 .nil pass0 (pa_cons (pv 0) (pa_cons (pv 1) pa_nil))) pa_nil)) pe_int (nomark _)) (pss_one (ps_ret pe_non)) pss_nil)
      (pss_one (ps_ret (pe_call G2 hr (by rfl) m2 k2 b2 .nil pass0 (pa_cons (pv 0) (pa_cons (pv 1) pa_nil))))), ?_⟩
    refine ⟨.ref a, rfl, .ref b, rfl, a, b, n, s, e, cov, rfl, R, fun H1 z sm hz => ?_⟩
    have cl := R.cl
    have hle : lenW (cov.map (pw s e)) ≤ 1000 := by
      have c := List.count_le_length (a := W.w010) (l := cov.map (pw s e))
      rw [List.length_map] at c
      unfold lenW
      split
      · omega
      · split <;> split <;> omega
    refine ⟨z, rfl, small (by rw [hz]; exact hle), _, _, rfl, rfl, _, rfl, ifD (fun h => ?_) (fun h => ?_)⟩
    · have h : ((z.length : Nat) : Int) ≤ 2 := h
      exact q1 (lenW_calm.mp (by omega)) _ sm
    · have h : ¬ ((z.length : Nat) : Int) ≤ 2 := h
      refine ⟨.ref a, rfl, .ref b, rfl, a, b, n, s, e, cov, rfl, R.same sm, fun H2 p sm2 np hp => ?_⟩
      exact q2 (fun c => h (by have y := lenW_calm.mpr c; omega)) _ _ (sm.trans sm2) (sm.free np) hp
/-! ### why, calm -/
def spWhy : Sp := fun vs H Q _ => ∃ (a b : Addr) (n : Nat) (s e : Cub) (cov : List Cub), vs = [.ref a, .ref b] ∧ Arg H a b n s e cov ∧ (Calm s e cov → ∀ H', Same H H' → Q .non H') ∧
  (¬ Calm s e cov → Reach cov s → Reach cov e → ∀ H' p, Same H H' → H p = none → H' p = some (.tup [.str (Str.ofString "alone")]) → Q (.ref p) H') ∧
  (¬ Calm s e cov → ¬ (Reach cov s ∧ Reach cov e) → ∀ H' p j, j < cov.length → Reason s e cov j → Same H H' → H p = none → H' p = some (.tup [.str (Str.ofString "meets"), .int (j : Nat)]) → Q (.ref p) H')
theorem ok_why {k : Nat} (T : Txt K mg) : Ok P w K mg base (k + 6) "why" ["change", "cover"] spWhy := T.d_why.ok fun f fd F => by
  obtain ⟨f1, fd1, G1, m1, k1, b1⟩ := ok_check_both (P := P) (w := w) (base := base) (k := k) T
  obtain ⟨f2, fd2, G2, m2, k2, b2⟩ := ok_joined (P := P) (w := w) (base := base) (k := k + 4) T
  obtain ⟨f3, fd3, G3, m3, k3, b3⟩ := ok_reaches (P := P) (w := w) (base := base) (k := k + 3) T
  obtain ⟨f4, fd4, G4, m4, k4, b4⟩ := ok_inside (P := P) (w := w) (base := base) (k := k + 4) T
  obtain ⟨f5, fd5, G5, m5, k5, b5⟩ := ok_opposed (P := P) (w := w) (base := base) (k := k + 4) T
  refine F.ok c_why (fun vs H Q E h => ?_) (fun cdv A outer s H vs Q E hr h => ?_)
  · obtain ⟨a, b, n, s, e, cov, rfl, _⟩ := h
    rfl
  · obtain ⟨a, b, n, s, e, cov, rfl, R, q1, q2, q3⟩ := h
    have nd := c_why.nd
    refine ⟨_, pss_cons (ps_expr (pe_call G1 hr (by rfl) m1 k1 b1 .nil pass0 (pa_cons (pv 0) (pa_cons (pv 1) pa_nil))))
      (pss_cons (ps_asg (pv 0) (pg_tup rfl (pgs_cons (pg_name (i := 2) nd rfl (.inl rfl)) (pgs_cons (pg_name (i := 3) nd rfl (.inl rfl)) pgs_nil))))
      (pss_cons (ps_set (i := 4) nd rfl (.inr rfl) (pe_call G2 hr (by rfl) m2 k2 b2 .nil pass0 (pa_cons (pv 2) (pa_cons (pv 3) pa_nil))))
      (pss_cons (ps_par (i := 5) (j := 6) (by rfl) nd rfl rfl (by decide) rfl rfl (pa_cons (pe_call G3 hr (by rfl) m3 k3 b3 .nil pass0 (pa_cons (pv 1) (pa_cons (pv 2) pa_nil))) (pa_cons (pe_call G3 hr (by rfl) m3 k3 b3 .nil pass0 (pa_cons (pv 1) (pa_cons (pv 3) pa_nil))) pa_nil)) (by rfl))
      (pss_cons (ps_if (PW.pt (pw_and (pt_val (pv 5)) (pw_and1 (pt_val (pv 6)))))
        (pss_cons (ps_if (pt_val (pe_callB (cr_any rfl) (by rfl) T.bi.any (by decide +kernel) (pa_cons
            (pe_lc (own := [("product", 8)]) (g := gName 8) (tt := tYes) rfl nd (pi_seqS (pv 1)) (blkOk_by (N := ["change", "cover", "start", "end", "cube", "before", "after", "j", "product"]) (sc := defScope s_why) (by decide +kernel))
              (fun _ _ _ _ _ => pg_name (i := 8) nd rfl (.inl rfl)) (fun _ _ _ _ _ => pts_nil)
              (fun _ _ _ _ _ => pe_call G4 hr (by rfl) m4 k4 b4 .nil pass0 (pa_cons (pv 8) (pa_cons (pv 4) pa_nil)))) pa_nil)))
            (pss_one (ps_ret pe_non)) pss_nil)
          (pss_one (ps_ret (pe_tup (pa_cons pe_str pa_nil))))) pss_nil)
      (pss_cons (ps_for PassesOwn.never rfl (pi_enumS (by rfl) T.bi.enu (pa_cons (pv 1) pa_nil))
        (pg_tup rfl (pgs_cons (pg_name (i := 7) nd rfl (.inl rfl)) (pgs_cons (pg_name (i := 8) nd rfl (.inl rfl)) pgs_nil)))
        (pss_cons (ps_if (pt_truth (pe_call G5 hr (by rfl) m5 k5 b5 .nil pass0 (pa_cons (pv 8) (pa_cons (pv 4) pa_nil))) (by intro _; rfl)) (pss_one ps_continue) pss_nil)
        (pss_cons (ps_if (PW.pt (pw_and (pt_val (pv 5)) (pw_and1 (pt_not (pt_val (pe_call G4 hr (by rfl) m4 k4 b4 .nil pass0 (pa_cons (pv 8) (pa_cons (pv 2) pa_nil)))))))) (pss_one (ps_ret (pe_tup (pa_cons pe_str (pa_cons (pv 7) pa_nil))))) pss_nil)
        (pss_cons (ps_if (PW.pt (pw_and (pt_val (pv 6)) (pw_and1 (pt_not (pt_val (pe_call G4 hr (by rfl) m4 k4 b4 .nil pass0 (pa_cons (pv 8) (pa_cons (pv 3) pa_nil)))))))) (pss_one (ps_ret (pe_tup (pa_cons pe_str (pa_cons (pv 7) pa_nil))))) pss_nil)
        (pss_one (ps_if (PW.pt (pw_and (pt_not (pt_val (pv 5))) (pw_and1 (pt_not (pt_val (pv 6)))))) (pss_one (ps_ret (pe_tup (pa_cons pe_str (pa_cons (pv 7) pa_nil))))) pss_nil))))))
      (pss_one (ps_ret pe_non))))))), ?_⟩
    have FF := R.fits
    have ls := R.fits.ls
    have le := R.fits.le
    have n4 := R.n4
    have cl := R.cl
    have lj : (joinF s e).length = n := by rw [join_length]; exact ls
    refine ⟨.ref a, rfl, .ref b, rfl, a, b, n, s, e, cov, rfl, R, fun H1 sm1 => ?_⟩
    have R1 := R.same sm1
    refine ⟨.ref a, rfl, a, _, rfl, SqT.of R1.ch, rfl, ev s, _, rfl, ev e, _, rfl, rfl, ?_⟩
    refine ⟨ev s, rfl, ev e, rfl, s, e, rfl, by omega, by omega, fun H2 sm2 => ?_⟩
    have R2 := R1.same sm2
    refine ⟨.ref b, rfl, ev s, rfl, b, cov, s, rfl, R2.cv, fun c hc => (by rw [FF.lc c hc, ls]; exact Nat.le_refl _), by omega, cl, fun H3 sm3 => ?_⟩
    have R3 := R2.same sm3
    refine ⟨.ref b, rfl, ev e, rfl, b, cov, e, rfl, R3.cv, fun c hc => (by rw [FF.lc c hc, le]; exact Nat.le_refl _), by omega, cl, fun H4 sm4 => ?_⟩
    have R4 := R3.same sm4
    have sm : Same H H4 := sm1.trans (sm2.trans (sm3.trans sm4))
    refine ⟨_, _, rfl, ?_⟩
    by_cases nb : Reach cov s ∧ Reach cov e
    · -- both ends are covered
      obtain ⟨hs, he⟩ := nb
      refine ⟨_, rfl, _, rfl, ifD (fun _ => ?_) (fun z => absurd hs z)⟩
      refine ⟨_, rfl, _, rfl, ifD (fun _ => ?_) (fun z => absurd he z)⟩
      refine ⟨.ref b, rfl, b, _, rfl, R4.cv, fun J wk => fun D nD => lc_it wk (fun i H' => Same H4 H' ∧ H' D = some (.lst (((cov.take i).map fun c => decide (Inside c (joinF s e))).map V.bl))) ⟨same_upd nD, upd_same⟩ (fun _ _ _ h => R4.cv.keep h.1) ?_ ?_⟩
      · rintro i v H5 H6 hi ⟨sm5, eD⟩ ⟨rfl, hx⟩
        rw [List.length_map] at hi
        rw [cov_at hi] at hx
        have hx : v = ev (cu cov i) := (Option.some.inj hx).symm
        subst hx
        refine ⟨rfl, ?_⟩
        refine ⟨ev (cu cov i), rfl, ev (joinF s e), rfl, cu cov i, joinF s e, rfl, (by rw [FF.lc _ (cu_mem hi), lj]; exact Nat.le_refl _), by omega, fun H7 sm7 => ?_⟩
        refine ⟨_, sm7 _ _ eD, ?_, same_set (sm5.trans sm7) nD, ?_⟩
        · rw [List.length_map, List.length_map, List.length_take]
          exact small1000 (by omega)
        · rw [upd_same, map_take_succ _ (cu_get hi), List.map_append]
          rfl
      · rintro H5 ⟨sm5, eD⟩
        rw [List.length_map, List.take_of_length_le (Nat.le_refl _)] at eD
        refine ⟨D, _, rfl, .inl (.inl eD), _, rfl, ?_⟩
        rw [any_reach]
        refine ifD (fun h => ?_) (fun h => ?_)
        · exact q1 ((calm_both FF hs he).mpr h) _ (sm.trans sm5)
        · refine ⟨by show 1 ≤ sizeLine; decide, fun p np => ?_⟩
          exact q2 (fun c => h ((calm_both FF hs he).mp c)) hs he _ p ((sm.trans sm5).trans (same_upd np)) ((sm.trans sm5).free np) upd_same
    · -- else: the first product that is a reason
      have t1 : ∀ (σ : L2.St) (Z : Bool → Hp → Prop), σ[5]? = some (some (.bl (decide (Reach cov s)))) → σ[6]? = some (some (.bl (decide (Reach cov e)))) → Z false H4 → tAnd (tB (tVar 5)) (tB (tVar 6)) σ H4 Z := fun σ Z h5 h6 z => by
        refine ⟨_, h5, _, rfl, ifD (fun hs => ?_) (fun _ => z)⟩
        refine ⟨_, h6, _, rfl, ?_⟩
        rw [decide_eq_false (show ¬ Reach cov e from fun he => nb ⟨hs, he⟩)]
        exact z
      refine t1 _ _ rfl rfl (iteF ?_)
      refine ⟨.ref b, rfl, b, _, rfl, R4.cv, fun J wk => for_it wk (fun i σ H' => (∃ x y, σ = [some (.ref a), some (.ref b), some (ev s), some (ev e), some (ev (joinF s e)), some (.bl (decide (Reach cov s))), some (.bl (decide (Reach cov e))), x, y]) ∧ Same H4 H' ∧ ∀ j, j < i → ¬ Reason s e cov j)
        ⟨⟨none, none, rfl⟩, Same.refl _, fun j hj => by omega⟩ (fun i σ H' _ h => R4.cv.keep h.2.1) ?_ ?_⟩
      · rintro i v σ H5 H6 hi ⟨⟨x, y, rfl⟩, sm5, hp⟩ y
        obtain ⟨hi, T', rfl, nT, rfl⟩ := ycov hi y
        refine ⟨T', _, rfl, .inl (.inl upd_same), rfl, _, _, rfl, _, _, rfl, rfl, ?_⟩
        have sm6 : Same H4 (upd H5 T' (.tup [.int (i : Nat), ev (cu cov i)])) := sm5.trans (same_upd nT)
        have hc : (cu cov i).length = n := FF.lc _ (cu_mem hi)
        generalize upd H5 T' (.tup [.int (i : Nat), ev (cu cov i)]) = H6 at sm6
        have ins : ∀ (k m : Nat) (rr : Prop) [Decidable rr] (d : Cub) (σ : L2.St) (H7 : Hp) (Z : Bool → Hp → Prop), σ[k]? = some (some (.bl (decide rr))) → σ[8]? = some (some (ev (cu cov i))) → σ[m]? = some (some (ev d)) → d.length = n →
            (∀ H8, Same H7 H8 → Z (decide (rr ∧ ¬ Inside (cu cov i) d)) H8) → tAnd (tB (tVar k)) (tNot (tB (tCall spInside [] E0 (tCons (tVar 8) (tCons (tVar m) tNil))))) σ H7 Z := fun k m rr _ d σ H7 Z hk h8 hm hd z => by
          refine ⟨_, hk, _, rfl, ifD (fun h => ?_) (fun h => ?_)⟩
          · refine ⟨_, h8, _, hm, cu cov i, d, rfl, by omega, by omega, fun H8 s78 => ⟨_, rfl, ?_⟩⟩
            have z' := z H8 s78
            by_cases hi : Inside (cu cov i) d
            · rw [decide_eq_false (show ¬ (rr ∧ ¬ Inside (cu cov i) d) from fun y => y.2 hi)] at z'
              rw [decide_eq_true hi]
              exact z'
            · rw [decide_eq_true (show rr ∧ ¬ Inside (cu cov i) d from ⟨h, hi⟩)] at z'
              rw [decide_eq_false hi]
              exact z'
          · have z' := z H7 (Same.refl _)
            rw [decide_eq_false (show ¬ (rr ∧ ¬ Inside (cu cov i) d) from fun y => h y.1)] at z'
            exact z'
        have meets : ∀ (σ : L2.St) (H7 : Hp) (D : Ends), D.rt = Q → σ[7]? = some (some (.int (i : Nat))) → Same H4 H7 → Reason s e cov i → tRet (tTup (tCons (tC (.str (Str.ofString "meets"))) (tCons (tVar 7) tNil))) D σ H7 := fun σ H7 D hD h7 s7 hr => by
          refine ⟨_, h7, by show 2 ≤ sizeLine; decide, fun p np => ?_⟩
          rw [hD]
          exact q3 (fun c => (calm_meets FF nb).mp c i hi hr) nb _ p i hi hr ((sm.trans s7).trans (same_upd np)) ((sm.trans s7).free np) upd_same
        refine ⟨ev (cu cov i), rfl, ev (joinF s e), rfl, cu cov i, joinF s e, rfl, by omega, by omega, fun H7 p s67 np ep => ?_⟩
        have s47 := sm6.trans s67
        refine ⟨_, .inl ⟨_, SqL.of ep, rfl⟩, ifB (fun h => ?_) (fun h => ?_)⟩
        · refine ⟨⟨_, _, rfl⟩, s47, lt_succ hp fun r => ?_⟩
          rw [r.1] at h
          cases h
        have hop : opposedF (cu cov i) (joinF s e) = [] := by
          cases z : opposedF (cu cov i) (joinF s e) with
          | nil => rfl
          | cons y r => rw [z] at h; cases h
        refine ins 5 2 (Reach cov s) s _ _ _ rfl rfl rfl ls fun H8 s78 => ifD (fun h1 => ?_) (fun h1 => ?_)
        · exact meets _ _ _ rfl rfl (s47.trans s78) ⟨hop, fun _ => h1.2, fun he => absurd ⟨h1.1, he⟩ nb⟩
        refine ins 6 3 (Reach cov e) e _ _ _ rfl rfl rfl le fun H9 s89 => ifD (fun h2 => ?_) (fun h2 => ?_)
        · exact meets _ _ _ rfl rfl (s47.trans (s78.trans s89)) ⟨hop, fun hs => absurd ⟨hs, h2.1⟩ nb, fun _ => h2.2⟩
        have s49 := s47.trans (s78.trans s89)
        have t4 : ∀ (σ : L2.St) (Z : Bool → Hp → Prop), σ[5]? = some (some (.bl (decide (Reach cov s)))) → σ[6]? = some (some (.bl (decide (Reach cov e)))) → Z (decide (¬ Reach cov s ∧ ¬ Reach cov e)) H9 → tAnd (tNot (tB (tVar 5))) (tNot (tB (tVar 6))) σ H9 Z := fun σ Z h5 h6 z => by
          refine ⟨_, h5, _, rfl, ifN (fun hs => ?_) (fun hs => ?_)⟩
          · refine ⟨_, h6, _, rfl, ?_⟩
            by_cases he : Reach cov e
            · rw [decide_eq_false (show ¬ (¬ Reach cov s ∧ ¬ Reach cov e) from fun y => y.2 he)] at z
              rw [decide_eq_true he]
              exact z
            · rw [decide_eq_true (show ¬ Reach cov s ∧ ¬ Reach cov e from ⟨hs, he⟩)] at z
              rw [decide_eq_false he]
              exact z
          · rw [decide_eq_false (show ¬ (¬ Reach cov s ∧ ¬ Reach cov e) from fun y => y.1 hs)] at z
            exact z
        refine t4 _ _ rfl rfl (ifD (fun h3 => ?_) (fun h3 => ?_))
        · exact meets _ _ _ rfl rfl s49 ⟨hop, fun hs => absurd hs h3.1, fun he => absurd he h3.2⟩
        · refine ⟨⟨_, _, rfl⟩, s49, lt_succ hp fun r => ?_⟩
          by_cases hs : Reach cov s
          · exact h1 ⟨hs, r.2.1 hs⟩
          · by_cases he : Reach cov e
            · exact h2 ⟨he, r.2.2 he⟩
            · exact h3 ⟨hs, he⟩
      · rintro σ H5 ⟨⟨x, y, rfl⟩, sm5, hp⟩
        rw [List.length_map] at hp
        exact q1 ((calm_meets FF nb).mpr hp) _ (sm.trans sm5)
def spCalm : Sp := fun vs H Q _ => ∃ (a b : Addr) (n : Nat) (s e : Cub) (cov : List Cub), vs = [.ref a, .ref b] ∧ Arg H a b n s e cov ∧ ∀ H', Same H H' → Q (.bl (decide (Calm s e cov))) H'
theorem ok_calm {k : Nat} (T : Txt K mg) : Ok P w K mg base (k + 7) "calm" ["change", "cover"] spCalm := T.d_calm.ok fun f fd F => by
  obtain ⟨f1, fd1, G1, m1, k1, b1⟩ := ok_why (P := P) (w := w) (base := base) (k := k) T
  refine F.ok c_calm (fun vs H Q E h => ?_) (fun cdv A outer s H vs Q E hr h => ?_)
  · obtain ⟨a, b, n, s, e, cov, rfl, _⟩ := h
    rfl
  · obtain ⟨a, b, n, s, e, cov, rfl, R, q⟩ := h
    refine ⟨_, pss_one (ps_ret (pe_cmp (pc_isN (pe_call G1 hr (by rfl) m1 k1 b1 .nil pass0 (pa_cons (pv 0) (pa_cons (pv 1) pa_nil)))) rfl)), ?_⟩
    refine ⟨.ref a, rfl, .ref b, rfl, a, b, n, s, e, cov, rfl, R, fun c H' sm => ?_, fun c _ _ H' p sm np ep => ?_, fun c _ H' p j hj hr sm np ep => ?_⟩
    · have q' := q H' sm
      rw [decide_eq_true c] at q'
      exact q'
    · have q' := q H' sm
      rw [decide_eq_false c] at q'
      exact q'
    · have q' := q H' sm
      rw [decide_eq_false c] at q'
      exact q'
end
end Stc
end

/-! ## W8 -/
section
set_option Elab.async false
set_option linter.all false
set_option maxRecDepth 100000
set_option maxHeartbeats 4000000
namespace Stc
open PySem PySem.Spec PyProof.Rows L2 StR
section
variable {P : Program} {w : World} {K : PySem.W.Frag} {mg : Str → Option Value} {base : Heap}
/-! ### the draws -/
def spMixed : Sp := fun vs H Q _ => ∃ (a b : Int), vs = [.int a, .int b] ∧ ∀ r : Int, 0 ≤ r → r < 10007 → Q (.int r) H
theorem modb (a : Int) {m : Int} (h : 0 < m) : 0 ≤ a % m ∧ a % m < m := ⟨Int.emod_nonneg _ (by omega), Int.emod_lt_of_pos _ h⟩
theorem ok_law_mixed {k : Nat} (T : Txt K mg) : Ok P w K mg base (k + 1) "_law_mixed" ["_law_seed", "_law_k"] spMixed := T.d_law_mixed.ok fun f fd F => by
  refine F.ok c_law_mixed (fun vs H Q E h => ?_) (fun cdv A outer s H vs Q E hr h => ?_)
  · obtain ⟨a, b, rfl, _⟩ := h
    rfl
  · obtain ⟨a, b, rfl, q⟩ := h
    have nd := c_law_mixed.nd
    refine ⟨_, pss_cons (ps_set (i := 2) nd rfl (.inl rfl) (pe_op op_mod (pe_callTy call_int1 (by rfl) T.bi.int (by decide +kernel) (pa_cons (pe_op op_mul (pe_op op_add (pe_op op_add (pv 0) (pe_op op_mul pe_int (pv 1))) pe_int) pe_int) pa_nil)) pe_int))
      (pss_cons (ps_set (i := 3) nd rfl (.inl rfl) (pe_op op_mod (pe_callTy call_int1 (by rfl) T.bi.int (by decide +kernel) (pa_cons (pe_op op_mul (pv 2) (pe_op op_add (pe_op op_fdiv (pv 2) pe_int) pe_int)) pa_nil)) pe_int))
      (pss_cons (ps_set (i := 4) nd rfl (.inl rfl) (pe_op op_mod (pe_callTy call_int1 (by rfl) T.bi.int (by decide +kernel) (pa_cons (pe_op op_mul (pv 3) (pe_op op_add (pe_op op_fdiv (pv 3) pe_int) pe_int)) pa_nil)) pe_int))
      (pss_one (ps_ret (pe_op op_mod (pe_callTy call_int1 (by rfl) T.bi.int (by decide +kernel) (pa_cons (pe_op op_fdiv (pv 4) pe_int) pa_nil)) pe_int))))), ?_⟩
    refine ⟨.int a, rfl, .int b, rfl, _, _, rfl, rfl, .inl ⟨by decide, by decide⟩, _, _, rfl, rfl, _, _, rfl, rfl, _, _, rfl, rfl, .inr ⟨by decide, by decide⟩, .inl ⟨_, rfl, _, _, rfl, rfl, (by show (0 : Int) < 2147483647; decide), ?_⟩⟩
    obtain ⟨h1, h2⟩ := modb ((a + 7919 * b + 1) * 48271) (m := 2147483647) (by decide)
    dsimp only
    generalize (a + 7919 * b + 1) * 48271 % 2147483647 = one at h1 h2
    refine ⟨.int one, rfl, .int one, rfl, _, _, rfl, rfl, ⟨by decide, by decide⟩, _, _, rfl, rfl, _, _, rfl, rfl, .inl ⟨by omega, by omega⟩, .inl ⟨_, rfl, _, _, rfl, rfl, (by show (0 : Int) < 2147483647; decide), ?_⟩⟩
    obtain ⟨h3, h4⟩ := modb (one * (one / 1009 + 69621)) (m := 2147483647) (by decide)
    dsimp only
    generalize one * (one / 1009 + 69621) % 2147483647 = two at h3 h4
    refine ⟨.int two, rfl, .int two, rfl, _, _, rfl, rfl, ⟨by decide, by decide⟩, _, _, rfl, rfl, _, _, rfl, rfl, .inl ⟨by omega, by omega⟩, .inl ⟨_, rfl, _, _, rfl, rfl, (by show (0 : Int) < 2147483399; decide), ?_⟩⟩
    dsimp only
    generalize two * (two / 2003 + 40692) % 2147483399 = three
    refine ⟨.int three, rfl, _, _, rfl, rfl, ⟨by decide, by decide⟩, .inl ⟨_, rfl, _, _, rfl, rfl, (by show (0 : Int) < 10007; decide), ?_⟩⟩
    obtain ⟨h5, h6⟩ := modb (three / 16) (m := 10007) (by decide)
    exact q _ h5 h6
/-- numbers that a draw may be -/
def Drw (ds : List Int) : Prop := ∀ d, d ∈ ds → 0 ≤ d ∧ d < 10007
theorem Drw.snoc {ds : List Int} {d : Int} (h : Drw ds) (h1 : 0 ≤ d) (h2 : d < 10007) : Drw (ds ++ [d]) := fun x hx => by
  rcases List.mem_append.mp hx with hx | hx
  · exact h x hx
  · rw [List.mem_singleton.mp hx]; exact ⟨h1, h2⟩
theorem cut_all {xs : List V} {m : Nat} (h : xs.length ≤ m) : cutV xs none (some (m : Int)) = xs := by
  unfold cutV
  rw [HT.sIx_none, HT.sIx_nat, List.drop_zero, Nat.min_eq_right h, Nat.sub_zero, List.take_of_length_le (Nat.le_refl _)]
theorem cut_take {xs : List V} {m : Nat} (h : m ≤ xs.length) : cutV xs none (some (m : Int)) = xs.take m := by
  unfold cutV
  rw [HT.sIx_none, HT.sIx_nat, List.drop_zero, Nat.min_eq_left h, Nat.sub_zero]
def spDraws (K : PySem.W.Frag) : Sp := fun vs H Q _ => ∃ (a : Addr) (ns : List Int), vs = [.ref a, .int 35] ∧ SqL K H a (ns.map V.int) ∧ ns.length ≤ 63 ∧
  ∀ H' p (ds : List Int), Same H H' → H p = none → H' p = some (.lst (ds.map V.int)) → ds.length = 35 → Drw ds → Q (.ref p) H'
theorem ok_law_draws {k : Nat} (T : Txt K mg) : Ok P w K mg base (k + 2) "_law_draws" ["_law_script", "_law_many"] (spDraws K) := T.d_law_draws.ok fun f fd F => by
  obtain ⟨f1, fd1, G1, m1, k1, b1⟩ := ok_law_mixed (P := P) (w := w) (base := base) (k := k) T
  refine F.ok c_law_draws (fun vs H Q E h => ?_) (fun cdv A outer s H vs Q E hr h => ?_)
  · obtain ⟨a, ns, rfl, _⟩ := h
    rfl
  · obtain ⟨a, ns, rfl, ha, hl, q⟩ := h
    have nd := c_law_draws.nd
    refine ⟨_, pss_cons (ps_set (i := 2) nd rfl (.inl rfl) (pe_lst pa_nil))
      (pss_cons (ps_set (i := 3) nd rfl (.inl rfl) pe_int)
      (pss_cons (ps_for PassesOwn.never rfl (pi_range1 (by rfl) T.bi.rng (pa_cons (pe_callB call_len_seq (by rfl) T.bi.len PySem.boot_len (pa_cons (pe_slice sl_list (pv 0) po_none (po_some pe_int)) pa_nil)) pa_nil))
        (pg_name (i := 4) nd rfl (.inl rfl))
        (pss_cons (ps_set (i := 5) nd rfl (.inl rfl) (pe_callTy call_int1 (by rfl) T.bi.int (by decide +kernel) (pa_cons (pe_ix ix_list (pv 0) (pv 4) (fun _ _ => rfl)) pa_nil)))
        (pss_cons (ps_set (i := 3) nd rfl (.inl rfl) (pe_op op_mod (pe_callTy call_int1 (by rfl) T.bi.int (by decide +kernel) (pa_cons (pe_op op_add (pe_op op_add (pe_op op_mul (pv 3) pe_int) (pe_op op_mod (pe_callTy call_int1 (by rfl) T.bi.int (by decide +kernel) (pa_cons (pv 5) pa_nil)) pe_int)) pe_int) pa_nil)) pe_int))
        (pss_one (ps_if (pt_cmpR op_ge (pv 5) (pe_op op_pow pe_int pe_int) (nomark _))
          (pss_one (ps_for PassesOwn.never rfl (pi_range1 (by rfl) T.bi.rng (pa_cons pe_int pa_nil)) (pg_name (i := 6) nd rfl (.inl rfl))
            (pss_one (ps_if (pt_cmpR op_gt (pv 5) pe_int (nomark _))
              (pss_cons (ps_expr (pe_bm PySem.F.plainAttrs_list PySem.F.slot_list_append PySem.F.type_list_append mt_append (pv 2) (pa_cons (pe_op op_mod (pe_callTy call_int1 (by rfl) T.bi.int (by decide +kernel) (pa_cons (pv 5) pa_nil)) pe_int) pa_nil)))
              (pss_one (ps_set (i := 5) nd rfl (.inl rfl) (pe_op op_fdiv (pv 5) pe_int)))) pss_nil))))
          (pss_cons (ps_expr (pe_bm PySem.F.plainAttrs_list PySem.F.slot_list_append PySem.F.type_list_append mt_append (pv 2) (pa_cons (pe_call G1 hr (by rfl) m1 k1 b1 .nil pass0 (pa_cons (pe_op op_mod (pe_callTy call_int1 (by rfl) T.bi.int (by decide +kernel) (pa_cons (pv 5) pa_nil)) pe_int) (pa_cons (pe_op op_mul pe_int (pv 4)) pa_nil))) pa_nil)))
          (pss_one (ps_expr (pe_bm PySem.F.plainAttrs_list PySem.F.slot_list_append PySem.F.type_list_append mt_append (pv 2) (pa_cons (pe_call G1 hr (by rfl) m1 k1 b1 .nil pass0 (pa_cons (pe_op op_mod (pe_callTy call_int1 (by rfl) T.bi.int (by decide +kernel) (pa_cons (pv 5) pa_nil)) pe_int) (pa_cons (pe_op op_add (pe_op op_mul pe_int (pv 4)) pe_int) pa_nil))) pa_nil)))))))))
      )
      (pss_cons (ps_for PassesOwn.never rfl (pi_range1 (by rfl) T.bi.rng (pa_cons (pv 1) pa_nil)) (pg_name (i := 6) nd rfl (.inl rfl))
        (pss_one (ps_expr (pe_bm PySem.F.plainAttrs_list PySem.F.slot_list_append PySem.F.type_list_append mt_append (pv 2) (pa_cons (pe_call G1 hr (by rfl) m1 k1 b1 .nil pass0 (pa_cons (pv 3) (pa_cons (pe_op op_add (pv 6) pe_int) pa_nil))) pa_nil)))))
      (pss_one (ps_ret (pe_slice sl_list (pv 2) po_none (po_some (pv 1)))))))), ?_⟩
    refine ⟨Nat.zero_le _, fun p np => ?_⟩
    have s1 : Same H (upd H p (.lst [])) := same_upd np
    refine ⟨.ref a, rfl, 63, rfl, a, _, rfl, s1.seq ha, fun c nc => ?_⟩
    have s2 : Same (upd H p (.lst [])) (upd (upd H p (.lst [])) c (.lst (cutV (ns.map V.int) none (some 63)))) := same_upd nc
    have ec : cutV (ns.map V.int) none (some 63) = ns.map V.int := cut_all (m := 63) (by rw [List.length_map]; exact hl)
    refine ⟨c, _, rfl, .inl (SqL.of upd_same), _, rfl, ?_, ?_, ?_⟩
    · omega
    · rw [ec, List.length_map]; omega
    have el : (((cutV (ns.map V.int) none (some 63)).length : Nat) : Int).toNat = ns.length := by
      rw [ec, List.length_map]
      exact Int.toNat_natCast _
    rw [el]
    have app : ∀ {ds : List Int} {H' : Hp} {r : Int} {m : Nat}, Same H H' → Drw ds → 0 ≤ r → r < 10007 → ds.length ≤ m →
        Same H (upd H' p (.lst (ds.map V.int ++ [.int r]))) ∧ ∃ ds', upd H' p (.lst (ds.map V.int ++ [.int r])) p = some (.lst (ds'.map V.int)) ∧ Drw ds' ∧ ds'.length ≤ m + 1 ∧ ds'.length = ds.length + 1 := fun {ds H' r m} sm hd h0 h1 hm => by
      refine ⟨same_set sm np, ds ++ [r], ?_, hd.snoc h0 h1, ?_, ?_⟩
      · rw [upd_same, List.map_append]; rfl
      · rw [List.length_append]; show ds.length + 1 ≤ m + 1; omega
      · rw [List.length_append]; rfl
    refine for_range (lo := 0) (n := ns.length) (fun i σ H' => (∃ (sd : Int) (x4 x5 x6 : Option V), σ = [some (.ref a), some (.int 35), some (.ref p), some (.int sd), x4, x5, x6]) ∧ Same H H' ∧ ∃ ds, H' p = some (.lst (ds.map V.int)) ∧ Drw ds ∧ ds.length ≤ 60 * i)
      ⟨⟨1, none, none, none, rfl⟩, s1.trans s2, [], ?_, fun d hd => absurd hd List.not_mem_nil, Nat.le_refl _⟩ ?_ ?_
    · exact s2 _ _ upd_same
    · rintro i σ H1 hi ⟨⟨sd, x4, x5, x6, rfl⟩, sm, ds, ep, hd, hn⟩
      have ei : atI (ns.map V.int) (0 + (i : Int)) = some (.int ns[i]) := by
        rw [Int.zero_add]
        refine atI_nat ?_
        rw [List.getElem?_map, List.getElem?_eq_getElem hi]
        rfl
      refine ⟨.ref a, rfl, .int (0 + (i : Int)), rfl, a, _, _, _, rfl, rfl, sm.seq ha, ei, .inl ⟨_, rfl, ?_⟩⟩
      generalize ns[i] = cell
      refine ⟨.int sd, rfl, _, _, rfl, rfl, .inr ⟨by decide, by decide⟩, .int cell, rfl, .inl ⟨_, rfl, _, _, rfl, rfl, (by show (0 : Int) < 1000003; decide), _, _, rfl, rfl, _, _, rfl, rfl, .inl ⟨_, rfl, _, _, rfl, rfl, (by show (0 : Int) < 2147483629; decide), ?_⟩⟩⟩
      refine ⟨.int cell, rfl, _, _, rfl, rfl, ⟨by decide, by decide, by decide⟩, _, _, rfl, rfl, _, rfl, ifD (fun _ => ?_) (fun _ => ?_)⟩
      · refine ⟨60, rfl, by decide, by decide, for_range (lo := 0) (n := 60) (fun t σ H' => (∃ (sd : Int) (x4 : Option V) (c : Int) (x6 : Option V), σ = [some (.ref a), some (.int 35), some (.ref p), some (.int sd), x4, some (.int c), x6]) ∧ Same H H' ∧ ∃ ds, H' p = some (.lst (ds.map V.int)) ∧ Drw ds ∧ ds.length ≤ 60 * i + t)
          ⟨⟨_, _, _, _, rfl⟩, sm, ds, ep, hd, hn⟩ ?_ ?_⟩
        · rintro t σ H2 ht ⟨⟨sd, x4, c, x6, rfl⟩, sm2, ds2, ep2, hd2, hn2⟩
          refine ⟨.int c, rfl, _, _, rfl, rfl, _, rfl, ifD (fun _ => ?_) (fun _ => ?_)⟩
          · obtain ⟨h0, h1⟩ := modb c (m := 10007) (by decide)
            refine ⟨.ref p, rfl, .inl ⟨rfl, _, SqL.of ep2⟩, .int c, rfl, .inl ⟨_, rfl, _, _, rfl, rfl, (by show (0 : Int) < 10007; decide), p, _, _, rfl, rfl, ep2, ?_, ?_⟩⟩
            · rw [List.length_map]
              exact Nat.lt_of_le_of_lt (show ds2.length ≤ 10000 by omega) (by decide)
            · obtain ⟨g1, ds', g2, g3, g4, _⟩ := app sm2 hd2 h0 h1 hn2
              exact ⟨.int c, rfl, _, _, rfl, rfl, ⟨by decide, by decide⟩, ⟨_, _, _, _, rfl⟩, g1, ds', g2, g3, g4⟩
          · exact ⟨⟨_, _, _, _, rfl⟩, sm2, ds2, ep2, hd2, by omega⟩
        · rintro σ H2 ⟨⟨sd, x4, c, x6, rfl⟩, sm2, ds2, ep2, hd2, hn2⟩
          exact ⟨⟨_, _, _, _, rfl⟩, sm2, ds2, ep2, hd2, by omega⟩
      · refine ⟨.ref p, rfl, .inl ⟨rfl, _, SqL.of ep⟩, .int cell, rfl, .inl ⟨_, rfl, _, _, rfl, rfl, (by show (0 : Int) < 1000003; decide), .int (0 + (i : Int)), rfl, _, _, rfl, rfl, .inl ⟨by decide, by decide⟩, _, _, rfl, fun r h0 h1 => ⟨p, _, _, rfl, rfl, ep, ?_, ?_⟩⟩⟩
        · rw [List.length_map]
          exact Nat.lt_of_le_of_lt (show ds.length ≤ 10000 by omega) (by decide)
        · obtain ⟨g1, ds', g2, g3, g4, _⟩ := app sm hd h0 h1 hn
          refine ⟨.ref p, rfl, .inl ⟨rfl, _, SqL.of g2⟩, .int cell, rfl, .inl ⟨_, rfl, _, _, rfl, rfl, (by show (0 : Int) < 1000003; decide), .int (0 + (i : Int)), rfl, _, _, rfl, rfl, .inl ⟨by decide, by decide⟩, _, _, rfl, rfl, _, _, rfl, fun r2 h2 h3 => ⟨p, _, _, rfl, rfl, g2, ?_, ?_⟩⟩⟩
          · rw [List.length_map]
            exact Nat.lt_of_le_of_lt (show ds'.length ≤ 10000 by omega) (by decide)
          · obtain ⟨k1, ds'', k2, k3, k4, _⟩ := app g1 g3 h2 h3 g4
            exact ⟨⟨_, _, _, _, rfl⟩, k1, ds'', k2, k3, by omega⟩
    · rintro σ H1 ⟨⟨sd, x4, x5, x6, rfl⟩, sm, ds, ep, hd, hn⟩
      refine ⟨.int 35, rfl, 35, rfl, by decide, by decide, for_range (lo := 0) (n := 35) (fun t σ H' => (∃ (x4 x5 x6 : Option V), σ = [some (.ref a), some (.int 35), some (.ref p), some (.int sd), x4, x5, x6]) ∧ Same H H' ∧ ∃ ds', H' p = some (.lst (ds'.map V.int)) ∧ Drw ds' ∧ ds'.length = ds.length + t)
        ⟨⟨_, _, _, rfl⟩, sm, ds, ep, hd, rfl⟩ ?_ ?_⟩
      · rintro t σ H2 ht ⟨⟨x4, x5, x6, rfl⟩, sm2, ds2, ep2, hd2, hn2⟩
        refine ⟨.ref p, rfl, .inl ⟨rfl, _, SqL.of ep2⟩, .int sd, rfl, .int (0 + (t : Int)), rfl, _, _, rfl, rfl, _, _, rfl, fun r h0 h1 => ⟨p, _, _, rfl, rfl, ep2, ?_, ?_⟩⟩
        · rw [List.length_map]
          exact Nat.lt_of_le_of_lt (show ds2.length ≤ 10000 by omega) (by decide)
        · obtain ⟨g1, ds', g2, g3, g4, g5⟩ := app sm2 hd2 h0 h1 (Nat.le_refl _)
          exact ⟨⟨_, _, _, rfl⟩, g1, ds', g2, g3, by omega⟩
      · rintro σ H2 ⟨⟨x4, x5, x6, rfl⟩, sm2, ds2, ep2, hd2, hn2⟩
        refine ⟨.ref p, rfl, .int 35, rfl, 35, rfl, p, _, rfl, SqL.of ep2, fun c2 nc2 => ?_⟩
        have e2 : cutV (ds2.map V.int) none (some 35) = (ds2.take 35).map V.int := by
          rw [List.map_take]
          exact cut_take (m := 35) (by rw [List.length_map]; omega)
        rw [e2]
        refine q _ c2 (ds2.take 35) (sm2.trans (same_upd nc2)) (sm2.free nc2) upd_same ?_ (fun d hd => hd2 d (List.mem_of_mem_take hd))
        rw [List.length_take]
        omega
end
end Stc
end

/-! ## W9 -/
section
set_option Elab.async false
set_option linter.all false
set_option maxRecDepth 100000
set_option maxHeartbeats 4000000
namespace Stc
open PySem PySem.Spec PyProof.Rows L2 StR
theorem enc_snoc (c : Cub) (x : Sg) : (enc c ++ sgS x : Str) = enc (c ++ [x]) := by
  show Str.mk ((c.map Sg.code).toArray ++ #[x.code]) = Str.mk ((c ++ [x]).map Sg.code).toArray
  congr 1
  apply Array.toList_inj.mp
  simp
theorem enc_nil : (Str.ofString "" : Str) = enc [] := by decide +kernel
theorem g_left {c d : Cub} {i : Nat} (h : i < c.length) : g (c ++ d) i = g c i := by
  unfold g
  rw [List.getD_eq_getElem?_getD, List.getD_eq_getElem?_getD, List.getElem?_append_left h]
theorem g_last (c : Cub) (x : Sg) : g (c ++ [x]) c.length = x := by
  unfold g
  rw [List.getD_eq_getElem?_getD, List.getElem?_append_right (Nat.le_refl _), Nat.sub_self]
  rfl
theorem IsPt.snoc {c : Cub} {x : Sg} (h : IsPt c) (hx : x ≠ .d) : IsPt (c ++ [x]) := fun i hi => by
  rw [List.length_append] at hi
  have hi : i < c.length + 1 := hi
  by_cases e : i < c.length
  · rw [g_left e]; exact h i e
  · have e2 : i = c.length := by omega
    rw [e2, g_last]; exact hx
theorem isPt_nil : IsPt [] := fun i hi => absurd hi (Nat.not_lt_zero i)
theorem pick3 {r : Int} (h0 : 0 ≤ r) (h1 : r < 3) : ∃ x : Sg, atI (Str.ofString "01-").cps.toList r = some x.code := by
  have e : (Str.ofString "01-").cps.toList = [48, 49, 45] := by decide +kernel
  rw [e]
  have z : r = 0 ∨ r = 1 ∨ r = 2 := by omega
  rcases z with rfl | rfl | rfl
  · exact ⟨.z, by decide⟩
  · exact ⟨.o, by decide⟩
  · exact ⟨.d, by decide⟩
theorem pick2 {r : Int} (h0 : 0 ≤ r) (h1 : r < 2) : ∃ x : Sg, atI (Str.ofString "01").cps.toList r = some x.code ∧ x ≠ .d ∧ (x ≠ .o → r = 0) := by
  have e : (Str.ofString "01").cps.toList = [48, 49] := by decide +kernel
  rw [e]
  have z : r = 0 ∨ r = 1 := by omega
  rcases z with rfl | rfl
  · exact ⟨.z, by decide, by decide, fun _ => rfl⟩
  · exact ⟨.o, by decide, by decide, fun h => absurd rfl h⟩
theorem sizeline : sizeLine = 16777216 := by decide
theorem int2 (n : Nat) : ((n : Nat) : Int).toNat = n := Int.toNat_natCast n
section
variable {P : Program} {w : World} {K : PySem.W.Frag} {mg : Str → Option Value} {base : Heap}
/-! ### cubes and points out of numbers -/
def spLCube : Sp := fun vs H Q _ => ∃ (num : Int) (n : Nat), vs = [.int num, .int n] ∧ n ≤ 4 ∧ ∀ c : Cub, c.length = n → Q (ev c) H
theorem ok_law_cube {k : Nat} (T : Txt K mg) : Ok P w K mg base (k + 1) "_law_cube" ["_law_number", "_law_n"] spLCube := T.d_law_cube.ok fun f fd F => by
  refine F.ok c_law_cube (fun vs H Q E h => ?_) (fun cdv A outer s H vs Q E hr h => ?_)
  · obtain ⟨num, n, rfl, _⟩ := h
    rfl
  · obtain ⟨num, n, rfl, hn, q⟩ := h
    have nd := c_law_cube.nd
    refine ⟨_, pss_cons (ps_set (i := 2) nd rfl (.inl rfl) pe_str)
      (pss_cons (ps_for PassesOwn.never rfl (pi_range1 (by rfl) T.bi.rng (pa_cons (pv 1) pa_nil)) (pg_name (i := 3) nd rfl (.inl rfl))
        (pss_cons (ps_set (i := 2) nd rfl (.inl rfl) (pe_op op_add_str (pv 2) (pe_ix ix_str pe_str (pe_op op_mod (pe_callTy call_int1 (by rfl) T.bi.int (by decide +kernel) (pa_cons (pv 0) pa_nil)) pe_int) (fun _ _ => rfl))))
        (pss_one (ps_set (i := 0) nd rfl (.inl rfl) (pe_op op_fdiv (pv 0) pe_int)))))
      (pss_one (ps_ret (pv 2)))), ?_⟩
    refine ⟨.int n, rfl, n, rfl, by omega, by omega, ?_⟩
    rw [int2]
    refine for_range (lo := 0) (n := n) (fun i σ H' => (∃ (num : Int) (c : Cub) (x : Option V), σ = [some (.int num), some (.int n), some (ev c), x] ∧ c.length = i) ∧ H' = H)
      ⟨⟨num, [], none, by rw [show ev [] = V.str (Str.ofString "") from congrArg V.str enc_nil.symm]; rfl, rfl⟩, rfl⟩ ?_ ?_
    · rintro i σ H1 hi ⟨⟨num, c, x, rfl, hc⟩, rfl⟩
      obtain ⟨h0, h1⟩ := modb num (m := 3) (by decide)
      obtain ⟨y, hy⟩ := pick3 h0 h1
      refine ⟨ev c, rfl, .int num, rfl, .inl ⟨_, rfl, _, _, rfl, rfl, (by show (0 : Int) < 3; decide), _, _, _, rfl, rfl, (by rw [sizeline]; decide +kernel), hy, _, _, rfl, rfl, ?_, .int num, rfl, _, _, rfl, rfl, ⟨by decide, by decide⟩, ⟨num / 3, c ++ [y], some (.int (0 + (i : Int))), ?_, ?_⟩, rfl⟩⟩
      · show (enc c).length + 1 ≤ sizeLine
        rw [enc_len, sizeline]; omega
      · show [_, _, some (V.str (enc c ++ sgS y)), _] = _
        rw [enc_snoc]
      · rw [List.length_append, hc]; rfl
    · rintro σ H1 ⟨⟨num, c, x, rfl, hc⟩, rfl⟩
      exact ⟨_, rfl, q c hc⟩
def spLPoint : Sp := fun vs H Q _ => ∃ (num : Int) (n : Nat), vs = [.int num, .int n] ∧ n ≤ 4 ∧ ∀ c : Cub, c.length = n → IsPt c → (0 < num → num < 2 ^ n → ∃ i, i < n ∧ g c i = .o) → Q (ev c) H
theorem ok_law_point {k : Nat} (T : Txt K mg) : Ok P w K mg base (k + 1) "_law_point" ["_law_number", "_law_n"] spLPoint := T.d_law_point.ok fun f fd F => by
  refine F.ok c_law_point (fun vs H Q E h => ?_) (fun cdv A outer s H vs Q E hr h => ?_)
  · obtain ⟨num, n, rfl, _⟩ := h
    rfl
  · obtain ⟨num0, n, rfl, hn, q⟩ := h
    have nd := c_law_point.nd
    refine ⟨_, pss_cons (ps_set (i := 2) nd rfl (.inl rfl) pe_str)
      (pss_cons (ps_for PassesOwn.never rfl (pi_range1 (by rfl) T.bi.rng (pa_cons (pv 1) pa_nil)) (pg_name (i := 3) nd rfl (.inl rfl))
        (pss_cons (ps_set (i := 2) nd rfl (.inl rfl) (pe_op op_add_str (pv 2) (pe_ix ix_str pe_str (pe_op op_mod (pe_callTy call_int1 (by rfl) T.bi.int (by decide +kernel) (pa_cons (pv 0) pa_nil)) pe_int) (fun _ _ => rfl))))
        (pss_one (ps_set (i := 0) nd rfl (.inl rfl) (pe_op op_fdiv (pv 0) pe_int)))))
      (pss_one (ps_ret (pv 2)))), ?_⟩
    refine ⟨.int n, rfl, n, rfl, by omega, by omega, ?_⟩
    rw [int2]
    refine for_range (lo := 0) (n := n) (fun i σ H' => (∃ (num : Int) (c : Cub) (x : Option V), σ = [some (.int num), some (.int n), some (ev c), x] ∧ c.length = i ∧ IsPt c ∧ ((∀ j, j < i → g c j ≠ .o) → num0 = 2 ^ i * num)) ∧ H' = H)
      ⟨⟨num0, [], none, by rw [show ev [] = V.str (Str.ofString "") from congrArg V.str enc_nil.symm]; rfl, rfl, isPt_nil, fun _ => by rw [Int.pow_zero, Int.one_mul]⟩, rfl⟩ ?_ ?_
    · rintro i σ H1 hi ⟨⟨num, c, x, rfl, hc, hp, hz⟩, rfl⟩
      obtain ⟨h0, h1⟩ := modb num (m := 2) (by decide)
      obtain ⟨y, hy, hyd, hyo⟩ := pick2 h0 h1
      refine ⟨ev c, rfl, .int num, rfl, .inl ⟨_, rfl, _, _, rfl, rfl, (by show (0 : Int) < 2; decide), _, _, _, rfl, rfl, (by rw [sizeline]; decide +kernel), hy, _, _, rfl, rfl, ?_, .int num, rfl, _, _, rfl, rfl, ⟨by decide, by decide⟩, ⟨num / 2, c ++ [y], some (.int (0 + (i : Int))), ?_, ?_, hp.snoc hyd, fun hno => ?_⟩, rfl⟩⟩
      · show (enc c).length + 1 ≤ sizeLine
        rw [enc_len, sizeline]; omega
      · show [_, _, some (V.str (enc c ++ sgS y)), _] = _
        rw [enc_snoc]
      · rw [List.length_append, hc]; rfl
      · have e1 := hz fun j hj => by
          have z := hno j (by omega)
          rw [g_left (by omega)] at z
          exact z
        have e2 := hyo (by
          have z := hno i (by omega)
          rw [← hc, g_last] at z
          exact z)
        have e3 : num = 2 * (num / 2) := by omega
        rw [e1, Int.pow_succ, Int.mul_assoc, ← e3]
    · rintro σ H1 ⟨⟨num, c, x, rfl, hc, hp, hz⟩, rfl⟩
      refine ⟨_, rfl, q c hc hp fun p0 p1 => ?_⟩
      by_cases h : ∃ i, i < n ∧ g c i = .o
      · exact h
      · exfalso
        have e1 := hz fun j hj z => h ⟨j, hj, z⟩
        have z : n = 0 ∨ n = 1 ∨ n = 2 ∨ n = 3 ∨ n = 4 := by omega
        rcases z with rfl | rfl | rfl | rfl | rfl
        · have e2 : (2 : Int) ^ 0 = 1 := by decide
          rw [e2] at e1 p1; omega
        · have e2 : (2 : Int) ^ 1 = 2 := by decide
          rw [e2] at e1 p1; omega
        · have e2 : (2 : Int) ^ 2 = 4 := by decide
          rw [e2] at e1 p1; omega
        · have e2 : (2 : Int) ^ 3 = 8 := by decide
          rw [e2] at e1 p1; omega
        · have e2 : (2 : Int) ^ 4 = 16 := by decide
          rw [e2] at e1 p1; omega
/-! ### in, joined, covers -/
def spLIn : Sp := fun vs H Q _ => ∃ (c d : Cub), vs = [ev c, ev d] ∧ c.length ≤ d.length ∧ d.length ≤ 1000 ∧ Q (.bl (decide (Inside c d))) H
theorem ok_law_in {k : Nat} (T : Txt K mg) : Ok P w K mg base (k + 1) "_law_in" ["_law_cube_here", "_law_inner"] spLIn := T.d_law_in.ok fun f fd F => by
  refine F.ok c_law_in (fun vs H Q E h => ?_) (fun cdv A outer s H vs Q E hr h => ?_)
  · obtain ⟨c, d, rfl, _⟩ := h
    rfl
  · obtain ⟨c, d, rfl, hcd, hd, q⟩ := h
    have nd := c_law_in.nd
    refine ⟨_, pss_cons (ps_for PassesOwn.never rfl (pi_range1 (by rfl) T.bi.rng (pa_cons (pe_callB call_len_str (by rfl) T.bi.len PySem.boot_len (pa_cons (pv 0) pa_nil)) pa_nil)) (pg_name (i := 2) nd rfl (.inl rfl))
        (pss_one (ps_if (PW.pt (pw_and (pt_cmpR op_ne (pe_ix ix_str (pv 0) (pv 2) (fun _ _ => rfl)) pe_str (nomark _)) (pw_and1 (pt_cmpR op_ne (pe_ix ix_str (pv 0) (pv 2) (fun _ _ => rfl)) (pe_ix ix_str (pv 1) (pv 2) (fun _ _ => rfl)) (nomark _)))))
          (pss_one (ps_ret pe_bl)) pss_nil)))
      (pss_one (ps_ret pe_bl)), ?_⟩
    refine ⟨ev c, rfl, enc c, rfl, small (by rw [enc_len]; omega), _, rfl, by rw [enc_len]; omega, by rw [enc_len]; omega, ?_⟩
    rw [int2, enc_len]
    refine for_range (lo := 0) (n := c.length) (fun i σ H' => (∃ x, σ = [some (ev c), some (ev d), x]) ∧ H' = H ∧ ∀ j, j < i → g c j = .d ∨ g c j = g d j)
      ⟨⟨none, rfl⟩, rfl, fun j hj => by omega⟩ ?_ ?_
    · rintro i σ H1 hi ⟨⟨x, rfl⟩, rfl, hp⟩
      have i0 : (0 : Int) + (i : Nat) = (i : Nat) := Int.zero_add _
      rw [i0]
      refine ⟨ev c, rfl, .int (i : Nat), rfl, enc c, i, (g c i).code, rfl, rfl, small (by rw [enc_len]; omega), enc_at hi, rfl, _, rfl, ifN (fun h1 => ?_) (fun h1 => iteF ?_)⟩
      · refine ⟨ev c, rfl, .int (i : Nat), rfl, enc c, i, (g c i).code, rfl, rfl, small (by rw [enc_len]; omega), enc_at hi, ev d, rfl, .int (i : Nat), rfl, enc d, i, (g d i).code, rfl, rfl, small (by rw [enc_len]; exact hd), enc_at (by omega), rfl, _, rfl, ifN (fun h2 => ?_) (fun h2 => ?_)⟩
        · have n1 : ¬ Inside c d := fun z => by
            rcases z i hi with z | z
            · refine h1 ?_
              rw [z]
              exact (congrArg V.str s_dash).symm
            · exact h2 (sv_eq.mpr z)
          rw [decide_eq_false n1] at q
          exact q
        · exact ⟨⟨_, rfl⟩, rfl, lt_succ hp (.inr (sv_eq.mp h2))⟩
      · exact ⟨⟨_, rfl⟩, rfl, lt_succ hp (.inl (sgS_inj (V.str.inj (h1.trans (congrArg V.str s_dash)))))⟩
    · rintro σ H1 ⟨⟨x, rfl⟩, rfl, hp⟩
      rw [decide_eq_true (show Inside c d from hp)] at q
      exact q
def spLJoined : Sp := fun vs H Q _ => ∃ (c d : Cub), vs = [ev c, ev d] ∧ c.length ≤ d.length ∧ d.length ≤ 1000 ∧ Q (ev (joinF c d)) H
theorem ok_law_joined {k : Nat} (T : Txt K mg) : Ok P w K mg base (k + 1) "_law_joined" ["_law_one", "_law_other"] spLJoined := T.d_law_joined.ok fun f fd F => by
  refine F.ok c_law_joined (fun vs H Q E h => ?_) (fun cdv A outer s H vs Q E hr h => ?_)
  · obtain ⟨c, d, rfl, _⟩ := h
    rfl
  · obtain ⟨c, d, rfl, hcd, hd, q⟩ := h
    have nd := c_law_joined.nd
    refine ⟨_, pss_cons (ps_set (i := 2) nd rfl (.inl rfl) pe_str)
      (pss_cons (ps_for PassesOwn.never rfl (pi_range1 (by rfl) T.bi.rng (pa_cons (pe_callB call_len_str (by rfl) T.bi.len PySem.boot_len (pa_cons (pv 0) pa_nil)) pa_nil)) (pg_name (i := 3) nd rfl (.inl rfl))
        (pss_one (ps_if (pt_cmpR op_eq (pe_ix ix_str (pv 0) (pv 3) (fun _ _ => rfl)) (pe_ix ix_str (pv 1) (pv 3) (fun _ _ => rfl)) (nomark _))
          (pss_one (ps_set (i := 2) nd rfl (.inl rfl) (pe_op op_add_str (pv 2) (pe_ix ix_str (pv 0) (pv 3) (fun _ _ => rfl)))))
          (pss_one (ps_set (i := 2) nd rfl (.inl rfl) (pe_op op_add_str (pv 2) pe_str))))))
      (pss_one (ps_ret (pv 2)))), ?_⟩
    refine ⟨ev c, rfl, enc c, rfl, small (by rw [enc_len]; omega), _, rfl, by rw [enc_len]; omega, by rw [enc_len]; omega, ?_⟩
    rw [int2, enc_len]
    refine for_range (lo := 0) (n := c.length) (fun i σ H' => (∃ x, σ = [some (ev c), some (ev d), some (ev ((List.range i).map fun i => if g c i = g d i then g c i else .d)), x]) ∧ H' = H)
      ⟨⟨none, ?_⟩, rfl⟩ ?_ ?_
    · show _ = [_, _, some (V.str (enc [])), _]
      rw [← enc_nil]; rfl
    · rintro i σ H1 hi ⟨⟨x, rfl⟩, rfl⟩
      have i0 : (0 : Int) + (i : Nat) = (i : Nat) := Int.zero_add _
      rw [i0]
      have ll : (enc ((List.range i).map fun i => if g c i = g d i then g c i else .d)).length + 1 ≤ sizeLine := by
        rw [enc_len, List.length_map, List.length_range]; exact small (by omega)
      refine ⟨ev c, rfl, .int (i : Nat), rfl, enc c, i, (g c i).code, rfl, rfl, small (by rw [enc_len]; omega), enc_at hi, ev d, rfl, .int (i : Nat), rfl, enc d, i, (g d i).code, rfl, rfl, small (by rw [enc_len]; exact hd), enc_at (by omega), rfl, _, rfl, ifD (fun h => ?_) (fun h => ?_)⟩
      · refine ⟨_, rfl, ev c, rfl, .int (i : Nat), rfl, enc c, i, (g c i).code, rfl, rfl, small (by rw [enc_len]; omega), enc_at hi, _, _, rfl, rfl, ll, ⟨some (.int (i : Nat)), ?_⟩, rfl⟩
        show [_, _, some (V.str (enc _ ++ sgS (g c i))), _] = _
        rw [enc_snoc, List.range_succ, List.map_append, List.map_singleton, if_pos (sv_eq.mp h)]
      · refine ⟨_, rfl, _, _, rfl, rfl, ll, ⟨some (.int (i : Nat)), ?_⟩, rfl⟩
        show [_, _, some (V.str (enc _ ++ Str.ofString "-")), _] = _
        rw [s_dash, enc_snoc, List.range_succ, List.map_append, List.map_singleton, if_neg fun z => h (sv_eq.mpr z)]
    · rintro σ H1 ⟨⟨x, rfl⟩, rfl⟩
      exact ⟨_, rfl, q⟩
def spLCovers : Sp := fun vs H Q _ => ∃ (b : Addr) (cov : List Cub) (p : Cub), vs = [.ref b, ev p] ∧ Sq1 H b (cov.map ev) ∧ (∀ c, c ∈ cov → c.length ≤ p.length) ∧ p.length ≤ 1000 ∧ Q (.bl (decide (Reach cov p))) H
theorem ok_law_covers {k : Nat} (T : Txt K mg) : Ok P w K mg base (k + 2) "_law_covers" ["_law_cover_here", "_law_point_here"] spLCovers := T.d_law_covers.ok fun f fd F => by
  obtain ⟨f1, fd1, G1, m1, k1, b1⟩ := ok_law_in (P := P) (w := w) (base := base) (k := k) T
  refine F.ok c_law_covers (fun vs H Q E h => ?_) (fun cdv A outer s H vs Q E hr h => ?_)
  · obtain ⟨b, cov, p, rfl, _⟩ := h
    rfl
  · obtain ⟨b, cov, p, rfl, hb, hc, hp, q⟩ := h
    have nd := c_law_covers.nd
    refine ⟨_, pss_cons (ps_for PassesOwn.never rfl (pi_seqS (pv 0)) (pg_name (i := 2) nd rfl (.inl rfl))
        (pss_one (ps_if (pt_val (pe_call G1 hr (by rfl) m1 k1 b1 .nil pass0 (pa_cons (pv 2) (pa_cons (pv 1) pa_nil)))) (pss_one (ps_ret pe_bl)) pss_nil)))
      (pss_one (ps_ret pe_bl)), ?_⟩
    refine ⟨.ref b, rfl, b, _, rfl, hb, fun J wk => for_it wk (fun i σ H' => (∃ x, σ = [some (.ref b), some (ev p), x]) ∧ H' = H ∧ ∀ j, j < i → ¬ Inside (cu cov j) p) ⟨⟨none, rfl⟩, rfl, fun j hj => by omega⟩ (fun _ _ _ _ h => by rw [h.2.1]) ?_ ?_⟩
    · rintro i v σ H1 H2 hi ⟨⟨x, rfl⟩, rfl, hn⟩ ⟨rfl, hx⟩
      rw [List.length_map] at hi
      rw [cov_at hi] at hx
      have hx : v = ev (cu cov i) := (Option.some.inj hx).symm
      subst hx
      refine ⟨ev (cu cov i), rfl, ev p, rfl, cu cov i, p, rfl, hc _ (cu_mem hi), hp, _, rfl, ifD (fun h => ?_) (fun h => ?_)⟩
      · rw [decide_eq_true (show Reach cov p from ⟨_, cu_mem hi, h⟩)] at q
        exact q
      · exact ⟨⟨_, rfl⟩, rfl, lt_succ hn h⟩
    · rintro σ H1 ⟨⟨x, rfl⟩, rfl, hn⟩
      rw [List.length_map] at hn
      rw [decide_eq_false (show ¬ Reach cov p from fun ⟨c, hc, hi⟩ => by
        obtain ⟨j, hj, rfl⟩ := mem_cu hc
        exact hn j hj hi)] at q
      exact q
end
end Stc
end

/-! ## W10 -/
section
set_option Elab.async false
set_option linter.all false
set_option maxRecDepth 100000
set_option maxHeartbeats 4000000
namespace Stc
open PySem PySem.Spec PyProof.Rows L2 StR
def flip : Sg → Sg
  | .z => .o
  | .o => .z
  | .d => .d
def vl : Sg → Int
  | .o => 1
  | _ => 0
theorem flip_ne {x : Sg} (h : x ≠ .d) : flip x ≠ x ∧ flip x ≠ .d := by
  cases x
  · exact ⟨by decide, by decide⟩
  · exact ⟨by decide, by decide⟩
  · exact absurd rfl h
theorem int_sg {x : Sg} (h : x ≠ .d) : PySem.intText? (sgS x) = some (vl x) := by
  cases x
  · decide +kernel
  · decide +kernel
  · exact absurd rfl h
theorem pick10 {x : Sg} (h : x ≠ .d) : atI (Str.ofString "10").cps.toList (vl x) = some (flip x).code := by
  have e : (Str.ofString "10").cps.toList = [49, 48] := by decide +kernel
  rw [e]
  cases x
  · decide
  · decide
  · exact absurd rfl h
theorem pickm {n : Nat} (h1 : 1 ≤ n) (h2 : n ≤ 4) : atI [V.int 1, V.int 3, V.int 7, V.int 15] ((n : Int) - 1) = some (.int (2 ^ n - 1)) := by
  have z : n = 1 ∨ n = 2 ∨ n = 3 ∨ n = 4 := by omega
  rcases z with rfl | rfl | rfl | rfl <;> decide
theorem two_pow_pos' {n : Nat} (h1 : 1 ≤ n) (h2 : n ≤ 4) : (0 : Int) < 2 ^ n - 1 := by
  have z : n = 1 ∨ n = 2 ∨ n = 3 ∨ n = 4 := by omega
  rcases z with rfl | rfl | rfl | rfl <;> decide
section
variable {P : Program} {w : World} {K : PySem.W.Frag} {mg : Str → Option Value} {base : Heap}
def spLChange : Sp := fun vs H Q _ => ∃ (num : Int) (n : Nat), vs = [.int num, .int n] ∧ 1 ≤ n ∧ n ≤ 4 ∧
  ∀ (H' : Hp) (p : Addr) (s e : Cub), Same H H' → H p = none → H' p = some (.tup [ev s, ev e]) → s.length = n → e.length = n → IsPt s → IsPt e → s ≠ e → Q (.ref p) H'
theorem ok_law_change {k : Nat} (T : Txt K mg) : Ok P w K mg base (k + 2) "_law_change" ["_law_number", "_law_n"] spLChange := T.d_law_change.ok fun f fd F => by
  obtain ⟨f1, fd1, G1, m1, k1, b1⟩ := ok_law_point (P := P) (w := w) (base := base) (k := k) T
  refine F.ok c_law_change (fun vs H Q E h => ?_) (fun cdv A outer s H vs Q E hr h => ?_)
  · obtain ⟨num, n, rfl, _⟩ := h
    rfl
  · obtain ⟨num, n, rfl, n1, n4, q⟩ := h
    have nd := c_law_change.nd
    refine ⟨_, pss_cons (ps_set (i := 2) nd rfl (.inl rfl) (pe_call G1 hr (by rfl) m1 k1 b1 .nil pass0 (pa_cons (pv 0) (pa_cons (pv 1) pa_nil))))
      (pss_cons (ps_set (i := 3) nd rfl (.inl rfl) (pe_call G1 hr (by rfl) m1 k1 b1 .nil pass0 (pa_cons (pe_op op_add pe_int (pe_op op_mod (pe_callTy call_int1 (by rfl) T.bi.int (by decide +kernel) (pa_cons (pe_op op_fdiv (pv 0) pe_int) pa_nil))
          (pe_ix ix_list (pe_lst (pa_cons pe_int (pa_cons pe_int (pa_cons pe_int (pa_cons pe_int pa_nil))))) (pe_op op_sub (pv 1) pe_int) (fun _ _ => rfl)))) (pa_cons (pv 1) pa_nil))))
      (pss_cons (ps_set (i := 4) nd rfl (.inl rfl) pe_str)
      (pss_cons (ps_for PassesOwn.never rfl (pi_range1 (by rfl) T.bi.rng (pa_cons (pv 1) pa_nil)) (pg_name (i := 5) nd rfl (.inl rfl))
        (pss_one (ps_if (pt_cmpR op_eq (pe_ix ix_str (pv 3) (pv 5) (fun _ _ => rfl)) pe_str (nomark _))
          (pss_one (ps_set (i := 4) nd rfl (.inl rfl) (pe_op op_add_str (pv 4) (pe_ix ix_str pe_str (pe_callTy call_int_str (by rfl) T.bi.int (by decide +kernel) (pa_cons (pe_ix ix_str (pv 2) (pv 5) (fun _ _ => rfl)) pa_nil)) (fun _ _ => rfl)))))
          (pss_one (ps_set (i := 4) nd rfl (.inl rfl) (pe_op op_add_str (pv 4) (pe_ix ix_str (pv 2) (pv 5) (fun _ _ => rfl))))))))
      (pss_one (ps_ret (pe_tup (pa_cons (pv 2) (pa_cons (pv 4) pa_nil)))))))), ?_⟩
    refine ⟨.int num, rfl, .int n, rfl, num, n, rfl, n4, fun s ls ps _ => ?_⟩
    have mp := two_pow_pos' n1 n4
    obtain ⟨h0, h1⟩ := modb (num / 16) mp
    refine ⟨.int num, rfl, _, _, rfl, rfl, ⟨by decide, by decide⟩, .inl ⟨_, rfl, by show 4 ≤ sizeLine; decide, fun l nl => ⟨.int n, rfl, _, _, rfl, rfl, l, _, _, _, rfl, rfl, SqL.of upd_same, pickm n1 n4, _, _, rfl, rfl, mp, _, _, rfl, rfl, .int n, rfl, _, n, rfl, n4, fun mask lm pm hm => ?_⟩⟩⟩
    obtain ⟨i0, hi0, ho⟩ := hm (by omega) (by omega)
    have s1 : Same H (upd H l (.lst [.int 1, .int 3, .int 7, .int 15])) := same_upd nl
    refine ⟨.int n, rfl, n, rfl, by omega, by omega, ?_⟩
    rw [int2]
    refine for_range (lo := 0) (n := n) (fun i σ H' => (∃ (e : Cub) (x : Option V), σ = [some (.int num), some (.int n), some (ev s), some (ev mask), some (ev e), x] ∧ e.length = i ∧ IsPt e ∧ ∀ j, j < i → g mask j = .o → g e j ≠ g s j) ∧ H' = upd H l (.lst [.int 1, .int 3, .int 7, .int 15]))
      ⟨⟨[], none, (by rw [show ev [] = V.str (Str.ofString "") from congrArg V.str enc_nil.symm]; rfl), rfl, isPt_nil, fun j hj => by omega⟩, rfl⟩ ?_ ?_
    · rintro i σ H1 hi ⟨⟨e, x, rfl, le, pe, he⟩, rfl⟩
      have z0 : (0 : Int) + (i : Nat) = (i : Nat) := Int.zero_add _
      rw [z0]
      have sd := ps i (by omega)
      have le1 : (enc e).length + 1 ≤ sizeLine := by rw [enc_len]; exact small (by omega)
      have step : ∀ y : Sg, y ≠ .d → (g mask i = .o → y ≠ g s i) → ∃ (e' : Cub) (x : Option V), [some (V.int num), some (.int n), some (ev s), some (ev mask), some (V.str (enc e ++ sgS y)), some (.int (i : Nat))] = [some (.int num), some (.int n), some (ev s), some (ev mask), some (ev e'), x] ∧
          e'.length = i + 1 ∧ IsPt e' ∧ ∀ j, j < i + 1 → g mask j = .o → g e' j ≠ g s j := fun y hy hm => by
        refine ⟨e ++ [y], _, by rw [enc_snoc], by rw [List.length_append, le]; rfl, pe.snoc hy, lt_succ (fun j hj => ?_) ?_⟩
        · rw [g_left (by omega)]
          exact he j hj
        · rw [← le, g_last, le]
          exact hm
      refine ⟨ev mask, rfl, .int (i : Nat), rfl, enc mask, i, (g mask i).code, rfl, rfl, small (by rw [enc_len]; omega), enc_at (by omega), rfl, _, rfl, ifD (fun h => ?_) (fun h => ?_)⟩
      · refine ⟨ev e, rfl, ev s, rfl, .int (i : Nat), rfl, enc s, i, (g s i).code, rfl, rfl, small (by rw [enc_len]; omega), enc_at (by omega), _, vl (g s i), rfl, int_sg sd, (by show 1 ≤ 640; decide), _, _, _, rfl, rfl, (by rw [sizeline]; decide +kernel), pick10 sd, _, _, rfl, rfl, le1, ?_, rfl⟩
        exact step (flip (g s i)) (flip_ne sd).2 fun _ => (flip_ne sd).1
      · refine ⟨ev e, rfl, ev s, rfl, .int (i : Nat), rfl, enc s, i, (g s i).code, rfl, rfl, small (by rw [enc_len]; omega), enc_at (by omega), _, _, rfl, rfl, le1, ?_, rfl⟩
        refine step (g s i) sd fun z => absurd ?_ h
        rw [z]
        exact (congrArg V.str s_one).symm
    · rintro σ H1 ⟨⟨e, x, rfl, le, pe, he⟩, rfl⟩
      refine ⟨ev s, rfl, ev e, rfl, by show 2 ≤ sizeLine; decide, fun p np => ?_⟩
      refine q _ p s e (s1.trans (same_upd np)) (s1.free np) upd_same ls le ps pe fun z => ?_
      exact he i0 hi0 ho (by rw [z])
def spLCover : Sp := fun vs H Q _ => ∃ (a : Addr) (ds : List Int) (n m : Nat), vs = [.ref a, .int n, .int m] ∧ H a = some (.lst (ds.map V.int)) ∧ m ≤ ds.length ∧ m ≤ 12 ∧ n ≤ 4 ∧
  ∀ (H' : Hp) (p : Addr) (cov : List Cub), Same H H' → H p = none → H' p = some (.lst (cov.map ev)) → cov.length = m → (∀ c, c ∈ cov → c.length = n) → Q (.ref p) H'
theorem ok_law_cover {k : Nat} (T : Txt K mg) : Ok P w K mg base (k + 2) "_law_cover" ["_law_draws_here", "_law_n", "_law_many"] spLCover := T.d_law_cover.ok fun f fd F => by
  obtain ⟨f1, fd1, G1, m1, k1, b1⟩ := ok_law_cube (P := P) (w := w) (base := base) (k := k) T
  refine F.ok c_law_cover (fun vs H Q E h => ?_) (fun cdv A outer s H vs Q E hr h => ?_)
  · obtain ⟨a, ds, n, m, rfl, _⟩ := h
    rfl
  · obtain ⟨a, ds, n, m, rfl, ha, hm, m12, n4, q⟩ := h
    refine ⟨_, pss_one (ps_ret (pe_lc (own := [("_law_k", 3)]) (g := gName 3) (tt := tYes) rfl c_law_cover.nd (pi_range1 (by rfl) T.bi.rng (pa_cons (pv 2) pa_nil)) (blkOk_by (N := ["_law_draws_here", "_law_n", "_law_many", "_law_k"]) (sc := defScope s_law_cover) (by decide +kernel))
        (fun _ _ _ _ _ => pg_name (i := 3) c_law_cover.nd rfl (.inl rfl)) (fun _ _ _ _ _ => pts_nil)
        (fun _ _ _ _ _ => pe_call G1 hr (by rfl) m1 k1 b1 .nil pass0 (pa_cons (pe_ix ix_sq (pv 0) (pv 3) (fun _ _ => rfl)) (pa_cons (pv 1) pa_nil))))), ?_⟩
    refine ⟨.int m, rfl, m, rfl, by omega, by omega, fun D nD => ?_⟩
    rw [int2]
    refine lc_range (lo := 0) (n := m) (fun i H' => Same H H' ∧ ∃ cov : List Cub, H' D = some (.lst (cov.map ev)) ∧ cov.length = i ∧ ∀ c, c ∈ cov → c.length = n) ⟨same_upd nD, [], upd_same, rfl, fun c hc => absurd hc List.not_mem_nil⟩ ?_ ?_
    · rintro i H1 hi ⟨sm, cov, eD, lc, hc⟩
      have z0 : (0 : Int) + (i : Nat) = (i : Nat) := Int.zero_add _
      rw [z0]
      have hid : i < ds.length := by omega
      refine ⟨rfl, ?_⟩
      refine ⟨.ref a, rfl, .int (i : Nat), rfl, a, _, _, .int ds[i], rfl, rfl, .inl (sm _ _ ha), atI_nat (by rw [List.getElem?_map, List.getElem?_eq_getElem hid]; rfl), .int n, rfl, _, n, rfl, n4, fun c lcn => ?_⟩
      refine ⟨_, eD, ?_, same_set sm nD, cov ++ [c], ?_, ?_, ?_⟩
      · rw [List.length_map]; exact small1000 (by omega)
      · rw [upd_same, List.map_append]; rfl
      · rw [List.length_append, lc]; rfl
      · intro x hx
        rcases List.mem_append.mp hx with hx | hx
        · exact hc x hx
        · rw [List.mem_singleton.mp hx]; exact lcn
    · rintro H1 ⟨sm, cov, eD, lc, hc⟩
      exact q _ _ cov sm nD eD lc hc
/-! ### all points, as texts -/
def PtsN (n : Nat) (ps : List Cub) : Prop := ∀ c, c ∈ ps → c.length = n ∧ IsPt c
theorem PtsN.snoc {n : Nat} {ps : List Cub} {c : Cub} (h : PtsN n ps) (hl : c.length = n) (hp : IsPt c) : PtsN n (ps ++ [c]) := fun x hx => by
  rcases List.mem_append.mp hx with hx | hx
  · exact h x hx
  · rw [List.mem_singleton.mp hx]; exact ⟨hl, hp⟩
def spLStrings : Sp := fun vs H Q _ => ∃ (n : Nat), vs = [.int n, .str (Str.ofString "01")] ∧ n ≤ 3 ∧
  ∀ (H' : Hp) (p : Addr) (ps : List Cub), Same H H' → H p = none → H' p = some (.lst (ps.map ev)) → PtsN n ps → ps.length ≤ 8 → Q (.ref p) H'
theorem sign01 {j : Nat} {c : Nat} (h : (Str.ofString "01").cps[j]? = some c) : ∃ x : Sg, c = x.code ∧ x ≠ .d := by
  have e : (Str.ofString "01").cps = #[48, 49] := by decide +kernel
  rw [e] at h
  have hj : j < 2 := (Array.getElem?_eq_some_iff.mp h).1
  have z : j = 0 ∨ j = 1 := by omega
  rcases z with rfl | rfl
  · exact ⟨.z, (Option.some.inj h).symm, by decide⟩
  · exact ⟨.o, (Option.some.inj h).symm, by decide⟩
theorem ok_law_strings {k : Nat} (T : Txt K mg) : Ok P w K mg base (k + 1) "_law_strings" ["_law_n", "_law_signs"] spLStrings := T.d_law_strings.ok fun f fd F => by
  refine F.ok c_law_strings (fun vs H Q E h => ?_) (fun cdv A outer s H vs Q E hr h => ?_)
  · obtain ⟨n, rfl, _⟩ := h
    rfl
  · obtain ⟨n, rfl, n3, q⟩ := h
    have nd := c_law_strings.nd
    refine ⟨_, pss_cons (ps_set (i := 2) nd rfl (.inl rfl) (pe_lst (pa_cons pe_str pa_nil)))
      (pss_cons (ps_for PassesOwn.never rfl (pi_range1 (by rfl) T.bi.rng (pa_cons (pv 0) pa_nil)) (pg_name (i := 3) nd rfl (.inl rfl))
        (pss_cons (ps_set (i := 4) nd rfl (.inl rfl) (pe_lst pa_nil))
        (pss_cons (ps_for PassesOwn.never rfl (pi_list (pv 2)) (pg_name (i := 5) nd rfl (.inl rfl))
          (pss_one (ps_for PassesOwn.never rfl (pi_str (pv 1)) (pg_name (i := 6) nd rfl (.inl rfl))
            (pss_one (ps_expr (pe_bm PySem.F.plainAttrs_list PySem.F.slot_list_append PySem.F.type_list_append mt_append (pv 4) (pa_cons (pe_op op_add_str (pv 5) (pv 6)) pa_nil)))))))
        (pss_one (ps_set (i := 2) nd rfl (.inl rfl) (pv 4))))))
      (pss_one (ps_ret (pv 2)))), ?_⟩
    refine ⟨by show 1 ≤ sizeLine; decide, fun r0 nr0 => ?_⟩
    refine ⟨.int n, rfl, n, rfl, by omega, by omega, ?_⟩
    rw [int2]
    refine for_range (lo := 0) (n := n) (fun i σ H' => (∃ (r : Addr) (ps : List Cub) (x3 x4 x5 x6 : Option V), σ = [some (.int n), some (.str (Str.ofString "01")), some (.ref r), x3, x4, x5, x6] ∧ H' r = some (.lst (ps.map ev)) ∧ PtsN i ps ∧ ps.length ≤ 2 ^ i ∧ H r = none) ∧ Same H H')
      ⟨⟨r0, [[]], none, none, none, none, rfl, ?_, ?_, by decide, nr0⟩, same_upd nr0⟩ ?_ ?_
    · rw [upd_same]
      show some (HO.lst [V.str (Str.ofString "")]) = some (HO.lst [V.str (enc [])])
      rw [enc_nil]
    · intro c hc
      rw [List.mem_singleton.mp hc]
      exact ⟨rfl, isPt_nil⟩
    · rintro i σ H1 hi ⟨⟨r, ps, x3, x4, x5, x6, rfl, er, hp, lp, nr⟩, sm⟩
      have p4 : 2 ^ i ≤ 4 := by
        have z : i = 0 ∨ i = 1 ∨ i = 2 := by omega
        rcases z with rfl | rfl | rfl <;> decide
      refine ⟨Nat.zero_le _, fun lo nlo => ?_⟩
      have s1 : Same H1 (upd H1 lo (.lst [])) := same_upd nlo
      have er1 := s1 _ _ er
      have nrl : r ≠ lo := ne_of_none er nlo
      refine ⟨.ref r, rfl, r, rfl, ⟨_, SqL.of er1⟩, for_list (K := K) (a := r) (xs := ps.map ev) (fun t σ H' => (∃ (x3 x5 x6 : Option V), σ = [some (.int n), some (.str (Str.ofString "01")), some (.ref r), x3, some (.ref lo), x5, x6]) ∧ SameX lo (upd H1 lo (.lst [])) H' ∧ ∃ qs : List Cub, H' lo = some (.lst (qs.map ev)) ∧ PtsN (i + 1) qs ∧ qs.length ≤ 2 * t)
        ⟨⟨_, _, _, rfl⟩, SameX.refl _ _, [], upd_same, fun c hc => absurd hc List.not_mem_nil, Nat.le_refl _⟩ (fun t σ H' _ h => SqL.of (h.2.1 _ _ nrl er1)) ?_ ?_⟩
      · rintro t v σ H2 ht ⟨⟨x3, x5, x6, rfl⟩, sx, qs, eq, hq, lq⟩
        have htl : t < ps.length := by
          have z := (List.getElem?_eq_some_iff.mp ht).1
          rw [List.length_map] at z
          exact z
        rw [List.getElem?_map, List.getElem?_eq_getElem htl] at ht
        have ht : v = ev ps[t] := (Option.some.inj ht).symm
        subst ht
        obtain ⟨lpt, ppt⟩ := hp _ (List.getElem_mem htl)
        generalize ps[t] = pt at lpt ppt
        refine ⟨.str (Str.ofString "01"), rfl, Str.ofString "01", rfl, for_it walk_str (fun j σ H' => (∃ (x3 x6 : Option V), σ = [some (.int n), some (.str (Str.ofString "01")), some (.ref r), x3, some (.ref lo), some (ev pt), x6]) ∧ SameX lo (upd H1 lo (.lst [])) H' ∧ ∃ qs : List Cub, H' lo = some (.lst (qs.map ev)) ∧ PtsN (i + 1) qs ∧ qs.length ≤ 2 * t + j)
          ⟨⟨_, _, rfl⟩, sx, qs, eq, hq, lq⟩ (fun _ _ _ _ _ => trivial) ?_ ?_⟩
        · rintro j v σ H3 H4 hj ⟨⟨x3, x6, rfl⟩, sx3, qs3, eq3, hq3, lq3⟩ ⟨rfl, c, hc, rfl⟩
          obtain ⟨y, rfl, hy⟩ := sign01 hc
          have hj2 : j < 2 := hj
          refine ⟨.ref lo, rfl, .inl ⟨rfl, _, SqL.of eq3⟩, ev pt, rfl, .str (sgS y), rfl, _, _, rfl, rfl, ?_, lo, _, _, rfl, rfl, eq3, ?_, ⟨_, _, rfl⟩, sx3.set, qs3 ++ [pt ++ [y]], ?_, hq3.snoc ?_ (ppt.snoc hy), ?_⟩
          · show (enc pt).length + 1 ≤ sizeLine
            rw [enc_len]; exact small (by omega)
          · rw [List.length_map]; exact small1000 (by omega)
          · rw [upd_same, List.map_append]
            show some (HO.lst (qs3.map ev ++ [V.str (enc pt ++ sgS y)])) = _
            rw [enc_snoc]; rfl
          · rw [List.length_append, lpt]; rfl
          · rw [List.length_append]; show qs3.length + 1 ≤ _; omega
        · rintro σ H3 ⟨⟨x3, x6, rfl⟩, sx3, qs3, eq3, hq3, lq3⟩
          have z2 : (Str.ofString "01").cps.size = 2 := by decide +kernel
          rw [z2] at lq3
          exact ⟨⟨_, _, _, rfl⟩, sx3, qs3, eq3, hq3, by omega⟩
      · rintro σ H2 ⟨⟨x3, x5, x6, rfl⟩, sx, qs, eq, hq, lq⟩
        rw [List.length_map] at lq
        refine ⟨.ref lo, rfl, ⟨lo, qs, _, _, _, _, rfl, eq, hq, ?_, sm.free nlo⟩, sm.trans (same_in s1 sx nlo)⟩
        rw [Nat.pow_succ]
        omega
    · rintro σ H1 ⟨⟨r, ps, x3, x4, x5, x6, rfl, er, hp, lp, nr⟩, sm⟩
      refine ⟨.ref r, rfl, q _ r ps sm nr er hp (Nat.le_trans lp ?_)⟩
      have z : n = 0 ∨ n = 1 ∨ n = 2 ∨ n = 3 := by omega
      rcases z with rfl | rfl | rfl | rfl <;> decide
end
end Stc
end

/-! ## W11 -/
section
set_option Elab.async false
set_option linter.all false
set_option maxRecDepth 100000
set_option maxHeartbeats 4000000
namespace Stc
open PySem PySem.Spec PyProof.Rows L2 StR
/-- the dict of turned wires at d: those of T -/
def Tn (H : Hp) (d : Addr) (m : Nat) (T : List Wr) : Prop := ∃ kvs : List (List Key × V), H d = some (.dT kvs) ∧ kvs.length ≤ m ∧ ∀ x : Wr, (valV kvs [Sum.inl (x.1 : Int), Sum.inl (x.2 : Int)]).isSome = decide (x ∈ T)
theorem Tn.same {H H' : Hp} {d : Addr} {m : Nat} {T : List Wr} (h : Tn H d m T) (s : Same H H') : Tn H' d m T := by
  obtain ⟨kvs, e, l, v⟩ := h
  exact ⟨kvs, s _ _ e, l, v⟩
def bs (b : Bool) : Sg := if b = true then .o else .z
theorem bs_inj {a b : Bool} (h : bs a = bs b) : a = b := by
  cases a <;> cases b <;> first | rfl | cases h
section
variable {P : Program} {w : World} {K : PySem.W.Frag} {mg : Str → Option Value} {base : Heap}
theorem ok_law_wires {k : Nat} (T : Txt K mg) : Ok P w K mg base (k + 1) "_law_wires" ["_law_change_here", "_law_cover_here"] spWires := T.d_law_wires.ok fun f fd F => by
  refine F.ok c_law_wires (fun vs H Q E h => ?_) (fun cdv A outer s H vs Q E hr h => ?_)
  · obtain ⟨a, b, n, s, e, cov, rfl, _⟩ := h
    rfl
  · obtain ⟨a, b, n, s, e, cov, rfl, R, q⟩ := h
    have nd := c_law_wires.nd
    refine ⟨_, pss_cons (ps_set (i := 2) nd rfl (.inl rfl) (pe_lst pa_nil))
      (pss_cons (ps_for PassesOwn.never rfl (pi_range1 (by rfl) T.bi.rng (pa_cons (pe_callB call_len_seq (by rfl) T.bi.len PySem.boot_len (pa_cons (pv 1) pa_nil)) pa_nil)) (pg_name (i := 3) nd rfl (.inl rfl))
        (pss_one (ps_for PassesOwn.never rfl (pi_range1 (by rfl) T.bi.rng (pa_cons (pe_callB call_len_str (by rfl) T.bi.len PySem.boot_len (pa_cons (pe_ix ix_tup (pv 0) pe_int (fun _ _ => rfl)) pa_nil)) pa_nil)) (pg_name (i := 4) nd rfl (.inl rfl))
          (pss_one (ps_if (PW.pt (pw_and (pt_cmpR op_ne (pe_ix ix_str (pe_ix ix_sq (pv 1) (pv 3) (fun _ _ => rfl)) (pv 4) (fun _ _ => rfl)) pe_str (nomark _))
              (pw_and1 (pt_cmpR op_ne (pe_ix ix_str (pe_ix ix_tup (pv 0) pe_int (fun _ _ => rfl)) (pv 4) (fun _ _ => rfl)) (pe_ix ix_str (pe_ix ix_tup (pv 0) pe_int (fun _ _ => rfl)) (pv 4) (fun _ _ => rfl)) (nomark _)))))
            (pss_one (ps_expr (pe_bm PySem.F.plainAttrs_list PySem.F.slot_list_append PySem.F.type_list_append mt_append (pv 2) (pa_cons (pe_tup (pa_cons (pv 3) (pa_cons (pv 4) pa_nil))) pa_nil)))) pss_nil)))))
      (pss_one (ps_ret (pv 2)))), ?_⟩
    have ls := R.fits.ls
    have le := R.fits.le
    have n4 := R.n4
    have cl := R.cl
    refine ⟨Nat.zero_le _, fun r nr => ?_⟩
    have s1 : Same H (upd H r (.lst [])) := same_upd nr
    refine ⟨.ref b, rfl, b, _, rfl, (R.same s1).cv.seq, _, rfl, by rw [List.length_map]; omega, by rw [List.length_map]; omega, ?_⟩
    rw [int2, List.length_map]
    refine for_range (lo := 0) (n := cov.length) (fun j σ H' => (∃ x3 x4, σ = [some (.ref a), some (.ref b), some (.ref r), x3, x4]) ∧ Same H H' ∧ ∃ xs, H' r = some (.lst xs) ∧ Ws H' xs (wiresFTo s e cov j)) ⟨⟨none, none, rfl⟩, s1, [], upd_same, Ws.nil⟩ ?_ ?_
    · rintro j σ H1 hj ⟨⟨x3, x4, rfl⟩, sm, xs, er, hx⟩
      have z0 : (0 : Int) + (j : Nat) = (j : Nat) := Int.zero_add _
      rw [z0]
      have R1 := R.same sm
      have hc : (cu cov j).length = n := R.fits.lc _ (cu_mem hj)
      refine ⟨.ref a, rfl, a, _, 0, ev s, rfl, rfl, SqT.of R1.ch, atI_nat (j := 0) rfl, enc s, rfl, small (by rw [enc_len]; omega), _, rfl, by rw [enc_len]; omega, by rw [enc_len]; omega, ?_⟩
      rw [int2, enc_len, ls, ← hc]
      refine for_range (lo := 0) (n := (cu cov j).length) (fun i σ H' => (∃ x4, σ = [some (.ref a), some (.ref b), some (.ref r), some (.int (j : Nat)), x4]) ∧ Same H H' ∧ ∃ xs, H' r = some (.lst xs) ∧ Ws H' xs (wiresFTo s e cov j ++ wiresTo s e (cu cov j) j i))
        ⟨⟨_, rfl⟩, sm, xs, er, ?_⟩ ?_ ?_
      · show Ws H1 xs (wiresFTo s e cov j ++ [])
        rw [List.append_nil]; exact hx
      · rintro i σ H2 hi ⟨⟨x4, rfl⟩, sm2, xs2, er2, hx2⟩
        have z1 : (0 : Int) + (i : Nat) = (i : Nat) := Int.zero_add _
        rw [z1]
        have R2 := R.same sm2
        have no : Wi s e (cu cov j) i = false → Ws H2 xs2 (wiresFTo s e cov j ++ wiresTo s e (cu cov j) j (i + 1)) := fun z => by
          rw [wiresTo_succ, if_neg (by rw [z]; decide), List.append_nil]
          exact hx2
        refine ⟨.ref b, rfl, .int (j : Nat), rfl, b, _, j, ev (cu cov j), rfl, rfl, R2.cv, atI_nat (cov_at hj), .int (i : Nat), rfl, enc (cu cov j), i, (g (cu cov j) i).code, rfl, rfl, small (by rw [enc_len]; omega), enc_at hi, rfl, _, rfl, ifN (fun h1 => ?_) (fun h1 => iteF ?_)⟩
        · refine ⟨.ref a, rfl, a, _, 0, ev s, rfl, rfl, SqT.of R2.ch, atI_nat (j := 0) rfl, .int (i : Nat), rfl, enc s, i, (g s i).code, rfl, rfl, small (by rw [enc_len]; omega), enc_at (by omega),
            .ref a, rfl, a, _, 1, ev e, rfl, rfl, SqT.of R2.ch, atI_nat (j := 1) rfl, .int (i : Nat), rfl, enc e, i, (g e i).code, rfl, rfl, small (by rw [enc_len]; omega), enc_at (by omega), rfl, _, rfl, ifN (fun h2 => ?_) (fun h2 => ?_)⟩
          · refine ⟨.ref r, rfl, .inl ⟨rfl, _, SqL.of er2⟩, .int (j : Nat), rfl, .int (i : Nat), rfl, by show 2 ≤ sizeLine; decide, fun t nt => ?_⟩
            have st : Same H2 (upd H2 t (.tup [.int (j : Nat), .int (i : Nat)])) := same_upd nt
            have er3 := st _ _ er2
            refine ⟨r, xs2, .ref t, rfl, rfl, er3, ?_, ⟨_, rfl⟩, same_set (sm2.trans st) nr, _, upd_same, ?_⟩
            · rw [hx2.len, List.length_append]
              have l1 := wiresFTo_len (s := s) (e := e) (fun c hc => Nat.le_of_eq (R.fits.lc c hc)) j (by omega)
              have l2 := wiresTo_len s e (cu cov j) j i
              have l3 : j * n ≤ 12 * 4 := Nat.mul_le_mul (by omega) n4
              exact small1000 (by omega)
            · have wi : Wi s e (cu cov j) i = true := by
                unfold Wi
                rw [decide_eq_true (show g (cu cov j) i ≠ .d from fun z => h1 (by rw [z]; exact (congrArg V.str s_dash).symm)), decide_eq_true (show g s i ≠ g e i from fun z => h2 (sv_eq.mpr z))]
                rfl
              rw [wiresTo_succ, if_pos wi, ← List.append_assoc]
              exact (hx2.same st).push er3 upd_same
          · refine ⟨⟨_, rfl⟩, sm2, xs2, er2, no ?_⟩
            unfold Wi
            rw [decide_eq_false (show ¬ g s i ≠ g e i from fun z => z (sv_eq.mp h2)), Bool.and_false]
        · refine ⟨⟨_, rfl⟩, sm2, xs2, er2, no ?_⟩
          unfold Wi
          rw [decide_eq_false (show ¬ g (cu cov j) i ≠ .d from fun z => z (sgS_inj (V.str.inj (h1.trans (congrArg V.str s_dash))))), Bool.false_and]
      · rintro σ H2 ⟨⟨x4, rfl⟩, sm2, xs2, er2, hx2⟩
        refine ⟨⟨_, _, rfl⟩, sm2, xs2, er2, ?_⟩
        rw [wiresFTo_succ]
        exact hx2
    · rintro σ H1 ⟨⟨x3, x4, rfl⟩, sm, xs, er, hx⟩
      exact ⟨.ref r, rfl, q _ _ sm nr ⟨xs, er, hx⟩⟩
/-! ### what is shown -/
def Bad (s e c : Cub) (j : Nat) (T : List Wr) (i : Nat) : Prop := g c i ≠ .d ∧ g c i ≠ (if (j, i) ∈ T then g e i else g s i)
instance (s e c : Cub) (j : Nat) (T : List Wr) (i : Nat) : Decidable (Bad s e c j T i) := inferInstanceAs (Decidable (_ ∧ _))
theorem shows_bad {s e c : Cub} {j : Nat} {T : List Wr} : Shows s e c j T ↔ ¬ Ex (Bad s e c j T) c.length := by
  constructor
  · rintro h ⟨i, hi, b1, b2⟩
    exact (h i hi).elim b1 b2
  · intro h i hi
    by_cases h1 : g c i = .d
    · exact .inl h1
    · by_cases h2 : g c i = (if (j, i) ∈ T then g e i else g s i)
      · exact .inr h2
      · exact absurd ⟨i, hi, h1, h2⟩ h
def spShown : Sp := fun vs H Q _ => ∃ (a b d : Addr) (n m : Nat) (s e : Cub) (cov : List Cub) (T : List Wr), vs = [.ref a, .ref b, .ref d] ∧ Arg H a b n s e cov ∧ Tn H d m T ∧ ∀ H', Same H H' → Q (sv (bs (decide (OrS s e cov T)))) H'
theorem ok_law_shown {k : Nat} (T : Txt K mg) : Ok P w K mg base (k + 1) "_law_shown" ["_law_change_here", "_law_cover_here", "_law_turned"] spShown := T.d_law_shown.ok fun f fd F => by
  refine F.ok c_law_shown (fun vs H Q E h => ?_) (fun cdv A outer s H vs Q E hr h => ?_)
  · obtain ⟨a, b, d, n, m, s, e, cov, T, rfl, _⟩ := h
    rfl
  · obtain ⟨a, b, d, n, m, s, e, cov, TT, rfl, R, hT, q⟩ := h
    have nd := c_law_shown.nd
    have hu := hu_of hr
    refine ⟨_, pss_cons (ps_for PassesOwn.never rfl (pi_range1 (by rfl) T.bi.rng (pa_cons (pe_callB call_len_seq (by rfl) T.bi.len PySem.boot_len (pa_cons (pv 1) pa_nil)) pa_nil)) (pg_name (i := 3) nd rfl (.inl rfl))
        (pss_cons (ps_set (i := 4) nd rfl (.inl rfl) pe_bl)
        (pss_cons (ps_for PassesOwn.never rfl (pi_range1 (by rfl) T.bi.rng (pa_cons (pe_callB call_len_str (by rfl) T.bi.len PySem.boot_len (pa_cons (pe_ix ix_sq (pv 1) (pv 3) (fun _ _ => rfl)) pa_nil)) pa_nil)) (pg_name (i := 5) nd rfl (.inl rfl))
          (pss_cons (ps_set (i := 6) nd rfl (.inl rfl) (pe_ix ix_str (pe_ix ix_tup (pv 0) pe_int (fun _ _ => rfl)) (pv 5) (fun _ _ => rfl)))
          (pss_cons (ps_if (pt_cmp (pc_din hu (pe_tup (pa_cons (pv 3) (pa_cons (pv 5) pa_nil))) (pv 2)))
            (pss_one (ps_set (i := 6) nd rfl (.inl rfl) (pe_ix ix_str (pe_ix ix_tup (pv 0) pe_int (fun _ _ => rfl)) (pv 5) (fun _ _ => rfl)))) pss_nil)
          (pss_one (ps_if (PW.pt (pw_and (pt_cmpR op_ne (pe_ix ix_str (pe_ix ix_sq (pv 1) (pv 3) (fun _ _ => rfl)) (pv 5) (fun _ _ => rfl)) pe_str (nomark _))
              (pw_and1 (pt_cmpR op_ne (pe_ix ix_str (pe_ix ix_sq (pv 1) (pv 3) (fun _ _ => rfl)) (pv 5) (fun _ _ => rfl)) (pv 6) (nomark _)))))
            (pss_one (ps_set (i := 4) nd rfl (.inl rfl) pe_bl)) pss_nil)))))
        (pss_one (ps_if (pt_val (pv 4)) (pss_one (ps_ret pe_str)) pss_nil)))))
      (pss_one (ps_ret pe_str)), ?_⟩
    have ls := R.fits.ls
    have le := R.fits.le
    have n4 := R.n4
    have cl := R.cl
    refine ⟨.ref b, rfl, b, _, rfl, R.cv.seq, _, rfl, by rw [List.length_map]; omega, by rw [List.length_map]; omega, ?_⟩
    rw [int2, List.length_map]
    refine for_range (lo := 0) (n := cov.length) (fun j σ H' => (∃ x3 x4 x5 x6, σ = [some (.ref a), some (.ref b), some (.ref d), x3, x4, x5, x6]) ∧ Same H H' ∧ ∀ j', j' < j → ¬ Shows s e (cu cov j') j' TT) ⟨⟨none, none, none, none, rfl⟩, Same.refl _, fun j hj => by omega⟩ ?_ ?_
    · rintro j σ H1 hj ⟨⟨x3, x4, x5, x6, rfl⟩, sm, hn⟩
      have z0 : (0 : Int) + (j : Nat) = (j : Nat) := Int.zero_add _
      rw [z0]
      have R1 := R.same sm
      have hc : (cu cov j).length = n := R.fits.lc _ (cu_mem hj)
      refine ⟨.ref b, rfl, .int (j : Nat), rfl, b, _, j, ev (cu cov j), rfl, rfl, R1.cv, atI_nat (cov_at hj), enc (cu cov j), rfl, small (by rw [enc_len]; omega), _, rfl, by rw [enc_len]; omega, by rw [enc_len]; omega, ?_⟩
      rw [int2, enc_len]
      refine for_range (lo := 0) (n := (cu cov j).length) (fun i σ H' => (∃ x5 x6, σ = [some (.ref a), some (.ref b), some (.ref d), some (.int (j : Nat)), some (.bl (decide (¬ Ex (Bad s e (cu cov j) j TT) i))), x5, x6]) ∧ Same H H') ⟨⟨x5, x6, ?_⟩, sm⟩ ?_ ?_
      · rw [decide_eq_true (show ¬ Ex (Bad s e (cu cov j) j TT) 0 from ex_zero)]; rfl
      · rintro i σ H2 hi ⟨⟨x5, x6, rfl⟩, sm2⟩
        have z1 : (0 : Int) + (i : Nat) = (i : Nat) := Int.zero_add _
        rw [z1]
        have R2 := R.same sm2
        refine ⟨.ref a, rfl, a, _, 0, ev s, rfl, rfl, SqT.of R2.ch, atI_nat (j := 0) rfl, .int (i : Nat), rfl, enc s, i, (g s i).code, rfl, rfl, small (by rw [enc_len]; omega), enc_at (by omega), ?_⟩
        refine ⟨.int (j : Nat), rfl, .int (i : Nat), rfl, by show 2 ≤ sizeLine; decide, fun t nt => ?_⟩
        have st : Same H2 (upd H2 t (.tup [.int (j : Nat), .int (i : Nat)])) := same_upd nt
        obtain ⟨kvs, ek, lk, hk⟩ := hT.same (sm2.trans st)
        have sm3 := sm2.trans st
        have R3 := R.same sm3
        refine ⟨.ref d, rfl, d, _, rfl, DGet.t (k := [Sum.inl (j : Int), Sum.inl (i : Int)]) ek upd_same, _, rfl, ?_⟩
        rw [hk (j, i)]
        refine ifD (fun hin => ?_) (fun hin => ?_)
        · refine ⟨.ref a, rfl, a, _, 1, ev e, rfl, rfl, SqT.of R3.ch, atI_nat (j := 1) rfl, .int (i : Nat), rfl, enc e, i, (g e i).code, rfl, rfl, small (by rw [enc_len]; omega), enc_at (by omega), ?_⟩
          have hy : g e i = (if (j, i) ∈ TT then g e i else g s i) := (if_pos hin).symm
          have keep : ¬ Bad s e (cu cov j) j TT i → decide (¬ Ex (Bad s e (cu cov j) j TT) (i + 1)) = decide (¬ Ex (Bad s e (cu cov j) j TT) i) := fun nb => decide_eq_decide.mpr ⟨fun y z => y (ex_succ.mpr (.inl z)), fun y z => (ex_succ.mp z).elim y nb⟩
          refine ⟨.ref b, rfl, .int (j : Nat), rfl, b, _, j, ev (cu cov j), rfl, rfl, R3.cv, atI_nat (cov_at hj), .int (i : Nat), rfl, enc (cu cov j), i, (g (cu cov j) i).code, rfl, rfl, small (by rw [enc_len]; omega), enc_at hi, rfl, _, rfl, ifN (fun h1 => ?_) (fun h1 => iteF ?_)⟩
          · have hd : g (cu cov j) i ≠ .d := fun z => h1 (by rw [z]; exact (congrArg V.str s_dash).symm)
            refine ⟨.ref b, rfl, .int (j : Nat), rfl, b, _, j, ev (cu cov j), rfl, rfl, R3.cv, atI_nat (cov_at hj), .int (i : Nat), rfl, enc (cu cov j), i, (g (cu cov j) i).code, rfl, rfl, small (by rw [enc_len]; omega), enc_at hi, sv (g e i), rfl, rfl, _, rfl, ifN (fun h2 => ?_) (fun h2 => ?_)⟩
            · have nb : Bad s e (cu cov j) j TT i := ⟨hd, by rw [← hy]; exact fun z => h2 (sv_eq.mpr z)⟩
              refine ⟨⟨some (.int (i : Nat)), some (sv (g e i)), ?_⟩, sm3⟩
              rw [decide_eq_false (show ¬ ¬ Ex (Bad s e (cu cov j) j TT) (i + 1) from fun y => y (ex_succ.mpr (.inr nb)))]
              rfl
            · refine ⟨⟨some (.int (i : Nat)), some (sv (g e i)), ?_⟩, sm3⟩
              rw [keep fun nb => nb.2 (by rw [← hy]; exact sv_eq.mp h2)]
              rfl
          · refine ⟨⟨some (.int (i : Nat)), some (sv (g e i)), ?_⟩, sm3⟩
            rw [keep fun nb => nb.1 (sgS_inj (V.str.inj (h1.trans (congrArg V.str s_dash))))]
            rfl
        · skip
          have hy : g s i = (if (j, i) ∈ TT then g e i else g s i) := (if_neg hin).symm
          have keep : ¬ Bad s e (cu cov j) j TT i → decide (¬ Ex (Bad s e (cu cov j) j TT) (i + 1)) = decide (¬ Ex (Bad s e (cu cov j) j TT) i) := fun nb => decide_eq_decide.mpr ⟨fun y z => y (ex_succ.mpr (.inl z)), fun y z => (ex_succ.mp z).elim y nb⟩
          refine ⟨.ref b, rfl, .int (j : Nat), rfl, b, _, j, ev (cu cov j), rfl, rfl, R3.cv, atI_nat (cov_at hj), .int (i : Nat), rfl, enc (cu cov j), i, (g (cu cov j) i).code, rfl, rfl, small (by rw [enc_len]; omega), enc_at hi, rfl, _, rfl, ifN (fun h1 => ?_) (fun h1 => iteF ?_)⟩
          · have hd : g (cu cov j) i ≠ .d := fun z => h1 (by rw [z]; exact (congrArg V.str s_dash).symm)
            refine ⟨.ref b, rfl, .int (j : Nat), rfl, b, _, j, ev (cu cov j), rfl, rfl, R3.cv, atI_nat (cov_at hj), .int (i : Nat), rfl, enc (cu cov j), i, (g (cu cov j) i).code, rfl, rfl, small (by rw [enc_len]; omega), enc_at hi, sv (g s i), rfl, rfl, _, rfl, ifN (fun h2 => ?_) (fun h2 => ?_)⟩
            · have nb : Bad s e (cu cov j) j TT i := ⟨hd, by rw [← hy]; exact fun z => h2 (sv_eq.mpr z)⟩
              refine ⟨⟨some (.int (i : Nat)), some (sv (g s i)), ?_⟩, sm3⟩
              rw [decide_eq_false (show ¬ ¬ Ex (Bad s e (cu cov j) j TT) (i + 1) from fun y => y (ex_succ.mpr (.inr nb)))]
              rfl
            · refine ⟨⟨some (.int (i : Nat)), some (sv (g s i)), ?_⟩, sm3⟩
              rw [keep fun nb => nb.2 (by rw [← hy]; exact sv_eq.mp h2)]
              rfl
          · refine ⟨⟨some (.int (i : Nat)), some (sv (g s i)), ?_⟩, sm3⟩
            rw [keep fun nb => nb.1 (sgS_inj (V.str.inj (h1.trans (congrArg V.str s_dash))))]
            rfl
      · rintro σ H2 ⟨⟨x5, x6, rfl⟩, sm2⟩
        refine ⟨_, rfl, _, rfl, ifD (fun h => ?_) (fun h => ?_)⟩
        · have z := q _ sm2
          rw [decide_eq_true (show OrS s e cov TT from ⟨j, hj, shows_bad.mpr h⟩)] at z
          have e1 : sv (bs true) = V.str (Str.ofString "1") := (congrArg V.str s_one).symm
          rw [e1] at z
          exact z
        · exact ⟨⟨_, _, _, _, rfl⟩, sm2, lt_succ hn fun y => h (shows_bad.mp y)⟩
    · rintro σ H1 ⟨⟨x3, x4, x5, x6, rfl⟩, sm, hn⟩
      have z := q _ sm
      rw [decide_eq_false (show ¬ OrS s e cov TT from fun ⟨j, hj, y⟩ => hn j hj y)] at z
      have e1 : sv (bs false) = V.str (Str.ofString "0") := (congrArg V.str s_zero).symm
      rw [e1] at z
      exact z
end
end Stc
end

/-! ## W12 -/
section
set_option Elab.async false
set_option linter.all false
set_option maxRecDepth 100000
set_option maxHeartbeats 4000000
namespace Stc
open PySem PySem.Spec PyProof.Rows L2 StR
theorem key_inj {x y : Wr} (h : ([Sum.inl (x.1 : Int), Sum.inl (x.2 : Int)] : List Key) = [Sum.inl (y.1 : Int), Sum.inl (y.2 : Int)]) : x = y := by
  injection h with h1 h2
  injection h2 with h2 _
  have a : (x.1 : Int) = y.1 := Sum.inl.inj h1
  have b : (x.2 : Int) = y.2 := Sum.inl.inj h2
  exact Prod.ext (by omega) (by omega)
theorem bs_last {us : Cub} {b : Bool} : atI (enc (us ++ [bs b])).cps.toList (-1) = some (bs b).code := by
  rw [enc_cps, List.map_append]
  exact atI_last _ _
theorem wlen_succ (f : Nat → Bool) (k : Nat) : wlen f (k + 1) = wlen f k + (if f (k + 1) = f k then 0 else 1) := rfl
theorem wlen_le (f : Nat → Bool) : ∀ k, wlen f k ≤ k + 1
  | 0 => Nat.le_refl _
  | k + 1 => by
    rw [wlen_succ]
    have a := wlen_le f k
    split <;> omega
section
variable {P : Program} {w : World} {K : PySem.W.Frag} {mg : Str → Option Value} {base : Heap}
def spPlayed : Sp := fun vs H Q _ => ∃ (a b o : Addr) (n : Nat) (s e : Cub) (cov : List Cub) (ord : List Wr), vs = [.ref a, .ref b, .ref o] ∧ Arg H a b n s e cov ∧ WL H o ord ∧ ord.length ≤ 100 ∧
  ∀ (H' : Hp) (z : Str), Same H H' → z.length = wlen (fOf s e cov ord) ord.length → Q (.str z) H'
theorem ok_law_played {k : Nat} (T : Txt K mg) : Ok P w K mg base (k + 2) "_law_played" ["_law_change_here", "_law_cover_here", "_law_order"] spPlayed := T.d_law_played.ok fun f fd F => by
  obtain ⟨f1, fd1, G1, m1, k1, b1⟩ := ok_law_shown (P := P) (w := w) (base := base) (k := k) T
  refine F.ok c_law_played (fun vs H Q E h => ?_) (fun cdv A outer s H vs Q E hr h => ?_)
  · obtain ⟨a, b, o, n, s, e, cov, ord, rfl, _⟩ := h
    rfl
  · obtain ⟨a, b, o, n, s, e, cov, ord, rfl, R, hO, hl, q⟩ := h
    obtain ⟨os, eo, hos⟩ := hO
    have nd := c_law_played.nd
    have hu := hu_of hr
    refine ⟨_, pss_cons (ps_set (i := 3) nd rfl (.inl rfl) pe_dnewT)
      (pss_cons (ps_set (i := 4) nd rfl (.inl rfl) (pe_call G1 hr (by rfl) m1 k1 b1 .nil pass0 (pa_cons (pv 0) (pa_cons (pv 1) (pa_cons (pv 3) pa_nil)))))
      (pss_cons (ps_for PassesOwn.never rfl (pi_list (pv 2)) (pg_name (i := 5) nd rfl (.inl rfl))
        (pss_cons (ps_dput hu (pv 3) (pv 5) pe_bl rfl)
        (pss_cons (ps_set (i := 6) nd rfl (.inl rfl) (pe_call G1 hr (by rfl) m1 k1 b1 .nil pass0 (pa_cons (pv 0) (pa_cons (pv 1) (pa_cons (pv 3) pa_nil)))))
        (pss_one (ps_if (pt_cmpR op_ne (pv 6) (pe_ix ix_str (pv 4) (pe_un un_neg pe_int) (fun _ _ => rfl)) (nomark _))
          (pss_one (ps_set (i := 4) nd rfl (.inl rfl) (pe_op op_add_str (pv 4) (pv 6)))) pss_nil)))))
      (pss_one (ps_ret (pv 4))))), ?_⟩
    intro d ndd
    have s1 : Same H (upd H d (.dT [])) := same_upd ndd
    have t0 : Tn (upd H d (.dT [])) d 0 [] := ⟨[], upd_same, Nat.le_refl _, fun x => by rw [decide_eq_false List.not_mem_nil]; rfl⟩
    refine ⟨.ref a, rfl, .ref b, rfl, .ref d, rfl, a, b, d, n, 0, s, e, cov, [], rfl, R.same s1, t0, fun H1 sm1 => ?_⟩
    have ndo : o ≠ d := ne_of_none eo ndd
    refine ⟨.ref o, rfl, o, rfl, ⟨_, SqL.of (sm1 _ _ (s1 _ _ eo))⟩, for_list (K := K) (a := o) (xs := os) (fun i σ H' => (∃ (us : Cub) (x5 x6 : Option V), σ = [some (.ref a), some (.ref b), some (.ref o), some (.ref d), some (ev (us ++ [bs (fOf s e cov ord i)])), x5, x6] ∧ us.length + 1 = wlen (fOf s e cov ord) i) ∧ Same H H' ∧ Tn H' d i (ord.take i))
      ⟨⟨[], none, none, rfl, rfl⟩, s1.trans sm1, t0.same sm1⟩ (fun i σ H' _ h => SqL.of (h.2.1 _ _ eo)) ?_ ?_⟩
    · rintro i v σ H2 hi ⟨⟨us, x5, x6, rfl, hus⟩, sm, kvs, ek, lk, hk⟩
      obtain ⟨x, t, hx, rfl, et⟩ := hos.at hi
      have hio : i < ord.length := (List.getElem?_eq_some_iff.mp hx).1
      have et2 := sm _ _ et
      have nt : t ≠ d := ne_of et2 ek (by intro z; cases z)
      refine ⟨.ref d, rfl, .ref t, rfl, d, _, rfl, DPut.t (k := [Sum.inl (x.1 : Int), Sum.inl (x.2 : Int)]) ek et2 (small1000 (by omega)), ?_⟩
      have s3 : Same H (upd H2 d (.dT (putK kvs [Sum.inl (x.1 : Int), Sum.inl (x.2 : Int)] (.bl true)))) := same_set sm ndd
      have t3 : Tn (upd H2 d (.dT (putK kvs [Sum.inl (x.1 : Int), Sum.inl (x.2 : Int)] (.bl true)))) d (i + 1) (ord.take (i + 1)) := by
        refine ⟨_, upd_same, Nat.le_trans (length_putK _ _ _) (by omega), fun y => ?_⟩
        rw [valV_put, List.take_add_one, hx]
        by_cases e1 : y = x
        · subst e1
          rw [if_pos rfl]
          exact (decide_eq_true (show y ∈ ord.take i ++ (some y).toList from List.mem_append_right _ (List.mem_singleton.mpr rfl))).symm
        · rw [if_neg fun z => e1 (key_inj z), hk y]
          refine decide_eq_decide.mpr ⟨fun z => List.mem_append_left _ z, fun z => ?_⟩
          rcases List.mem_append.mp z with z | z
          · exact z
          · exact absurd (List.mem_singleton.mp z) e1
      have lw := wlen_le (fOf s e cov ord) i
      have lu : us.length ≤ 100 := by omega
      refine ⟨.ref a, rfl, .ref b, rfl, .ref d, rfl, a, b, d, n, i + 1, s, e, cov, ord.take (i + 1), rfl, R.same s3, t3, fun H4 s4 => ?_⟩
      have ef : decide (OrS s e cov (ord.take (i + 1))) = fOf s e cov ord (i + 1) := rfl
      rw [ef]
      refine ⟨sv (bs (fOf s e cov ord (i + 1))), rfl, ev (us ++ [bs (fOf s e cov ord i)]), rfl, 1, rfl, enc (us ++ [bs (fOf s e cov ord i)]), -1, (bs (fOf s e cov ord i)).code, rfl, rfl, small (by rw [enc_len, List.length_append]; show us.length + 1 ≤ 1000; omega), bs_last, rfl, _, rfl, ifN (fun h => ?_) (fun h => ?_)⟩
      · have h : ¬ fOf s e cov ord (i + 1) = fOf s e cov ord i := fun z => h (by rw [z]; rfl)
        refine ⟨ev (us ++ [bs (fOf s e cov ord i)]), rfl, sv (bs (fOf s e cov ord (i + 1))), rfl, _, _, rfl, rfl, ?_, ⟨us ++ [bs (fOf s e cov ord i)], some (.ref t), some (sv (bs (fOf s e cov ord (i + 1)))), ?_, ?_⟩, s3.trans s4, t3.same s4⟩
        · show (enc (us ++ [bs (fOf s e cov ord i)])).length + 1 ≤ sizeLine
          rw [enc_len, List.length_append]
          exact small (show us.length + 1 + 1 ≤ 1000 by omega)
        · show [_, _, _, _, some (V.str (enc (us ++ [bs (fOf s e cov ord i)]) ++ sgS (bs (fOf s e cov ord (i + 1))))), _, _] = _
          rw [enc_snoc]
        · rw [wlen_succ, if_neg h, List.length_append, ← hus]
          rfl
      · have h : fOf s e cov ord (i + 1) = fOf s e cov ord i := bs_inj (sv_eq.mp h)
        refine ⟨⟨us, some (.ref t), some (sv (bs (fOf s e cov ord (i + 1)))), ?_, ?_⟩, s3.trans s4, t3.same s4⟩
        · rw [h]; rfl
        · rw [wlen_succ, if_pos h, hus]; rfl
    · rintro σ H2 ⟨⟨us, x5, x6, rfl, hus⟩, sm, _⟩
      rw [hos.len] at hus
      refine ⟨_, rfl, q _ _ sm ?_⟩
      rw [enc_len, List.length_append]
      exact hus
/-! ### the shuffled order -/
/-- v is a wire -/
def Tp (H : Hp) (v : V) : Prop := ∃ (t : Addr) (x : Wr), v = .ref t ∧ H t = some (.tup [.int (x.1 : Nat), .int (x.2 : Nat)])
def spShuf : Sp := fun vs H Q _ => ∃ (r : Addr) (num : Int) (ws : List Wr), vs = [.ref r, .int num, .int 3] ∧ WL H r ws ∧ ws.length ≤ 100 ∧
  ∀ (H' : Hp) (p : Addr) (ord : List Wr), Same H H' → H p = none → WL H' p ord → ord.length ≤ 100 → Q (.ref p) H'
theorem ok_law_shuffled {k : Nat} (T : Txt K mg) : Ok P w K mg base (k + 1) "_law_shuffled" ["_law_rows", "_law_number", "_law_step"] spShuf := T.d_law_shuffled.ok fun f fd F => by
  refine F.ok c_law_shuffled (fun vs H Q E h => ?_) (fun cdv A outer s H vs Q E hr h => ?_)
  · obtain ⟨r, num, ws, rfl, _⟩ := h
    rfl
  · obtain ⟨r, num, ws, rfl, hW, hl, q⟩ := h
    obtain ⟨xs, er, hx⟩ := hW
    have lx := hx.len
    have nd := c_law_shuffled.nd
    refine ⟨_, pss_cons (ps_set (i := 3) nd rfl (.inl rfl) (pe_callTy call_list_of (by rfl) T.bi.lst (by decide +kernel) (pa_cons (pv 0) pa_nil)))
      (pss_cons (ps_set (i := 4) nd rfl (.inl rfl) (pe_lst pa_nil))
      (pss_cons (ps_for PassesOwn.never rfl (pi_range1 (by rfl) T.bi.rng (pa_cons (pe_callB call_len_seq (by rfl) T.bi.len PySem.boot_len (pa_cons (pv 0) pa_nil)) pa_nil)) (pg_name (i := 5) nd rfl (.inl rfl))
        (pss_cons (ps_set (i := 1) nd rfl (.inl rfl) (pe_op op_mod (pe_callTy call_int1 (by rfl) T.bi.int (by decide +kernel) (pa_cons (pe_op op_add (pe_op op_add (pe_op op_mul (pv 1) pe_int) (pe_op op_mul (pv 2) (pe_op op_add (pv 5) pe_int))) pe_int) pa_nil)) pe_int))
        (pss_one (ps_expr (pe_bm PySem.F.plainAttrs_list PySem.F.slot_list_append PySem.F.type_list_append mt_append (pv 4) (pa_cons (pe_bm PySem.F.plainAttrs_list PySem.F.slot_list_pop PySem.F.type_list_pop mt_popAt (pv 3)
          (pa_cons (pe_op op_mod (pe_callTy call_int1 (by rfl) T.bi.int (by decide +kernel) (pa_cons (pe_op op_fdiv (pv 1) pe_int) pa_nil)) (pe_callB call_len_seq (by rfl) T.bi.len PySem.boot_len (pa_cons (pv 3) pa_nil))) pa_nil)) pa_nil))))))
      (pss_one (ps_ret (pv 4))))), ?_⟩
    have allT : ∀ v, v ∈ xs → Tp H v := fun v hv => by
      obtain ⟨i, hi, rfl⟩ := List.mem_iff_getElem.mp hv
      obtain ⟨x, t, _, e1, e2⟩ := hx.at (List.getElem?_eq_getElem hi)
      exact ⟨t, x, e1, e2⟩
    refine ⟨.ref r, rfl, r, xs, rfl, .inl (SqL.of er), fun lf nlf => ?_⟩
    have s1 : Same H (upd H lf (.lst xs)) := same_upd nlf
    refine ⟨Nat.zero_le _, fun od nod => ?_⟩
    have s2 : Same (upd H lf (.lst xs)) (upd (upd H lf (.lst xs)) od (.lst [])) := same_upd nod
    have nlo : lf ≠ od := fun z => by rw [← z, upd_same] at nod; cases nod
    have nodH : H od = none := s1.free nod
    have s12 := s1.trans s2
    refine ⟨.ref r, rfl, r, xs, rfl, .inl (SqL.of (s12 _ _ er)), _, rfl, by omega, by omega, ?_⟩
    rw [int2]
    refine for_range (lo := 0) (n := xs.length) (fun i σ H' => (∃ (num : Int) (x5 : Option V), σ = [some (.ref r), some (.int num), some (.int 3), some (.ref lf), some (.ref od), x5]) ∧ Same H H' ∧ (∃ ls, H' lf = some (.lst ls) ∧ ls.length + i = xs.length ∧ ∀ v, v ∈ ls → Tp H v) ∧ ∃ ys ord, H' od = some (.lst ys) ∧ Ws H' ys ord ∧ ord.length = i)
      ⟨⟨num, none, rfl⟩, s12, ⟨xs, s2 _ _ upd_same, rfl, allT⟩, [], [], upd_same, Ws.nil, rfl⟩ ?_ ?_
    · rintro i σ H1 hi ⟨⟨num, x5, rfl⟩, sm, ⟨ls, el, ll, hls⟩, ys, ord, eo, ho, lo⟩
      have z0 : (0 : Int) + (i : Nat) = (i : Nat) := Int.zero_add _
      rw [z0]
      refine ⟨.int num, rfl, _, _, rfl, rfl, .inr ⟨by decide, by decide⟩, .int 3, rfl, .int (i : Nat), rfl, _, _, rfl, rfl, _, _, rfl, rfl, .inl ⟨by decide, by decide⟩, _, _, rfl, rfl, _, _, rfl, rfl, .inl ⟨_, rfl, _, _, rfl, rfl, (by show (0 : Int) < 2147483647; decide), ?_⟩⟩
      dsimp only
      generalize (num * 48271 + 3 * ((i : Nat) + 1) + 30103) % 2147483647 = num2
      have lpos : (0 : Int) < ((ls.length : Nat) : Int) := by omega
      obtain ⟨h0, h1⟩ := modb (num2 / 1009) lpos
      have hix : ixN ls.length (num2 / 1009 % (ls.length : Nat)) = some (num2 / 1009 % (ls.length : Nat)).toNat := by
        unfold ixN
        rw [if_pos h0, if_pos h1]
      obtain ⟨q1, q2, _, _⟩ := ixN_seq hix
      have hv := hls _ (List.getElem_mem q2)
      obtain ⟨t, x, ev1, et⟩ := hv
      refine ⟨.ref od, rfl, .inl ⟨rfl, _, SqL.of eo⟩, .ref lf, rfl, .inl ⟨rfl, _, SqL.of el⟩, .int num2, rfl, _, _, rfl, rfl, ⟨by decide, by decide⟩, .inl ⟨_, rfl, .ref lf, rfl, lf, ls, rfl, .inl (SqL.of el), _, _, rfl, rfl, lpos, lf, ls, _, _, ls[(num2 / 1009 % (ls.length : Nat)).toNat], rfl, rfl, el, by omega, by omega, q1, List.getElem?_eq_getElem q2, ?_⟩⟩
      generalize (num2 / 1009 % (ls.length : Nat)).toNat = ix at q2 ev1
      have eo2 : upd H1 lf (.lst (ls.eraseIdx ix)) od = some (.lst ys) := by rw [upd_ne nlo.symm]; exact eo
      have sm2 : Same H (upd H1 lf (.lst (ls.eraseIdx ix))) := same_set sm nlf
      have ho2 : Ws (upd H1 lf (.lst (ls.eraseIdx ix))) ys ord := ho.setL el
      rw [ev1]
      refine ⟨od, ys, .ref t, rfl, rfl, eo2, small1000 (by rw [ho.len]; omega), ⟨⟨num2, _, rfl⟩, same_set sm2 nodH, ⟨ls.eraseIdx ix, ?_, ?_, fun v hv => hls v (List.mem_of_mem_eraseIdx hv)⟩, ys ++ [.ref t], ord ++ [x], upd_same, ho2.push eo2 (sm2 _ _ et), ?_⟩⟩
      · rw [upd_ne nlo, upd_same]
      · rw [List.length_eraseIdx, if_pos q2]; omega
      · rw [List.length_append, lo]; rfl
    · rintro σ H1 ⟨⟨num, x5, rfl⟩, sm, _, ys, ord, eo, ho, lo⟩
      exact ⟨.ref od, rfl, q _ _ ord sm nodH ⟨ys, eo, ho⟩ (by omega)⟩
end
end Stc
end

/-! ## W13 -/
section
set_option Elab.async false
set_option linter.all false
set_option maxRecDepth 100000
set_option maxHeartbeats 4000000
namespace Stc
open PySem PySem.Spec PyProof.Rows L2 StR
section
variable {P : Program} {w : World} {K : PySem.W.Frag} {mg : Str → Option Value} {base : Heap}
/-- the same text twice -/
def spSame1 : Sp := fun vs H Q _ => ∃ (z : Str), vs = [.str z, .str z] ∧ Q (.bl true) H
theorem ok_law_same1 {k : Nat} (T : Txt K mg) : Ok P w K mg base (k + 1) "_law_same" ["_law_actual", "_law_due"] spSame1 := T.d_law_same.ok fun f fd F => by
  refine F.ok c_law_same (fun vs H Q E h => ?_) (fun cdv A outer s H vs Q E hr h => ?_)
  · obtain ⟨z, rfl, _⟩ := h
    rfl
  · obtain ⟨z, rfl, q⟩ := h
    refine ⟨_, pss_cons (ps_if (pt_cmp (pc_isN (pv 1)) rfl) pss_never pss_nil)
      (pss_cons (ps_if (pt_val (pe_callB call_isi (by rfl) T.bi.isi PyProof.Rows.boot_isinstance (pa_cons (pv 1) (pa_cons (pe_bltn (v := .ty "bool") (by rfl) T.bi.bool (by decide +kernel) rfl) pa_nil)))) pss_never pss_nil)
      (pss_cons (ps_if (pt_val (pe_callB call_isi (by rfl) T.bi.isi PyProof.Rows.boot_isinstance (pa_cons (pv 1) (pa_cons (pe_bltn (v := .ty "int") (by rfl) T.bi.int (by decide +kernel) rfl) pa_nil)))) pss_never pss_nil)
      (pss_cons (ps_if (pt_val (pe_callB call_isi (by rfl) T.bi.isi PyProof.Rows.boot_isinstance (pa_cons (pv 1) (pa_cons (pe_bltn (v := .ty "str") (by rfl) T.bi.str (by decide +kernel) rfl) pa_nil))))
        (pss_one (ps_ret (pe_and (pe_callB call_isi (by rfl) T.bi.isi PyProof.Rows.boot_isinstance (pa_cons (pv 0) (pa_cons (pe_bltn (v := .ty "str") (by rfl) T.bi.str (by decide +kernel) rfl) pa_nil))) (pe_one (pe_cmpR op_eq (pv 0) (pv 1) (nomark _)))))) pss_nil)
      pss_never))), ?_⟩
    refine ⟨.str z, rfl, _, rfl, ifD (fun h => nomatch h) (fun _ => ?_)⟩
    refine ⟨.str z, rfl, _, _, _, _, false, rfl, .ty _, .base (.str _), kit_ty (by decide +kernel), _, rfl, iteF ?_⟩
    refine ⟨.str z, rfl, _, _, _, _, false, rfl, .ty _, .base (.str _), kit_ty (by decide +kernel), _, rfl, iteF ?_⟩
    refine ⟨.str z, rfl, _, _, _, _, true, rfl, .ty _, .base (.str _), kit_ty (by decide +kernel), _, rfl, iteT ?_⟩
    refine ⟨.str z, rfl, _, _, _, _, true, rfl, .ty _, .base (.str _), kit_ty (by decide +kernel), _, rfl, iteT ?_⟩
    refine ⟨.str z, rfl, .str z, rfl, rfl, ?_⟩
    rw [decide_eq_true rfl]
    exact q
/-- two tuples of one text -/
def spSame2 : Sp := fun vs H Q _ => ∃ (a1 a2 : Addr) (z : Str), vs = [.ref a1, .ref a2] ∧ H a1 = some (.tup [.str z]) ∧ H a2 = some (.tup [.str z]) ∧ Q (.bl true) H
theorem ok_law_same2 {k : Nat} (T : Txt K mg) : Ok P w K mg base (k + 2) "_law_same" ["_law_actual", "_law_due"] spSame2 := T.d_law_same.ok fun f fd F => by
  obtain ⟨f1, fd1, G1, m1, k1, b1⟩ := ok_law_same1 (P := P) (w := w) (base := base) (k := k) T
  refine F.ok c_law_same (fun vs H Q E h => ?_) (fun cdv A outer s H vs Q E hr h => ?_)
  · obtain ⟨a1, a2, z, rfl, _⟩ := h
    rfl
  · obtain ⟨a1, a2, z, rfl, h1, h2, q⟩ := h
    have nd := c_law_same.nd
    refine ⟨_, pss_cons (ps_if (pt_cmp (pc_isN (pv 1)) rfl) pss_never pss_nil)
      (pss_cons (ps_if (pt_val (pe_callB call_isi (by rfl) T.bi.isi PyProof.Rows.boot_isinstance (pa_cons (pv 1) (pa_cons (pe_bltn (v := .ty "bool") (by rfl) T.bi.bool (by decide +kernel) rfl) pa_nil)))) pss_never pss_nil)
      (pss_cons (ps_if (pt_val (pe_callB call_isi (by rfl) T.bi.isi PyProof.Rows.boot_isinstance (pa_cons (pv 1) (pa_cons (pe_bltn (v := .ty "int") (by rfl) T.bi.int (by decide +kernel) rfl) pa_nil)))) pss_never pss_nil)
      (pss_cons (ps_if (pt_val (pe_callB call_isi (by rfl) T.bi.isi PyProof.Rows.boot_isinstance (pa_cons (pv 1) (pa_cons (pe_bltn (v := .ty "str") (by rfl) T.bi.str (by decide +kernel) rfl) pa_nil)))) pss_never pss_nil)
      (pss_cons (ps_if (PW.pt (pw_and (pt_val (pe_callB call_isi (by rfl) T.bi.isi PyProof.Rows.boot_isinstance (pa_cons (pv 1) (pa_cons (pe_bltn (v := .ty "list") (by rfl) T.bi.lst (by decide +kernel) rfl) pa_nil))))
        (pw_and1 (pt_not (pt_val (pe_callB call_isi (by rfl) T.bi.isi PyProof.Rows.boot_isinstance (pa_cons (pv 0) (pa_cons (pe_bltn (v := .ty "list") (by rfl) T.bi.lst (by decide +kernel) rfl) pa_nil)))))))) pss_never pss_nil)
      (pss_cons (ps_if (PW.pt (pw_and (pt_val (pe_callB call_isi (by rfl) T.bi.isi PyProof.Rows.boot_isinstance (pa_cons (pv 1) (pa_cons (pe_bltn (v := .ty "tuple") (by rfl) T.bi.tup (by decide +kernel) rfl) pa_nil))))
        (pw_and1 (pt_not (pt_val (pe_callB call_isi (by rfl) T.bi.isi PyProof.Rows.boot_isinstance (pa_cons (pv 0) (pa_cons (pe_bltn (v := .ty "tuple") (by rfl) T.bi.tup (by decide +kernel) rfl) pa_nil)))))))) pss_never pss_nil)
      (pss_cons (ps_if (pt_cmpR op_ne (pe_callB call_len_seq (by rfl) T.bi.len PySem.boot_len (pa_cons (pv 0) pa_nil)) (pe_callB call_len_seq (by rfl) T.bi.len PySem.boot_len (pa_cons (pv 1) pa_nil)) (nomark _)) pss_never pss_nil)
      (pss_cons (ps_for PassesOwn.never rfl (pi_range1 (by rfl) T.bi.rng (pa_cons (pe_callB call_len_seq (by rfl) T.bi.len PySem.boot_len (pa_cons (pv 1) pa_nil)) pa_nil)) (pg_name (i := 2) nd rfl (.inl rfl))
        (pss_one (ps_if (pt_not (pt_val (pe_call G1 hr (by rfl) m1 k1 b1 .nil pass0 (pa_cons (pe_ix ix_tup (pv 0) (pv 2) (fun _ _ => rfl)) (pa_cons (pe_ix ix_tup (pv 1) (pv 2) (fun _ _ => rfl)) pa_nil))))) pss_never pss_nil)))
      (pss_one (ps_ret pe_bl))))))))), ?_⟩
    refine ⟨.ref a2, rfl, _, rfl, ifD (fun h => nomatch h) (fun _ => ?_)⟩
    refine ⟨.ref a2, rfl, _, _, _, _, false, rfl, .ty _, .base (.tup h2), kit_ty (by decide +kernel), _, rfl, iteF ?_⟩
    refine ⟨.ref a2, rfl, _, _, _, _, false, rfl, .ty _, .base (.tup h2), kit_ty (by decide +kernel), _, rfl, iteF ?_⟩
    refine ⟨.ref a2, rfl, _, _, _, _, false, rfl, .ty _, .base (.tup h2), kit_ty (by decide +kernel), _, rfl, iteF ?_⟩
    refine ⟨.ref a2, rfl, _, _, _, _, false, rfl, .ty _, .base (.tup h2), kit_ty (by decide +kernel), _, rfl, iteF (iteF ?_)⟩
    refine ⟨.ref a2, rfl, _, _, _, _, true, rfl, .ty _, .base (.tup h2), kit_ty (by decide +kernel), _, rfl, iteT ?_⟩
    refine ⟨.ref a1, rfl, _, _, _, _, true, rfl, .ty _, .base (.tup h1), kit_ty (by decide +kernel), _, rfl, iteF ?_⟩
    refine ⟨.ref a1, rfl, a1, _, rfl, .inr (SqT.of h1), .ref a2, rfl, a2, _, rfl, .inr (SqT.of h2), rfl, _, rfl, iteNS rfl ?_⟩
    refine ⟨.ref a2, rfl, a2, _, rfl, .inr (SqT.of h2), 1, rfl, by decide, by decide, for_range (lo := 0) (n := 1) (fun i σ H' => (∃ x, σ = [some (.ref a1), some (.ref a2), x]) ∧ H' = H) ⟨⟨none, rfl⟩, rfl⟩ ?_ ?_⟩
    · rintro i σ H1 hi ⟨⟨x, rfl⟩, rfl⟩
      have e0 : i = 0 := by omega
      subst e0
      exact ⟨.ref a1, rfl, .int 0, rfl, a1, _, 0, .str z, rfl, rfl, SqT.of h1, atI_nat (j := 0) rfl, .ref a2, rfl, .int 0, rfl, a2, _, 0, .str z, rfl, rfl, SqT.of h2, atI_nat (j := 0) rfl, z, rfl, true, rfl, iteF ⟨⟨_, rfl⟩, rfl⟩⟩
    · rintro σ H1 ⟨⟨x, rfl⟩, rfl⟩
      exact q
/-! ### the reason holds -/
def spReason : Sp := fun vs H Q _ => ∃ (a b r : Addr) (n : Nat) (s e : Cub) (cov : List Cub), vs = [.ref a, .ref b, .ref r] ∧ Arg H a b n s e cov ∧ ¬ Calm s e cov ∧
  ((Reach cov s ∧ Reach cov e ∧ H r = some (.tup [.str (Str.ofString "alone")])) ∨ (¬ (Reach cov s ∧ Reach cov e) ∧ ∃ j, j < cov.length ∧ Reason s e cov j ∧ H r = some (.tup [.str (Str.ofString "meets"), .int (j : Nat)]))) ∧
  ∀ H', Same H H' → Q (.bl true) H'
theorem ok_law_reason_holds {k : Nat} (T : Txt K mg) : Ok P w K mg base (k + 3) "_law_reason_holds" ["_law_change_here", "_law_cover_here", "_law_reason"] spReason := T.d_law_reason_holds.ok fun f fd F => by
  obtain ⟨f1, fd1, G1, m1, k1, b1⟩ := ok_law_joined (P := P) (w := w) (base := base) (k := k + 1) T
  obtain ⟨f2, fd2, G2, m2, k2, b2⟩ := ok_law_covers (P := P) (w := w) (base := base) (k := k) T
  obtain ⟨f3, fd3, G3, m3, k3, b3⟩ := ok_law_same2 (P := P) (w := w) (base := base) (k := k) T
  obtain ⟨f4, fd4, G4, m4, k4, b4⟩ := ok_law_same1 (P := P) (w := w) (base := base) (k := k + 1) T
  obtain ⟨f5, fd5, G5, m5, k5, b5⟩ := ok_law_in (P := P) (w := w) (base := base) (k := k + 1) T
  refine F.ok c_law_reason_holds (fun vs H Q E h => ?_) (fun cdv A outer s H vs Q E hr h => ?_)
  · obtain ⟨a, b, r, n, s, e, cov, rfl, _⟩ := h
    rfl
  · obtain ⟨a, b, r, n, s, e, cov, rfl, R, nc, hR, q⟩ := h
    have nd := c_law_reason_holds.nd
    refine ⟨_, pss_cons (ps_set (i := 3) nd rfl (.inr rfl) (pe_call G1 hr (by rfl) m1 k1 b1 .nil pass0 (pa_cons (pe_ix ix_tup (pv 0) pe_int (fun _ _ => rfl)) (pa_cons (pe_ix ix_tup (pv 0) pe_int (fun _ _ => rfl)) pa_nil))))
      (pss_cons (ps_set (i := 4) nd rfl (.inl rfl) (pe_call G2 hr (by rfl) m2 k2 b2 .nil pass0 (pa_cons (pv 1) (pa_cons (pe_ix ix_tup (pv 0) pe_int (fun _ _ => rfl)) pa_nil))))
      (pss_cons (ps_set (i := 5) nd rfl (.inl rfl) (pe_call G2 hr (by rfl) m2 k2 b2 .nil pass0 (pa_cons (pv 1) (pa_cons (pe_ix ix_tup (pv 0) pe_int (fun _ _ => rfl)) pa_nil))))
      (pss_cons (ps_if (PW.pt (pw_and (pt_val (pv 4)) (pw_and1 (pt_val (pv 5)))))
        (pss_one (ps_ret (pe_and (pe_call G3 hr (by rfl) m3 k3 b3 .nil pass0 (pa_cons (pv 2) (pa_cons (pe_tup (pa_cons pe_str pa_nil)) pa_nil)))
          (pe_one (pe_not (pe_callB (cr_any rfl) (by rfl) T.bi.any (by decide +kernel) (pa_cons
            (pe_lc (own := [("_law_product", 6)]) (g := gName 6) (tt := tYes) rfl nd (pi_seqS (pv 1)) (blkOk_by (N := ["_law_change_here", "_law_cover_here", "_law_reason", "_law_cube_here", "_law_before", "_law_after", "_law_product", "_law_at"]) (sc := defScope s_law_reason_holds) (by decide +kernel))
              (fun _ _ _ _ _ => pg_name (i := 6) nd rfl (.inl rfl)) (fun _ _ _ _ _ => pts_nil)
              (fun _ _ _ _ _ => pe_call G5 hr (by rfl) m5 k5 b5 .nil pass0 (pa_cons (pv 6) (pa_cons (pv 3) pa_nil)))) pa_nil))))))) pss_nil)
      (pss_cons (ps_if (PW.pt (pw_or (pt_not (pt_val (pe_callB call_isi (by rfl) T.bi.isi PyProof.Rows.boot_isinstance (pa_cons (pv 2) (pa_cons (pe_bltn (v := .ty "tuple") (by rfl) T.bi.tup (by decide +kernel) rfl) pa_nil)))))
          (pw_or (pt_cmpR op_ne (pe_callB call_len_seq (by rfl) T.bi.len PySem.boot_len (pa_cons (pv 2) pa_nil)) pe_int (nomark _))
          (pw_or1 (pt_not (pt_val (pe_call G4 hr (by rfl) m4 k4 b4 .nil pass0 (pa_cons (pe_ix ix_tup (pv 2) pe_int (fun _ _ => rfl)) (pa_cons pe_str pa_nil)))))))))
        pss_never pss_nil)
      (pss_cons (ps_if (PW.pt (pw_or (pt_not (pt_val (pe_callB call_isi (by rfl) T.bi.isi PyProof.Rows.boot_isinstance (pa_cons (pe_ix ix_tup (pv 2) pe_int (fun _ _ => rfl)) (pa_cons (pe_bltn (v := .ty "int") (by rfl) T.bi.int (by decide +kernel) rfl) pa_nil)))))
          (pw_or (pt_val (pe_callB call_isi (by rfl) T.bi.isi PyProof.Rows.boot_isinstance (pa_cons (pe_ix ix_tup (pv 2) pe_int (fun _ _ => rfl)) (pa_cons (pe_bltn (v := .ty "bool") (by rfl) T.bi.bool (by decide +kernel) rfl) pa_nil))))
          (pw_or (pt_cmpR op_lt (pe_ix ix_tup (pv 2) pe_int (fun _ _ => rfl)) pe_int (nomark _))
          (pw_or1 (pt_cmpR op_ge (pe_ix ix_tup (pv 2) pe_int (fun _ _ => rfl)) (pe_callB call_len_seq (by rfl) T.bi.len PySem.boot_len (pa_cons (pv 1) pa_nil)) (nomark _)))))))
        pss_never pss_nil)
      (pss_cons (ps_set (i := 6) nd rfl (.inr rfl) (pe_ix ix_sq (pv 1) (pe_ix ix_tup (pv 2) pe_int (fun _ _ => rfl)) (fun _ _ => rfl)))
      (pss_cons (ps_if (pt_cmpR op_gt (pe_callB call_len_seq (by rfl) T.bi.len PySem.boot_len (pa_cons
          (pe_lc (own := [("_law_at", 7)]) (g := gName 7) (tt := tTest (tOp (rIn K false) _ _)) rfl nd (pi_range1 (by rfl) T.bi.rng (pa_cons (pe_callB call_len_str (by rfl) T.bi.len PySem.boot_len (pa_cons (pv 3) pa_nil)) pa_nil))
            (blkOk_by (N := ["_law_change_here", "_law_cover_here", "_law_reason", "_law_cube_here", "_law_before", "_law_after", "_law_product", "_law_at"]) (sc := defScope s_law_reason_holds) (by decide +kernel))
            (fun _ _ _ _ _ => pg_name (i := 7) nd rfl (.inl rfl))
            (fun _ _ _ _ _ => pts_one (pt_cmpR op_in_seq (pe_op op_add_str (pe_ix ix_str (pv 6) (pv 7) (fun _ _ => rfl)) (pe_ix ix_str (pv 3) (pv 7) (fun _ _ => rfl))) (pe_lst (pa_cons pe_str (pa_cons pe_str pa_nil))) (by rfl)))
            (fun _ _ _ _ _ => pv 7)) pa_nil)) pe_int (nomark _))
        pss_never pss_nil)
      (pss_cons (ps_if (pt_val (pv 4)) (pss_one (ps_ret (pe_not (pe_call G5 hr (by rfl) m5 k5 b5 .nil pass0 (pa_cons (pv 6) (pa_cons (pe_ix ix_tup (pv 0) pe_int (fun _ _ => rfl)) pa_nil)))))) pss_nil)
      (pss_cons (ps_if (pt_val (pv 5)) (pss_one (ps_ret (pe_not (pe_call G5 hr (by rfl) m5 k5 b5 .nil pass0 (pa_cons (pv 6) (pa_cons (pe_ix ix_tup (pv 0) pe_int (fun _ _ => rfl)) pa_nil)))))) pss_nil)
      (pss_one (ps_ret pe_bl))))))))))), ?_⟩
    have FF := R.fits
    have ls := R.fits.ls
    have le := R.fits.le
    have n4 := R.n4
    have cl := R.cl
    have hT : SqT K H a [ev s, ev e] := SqT.of R.ch
    have lj : (joinF s e).length = n := by rw [join_length]; exact ls
    refine ⟨.ref a, rfl, a, _, 0, ev s, rfl, rfl, hT, atI_nat (j := 0) rfl, .ref a, rfl, a, _, 1, ev e, rfl, rfl, hT, atI_nat (j := 1) rfl, s, e, rfl, by omega, by omega, ?_⟩
    refine ⟨.ref b, rfl, .ref a, rfl, a, _, 0, ev s, rfl, rfl, hT, atI_nat (j := 0) rfl, b, cov, s, rfl, R.cv, fun c hc => (by rw [FF.lc c hc, ls]; exact Nat.le_refl _), by omega, ?_⟩
    refine ⟨.ref b, rfl, .ref a, rfl, a, _, 1, ev e, rfl, rfl, hT, atI_nat (j := 1) rfl, b, cov, e, rfl, R.cv, fun c hc => (by rw [FF.lc c hc, le]; exact Nat.le_refl _), by omega, ?_⟩
    rcases hR with ⟨hs, he, er⟩ | ⟨nb, j, hj, hr', er⟩
    · -- both ends are covered: alone
      refine ⟨_, rfl, _, rfl, ifD (fun _ => ?_) (fun z => absurd hs z)⟩
      refine ⟨_, rfl, _, rfl, ifD (fun _ => ?_) (fun z => absurd he z)⟩
      refine ⟨.ref r, rfl, by show 1 ≤ sizeLine; decide, fun t nt => ?_⟩
      have st : Same H (upd H t (.tup [.str (Str.ofString "alone")])) := same_upd nt
      have Rt := R.same st
      refine ⟨r, t, _, rfl, st _ _ er, upd_same, true, rfl, iteT ?_⟩
      generalize upd H t (.tup [.str (Str.ofString "alone")]) = Ht at st Rt
      refine ⟨.ref b, rfl, b, _, rfl, Rt.cv, fun J wk => fun D nD => lc_it wk (fun i H' => Same Ht H' ∧ H' D = some (.lst (((cov.take i).map fun c => decide (Inside c (joinF s e))).map V.bl))) ⟨same_upd nD, upd_same⟩ (fun _ _ _ h => Rt.cv.keep h.1) ?_ ?_⟩
      · rintro i v H5 H6 hi ⟨sm5, eD⟩ ⟨rfl, hx⟩
        rw [List.length_map] at hi
        rw [cov_at hi] at hx
        have hx : v = ev (cu cov i) := (Option.some.inj hx).symm
        subst hx
        refine ⟨rfl, ?_⟩
        refine ⟨ev (cu cov i), rfl, ev (joinF s e), rfl, cu cov i, joinF s e, rfl, (by rw [FF.lc _ (cu_mem hi), lj]; exact Nat.le_refl _), by omega, ?_⟩
        refine ⟨_, eD, ?_, same_set sm5 nD, ?_⟩
        · rw [List.length_map, List.length_map, List.length_take]
          exact small1000 (by omega)
        · rw [upd_same, map_take_succ _ (cu_get hi), List.map_append]
          rfl
      · rintro H5 ⟨sm5, eD⟩
        rw [List.length_map, List.take_of_length_le (Nat.le_refl _)] at eD
        refine ⟨D, _, rfl, .inl (.inl eD), _, rfl, ?_⟩
        rw [any_reach, decide_eq_false fun h => nc ((calm_both FF hs he).mpr h)]
        exact q _ (st.trans sm5)
    · -- a product that meets
      have hTr : SqT K H r [.str (Str.ofString "meets"), .int (j : Nat)] := SqT.of er
      have t1 : ∀ (σ : L2.St) (Z : Bool → Hp → Prop), σ[4]? = some (some (.bl (decide (Reach cov s)))) → σ[5]? = some (some (.bl (decide (Reach cov e)))) → Z false H → tAnd (tB (tVar 4)) (tB (tVar 5)) σ H Z := fun σ Z h5 h6 z => by
        refine ⟨_, h5, _, rfl, ifD (fun hs => ?_) (fun _ => z)⟩
        refine ⟨_, h6, _, rfl, ?_⟩
        rw [decide_eq_false (show ¬ Reach cov e from fun he => nb ⟨hs, he⟩)]
        exact z
      refine t1 _ _ rfl rfl (iteF ?_)
      refine ⟨.ref r, rfl, _, _, _, _, true, rfl, .ty _, .base (.tup er), kit_ty (by decide +kernel), _, rfl, iteF ?_⟩
      refine ⟨.ref r, rfl, r, _, rfl, .inr hTr, rfl, _, rfl, iteNS rfl ?_⟩
      refine ⟨.ref r, rfl, r, _, 0, _, rfl, rfl, hTr, atI_nat (j := 0) rfl, _, rfl, true, rfl, iteF ?_⟩
      refine ⟨.ref r, rfl, r, _, 1, .int (j : Nat), rfl, rfl, hTr, atI_nat (j := 1) rfl, _, _, _, _, true, rfl, .ty _, .base (.int _), kit_ty (by decide +kernel), _, rfl, iteF ?_⟩
      refine ⟨.ref r, rfl, r, _, 1, .int (j : Nat), rfl, rfl, hTr, atI_nat (j := 1) rfl, _, _, _, _, false, rfl, .ty _, .base (.int _), kit_ty (by decide +kernel), _, rfl, iteF ?_⟩
      refine ⟨.ref r, rfl, r, _, 1, .int (j : Nat), rfl, rfl, hTr, atI_nat (j := 1) rfl, _, _, rfl, rfl, _, rfl, ifD (fun z => ?_) (fun _ => ?_)⟩
      · have z : ((j : Nat) : Int) < 0 := z
        omega
      refine ⟨.ref r, rfl, r, _, 1, .int (j : Nat), rfl, rfl, hTr, atI_nat (j := 1) rfl, .ref b, rfl, b, _, rfl, R.cv.seq, _, _, rfl, rfl, _, rfl, ifD (fun z => ?_) (fun _ => ?_)⟩
      · rw [List.length_map] at z
        have z : ((cov.length : Nat) : Int) ≤ (j : Nat) := z
        omega
      refine ⟨.ref b, rfl, .ref r, rfl, r, _, 1, .int (j : Nat), rfl, rfl, hTr, atI_nat (j := 1) rfl, b, _, j, ev (cu cov j), rfl, rfl, R.cv, atI_nat (cov_at hj), ?_⟩
      have hc : (cu cov j).length = n := FF.lc _ (cu_mem hj)
      refine ⟨ev (joinF s e), rfl, enc (joinF s e), rfl, small (by rw [enc_len]; omega), _, rfl, by rw [enc_len]; omega, by rw [enc_len]; omega, fun D nD => ?_⟩
      rw [int2, enc_len, lj, ← hc]
      refine lc_range (lo := 0) (n := (cu cov j).length) (fun i H' => Same H H' ∧ H' D = some (.lst (((List.range i).filter fun i => opp (g (cu cov j) i) (g (joinF s e) i)).map fun (i : Nat) => V.int i))) ⟨same_upd nD, upd_same⟩ ?_ ?_
      · rintro i H1 hi ⟨sm, eD⟩
        have z0 : (0 : Int) + (i : Nat) = (i : Nat) := Int.zero_add _
        rw [z0]
        refine ⟨rfl, ?_⟩
        refine ⟨ev (cu cov j), rfl, .int (i : Nat), rfl, enc (cu cov j), i, (g (cu cov j) i).code, rfl, rfl, small (by rw [enc_len]; omega), enc_at hi, ev (joinF s e), rfl, .int (i : Nat), rfl, enc (joinF s e), i, (g (joinF s e) i).code, rfl, rfl, small (by rw [enc_len]; omega), enc_at (by omega), _, _, rfl, rfl, by show 2 ≤ sizeLine; decide, ?_⟩
        refine ⟨by show 2 ≤ sizeLine; decide, fun p np => ?_⟩
        refine ⟨p, _, rfl, .inl (SqL.of upd_same), rfl, rfl, _, rfl, ?_⟩
        have eI : inV (.str (sgS (g (cu cov j) i) ++ sgS (g (joinF s e) i))) [.str (Str.ofString "01"), .str (Str.ofString "10")] = opp (g (cu cov j) i) (g (joinF s e) i) := in_opp _ _
        have sp : Same H1 (upd H1 p (.lst [.str (Str.ofString "01"), .str (Str.ofString "10")])) := same_upd np
        have sm2 := sm.trans sp
        have eD2 := sp _ _ eD
        show if inV (.str (sgS (g (cu cov j) i) ++ sgS (g (joinF s e) i))) [.str (Str.ofString "01"), .str (Str.ofString "10")] = true then _ else _
        rw [eI]
        refine ifB (fun h => ?_) (fun h => ?_)
        · refine ⟨.int (i : Nat), rfl, _, eD2, ?_, same_set sm2 nD, ?_⟩
          · rw [List.length_map]
            exact small1000 (Nat.le_trans (filter_len _ _) (by omega))
          · rw [upd_same, range_succ_filter, if_pos h, List.map_append]
            rfl
        · refine ⟨sm2, ?_⟩
          rw [eD2, range_succ_filter, if_neg (by rw [h]; decide), List.append_nil]
      · rintro H1 ⟨sm, eD⟩
        have eD : H1 D = some (.lst ((opposedF (cu cov j) (joinF s e)).map fun (i : Nat) => V.int i)) := eD
        rw [hr'.1] at eD
        have R1 := R.same sm
        have hT1 : SqT K H1 a [ev s, ev e] := SqT.of R1.ch
        refine ⟨D, _, rfl, .inl (SqL.of eD), _, _, rfl, rfl, _, rfl, ifD (fun z => ?_) (fun _ => ?_)⟩
        · have z : (0 : Int) < 0 := z
          omega
        refine ⟨_, rfl, _, rfl, ifD (fun hs => ?_) (fun hs => ?_)⟩
        · refine ⟨ev (cu cov j), rfl, .ref a, rfl, a, _, 0, ev s, rfl, rfl, hT1, atI_nat (j := 0) rfl, cu cov j, s, rfl, by omega, by omega, _, rfl, ?_⟩
          rw [decide_eq_false (hr'.2.1 hs)]
          exact q _ sm
        refine ⟨_, rfl, _, rfl, ifD (fun he => ?_) (fun he => ?_)⟩
        · refine ⟨ev (cu cov j), rfl, .ref a, rfl, a, _, 1, ev e, rfl, rfl, hT1, atI_nat (j := 1) rfl, cu cov j, e, rfl, by omega, by omega, _, rfl, ?_⟩
          rw [decide_eq_false (hr'.2.2 he)]
          exact q _ sm
        · exact q _ sm
end
end Stc
end

/-! ## W14 -/
section
set_option Elab.async false
set_option linter.all false
set_option maxRecDepth 100000
set_option maxHeartbeats 4000000
namespace Stc
open PySem PySem.Spec PyProof.Rows L2 StR
/-! ### lists of wires as data; sorted -/
def td (x : Wr) : PyData := .tuple [.int (x.1 : Nat), .int (x.2 : Nat)]
theorem td_lay : ∀ ws : List Wr, PyData.canLayAll0 (ws.map td) = true ∧ PyData.depthAll (ws.map td) ≤ 1
  | [] => ⟨rfl, by show 0 ≤ 1; omega⟩
  | x :: r => by
    obtain ⟨h1, h2⟩ := td_lay r
    refine ⟨?_, ?_⟩
    · show (PyData.canLay0 (td x) && PyData.canLayAll0 (r.map td)) = true
      rw [h1]
      rfl
    · show max (PyData.depth (td x)) (PyData.depthAll (r.map td)) ≤ 1
      have e : PyData.depth (td x) = 1 := rfl
      rw [e]
      omega
theorem td_shaped (ws : List Wr) : SeqAt.shaped (.list (ws.map td)) = true := by
  obtain ⟨h1, h2⟩ := td_lay ws
  unfold SeqAt.shaped
  have e1 : (PyData.list (ws.map td)).canLay0 = true := h1
  have e2 : (PyData.list (ws.map td)).depth ≤ 64 := by
    show PyData.depthAll (ws.map td) + 1 ≤ 64
    omega
  rw [e1, decide_eq_true e2]
  rfl
theorem dp_all {K : PySem.W.Frag} {H : Hp} : ∀ {xs : List V} {ws : List Wr}, Ws H xs ws → DpAll K H xs (ws.map td)
  | [], [], _ => .nil
  | [], _ :: _, h => by have := h.len; cases this
  | _ :: _, [], h => by have := h.len; cases this
  | x :: xs, y :: ws, h => by
    obtain ⟨t, e1, e2⟩ := h.get 0 y rfl
    have e1 : x = .ref t := Option.some.inj e1
    subst e1
    have h' : Ws H xs ws := ⟨by have := h.len; simpa using this, fun i z hz => h.get (i + 1) z hz⟩
    exact .cons (.tup (SqT.of e2) (.cons (.int _) (.cons (.int _) .nil))) (dp_all h')
theorem dp_ws {K : PySem.W.Frag} {H : Hp} {p : Addr} {xs : List V} {ws : List Wr} (e : H p = some (.lst xs)) (h : Ws H xs ws) : Dp K H (.ref p) (.list (ws.map td)) := .lst (SqL.of e) (dp_all h)
/-- the pair that a tuple holds -/
def kf (H : Hp) : V → Int × Int
  | .ref t => match H t with
    | some (.tup [.int i, .int j]) => (i, j)
    | _ => (0, 0)
  | _ => (0, 0)
def ci (x : Wr) : Int × Int := ((x.1 : Int), (x.2 : Int))
theorem kf_at {H : Hp} {t : Addr} {x : Wr} (e : H t = some (.tup [.int (x.1 : Nat), .int (x.2 : Nat)])) : kf H (.ref t) = ci x := by
  show (match H t with
    | some (.tup [.int i, .int j]) => (i, j)
    | _ => (0, 0)) = _
  rw [e]
  rfl
theorem kf_map {H : Hp} {xs : List V} {ws : List Wr} (h : Ws H xs ws) : xs.map (kf H) = ws.map ci := by
  refine List.ext_getElem? fun i => ?_
  rw [List.getElem?_map, List.getElem?_map]
  cases e : ws[i]? with
  | none =>
    have : xs[i]? = none := by
      rw [List.getElem?_eq_none_iff, h.len]
      exact List.getElem?_eq_none_iff.mp e
    rw [this]
    rfl
  | some x =>
    obtain ⟨t, e1, e2⟩ := h.get i x e
    rw [e1]
    show some (kf H (.ref t)) = some (ci x)
    rw [kf_at e2]
theorem ci_inj {x y : Wr} (h : ci x = ci y) : x = y := by
  have a : (x.1 : Int) = y.1 := congrArg Prod.fst h
  have b : (x.2 : Int) = y.2 := congrArg Prod.snd h
  exact Prod.ext (by omega) (by omega)
theorem sorted_ws {H : Hp} {xs ys : List V} {ord ws : List Wr} (hx : Ws H xs ord) (hp : ord.Perm ws) (hw : ws.Pairwise Lt2) (hs : SrtO.Srtd (ltP (kf H)) ys) (hb : SrtO.Stb (ltP (kf H)) ys xs) : Ws H ys ws := by
  have p1 : (ys.map (kf H)).Perm (ws.map ci) := (hb.perm.map _).trans ((kf_map hx) ▸ (hp.map ci))
  have s1 : (ys.map (kf H)).Pairwise fun x y => SrtO.lexB y x = false := List.pairwise_map.mpr hs
  have s2 : (ws.map ci).Pairwise fun x y => SrtO.lexB y x = false := List.pairwise_map.mpr (hw.imp fun {a b} h => by
    rw [SrtO.lexB_no]
    show ¬ ((b.1 : Int) < a.1 ∨ ((b.1 : Int) = a.1 ∧ (b.2 : Int) < a.2))
    rcases h with h | ⟨h1, h2⟩ <;> omega)
  have e : ys.map (kf H) = ws.map ci := List.Perm.eq_of_pairwise (fun a b _ _ h1 h2 => by
    rw [SrtO.lexB_no] at h1 h2
    exact Prod.ext (by omega) (by omega)) s1 s2 p1
  have ln : ys.length = ws.length := by
    have := congrArg List.length e
    simpa using this
  refine ⟨ln, fun i x hxi => ?_⟩
  have hi : i < ys.length := by
    rw [ln]
    exact (List.getElem?_eq_some_iff.mp hxi).1
  have e2 : (ys.map (kf H))[i]? = some (ci x) := by
    rw [e, List.getElem?_map, hxi]
    rfl
  rw [List.getElem?_map, List.getElem?_eq_getElem hi] at e2
  have e2 : kf H ys[i] = ci x := Option.some.inj e2
  have hm : ys[i] ∈ xs := hb.perm.mem_iff.mp (List.getElem_mem hi)
  obtain ⟨j, hj, ej⟩ := List.mem_iff_getElem.mp hm
  obtain ⟨y, t, _, e3, e4⟩ := hx.at (List.getElem?_eq_getElem hj)
  rw [ej] at e3
  rw [e3, kf_at e4] at e2
  have := ci_inj e2
  subst this
  exact ⟨t, by rw [List.getElem?_eq_getElem hi, e3], e4⟩
theorem ws_kf {H : Hp} {xs : List V} {ws : List Wr} (h : Ws H xs ws) : ∀ x, x ∈ xs → ∃ t, x = V.ref t ∧ H t = some (.tup [.int (kf H x).1, .int (kf H x).2]) := fun v hv => by
  obtain ⟨i, hi, rfl⟩ := List.mem_iff_getElem.mp hv
  obtain ⟨x, t, _, e1, e2⟩ := h.at (List.getElem?_eq_getElem hi)
  refine ⟨t, e1, ?_⟩
  rw [e1, kf_at e2]
  exact e2
/-! ### what why and flicker hand back, in one -/
def Rsn (H : Hp) (p : Addr) (s e : Cub) (cov : List Cub) : Prop := (Reach cov s ∧ Reach cov e ∧ H p = some (.tup [.str (Str.ofString "alone")])) ∨ (¬ (Reach cov s ∧ Reach cov e) ∧ ∃ j, j < cov.length ∧ Reason s e cov j ∧ H p = some (.tup [.str (Str.ofString "meets"), .int (j : Nat)]))
theorem Rsn.same {H H' : Hp} {p : Addr} {s e : Cub} {cov : List Cub} (h : Rsn H p s e cov) (sm : Same H H') : Rsn H' p s e cov := by
  rcases h with ⟨a, b, c⟩ | ⟨a, j, b, c, d⟩
  · exact .inl ⟨a, b, sm _ _ c⟩
  · exact .inr ⟨a, j, b, c, sm _ _ d⟩
theorem why_of {H : Hp} {a b : Addr} {n : Nat} {s e : Cub} {cov : List Cub} {Q : VK} {E : XK} (R : Arg H a b n s e cov) (h : ∀ x H', Same H H' → (Calm s e cov ∧ x = .non ∨ ¬ Calm s e cov ∧ ∃ p, x = .ref p ∧ Rsn H' p s e cov) → Q x H') : spWhy [.ref a, .ref b] H Q E :=
  ⟨a, b, n, s, e, cov, rfl, R, fun c H' sm => h _ _ sm (.inl ⟨c, rfl⟩), fun c hs he H' p sm _ ep => h _ _ sm (.inr ⟨c, p, rfl, .inl ⟨hs, he, ep⟩⟩), fun c nb H' p j hj hr sm _ ep => h _ _ sm (.inr ⟨c, p, rfl, .inr ⟨nb, j, hj, hr, ep⟩⟩)⟩
theorem flicker_of {H : Hp} {a b : Addr} {n : Nat} {s e : Cub} {cov : List Cub} {Q : VK} {E : XK} (R : Arg H a b n s e cov) (h : ∀ x H', Same H H' → (Calm s e cov ∧ x = .non ∨ ¬ Calm s e cov ∧ ∃ p, x = .ref p ∧ WL H' p (longF s e cov)) → Q x H') : spFlicker [.ref a, .ref b] H Q E :=
  ⟨a, b, n, s, e, cov, rfl, R, fun c H' sm => h _ _ sm (.inl ⟨c, rfl⟩), fun c H' p sm _ hp => h _ _ sm (.inr ⟨c, p, rfl, hp⟩)⟩
theorem Arg.other {H : Hp} {a b c : Addr} {n : Nat} {s e : Cub} {cov : List Cub} (A : Arg H a b n s e cov) (h : Sq1 H c (cov.map ev)) : Arg H a c n s e cov := ⟨A.fits, A.n1, A.n4, A.ne, A.cl, A.ch, h⟩
section
variable {P : Program} {w : World} {K : PySem.W.Frag} {mg : Str → Option Value} {base : Heap}
def spRight : Sp := fun vs H Q _ => ∃ (a b : Addr) (num : Int) (n : Nat) (s e : Cub) (cov : List Cub), vs = [.ref a, .ref b, .int num] ∧ Arg H a b n s e cov ∧ H b = some (.lst (cov.map ev)) ∧ ∀ H', Same H H' → Q (.bl true) H'
theorem ok_law_right {k : Nat} (T : Txt K mg) : Ok P w K mg base (k + 9) "_law_right" ["_law_change_here", "_law_cover_here", "_law_number"] spRight := T.d_law_right.ok fun f fd F => by
  obtain ⟨f1, fd1, G1, m1, k1, b1⟩ := ok_why (P := P) (w := w) (base := base) (k := k + 2) T
  obtain ⟨f2, fd2, G2, m2, k2, b2⟩ := ok_flicker (P := P) (w := w) (base := base) (k := k) T
  obtain ⟨f3, fd3, G3, m3, k3, b3⟩ := ok_calm (P := P) (w := w) (base := base) (k := k + 1) T
  obtain ⟨f4, fd4, G4, m4, k4, b4⟩ := ok_law_wires (P := P) (w := w) (base := base) (k := k + 7) T
  obtain ⟨f5, fd5, G5, m5, k5, b5⟩ := ok_law_shuffled (P := P) (w := w) (base := base) (k := k + 7) T
  obtain ⟨f6, fd6, G6, m6, k6, b6⟩ := ok_law_played (P := P) (w := w) (base := base) (k := k + 6) T
  obtain ⟨f7, fd7, G7, m7, k7, b7⟩ := ok_law_reason_holds (P := P) (w := w) (base := base) (k := k + 5) T
  refine F.ok c_law_right (fun vs H Q E h => ?_) (fun cdv A outer s H vs Q E hr h => ?_)
  · obtain ⟨a, b, num, n, s, e, cov, rfl, _⟩ := h
    rfl
  · obtain ⟨a, b, num, n, s, e, cov, rfl, R, eb, q⟩ := h
    have nd := c_law_right.nd
    have hu := hr.units
    refine ⟨_, pss_cons (ps_set (i := 3) nd rfl (.inl rfl) (pe_call G1 hr (by rfl) m1 k1 b1 .nil pass0 (pa_cons (pv 0) (pa_cons (pe_callTy call_list_of (by rfl) T.bi.lst (by decide +kernel) (pa_cons (pv 1) pa_nil)) pa_nil))))
      (pss_cons (ps_set (i := 4) nd rfl (.inl rfl) (pe_call G2 hr (by rfl) m2 k2 b2 .nil pass0 (pa_cons (pv 0) (pa_cons (pe_callTy call_list_of (by rfl) T.bi.lst (by decide +kernel) (pa_cons (pv 1) pa_nil)) pa_nil))))
      (pss_cons (ps_set (i := 5) nd rfl (.inl rfl) (pe_call G3 hr (by rfl) m3 k3 b3 .nil pass0 (pa_cons (pv 0) (pa_cons (pe_callTy call_tuple_of (by rfl) T.bi.tup (by decide +kernel) (pa_cons (pv 1) pa_nil)) pa_nil))))
      (pss_cons (ps_set (i := 6) nd rfl (.inl rfl) (pe_call G4 hr (by rfl) m4 k4 b4 .nil pass0 (pa_cons (pv 0) (pa_cons (pv 1) pa_nil))))
      (pss_cons (ps_if (pt_cmp (pc_isN (pv 3)) rfl)
        (pss_cons (ps_set (i := 7) nd rfl (.inl rfl) (pe_call G5 hr (by rfl) m5 k5 b5 .nil pass0 (pa_cons (pv 6) (pa_cons (pv 2) (pa_cons pe_int pa_nil)))))
        (pss_one (ps_ret (pe_and (pe_cmp (pc_isN (pv 4)) rfl) (pe_and (pe_cmpR op_isBl (pv 5) pe_bl (nomark _)) (pe_one (pe_cmpR op_le (pe_callB call_len_str (by rfl) T.bi.len PySem.boot_len (pa_cons (pe_call G6 hr (by rfl) m6 k6 b6 .nil pass0 (pa_cons (pv 0) (pa_cons (pv 1) (pa_cons (pv 7) pa_nil)))) pa_nil)) pe_int (nomark _)))))))) pss_nil)
      (pss_cons (ps_if (PW.pt (pw_or (pt_cmpR op_notBl (pv 5) pe_bl (nomark _)) (pw_or1 (pt_not (pt_val (pe_call G7 hr (by rfl) m7 k7 b7 .nil pass0 (pa_cons (pv 0) (pa_cons (pv 1) (pa_cons (pv 3) pa_nil))))))))) pss_never pss_nil)
      (pss_cons (ps_if (PW.pt (pw_or (pt_not (pt_val (pe_callB call_isi (by rfl) T.bi.isi PyProof.Rows.boot_isinstance (pa_cons (pv 4) (pa_cons (pe_bltn (v := .ty "list") (by rfl) T.bi.lst (by decide +kernel) rfl) pa_nil)))))
          (pw_or1 (pt_cmpR (op_neD hu) (pe_callB cr_sortedPO (by rfl) T.bi.srt (by decide +kernel) (pa_cons (pv 4) pa_nil)) (pv 6) (nomark _))))) pss_never pss_nil)
      (pss_one (ps_ret (pe_cmpR op_gt (pe_callB call_len_str (by rfl) T.bi.len PySem.boot_len (pa_cons (pe_call G6 hr (by rfl) m6 k6 b6 .nil pass0 (pa_cons (pv 0) (pa_cons (pv 1) (pa_cons (pv 4) pa_nil)))) pa_nil)) pe_int (nomark _)))))))))), ?_⟩
    have n4 := R.n4
    have cl := R.cl
    have FF := R.fits
    have wl : (wiresF s e cov).length ≤ 48 := Nat.le_trans (wires_len (n := n) fun c hc => Nat.le_of_eq (FF.lc c hc)) (Nat.mul_le_mul cl n4)
    -- reason = why(change, list(cover))
    refine ⟨.ref a, rfl, .ref b, rfl, b, _, rfl, .inl (SqL.of eb), fun l1 nl1 => ?_⟩
    have sl1 : Same H (upd H l1 (.lst (cov.map ev))) := same_upd nl1
    dsimp only [tNil, List.append_nil]
    refine why_of ((R.same sl1).other (.inl upd_same)) fun xr H1 sm1 o1 => ?_
    have s1 := sl1.trans sm1
    -- told = flicker(change, list(cover))
    refine ⟨.ref a, rfl, .ref b, rfl, b, _, rfl, .inl (SqL.of (s1 _ _ eb)), fun l2 nl2 => ?_⟩
    have sl2 : Same H1 (upd H1 l2 (.lst (cov.map ev))) := same_upd nl2
    dsimp only [tNil, List.append_nil]
    refine flicker_of (((R.same s1).same sl2).other (.inl upd_same)) fun xt H2 sm2 o2 => ?_
    have s12 := sl2.trans sm2
    have s2 := s1.trans s12
    -- quiet = calm(change, tuple(cover))
    refine ⟨.ref a, rfl, .ref b, rfl, b, _, rfl, .inl ⟨SqL.of (s2 _ _ eb), fun l3 nl3 => ?_⟩⟩
    have sl3 : Same H2 (upd H2 l3 (.tup (cov.map ev))) := same_upd nl3
    refine ⟨a, l3, n, s, e, cov, rfl, ((R.same s2).same sl3).other (.inr upd_same), fun H3 sm3 => ?_⟩
    have s23 := sl3.trans sm3
    have s3 := s2.trans s23
    -- known = _law_wires(change, cover)
    refine ⟨.ref a, rfl, .ref b, rfl, a, b, n, s, e, cov, rfl, R.same s3, fun H4 pk s34 npk hk => ?_⟩
    have s4 := s3.trans s34
    have R4 := R.same s4
    refine ⟨xr, rfl, _, rfl, ?_⟩
    rcases o1 with ⟨c, rfl⟩ | ⟨nc, pr, rfl, hr1⟩
    · -- calm
      obtain ⟨_, rfl⟩ : Calm s e cov ∧ xt = .non := by
        rcases o2 with z | ⟨z, _⟩
        · exact z
        · exact absurd c z
      refine ifD (fun _ => ?_) (fun z => absurd rfl z)
      refine ⟨.ref pk, rfl, .int num, rfl, pk, num, _, rfl, hk, by omega, fun H5 po ord s45 npo hO lo => ?_⟩
      have s5 := s4.trans s45
      refine ⟨.non, rfl, _, rfl, ifD (fun _ => ?_) (fun z => absurd rfl z)⟩
      refine ⟨.bl (decide (Calm s e cov)), rfl, decide (Calm s e cov), true, rfl, rfl, _, rfl, ?_⟩
      refine ifD (fun _ => ?_) (fun z => absurd (decide_eq_true c) z)
      refine ⟨.ref a, rfl, .ref b, rfl, .ref po, rfl, a, b, po, n, s, e, cov, ord, rfl, R.same s5, hO, lo, fun H6 z s56 hz => ?_⟩
      have lz : z.length ≤ 2 := by rw [hz]; exact calm_len FF c ord _
      refine ⟨z, rfl, small (by omega), _, _, rfl, rfl, ?_⟩
      have e1 : (decide (((z.length : Nat) : Int) ≤ 2)) = true := decide_eq_true (by omega)
      have q' : Q (.bl (decide (((z.length : Nat) : Int) ≤ 2))) H6 := by
        rw [e1]
        exact q _ (s5.trans s56)
      exact q'
    · -- not calm
      obtain ⟨_, pt, rfl, hpt⟩ : ¬ Calm s e cov ∧ ∃ p, xt = .ref p ∧ WL H2 p (longF s e cov) := by
        rcases o2 with ⟨z, _⟩ | z
        · exact absurd z nc
        · exact z
      refine ifD (fun z => nomatch z) (fun _ => ?_)
      refine ⟨.bl (decide (Calm s e cov)), rfl, decide (Calm s e cov), false, rfl, rfl, _, rfl, iteNS (decide_eq_false nc) ?_⟩
      refine ⟨.ref a, rfl, .ref b, rfl, .ref pr, rfl, a, b, pr, n, s, e, cov, rfl, R4, nc, hr1.same (s12.trans (s23.trans s34)), fun H5 s45 => ⟨true, rfl, iteF ?_⟩⟩
      have s5 := s4.trans s45
      obtain ⟨xs, ept, hx⟩ := hpt
      have s25 : Same H2 H5 := s23.trans (s34.trans s45)
      have ept5 := s25 _ _ ept
      have hx5 := hx.same s25
      refine ⟨.ref pt, rfl, _, _, _, _, true, rfl, .ty _, .base (.lst ept5), kit_ty (by decide +kernel), _, rfl, iteF ?_⟩
      refine ⟨.ref pt, rfl, pt, xs, kf H5, rfl, SqL.of ept5, ws_kf hx5, fun ys ps hsrt hstb nps => ?_⟩
      have sps : Same H5 (upd H5 ps (.lst ys)) := same_upd nps
      have hys : Ws H5 ys (wiresF s e cov) := sorted_ws hx5 (longF_perm FF) (wires_up s e cov) hsrt hstb
      obtain ⟨ks, ek, hks⟩ := hk
      have s4ps := s45.trans sps
      refine ⟨.ref pk, rfl, _, _, dp_ws upd_same (hys.same sps), dp_ws (s4ps _ _ ek) (hks.same s4ps), td_shaped _, td_shaped _, _, rfl, ?_⟩
      have eqv : PyData.eqv (.list ((wiresF s e cov).map td)) (.list ((wiresF s e cov).map td)) = true := SeqAt.eqv_refl _ (SeqAt.canLay_of_shaped (td_shaped _))
      rw [eqv]
      refine iteF ?_
      have s6 := s5.trans sps
      have lo : (longF s e cov).length ≤ 48 := by rw [(longF_perm FF).length_eq]; exact wl
      refine ⟨.ref a, rfl, .ref b, rfl, .ref pt, rfl, a, b, pt, n, s, e, cov, longF s e cov, rfl, R.same s6, ⟨xs, sps _ _ ept5, hx5.same sps⟩, by omega, fun H7 z s67 hz => ?_⟩
      have lz : 2 < z.length := by rw [hz]; exact long_len FF nc
      have lz2 : z.length ≤ 1000 := by
        have := wlen_le (fOf s e cov (longF s e cov)) (longF s e cov).length
        omega
      refine ⟨z, rfl, small lz2, _, _, rfl, rfl, ?_⟩
      have e1 : (decide ((2 : Int) < ((z.length : Nat) : Int))) = true := decide_eq_true (by omega)
      have q' : Q (.bl (decide ((2 : Int) < ((z.length : Nat) : Int)))) H7 := by
        rw [e1]
        exact q _ (s6.trans s67)
      exact q'
end
end Stc
end

/-! ## W15 -/
section
set_option Elab.async false
set_option linter.all false
set_option maxRecDepth 100000
set_option maxHeartbeats 4000000
namespace Stc
open PySem PySem.Spec PyProof.Rows L2 StR
/-- t, told with a word of one's own of what holds after it -/
def tVia (t : TS) : TS := fun D σ H => ∃ M : L2.St → Hp → Prop, t { D with nx := M } σ H ∧ ∀ a E, M a E → D.nx a E
theorem ps_via {X : Cx} {st : Stmt} {t : TS} (h : PS X st t) : PS X st (tVia t) := by
  constructor
  intro pins s σ H D I q
  obtain ⟨M, q, m⟩ := q
  refine thn (h.run pins s σ H _ I q) ?_
  intro f s' r
  match f, r with
  | .next, ⟨a, E, J, z⟩ => exact ⟨a, E, J, m a E z⟩
  | .ret _, r => exact r
  | .brk, r => exact r
  | .cont, r => exact r
def tMid (t u : TS) : TS := tSeq (tVia t) u
theorem pss_mid {X : Cx} {st : Stmt} {rest : List Stmt} {t u : TS} (a : PS X st t) (b : PSs X rest u) : PSs X (st :: rest) (tMid t u) := pss_cons (ps_via a) b
/-- v is a change of n inputs -/
def RowOk (H : Hp) (n : Nat) (v : V) : Prop := ∃ (t : Addr) (s e : Cub), v = .ref t ∧ H t = some (.tup [ev s, ev e]) ∧ s.length = n ∧ e.length = n ∧ IsPt s ∧ IsPt e ∧ s ≠ e
theorem RowOk.same {H H' : Hp} {n : Nat} {v : V} (h : RowOk H n v) (s : Same H H') : RowOk H' n v := by
  obtain ⟨t, a, b, e1, e2, r⟩ := h
  exact ⟨t, a, b, e1, s _ _ e2, r⟩
def Rows (H : Hp) (n : Nat) (xs : List V) : Prop := ∀ v, v ∈ xs → RowOk H n v
theorem Rows.same {H H' : Hp} {n : Nat} {xs : List V} (h : Rows H n xs) (s : Same H H') : Rows H' n xs := fun v hv => (h v hv).same s
theorem Rows.snoc {H : Hp} {n : Nat} {xs : List V} {v : V} (h : Rows H n xs) (k : RowOk H n v) : Rows H n (xs ++ [v]) := fun x hx => by
  rcases List.mem_append.mp hx with hx | hx
  · exact h x hx
  · rw [List.mem_singleton.mp hx]; exact k
theorem Rows.setL {H : Hp} {r : Addr} {o : HO} {n : Nat} {xs ys : List V} (h : Rows H n xs) (e : H r = some (.lst ys)) : Rows (upd H r o) n xs := fun v hv => by
  obtain ⟨t, a, b, e1, e2, q⟩ := h v hv
  refine ⟨t, a, b, e1, ?_, q⟩
  rw [upd_ne (ne_of e2 e (by intro z; cases z))]
  exact e2
theorem cut_mid (ds : List Int) (h : ds.length = 35) : cutV (ds.map V.int) (some 2) (some 14) = ((ds.drop 2).take 12).map V.int := by
  unfold cutV
  have e1 : HT.sIx (ds.map V.int).length 0 (some 2) = 2 := (HT.sIx_nat _ _ 2).trans (by rw [List.length_map, h]; rfl)
  have e2 : HT.sIx (ds.map V.int).length (ds.map V.int).length (some 14) = 14 := (HT.sIx_nat _ _ 14).trans (by rw [List.length_map, h]; rfl)
  rw [e1, e2, List.map_take, List.map_drop]
section
variable {P : Program} {w : World} {K : PySem.W.Frag} {mg : Str → Option Value} {base : Heap}
def spLaw (K : PySem.W.Frag) : Sp := fun vs H Q _ => ∃ (a : Addr) (ns : List Int), vs = [.ref a] ∧ SqL K H a (ns.map V.int) ∧ ns.length ≤ 63 ∧ ∀ H', Q (.bl true) H'
theorem ok_law {k : Nat} {f : Addr} {fd : FuncData} (T : Txt K mg) (F : Fun K "law" "law" s_law f fd) : FnOk P w K mg base CX0 (k + 10) f fd ["_law_script"] (spLaw K) := by
  obtain ⟨f1, fd1, G1, m1, k1, b1⟩ := ok_law_draws (P := P) (w := w) (base := base) (k := k + 7) T
  obtain ⟨f2, fd2, G2, m2, k2, b2⟩ := ok_law_cover (P := P) (w := w) (base := base) (k := k + 7) T
  obtain ⟨f3, fd3, G3, m3, k3, b3⟩ := ok_law_change (P := P) (w := w) (base := base) (k := k + 7) T
  obtain ⟨f4, fd4, G4, m4, k4, b4⟩ := ok_law_strings (P := P) (w := w) (base := base) (k := k + 8) T
  obtain ⟨f5, fd5, G5, m5, k5, b5⟩ := ok_law_right (P := P) (w := w) (base := base) (k := k) T
  obtain ⟨f6, fd6, G6, m6, k6, b6⟩ := ok_calm (P := P) (w := w) (base := base) (k := k + 2) T
  refine F.ok c_law (fun vs H Q E h => ?_) (fun cdv A outer s H vs Q E hr h => ?_)
  · obtain ⟨a, ns, rfl, _⟩ := h
    rfl
  · obtain ⟨a, ns, rfl, ha, hl, q⟩ := h
    have nd := c_law.nd
    refine ⟨_, pss_cons (ps_set (i := 1) nd rfl (.inr rfl) (pe_call G1 hr (by rfl) m1 k1 b1 .nil pass0 (pa_cons (pv 0) (pa_cons pe_int pa_nil))))
      (pss_cons (ps_set (i := 2) nd rfl (.inr rfl) (pe_op op_add pe_int (pe_op op_mod (pe_callTy call_int1 (by rfl) T.bi.int (by decide +kernel) (pa_cons (pe_ix ix_list (pv 1) pe_int (fun _ _ => rfl)) pa_nil)) pe_int)))
      (pss_cons (ps_set (i := 3) nd rfl (.inl rfl) (pe_call G2 hr (by rfl) m2 k2 b2 .nil pass0 (pa_cons (pe_slice sl_list (pv 1) (po_some pe_int) (po_some pe_int)) (pa_cons (pv 2) (pa_cons (pe_op op_mod (pe_callTy call_int1 (by rfl) T.bi.int (by decide +kernel) (pa_cons (pe_ix ix_list (pv 1) pe_int (fun _ _ => rfl)) pa_nil)) pe_int) pa_nil)))))
      (pss_cons (ps_setLc (i := 4) (own := [("_law_k", 9)]) (g := gName 9) (tt := tYes) (by rfl) nd rfl rfl (sw_true rfl rfl rfl (by decide +kernel)) (pi_range1 (by rfl) T.bi.rng (pa_cons pe_int pa_nil))
        (blkOk_by (N := ["_law_script", "_law_draws_here", "_law_n", "_law_cover_here", "_law_rows", "_law_start", "_law_end", "_law_change_here", "_law_back", "_law_k"]) (sc := defScope s_law) (by decide +kernel))
        (fun _ _ _ _ _ => pg_name (i := 9) nd rfl (.inl rfl)) (fun _ _ _ _ _ => pts_nil)
        (fun _ _ _ _ _ => pe_call G3 hr (by rfl) m3 k3 b3 .nil pass0 (pa_cons (pe_ix ix_sq (pv 1) (pe_op op_add pe_int (pv 9)) (fun _ _ => rfl)) (pa_cons (pv 2) pa_nil))))
      (pss_mid (ps_if (pt_cmpR op_lt (pv 2) pe_int (nomark _))
        (pss_cons (ps_set (i := 4) nd rfl (.inl rfl) (pe_lst pa_nil))
        (pss_one (ps_for PassesOwn.never rfl (pi_list (pe_call G4 hr (by rfl) m4 k4 b4 .nil pass0 (pa_cons (pv 2) (pa_cons pe_str pa_nil)))) (pg_name (i := 5) nd rfl (.inl rfl))
          (pss_one (ps_for PassesOwn.never rfl (pi_list (pe_call G4 hr (by rfl) m4 k4 b4 .nil pass0 (pa_cons (pv 2) (pa_cons pe_str pa_nil)))) (pg_name (i := 6) nd rfl (.inl rfl))
            (pss_one (ps_if (pt_cmpR op_ne (pv 5) (pv 6) (nomark _))
              (pss_one (ps_expr (pe_bm PySem.F.plainAttrs_list PySem.F.slot_list_append PySem.F.type_list_append mt_append (pv 4) (pa_cons (pe_tup (pa_cons (pv 5) (pa_cons (pv 6) pa_nil))) pa_nil)))) pss_nil))))))) pss_nil)
      (pss_cons (ps_for PassesOwn.never rfl (pi_list (pv 4)) (pg_name (i := 7) nd rfl (.inl rfl))
        (pss_cons (ps_if (pt_not (pt_val (pe_call G5 hr (by rfl) m5 k5 b5 .nil pass0 (pa_cons (pv 7) (pa_cons (pv 3) (pa_cons (pe_ix ix_list (pv 1) pe_int (fun _ _ => rfl)) pa_nil)))))) pss_never pss_nil)
        (pss_cons (ps_set (i := 8) nd rfl (.inl rfl) (pe_tup (pa_cons (pe_ix ix_tup (pv 7) pe_int (fun _ _ => rfl)) (pa_cons (pe_ix ix_tup (pv 7) pe_int (fun _ _ => rfl)) pa_nil))))
        (pss_one (ps_if (PW.pt (pw_or (pt_not (pt_val (pe_call G5 hr (by rfl) m5 k5 b5 .nil pass0 (pa_cons (pv 8) (pa_cons (pv 3) (pa_cons (pe_ix ix_list (pv 1) pe_int (fun _ _ => rfl)) pa_nil))))))
          (pw_or1 (pt_cmpR op_ne (pe_call G6 hr (by rfl) m6 k6 b6 .nil pass0 (pa_cons (pv 8) (pa_cons (pv 3) pa_nil))) (pe_call G6 hr (by rfl) m6 k6 b6 .nil pass0 (pa_cons (pv 7) (pa_cons (pv 3) pa_nil))) (nomark _))))) pss_never pss_nil)))))
      (pss_one (ps_ret pe_bl))))))), ?_⟩
    -- the draws
    refine ⟨.ref a, rfl, a, ns, rfl, ha, hl, fun H1 d ds sm1 nd1 ed hd hD => ?_⟩
    have at_ : ∀ (j : Nat), j < 35 → ∃ z : Int, atI (ds.map V.int) (j : Int) = some (.int z) := fun j hj => by
      have hj' : j < ds.length := by omega
      exact ⟨ds[j], atI_nat (by rw [List.getElem?_map, List.getElem?_eq_getElem hj']; rfl)⟩
    obtain ⟨z0, e0⟩ := at_ 0 (by omega)
    obtain ⟨z1, e1⟩ := at_ 1 (by omega)
    obtain ⟨z34, e34⟩ := at_ 34 (by omega)
    obtain ⟨z33, e33⟩ := at_ 33 (by omega)
    refine ⟨.ref d, rfl, d, _, 0, .int z0, rfl, rfl, SqL.of ed, e0, .inl ⟨_, rfl, _, _, rfl, rfl, (by show (0 : Int) < 4; decide), _, _, rfl, rfl, ?_⟩⟩
    obtain ⟨n, hn, n1, n4⟩ : ∃ n : Nat, (1 : Int) + z0 % 4 = (n : Int) ∧ 1 ≤ n ∧ n ≤ 4 := by
      obtain ⟨h0, h1⟩ := modb z0 (m := 4) (by decide)
      exact ⟨(1 + z0 % 4).toNat, by omega, by omega, by omega⟩
    dsimp only
    rw [hn]
    -- the cover
    refine ⟨.ref d, rfl, 2, rfl, 14, rfl, d, _, rfl, SqL.of ed, fun c nc => ?_⟩
    rw [cut_mid ds hd]
    have s2 : Same H1 (upd H1 c (.lst (((ds.drop 2).take 12).map V.int))) := same_upd nc
    obtain ⟨m, hm, m12⟩ : ∃ m : Nat, z1 % 13 = (m : Int) ∧ m ≤ 12 := by
      obtain ⟨h0, h1⟩ := modb z1 (m := 13) (by decide)
      exact ⟨(z1 % 13).toNat, by omega, by omega⟩
    refine ⟨.int n, rfl, .ref d, rfl, d, _, 1, .int z1, rfl, rfl, SqL.of (s2 _ _ ed), e1, .inl ⟨_, rfl, _, _, rfl, rfl, (by show (0 : Int) < 13; decide), ?_⟩⟩
    dsimp only
    rw [hm]
    refine ⟨c, (ds.drop 2).take 12, n, m, rfl, upd_same, by rw [List.length_take, List.length_drop]; omega, m12, n4, fun H3 cv cov s3 ncv ecv lcv hcv => ?_⟩
    have s13 := s2.trans s3
    -- the changes that are drawn
    refine ⟨20, rfl, by decide, by decide, fun D nD => ?_⟩
    refine lc_range (lo := 0) (n := 20) (fun i H' => Same H3 H' ∧ ∃ xs, H' D = some (.lst xs) ∧ xs.length = i ∧ Rows H' n xs) ⟨same_upd nD, [], upd_same, rfl, fun v hv => absurd hv List.not_mem_nil⟩ ?_ ?_
    · rintro i H4 hi ⟨sm4, xs, eD, lx, hx⟩
      obtain ⟨zi, ei⟩ := at_ (14 + i) (by omega)
      have ei' : atI (ds.map V.int) (14 + (0 + (i : Int))) = some (.int zi) := by
        have z : (14 : Int) + (0 + (i : Int)) = ((14 + i : Nat) : Int) := by omega
        rw [z]; exact ei
      have ed4 := (s13.trans sm4) _ _ ed
      refine ⟨rfl, ?_⟩
      refine ⟨.ref d, rfl, .int (0 + (i : Int)), rfl, _, _, rfl, rfl, d, _, _, .int zi, rfl, rfl, .inl ed4, ei', .int n, rfl, zi, n, rfl, n1, n4, fun H5 t s e sm5 nt et ls le ps pe ne => ?_⟩
      refine ⟨xs, sm5 _ _ eD, small1000 (by omega), same_set (sm4.trans sm5) nD, xs ++ [.ref t], upd_same, by rw [List.length_append, lx]; rfl, ?_⟩
      exact ((hx.same sm5).snoc ⟨t, s, e, rfl, et, ls, le, ps, pe, ne⟩).setL (sm5 _ _ eD)
    rintro H4 ⟨sm4, xs, eD, lx, hx⟩
    have s14 := s13.trans sm4
    -- all changes, for less than four inputs
    refine ⟨fun σ H' => (∃ (r : Addr) (x5 x6 : Option V) (ys : List V), σ = [some (.ref a), some (.ref d), some (.int n), some (.ref cv), some (.ref r), x5, x6, none, none, none] ∧ H' r = some (.lst ys) ∧ ys.length ≤ 1000 ∧ Rows H' n ys) ∧ Same H4 H', ?_, ?_⟩
    · refine ⟨.int n, rfl, _, _, rfl, rfl, _, rfl, ifD (fun h4 => ?_) (fun _ => ?_)⟩
      · have h4 : (n : Int) < 4 := h4
        refine ⟨Nat.zero_le _, fun r nr => ?_⟩
        have s5 : Same H4 (upd H4 r (.lst [])) := same_upd nr
        refine ⟨.int n, rfl, n, rfl, by omega, fun H6 p ps s6 np ep hps lps => ?_⟩
        have er6 : H6 r = some (.lst []) := s6 _ _ upd_same
        have npr : p ≠ r := fun z => by rw [z, upd_same] at np; cases np
        refine ⟨p, rfl, ⟨_, SqL.of ep⟩, for_list (K := K) (a := p) (xs := ps.map ev) (fun i σ H' => (∃ (x5 x6 : Option V), σ = [some (.ref a), some (.ref d), some (.int n), some (.ref cv), some (.ref r), x5, x6, none, none, none]) ∧ SameX r H6 H' ∧ ∃ ys, H' r = some (.lst ys) ∧ ys.length ≤ 8 * i ∧ Rows H' n ys)
          ⟨⟨none, none, rfl⟩, SameX.refl _ _, [], er6, Nat.le_refl _, fun v hv => absurd hv List.not_mem_nil⟩ (fun i σ H' _ h => SqL.of (h.2.1 _ _ npr ep)) ?_ ?_⟩
        · rintro i v σ H7 hi ⟨⟨x5, x6, rfl⟩, sx, ys, er, ly, hy⟩
          have hil : i < ps.length := by
            have z := (List.getElem?_eq_some_iff.mp hi).1
            rw [List.length_map] at z
            exact z
          rw [List.getElem?_map, List.getElem?_eq_getElem hil] at hi
          have hi : v = ev ps[i] := (Option.some.inj hi).symm
          subst hi
          obtain ⟨l1, p1⟩ := hps _ (List.getElem_mem hil)
          generalize ps[i] = st at l1 p1
          refine ⟨.int n, rfl, n, rfl, by omega, fun H8 p8 qs s8 np8 ep8 hqs lqs => ?_⟩
          have er8 : H8 r = some (.lst ys) := s8 _ _ er
          have np8r : p8 ≠ r := fun z => by rw [z, er] at np8; cases np8
          refine ⟨p8, rfl, ⟨_, SqL.of ep8⟩, for_list (K := K) (a := p8) (xs := qs.map ev) (fun j σ H' => (∃ (x6 : Option V), σ = [some (.ref a), some (.ref d), some (.int n), some (.ref cv), some (.ref r), some (ev st), x6, none, none, none]) ∧ SameX r H8 H' ∧ ∃ ys, H' r = some (.lst ys) ∧ ys.length ≤ 8 * i + j ∧ Rows H' n ys)
            ⟨⟨_, rfl⟩, SameX.refl _ _, ys, er8, ly, hy.same s8⟩ (fun j σ H' _ h => SqL.of (h.2.1 _ _ np8r ep8)) ?_ ?_⟩
          · rintro j v σ H9 hj ⟨⟨x6, rfl⟩, sx9, zs, er9, lz, hz⟩
            have hjl : j < qs.length := by
              have z := (List.getElem?_eq_some_iff.mp hj).1
              rw [List.length_map] at z
              exact z
            rw [List.getElem?_map, List.getElem?_eq_getElem hjl] at hj
            have hj : v = ev qs[j] := (Option.some.inj hj).symm
            subst hj
            obtain ⟨l2, p2⟩ := hqs _ (List.getElem_mem hjl)
            generalize qs[j] = en at l2 p2
            refine ⟨ev st, rfl, ev en, rfl, rfl, _, rfl, ifN (fun hne => ?_) (fun _ => ?_)⟩
            · have hne : st ≠ en := fun z => hne (by rw [z])
              refine ⟨.ref r, rfl, .inl ⟨rfl, _, SqL.of er9⟩, ev st, rfl, ev en, rfl, by show 2 ≤ sizeLine; decide, fun t nt => ?_⟩
              have st9 : Same H9 (upd H9 t (.tup [ev st, ev en])) := same_upd nt
              have er10 := st9 _ _ er9
              refine ⟨r, zs, .ref t, rfl, rfl, er10, small1000 (by omega), ⟨_, rfl⟩, (sx9.same st9).set, zs ++ [.ref t], upd_same, by rw [List.length_append]; show zs.length + 1 ≤ _; omega, ?_⟩
              exact ((hz.same st9).snoc ⟨t, st, en, rfl, upd_same, l1, l2, p1, p2, hne⟩).setL er10
            · exact ⟨⟨_, rfl⟩, sx9, zs, er9, by omega, hz⟩
          · rintro σ H9 ⟨⟨x6, rfl⟩, sx9, zs, er9, lz, hz⟩
            rw [List.length_map] at lz
            refine ⟨⟨_, _, rfl⟩, fun b x nb hb => sx9 b x nb (s8 b x (sx b x nb hb)), zs, er9, by omega, hz⟩
        · rintro σ H7 ⟨⟨x5, x6, rfl⟩, sx, ys, er, ly, hy⟩
          rw [List.length_map] at ly
          exact ⟨⟨r, _, _, ys, rfl, er, by omega, hy⟩, same_in (s5.trans s6) sx nr⟩
      · exact ⟨⟨D, none, none, xs, rfl, eD, by omega, hx⟩, Same.refl _⟩
    -- each change
    · rintro σ H5 ⟨⟨r, x5, x6, ys, rfl, er, ly, hy⟩, s45⟩
      have s15 := s14.trans s45
      have s35 := sm4.trans s45
      refine ⟨.ref r, rfl, r, rfl, ⟨_, SqL.of er⟩, for_list (K := K) (a := r) (xs := ys) (fun i σ H' => (∃ (x7 x8 : Option V), σ = [some (.ref a), some (.ref d), some (.int n), some (.ref cv), some (.ref r), x5, x6, x7, x8, none]) ∧ Same H5 H') ⟨⟨none, none, rfl⟩, Same.refl _⟩ (fun i σ H' _ h => SqL.of (h.2 _ _ er)) ?_ ?_⟩
      · rintro i v σ H6 hi ⟨⟨x7, x8, rfl⟩, s56⟩
        obtain ⟨t, s, e, rfl, et, ls, le, ps, pe, ne⟩ := hy v (List.mem_of_getElem? hi)
        have ed6 := (s15.trans s56) _ _ ed
        have ec6 : H6 cv = some (.lst (cov.map ev)) := (s35.trans s56) _ _ ecv
        have et6 := s56 _ _ et
        have FF : Fits n s e cov := ⟨ls, le, ps, pe, hcv⟩
        have R6 : Arg H6 t cv n s e cov := ⟨FF, n1, n4, ne, by omega, et6, .inl ec6⟩
        refine ⟨.ref t, rfl, .ref cv, rfl, .ref d, rfl, d, _, 34, .int z34, rfl, rfl, SqL.of ed6, e34, t, cv, z34, n, s, e, cov, rfl, R6, ec6, fun H7 s67 => ⟨true, rfl, iteF ?_⟩⟩
        have et7 := s67 _ _ et6
        refine ⟨.ref t, rfl, t, _, 1, ev e, rfl, rfl, SqT.of et7, atI_nat (j := 1) rfl, .ref t, rfl, t, _, 0, ev s, rfl, rfl, SqT.of et7, atI_nat (j := 0) rfl, by show 2 ≤ sizeLine; decide, fun b nb => ?_⟩
        have s78 : Same H7 (upd H7 b (.tup [ev e, ev s])) := same_upd nb
        have s68 := s67.trans s78
        have R8 : Arg (upd H7 b (.tup [ev e, ev s])) b cv n e s cov := ⟨FF.back, n1, n4, ne.symm, by omega, upd_same, .inl (s68 _ _ ec6)⟩
        refine ⟨.ref b, rfl, .ref cv, rfl, .ref d, rfl, d, _, 33, .int z33, rfl, rfl, SqL.of (s68 _ _ ed6), e33, b, cv, z33, n, e, s, cov, rfl, R8, s68 _ _ ec6, fun H9 s89 => ⟨true, rfl, iteF ?_⟩⟩
        have R9 := R8.same s89
        refine ⟨.ref b, rfl, .ref cv, rfl, b, cv, n, e, s, cov, rfl, R9, fun H10 s9 => ?_⟩
        have s6a := s68.trans (s89.trans s9)
        refine ⟨.ref t, rfl, .ref cv, rfl, t, cv, n, s, e, cov, rfl, R6.same s6a, fun H11 s10 => ⟨rfl, _, rfl, ?_⟩⟩
        refine iteNS (congrArg V.bl (decide_eq_decide.mpr (calm_back FF))) ?_
        exact ⟨⟨_, _, rfl⟩, s56.trans (s6a.trans s10)⟩
      · rintro σ H6 ⟨⟨x7, x8, rfl⟩, s56⟩
        exact q _
end
end Stc
end

/-! ## StEnd -/
set_option Elab.async false
set_option linter.all false
set_option maxRecDepth 100000
set_option maxHeartbeats 4000000
namespace Stc
open PySem PySem.Spec PyProof.Rows L2 StR
/-! ### what the top has written -/
/-- a def of a frag that is named by its proof -/
abbrev DfAt {K : PySem.W.Frag} {h : Heap} (_ : K.In h) (mg : Str → Option Value) (x : Str) (st : Stmt) (ps : List Str) : Prop := Df K mg x st ps
theorem df_mk {K : PySem.W.Frag} {h : Heap} {mg : Str → Option Value} {x : Str} {st : Stmt} {ps : List Str} {f : Addr} {od an : Option Addr} {sl : Array (Option Value)} {oc kV dc pm cd ct : Value} (X : K.In h) (G : h.Ns mainGlobals mg)
    (hb : ∀ (kV doc pm : Value) (an : Option Addr) (cdv ct : Value) (us : List Value), us.length = ps.length → bindArgs (PySem.W.fnOf x x (defArgs st) (defBody st) (defScope st) .none kV doc pm an cdv ct) ⟨us, []⟩ = pure (ps.zip us))
    (a : PySem.W.nsIn K mainGlobals x = some (some (.ref f))) (l : K.lookup f = some ⟨oc, od, .func (PySem.W.fnOf x x (defArgs st) (defBody st) (defScope st) .none kV dc pm an cd ct), sl⟩)
    (c : PySem.W.codeIn K cd x = true) (k : PySem.W.keepIn K (.ref f) = true) : Df K mg x st ps :=
  have F := fun_mk (st := st) l c k
  ⟨f, _, F, PySem.W.mg_of X G a, F.binds hb⟩
theorem b_signs_fit : ∀ (kV doc pm : Value) (an : Option Addr) (cdv ct : Value) (us : List Value), us.length = (["thing", "n", "signs"] : List Str).length → bindArgs (PySem.W.fnOf "signs_fit" "signs_fit" (defArgs s_signs_fit) (defBody s_signs_fit) (defScope s_signs_fit) .none kV doc pm an cdv ct) ⟨us, []⟩ = pure ((["thing", "n", "signs"] : List Str).zip us) := fun _ _ _ _ _ _ us hl => match us, hl with | [_, _, _], _ => rfl
theorem b_is_point : ∀ (kV doc pm : Value) (an : Option Addr) (cdv ct : Value) (us : List Value), us.length = (["thing", "n"] : List Str).length → bindArgs (PySem.W.fnOf "is_point" "is_point" (defArgs s_is_point) (defBody s_is_point) (defScope s_is_point) .none kV doc pm an cdv ct) ⟨us, []⟩ = pure ((["thing", "n"] : List Str).zip us) := fun _ _ _ _ _ _ us hl => match us, hl with | [_, _], _ => rfl
theorem b_is_cube : ∀ (kV doc pm : Value) (an : Option Addr) (cdv ct : Value) (us : List Value), us.length = (["thing", "n"] : List Str).length → bindArgs (PySem.W.fnOf "is_cube" "is_cube" (defArgs s_is_cube) (defBody s_is_cube) (defScope s_is_cube) .none kV doc pm an cdv ct) ⟨us, []⟩ = pure ((["thing", "n"] : List Str).zip us) := fun _ _ _ _ _ _ us hl => match us, hl with | [_, _], _ => rfl
theorem b_some_size : ∀ (kV doc pm : Value) (an : Option Addr) (cdv ct : Value) (us : List Value), us.length = (["thing"] : List Str).length → bindArgs (PySem.W.fnOf "some_size" "some_size" (defArgs s_some_size) (defBody s_some_size) (defScope s_some_size) .none kV doc pm an cdv ct) ⟨us, []⟩ = pure ((["thing"] : List Str).zip us) := fun _ _ _ _ _ _ us hl => match us, hl with | [_], _ => rfl
theorem b_inside : ∀ (kV doc pm : Value) (an : Option Addr) (cdv ct : Value) (us : List Value), us.length = (["c", "d"] : List Str).length → bindArgs (PySem.W.fnOf "inside" "inside" (defArgs s_inside) (defBody s_inside) (defScope s_inside) .none kV doc pm an cdv ct) ⟨us, []⟩ = pure ((["c", "d"] : List Str).zip us) := fun _ _ _ _ _ _ us hl => match us, hl with | [_, _], _ => rfl
theorem b_opposed : ∀ (kV doc pm : Value) (an : Option Addr) (cdv ct : Value) (us : List Value), us.length = (["c", "d"] : List Str).length → bindArgs (PySem.W.fnOf "opposed" "opposed" (defArgs s_opposed) (defBody s_opposed) (defScope s_opposed) .none kV doc pm an cdv ct) ⟨us, []⟩ = pure ((["c", "d"] : List Str).zip us) := fun _ _ _ _ _ _ us hl => match us, hl with | [_, _], _ => rfl
theorem b_joined : ∀ (kV doc pm : Value) (an : Option Addr) (cdv ct : Value) (us : List Value), us.length = (["c", "d"] : List Str).length → bindArgs (PySem.W.fnOf "joined" "joined" (defArgs s_joined) (defBody s_joined) (defScope s_joined) .none kV doc pm an cdv ct) ⟨us, []⟩ = pure ((["c", "d"] : List Str).zip us) := fun _ _ _ _ _ _ us hl => match us, hl with | [_, _], _ => rfl
theorem b_is_change : ∀ (kV doc pm : Value) (an : Option Addr) (cdv ct : Value) (us : List Value), us.length = (["thing", "n"] : List Str).length → bindArgs (PySem.W.fnOf "is_change" "is_change" (defArgs s_is_change) (defBody s_is_change) (defScope s_is_change) .none kV doc pm an cdv ct) ⟨us, []⟩ = pure ((["thing", "n"] : List Str).zip us) := fun _ _ _ _ _ _ us hl => match us, hl with | [_, _], _ => rfl
theorem b_size_of_change : ∀ (kV doc pm : Value) (an : Option Addr) (cdv ct : Value) (us : List Value), us.length = (["change"] : List Str).length → bindArgs (PySem.W.fnOf "size_of_change" "size_of_change" (defArgs s_size_of_change) (defBody s_size_of_change) (defScope s_size_of_change) .none kV doc pm an cdv ct) ⟨us, []⟩ = pure ((["change"] : List Str).zip us) := fun _ _ _ _ _ _ us hl => match us, hl with | [_], _ => rfl
theorem b_check_cover : ∀ (kV doc pm : Value) (an : Option Addr) (cdv ct : Value) (us : List Value), us.length = (["cover", "n"] : List Str).length → bindArgs (PySem.W.fnOf "check_cover" "check_cover" (defArgs s_check_cover) (defBody s_check_cover) (defScope s_check_cover) .none kV doc pm an cdv ct) ⟨us, []⟩ = pure ((["cover", "n"] : List Str).zip us) := fun _ _ _ _ _ _ us hl => match us, hl with | [_, _], _ => rfl
theorem b_check_both : ∀ (kV doc pm : Value) (an : Option Addr) (cdv ct : Value) (us : List Value), us.length = (["change", "cover"] : List Str).length → bindArgs (PySem.W.fnOf "check_both" "check_both" (defArgs s_check_both) (defBody s_check_both) (defScope s_check_both) .none kV doc pm an cdv ct) ⟨us, []⟩ = pure ((["change", "cover"] : List Str).zip us) := fun _ _ _ _ _ _ us hl => match us, hl with | [_, _], _ => rfl
theorem b_reaches : ∀ (kV doc pm : Value) (an : Option Addr) (cdv ct : Value) (us : List Value), us.length = (["cover", "point"] : List Str).length → bindArgs (PySem.W.fnOf "reaches" "reaches" (defArgs s_reaches) (defBody s_reaches) (defScope s_reaches) .none kV doc pm an cdv ct) ⟨us, []⟩ = pure ((["cover", "point"] : List Str).zip us) := fun _ _ _ _ _ _ us hl => match us, hl with | [_, _], _ => rfl
theorem b_list_wires : ∀ (kV doc pm : Value) (an : Option Addr) (cdv ct : Value) (us : List Value), us.length = (["change", "cover"] : List Str).length → bindArgs (PySem.W.fnOf "list_wires" "list_wires" (defArgs s_list_wires) (defBody s_list_wires) (defScope s_list_wires) .none kV doc pm an cdv ct) ⟨us, []⟩ = pure ((["change", "cover"] : List Str).zip us) := fun _ _ _ _ _ _ us hl => match us, hl with | [_, _], _ => rfl
theorem b_product_word : ∀ (kV doc pm : Value) (an : Option Addr) (cdv ct : Value) (us : List Value), us.length = (["change", "cube"] : List Str).length → bindArgs (PySem.W.fnOf "product_word" "product_word" (defArgs s_product_word) (defBody s_product_word) (defScope s_product_word) .none kV doc pm an cdv ct) ⟨us, []⟩ = pure ((["change", "cube"] : List Str).zip us) := fun _ _ _ _ _ _ us hl => match us, hl with | [_, _], _ => rfl
theorem b_product_words : ∀ (kV doc pm : Value) (an : Option Addr) (cdv ct : Value) (us : List Value), us.length = (["change", "cover"] : List Str).length → bindArgs (PySem.W.fnOf "product_words" "product_words" (defArgs s_product_words) (defBody s_product_words) (defScope s_product_words) .none kV doc pm an cdv ct) ⟨us, []⟩ = pure ((["change", "cover"] : List Str).zip us) := fun _ _ _ _ _ _ us hl => match us, hl with | [_, _], _ => rfl
theorem b_longest : ∀ (kV doc pm : Value) (an : Option Addr) (cdv ct : Value) (us : List Value), us.length = (["change", "cover"] : List Str).length → bindArgs (PySem.W.fnOf "longest" "longest" (defArgs s_longest) (defBody s_longest) (defScope s_longest) .none kV doc pm an cdv ct) ⟨us, []⟩ = pure ((["change", "cover"] : List Str).zip us) := fun _ _ _ _ _ _ us hl => match us, hl with | [_, _], _ => rfl
theorem b_longest_order : ∀ (kV doc pm : Value) (an : Option Addr) (cdv ct : Value) (us : List Value), us.length = (["change", "cover"] : List Str).length → bindArgs (PySem.W.fnOf "longest_order" "longest_order" (defArgs s_longest_order) (defBody s_longest_order) (defScope s_longest_order) .none kV doc pm an cdv ct) ⟨us, []⟩ = pure ((["change", "cover"] : List Str).zip us) := fun _ _ _ _ _ _ us hl => match us, hl with | [_, _], _ => rfl
theorem b_flicker : ∀ (kV doc pm : Value) (an : Option Addr) (cdv ct : Value) (us : List Value), us.length = (["change", "cover"] : List Str).length → bindArgs (PySem.W.fnOf "flicker" "flicker" (defArgs s_flicker) (defBody s_flicker) (defScope s_flicker) .none kV doc pm an cdv ct) ⟨us, []⟩ = pure ((["change", "cover"] : List Str).zip us) := fun _ _ _ _ _ _ us hl => match us, hl with | [_, _], _ => rfl
theorem b_why : ∀ (kV doc pm : Value) (an : Option Addr) (cdv ct : Value) (us : List Value), us.length = (["change", "cover"] : List Str).length → bindArgs (PySem.W.fnOf "why" "why" (defArgs s_why) (defBody s_why) (defScope s_why) .none kV doc pm an cdv ct) ⟨us, []⟩ = pure ((["change", "cover"] : List Str).zip us) := fun _ _ _ _ _ _ us hl => match us, hl with | [_, _], _ => rfl
theorem b_calm : ∀ (kV doc pm : Value) (an : Option Addr) (cdv ct : Value) (us : List Value), us.length = (["change", "cover"] : List Str).length → bindArgs (PySem.W.fnOf "calm" "calm" (defArgs s_calm) (defBody s_calm) (defScope s_calm) .none kV doc pm an cdv ct) ⟨us, []⟩ = pure ((["change", "cover"] : List Str).zip us) := fun _ _ _ _ _ _ us hl => match us, hl with | [_, _], _ => rfl
theorem b_law_mixed : ∀ (kV doc pm : Value) (an : Option Addr) (cdv ct : Value) (us : List Value), us.length = (["_law_seed", "_law_k"] : List Str).length → bindArgs (PySem.W.fnOf "_law_mixed" "_law_mixed" (defArgs s_law_mixed) (defBody s_law_mixed) (defScope s_law_mixed) .none kV doc pm an cdv ct) ⟨us, []⟩ = pure ((["_law_seed", "_law_k"] : List Str).zip us) := fun _ _ _ _ _ _ us hl => match us, hl with | [_, _], _ => rfl
theorem b_law_draws : ∀ (kV doc pm : Value) (an : Option Addr) (cdv ct : Value) (us : List Value), us.length = (["_law_script", "_law_many"] : List Str).length → bindArgs (PySem.W.fnOf "_law_draws" "_law_draws" (defArgs s_law_draws) (defBody s_law_draws) (defScope s_law_draws) .none kV doc pm an cdv ct) ⟨us, []⟩ = pure ((["_law_script", "_law_many"] : List Str).zip us) := fun _ _ _ _ _ _ us hl => match us, hl with | [_, _], _ => rfl
theorem b_law_strings : ∀ (kV doc pm : Value) (an : Option Addr) (cdv ct : Value) (us : List Value), us.length = (["_law_n", "_law_signs"] : List Str).length → bindArgs (PySem.W.fnOf "_law_strings" "_law_strings" (defArgs s_law_strings) (defBody s_law_strings) (defScope s_law_strings) .none kV doc pm an cdv ct) ⟨us, []⟩ = pure ((["_law_n", "_law_signs"] : List Str).zip us) := fun _ _ _ _ _ _ us hl => match us, hl with | [_, _], _ => rfl
theorem b_law_in : ∀ (kV doc pm : Value) (an : Option Addr) (cdv ct : Value) (us : List Value), us.length = (["_law_cube_here", "_law_inner"] : List Str).length → bindArgs (PySem.W.fnOf "_law_in" "_law_in" (defArgs s_law_in) (defBody s_law_in) (defScope s_law_in) .none kV doc pm an cdv ct) ⟨us, []⟩ = pure ((["_law_cube_here", "_law_inner"] : List Str).zip us) := fun _ _ _ _ _ _ us hl => match us, hl with | [_, _], _ => rfl
theorem b_law_cube : ∀ (kV doc pm : Value) (an : Option Addr) (cdv ct : Value) (us : List Value), us.length = (["_law_number", "_law_n"] : List Str).length → bindArgs (PySem.W.fnOf "_law_cube" "_law_cube" (defArgs s_law_cube) (defBody s_law_cube) (defScope s_law_cube) .none kV doc pm an cdv ct) ⟨us, []⟩ = pure ((["_law_number", "_law_n"] : List Str).zip us) := fun _ _ _ _ _ _ us hl => match us, hl with | [_, _], _ => rfl
theorem b_law_point : ∀ (kV doc pm : Value) (an : Option Addr) (cdv ct : Value) (us : List Value), us.length = (["_law_number", "_law_n"] : List Str).length → bindArgs (PySem.W.fnOf "_law_point" "_law_point" (defArgs s_law_point) (defBody s_law_point) (defScope s_law_point) .none kV doc pm an cdv ct) ⟨us, []⟩ = pure ((["_law_number", "_law_n"] : List Str).zip us) := fun _ _ _ _ _ _ us hl => match us, hl with | [_, _], _ => rfl
theorem b_law_change : ∀ (kV doc pm : Value) (an : Option Addr) (cdv ct : Value) (us : List Value), us.length = (["_law_number", "_law_n"] : List Str).length → bindArgs (PySem.W.fnOf "_law_change" "_law_change" (defArgs s_law_change) (defBody s_law_change) (defScope s_law_change) .none kV doc pm an cdv ct) ⟨us, []⟩ = pure ((["_law_number", "_law_n"] : List Str).zip us) := fun _ _ _ _ _ _ us hl => match us, hl with | [_, _], _ => rfl
theorem b_law_joined : ∀ (kV doc pm : Value) (an : Option Addr) (cdv ct : Value) (us : List Value), us.length = (["_law_one", "_law_other"] : List Str).length → bindArgs (PySem.W.fnOf "_law_joined" "_law_joined" (defArgs s_law_joined) (defBody s_law_joined) (defScope s_law_joined) .none kV doc pm an cdv ct) ⟨us, []⟩ = pure ((["_law_one", "_law_other"] : List Str).zip us) := fun _ _ _ _ _ _ us hl => match us, hl with | [_, _], _ => rfl
theorem b_law_cover : ∀ (kV doc pm : Value) (an : Option Addr) (cdv ct : Value) (us : List Value), us.length = (["_law_draws_here", "_law_n", "_law_many"] : List Str).length → bindArgs (PySem.W.fnOf "_law_cover" "_law_cover" (defArgs s_law_cover) (defBody s_law_cover) (defScope s_law_cover) .none kV doc pm an cdv ct) ⟨us, []⟩ = pure ((["_law_draws_here", "_law_n", "_law_many"] : List Str).zip us) := fun _ _ _ _ _ _ us hl => match us, hl with | [_, _, _], _ => rfl
theorem b_law_covers : ∀ (kV doc pm : Value) (an : Option Addr) (cdv ct : Value) (us : List Value), us.length = (["_law_cover_here", "_law_point_here"] : List Str).length → bindArgs (PySem.W.fnOf "_law_covers" "_law_covers" (defArgs s_law_covers) (defBody s_law_covers) (defScope s_law_covers) .none kV doc pm an cdv ct) ⟨us, []⟩ = pure ((["_law_cover_here", "_law_point_here"] : List Str).zip us) := fun _ _ _ _ _ _ us hl => match us, hl with | [_, _], _ => rfl
theorem b_law_wires : ∀ (kV doc pm : Value) (an : Option Addr) (cdv ct : Value) (us : List Value), us.length = (["_law_change_here", "_law_cover_here"] : List Str).length → bindArgs (PySem.W.fnOf "_law_wires" "_law_wires" (defArgs s_law_wires) (defBody s_law_wires) (defScope s_law_wires) .none kV doc pm an cdv ct) ⟨us, []⟩ = pure ((["_law_change_here", "_law_cover_here"] : List Str).zip us) := fun _ _ _ _ _ _ us hl => match us, hl with | [_, _], _ => rfl
theorem b_law_shown : ∀ (kV doc pm : Value) (an : Option Addr) (cdv ct : Value) (us : List Value), us.length = (["_law_change_here", "_law_cover_here", "_law_turned"] : List Str).length → bindArgs (PySem.W.fnOf "_law_shown" "_law_shown" (defArgs s_law_shown) (defBody s_law_shown) (defScope s_law_shown) .none kV doc pm an cdv ct) ⟨us, []⟩ = pure ((["_law_change_here", "_law_cover_here", "_law_turned"] : List Str).zip us) := fun _ _ _ _ _ _ us hl => match us, hl with | [_, _, _], _ => rfl
theorem b_law_played : ∀ (kV doc pm : Value) (an : Option Addr) (cdv ct : Value) (us : List Value), us.length = (["_law_change_here", "_law_cover_here", "_law_order"] : List Str).length → bindArgs (PySem.W.fnOf "_law_played" "_law_played" (defArgs s_law_played) (defBody s_law_played) (defScope s_law_played) .none kV doc pm an cdv ct) ⟨us, []⟩ = pure ((["_law_change_here", "_law_cover_here", "_law_order"] : List Str).zip us) := fun _ _ _ _ _ _ us hl => match us, hl with | [_, _, _], _ => rfl
theorem b_law_shuffled : ∀ (kV doc pm : Value) (an : Option Addr) (cdv ct : Value) (us : List Value), us.length = (["_law_rows", "_law_number", "_law_step"] : List Str).length → bindArgs (PySem.W.fnOf "_law_shuffled" "_law_shuffled" (defArgs s_law_shuffled) (defBody s_law_shuffled) (defScope s_law_shuffled) .none kV doc pm an cdv ct) ⟨us, []⟩ = pure ((["_law_rows", "_law_number", "_law_step"] : List Str).zip us) := fun _ _ _ _ _ _ us hl => match us, hl with | [_, _, _], _ => rfl
theorem b_law_same : ∀ (kV doc pm : Value) (an : Option Addr) (cdv ct : Value) (us : List Value), us.length = (["_law_actual", "_law_due"] : List Str).length → bindArgs (PySem.W.fnOf "_law_same" "_law_same" (defArgs s_law_same) (defBody s_law_same) (defScope s_law_same) .none kV doc pm an cdv ct) ⟨us, []⟩ = pure ((["_law_actual", "_law_due"] : List Str).zip us) := fun _ _ _ _ _ _ us hl => match us, hl with | [_, _], _ => rfl
theorem b_law_reason_holds : ∀ (kV doc pm : Value) (an : Option Addr) (cdv ct : Value) (us : List Value), us.length = (["_law_change_here", "_law_cover_here", "_law_reason"] : List Str).length → bindArgs (PySem.W.fnOf "_law_reason_holds" "_law_reason_holds" (defArgs s_law_reason_holds) (defBody s_law_reason_holds) (defScope s_law_reason_holds) .none kV doc pm an cdv ct) ⟨us, []⟩ = pure ((["_law_change_here", "_law_cover_here", "_law_reason"] : List Str).zip us) := fun _ _ _ _ _ _ us hl => match us, hl with | [_, _, _], _ => rfl
theorem b_law_right : ∀ (kV doc pm : Value) (an : Option Addr) (cdv ct : Value) (us : List Value), us.length = (["_law_change_here", "_law_cover_here", "_law_number"] : List Str).length → bindArgs (PySem.W.fnOf "_law_right" "_law_right" (defArgs s_law_right) (defBody s_law_right) (defScope s_law_right) .none kV doc pm an cdv ct) ⟨us, []⟩ = pure ((["_law_change_here", "_law_cover_here", "_law_number"] : List Str).zip us) := fun _ _ _ _ _ _ us hl => match us, hl with | [_, _, _], _ => rfl
theorem b_law : ∀ (kV doc pm : Value) (an : Option Addr) (cdv ct : Value) (us : List Value), us.length = (["_law_script"] : List Str).length → bindArgs (PySem.W.fnOf "law" "law" (defArgs s_law) (defBody s_law) (defScope s_law) .none kV doc pm an cdv ct) ⟨us, []⟩ = pure ((["_law_script"] : List Str).zip us) := fun _ _ _ _ _ _ us hl => match us, hl with | [_], _ => rfl
theorem fin {P : Program} {w : World} {K : PySem.W.Frag} {mg : Str → Option Value} {fa : Addr} (T : Txt K mg) (hfa : mg "law" = some (.ref fa)) :
    ∃ fd : FuncData, (∀ (s : Shared) (v : Value), BindsTo s fd ⟨[v], []⟩ [("_law_script", v)]) ∧ ∀ base : Heap, K.In base → base.Ns mainGlobals mg → FnOk P w K mg base CX0 10 fa fd ["_law_script"] (spLaw K) := by
  obtain ⟨f, fd, F, m, b⟩ := T.d_law.ex
  have e := hfa.symm.trans m
  cases e
  obtain ⟨oc, od, kV, doc, pm, an, cdv, ct, osl, e1, lk, hcd⟩ := F.ex
  subst e1
  exact ⟨_, fun s v => .of_eq rfl, fun base _ _ => ok_law (k := 0) T F⟩
end Stc
open PySem PySem.W PyProof.Rows
set_option maxRecDepth 100000 in
set_option maxHeartbeats 0 in
theorem PySem.Challenge.cw_steadycover_k21_whole_calm_or_flicker_holds : PySem.Challenge.rw_steadycover_k21_whole_calm_or_flicker.Holds := by
  w_on; o_law; k_head; (case hw => w_witness2)
  k_fill
  refine L2.walk_ofK (l := PySem.Challenge.rw_steadycover_k21_whole_calm_or_flicker) (n := 63) (k := 10) (x := "_law_script") (CX := L2.CX0) (sp := Stc.spLaw) rfl (by decide) rfl ⟨rfl, by decide, by decide⟩ (fun w h Y => PySem.W.kIn_of Y) ?F
    (fun _ _ a ns hl _ hS => ⟨a, ns, rfl, hS, hl, fun _ => rfl⟩) (fun _ _ _ _ h => h)
  case F =>
    intro w mg fa h KX G hmg
    have z0 : mg "isinstance" = none := by
      refine' PySem.W.mg_none_of KX G ?z
      (case z => k_is)
    have z1 : mg "len" = none := by
      refine' PySem.W.mg_none_of KX G ?z
      (case z => k_is)
    have z2 : mg "str" = none := by
      refine' PySem.W.mg_none_of KX G ?z
      (case z => k_is)
    have z3 : mg "int" = none := by
      refine' PySem.W.mg_none_of KX G ?z
      (case z => k_is)
    have z4 : mg "bool" = none := by
      refine' PySem.W.mg_none_of KX G ?z
      (case z => k_is)
    have z5 : mg "list" = none := by
      refine' PySem.W.mg_none_of KX G ?z
      (case z => k_is)
    have z6 : mg "tuple" = none := by
      refine' PySem.W.mg_none_of KX G ?z
      (case z => k_is)
    have z7 : mg "enumerate" = none := by
      refine' PySem.W.mg_none_of KX G ?z
      (case z => k_is)
    have z8 : mg "any" = none := by
      refine' PySem.W.mg_none_of KX G ?z
      (case z => k_is)
    have z9 : mg "range" = none := by
      refine' PySem.W.mg_none_of KX G ?z
      (case z => k_is)
    have z10 : mg "sorted" = none := by
      refine' PySem.W.mg_none_of KX G ?z
      (case z => k_is)
    have mi : ∃ t, mg "MOST_INPUTS" = some (.int 4 t) := by
      have y : ∃ v, mg "MOST_INPUTS" = some v ∧ ∃ t, v = .int 4 t := by
        refine' ⟨_, PySem.W.mg_of KX G ?z, ?y⟩
        (case z => k_is)
        (case y => exact ⟨_, rfl⟩)
      obtain ⟨v, e, t, rfl⟩ := y
      exact ⟨t, e⟩
    have mp : ∃ t, mg "MOST_PRODUCTS" = some (.int 40 t) := by
      have y : ∃ v, mg "MOST_PRODUCTS" = some v ∧ ∃ t, v = .int 40 t := by
        refine' ⟨_, PySem.W.mg_of KX G ?z, ?y⟩
        (case z => k_is)
        (case y => exact ⟨_, rfl⟩)
      obtain ⟨v, e, t, rfl⟩ := y
      exact ⟨t, e⟩
    have d_signs_fit : Stc.DfAt KX mg "signs_fit" Stc.s_signs_fit ["thing", "n", "signs"] := by
      refine' Stc.df_mk KX G Stc.b_signs_fit ?a ?l ?c ?k
      (case a => k_is); (case l => k_is); (case c => k_is); (case k => k_is)
    have d_is_point : Stc.DfAt KX mg "is_point" Stc.s_is_point ["thing", "n"] := by
      refine' Stc.df_mk KX G Stc.b_is_point ?a ?l ?c ?k
      (case a => k_is); (case l => k_is); (case c => k_is); (case k => k_is)
    have d_is_cube : Stc.DfAt KX mg "is_cube" Stc.s_is_cube ["thing", "n"] := by
      refine' Stc.df_mk KX G Stc.b_is_cube ?a ?l ?c ?k
      (case a => k_is); (case l => k_is); (case c => k_is); (case k => k_is)
    have d_some_size : Stc.DfAt KX mg "some_size" Stc.s_some_size ["thing"] := by
      refine' Stc.df_mk KX G Stc.b_some_size ?a ?l ?c ?k
      (case a => k_is); (case l => k_is); (case c => k_is); (case k => k_is)
    have d_inside : Stc.DfAt KX mg "inside" Stc.s_inside ["c", "d"] := by
      refine' Stc.df_mk KX G Stc.b_inside ?a ?l ?c ?k
      (case a => k_is); (case l => k_is); (case c => k_is); (case k => k_is)
    have d_opposed : Stc.DfAt KX mg "opposed" Stc.s_opposed ["c", "d"] := by
      refine' Stc.df_mk KX G Stc.b_opposed ?a ?l ?c ?k
      (case a => k_is); (case l => k_is); (case c => k_is); (case k => k_is)
    have d_joined : Stc.DfAt KX mg "joined" Stc.s_joined ["c", "d"] := by
      refine' Stc.df_mk KX G Stc.b_joined ?a ?l ?c ?k
      (case a => k_is); (case l => k_is); (case c => k_is); (case k => k_is)
    have d_is_change : Stc.DfAt KX mg "is_change" Stc.s_is_change ["thing", "n"] := by
      refine' Stc.df_mk KX G Stc.b_is_change ?a ?l ?c ?k
      (case a => k_is); (case l => k_is); (case c => k_is); (case k => k_is)
    have d_size_of_change : Stc.DfAt KX mg "size_of_change" Stc.s_size_of_change ["change"] := by
      refine' Stc.df_mk KX G Stc.b_size_of_change ?a ?l ?c ?k
      (case a => k_is); (case l => k_is); (case c => k_is); (case k => k_is)
    have d_check_cover : Stc.DfAt KX mg "check_cover" Stc.s_check_cover ["cover", "n"] := by
      refine' Stc.df_mk KX G Stc.b_check_cover ?a ?l ?c ?k
      (case a => k_is); (case l => k_is); (case c => k_is); (case k => k_is)
    have d_check_both : Stc.DfAt KX mg "check_both" Stc.s_check_both ["change", "cover"] := by
      refine' Stc.df_mk KX G Stc.b_check_both ?a ?l ?c ?k
      (case a => k_is); (case l => k_is); (case c => k_is); (case k => k_is)
    have d_reaches : Stc.DfAt KX mg "reaches" Stc.s_reaches ["cover", "point"] := by
      refine' Stc.df_mk KX G Stc.b_reaches ?a ?l ?c ?k
      (case a => k_is); (case l => k_is); (case c => k_is); (case k => k_is)
    have d_list_wires : Stc.DfAt KX mg "list_wires" Stc.s_list_wires ["change", "cover"] := by
      refine' Stc.df_mk KX G Stc.b_list_wires ?a ?l ?c ?k
      (case a => k_is); (case l => k_is); (case c => k_is); (case k => k_is)
    have d_product_word : Stc.DfAt KX mg "product_word" Stc.s_product_word ["change", "cube"] := by
      refine' Stc.df_mk KX G Stc.b_product_word ?a ?l ?c ?k
      (case a => k_is); (case l => k_is); (case c => k_is); (case k => k_is)
    have d_product_words : Stc.DfAt KX mg "product_words" Stc.s_product_words ["change", "cover"] := by
      refine' Stc.df_mk KX G Stc.b_product_words ?a ?l ?c ?k
      (case a => k_is); (case l => k_is); (case c => k_is); (case k => k_is)
    have d_longest : Stc.DfAt KX mg "longest" Stc.s_longest ["change", "cover"] := by
      refine' Stc.df_mk KX G Stc.b_longest ?a ?l ?c ?k
      (case a => k_is); (case l => k_is); (case c => k_is); (case k => k_is)
    have d_longest_order : Stc.DfAt KX mg "longest_order" Stc.s_longest_order ["change", "cover"] := by
      refine' Stc.df_mk KX G Stc.b_longest_order ?a ?l ?c ?k
      (case a => k_is); (case l => k_is); (case c => k_is); (case k => k_is)
    have d_flicker : Stc.DfAt KX mg "flicker" Stc.s_flicker ["change", "cover"] := by
      refine' Stc.df_mk KX G Stc.b_flicker ?a ?l ?c ?k
      (case a => k_is); (case l => k_is); (case c => k_is); (case k => k_is)
    have d_why : Stc.DfAt KX mg "why" Stc.s_why ["change", "cover"] := by
      refine' Stc.df_mk KX G Stc.b_why ?a ?l ?c ?k
      (case a => k_is); (case l => k_is); (case c => k_is); (case k => k_is)
    have d_calm : Stc.DfAt KX mg "calm" Stc.s_calm ["change", "cover"] := by
      refine' Stc.df_mk KX G Stc.b_calm ?a ?l ?c ?k
      (case a => k_is); (case l => k_is); (case c => k_is); (case k => k_is)
    have d_law_mixed : Stc.DfAt KX mg "_law_mixed" Stc.s_law_mixed ["_law_seed", "_law_k"] := by
      refine' Stc.df_mk KX G Stc.b_law_mixed ?a ?l ?c ?k
      (case a => k_is); (case l => k_is); (case c => k_is); (case k => k_is)
    have d_law_draws : Stc.DfAt KX mg "_law_draws" Stc.s_law_draws ["_law_script", "_law_many"] := by
      refine' Stc.df_mk KX G Stc.b_law_draws ?a ?l ?c ?k
      (case a => k_is); (case l => k_is); (case c => k_is); (case k => k_is)
    have d_law_strings : Stc.DfAt KX mg "_law_strings" Stc.s_law_strings ["_law_n", "_law_signs"] := by
      refine' Stc.df_mk KX G Stc.b_law_strings ?a ?l ?c ?k
      (case a => k_is); (case l => k_is); (case c => k_is); (case k => k_is)
    have d_law_in : Stc.DfAt KX mg "_law_in" Stc.s_law_in ["_law_cube_here", "_law_inner"] := by
      refine' Stc.df_mk KX G Stc.b_law_in ?a ?l ?c ?k
      (case a => k_is); (case l => k_is); (case c => k_is); (case k => k_is)
    have d_law_cube : Stc.DfAt KX mg "_law_cube" Stc.s_law_cube ["_law_number", "_law_n"] := by
      refine' Stc.df_mk KX G Stc.b_law_cube ?a ?l ?c ?k
      (case a => k_is); (case l => k_is); (case c => k_is); (case k => k_is)
    have d_law_point : Stc.DfAt KX mg "_law_point" Stc.s_law_point ["_law_number", "_law_n"] := by
      refine' Stc.df_mk KX G Stc.b_law_point ?a ?l ?c ?k
      (case a => k_is); (case l => k_is); (case c => k_is); (case k => k_is)
    have d_law_change : Stc.DfAt KX mg "_law_change" Stc.s_law_change ["_law_number", "_law_n"] := by
      refine' Stc.df_mk KX G Stc.b_law_change ?a ?l ?c ?k
      (case a => k_is); (case l => k_is); (case c => k_is); (case k => k_is)
    have d_law_joined : Stc.DfAt KX mg "_law_joined" Stc.s_law_joined ["_law_one", "_law_other"] := by
      refine' Stc.df_mk KX G Stc.b_law_joined ?a ?l ?c ?k
      (case a => k_is); (case l => k_is); (case c => k_is); (case k => k_is)
    have d_law_cover : Stc.DfAt KX mg "_law_cover" Stc.s_law_cover ["_law_draws_here", "_law_n", "_law_many"] := by
      refine' Stc.df_mk KX G Stc.b_law_cover ?a ?l ?c ?k
      (case a => k_is); (case l => k_is); (case c => k_is); (case k => k_is)
    have d_law_covers : Stc.DfAt KX mg "_law_covers" Stc.s_law_covers ["_law_cover_here", "_law_point_here"] := by
      refine' Stc.df_mk KX G Stc.b_law_covers ?a ?l ?c ?k
      (case a => k_is); (case l => k_is); (case c => k_is); (case k => k_is)
    have d_law_wires : Stc.DfAt KX mg "_law_wires" Stc.s_law_wires ["_law_change_here", "_law_cover_here"] := by
      refine' Stc.df_mk KX G Stc.b_law_wires ?a ?l ?c ?k
      (case a => k_is); (case l => k_is); (case c => k_is); (case k => k_is)
    have d_law_shown : Stc.DfAt KX mg "_law_shown" Stc.s_law_shown ["_law_change_here", "_law_cover_here", "_law_turned"] := by
      refine' Stc.df_mk KX G Stc.b_law_shown ?a ?l ?c ?k
      (case a => k_is); (case l => k_is); (case c => k_is); (case k => k_is)
    have d_law_played : Stc.DfAt KX mg "_law_played" Stc.s_law_played ["_law_change_here", "_law_cover_here", "_law_order"] := by
      refine' Stc.df_mk KX G Stc.b_law_played ?a ?l ?c ?k
      (case a => k_is); (case l => k_is); (case c => k_is); (case k => k_is)
    have d_law_shuffled : Stc.DfAt KX mg "_law_shuffled" Stc.s_law_shuffled ["_law_rows", "_law_number", "_law_step"] := by
      refine' Stc.df_mk KX G Stc.b_law_shuffled ?a ?l ?c ?k
      (case a => k_is); (case l => k_is); (case c => k_is); (case k => k_is)
    have d_law_same : Stc.DfAt KX mg "_law_same" Stc.s_law_same ["_law_actual", "_law_due"] := by
      refine' Stc.df_mk KX G Stc.b_law_same ?a ?l ?c ?k
      (case a => k_is); (case l => k_is); (case c => k_is); (case k => k_is)
    have d_law_reason_holds : Stc.DfAt KX mg "_law_reason_holds" Stc.s_law_reason_holds ["_law_change_here", "_law_cover_here", "_law_reason"] := by
      refine' Stc.df_mk KX G Stc.b_law_reason_holds ?a ?l ?c ?k
      (case a => k_is); (case l => k_is); (case c => k_is); (case k => k_is)
    have d_law_right : Stc.DfAt KX mg "_law_right" Stc.s_law_right ["_law_change_here", "_law_cover_here", "_law_number"] := by
      refine' Stc.df_mk KX G Stc.b_law_right ?a ?l ?c ?k
      (case a => k_is); (case l => k_is); (case c => k_is); (case k => k_is)
    have d_law : Stc.DfAt KX mg "law" Stc.s_law ["_law_script"] := by
      refine' Stc.df_mk KX G Stc.b_law ?a ?l ?c ?k
      (case a => k_is); (case l => k_is); (case c => k_is); (case k => k_is)
    exact Stc.fin ⟨⟨z0, z1, z2, z3, z4, z5, z6, z7, z8, z9, z10⟩, mi, mp, d_signs_fit, d_is_point, d_is_cube, d_some_size, d_inside, d_opposed, d_joined, d_is_change, d_size_of_change, d_check_cover, d_check_both, d_reaches, d_list_wires, d_product_word, d_product_words, d_longest, d_longest_order, d_flicker, d_why, d_calm, d_law_mixed, d_law_draws, d_law_strings, d_law_in, d_law_cube, d_law_point, d_law_change, d_law_joined, d_law_cover, d_law_covers, d_law_wires, d_law_shown, d_law_played, d_law_shuffled, d_law_same, d_law_reason_holds, d_law_right, d_law⟩ hmg
