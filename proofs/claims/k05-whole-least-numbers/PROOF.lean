import PyProof.Rows.All
import Wide.All
import OpenK.AllK
import Wide.FinOn
import HandS.ForMost
import HandS.Exc
import HandS.ExcOwn
import HandS.TryMany
import HandS.ExcCtx
import HandS.HotCalls
import HandS.WordsExc
import HandS.ExcField
import HandS.Wide
import HandS.IsInst
import HandS.Defaults
import HandS.MakeKwOnly
import HandS.Star
import HandS.Flow
import HandS.TupAny
import KE.KExcSuper
import KE.KExcIs
import HandS.ExcSuper
import HandS.CallSlots
import PySem.Challenge.RW_latereach_k05_whole_least_numbers
set_option Elab.async false
set_option linter.all false
set_option maxRecDepth 100000
set_option maxHeartbeats 4000000
/-! The plain law: sequences of limits and levels, lines, least numbers; no program in sight. -/
namespace Lr

/-! ### price functions -/
structure Good (f : Int → Int) : Prop where
  ge : ∀ d, 1 ≤ d → d ≤ f d
  sl : ∀ d e, 1 ≤ d → d ≤ e → f d - d ≤ f e - e
  sz : ∀ d, 1 ≤ d → f d ≤ 1000000 * d + 1000000000

/-! ### limits -/
def limP (f : Int → Int) : Nat → Int × Int
  | 0 => (0, 1)
  | k + 1 => ((limP f k).2, f ((limP f k).1 + 1) + (limP f k).2 - (limP f k).1)
def lim (f : Int → Int) (k : Nat) : Int := (limP f k).1
theorem lim_zero (f : Int → Int) : lim f 0 = 0 := rfl
theorem lim_one (f : Int → Int) : lim f 1 = 1 := rfl
theorem lim_step (f : Int → Int) (k : Nat) : lim f (k + 2) = f (lim f k + 1) + lim f (k + 1) - lim f k := rfl

/-! ### levels: (reach, length, repeats) -/
def levP (f : Int → Int) : Nat → (Int × Int × Int) × (Int × Int × Int)
  | 0 => ((0, 0, 0), (1, 1, 0))
  | 1 => ((1, 1, 0), (1 + f 1, f 1, 0))
  | k + 2 =>
    let p := levP f (k + 1)
    let many := (f (p.1.1 + 1) - p.1.1 - p.2.2.1) / p.1.2.1
    let span := many * p.1.2.1 + p.2.2.1
    (p.2, (p.2.1 + span, span, many))
def reach (f : Int → Int) (k : Nat) : Int := (levP f k).1.1
def len (f : Int → Int) (k : Nat) : Int := (levP f k).1.2.1
def rep (f : Int → Int) (k : Nat) : Int := (levP f k).1.2.2
theorem levP_snd (f : Int → Int) (k : Nat) : (levP f k).2 = (levP f (k + 1)).1 := by
  cases k with
  | zero => rfl
  | succ k => rfl
theorem reach_zero (f : Int → Int) : reach f 0 = 0 := rfl
theorem reach_one (f : Int → Int) : reach f 1 = 1 := rfl
theorem reach_two (f : Int → Int) : reach f 2 = 1 + f 1 := rfl
theorem len_zero (f : Int → Int) : len f 0 = 0 := rfl
theorem len_one (f : Int → Int) : len f 1 = 1 := rfl
theorem len_two (f : Int → Int) : len f 2 = f 1 := rfl
theorem rep_zero (f : Int → Int) : rep f 0 = 0 := rfl
theorem rep_one (f : Int → Int) : rep f 1 = 0 := rfl
theorem rep_two (f : Int → Int) : rep f 2 = 0 := rfl
theorem rep_step (f : Int → Int) (k : Nat) : rep f (k + 3) = (f (reach f (k + 1) + 1) - reach f (k + 1) - len f (k + 2)) / len f (k + 1) := by
  have e := levP_snd f (k + 1)
  show (f ((levP f (k + 1)).1.1 + 1) - (levP f (k + 1)).1.1 - (levP f (k + 1)).2.2.1) / (levP f (k + 1)).1.2.1 = _
  rw [e]
  rfl
theorem len_step (f : Int → Int) (k : Nat) : len f (k + 3) = rep f (k + 3) * len f (k + 1) + len f (k + 2) := by
  have e := levP_snd f (k + 1)
  show (f ((levP f (k + 1)).1.1 + 1) - (levP f (k + 1)).1.1 - (levP f (k + 1)).2.2.1) / (levP f (k + 1)).1.2.1 * (levP f (k + 1)).1.2.1 + (levP f (k + 1)).2.2.1 = _
  rw [rep_step, e]
  rfl
theorem reach_step (f : Int → Int) (k : Nat) : reach f (k + 3) = reach f (k + 2) + len f (k + 3) := by
  have e := levP_snd f (k + 1)
  rw [len_step, rep_step]
  show (levP f (k + 1)).2.1 + ((f ((levP f (k + 1)).1.1 + 1) - (levP f (k + 1)).1.1 - (levP f (k + 1)).2.2.1) / (levP f (k + 1)).1.2.1 * (levP f (k + 1)).1.2.1 + (levP f (k + 1)).2.2.1) = _
  rw [e]
  rfl

/-! ### what holds of them -/
section
variable {f : Int → Int} (G : Good f)
include G
theorem lim_mono (k : Nat) : 0 ≤ lim f k ∧ lim f k ≤ lim f (k + 1) := by
  induction k with
  | zero => exact ⟨Int.le_refl 0, (by decide : (0 : Int) ≤ 1)⟩
  | succ k ih =>
    have h := lim_step f k
    have g := G.ge (lim f k + 1) (by omega)
    show 0 ≤ lim f (k + 1) ∧ lim f (k + 1) ≤ lim f (k + 2)
    omega
theorem lim_nn (k : Nat) : 0 ≤ lim f k := (lim_mono G k).1
theorem lim_le {j k : Nat} (h : j ≤ k) : lim f j ≤ lim f k := by
  induction h with
  | refl => exact Int.le_refl _
  | step _ ih => exact Int.le_trans ih (lim_mono G _).2
theorem lev_inv (k : Nat) : 0 ≤ reach f (k + 1) ∧ reach f (k + 1) ≤ reach f (k + 2) ∧ 1 ≤ len f (k + 1) ∧ 1 ≤ len f (k + 2) ∧ len f (k + 2) ≤ f (reach f (k + 1) + 1) - reach f (k + 1) := by
  induction k with
  | zero =>
    have h1 := G.ge 1 (by omega)
    have h2 := G.sl 1 2 (by omega) (by omega)
    show (0 : Int) ≤ 1 ∧ (1 : Int) ≤ 1 + f 1 ∧ (1 : Int) ≤ 1 ∧ 1 ≤ f 1 ∧ f 1 ≤ f (1 + 1) - 1
    have e : f (1 + 1) = f 2 := rfl
    omega
  | succ k ih =>
    obtain ⟨a, b, c, d, e⟩ := ih
    show 0 ≤ reach f (k + 2) ∧ reach f (k + 2) ≤ reach f (k + 3) ∧ 1 ≤ len f (k + 2) ∧ 1 ≤ len f (k + 3) ∧ len f (k + 3) ≤ f (reach f (k + 2) + 1) - reach f (k + 2)
    have hl := len_step f k
    have hr := reach_step f k
    have hn := rep_step f k
    have n0 : 0 ≤ rep f (k + 3) := by
      rw [hn]
      exact Int.ediv_nonneg (by omega) (by omega)
    have p0 : 0 ≤ rep f (k + 3) * len f (k + 1) := Int.mul_nonneg n0 (by omega)
    have p1 : rep f (k + 3) * len f (k + 1) ≤ f (reach f (k + 1) + 1) - reach f (k + 1) - len f (k + 2) := by
      rw [hn]
      exact Int.ediv_mul_le _ (by omega)
    have s := G.sl (reach f (k + 1) + 1) (reach f (k + 2) + 1) (by omega) (by omega)
    omega
theorem reach_nn (k : Nat) : 0 ≤ reach f k := by
  cases k with
  | zero => exact Int.le_refl 0
  | succ k => exact (lev_inv G k).1
theorem reach_mono (k : Nat) : reach f k ≤ reach f (k + 1) := by
  cases k with
  | zero => exact (by decide : (0 : Int) ≤ 1)
  | succ k => exact (lev_inv G k).2.1
theorem len_pos (k : Nat) : 1 ≤ len f (k + 1) := (lev_inv G k).2.2.1
theorem rep_nn (k : Nat) : 0 ≤ rep f k := by
  match k with
  | 0 => exact Int.le_refl 0
  | 1 => exact Int.le_refl 0
  | 2 => exact Int.le_refl 0
  | k + 3 =>
    obtain ⟨a, b, c, d, e⟩ := lev_inv G k
    rw [rep_step]
    exact Int.ediv_nonneg (by omega) (by omega)
theorem reach_up (k : Nat) : reach f (k + 2) ≤ reach f (k + 1) + f (reach f k + 1) - reach f k := by
  cases k with
  | zero =>
    show 1 + f 1 ≤ 1 + f (0 + 1) - 0
    have e : f (0 + 1) = f 1 := rfl
    omega
  | succ k =>
    obtain ⟨a, b, c, d, e⟩ := lev_inv G k
    have hl := len_step f k
    have hr := reach_step f k
    have hn := rep_step f k
    have p1 : rep f (k + 3) * len f (k + 1) ≤ f (reach f (k + 1) + 1) - reach f (k + 1) - len f (k + 2) := by
      rw [hn]
      exact Int.ediv_mul_le _ (by omega)
    show reach f (k + 3) ≤ reach f (k + 2) + f (reach f (k + 1) + 1) - reach f (k + 1)
    omega
theorem reach_lim2 (k : Nat) : reach f k ≤ lim f k ∧ reach f (k + 1) ≤ lim f (k + 1) := by
  induction k with
  | zero => exact ⟨Int.le_refl 0, Int.le_refl 1⟩
  | succ k ih =>
    refine ⟨ih.2, ?_⟩
    have u := reach_up G k
    have s := G.sl (reach f k + 1) (lim f k + 1) (by have := reach_nn G k; omega) (by omega)
    have h := lim_step f k
    show reach f (k + 2) ≤ lim f (k + 2)
    omega
theorem reach_lim (k : Nat) : reach f k ≤ lim f k := (reach_lim2 G k).1
theorem reach_diff (k : Nat) : reach f (k + 1) = reach f k + len f (k + 1) := by
  match k with
  | 0 => rfl
  | 1 => rfl
  | k + 2 => exact reach_step f k
/-- sizes -/
theorem lim_size2 (k : Nat) : lim f k ≤ 2 ^ (32 * k) ∧ lim f (k + 1) ≤ 2 ^ (32 * (k + 1)) := by
  induction k with
  | zero => exact ⟨(by decide : (0 : Int) ≤ 2 ^ 0), (by decide : (1 : Int) ≤ 2 ^ 32)⟩
  | succ k ih =>
    refine ⟨ih.2, ?_⟩
    have h := lim_step f k
    have n := lim_nn G k
    have z := G.sz (lim f k + 1) (by omega)
    have e1 : (2 : Int) ^ (32 * (k + 1)) = 2 ^ (32 * k) * 4294967296 := by
      rw [show 32 * (k + 1) = 32 * k + 32 from by omega, Int.pow_add]
      rfl
    have e2 : (2 : Int) ^ (32 * (k + 1 + 1)) = 2 ^ (32 * k) * 18446744073709551616 := by
      rw [show 32 * (k + 1 + 1) = 32 * k + 64 from by omega, Int.pow_add]
      rfl
    have p : (0 : Int) < 2 ^ (32 * k) := Int.pow_pos (by decide)
    obtain ⟨i1, i2⟩ := ih
    rw [e1] at i2
    rw [e2]
    show lim f (k + 2) ≤ _
    generalize (2 : Int) ^ (32 * k) = x at *
    omega
theorem lim_size {k : Nat} (h : k ≤ 64) : lim f k ≤ 2 ^ 2048 := by
  have a := lim_le G h
  have b := (lim_size2 G 64).1
  exact Int.le_trans a b
theorem reach_size {k : Nat} (h : k ≤ 64) : reach f k ≤ 2 ^ 2048 := Int.le_trans (reach_lim G k) (lim_size G h)
theorem len_le (k : Nat) : len f k ≤ reach f k := by
  cases k with
  | zero => exact Int.le_refl 0
  | succ k =>
    have a := reach_diff G k
    have b := reach_nn G k
    omega
theorem len_nn (k : Nat) : 0 ≤ len f k := by
  cases k with
  | zero => exact Int.le_refl 0
  | succ k => exact Int.le_trans (by decide) (len_pos G k)
theorem len_size {k : Nat} (h : k ≤ 64) : len f k ≤ 2 ^ 2048 := Int.le_trans (len_le G k) (reach_size G h)
theorem rep_size {k : Nat} (h : k ≤ 64) : rep f k ≤ 2 ^ 2048 := by
  match k, h with
  | 0, _ => exact (by decide : (0 : Int) ≤ 2 ^ 2048)
  | 1, _ => exact (by decide : (0 : Int) ≤ 2 ^ 2048)
  | 2, _ => exact (by decide : (0 : Int) ≤ 2 ^ 2048)
  | k + 3, h =>
    have a := len_step f k
    have b := len_size G h
    have c := len_pos G k
    have d := len_nn G (k + 2)
    have n := rep_nn G (k + 3)
    have e : rep f (k + 3) * 1 ≤ rep f (k + 3) * len f (k + 1) := Int.mul_le_mul_of_nonneg_left c n
    omega
end

/-! ### what the walk of the levels asks: a level's first and second predecessor -/
theorem natAbs_lt {x : Int} {n : Nat} (h0 : 0 ≤ x) (h : x ≤ 2 ^ n) : x.natAbs < 2 ^ (n + 1) := by
  have e : ((x.natAbs : Nat) : Int) = x := Int.natAbs_of_nonneg h0
  have p : 0 < (2 : Nat) ^ n := Nat.pow_pos (by decide)
  have q : ((2 ^ n : Nat) : Int) = (2 : Int) ^ n := by
    rw [Int.natCast_pow]
    rfl
  have r : (2 : Nat) ^ (n + 1) = 2 ^ n * 2 := Nat.pow_succ ..
  rw [r]
  rw [← q] at h
  generalize (2 : Nat) ^ n = m at *
  omega

/-! ### the least level, the hopeless level -/
def LeastSpec (r : Nat → Int) (d : Int) (l : Nat) : Prop := (1 ≤ l ∧ l ≤ 64 ∧ d ≤ r l ∧ ∀ j, j < l → r j < d) ∨ (l = 65 ∧ ∀ j, j ≤ 64 → r j < d)
def HopeSpec (m : Nat → Int) (d : Int) (h : Nat) : Prop := h ≤ 64 ∧ m h < d ∧ ∀ j, h < j → j ≤ 64 → d ≤ m j
theorem least_gt {f : Int → Int} (G : Good f) {d : Int} {l h : Nat} (hl : LeastSpec (reach f) d l) (hh : HopeSpec (lim f) d h) : h < l := by
  obtain ⟨h64, hm, _⟩ := hh
  rcases hl with ⟨_, _, hr, _⟩ | ⟨rfl, _⟩
  · refine Nat.lt_of_not_le fun q => ?_
    have a := reach_lim G l
    have b := lim_le G q
    omega
  · omega
theorem least_line {f : Int → Int} (G : Good f) {d : Int} {l h : Nat} (e : ∀ k, reach f k = lim f k) (hl : LeastSpec (reach f) d l) (hh : HopeSpec (lim f) d h) : l = h + 1 := by
  have gt := least_gt G hl hh
  obtain ⟨h64, hm, hn⟩ := hh
  rcases hl with ⟨l1, l64, hr, hb⟩ | ⟨rfl, hb⟩
  · refine Nat.le_antisymm (Nat.le_of_not_lt fun q => ?_) gt
    have a := hb (h + 1) q
    have b := hn (h + 1) (by omega) (by omega)
    rw [e] at a
    omega
  · rcases Nat.lt_or_ge h 64 with q | q
    · exfalso
      have a := hb (h + 1) (by omega)
      have b := hn (h + 1) (by omega) (by omega)
      rw [e] at a
      omega
    · omega
/-- a line's reach is its limit -/
theorem line_reach {f : Int → Int} {a b : Int} (G : Good f) (hf : ∀ d, 1 ≤ d → f d = a * d + b) (k : Nat) : reach f k = lim f k := by
  have main : ∀ k, reach f (k + 1) = lim f (k + 1) ∧ reach f (k + 2) = lim f (k + 2) ∧ len f (k + 2) = f (reach f k + 1) - reach f k := by
    intro k
    induction k with
    | zero =>
      refine ⟨rfl, ?_, ?_⟩
      · show 1 + f 1 = f (0 + 1) + 1 - 0
        have e : f (0 + 1) = f 1 := rfl
        omega
      · show f 1 = f (0 + 1) - 0
        have e : f (0 + 1) = f 1 := rfl
        omega
    | succ k ih =>
      obtain ⟨i1, i2, i3⟩ := ih
      have d := reach_diff G k
      have p := len_pos G k
      have n := reach_nn G k
      have n1 := reach_nn G (k + 1)
      have f1 := hf (reach f k + 1) (by omega)
      have f2 := hf (reach f (k + 1) + 1) (by omega)
      have hn := rep_step f k
      have num : f (reach f (k + 1) + 1) - reach f (k + 1) - len f (k + 2) = (a - 1) * len f (k + 1) := by
        rw [i3, f1, f2]
        have e1 : a * (reach f (k + 1) + 1) = a * (reach f k + 1) + a * len f (k + 1) := by
          rw [d, ← Int.mul_add]
          congr 1
          omega
        rw [e1, Int.sub_mul, Int.one_mul]
        omega
      have r : rep f (k + 3) = a - 1 := by
        rw [hn, num]
        exact Int.mul_ediv_cancel _ (by omega)
      have hl := len_step f k
      have l3 : len f (k + 3) = f (reach f (k + 1) + 1) - reach f (k + 1) := by
        rw [hl, r, ← num]
        omega
      refine ⟨i2, ?_, l3⟩
      have s := reach_step f k
      have t := lim_step f (k + 1)
      show reach f (k + 3) = lim f (k + 3)
      rw [s, l3, i2, t, i1]
      show lim f (k + 2) + (f (lim f (k + 1) + 1) - lim f (k + 1)) = f (lim f (k + 1) + 1) + lim f (k + 2) - lim f (k + 1)
      omega
  cases k with
  | zero => rfl
  | succ k => exact (main k).1

/-! ### lines -/
def lnP (a b : Int) : Nat → Int × Int
  | 0 => (0, 1)
  | k + 1 => ((lnP a b k).2, (lnP a b k).2 + (a - 1) * (lnP a b k).1 + a + b)
def ln (a b : Int) (k : Nat) : Int := (lnP a b k).1
theorem ln_zero (a b : Int) : ln a b 0 = 0 := rfl
theorem ln_one (a b : Int) : ln a b 1 = 1 := rfl
theorem ln_step (a b : Int) (k : Nat) : ln a b (k + 2) = ln a b (k + 1) + (a - 1) * ln a b k + a + b := rfl
theorem ln_mono {a b : Int} (h1 : 1 ≤ a) (h2 : 1 ≤ a + b) (k : Nat) : 0 ≤ ln a b k ∧ ln a b k ≤ ln a b (k + 1) := by
  induction k with
  | zero => exact ⟨Int.le_refl 0, (by decide : (0 : Int) ≤ 1)⟩
  | succ k ih =>
    have h := ln_step a b k
    have p : 0 ≤ (a - 1) * ln a b k := Int.mul_nonneg (by omega) ih.1
    show 0 ≤ ln a b (k + 1) ∧ ln a b (k + 1) ≤ ln a b (k + 2)
    omega
theorem ln_nn {a b : Int} (h1 : 1 ≤ a) (h2 : 1 ≤ a + b) (k : Nat) : 0 ≤ ln a b k := (ln_mono h1 h2 k).1
theorem ln_le {a b : Int} (h1 : 1 ≤ a) (h2 : 1 ≤ a + b) {j k : Nat} (h : j ≤ k) : ln a b j ≤ ln a b k := by
  induction h with
  | refl => exact Int.le_refl _
  | step _ ih => exact Int.le_trans ih (ln_mono h1 h2 _).2
theorem ln_two (a b : Int) : ln a b 2 = 1 + a + b := by
  show 1 + (a - 1) * 0 + a + b = 1 + a + b
  omega
/-- how the limit grows with the extra -/
def grP (a : Int) : Nat → Int × Int
  | 0 => (0, 0)
  | k + 1 => ((grP a k).2, (grP a k).2 + (a - 1) * (grP a k).1 + 1)
def gr (a : Int) (k : Nat) : Int := (grP a k).1
theorem gr_step (a : Int) (k : Nat) : gr a (k + 2) = gr a (k + 1) + (a - 1) * gr a k + 1 := rfl
theorem gr_mono {a : Int} (h1 : 1 ≤ a) (k : Nat) : 0 ≤ gr a k ∧ 0 ≤ gr a (k + 1) ∧ 1 ≤ gr a (k + 2) := by
  induction k with
  | zero =>
    refine ⟨Int.le_refl 0, Int.le_refl 0, ?_⟩
    show 1 ≤ 0 + (a - 1) * 0 + 1
    omega
  | succ k ih =>
    obtain ⟨i1, i2, i3⟩ := ih
    have h := gr_step a (k + 1)
    have p : 0 ≤ (a - 1) * gr a (k + 1) := Int.mul_nonneg (by omega) i2
    refine ⟨i2, Int.le_trans (by decide) i3, ?_⟩
    show 1 ≤ gr a (k + 3)
    have h' : gr a (k + 3) = gr a (k + 2) + (a - 1) * gr a (k + 1) + 1 := h
    omega
theorem gr_pos {a : Int} (h1 : 1 ≤ a) {k : Nat} (h : 2 ≤ k) : 1 ≤ gr a k := by
  obtain ⟨j, rfl⟩ : ∃ j, k = j + 2 := ⟨k - 2, by omega⟩
  exact (gr_mono h1 j).2.2
theorem gr_nn {a : Int} (h1 : 1 ≤ a) (k : Nat) : 0 ≤ gr a k := (gr_mono h1 k).1
theorem ln_add2 (a b t : Int) (k : Nat) : ln a (b + t) k = ln a b k + t * gr a k ∧ ln a (b + t) (k + 1) = ln a b (k + 1) + t * gr a (k + 1) := by
  induction k with
  | zero =>
    constructor
    · show (0 : Int) = 0 + t * 0
      omega
    · show (1 : Int) = 1 + t * 0
      omega
  | succ k ih =>
    obtain ⟨i1, i2⟩ := ih
    refine ⟨i2, ?_⟩
    show ln a (b + t) (k + 2) = ln a b (k + 2) + t * gr a (k + 2)
    rw [ln_step, ln_step, gr_step, i1, i2, Int.mul_add, Int.mul_add, Int.mul_add, Int.mul_one]
    have e : (a - 1) * (t * gr a k) = t * ((a - 1) * gr a k) := by rw [← Int.mul_assoc, ← Int.mul_assoc, Int.mul_comm (a - 1) t]
    rw [e]
    omega
theorem ln_add (a b t : Int) (k : Nat) : ln a (b + t) k = ln a b k + t * gr a k := (ln_add2 a b t k).1
theorem ln_succ (a b : Int) (k : Nat) : ln a (b + 1) k = ln a b k + gr a k := by rw [ln_add, Int.one_mul]
/-- the limit grows with the slope -/
theorem ln_slope2 {a a' b : Int} (h1 : 1 ≤ a) (h2 : 1 ≤ a + b) (h : a ≤ a') (k : Nat) : ln a b k ≤ ln a' b k ∧ ln a b (k + 1) ≤ ln a' b (k + 1) := by
  induction k with
  | zero => exact ⟨Int.le_refl 0, Int.le_refl 1⟩
  | succ k ih =>
    obtain ⟨i1, i2⟩ := ih
    refine ⟨i2, ?_⟩
    show ln a b (k + 2) ≤ ln a' b (k + 2)
    rw [ln_step, ln_step]
    have p : (a - 1) * ln a b k ≤ (a' - 1) * ln a' b k := Int.mul_le_mul (by omega) i1 (ln_nn h1 h2 k) (by omega)
    omega
theorem ln_slope {a a' b : Int} (h1 : 1 ≤ a) (h2 : 1 ≤ a + b) (h : a ≤ a') (k : Nat) : ln a b k ≤ ln a' b k := (ln_slope2 h1 h2 h k).1
/-- sizes -/
theorem ln_size2 {a b : Int} {c : Nat} (h1 : 1 ≤ a) (h2 : 1 ≤ a + b) (ha : a ≤ 2 ^ c) (hb : a + b ≤ 2 ^ c) (k : Nat) : ln a b k ≤ 2 ^ ((c + 2) * k) ∧ ln a b (k + 1) ≤ 2 ^ ((c + 2) * (k + 1)) := by
  induction k with
  | zero =>
    refine ⟨?_, ?_⟩
    · show (0 : Int) ≤ 2 ^ ((c + 2) * 0)
      exact Int.le_of_lt (Int.pow_pos (by decide))
    · show (1 : Int) ≤ 2 ^ ((c + 2) * (0 + 1))
      have p : (0 : Int) < 2 ^ ((c + 2) * (0 + 1)) := Int.pow_pos (by decide)
      omega
  | succ k ih =>
    obtain ⟨i1, i2⟩ := ih
    refine ⟨i2, ?_⟩
    have n := ln_nn h1 h2 k
    have e1 : (2 : Int) ^ ((c + 2) * (k + 1)) = 2 ^ ((c + 2) * k) * (2 ^ c * 4) := by
      rw [show (c + 2) * (k + 1) = (c + 2) * k + (c + 2) from by rw [Nat.mul_add, Nat.mul_one], Int.pow_add, Int.pow_add 2 c 2]
      rfl
    have e2 : (2 : Int) ^ ((c + 2) * (k + 1 + 1)) = 2 ^ ((c + 2) * k) * (2 ^ c * 4) * (2 ^ c * 4) := by
      rw [show (c + 2) * (k + 1 + 1) = (c + 2) * (k + 1) + (c + 2) from by rw [Nat.mul_add (c + 2) (k + 1) 1, Nat.mul_one], Int.pow_add, e1, Int.pow_add 2 c 2]
      rfl
    have px : (0 : Int) < 2 ^ ((c + 2) * k) := Int.pow_pos (by decide)
    have pc : (0 : Int) < 2 ^ c := Int.pow_pos (by decide)
    show ln a b (k + 2) ≤ _
    rw [ln_step, e2]
    rw [e1] at i2
    have s : (a - 1) * ln a b k ≤ 2 ^ c * 2 ^ ((c + 2) * k) := Int.mul_le_mul (by omega) i1 n (by omega)
    have c1 : (2 : Int) ^ c * 1 ≤ 2 ^ c * 2 ^ ((c + 2) * k) := Int.mul_le_mul_of_nonneg_left (by omega) (by omega)
    have e3 : (2 : Int) ^ ((c + 2) * k) * (2 ^ c * 4) = 4 * (2 ^ c * 2 ^ ((c + 2) * k)) := by
      rw [← Int.mul_assoc, Int.mul_comm (2 ^ ((c + 2) * k)) (2 ^ c), Int.mul_comm _ 4]
    rw [e3] at i2
    rw [e3]
    have py : (0 : Int) < 2 ^ c * 2 ^ ((c + 2) * k) := Int.mul_pos pc px
    generalize hY : (2 : Int) ^ c * 2 ^ ((c + 2) * k) = y at *
    have e4 : 4 * y * (2 ^ c * 4) = y * (16 * 2 ^ c) := by
      rw [Int.mul_comm 4 y, Int.mul_assoc]
      congr 1
      omega
    rw [e4]
    have l : y * 16 ≤ y * (16 * 2 ^ c) := Int.mul_le_mul_of_nonneg_left (by omega) (by omega)
    omega
theorem ln_size {a b : Int} {c : Nat} (h1 : 1 ≤ a) (h2 : 1 ≤ a + b) (ha : a ≤ 2 ^ c) (hb : a + b ≤ 2 ^ c) {k : Nat} (hk : k ≤ 64) : ln a b k ≤ 2 ^ ((c + 2) * 64) :=
  Int.le_trans (ln_le h1 h2 hk) (ln_size2 h1 h2 ha hb 64).1
theorem gr_size {a : Int} {c : Nat} (h1 : 1 ≤ a) (ha : a + 1 ≤ 2 ^ c) {k : Nat} (hk : k ≤ 64) : gr a k ≤ 2 ^ ((c + 2) * 64) := by
  have e := ln_succ a (1 - a) k
  have n := ln_nn (a := a) (b := 1 - a) h1 (by omega) k
  have s := ln_size (a := a) (b := 1 - a + 1) (c := c) h1 (by omega) (by omega) (by omega) hk
  omega

/-! ### least numbers of lines -/
def ExtraSpec (a : Int) (k : Nat) (d e : Int) : Prop := 1 - a ≤ e ∧ d ≤ ln a e k ∧ (e = 1 - a ∨ ln a (e - 1) k < d)
def lowS (b : Int) : Int := if 1 - b > 1 then 1 - b else 1
theorem lowS_ok (b : Int) : 1 ≤ lowS b ∧ 1 ≤ lowS b + b ∧ (lowS b = 1 ∨ lowS b = 1 - b) := by
  unfold lowS
  split <;> omega
def SlopeSpec (b : Int) (k : Nat) (d s : Int) : Prop := lowS b ≤ s ∧ d ≤ ln s b k ∧ (s = lowS b ∨ ln (s - 1) b k < d)
theorem extra_spec {a d : Int} {k : Nat} (h1 : 1 ≤ a) (hk : 2 ≤ k) (hd : ln a (1 - a) k < d) :
    ExtraSpec a k d (1 - a + (d - ln a (1 - a) k + gr a k - 1) / gr a k) := by
  have g := gr_pos h1 hk
  have q0 : 0 ≤ (d - ln a (1 - a) k + gr a k - 1) / gr a k := Int.ediv_nonneg (by omega) (by omega)
  generalize hq : (d - ln a (1 - a) k + gr a k - 1) / gr a k = q at *
  have m1 : q * gr a k ≤ d - ln a (1 - a) k + gr a k - 1 := by
    rw [← hq]
    exact Int.ediv_mul_le _ (by omega)
  have m2 : d - ln a (1 - a) k + gr a k - 1 < q * gr a k + gr a k := by
    have z := Int.lt_ediv_add_one_mul_self (d - ln a (1 - a) k + gr a k - 1) (show 0 < gr a k by omega)
    rw [hq, Int.add_mul, Int.one_mul] at z
    exact z
  refine ⟨by omega, ?_, .inr ?_⟩
  · rw [ln_add]
    omega
  · rw [show 1 - a + q - 1 = 1 - a + (q - 1) from by omega, ln_add, Int.sub_mul, Int.one_mul]
    omega
theorem extra_bound {a d : Int} {k : Nat} (h1 : 1 ≤ a) (hk : 2 ≤ k) (hd : ln a (1 - a) k < d) : (d - ln a (1 - a) k + gr a k - 1) / gr a k ≤ d := by
  have g := gr_pos h1 hk
  have n := ln_nn (a := a) (b := 1 - a) h1 (by omega) k
  have e : (d - ln a (1 - a) k + gr a k - 1) / gr a k * gr a k ≤ d - ln a (1 - a) k + gr a k - 1 := Int.ediv_mul_le _ (by omega)
  generalize (d - ln a (1 - a) k + gr a k - 1) / gr a k = q at *
  refine Int.le_of_not_gt fun c => ?_
  have m : (d + 1) * gr a k ≤ q * gr a k := Int.mul_le_mul_of_nonneg_right (by omega) (by omega)
  have m2 : d * 1 ≤ d * gr a k := Int.mul_le_mul_of_nonneg_left g (by omega)
  rw [Int.add_mul, Int.one_mul] at m
  have n2 : d * gr a k - d ≥ 0 := by omega
  have lk : 1 ≤ ln a (1 - a) k := by
    have z := ln_le (a := a) (b := 1 - a) h1 (by omega) (show 1 ≤ k by omega)
    rw [ln_one] at z
    exact z
  omega
/-- the slope that is found is at most the slope from which the extra was found -/
theorem slope_le {a e d s : Int} {k : Nat} (h1 : 1 ≤ a) (he : 1 - a ≤ e) (hd : d ≤ ln a e k) (hs : SlopeSpec e k d s) : s ≤ a := by
  obtain ⟨s1, _, h⟩ := hs
  obtain ⟨l1, l2, l3⟩ := lowS_ok e
  by_cases z : s = lowS e
  · rcases l3 with l3 | l3 <;> omega
  · have h' := h.resolve_left z
    refine Int.le_of_not_gt fun c => ?_
    have z := ln_slope (a := a) (a' := s - 1) (b := e) h1 (by omega) (by omega) k
    omega
/-- the first bound of the search reaches -/
theorem slope_top {b d : Int} {k : Nat} (hk : 1 ≤ k) (h : k = 1 → d ≤ 1) : d ≤ ln (if d - 1 - b > lowS b then d - 1 - b else lowS b) b k := by
  obtain ⟨l1, l2, l3⟩ := lowS_ok b
  have hi : lowS b ≤ (if d - 1 - b > lowS b then d - 1 - b else lowS b) ∧ d - 1 - b ≤ (if d - 1 - b > lowS b then d - 1 - b else lowS b) := by
    split <;> omega
  generalize (if d - 1 - b > lowS b then d - 1 - b else lowS b) = t at *
  by_cases e : k = 1
  · subst e
    rw [ln_one]
    exact h rfl
  · have m := ln_le (a := t) (b := b) (by omega) (by omega) (show 2 ≤ k by omega)
    rw [ln_two] at m
    omega

/-! ### rules as data -/
inductive Mdl where
  | line (a b : Int)
  | table (ps : List Int) (sl fl : Int)
  | comb (g : Bool) (x y : Mdl) (fl : Int)
def price : Mdl → Int → Int
  | .line a b, d => a * d + b
  | .table ps sl _, d => if d ≤ (ps.length : Int) then ps.getD (d - 1).toNat 0 else ps.getD (ps.length - 1) 0 + sl * (d - (ps.length : Int))
  | .comb true x y _, d => if price y d > price x d then price y d else price x d
  | .comb false x y _, d => if price y d < price x d then price y d else price x d
def AscP (ps : List Int) : Prop := 1 ≤ ps.length ∧ ps.length ≤ 64 ∧ 1 ≤ ps.getD 0 0 ∧ (∀ i, i + 1 < ps.length → ps.getD i 0 < ps.getD (i + 1) 0) ∧ ∀ i, i < ps.length → ps.getD i 0 ≤ 1000000000
def Ok : Mdl → Prop
  | .line a b => 1 ≤ a ∧ a ≤ 1000000 ∧ 1 ≤ a + b ∧ b ≤ 1000000
  | .table ps sl fl => AscP ps ∧ 1 ≤ sl ∧ sl ≤ 1000000 ∧ 0 ≤ fl ∧ fl < 4
  | .comb _ x y fl => Ok x ∧ Ok y ∧ 0 ≤ fl ∧ fl < 2
def deep : Mdl → Nat
  | .comb _ x y _ => (if deep x ≤ deep y then deep y else deep x) + 1
  | _ => 0
def leaf : Mdl → Bool
  | .comb .. => false
  | _ => true
theorem asc_gap {ps : List Int} (h : ∀ i, i + 1 < ps.length → ps.getD i 0 < ps.getD (i + 1) 0) {i j : Nat} (hij : i ≤ j) : j < ps.length → ps.getD i 0 + ((j : Int) - (i : Int)) ≤ ps.getD j 0 := by
  induction hij with
  | refl => intro _; omega
  | @step j hle ih =>
    intro hj
    have a := ih (by omega)
    have b := h j (by omega)
    have e : ((j.succ : Nat) : Int) = (j : Int) + 1 := by omega
    show ps.getD i 0 + (((j + 1 : Nat) : Int) - (i : Int)) ≤ ps.getD (j + 1) 0
    omega
theorem good_table {ps : List Int} {sl fl : Int} (h : AscP ps) (h1 : 1 ≤ sl) (h2 : sl ≤ 1000000) : Good (price (.table ps sl fl)) := by
  obtain ⟨p1, p2, p3, p4, p5⟩ := h
  have low : ∀ d, d ≤ (ps.length : Int) → price (.table ps sl fl) d = ps.getD (d - 1).toNat 0 := fun d hd => if_pos hd
  have high : ∀ d, ¬ d ≤ (ps.length : Int) → price (.table ps sl fl) d = ps.getD (ps.length - 1) 0 + sl * (d - (ps.length : Int)) := fun d hd => if_neg hd
  have sl1 : ∀ d e, 1 ≤ d → d ≤ e → price (.table ps sl fl) d - d ≤ price (.table ps sl fl) e - e := by
    intro d e hd he
    by_cases c1 : e ≤ (ps.length : Int)
    · rw [low d (by omega), low e c1]
      have g := asc_gap p4 (i := (d - 1).toNat) (j := (e - 1).toNat) (by omega) (by omega)
      omega
    · rw [high e c1]
      by_cases c2 : d ≤ (ps.length : Int)
      · rw [low d c2]
        have g := asc_gap p4 (i := (d - 1).toNat) (j := ps.length - 1) (by omega) (by omega)
        have m : 1 * (e - (ps.length : Int)) ≤ sl * (e - (ps.length : Int)) := Int.mul_le_mul_of_nonneg_right h1 (by omega)
        omega
      · rw [high d c2]
        have m : (sl - 1) * (d - (ps.length : Int)) ≤ (sl - 1) * (e - (ps.length : Int)) := Int.mul_le_mul_of_nonneg_left (by omega) (by omega)
        rw [Int.sub_mul, Int.sub_mul, Int.one_mul, Int.one_mul] at m
        omega
  have first : price (.table ps sl fl) 1 = ps.getD 0 0 := low 1 (by omega)
  refine ⟨fun d hd => ?_, sl1, fun d hd => ?_⟩
  · have a := sl1 1 d (by omega) hd
    omega
  · by_cases c : d ≤ (ps.length : Int)
    · rw [low d c]
      have q := p5 (d - 1).toNat (by omega)
      omega
    · rw [high d c]
      have q := p5 (ps.length - 1) (by omega)
      have m : sl * (d - (ps.length : Int)) ≤ 1000000 * (d - (ps.length : Int)) := Int.mul_le_mul_of_nonneg_right h2 (by omega)
      omega
theorem good_price : ∀ {m : Mdl}, Ok m → Good (price m)
  | .line a b, h => by
    obtain ⟨h1, h2, h3, h4⟩ := h
    refine ⟨fun d hd => ?_, fun d e hd he => ?_, fun d hd => ?_⟩
    · show d ≤ a * d + b
      have m : (a - 1) * 1 ≤ (a - 1) * d := Int.mul_le_mul_of_nonneg_left hd (by omega)
      rw [Int.mul_one, Int.sub_mul, Int.one_mul] at m
      omega
    · show a * d + b - d ≤ a * e + b - e
      have m : (a - 1) * d ≤ (a - 1) * e := Int.mul_le_mul_of_nonneg_left he (by omega)
      rw [Int.sub_mul, Int.sub_mul, Int.one_mul, Int.one_mul] at m
      omega
    · show a * d + b ≤ 1000000 * d + 1000000000
      have m : a * d ≤ 1000000 * d := Int.mul_le_mul_of_nonneg_right h2 (by omega)
      omega
  | .table ps sl fl, h => good_table h.1 h.2.1 h.2.2.1
  | .comb g x y fl, h => by
    obtain ⟨hx, hy, _⟩ := h
    have gx := good_price hx
    have gy := good_price hy
    cases g with
    | true =>
      refine ⟨fun d hd => ?_, fun d e hd he => ?_, fun d hd => ?_⟩
      · show d ≤ if price y d > price x d then price y d else price x d
        have a := gx.ge d hd
        have b := gy.ge d hd
        split <;> omega
      · show (if price y d > price x d then price y d else price x d) - d ≤ (if price y e > price x e then price y e else price x e) - e
        have a := gx.sl d e hd he
        have b := gy.sl d e hd he
        split <;> split <;> omega
      · show (if price y d > price x d then price y d else price x d) ≤ _
        have a := gx.sz d hd
        have b := gy.sz d hd
        split <;> omega
    | false =>
      refine ⟨fun d hd => ?_, fun d e hd he => ?_, fun d hd => ?_⟩
      · show d ≤ if price y d < price x d then price y d else price x d
        have a := gx.ge d hd
        have b := gy.ge d hd
        split <;> omega
      · show (if price y d < price x d then price y d else price x d) - d ≤ (if price y e < price x e then price y e else price x e) - e
        have a := gx.sl d e hd he
        have b := gy.sl d e hd he
        split <;> split <;> omega
      · show (if price y d < price x d then price y d else price x d) ≤ _
        have a := gx.sz d hd
        have b := gy.sz d hd
        split <;> omega
end Lr

namespace Lr
open PySem L2
/-! ### the text by places -/
def top (i : Nat) : Stmt := PySem.Challenge.pw_latereach_k05_whole_least_numbers.main.body.getD i (.Pass ⟨0, 0, 0, 0⟩)
theorem same_new {H : Hp} {p : Addr} (h : H p = none) (o : HO) : Same H (upd H p o) := fun b u q => by rw [upd_ne (ne_of_none q h)]; exact q

/-! ### a def of the module: where it stands, how its arguments bind; what it promises -/
def Df (K : PySem.W.Frag) (mg : Str → Option Value) (x : Str) (st : Stmt) (ps : List Str) (f : Addr) (fd : FuncData) : Prop :=
  mg x = some (.ref f) ∧ Fun K x x st f fd ∧ Binds K fd ps []
def Has (P : Program) (w : World) (K : PySem.W.Frag) (mg : Str → Option Value) (base : Heap) (CX : CXT) (k : Nat) (x : Str) (ps : List Str) (sp : Sp) : Prop :=
  ∃ f fd, mg x = some (.ref f) ∧ PySem.W.keepIn K (.ref f) = true ∧ Binds K fd ps [] ∧ FnOk P w K mg base CX k f fd ps sp
section
variable {P : Program} {w : World} {K : PySem.W.Frag} {mg : Str → Option Value} {base : Heap}
theorem Df.has {CX : CXT} {k : Nat} {x : Str} {st : Stmt} {ps : List Str} {f : Addr} {fd : FuncData} {sp : Sp} (d : Df K mg x st ps f fd) (F : FnOk P w K mg base CX k f fd ps sp) : Has P w K mg base CX k x ps sp :=
  ⟨f, fd, d.1, d.2.1.kp, d.2.2, F⟩
theorem Has.mono {CX : CXT} {j k : Nat} {x : Str} {ps : List Str} {sp : Sp} (h : Has P w K mg base CX j x ps sp) (l : j ≤ k) : Has P w K mg base CX k x ps sp := by
  obtain ⟨f, fd, a, b, c, F⟩ := h
  exact ⟨f, fd, a, b, c, F.mono l⟩
end
section
variable {X : Cx} {k : Nat} {x : Str} {ps : List Str} {sp : Sp} {p pos : Pos} {e : Expr} {es : List Expr} {t : TA}
/-- f(e, ..) of a def that lets nothing out -/
theorem pe_has (h : Has X.prog X.w X.K X.mg X.base CX0 k x ps sp) (hr : Room k X.A) (ha : PA X (e :: es) t) (hg : Gl X x := by rfl) (hdb : (x == ("__debug__" : Str)) = false := by decide)
    (he : starEach (e :: es) X.env = (false, eval e X.env) :: starEach es X.env := by rfl) (hpl : (backTo pos (starEach es X.env)).any (·.1) = false := by rfl) :
    PE X (.Call (.Name x p) (e :: es) [] pos) (tCall sp [] E0 t) := by
  obtain ⟨f, fd, m, kp, b, F⟩ := h
  exact pe_call F hr hg m kp b .nil pass0 ha hdb he hpl
/-- .. of a def that may raise, where exceptions are taken by W -/
theorem pe_hasN {W : WX} (h : Has X.prog X.w X.K X.mg X.base (L2N.CX X.prog X.w) k x ps sp) (hr : Room k X.A) (tk : L2N.Takes X W) (ha : PA X (e :: es) t) (hg : Gl X x := by rfl) (hdb : (x == ("__debug__" : Str)) = false := by decide)
    (he : starEach (e :: es) X.env = (false, eval e X.env) :: starEach es X.env := by rfl) (hpl : (backTo pos (starEach es X.env)).any (·.1) = false := by rfl) :
    PE X (.Call (.Name x p) (e :: es) [] pos) (tCallS sp (WE W) t) := by
  obtain ⟨f, fd, m, kp, b, F⟩ := h
  exact pe_callS F hr hg m kp b (fun σ => L2N.passAt tk σ) ha hdb he hpl
end
end Lr

namespace Lr
open PySem L2
/-! ### the built-ins that the text names -/
structure Bt (mg : Str → Option Value) : Prop where
  isi : mg "isinstance" = none
  bool : mg "bool" = none
  int : mg "int" = none
  len : mg "len" = none
  range : mg "range" = none
  tuple : mg "tuple" = none
  list : mg "list" = none
  min : mg "min" = none
  max : mg "max" = none
  abs : mg "abs" = none
theorem isi_no {K : PySem.W.Frag} {v : Int} {H : Hp} {Q : VK} (q : Q (.bl false) H) : rIsi K [.int v, .ty "bool"] H Q :=
  ⟨_, _, _, _, _, rfl, .ty "bool", .base (.int v), kit_ty (by decide +kernel), q⟩
theorem isi_yes {K : PySem.W.Frag} {v : Int} {H : Hp} {Q : VK} (q : Q (.bl true) H) : rIsi K [.int v, .ty "int"] H Q :=
  ⟨_, _, _, _, _, rfl, .ty "int", .base (.int v), kit_ty (by decide +kernel), q⟩
def rIsB : List V → Hp → VK → Prop := fun xs H Q => ∃ v, xs = [.int v, .ty "bool"] ∧ Q (.bl false) H
def rIsI : List V → Hp → VK → Prop := fun xs H Q => ∃ v, xs = [.int v, .ty "int"] ∧ Q (.bl true) H
section
variable {X : Cx} {te : TE} {e : Expr} {p1 p2 pos : Pos}
theorem call_isB : CallR X (.builtin "isinstance") rIsB := fun pins s σ H xs us Q I r h => call_isi pins s σ H xs us Q I r (by
  obtain ⟨v, rfl, q⟩ := h
  exact isi_no q)
theorem call_isI : CallR X (.builtin "isinstance") rIsI := fun pins s σ H xs us Q I r h => call_isi pins s σ H xs us Q I r (by
  obtain ⟨v, rfl, q⟩ := h
  exact isi_yes q)
/-- isinstance(e, bool), isinstance(e, int), as tests and values -/
theorem pe_isB (B : Bt X.mg) (he : PE X e te) (h1 : Gl X "isinstance" := by rfl) (h2 : Gl X "bool" := by rfl)
    (hs : starEach [e, .Name "bool" p2] X.env = (false, eval e X.env) :: starEach [.Name "bool" p2] X.env := by rfl) (hs2 : starEach [.Name "bool" p2] X.env = [(false, eval (.Name "bool" p2) X.env)] := by rfl)
    (hpl : (backTo pos (starEach [.Name "bool" p2] X.env)).any (·.1) = false := by rfl) :
    PE X (.Call (.Name "isinstance" p1) [e, .Name "bool" p2] [] pos) (tCB rIsB (tCons te (tCons (tC (.ty "bool")) tNil))) :=
  pe_callB call_isB h1 B.isi (by decide +kernel) (pa_cons he (pa_cons (pe_bltn (u := .type "bool") h2 B.bool (by decide +kernel) rfl) pa_nil hs2) hs) (by decide) (by decide) hs hpl
theorem pe_isI (B : Bt X.mg) (he : PE X e te) (h1 : Gl X "isinstance" := by rfl) (h2 : Gl X "int" := by rfl)
    (hs : starEach [e, .Name "int" p2] X.env = (false, eval e X.env) :: starEach [.Name "int" p2] X.env := by rfl) (hs2 : starEach [.Name "int" p2] X.env = [(false, eval (.Name "int" p2) X.env)] := by rfl)
    (hpl : (backTo pos (starEach [.Name "int" p2] X.env)).any (·.1) = false := by rfl) :
    PE X (.Call (.Name "isinstance" p1) [e, .Name "int" p2] [] pos) (tCB rIsI (tCons te (tCons (tC (.ty "int")) tNil))) :=
  pe_callB call_isI h1 B.isi (by decide +kernel) (pa_cons he (pa_cons (pe_bltn (u := .type "int") h2 B.int (by decide +kernel) rfl) pa_nil hs2) hs) (by decide) (by decide) hs hpl
end

/-! ### need_range, need_places, need_late -/
abbrev sNeedRange : Stmt := top 9
abbrev sNeedPlaces : Stmt := top 10
abbrev sNeedLate : Stmt := top 11
def spRange : Sp := fun vs H Q _ => ∃ (v lo hi : Int), vs = [.int v, .int lo, .int hi] ∧ lo ≤ v ∧ v ≤ hi ∧ Q .non H
def spPlaces : Sp := fun vs H Q _ => ∃ (v : Int), vs = [.int v] ∧ 1 ≤ v ∧ v ≤ 64 ∧ Q .non H
def spLate : Sp := fun vs H Q _ => ∃ (v : Int), vs = [.int v] ∧ 1 ≤ v ∧ v ≤ 10 ^ 60 ∧ Q .non H
section
variable {P : Program} {w : World} {K : PySem.W.Frag} {mg : Str → Option Value} {base : Heap}
theorem scRange : FnScope ["value", "least", "most"] ["value", "least", "most"] (defScope sNeedRange) := ⟨rfl, rfl, rfl, by decide +kernel, rfl, by decide +kernel, by decide +kernel⟩
theorem ok_range {f : Addr} {fd : FuncData} (B : Bt mg) (D : Df K mg "need_range" sNeedRange ["value", "least", "most"] f fd) : Has P w K mg base CX0 1 "need_range" ["value", "least", "most"] spRange := by
  refine D.has (D.2.1.ok scRange (fun vs H Q E h => ?_) (fun cdv A outer s H vs Q E hr h => ?_))
  · obtain ⟨v, lo, hi, rfl, _⟩ := h
    rfl
  obtain ⟨v, lo, hi, rfl, h1, h2, q⟩ := h
  refine ⟨_, pss_cons (ps_if (PW.pt (pw_or (pt_val (pe_isB B (pv 0))) (pw_or1 (pt_not (pt_val (pe_isI B (pv 0))))))) (pss_one ps_never) pss_nil)
    (pss_one (ps_if (PW.pt (pw_or (pt_cmpR op_lt (pv 0) (pv 1) (nomark _)) (pw_or1 (pt_cmpR op_gt (pv 0) (pv 2) (nomark _))))) (pss_one ps_never) pss_nil)), ?_⟩
  refine ⟨_, rfl, _, rfl, _, rfl, iteF ?_⟩
  refine ⟨_, rfl, _, rfl, _, rfl, ?_⟩
  refine ⟨_, rfl, _, rfl, _, _, rfl, rfl, _, rfl, ite2 (fun c => ?_) fun _ => ⟨_, rfl, _, rfl, _, _, rfl, rfl, _, rfl, ite2 (fun c => ?_) fun _ => q⟩⟩
  · have c := of_decide_eq_true c
    omega
  · have c := of_decide_eq_true c
    omega
end
end Lr

namespace Lr
open PySem L2
/-! ### the rules as objects -/
structure Cs where
  line : Addr
  table : Addr
  less : Addr
  grt : Addr
def fLine (s e : Int) : List (Str × V) := putF "extra" (.int e) (putF "slope" (.int s) [])
def fTable (t : Addr) (s : Int) : List (Str × V) := putF "slope" (.int s) (putF "prices" (.ref t) [])
def fComb (u v : Addr) : List (Str × V) := putF "_other" (.ref v) (putF "_one" (.ref u) [])
theorem fLine_slope (s e : Int) : (fLine s e).lookup ("slope" : Str) = some (.int s) := by
  unfold fLine
  rw [lookup_putF, if_neg (by decide +kernel), lookup_putF, if_pos rfl]
theorem fLine_extra (s e : Int) : (fLine s e).lookup ("extra" : Str) = some (.int e) := by
  unfold fLine
  rw [lookup_putF, if_pos rfl]
theorem fTable_slope (t : Addr) (s : Int) : (fTable t s).lookup ("slope" : Str) = some (.int s) := by
  unfold fTable
  rw [lookup_putF, if_pos rfl]
theorem fTable_prices (t : Addr) (s : Int) : (fTable t s).lookup ("prices" : Str) = some (.ref t) := by
  unfold fTable
  rw [lookup_putF, if_neg (by decide +kernel), lookup_putF, if_pos rfl]
theorem fComb_one (u v : Addr) : (fComb u v).lookup ("_one" : Str) = some (.ref u) := by
  unfold fComb
  rw [lookup_putF, if_neg (by decide +kernel), lookup_putF, if_pos rfl]
theorem fComb_other (u v : Addr) : (fComb u v).lookup ("_other" : Str) = some (.ref v) := by
  unfold fComb
  rw [lookup_putF, if_pos rfl]
theorem put0 : ([] : List (Str × V)).length < 1000 := by decide
theorem put1 (f : Str) (v : V) : (putF f v []).length < 1000 := by
  have := length_putF f v []
  simp at this
  omega
/-- non-lists stand as they stood -/
def NL (H H' : Hp) : Prop := ∀ c o, H c = some o → (∀ xs, o ≠ .lst xs) → H' c = some o
theorem NL.of_same {H H' : Hp} (s : Same H H') : NL H H' := fun c o h _ => s c o h
theorem NL.refl (H : Hp) : NL H H := fun _ _ h _ => h
theorem NL.trans {H H1 H2 : Hp} (a : NL H H1) (b : NL H1 H2) : NL H H2 := fun c o h n => b c o (a c o h n) n
theorem NL.upd {H : Hp} {p : Addr} {xs ys : List V} (h : H p = some (.lst xs)) : NL H (upd H p (.lst ys)) := fun c o hc n => by
  have ne : c ≠ p := fun z => by
    subst z
    rw [h] at hc
    exact n xs (Option.some.inj hc).symm
  rw [upd_ne ne]
  exact hc
def RuleAt (c : Cs) (H : Hp) : Addr → Mdl → Prop
  | a, .line s e => ∃ dx, H a = some (.ins c.line dx (fLine s e))
  | a, .table ps sl _ => ∃ dx t, H a = some (.ins c.table dx (fTable t sl)) ∧ H t = some (.tup (ps.map V.int))
  | a, .comb true x y _ => ∃ dx u v, H a = some (.ins c.grt dx (fComb u v)) ∧ RuleAt c H u x ∧ RuleAt c H v y
  | a, .comb false x y _ => ∃ dx u v, H a = some (.ins c.less dx (fComb u v)) ∧ RuleAt c H u x ∧ RuleAt c H v y
theorem RuleAt.nl {c : Cs} {H H' : Hp} (n : NL H H') : ∀ {m : Mdl} {a : Addr}, RuleAt c H a m → RuleAt c H' a m
  | .line s e, a, ⟨dx, h⟩ => ⟨dx, n _ _ h fun _ z => by cases z⟩
  | .table ps sl _, a, ⟨dx, t, h1, h2⟩ => ⟨dx, t, n _ _ h1 fun _ z => (by cases z), n _ _ h2 fun _ z => (by cases z)⟩
  | .comb true x y _, a, ⟨dx, u, v, h, hu, hv⟩ => ⟨dx, u, v, n _ _ h fun _ z => (by cases z), hu.nl n, hv.nl n⟩
  | .comb false x y _, a, ⟨dx, u, v, h, hu, hv⟩ => ⟨dx, u, v, n _ _ h fun _ z => (by cases z), hu.nl n, hv.nl n⟩
theorem RuleAt.same {c : Cs} {H H' : Hp} {m : Mdl} {a : Addr} (h : RuleAt c H a m) (s : Same H H') : RuleAt c H' a m := h.nl (NL.of_same s)
/-- what the call of the rule m at a promises -/
def spRC (c : Cs) (a : Addr) (m : Mdl) : Sp := fun vs H Q _ => ∃ (t : Int), vs = [.ref a, .int t] ∧ RuleAt c H a m ∧ Ok m ∧ 1 ≤ t ∧ Q (.int (price m t)) H
/-- a rule of at most that depth may be called, in k rooms -/
def RuleOk (P : Program) (w : World) (K : PySem.W.Frag) (mg : Str → Option Value) (base : Heap) (c : Cs) (d k : Nat) : Prop :=
  ∀ (H : Hp) (a : Addr) (m : Mdl), RuleAt c H a m → deep m ≤ d → ∃ C dx fs g, H a = some (.ins C dx fs) ∧ StX.CallO K C g ∧ FnR P w K mg base CX0 k g (spRC c a m)
def rRC (c : Cs) (d : Nat) (b : Addr) (vs : List V) (H : Hp) (Q : VK) : Prop := ∃ (m : Mdl) (t : Int), vs = [.int t] ∧ RuleAt c H b m ∧ Ok m ∧ deep m ≤ d ∧ 1 ≤ t ∧ Q (.int (price m t)) H
def tRule (c : Cs) (d : Nat) (tf : TE) (t : TA) : TE := fun σ H Q => tf σ H fun y H1 => ∃ a, y = V.ref a ∧ t σ H1 fun vs H2 => rRC c d a vs H2 Q
def tFldRule (K : PySem.W.Frag) (c : Cs) (d : Nat) (f : Str) (ta : TE) (t : TA) : TE := fun σ H Q => ta σ H fun x H1 => ∃ (a C dx : Addr) (fs : List (Str × V)) (b : Addr), x = V.ref a ∧ H1 a = some (.ins C dx fs) ∧ Cls K C ∧ NoAttr K C f ∧ fs.lookup f = some (.ref b) ∧
  t σ H1 fun vs H2 => rRC c d b vs H2 Q
section
variable {X : Cx} {c : Cs} {d k : Nat} {f : Str} {fe e o : Expr} {es : List Expr} {tf ta : TE} {t : TA} {pos apos : Pos}
/-- f(e, ..), f a rule -/
theorem pe_rule (R : RuleOk X.prog X.w X.K X.mg X.base c d k) (hr : Room k X.A) (hf : PE X fe tf) (ha : PA X (e :: es) t)
    (ht : eval (.Call fe (e :: es) [] pos) X.env = (do callWith pos (← eval fe X.env) [] (backTo pos (starEach (e :: es) X.env)) (backToKw pos (keywordEach [] X.env))) := by rfl)
    (he : starEach (e :: es) X.env = (false, eval e X.env) :: starEach es X.env := by rfl) (hpl : (backTo pos (starEach es X.env)).any (·.1) = false := by rfl) : PE X (.Call fe (e :: es) [] pos) (tRule c d tf t) := by
  refine ⟨fun pins s σ H Q I h => ?_⟩
  refine PyProof.Rows.Call_ (thn (hf.run pins s σ H _ I h) fun u s1 ⟨y, H1, I1, ry, a, ey, q⟩ => ?_) ht
  subst ey
  obtain rfl : u = Value.ref a := ry
  refine StX.callO_with (thn (ha.run pos pins s1 σ H1 _ I1 q) fun us s2 ⟨vs, H2, I2, r, m, n, ev, hi, ok, hd, h1, q2⟩ => ?_) he hpl
  obtain ⟨C, dx, fs, g, ea, co, F⟩ := R H2 a m hi hd
  obtain ⟨ox, od, J, hdt⟩ := StX.insC_at I2 (.inr ⟨dx, fs, ea⟩)
  exact ⟨⟨C, ox, od, J, hdt⟩, StX.run_callO (E := E0) co F hr pass0 I2 (.inr ⟨dx, fs, ea⟩) r ⟨n, by rw [ev], hi, ok, h1, q2⟩⟩
/-- o.f(e, ..), the attribute f of o a rule -/
theorem pe_fldRule {pl : Sem Bool} (R : RuleOk X.prog X.w X.K X.mg X.base c d k) (hr : Room k X.A) (hf : PE X o ta) (ha : PA X (e :: es) t)
    (he : starEach (e :: es) X.env = (false, eval e X.env) :: starEach es X.env := by rfl) (hpl : (backTo pos (starEach es X.env)).any (·.1) = false := by rfl)
    (ht : eval (.Call (.Attribute o f apos) (e :: es) [] pos) X.env = (do
      let ov ← eval o X.env
      standAt apos.atName
      let (f, first) ← holding [ov] (getMethod ov f pl)
      callWith pos f first (backTo pos (starEach (e :: es) X.env)) (backToKw pos (keywordEach [] X.env))) := by rfl) :
    PE X (.Call (.Attribute o f apos) (e :: es) [] pos) (tFldRule X.K c d f ta t) := by
  refine ⟨fun pins s σ H Q I h => ?_⟩
  refine PySem.W.methodCall_KW (pl := pl) (thn (hf.run pins s σ H _ I h) fun u s1 ⟨x, H1, I1, rx, a, C, dx, fs, b, ex, ea, cl, na, l, q⟩ => ?_) ht
  subst ex
  obtain rfl : u = Value.ref a := rx
  refine getmeth_fld I1 ea cl na l fun u1 s1' I1' ru => ?_
  obtain rfl : u1 = Value.ref b := ru
  refine StX.callO_with (thn (ha.run pos pins s1' σ H1 _ I1' q) fun us s2 ⟨vs, H2, I2, r, m, n, ev, hi, ok, hd, h1, q2⟩ => ?_) he hpl
  obtain ⟨C, dx, fs, g, eb, co, F⟩ := R H2 b m hi hd
  obtain ⟨ox, od, J, hdt⟩ := StX.insC_at I2 (.inr ⟨dx, fs, eb⟩)
  exact ⟨⟨C, ox, od, J, hdt⟩, StX.run_callO (E := E0) co F hr pass0 I2 (.inr ⟨dx, fs, eb⟩) r ⟨n, by rw [ev], hi, ok, h1, q2⟩⟩
end
end Lr

namespace PySem.W
open Lean Elab Tactic Meta PySem PySem.Calls PyProof.Rows
section
variable {prog : Program} {w : World} {A : Around} {E : Value → Shared → Prop} {s : Shared} {K : Frag} {x y C D f g : Addr} {ox oy : Obj} {od od2 : Option Obj}
/-- a op b, both instances of own classes that have the operator's method, neither class above the other -/
theorem lr_binO {op : Operator} {Q : Value → Shared → Prop} (X : K.In s.heap) (I : InstAt s.heap x ox C od) (I2 : InstAt s.heap y oy D od2) (hc : selfFirst K C = true) (hd : selfFirst K D = true)
    (hs : findIn K (.ref C) (PySem.dunder op.info.2) = some (some (.ref f))) (hf : isFn K (.ref f) = true) (hr : findIn K (.ref C) (dunderR op.info.2) = some none)
    (hs2 : findIn K (.ref D) (PySem.dunder op.info.2) = some (some (.ref g))) (hr2 : findIn K (.ref D) (dunderR op.info.2) = some none) (hsub : C = D ∨ subIn K (.ref D) (.ref C) = some false)
    (h : wpAny (model prog w) A (call (.ref f) [.ref x, .ref y]) (CmpBack Q) E s) : wpAny (model prog w) A (binaryOp op (.ref x) (.ref y)) Q E s := by
  obtain ⟨cd, rest, hcd, hm⟩ := ksp_first hc
  obtain ⟨cd2, rest2, hcd2, hm2⟩ := ksp_first hd
  rcases hi : op.info with ⟨sym, nm'⟩
  rw [hi] at hs hr hs2 hr2
  dsimp only at hs hr hs2 hr2
  have one := ksp_try X I hs hf h
  obtain ⟨hh, gg, d, tt, os⟩ := s
  have L1 : Looks (model prog w) hh (typeOf (.ref x)) (.ref C) := I.type
  have L2 : Looks (model prog w) hh (typeOf (.ref y)) (.ref D) := I2.type
  have L3 : Looks (model prog w) hh (fillsNumberSlot (.ref C) nm') true := fills_K X hcd hm hs
  have L4 : Looks (model prog w) hh (fillsNumberSlot (.ref D) nm') true := fills_K X hcd2 hm2 hs2
  have L6 : Looks (model prog w) hh (numberSlotInPython (.ref C) nm') true := ksp_inPy X hs hr (.inl rfl)
  have L7 : Looks (model prog w) hh (numberSlotInPython (.ref D) nm') true := ksp_inPy X hs2 hr2 (.inl rfl)
  simp only [binaryOp, hi]
  refine wpAny_holding (wpAny_bind ?_)
  unfold binaryOp1
  refine wpAny_bind (L1.at (wpAny_bind (L2.at (wpAny_bind (L3.at ?_)))))
  by_cases e : C = D
  · subst e
    simp only [beq_self_eq_true, if_true]
    ksp_lk
    refine wpAny_mono one (fun r s' hr' => ?_) fun _ _ e => e
    obtain ⟨v, rfl, hq⟩ := hr'
    ksp_lk
    exact hq
  · have hne : (Value.ref C == Value.ref D) = false := Bool.eq_false_iff.mpr fun q => by
      have z := beq_iff_eq.mp q
      cases z
      exact e rfl
    have L5 : Looks (model prog w) hh (isSubtype (.ref D) (.ref C)) false := looks_subIn X (hsub.resolve_left e)
    simp only [hne, Bool.false_eq_true, if_false]
    ksp_lk
    refine wpAny_mono one (fun r s' hr' => ?_) fun _ _ e => e
    obtain ⟨v, rfl, hq⟩ := hr'
    ksp_lk
    exact hq
end
end PySem.W
namespace Lr
open PySem L2
/-- what the classes of rules say of one operator -/
structure OpC (K : PySem.W.Frag) (C f : Addr) (op : Operator) : Prop where
  sf : PySem.W.selfFirst K C = true
  me : PySem.W.findIn K (.ref C) (PySem.dunder op.info.2) = some (some (.ref f))
  re : PySem.W.findIn K (.ref C) (PySem.dunderR op.info.2) = some none
structure OpAll (K : PySem.W.Frag) (c : Cs) (f : Addr) (op : Operator) : Prop where
  fn : PySem.W.isFn K (.ref f) = true
  l : OpC K c.line f op
  t : OpC K c.table f op
  s : OpC K c.less f op
  g : OpC K c.grt f op
structure Apart (K : PySem.W.Frag) (c : Cs) : Prop where
  lt : PySem.W.subIn K (.ref c.line) (.ref c.table) = some false
  ls : PySem.W.subIn K (.ref c.line) (.ref c.less) = some false
  lg : PySem.W.subIn K (.ref c.line) (.ref c.grt) = some false
  tl : PySem.W.subIn K (.ref c.table) (.ref c.line) = some false
  ts : PySem.W.subIn K (.ref c.table) (.ref c.less) = some false
  tg : PySem.W.subIn K (.ref c.table) (.ref c.grt) = some false
  sl : PySem.W.subIn K (.ref c.less) (.ref c.line) = some false
  st : PySem.W.subIn K (.ref c.less) (.ref c.table) = some false
  sg : PySem.W.subIn K (.ref c.less) (.ref c.grt) = some false
  gl : PySem.W.subIn K (.ref c.grt) (.ref c.line) = some false
  gt : PySem.W.subIn K (.ref c.grt) (.ref c.table) = some false
  gs : PySem.W.subIn K (.ref c.grt) (.ref c.less) = some false
/-- the class of a rule -/
def cOf (c : Cs) : Mdl → Addr
  | .line .. => c.line
  | .table .. => c.table
  | .comb true .. => c.grt
  | .comb false .. => c.less
theorem RuleAt.ins {c : Cs} {H : Hp} {a : Addr} {m : Mdl} (h : RuleAt c H a m) : ∃ dx fs, H a = some (.ins (cOf c m) dx fs) := by
  match m, h with
  | .line s e, ⟨dx, h⟩ => exact ⟨dx, _, h⟩
  | .table ps sl fl, ⟨dx, t, h, _⟩ => exact ⟨dx, _, h⟩
  | .comb true x y fl, ⟨dx, u, v, h, _⟩ => exact ⟨dx, _, h⟩
  | .comb false x y fl, ⟨dx, u, v, h, _⟩ => exact ⟨dx, _, h⟩
theorem OpAll.at {K : PySem.W.Frag} {c : Cs} {f : Addr} {op : Operator} (o : OpAll K c f op) (m : Mdl) : OpC K (cOf c m) f op := by
  match m with
  | .line .. => exact o.l
  | .table .. => exact o.t
  | .comb true .. => exact o.g
  | .comb false .. => exact o.s
theorem Apart.at {K : PySem.W.Frag} {c : Cs} (o : Apart K c) (m n : Mdl) : cOf c m = cOf c n ∨ PySem.W.subIn K (.ref (cOf c n)) (.ref (cOf c m)) = some false := by
  match m, n with
  | .line .., .line .. => exact .inl rfl
  | .line .., .table .. => exact .inr o.tl
  | .line .., .comb true .. => exact .inr o.gl
  | .line .., .comb false .. => exact .inr o.sl
  | .table .., .line .. => exact .inr o.lt
  | .table .., .table .. => exact .inl rfl
  | .table .., .comb true .. => exact .inr o.gt
  | .table .., .comb false .. => exact .inr o.st
  | .comb true .., .line .. => exact .inr o.lg
  | .comb true .., .table .. => exact .inr o.tg
  | .comb true .., .comb true .. => exact .inl rfl
  | .comb true .., .comb false .. => exact .inr o.sg
  | .comb false .., .line .. => exact .inr o.ls
  | .comb false .., .table .. => exact .inr o.ts
  | .comb false .., .comb true .. => exact .inr o.gs
  | .comb false .., .comb false .. => exact .inl rfl
def rRules (c : Cs) (sp : Sp) : R2 := fun x y H Q => ∃ (a b : Addr) (m n : Mdl), x = .ref a ∧ y = .ref b ∧ RuleAt c H a m ∧ RuleAt c H b n ∧ sp [.ref a, .ref b] H Q E0
theorem RelV.not_ni {v : V} {u : Value} (r : RelV v u) : u ≠ .notImplemented := by
  cases v with
  | non => cases (show u = Value.none from r); exact fun z => nomatch z
  | bl b => cases (show u = Value.bool b from r); exact fun z => nomatch z
  | int i => obtain ⟨t, q⟩ := (show ∃ t, u = Value.int i t from r); cases q; exact fun z => nomatch z
  | str i => obtain ⟨t, q⟩ := (show ∃ t, u = Value.str i t from r); cases q; exact fun z => nomatch z
  | byt i => obtain ⟨t, q⟩ := (show ∃ t, u = Value.bytes i t from r); cases q; exact fun z => nomatch z
  | flt i => obtain ⟨t, q⟩ := (show ∃ t, u = Value.float i t from r); cases q; exact fun z => nomatch z
  | ref a => cases (show u = Value.ref a from r); exact fun z => nomatch z
  | ty n => cases (show u = Value.type n from r); exact fun z => nomatch z
theorem op_rules {X : Cx} {c : Cs} {op : Operator} {k : Nat} {f : Addr} {fd : FuncData} {ps : List Str} {sp : Sp} (O : OpAll X.K c f op) (A : Apart X.K c) (F : FnOk X.prog X.w X.K X.mg X.base CX0 k f fd ps sp) (hr : Room k X.A) (hb : Binds X.K fd ps []) :
    OpR X (binaryOp op) (rRules c sp) := by
  intro pins s σ H x y v u Q I rx ry h
  obtain ⟨a, b, m, n, rfl, rfl, ha, hb', q⟩ := h
  obtain rfl : v = Value.ref a := rx
  obtain rfl : u = Value.ref b := ry
  obtain ⟨dx, fs, ea⟩ := ha.ins
  obtain ⟨dy, gs, eb⟩ := hb'.ins
  obtain ⟨mA, OA, _⟩ := ins_get I.hok ea
  obtain ⟨oda, JA, _⟩ := OA.look
  obtain ⟨mB, OB, _⟩ := ins_get I.hok eb
  obtain ⟨odb, JB, _⟩ := OB.look
  refine PySem.W.lr_binO I.kIn JA JB (O.at m).sf (O.at n).sf (O.at m).me O.fn (O.at m).re (O.at n).me (O.at n).re (A.at m n) ?_
  refine thn (run_fn (us := [.ref a, .ref b]) (vs := [.ref a, .ref b]) (dvs := []) (ds := []) F hr hb .nil pass0 I (.cons rfl (.cons rfl .nil)) q) fun u s1 hh => ?_
  obtain ⟨v', H', I', r', q'⟩ := hh
  have z := RelV.not_ni r'
  show PySem.W.CmpBack _ u s1
  cases u <;> first | exact absurd rfl z | exact ⟨v', H', I', r', q'⟩
end Lr

namespace Lr
open PySem L2
/-! ### places -/
theorem atI_int {ps : List Int} {i : Int} (h0 : 0 ≤ i) (h : i < (ps.length : Int)) : atI (ps.map V.int) i = some (.int (ps.getD i.toNat 0)) := by
  have e : i = ((i.toNat : Nat) : Int) := by omega
  have hl : i.toNat < ps.length := by omega
  have q : atI (ps.map V.int) ((i.toNat : Nat) : Int) = some (.int (ps.getD i.toNat 0)) := atI_nat (by
    rw [List.getElem?_map, List.getElem?_eq_getElem hl, List.getD_eq_getElem?_getD, List.getElem?_eq_getElem hl]
    rfl)
  rw [← e] at q
  exact q
theorem atI_neg {α : Type} {xs : List α} {k : Nat} {i : Int} {v : α} (hk : 1 ≤ k) (hx : k ≤ xs.length) (h : xs[xs.length - k]? = some v) (hi : i = -(k : Int)) : atI xs i = some v := by
  have e : ixN xs.length i = some (xs.length - k) := by
    unfold ixN
    rw [if_neg (by omega), if_pos (by omega)]
    congr 1
    omega
  unfold atI
  rw [e]
  exact h
theorem int_nth {ps : List Int} {i : Nat} (h : i < ps.length) : (ps.map V.int)[i]? = some (.int (ps.getD i 0)) := by
  rw [List.getElem?_map, List.getElem?_eq_getElem h, List.getD_eq_getElem?_getD, List.getElem?_eq_getElem h]
  rfl

/-! ### what the text says of the rules' classes -/
structure Rt (K : PySem.W.Frag) (mg : Str → Option Value) (c : Cs) : Prop where
  clL : Cls K c.line
  nLs : NoAttr K c.line "slope"
  nLe : NoAttr K c.line "extra"
  gL : mg "Line" = some (.ref c.line)
  clT : Cls K c.table
  nTp : NoAttr K c.table "prices"
  nTs : NoAttr K c.table "slope"
  gT : mg "Table" = some (.ref c.table)
  clS : Cls K c.less
  nS1 : NoAttr K c.less "_one"
  nS2 : NoAttr K c.less "_other"
  gS : mg "Lesser" = some (.ref c.less)
  clG : Cls K c.grt
  nG1 : NoAttr K c.grt "_one"
  nG2 : NoAttr K c.grt "_other"
  gG : mg "Greater" = some (.ref c.grt)

abbrev sNeedLate1 : Stmt := top 16
abbrev sAsc : Stmt := top 17
abbrev sAnd : Stmt := inClass (top 18) 0
abbrev sOr : Stmt := inClass (top 18) 1
abbrev sLineInit : Stmt := inClass (top 19) 0
abbrev sLineCall : Stmt := inClass (top 19) 1
abbrev sTableInit : Stmt := inClass (top 20) 0
abbrev sTableCall : Stmt := inClass (top 20) 1
abbrev sLessInit : Stmt := inClass (top 21) 0
abbrev sLessCall : Stmt := inClass (top 21) 1
abbrev sGrtInit : Stmt := inClass (top 22) 0
abbrev sGrtCall : Stmt := inClass (top 22) 1

def spNL1 : Sp := fun vs H Q _ => ∃ (v : Int), vs = [.int v] ∧ 1 ≤ v ∧ Q .non H
def spAsc (K : PySem.W.Frag) : Sp := fun vs H Q _ => ∃ (a : Addr) (ps : List Int), vs = [.ref a] ∧ SqT K H a (ps.map V.int) ∧ AscP ps ∧ Q (.bl true) H
def spLineInit (c : Cs) : Sp := fun vs H Q _ => ∃ (p dx : Addr) (s e : Int), vs = [.ref p, .int s, .int e] ∧ H p = some (.ins c.line dx []) ∧ 1 ≤ s ∧ 1 ≤ s + e ∧ Q .non (upd H p (.ins c.line dx (fLine s e)))
def spTableInit (K : PySem.W.Frag) (c : Cs) : Sp := fun vs H Q _ => ∃ (p dx a : Addr) (ps : List Int) (s : Int), vs = [.ref p, .ref a, .int s] ∧ H p = some (.ins c.table dx []) ∧ (SqL K H a (ps.map V.int) ∨ H a = some (.tup (ps.map V.int))) ∧ AscP ps ∧ 1 ≤ s ∧
  ∀ (t : Addr) (H1 : Hp), Same H H1 → H1 t = some (.tup (ps.map V.int)) → Q .non (upd H1 p (.ins c.table dx (fTable t s)))
def spCombInit (C : Addr) : Sp := fun vs H Q _ => ∃ (p dx u v : Addr), vs = [.ref p, .ref u, .ref v] ∧ H p = some (.ins C dx []) ∧ Q .non (upd H p (.ins C dx (fComb u v)))
section
variable {P : Program} {w : World} {K : PySem.W.Frag} {mg : Str → Option Value} {base : Heap} {c : Cs}
theorem scNL1 : FnScope ["late"] ["late"] (defScope sNeedLate1) := ⟨rfl, rfl, rfl, by decide +kernel, rfl, by decide +kernel, by decide +kernel⟩
theorem ok_nl1 {f : Addr} {fd : FuncData} (B : Bt mg) (D : Df K mg "_need_late" sNeedLate1 ["late"] f fd) : Has P w K mg base CX0 1 "_need_late" ["late"] spNL1 := by
  refine D.has (D.2.1.ok scNL1 (fun vs H Q E h => ?_) (fun cdv A outer s H vs Q E hr h => ?_))
  · obtain ⟨v, rfl, _⟩ := h
    rfl
  obtain ⟨v, rfl, h1, q⟩ := h
  refine ⟨_, pss_one (ps_if (PW.pt (pw_or (pt_val (pe_isB B (pv 0))) (pw_or (pt_not (pt_val (pe_isI B (pv 0)))) (pw_or1 (pt_cmpR op_lt (pv 0) pe_int (nomark _)))))) (pss_one ps_never) pss_nil), ?_⟩
  refine ⟨_, rfl, _, rfl, _, rfl, iteF ?_⟩
  refine ⟨_, rfl, _, rfl, _, rfl, iteF ?_⟩
  refine ⟨_, rfl, _, _, rfl, rfl, _, rfl, ite2 (fun c => ?_) fun _ => q⟩
  have c := of_decide_eq_true c
  omega
theorem scAsc : FnScope ["prices", "at"] ["prices"] (defScope sAsc) := ⟨rfl, rfl, rfl, by decide +kernel, rfl, by decide +kernel, by decide +kernel⟩
theorem ok_asc {f : Addr} {fd : FuncData} (B : Bt mg) (D : Df K mg "_ascending" sAsc ["prices"] f fd) : Has P w K mg base CX0 1 "_ascending" ["prices"] (spAsc K) := by
  refine D.has (D.2.1.ok scAsc (fun vs H Q E h => ?_) (fun cdv A outer s H vs Q E hr h => ?_))
  · obtain ⟨a, ps, rfl, _⟩ := h
    rfl
  obtain ⟨a, ps, rfl, hT, hA, q⟩ := h
  obtain ⟨p1, p2, p3, p4, p5⟩ := hA
  refine ⟨_, pss_cons (ps_if (PW.pt (pw_or (pt_not (pt_truth (pv 0) (by intro _; rfl))) (pw_or1 (pt_cmpR op_lt (pe_ix ix_tup (pv 0) pe_int (fun _ _ => rfl)) pe_int (nomark _))))) (pss_one (ps_ret pe_bl)) pss_nil)
    (pss_cons (ps_for PassesOwn.never rfl (pi_range2 (by rfl) B.range (pa_cons pe_int (pa_cons (pe_callB call_len_seq (by rfl) B.len PySem.boot_len (pa_cons (pv 0) pa_nil)) pa_nil))) (pg_name (i := 1) scAsc.nd rfl (.inl rfl))
      (pss_one (ps_if (pt_cmpR op_le (pe_ix ix_tup (pv 0) (pv 1) (fun _ _ => rfl)) (pe_ix ix_tup (pv 0) (pe_op op_sub (pv 1) pe_int) (fun _ _ => rfl)) (nomark _)) (pss_one (ps_ret pe_bl)) pss_nil)))
    (pss_one (ps_ret pe_bl))), ?_⟩
  have hl : (ps.map V.int).length = ps.length := List.length_map _
  have ne : (!(ps.map V.int).isEmpty) = true := by
    cases ps with
    | nil => simp at p1
    | cons => rfl
  refine ⟨_, rfl, true, .inr (.inl ⟨_, hT, ne.symm⟩), iteF ?_⟩
  refine ⟨_, rfl, a, _, _, _, rfl, rfl, hT, atI_int (by decide) (by omega), _, _, rfl, rfl, _, rfl, ite2 (fun c => ?_) fun _ => ?_⟩
  · have c : ps.getD (0 : Int).toNat 0 < 1 := of_decide_eq_true c
    have e : (0 : Int).toNat = 0 := rfl
    rw [e] at c
    omega
  refine ⟨_, rfl, a, _, rfl, .inr hT, _, _, rfl, (by rw [hl]; omega), for_range (fun i σ H' => H' = H ∧ ∃ v, σ = [some (.ref a), v]) ⟨rfl, none, rfl⟩ ?_ ?_⟩
  · rintro i σ H' hi ⟨rfl, v, rfl⟩
    have hi' : i + 1 < ps.length := by
      rw [hl] at hi
      omega
    refine ⟨_, rfl, _, rfl, a, _, _, _, rfl, rfl, hT, atI_int (by omega) (by omega), _, rfl, _, rfl, _, _, rfl, rfl, a, _, _, _, rfl, rfl, hT, atI_int (by omega) (by omega), _, _, rfl, rfl, _, rfl, ite2 (fun c => ?_) fun _ => ⟨rfl, _, rfl⟩⟩
    have c := of_decide_eq_true c
    have e1 : ((1 : Int) + (i : Int)).toNat = i + 1 := by omega
    have e2 : ((1 : Int) + (i : Int) - 1).toNat = i := by omega
    rw [e1, e2] at c
    have := p4 i hi'
    omega
  · rintro σ H' ⟨rfl, v, rfl⟩
    exact q
theorem scLI : FnScope ["self", "slope", "extra"] ["self", "slope", "extra"] (defScope sLineInit) := ⟨rfl, rfl, rfl, by decide +kernel, rfl, by decide +kernel, by decide +kernel⟩
theorem ok_lineInit {f : Addr} {fd : FuncData} (F : Fun K "__init__" "Line.__init__" sLineInit f fd) (T : Rt K mg c) : FnOk P w K mg base CX0 1 f fd ["self", "slope", "extra"] (spLineInit c) := by
  refine F.ok scLI (fun vs H Q E h => ?_) (fun cdv A outer s H vs Q E hr h => ?_)
  · obtain ⟨p, dx, s, e, rfl, _⟩ := h
    rfl
  obtain ⟨p, dx, s, e, rfl, hp, h1, h2, q⟩ := h
  refine ⟨_, pss_cons (ps_if (PW.pt (pw_or (pt_cmpR op_lt (pv 1) pe_int (nomark _)) (pw_or1 (pt_cmpR op_lt (pe_op op_add (pv 1) (pv 2)) pe_int (nomark _))))) (pss_one ps_never) pss_nil)
    (pss_cons (ps_fld (pv 0) (pv 1) rfl) (pss_one (ps_fld (pv 0) (pv 2) rfl))), ?_⟩
  refine ⟨_, rfl, _, _, rfl, rfl, _, rfl, ite2 (fun c => ?_) fun _ => ⟨_, rfl, _, rfl, _, _, rfl, rfl, _, _, rfl, rfl, _, rfl, ite2 (fun c => ?_) fun _ => ?_⟩⟩
  · have c := of_decide_eq_true c
    omega
  · have c := of_decide_eq_true c
    omega
  refine ⟨_, rfl, _, rfl, p, _, dx, _, rfl, hp, T.clL, T.nLs, put0, ?_⟩
  refine ⟨_, rfl, _, rfl, p, _, dx, _, rfl, upd_same, T.clL, T.nLe, put1 _ _, ?_⟩
  rw [upd_upd]
  exact q
theorem scLC : FnScope ["self", "late"] ["self", "late"] (defScope sLineCall) := ⟨rfl, rfl, rfl, by decide +kernel, rfl, by decide +kernel, by decide +kernel⟩
def spCallOf (c : Cs) (m : Mdl → Prop) : Sp := fun vs H Q _ => ∃ (a : Addr) (x : Mdl) (t : Int), vs = [.ref a, .int t] ∧ m x ∧ RuleAt c H a x ∧ Ok x ∧ 1 ≤ t ∧ Q (.int (price x t)) H
theorem ok_lineCall {f : Addr} {fd : FuncData} (F : Fun K "__call__" "Line.__call__" sLineCall f fd) (T : Rt K mg c) (N : Has P w K mg base CX0 1 "_need_late" ["late"] spNL1) :
    FnOk P w K mg base CX0 2 f fd ["self", "late"] (spCallOf c fun x => ∃ s e, x = .line s e) := by
  refine F.ok scLC (fun vs H Q E h => ?_) (fun cdv A outer s H vs Q E hr h => ?_)
  · obtain ⟨a, x, t, rfl, _⟩ := h
    rfl
  obtain ⟨a, x, t, rfl, ⟨s, e, rfl⟩, ⟨dx, ha⟩, ⟨o1, o2, o3, o4⟩, h1, q⟩ := h
  refine ⟨_, pss_cons (ps_expr (pe_has N hr (pa_cons (pv 1) pa_nil))) (pss_one (ps_ret (pe_op op_add (pe_op op_mul (pe_fld (pv 0) rfl) (pv 1)) (pe_fld (pv 0) rfl)))), ?_⟩
  refine ⟨_, rfl, t, rfl, h1, ?_⟩
  refine ⟨_, rfl, a, _, dx, _, _, rfl, ha, T.clL, T.nLs, fLine_slope _ _, _, rfl, _, _, rfl, rfl, .inl ⟨by omega, by omega⟩, _, rfl, a, _, dx, _, _, rfl, ha, T.clL, T.nLe, fLine_extra _ _, _, _, rfl, rfl, q⟩
theorem scTI : FnScope ["self", "prices", "slope", "row"] ["self", "prices", "slope"] (defScope sTableInit) := ⟨rfl, rfl, rfl, by decide +kernel, rfl, by decide +kernel, by decide +kernel⟩
theorem ok_tableInit {f : Addr} {fd : FuncData} (B : Bt mg) (F : Fun K "__init__" "Table.__init__" sTableInit f fd) (T : Rt K mg c) (N : Has P w K mg base CX0 1 "_ascending" ["prices"] (spAsc K)) :
    FnOk P w K mg base CX0 2 f fd ["self", "prices", "slope"] (spTableInit K c) := by
  refine F.ok scTI (fun vs H Q E h => ?_) (fun cdv A outer s H vs Q E hr h => ?_)
  · obtain ⟨p, dx, a, ps, s, rfl, _⟩ := h
    rfl
  obtain ⟨p, dx, a, ps, s, rfl, hp, ha, hA, h1, q⟩ := h
  refine ⟨_, pss_cons (ps_set (i := 3) scTI.nd rfl (.inl rfl) (pe_callTy call_tuple_of (by rfl) B.tuple (by decide +kernel) (pa_cons (pv 1) pa_nil)))
    (pss_cons (ps_if (pt_not (pt_val (pe_has N hr (pa_cons (pv 3) pa_nil)))) (pss_one ps_never) pss_nil)
    (pss_cons (ps_if (pt_cmpR op_lt (pv 2) pe_int (nomark _)) (pss_one ps_never) pss_nil)
    (pss_cons (ps_fld (pv 0) (pv 3) rfl) (pss_one (ps_fld (pv 0) (pv 2) rfl))))), ?_⟩
  refine ⟨_, rfl, a, ps.map V.int, rfl, ?_⟩
  have step : ∀ (t : Addr) (H1 : Hp), Same H H1 → H1 t = some (.tup (ps.map V.int)) → tSeq (tIfS (tNot (tB (tCall (spAsc K) [] E0 (tCons (tVar 3) tNil)))) tNever tNext)
      (tSeq (tIfS (tTest (tOp (rI0 fun i j => .bl (decide (i < j))) (tVar 2) (tC (.int 1)))) tNever tNext) (tSeq (sFld K (tVar 0) (tVar 3) "prices") (sFld K (tVar 0) (tVar 2) "slope"))) { nx := fun _ H' => Q .non H', rt := Q } [some (.ref p), some (.ref a), some (.int s), some (.ref t)] H1 := by
    intro t H1 s1 ht
    refine ⟨_, rfl, t, ps, rfl, .of ht, hA, _, rfl, iteF ?_⟩
    refine ⟨_, rfl, _, _, rfl, rfl, _, rfl, ite2 (fun c => ?_) fun _ => ?_⟩
    · have c := of_decide_eq_true c
      omega
    refine ⟨_, rfl, _, rfl, p, _, dx, _, rfl, s1 _ _ hp, T.clT, T.nTp, put0, ?_⟩
    refine ⟨_, rfl, _, rfl, p, _, dx, _, rfl, upd_same, T.clT, T.nTs, put1 _ _, ?_⟩
    rw [upd_upd]
    exact q t H1 s1 ht
  rcases ha with ha | ha
  · exact .inl ⟨ha, fun l hl => step l _ (same_new hl _) upd_same⟩
  · exact .inr ⟨.of ha, step a H (Same.refl H) ha⟩
theorem scTC : FnScope ["self", "late", "size"] ["self", "late"] (defScope sTableCall) := ⟨rfl, rfl, rfl, by decide +kernel, rfl, by decide +kernel, by decide +kernel⟩
theorem ok_tableCall {f : Addr} {fd : FuncData} (B : Bt mg) (F : Fun K "__call__" "Table.__call__" sTableCall f fd) (T : Rt K mg c) (N : Has P w K mg base CX0 1 "_need_late" ["late"] spNL1) :
    FnOk P w K mg base CX0 2 f fd ["self", "late"] (spCallOf c fun x => ∃ ps s fl, x = .table ps s fl) := by
  refine F.ok scTC (fun vs H Q E h => ?_) (fun cdv A outer s H vs Q E hr h => ?_)
  · obtain ⟨a, x, t, rfl, _⟩ := h
    rfl
  obtain ⟨a, x, t, rfl, ⟨ps, s, fl, rfl⟩, ⟨dx, u, ha, hu⟩, ⟨⟨p1, p2, p3, p4, p5⟩, o2, o3, _⟩, h1, q⟩ := h
  refine ⟨_, pss_cons (ps_expr (pe_has N hr (pa_cons (pv 1) pa_nil)))
    (pss_cons (ps_set (i := 2) scTC.nd rfl (.inl rfl) (pe_callB call_len_seq (by rfl) B.len PySem.boot_len (pa_cons (pe_fld (pv 0) rfl) pa_nil)))
    (pss_cons (ps_if (pt_cmpR op_le (pv 1) (pv 2) (nomark _)) (pss_one (ps_ret (pe_ix ix_tup (pe_fld (pv 0) rfl) (pe_op op_sub (pv 1) pe_int) (fun _ _ => rfl)))) pss_nil)
    (pss_one (ps_ret (pe_op op_add (pe_ix ix_tup (pe_fld (pv 0) rfl) (pe_op op_sub (pv 2) pe_int) (fun _ _ => rfl)) (pe_op op_mul (pe_fld (pv 0) rfl) (pe_op op_sub (pv 1) (pv 2)))))))), ?_⟩
  have hl : (ps.map V.int).length = ps.length := List.length_map _
  refine ⟨_, rfl, t, rfl, h1, ?_⟩
  refine ⟨_, rfl, a, _, dx, _, _, rfl, ha, T.clT, T.nTp, fTable_prices _ _, u, _, rfl, .inr (.of hu), ?_⟩
  refine ⟨_, rfl, _, rfl, _, _, rfl, rfl, _, rfl, ite2 (fun c => ?_) fun c => ?_⟩
  · have c : t ≤ (((ps.map V.int).length : Nat) : Int) := of_decide_eq_true c
    rw [hl] at c
    refine ⟨_, rfl, a, _, dx, _, _, rfl, ha, T.clT, T.nTp, fTable_prices _ _, _, rfl, _, _, rfl, rfl, u, _, _, _, rfl, rfl, .of hu, atI_int (by omega) (by omega), ?_⟩
    have e : price (.table ps s fl) t = ps.getD (t - 1).toNat 0 := if_pos c
    rw [e] at q
    exact q
  · have c : ¬ t ≤ (((ps.map V.int).length : Nat) : Int) := of_decide_eq_false (Bool.eq_false_iff.mpr c)
    rw [hl] at c
    refine ⟨_, rfl, a, _, dx, _, _, rfl, ha, T.clT, T.nTp, fTable_prices _ _, _, rfl, _, _, rfl, rfl, u, _, _, _, rfl, rfl, .of hu, atI_int (by rw [hl]; omega) (by rw [hl]; omega), ?_⟩
    refine ⟨_, rfl, a, _, dx, _, _, rfl, ha, T.clT, T.nTs, fTable_slope _ _, _, rfl, _, rfl, _, _, rfl, rfl, _, _, rfl, rfl, .inl ⟨by omega, by omega⟩, _, _, rfl, rfl, ?_⟩
    have e : price (.table ps s fl) t = ps.getD (ps.length - 1) 0 + s * (t - (ps.length : Int)) := if_neg c
    rw [e] at q
    have e2 : ((((ps.map V.int).length : Nat) : Int) - 1).toNat = ps.length - 1 := by omega
    rw [e2, hl]
    exact q
theorem scSI : FnScope ["self", "one", "other"] ["self", "one", "other"] (defScope sLessInit) := ⟨rfl, rfl, rfl, by decide +kernel, rfl, by decide +kernel, by decide +kernel⟩
theorem ok_lessInit {f : Addr} {fd : FuncData} (F : Fun K "__init__" "Lesser.__init__" sLessInit f fd) (T : Rt K mg c) : FnOk P w K mg base CX0 1 f fd ["self", "one", "other"] (spCombInit c.less) := by
  refine F.ok scSI (fun vs H Q E h => ?_) (fun cdv A outer s H vs Q E hr h => ?_)
  · obtain ⟨p, dx, u, v, rfl, _⟩ := h
    rfl
  obtain ⟨p, dx, u, v, rfl, hp, q⟩ := h
  refine ⟨_, pss_cons (ps_fld (pv 0) (pv 1) rfl) (pss_one (ps_fld (pv 0) (pv 2) rfl)), ?_⟩
  refine ⟨_, rfl, _, rfl, p, _, dx, _, rfl, hp, T.clS, T.nS1, put0, ?_⟩
  refine ⟨_, rfl, _, rfl, p, _, dx, _, rfl, upd_same, T.clS, T.nS2, put1 _ _, ?_⟩
  rw [upd_upd]
  exact q
theorem scGI : FnScope ["self", "one", "other"] ["self", "one", "other"] (defScope sGrtInit) := ⟨rfl, rfl, rfl, by decide +kernel, rfl, by decide +kernel, by decide +kernel⟩
theorem ok_grtInit {f : Addr} {fd : FuncData} (F : Fun K "__init__" "Greater.__init__" sGrtInit f fd) (T : Rt K mg c) : FnOk P w K mg base CX0 1 f fd ["self", "one", "other"] (spCombInit c.grt) := by
  refine F.ok scGI (fun vs H Q E h => ?_) (fun cdv A outer s H vs Q E hr h => ?_)
  · obtain ⟨p, dx, u, v, rfl, _⟩ := h
    rfl
  obtain ⟨p, dx, u, v, rfl, hp, q⟩ := h
  refine ⟨_, pss_cons (ps_fld (pv 0) (pv 1) rfl) (pss_one (ps_fld (pv 0) (pv 2) rfl)), ?_⟩
  refine ⟨_, rfl, _, rfl, p, _, dx, _, rfl, hp, T.clG, T.nG1, put0, ?_⟩
  refine ⟨_, rfl, _, rfl, p, _, dx, _, rfl, upd_same, T.clG, T.nG2, put1 _ _, ?_⟩
  rw [upd_upd]
  exact q
theorem scSC : FnScope ["self", "late"] ["self", "late"] (defScope sLessCall) := ⟨rfl, rfl, rfl, by decide +kernel, rfl, by decide +kernel, by decide +kernel⟩
theorem ok_lessCall {f : Addr} {fd : FuncData} {d k : Nat} (B : Bt mg) (F : Fun K "__call__" "Lesser.__call__" sLessCall f fd) (T : Rt K mg c) (R : RuleOk P w K mg base c d k) :
    FnOk P w K mg base CX0 (k + 1) f fd ["self", "late"] (spCallOf c fun x => ∃ m n fl, x = .comb false m n fl ∧ deep m ≤ d ∧ deep n ≤ d) := by
  refine F.ok scSC (fun vs H Q E h => ?_) (fun cdv A outer s H vs Q E hr h => ?_)
  · obtain ⟨a, x, t, rfl, _⟩ := h
    rfl
  obtain ⟨a, x, t, rfl, ⟨m, n, fl, rfl, dm, dn⟩, ⟨dx, u, v, ha, hu, hv⟩, ⟨om, on, _⟩, h1, q⟩ := h
  refine ⟨_, pss_one (ps_ret (pe_callB (call_min2 rfl) (by rfl) B.min (by decide +kernel) (pa_cons (pe_fldRule R hr (pv 0) (pa_cons (pv 1) pa_nil)) (pa_cons (pe_fldRule R hr (pv 0) (pa_cons (pv 1) pa_nil)) pa_nil)))), ?_⟩
  refine ⟨_, rfl, a, _, dx, _, u, rfl, ha, T.clS, T.nS1, fComb_one _ _, _, rfl, m, t, rfl, hu, om, dm, h1, ?_⟩
  refine ⟨_, rfl, a, _, dx, _, v, rfl, ha, T.clS, T.nS2, fComb_other _ _, _, rfl, n, t, rfl, hv, on, dn, h1, ?_⟩
  exact ⟨_, _, rfl, q⟩
theorem scGC : FnScope ["self", "late"] ["self", "late"] (defScope sGrtCall) := ⟨rfl, rfl, rfl, by decide +kernel, rfl, by decide +kernel, by decide +kernel⟩
theorem ok_grtCall {f : Addr} {fd : FuncData} {d k : Nat} (B : Bt mg) (F : Fun K "__call__" "Greater.__call__" sGrtCall f fd) (T : Rt K mg c) (R : RuleOk P w K mg base c d k) :
    FnOk P w K mg base CX0 (k + 1) f fd ["self", "late"] (spCallOf c fun x => ∃ m n fl, x = .comb true m n fl ∧ deep m ≤ d ∧ deep n ≤ d) := by
  refine F.ok scGC (fun vs H Q E h => ?_) (fun cdv A outer s H vs Q E hr h => ?_)
  · obtain ⟨a, x, t, rfl, _⟩ := h
    rfl
  obtain ⟨a, x, t, rfl, ⟨m, n, fl, rfl, dm, dn⟩, ⟨dx, u, v, ha, hu, hv⟩, ⟨om, on, _⟩, h1, q⟩ := h
  refine ⟨_, pss_one (ps_ret (pe_callB (call_max2 rfl) (by rfl) B.max (by decide +kernel) (pa_cons (pe_fldRule R hr (pv 0) (pa_cons (pv 1) pa_nil)) (pa_cons (pe_fldRule R hr (pv 0) (pa_cons (pv 1) pa_nil)) pa_nil)))), ?_⟩
  refine ⟨_, rfl, a, _, dx, _, u, rfl, ha, T.clG, T.nG1, fComb_one _ _, _, rfl, m, t, rfl, hu, om, dm, h1, ?_⟩
  refine ⟨_, rfl, a, _, dx, _, v, rfl, ha, T.clG, T.nG2, fComb_other _ _, _, rfl, n, t, rfl, hv, on, dn, h1, ?_⟩
  exact ⟨_, _, rfl, q⟩
/-- where the four __call__ stand -/
structure Calls (K : PySem.W.Frag) (c : Cs) (gL gT gS gG : Addr) (dL dT dS dG : FuncData) : Prop where
  oL : StX.CallO K c.line gL
  fL : Fun K "__call__" "Line.__call__" sLineCall gL dL
  bL : Binds K dL ["self", "late"] []
  oT : StX.CallO K c.table gT
  fT : Fun K "__call__" "Table.__call__" sTableCall gT dT
  bT : Binds K dT ["self", "late"] []
  oS : StX.CallO K c.less gS
  fS : Fun K "__call__" "Lesser.__call__" sLessCall gS dS
  bS : Binds K dS ["self", "late"] []
  oG : StX.CallO K c.grt gG
  fG : Fun K "__call__" "Greater.__call__" sGrtCall gG dG
  bG : Binds K dG ["self", "late"] []
theorem raw_of {f : Addr} {fd : FuncData} {k : Nat} {p : Mdl → Prop} {a : Addr} {m : Mdl} (F : FnOk P w K mg base CX0 k f fd ["self", "late"] (spCallOf c p)) (b : Binds K fd ["self", "late"] []) (hm : p m) : FnR P w K mg base CX0 k f (spRC c a m) := by
  refine (F.raw b .nil).imp fun vs H Q E h => ?_
  obtain ⟨t, rfl, h1, h2, h3, q⟩ := h
  exact ⟨a, m, t, rfl, hm, h1, h2, h3, q⟩
theorem rule_ok {gL gT gS gG : Addr} {dL dT dS dG : FuncData} (B : Bt mg) (T : Rt K mg c) (N : Has P w K mg base CX0 1 "_need_late" ["late"] spNL1) (C : Calls K c gL gT gS gG dL dT dS dG) : ∀ d, RuleOk P w K mg base c d (d + 2)
  | 0 => by
    intro H a m h hd
    match m, h with
    | .line s e, ⟨dx, h⟩ => exact ⟨_, dx, _, gL, h, C.oL, raw_of (ok_lineCall C.fL T N) C.bL ⟨s, e, rfl⟩⟩
    | .table ps s fl, ⟨dx, u, h, _⟩ => exact ⟨_, dx, _, gT, h, C.oT, raw_of (ok_tableCall B C.fT T N) C.bT ⟨ps, s, fl, rfl⟩⟩
    | .comb g x y fl, _ => simp [deep] at hd
  | d + 1 => by
    intro H a m h hd
    have ih := rule_ok B T N C d
    match m, h with
    | .line s e, ⟨dx, h⟩ => exact ⟨_, dx, _, gL, h, C.oL, (raw_of (ok_lineCall C.fL T N) C.bL ⟨s, e, rfl⟩).mono (by omega)⟩
    | .table ps s fl, ⟨dx, u, h, _⟩ => exact ⟨_, dx, _, gT, h, C.oT, (raw_of (ok_tableCall B C.fT T N) C.bT ⟨ps, s, fl, rfl⟩).mono (by omega)⟩
    | .comb true x y fl, ⟨dx, u, v, h, _⟩ =>
      have z : deep x ≤ d ∧ deep y ≤ d := by
        simp only [deep] at hd
        split at hd <;> omega
      exact ⟨_, dx, _, gG, h, C.oG, raw_of (ok_grtCall B C.fG T ih) C.bG ⟨x, y, fl, rfl, z.1, z.2⟩⟩
    | .comb false x y fl, ⟨dx, u, v, h, _⟩ =>
      have z : deep x ≤ d ∧ deep y ≤ d := by
        simp only [deep] at hd
        split at hd <;> omega
      exact ⟨_, dx, _, gS, h, C.oS, raw_of (ok_lessCall B C.fS T ih) C.bS ⟨x, y, fl, rfl, z.1, z.2⟩⟩
end
end Lr

namespace Lr
open PySem L2
/-! ### sequences as lists -/
def sq (g : Nat → V) (n : Nat) : List V := (List.range n).map g
theorem sq_len (g : Nat → V) (n : Nat) : (sq g n).length = n := by unfold sq; rw [List.length_map, List.length_range]
theorem sq_get {g : Nat → V} {n k : Nat} (h : k < n) : (sq g n)[k]? = some (g k) := by
  unfold sq
  rw [List.getElem?_map, List.getElem?_range h]
  rfl
theorem sq_succ (g : Nat → V) (n : Nat) : sq g (n + 1) = sq g n ++ [g n] := by
  unfold sq
  rw [List.range_succ, List.map_append]
  rfl
theorem sq_at {g : Nat → V} {n k : Nat} {i : Int} (h : k < n) (e : i = (k : Int)) : atI (sq g n) i = some (g k) := by
  rw [e]
  exact atI_nat (sq_get h)
theorem sq_back {g : Nat → V} {n k : Nat} {i : Int} (h1 : 1 ≤ k) (h : k ≤ n) (e : i = -(k : Int)) : atI (sq g n) i = some (g (n - k)) :=
  atI_neg (k := k) h1 (by rw [sq_len]; exact h) (by rw [sq_len]; exact sq_get (by omega)) e
theorem cut_all {xs : List V} {i : Int} (e : i = (xs.length : Int)) : cutV xs none (some i) = xs := by
  unfold cutV
  rw [e, HT.sIx_none, HT.sIx_nat, List.drop_zero, Nat.min_self, Nat.sub_zero, List.take_length]
abbrev lims (f : Int → Int) (n : Nat) : List V := sq (fun k => V.int (lim f k)) n
abbrev reachs (f : Int → Int) (n : Nat) : List V := sq (fun k => V.int (reach f k)) n
def row3 (f : Int → Int) (k : Nat) : List V := [.int (reach f k), .int (len f k), .int (rep f k)]
/-- a list of the levels' rows -/
def RowsAt (H : Hp) (f : Int → Int) (n : Nat) (rs : List V) : Prop := rs.length = n ∧ ∀ k, k < n → ∃ p, rs[k]? = some (.ref p) ∧ H p = some (.tup (row3 f k))
theorem RowsAt.nl {H H' : Hp} {f : Int → Int} {n : Nat} {rs : List V} (h : RowsAt H f n rs) (s : NL H H') : RowsAt H' f n rs := ⟨h.1, fun k hk => by
  obtain ⟨p, e, t⟩ := h.2 k hk
  exact ⟨p, e, s _ _ t fun _ z => by cases z⟩⟩
theorem RowsAt.add {H : Hp} {f : Int → Int} {n : Nat} {rs : List V} {p : Addr} (h : RowsAt H f n rs) (t : H p = some (.tup (row3 f n))) : RowsAt H f (n + 1) (rs ++ [.ref p]) := by
  obtain ⟨l, h⟩ := h
  refine ⟨by rw [List.length_append, l]; rfl, fun k hk => ?_⟩
  by_cases e : k = n
  · subst e
    exact ⟨p, by rw [List.getElem?_append_right (by omega), l, Nat.sub_self]; rfl, t⟩
  · obtain ⟨q, a, b⟩ := h k (by omega)
    exact ⟨q, by rw [List.getElem?_append_left (by omega)]; exact a, b⟩
theorem same_mut {H H' : Hp} {p : Addr} {o : HO} (e : Same H H') (h : H p = none) : Same H (upd H' p o) := fun a u ha => by
  rw [upd_ne (ne_of_none ha h)]
  exact e a u ha
abbrev sLimits : Stmt := top 13
abbrev sReachTable : Stmt := top 14
def spLimits (c : Cs) (d : Nat) : Sp := fun vs H Q _ => ∃ (a : Addr) (m : Mdl), vs = [.ref a, .int 64] ∧ RuleAt c H a m ∧ Ok m ∧ deep m ≤ d ∧ ∀ (p : Addr) (H' : Hp), Same H H' → H' p = some (.lst (lims (price m) 65)) → Q (.ref p) H'
def spTable (c : Cs) (d : Nat) : Sp := fun vs H Q _ => ∃ (a : Addr) (m : Mdl), vs = [.ref a, .int 64] ∧ RuleAt c H a m ∧ Ok m ∧ deep m ≤ d ∧ ∀ (p : Addr) (H' : Hp) (rs : List V), Same H H' → H' p = some (.lst rs) → RowsAt H' (price m) 65 rs → Q (.ref p) H'
section
variable {P : Program} {w : World} {K : PySem.W.Frag} {mg : Str → Option Value} {base : Heap} {c : Cs}
theorem scLim : FnScope ["rule", "level", "found", "before"] ["rule", "level"] (defScope sLimits) := ⟨rfl, rfl, rfl, by decide +kernel, rfl, by decide +kernel, by decide +kernel⟩
theorem ok_limits {f : Addr} {fd : FuncData} {d k : Nat} (B : Bt mg) (R : RuleOk P w K mg base c d k) (D : Df K mg "limits" sLimits ["rule", "level"] f fd) : Has P w K mg base CX0 (k + 1) "limits" ["rule", "level"] (spLimits c d) := by
  refine D.has (D.2.1.ok scLim (fun vs H Q E h => ?_) (fun cdv A outer s H vs Q E hr h => ?_))
  · obtain ⟨a, m, rfl, _⟩ := h
    rfl
  obtain ⟨a, m, rfl, ha, ok, hd, q⟩ := h
  have G := good_price ok
  refine ⟨_, pss_cons (ps_set (i := 2) scLim.nd rfl (.inl rfl) (pe_lst (pa_cons pe_int (pa_cons pe_int pa_nil))))
    (pss_cons (ps_while PassesOwn.never (pt_cmpR op_le (pe_callB call_len_seq (by rfl) B.len PySem.boot_len (pa_cons (pv 2) pa_nil)) (pv 1) (nomark _))
      (pss_cons (ps_set (i := 3) scLim.nd rfl (.inl rfl) (pe_ix ix_list (pv 2) (pe_un un_neg pe_int) (fun _ _ => rfl)))
      (pss_one (ps_expr (pe_bm PySem.F.plainAttrs_list PySem.F.slot_list_append PySem.F.type_list_append mt_append (pv 2) (pa_cons (pe_op op_sub (pe_op op_add (pe_rule R hr (pv 0) (pa_cons (pe_op op_add (pv 3) pe_int) pa_nil)) (pe_ix ix_list (pv 2) (pe_un un_neg pe_int) (fun _ _ => rfl))) (pv 3)) pa_nil))))))
    (pss_one (ps_ret (pe_slice sl_list (pv 2) po_none (po_some (pe_op op_add (pv 1) pe_int)))))), ?_⟩
  refine ⟨(by show 2 ≤ sizeLine; decide), fun p hp => ?_⟩
  refine ⟨fun n σ H' => n + 0 = n ∧ ∃ (j : Nat) (v : Option V), n = 65 - j ∧ 2 ≤ j ∧ j ≤ 65 ∧ σ = [some (.ref a), some (.int 64), some (.ref p), v] ∧ Same H H' ∧ H' p = some (.lst (lims (price m) j)), ⟨63, rfl, 2, none, rfl, by decide, by decide, rfl, same_new hp _, upd_same⟩, ?_⟩
  rintro n σ H' ⟨-, j, v, rfl, j2, j65, rfl, s1, hL⟩
  refine ⟨_, rfl, p, _, rfl, .inl (.of hL), _, rfl, _, _, rfl, rfl, _, rfl, ?_⟩
  have hl : (lims (price m) j).length = j := sq_len _ _
  refine ite2 (fun cc => ?_) (fun cc => ?_)
  · have cc : (((lims (price m) j).length : Nat) : Int) ≤ 64 := of_decide_eq_true cc
    rw [hl] at cc
    refine ⟨fun σ' H2 => ∃ v', σ' = [some (.ref a), some (.int 64), some (.ref p), v'] ∧ Same H H2 ∧ H2 p = some (.lst (lims (price m) (j + 1))), fun σ' H2 ⟨v', e, s2, h2⟩ => ⟨65 - (j + 1), by omega, rfl, j + 1, v', rfl, by omega, by omega, e, s2, h2⟩, ?_⟩
    refine ⟨_, rfl, 2, rfl, p, _, _, _, rfl, rfl, .of hL, sq_back (k := 2) (by decide) j2 (by decide), ?_⟩
    refine ⟨_, rfl, .inl ⟨rfl, _, .inl (.inl hL)⟩, ?_⟩
    have n0 := lim_nn G (j - 2)
    refine ⟨_, rfl, a, rfl, _, rfl, _, _, rfl, rfl, m, _, rfl, ha.same s1, ok, hd, by omega, ?_⟩
    refine ⟨_, rfl, 1, rfl, p, _, _, _, rfl, rfl, .of hL, sq_back (k := 1) (by decide) (by omega) (by decide), _, _, rfl, rfl, _, rfl, _, _, rfl, rfl, ?_⟩
    refine ⟨p, _, _, rfl, rfl, hL, small1000 (by rw [hl]; omega), _, rfl, same_mut s1 hp, ?_⟩
    have e : lim (price m) j = price m (lim (price m) (j - 2) + 1) + lim (price m) (j - 1) - lim (price m) (j - 2) := by
      have z := lim_step (price m) (j - 2)
      rw [show j - 2 + 2 = j from by omega, show j - 2 + 1 = j - 1 from by omega] at z
      exact z
    have z : lims (price m) (j + 1) = lims (price m) j ++ [V.int (price m (lim (price m) (j - 2) + 1) + lim (price m) (j - 1) - lim (price m) (j - 2))] := by
      rw [← e]
      exact sq_succ _ _
    rw [z]
    exact upd_same
  · have cc : ¬ (((lims (price m) j).length : Nat) : Int) ≤ 64 := of_decide_eq_false (Bool.eq_false_iff.mpr cc)
    rw [hl] at cc
    have e : j = 65 := by omega
    subst e
    refine ⟨_, rfl, _, rfl, _, _, rfl, rfl, _, rfl, p, _, rfl, .of hL, fun l hl' => ?_⟩
    refine q l _ (s1.trans (same_new hl' _)) ?_
    rw [upd_same, cut_all (by rw [sq_len]; rfl)]
theorem scTab : FnScope ["rule", "level", "price", "rows", "inner_reach", "inner_length", "_", "outer_reach", "outer_length", "room", "times", "size"] ["rule", "level"] (defScope sReachTable) := ⟨rfl, rfl, rfl, by decide +kernel, rfl, by decide +kernel, by decide +kernel⟩
theorem ok_table {f : Addr} {fd : FuncData} {d k : Nat} (B : Bt mg) (R : RuleOk P w K mg base c d k) (D : Df K mg "reach_table" sReachTable ["rule", "level"] f fd) : Has P w K mg base CX0 (k + 1) "reach_table" ["rule", "level"] (spTable c d) := by
  refine D.has (D.2.1.ok scTab (fun vs H Q E h => ?_) (fun cdv A outer s H vs Q E hr h => ?_))
  · obtain ⟨a, m, rfl, _⟩ := h
    rfl
  obtain ⟨a, m, rfl, ha, ok, hd, q⟩ := h
  have G := good_price ok
  refine ⟨_, pss_cons (ps_set (i := 2) scTab.nd rfl (.inl rfl) (pe_rule R hr (pv 0) (pa_cons pe_int pa_nil)))
    (pss_cons (ps_set (i := 3) scTab.nd rfl (.inl rfl) (pe_lst (pa_cons (pe_tup (pa_cons pe_int (pa_cons pe_int (pa_cons pe_int pa_nil)))) (pa_cons (pe_tup (pa_cons pe_int (pa_cons pe_int (pa_cons pe_int pa_nil))))
      (pa_cons (pe_tup (pa_cons (pe_op op_add pe_int (pv 2)) (pa_cons (pv 2) (pa_cons pe_int pa_nil)))) pa_nil)))))
    (pss_cons (ps_while PassesOwn.never (pt_cmpR op_le (pe_callB call_len_seq (by rfl) B.len PySem.boot_len (pa_cons (pv 3) pa_nil)) (pv 1) (nomark _))
      (pss_cons (ps_asg (pe_ix ix_list (pv 3) (pe_un un_neg pe_int) (fun _ _ => rfl)) (pg_tup rfl (pgs_cons (pg_name (i := 4) scTab.nd rfl (.inl rfl)) (pgs_cons (pg_name (i := 5) scTab.nd rfl (.inl rfl)) (pgs_cons (pg_name (i := 6) scTab.nd rfl (.inl rfl)) pgs_nil)))))
      (pss_cons (ps_asg (pe_ix ix_list (pv 3) (pe_un un_neg pe_int) (fun _ _ => rfl)) (pg_tup rfl (pgs_cons (pg_name (i := 7) scTab.nd rfl (.inl rfl)) (pgs_cons (pg_name (i := 8) scTab.nd rfl (.inl rfl)) (pgs_cons (pg_name (i := 6) scTab.nd rfl (.inl rfl)) pgs_nil)))))
      (pss_cons (ps_set (i := 9) scTab.nd rfl (.inl rfl) (pe_op op_sub (pe_op op_sub (pe_rule R hr (pv 0) (pa_cons (pe_op op_add (pv 4) pe_int) pa_nil)) (pv 4)) (pv 8)))
      (pss_cons (ps_set (i := 10) scTab.nd rfl (.inl rfl) (pe_op op_fdivW (pv 9) (pv 5)))
      (pss_cons (ps_set (i := 11) scTab.nd rfl (.inl rfl) (pe_op op_add (pe_op op_mulW (pv 10) (pv 5)) (pv 8)))
      (pss_one (ps_expr (pe_bm PySem.F.plainAttrs_list PySem.F.slot_list_append PySem.F.type_list_append mt_append (pv 3) (pa_cons (pe_tup (pa_cons (pe_op op_add (pv 7) (pv 11)) (pa_cons (pv 11) (pa_cons (pv 10) pa_nil)))) pa_nil))))))))))
    (pss_one (ps_ret (pe_slice sl_list (pv 3) po_none (po_some (pe_op op_add (pv 1) pe_int))))))), ?_⟩
  refine ⟨_, rfl, a, rfl, m, 1, rfl, ha, ok, hd, by decide, ?_⟩
  refine ⟨(by show 3 ≤ sizeLine; decide), fun p0 h0 => ?_⟩
  refine ⟨(by show 3 ≤ sizeLine; decide), fun p1 h1 => ?_⟩
  refine ⟨_, rfl, _, _, rfl, rfl, _, rfl, (by show 3 ≤ sizeLine; decide), fun p2 h2 => ?_⟩
  refine ⟨(by show 3 ≤ sizeLine; decide), fun p hp => ?_⟩
  have s0 : Same H (upd H p0 (.tup [.int 0, .int 0, .int 0])) := same_new h0 _
  have s1 : Same H _ := s0.trans (same_new h1 (.tup [.int 1, .int 1, .int 0]))
  have s2 : Same H _ := s1.trans (same_new h2 (.tup [.int (1 + price m 1), .int (price m 1), .int 0]))
  have s3 : Same H _ := s2.trans (same_new hp (.lst [.ref p0, .ref p1, .ref p2]))
  have hpH : H p = none := s2.free hp
  refine ⟨fun n σ H' => ∃ (j : Nat) (v4 v5 v6 v7 v8 v9 v10 v11 : Option V) (rs : List V), n = 65 - j ∧ 3 ≤ j ∧ j ≤ 65 ∧ σ = [some (.ref a), some (.int 64), some (.int (price m 1)), some (.ref p), v4, v5, v6, v7, v8, v9, v10, v11] ∧ Same H H' ∧ H' p = some (.lst rs) ∧ RowsAt H' (price m) j rs,
    ⟨62, 3, none, none, none, none, none, none, none, none, _, rfl, by decide, by decide, rfl, s3, upd_same, rfl, fun k hk => ?_⟩, ?_⟩
  · have a3 := same_new hp (.lst [.ref p0, .ref p1, .ref p2])
    have a2 := same_new h2 (.tup [.int (1 + price m 1), .int (price m 1), .int 0])
    have a1 := same_new h1 (.tup [.int 1, .int 1, .int 0])
    match k, hk with
    | 0, _ => exact ⟨p0, rfl, a3 _ _ (a2 _ _ (a1 _ _ upd_same))⟩
    | 1, _ => exact ⟨p1, rfl, a3 _ _ (a2 _ _ upd_same)⟩
    | 2, _ => exact ⟨p2, rfl, a3 _ _ upd_same⟩
    | k + 3, hk => omega
  rintro n σ H' ⟨j, v4, v5, v6, v7, v8, v9, v10, v11, rs, rfl, j3, j65, rfl, sH, hL, hR⟩
  obtain ⟨hl, hR'⟩ := id hR
  refine ⟨_, rfl, p, _, rfl, .inl (.of hL), _, rfl, _, _, rfl, rfl, _, rfl, ?_⟩
  refine ite2 (fun cc => ?_) (fun cc => ?_)
  · have cc : ((rs.length : Nat) : Int) ≤ 64 := of_decide_eq_true cc
    rw [hl] at cc
    obtain ⟨i, rfl⟩ : ∃ i, j = i + 3 := ⟨j - 3, by omega⟩
    obtain ⟨pi, gi, ti⟩ := hR' (i + 1) (by omega)
    obtain ⟨po, go, to⟩ := hR' (i + 2) (by omega)
    refine ⟨fun σ' H2 => ∃ (v4 v5 v6 v7 v8 v9 v10 v11 : Option V) (rs2 : List V), σ' = [some (.ref a), some (.int 64), some (.int (price m 1)), some (.ref p), v4, v5, v6, v7, v8, v9, v10, v11] ∧ Same H H2 ∧ H2 p = some (.lst rs2) ∧ RowsAt H2 (price m) (i + 4) rs2,
      fun σ' H2 ⟨v4, v5, v6, v7, v8, v9, v10, v11, rs2, e, z1, z2, z3⟩ => ⟨65 - (i + 4), by omega, i + 4, v4, v5, v6, v7, v8, v9, v10, v11, rs2, rfl, by omega, by omega, e, z1, z2, z3⟩, ?_⟩
    have r0 := reach_nn G (i + 1)
    have l0 := len_pos G i
    have n0 := rep_nn G (i + 3)
    have lz := natAbs_lt (len_nn G (i + 1)) (len_size G (k := i + 1) (by omega))
    have rz := natAbs_lt n0 (rep_size G (k := i + 3) (by omega))
    rw [rep_step] at rz
    have er : row3 (price m) (i + 3) = [.int (reach (price m) (i + 2) + ((price m (reach (price m) (i + 1) + 1) - reach (price m) (i + 1) - len (price m) (i + 2)) / len (price m) (i + 1) * len (price m) (i + 1) + len (price m) (i + 2))),
        .int ((price m (reach (price m) (i + 1) + 1) - reach (price m) (i + 1) - len (price m) (i + 2)) / len (price m) (i + 1) * len (price m) (i + 1) + len (price m) (i + 2)),
        .int ((price m (reach (price m) (i + 1) + 1) - reach (price m) (i + 1) - len (price m) (i + 2)) / len (price m) (i + 1))] := by
      unfold row3
      rw [reach_step, len_step, rep_step]
    refine ⟨_, rfl, 2, rfl, p, _, _, _, rfl, rfl, .of hL, atI_neg (k := 2) (by decide) (by omega) (by rw [hl]; exact gi) (by decide), ?_⟩
    refine ⟨pi, _, rfl, .of ti, rfl, _, _, rfl, _, _, rfl, _, _, rfl, rfl, ?_⟩
    refine ⟨_, rfl, 1, rfl, p, _, _, _, rfl, rfl, .of hL, atI_neg (k := 1) (by decide) (by omega) (by rw [hl]; exact go) (by decide), ?_⟩
    refine ⟨po, _, rfl, .of to, rfl, _, _, rfl, _, _, rfl, _, _, rfl, rfl, ?_⟩
    refine ⟨_, rfl, a, rfl, _, rfl, _, _, rfl, rfl, m, _, rfl, ha.same sH, ok, hd, by omega, ?_⟩
    refine ⟨_, rfl, _, _, rfl, rfl, _, rfl, _, _, rfl, rfl, ?_⟩
    refine ⟨_, rfl, _, rfl, _, _, rfl, rfl, wide_div (b := 2049) (by omega) lz (by decide) (by decide), ?_⟩
    refine ⟨_, rfl, _, rfl, _, _, rfl, rfl, wide_mul (a := 2049) (b := 2049) rz lz (by decide) (by decide) (by decide), _, rfl, _, _, rfl, rfl, ?_⟩
    refine ⟨_, rfl, .inl ⟨rfl, _, .inl (.inl hL)⟩, ?_⟩
    refine ⟨_, rfl, _, rfl, _, _, rfl, rfl, _, rfl, _, rfl, (by show 3 ≤ sizeLine; decide), fun t ht => ?_⟩
    have ht' : H' t = none := ht
    have npt : p ≠ t := ne_of_none hL ht'
    refine ⟨p, _, _, rfl, rfl, (by rw [upd_ne npt]; exact hL), small1000 (by omega), _, _, _, _, _, _, _, _, _, rfl, ?_, upd_same, ?_⟩
    · exact same_mut (sH.trans (same_new ht' _)) hpH
    · refine RowsAt.add (RowsAt.nl (hR.nl (NL.of_same (same_new ht' _))) (NL.upd (xs := rs) ((upd_ne npt).trans hL))) ?_
      rw [upd_ne npt.symm, er]
      exact upd_same
  · have cc : ¬ ((rs.length : Nat) : Int) ≤ 64 := of_decide_eq_false (Bool.eq_false_iff.mpr cc)
    rw [hl] at cc
    have e : j = 65 := by omega
    subst e
    refine ⟨_, rfl, _, rfl, _, _, rfl, rfl, _, rfl, p, _, rfl, .of hL, fun l hl' => ?_⟩
    refine q l _ rs (sH.trans (same_new hl' _)) ?_ (hR.nl (NL.of_same (same_new hl' _)))
    rw [upd_same, cut_all (by rw [hl]; rfl)]
end
end Lr

/-! Unreachable(late): made, raised, caught. -/
namespace PySem
namespace LrX
open PySem.W PySem.Calls PyProof.Rows PySem.HandSPX
abbrev sUnInit : Stmt := L2.inClass (Lr.top 5) 0
/-- what the written part says of the class at C, of its __init__ at fI, the cell of __class__ at cc, the code object at cda -/
structure UnTxt (P : Program) (K : Frag) (mg : Str → Option Value) (C fI cc cda : Addr) : Prop where
  gC : mg "Unreachable" = some (.ref C)
  gS : mg "super" = none
  cls : ∃ nm q N bs bm sn sub ab col dd k0 k1 k2 k3 k5, K.lookup C = some (excClassObj nm q C N bs bm true sn sub ab col dd k0 k1 k2 k3 k5 "ValueError.__new__") ∧ refsVE bm = true
  sa : findIn K (.ref C) "__setattr__" = some (some (.builtin "object.__setattr__"))
  noN : findIn K (.ref C) "late" = some none
  iC : findIn K (.ref C) "__init__" = some (some (.ref fI))
  tC : typeIn K (.ref fI) = some (.type "function")
  kC : keepIn K (.ref C) = true
  exC : subIn K (.ref C) (.type "BaseException") = some true
  veC : subIn K (.ref C) (.type "ValueError") = some true
  tyC : typeIn K (.ref C) = some (.type "type")
  own : mroIn K C (.ref C) = some true
  sup : ks_superIn K C C "__init__" = some (some (.builtin "ValueError.__init__"))
  opq : nsIn K cStatics "thirdparty.any" = some none
  fn : ∃ (oc : Value) (od : Option Addr) (kV doc pm : Value) (an : Option Addr) (ct : Value) (osl : Array (Option Value)),
    K.lookup fI = some ⟨oc, od, .func (fnX "__init__" "Unreachable.__init__" (L2.defArgs sUnInit) (L2.defBody sUnInit) (L2.defScope sUnInit) [("__class__", cc)] .none kV doc pm an (.ref cda) ct), osl⟩ ∧ codeIn K (.ref cda) "Unreachable.__init__" = true
  code : ∃ (ccl : Value) (cdd : Option Addr) (vs : Array Value) (ccs : Array (Option Value)) (file : Str) (tf : Tok), K.lookup cda = some ⟨ccl, cdd, .fields vs, ccs⟩ ∧ vs[2]? = some (.str file tf) ∧ ((P.main.file : Str) == file) = true
  cell : ∃ (cl : Value) (cld : Option Addr) (csl : Array (Option Value)), K.lookup cc = some ⟨cl, cld, .cell (some (.ref C)), csl⟩
  main : (P.main.scope.names.lookup ("super" : Str)).isSome = false
section
variable {prog : Program} {w : World} {A : Around} {E : Value → Shared → Prop} {h : Heap} {g : Array GenState} {d : Drawn} {t : Nat} {os : OsState}
variable {nm q : Str} {C N : Addr} {bs bm : List Value} {hdct : Bool} {sn : List Str} {sub : List Value} {ab : Bool} {col : Option Bool} {dd : Option Addr} {k0 k1 k2 k3 k5 : Option Value}
/-- the bound __init__ of ValueError called: the args are laid anew -/
theorem call_bw {u e t0 : Addr} {rest : List Value} {Q : Value → Shared → Prop}
    (hC : h.get? C = some (excClassObj nm q C N bs bm hdct sn sub ab col dd k0 k1 k2 k3 k5 "ValueError.__new__")) (he : h.get? e = some (excO C t0)) (hu : h.get? u = some (kxs_mw "ValueError.__init__" e)) (hrest : rest.length ≤ sizeLine)
    (hq : ∀ h' t1, (∀ b o, b ≠ e → h.get? b = some o → h'.get? b = some o) → h'.get? e = some (excO C t1) → Q .none ⟨h', g, d, t, os⟩) :
    wpAny (model prog w) A (call (.ref u) rest) Q E ⟨h, g, d, t, os⟩ := by
  refine wpAny_call (codeAny_of_tree ?_)
  show wpAny _ A.in1 (callAny (.ref u) ⟨rest, []⟩) _ _ _
  simp only [callAny]
  refine wpAny_bind (wpAny_load hu ?_)
  simp only [kxs_mw, show (Value.type "method-wrapper" == Value.type "method" || Value.type "method-wrapper" == Value.type "builtin_function_or_method" || Value.type "method-wrapper" == Value.type "method-wrapper") = true by decide, if_true]
  refine W.KFB.if_so (by decide) ?_
  refine wpAny_bind (ESX.check_bound F.excBase_ValueError hC he rfl ?_)
  refine wpAny_bind (wpAny_pure (wpAny_pure ?_))
  refine ⟨Code.quiet_builtin _ (by decide +kernel), codeAny_builtin F.excBase_ValueError.initEntry ?_⟩
  rw [Around.under_plainId F.excBase_ValueError.init.plain _]
  wp_walk
  refine hq _ h.objs.size (fun b o hb ho => ?_) ?_
  · rw [Heap.get?_update_other _ _ (Ne.symm hb)]
    exact Heap.get?_push_of_some _ ho
  · rw [Heap.get?_update_self _ (Heap.get?_push_of_some _ he) rfl]
    rfl
end
theorem one_size (v : Value) : [v].length ≤ sizeLine := by
  rw [sizeLine_eq]
  exact (by decide : 1 ≤ 16777216)
/-- what __init__ leaves of a fresh exception at x -/
structure InitEnd (h h' : Heap) (x C dx : Addr) (v : Value) : Prop where
  keep : ∀ b o, b ≠ x → h.get? b = some o → h'.get? b = some o
  obj : ∃ t1, h'.get? x = some { cls := .ref C, dict := some dx, data := .fields #[.ref t1, .none, .none, .none, .bool false, .none] }
  dbig : h.objs.size ≤ dx
  dne : dx ≠ x
  ns : h'.Ns1 dx (fun y => if y = "late" then some v else none)
section
variable {prog : Program} {w : World} {A : Around} {E : Value → Shared → Prop} {R : Result → Shared → Prop} {s : Shared} {K : Frag} {mg : Str → Option Value} {C fI cc cda : Addr}
theorem un_init (T : UnTxt prog K mg C fI cc cda) {x t0 : Addr} {v : Value} {base : Heap} (M : L2.Mod K mg base) (kb : ∀ b o, base.get? b = some o → s.heap.get? b = some o) (hx : s.heap.get? x = some (excO C t0)) (hnx : K.lookup x = none) (hroom : A.depth < recursionLimit)
    (hq : ∀ h' tk dx, InitEnd s.heap h' x C dx v → R (.ok (.ret .none)) { s with heap := h', toks := tk }) :
    codeAny (model prog w) A (.call (.ref fI) ⟨[.ref x, v], []⟩) R s := by
  have X : K.In s.heap := M.kin.keeps kb
  obtain ⟨oc, od, kV, doc, pm, an, ct, osl, ho, hcd⟩ := T.fn
  obtain ⟨nm, q, N, bs, bm, sn, sub, ab, col, dd, k0, k1, k2, k3, k5, hC, hbm⟩ := T.cls
  obtain ⟨ccl, cdd, vs, ccs, file, tf, hco, hvs, hfile⟩ := T.code
  obtain ⟨cl, cld, csl, hcell⟩ := T.cell
  refine ks_codeAny_call_defAt (fd := fnX "__init__" "Unreachable.__init__" (L2.defArgs sUnInit) (L2.defBody sUnInit) (L2.defScope sUnInit) [("__class__", cc)] .none kV doc pm an (.ref cda) ct) (body := L2.defBody sUnInit) (binds := [("self", .ref x), ("late", v)])
    hroom (X _ _ ho) rfl (M.nolimit.keeps kb) (codeRec_of X hcd) rfl (BindsTo.of_eq (by first | rfl | with_unfolding_all rfl)) (show ∀ y ∈ (L2.defScope sUnInit).names, y.2 ≠ .cell by decide +kernel) (locs rfl) (fun h₁ hns hk₁ => ?_) rfl rfl rfl
  have X₁ : K.In h₁ := X.keeps hk₁
  have M₁ : ∀ b o, base.get? b = some o → h₁.get? b = some o := fun b o e => hk₁ b o (kb b o e)
  obtain ⟨mb, hmb1, hmb2⟩ := M.blt
  have hx₁ := hk₁ _ _ hx
  have hxL : s.heap.objs.size ≠ x := Nat.ne_of_gt (Heap.lt_size hx)
  have hCd : clsIn K C = some { name := nm, bases := bs, mro := .ref C :: bm, ns := N, qualname := q, hasDict := true, slotNames := sn, subclasses := sub, abstract := ab, collection := col, hasDel := false } := by unfold clsIn; rw [hC] <;> rfl
  obtain ⟨hp, gg, dr, tk, os⟩ := s
  show wpAt _ _ _ (execs (L2.defBody sUnInit) _) _ _ _
  refine ks_wpAt_execs_cons (ks_wpAt_Expr_any (ks_wpAt_MethodCall ?_))
  refine ks_wpAt_super_base (by rfl) (by rfl) (by decide) rfl (X₁ _ _ ho) rfl (by rfl) rfl (X₁ _ _ hco) rfl hvs hfile T.main ?_
  refine ks_loadName_global rfl (by rfl) (loadGlobal_builtin (M.glob.keeps M₁) T.gS (hmb1.keeps M₁) ((hmb2 _ (by decide)).trans (by decide +kernel)) ⟨rfl, ?_⟩)
  refine wpAny_loadName_free rfl (by rfl) rfl ⟨_, X₁ _ _ hcell, rfl⟩ ?_
  refine wpAny_loadName_local rfl (by rfl) hns (by rfl) ?_
  refine ks_wpAny_isType_cls (X₁ _ _ hC) rfl ⟨rfl, ?_⟩
  refine ks_wpAny_call_super (X₁ _ _ hC) rfl hx₁ rfl (fun c e => by cases e) (looks_mroIn X₁ T.own) (fun h₂ e₂ k₂ => ?_)
  have X₂ : K.In h₂ := X₁.keeps k₂
  have hx₂ := k₂ _ _ hx₁
  have I₂ : InstAt h₂ x (excO C t0) C none := ⟨hx₂, rfl, rfl, trivial⟩
  have hsup : alongIn K "__init__" (((Value.ref C :: bm).dropWhile (· != .ref C)).drop 1) = some (some (.builtin "ValueError.__init__")) := by
    have z := T.sup
    unfold ks_superIn at z
    rw [hCd] at z
    exact z
  refine kxs_getMethod kxs_ValueError e₂ (looks_opaque X₂ T.opq) (l₀ := .ref C :: bm) (fun A Q E s k q => wpAny_bind ((looks_clsIn X₂ hCd) A _ E s k (wpAny_pure q))) rfl X₂ hsup (I₂.type.andThen (looks_subIn X₂ T.veC)) (ks_ne X₂ I₂ hCd) (by decide) ?_
  have X₃ : K.In (h₂.push (kxs_mw "ValueError.__init__" x)) := X₂.keeps fun b o e => Heap.get?_push_of_some _ e
  have hx₃ : (h₂.push (kxs_mw "ValueError.__init__" x)).get? x = some (excO C t0) := Heap.get?_push_of_some _ hx₂
  have hu₃ : (h₂.push (kxs_mw "ValueError.__init__" x)).get? h₂.objs.size = some (kxs_mw "ValueError.__init__" x) := Heap.get?_push_size h₂ rfl
  refine kxs_callWith (i := "ValueError.__init__") (x := x) (by rfl) (evalArgs_plain ?_)
  refine Calls.spliced_cons (Calls.Constant_str (k := 0) (pos := ⟨0, 0, 0, 0⟩) (Calls.spliced_nil ?_))
  refine ⟨hu₃, ?_⟩
  refine call_bw (X₃ _ _ hC) hx₃ hu₃ (one_size _) (fun h₄ t1 k₄ e₄ => ?_)
  -- self.late = late
  have old : ∀ b o, b ≠ x → h₁.get? b = some o → h₄.get? b = some o := fun b o hb e => k₄ b o hb (Heap.get?_push_of_some _ (k₂ b o e))
  have X₄ : K.In h₄ := fun b o e => old b o (fun z => by rw [z, hnx] at e; cases e) (X₁ b o e)
  have hns₄ : h₄.Ns hp.objs.size (fun y => [(("self" : Str), Value.ref x), ("late", v)].reverse.lookup y) := by
    obtain ⟨oL, es, ep, hL, r⟩ := hns
    exact ⟨oL, es, ep, old _ _ hxL hL, r⟩
  show wpAt _ _ _ (execs _ _) _ _ _
  refine ks_wpAt_execs_cons (wpAt_of_wpAny (plainObj_wpAny_Assign_Attribute ?_))
  refine wpAny_Name (wpAny_loadName_local rfl (by rfl) hns₄ (by rfl) ?_) (by decide)
  refine wpAny_Name (wpAny_loadName_local rfl (by rfl) hns₄ (by rfl) ?_) (by decide)
  refine set_plain X₄ (ox := excO C t1) (od := none) ⟨e₄, rfl, rfl, trivial⟩ T.sa ?_
  refine exc_osa X₄ e₄ hCd (show refsVE (.ref C :: bm) = true from hbm) rfl T.noN (fun h₅ tk₅ dx k₅ dn dne hx₅ hn₅ => ?_)
  show wpAt _ _ _ (execs _ _) _ _ _
  refine wpAt_of_wpAny (wpAny_execs_nil (hq h₅ tk₅ dx ⟨fun b o hb e => k₅ b o hb (old b o hb (hk₁ b o e)), ⟨_, hx₅⟩, ?_, dne, hn₅⟩))
  have z : hp.objs.size < h₄.objs.size := hns₄.lt
  exact Nat.le_of_lt (Nat.lt_of_lt_of_le z dn)
/-- a made Unreachable -/
structure OwnMade (h h' : Heap) (e C d : Addr) (v : Value) : Prop where
  keep : ∀ b o, h.get? b = some o → h'.get? b = some o
  new : h.objs.size ≤ e
  obj : ∃ t1, h'.get? e = some { cls := .ref C, dict := some d, data := .fields #[.ref t1, .none, .none, .none, .bool false, .none] }
  dbig : h.objs.size ≤ d
  dne : d ≠ e
  ns : h'.Ns1 d (fun y => if y = "late" then some v else none)
theorem un_made (T : UnTxt prog K mg C fI cc cda) {v : Value} {base : Heap} (M : L2.Mod K mg base) (kb : ∀ b o, base.get? b = some o → s.heap.get? b = some o) (hroom : A.depth + 1 < recursionLimit)
    (hq : ∀ h' tk e d, OwnMade s.heap h' e C d v → R (.ok (.ret (.ref e))) { s with heap := h', toks := tk }) :
    codeAny (model prog w) A (.call (.ref C) ⟨[v], []⟩) R s := by
  have X : K.In s.heap := M.kin.keeps kb
  obtain ⟨nm, q, N, bs, bm, sn, sub, ab, col, dd, k0, k1, k2, k3, k5, hC, hbm⟩ := T.cls
  obtain ⟨hp, g, dr, tk, os⟩ := s
  have k : ∀ b o, hp.get? b = some o → ((hp.push (kdv_tup [v])).push (excO C hp.objs.size)).get? b = some o := fun b o e => Heap.get?_push_of_some _ (Heap.get?_push_of_some _ e)
  have hget : ((hp.push (kdv_tup [v])).push (excO C hp.objs.size)).get? (hp.objs.size + 1) = some (excO C hp.objs.size) := by heap_get
  have hnx : K.lookup (hp.objs.size + 1) = none := by
    cases e : K.lookup (hp.objs.size + 1) with
    | none => rfl
    | some o =>
      have z : hp.get? (hp.objs.size + 1) = some o := X _ _ e
      exact absurd (Nat.lt_of_succ_lt (Heap.lt_size z)) (Nat.lt_irrefl _)
  refine call_own F.excBase_ValueError (fun X => refsVE_contains X bm hbm) (X _ _ hC) (looks_findIn X T.iC) (fun self => bind_fn X self T.tC) (one_size v) ?_
  refine un_init (s := ⟨(hp.push (kdv_tup [v])).push (excO C hp.objs.size), g, dr, tk, os⟩) T M (fun b o e => k b o (kb b o e)) hget hnx ?_ fun h' tk' dx ⟨k', hx, dn, dne, hns⟩ => ?_
  · show A.depth + 1 < recursionLimit
    exact hroom
  · have old : ∀ b o, hp.get? b = some o → h'.get? b = some o := fun b o e => k' b o (Nat.ne_of_lt (Nat.lt_succ_of_lt (Heap.lt_size e))) (k b o e)
    have z : hp.objs.size + 1 + 1 ≤ dx := by
      first
        | (simpa only [Heap.size_push] using dn)
        | exact dn
        | (have q := dn; rw [Heap.size_push, Heap.size_push] at q; exact q)
    exact ⟨rfl, hq h' tk' (hp.objs.size + 1) dx ⟨old, Nat.le_succ _, hx, Nat.le_trans (Nat.le_trans (Nat.le_succ _) (Nat.le_succ _)) z, dne, hns⟩⟩
end
end LrX
end PySem

namespace Lr
open PySem PySem.Spec PyProof.Rows L2
theorem relO_late {v : V} {v' : Value} (r : RelV v v') (f : Str) : RelO (List.lookup f [(("late" : Str), v)]) (if f = "late" then some v' else none) := by
  by_cases hw : f = "late"
  · subst hw
    rw [if_pos rfl]
    have q : List.lookup ("late" : Str) [(("late" : Str), v)] = some v := by simp [List.lookup]
    rw [q]
    exact r
  · rw [if_neg hw]
    have qw : (f == ("late" : Str)) = false := by simpa using hw
    have q2 : List.lookup f [(("late" : Str), v)] = none := by simp [List.lookup, qw]
    rw [q2]
    trivial
section
variable {X : Cx} {C fI cc cda : Addr}
/-- Unreachable(e) -/
def tMkUn (C : Addr) (ta : TA) : L2.St → Hp → XK → Prop := fun σ H Q => ta σ H fun vs H1 => ∃ v, vs = [v] ∧ ∀ d, H1 d = none → Q (.ref C) (some d) (upd H1 d (.xd [(("late" : Str), v)]))
theorem pmk_un {a : Expr} {ta : TA} {p pos : Pos} {k : Nat} (T : PySem.LrX.UnTxt X.prog X.K X.mg C fI cc cda) (hr : Room k X.A) (ha : PA X [a] ta) (hg : Gl X "Unreachable" := by rfl)
    (he : starEach (a :: []) X.env = (false, eval a X.env) :: starEach [] X.env := by rfl) (hpl : (backTo pos (starEach [] X.env)).any (·.1) = false := by rfl) :
    L2N.PMk X (.Call (.Name "Unreachable" p) [a] [] pos) (tMkUn C ta) := by
  intro pins s σ H Q I h
  refine wpAny_Call_Name_kw (ld_glob I hg T.gC ?_)
  refine PySem.W.callWith_K (h₀ := X.base) I.ok.mod.kin T.kC (thn (ha.run pos pins s σ H _ I h) fun us s1 hh => ?_) he hpl
  obtain ⟨vs, H1, I1, r1, v, ev, q1⟩ := hh
  subst ev
  refine ⟨I1.kIn, ?_⟩
  cases r1 with
  | cons rv rn =>
    rename_i v' us'
    cases rn
    show wpAny _ _ (call (.ref C) [v']) _ _ _
    have kb := I1.bk
    obtain ⟨hp, g, dr, tk, os⟩ := s1
    refine wpAny_call (PySem.LrX.un_made T I1.mod kb (by have := hr.dp; omega) fun h' tk' e d M => ?_)
    show L2N.MkP X pins σ Q (.ref e) ⟨h', g, dr, tk', os⟩
    obtain ⟨t1, hoe⟩ := M.obj
    have hns := M.ns
    obtain ⟨G', g1, g2⟩ := restrict h' fun b => decide (b ≠ e)
    have gk : ∀ b, b ≠ e → G'.get? b = h'.get? b := fun b hb => g1 b (decide_eq_true hb)
    have ge : G'.get? e = none := g2 e (by simp)
    have old : ∀ b o, hp.get? b = some o → G'.get? b = some o := fun b o q => (gk b (Nat.ne_of_lt (Nat.lt_of_lt_of_le (Heap.lt_size q) M.new))).trans (M.keep b o q)
    have ob : ObjOk X.prog X.w (upd H1 d (.xd [(("late" : Str), v)])) G' d (.xd [(("late" : Str), v)]) :=
      ⟨_, hns.at (fun o q => (gk d M.dne).trans q), fun f => relO_late rv f⟩
    have J : Inv X pins σ (upd H1 d (.xd [(("late" : Str), v)])) ⟨G', g, dr, tk', os⟩ := I1.laid (t' := tk') old M.dbig ob
    refine ⟨e, _, _, ⟨G', g, dr, tk', os⟩, _, .ref C, some d, rfl, J, fun b o q => ?_, ge, hoe, ⟨rfl, rfl, fun vs e => by cases e; rfl⟩, rfl, rfl, ?_, rfl, I1.bare, raises_own T.exC T.tyC, q1 d (I1.hok.fresh M.dbig)⟩
    · by_cases hb : b = e
      · have q' : G'.get? b = some o := q
        rw [hb, ge] at q'; cases q'
      · exact (gk b hb).symm.trans q
    · rw [upd_ne (Ne.symm M.dne)]
      exact I1.hok.fresh M.new
/-- raise Unreachable(e) -/
def tRaiseUn (C : Addr) (W : WX) (ta : TA) : TS := fun _ σ H => tMkUn C ta σ H fun cls d H' => W cls d σ H'
theorem ps_raiseUn {a : Expr} {ta : TA} {W : WX} {p pos pos2 : Pos} {k : Nat} (hc : X.calm = true) (T : PySem.LrX.UnTxt X.prog X.K X.mg C fI cc cda) (hr : Room k X.A) (tk : L2N.Takes X W) (ha : PA X [a] ta) (hg : Gl X "Unreachable" := by rfl)
    (he : starEach (a :: []) X.env = (false, eval a X.env) :: starEach [] X.env := by rfl) (hpl : (backTo pos (starEach [] X.env)).any (·.1) = false := by rfl) :
    PS X (.Raise (some (.Call (.Name "Unreachable" p) [a] [] pos)) none pos2) (tRaiseUn C W ta) := L2N.ps_raise hc tk (pmk_un T hr ha hg he hpl)
end
end Lr

/-! what stands in an except suite: isinstance of the caught error, its field, a call -/
namespace Lr
open PySem PySem.Spec PyProof.Rows L2
/-- what isinstance asks of the class of the error, at C; R: the class that it is asked for -/
structure UnIs (K : PySem.W.Frag) (mg : Str → Option Value) (C R : Addr) : Prop where
  gR : mg "ReachError" = some (.ref R)
  hcl : (PySem.W.clsIn K C).isSome = true
  hga : PySem.W.findIn K (.ref C) "__getattribute__" = some (some (.builtin "BaseException.__getattribute__"))
  hgt : PySem.W.findIn K (.ref C) "__getattr__" = some none
  hsub : PySem.W.subIn K (.ref C) (.type "BaseException") = some true
  hdC : PySem.W.hasDictIn K C = true
  ha : PySem.W.findIn K (.ref C) "__class__" = some (some (.builtin "object.__class__"))
  hn : PySem.W.specialIn K (.builtin "object.__class__") "__get__" = some (some (.builtin "getset_descriptor.__get__"))
  htk : PySem.W.takesIn K (.builtin "object.__class__") = some true
  hm : PySem.W.mroIn K C (.type "object") = some true
  kit : PySem.W.kitOne K (.ref C) (.ref R) = some true
  noN : PySem.W.findIn K (.ref C) "late" = some none
  te : PySem.W.exmOne K (.ref C) (.ref C) = some true
theorem UnIs.xf {K : PySem.W.Frag} {mg : Str → Option Value} {C R : Addr} (u : UnIs K mg C R) : XfC K C := ⟨u.hga, u.hgt, u.hsub, u.hdC⟩
def rIsR (R a : Addr) (cls : Value) (d : Option Addr) (C : Addr) : List V → Hp → VK → Prop := fun xs H Q => xs = [.ref a, .ref R] ∧ cls = .ref C ∧ ∃ (dd : Addr) (fs : List (Str × V)), d = some dd ∧ H dd = some (.xd fs) ∧ Q (.bl true) H
theorem call_isR {X : Cx} {a C R : Addr} {oe : Obj} {cls : Value} {d : Option Addr} {pn : List (Addr × Obj)} (T : UnIs X.K X.mg C R) (hz : Zc cls d oe) (hf : ∃ vs, oe.data = .fields vs) : CallR (X.suite a ((a, oe) :: pn)) (.builtin "isinstance") (rIsR R a cls d C) := by
  intro pins s σ H xs us Q I r h
  obtain ⟨rfl, rfl, dd, fs, rfl, ed, q⟩ := h
  cases r with
  | cons rx rr =>
    cases rr with
    | cons rt rr =>
      cases rr
      cases rx
      cases rt
      obtain ⟨hget, _⟩ := I.pin (a, oe) (List.mem_append.mpr (.inl List.mem_cons_self))
      obtain ⟨vs, hv⟩ := hf
      have hx : ObjOk X.prog X.w H s.heap dd (.xd fs) := I.hok dd _ ed
      obtain ⟨mA, hns, hr⟩ := hx
      obtain ⟨od, ho, hl⟩ := lookIn_ns hns
      have J : PySem.W.InstAt s.heap a oe C (some od) := ⟨hget, hz.1, by unfold PySem.W.notCls; rw [hv] <;> rfl, by rw [hz.2]; exact ho⟩
      exact PySem.W.kia_one (PySem.W.kitx_exc T.hcl T.hga T.hgt T.hsub T.ha T.hn T.htk T.hm) I.kIn J T.kit (fun z => nomatch z) fun tk => ⟨.bl true, H, I.kept (t' := tk) fun _ _ z => z, rfl, q⟩
/-- a def that may be called in an except suite -/
def HasH (P : Program) (w : World) (K : PySem.W.Frag) (mg : Str → Option Value) (base : Heap) (k : Nat) (x : Str) (ps : List Str) (sp : Sp) : Prop :=
  ∃ f fd, mg x = some (.ref f) ∧ PySem.W.keepIn K (.ref f) = true ∧ Binds K fd ps [] ∧ L2H.FnH P w K mg base CX0 k f fd ps sp
theorem hotC_suite {X : Cx} {a : Addr} {oe : Obj} {cls : Value} {d : Option Addr} {pn : List (Addr × Obj)} (hz : L2N.Zn cls d oe) (hf : ∃ vs, oe.data = .fields vs) : L2H.HotC (X.suite a ((a, oe) :: pn)) := by
  obtain ⟨vs, hv⟩ := hf
  exact ⟨(a, oe), ⟨rfl, vs, hv, hz.2.2 vs hv⟩, List.mem_cons_self⟩
theorem pe_hasH {X : Cx} {k : Nat} {x : Str} {ps : List Str} {sp : Sp} {p pos : Pos} {e : Expr} {es : List Expr} {t : TA} (h : HasH X.prog X.w X.K X.mg X.base k x ps sp) (hr : L2H.RoomH k X.A) (hc : L2H.HotC X) (ha : PA X (e :: es) t)
    (hg : Gl X x := by rfl) (hdb : (x == ("__debug__" : Str)) = false := by decide)
    (he : starEach (e :: es) X.env = (false, eval e X.env) :: starEach es X.env := by rfl) (hpl : (backTo pos (starEach es X.env)).any (·.1) = false := by rfl) :
    PE X (.Call (.Name x p) (e :: es) [] pos) (tCallS sp (fun _ => E0) t) := by
  obtain ⟨f, fd, m, kp, b, F⟩ := h
  exact L2H.pe_callH F hr hc hg m kp b (fun σ pins H s e s' I h => h.elim) ha hdb he hpl
abbrev sIsInt : Stmt := top 40
def spIsInt : Sp := fun vs H Q _ => ∃ (v : Int), vs = [.int v] ∧ Q (.bl true) H
section
variable {P : Program} {w : World} {K : PySem.W.Frag} {mg : Str → Option Value} {base : Heap}
theorem scIsInt : FnScope ["_law_answer"] ["_law_answer"] (defScope sIsInt) := ⟨rfl, rfl, rfl, by decide +kernel, rfl, by decide +kernel, by decide +kernel⟩
theorem isint_read {v : Int} {H : Hp} {Q : VK} (q : Q (.bl true) H) : tRet (tAndV (tCB rIsI (tCons (tVar 0) (tCons (tC (.ty "int")) tNil))) (tNotV (tCB rIsB (tCons (tVar 0) (tCons (tC (.ty "bool")) tNil))))) { nx := fun _ H' => Q .non H', rt := Q } (L2.start ["_law_answer"] [.int v]) H :=
  ⟨_, rfl, _, rfl, true, rfl, iteT ⟨_, rfl, _, rfl, false, rfl, q⟩⟩
theorem ok_isint {f : Addr} {fd : FuncData} (B : Bt mg) (D : Df K mg "_law_is_integer" sIsInt ["_law_answer"] f fd) : Has P w K mg base CX0 1 "_law_is_integer" ["_law_answer"] spIsInt := by
  refine D.has (D.2.1.ok scIsInt (fun vs H Q E h => ?_) (fun cdv A outer s H vs Q E hr h => ?_))
  · obtain ⟨v, rfl, _⟩ := h
    rfl
  obtain ⟨v, rfl, q⟩ := h
  exact ⟨_, pss_one (ps_ret (pe_and (pe_isI B (pv 0)) (pe_one (pe_not (pe_isB B (pv 0)))))), isint_read q⟩
theorem ok_isintH {f : Addr} {fd : FuncData} (B : Bt mg) (D : Df K mg "_law_is_integer" sIsInt ["_law_answer"] f fd) : HasH P w K mg base 1 "_law_is_integer" ["_law_answer"] spIsInt := by
  obtain ⟨oc, od, kV, doc, pm, an, cdv, ct, osl, rfl, lk, hcd⟩ := D.2.1.ex
  refine ⟨f, _, D.1, D.2.1.kp, D.2.2, L2H.fn_ofH lk hcd scIsInt (fun vs H Q E h => ?_) (fun A outer s H vs Q E p hot hr h => ?_)⟩
  · obtain ⟨v, rfl, _⟩ := h
    rfl
  obtain ⟨v, rfl, q⟩ := h
  exact ⟨_, pss_one (ps_ret (pe_and (pe_isI B (pv 0)) (pe_one (pe_not (pe_isB B (pv 0)))))), isint_read q⟩
end
end Lr

/-! _line_limit, _need_reachable, least_extra, least_slope -/
namespace Lr
open PySem L2
theorem takesN {X : Cx} {Q : Prop} (h : L2N.Takes X (fun _ _ _ _ => False)) : True := trivial
theorem takes0N {X : Cx} : L2N.Takes X (fun _ _ _ _ => False) := fun _ _ x => by
  obtain ⟨_, _, _, _, _, _, _, _, _, _, _, _, _, _, _, _, z⟩ := x
  exact z.elim
theorem passN {X : Cx} : Passes (L2N.CX X.prog X.w) X E0 := fun _ _ _ _ _ _ _ h => by
  obtain ⟨_, _, _, _, _, _, _, _, _, _, _, _, z⟩ := h
  exact z.elim
section
variable {P : Program} {w : World} {K : PySem.W.Frag} {mg : Str → Option Value} {base : Heap}
/-- as Fun.ok, for a def that may raise -/
theorem okN {x qual : Str} {st : Stmt} {f : Addr} {fd : FuncData} {N ps : List Str} {k : Nat} {sp : Sp} (F : Fun K x qual st f fd) (S : FnScope N ps (defScope st)) (len : ∀ vs H Q E, sp vs H Q E → vs.length = ps.length)
    (hbody : ∀ (cdv : Value) (A : Around) (outer : List Env) (s : Shared) (H : Hp) (vs : List V) (Q : VK) (E : XK), Room k (A.deeper (PyProof.Rows.envOfC qual (defScope st) s.heap.objs.size f cdv)) → sp vs H Q E →
      ∃ t, PSs (cxOf (L2N.CX P w) P w K mg base N qual (defScope st) f cdv A outer s H E) (defBody st) t ∧ t { nx := fun _ H' => Q .non H', rt := Q } (L2.start N vs) H) : FnOk P w K mg base (L2N.CX P w) (k + 1) f fd ps sp := by
  obtain ⟨oc, od, kV, doc, pm, an, cdv, ct, osl, rfl, lk, hcd⟩ := F.ex
  exact fn_of lk hcd S len fun A outer s H vs Q E hr hsp => hbody cdv A outer s H vs Q E hr hsp
end
/-- the constants of the module -/
structure Kn (mg : Str → Option Value) : Prop where
  places : ∃ t, mg "MOST_PLACES" = some (.int 64 t)
  late : ∃ t, mg "MOST_LATE" = some (.int (10 ^ 60) t)
  slope : ∃ t, mg "MOST_SLOPE" = some (.int (10 ^ 6) t)
section
variable {X : Cx} {pos : Pos}
theorem pe_places (Z : Kn X.mg) (hg : Gl X "MOST_PLACES" := by rfl) : PE X (.Name "MOST_PLACES" pos) (tC (.int 64)) := by
  obtain ⟨t, h⟩ := Z.places
  exact pe_glob hg h ⟨t, rfl⟩
theorem pe_late (Z : Kn X.mg) (hg : Gl X "MOST_LATE" := by rfl) : PE X (.Name "MOST_LATE" pos) (tC (.int (10 ^ 60))) := by
  obtain ⟨t, h⟩ := Z.late
  exact pe_glob hg h ⟨t, rfl⟩
theorem pe_slope (Z : Kn X.mg) (hg : Gl X "MOST_SLOPE" := by rfl) : PE X (.Name "MOST_SLOPE" pos) (tC (.int (10 ^ 6))) := by
  obtain ⟨t, h⟩ := Z.slope
  exact pe_glob hg h ⟨t, rfl⟩
end
section
variable {P : Program} {w : World} {K : PySem.W.Frag} {mg : Str → Option Value} {base : Heap}
theorem scPlaces : FnScope ["value"] ["value"] (defScope sNeedPlaces) := ⟨rfl, rfl, rfl, by decide +kernel, rfl, by decide +kernel, by decide +kernel⟩
theorem ok_places {f : Addr} {fd : FuncData} (Z : Kn mg) (N : Has P w K mg base CX0 1 "need_range" ["value", "least", "most"] spRange) (D : Df K mg "need_places" sNeedPlaces ["value"] f fd) : Has P w K mg base CX0 2 "need_places" ["value"] spPlaces := by
  refine D.has (D.2.1.ok scPlaces (fun vs H Q E h => ?_) (fun cdv A outer s H vs Q E hr h => ?_))
  · obtain ⟨v, rfl, _⟩ := h
    rfl
  obtain ⟨v, rfl, h1, h2, q⟩ := h
  refine ⟨_, pss_one (ps_expr (pe_has N hr (pa_cons (pv 0) (pa_cons pe_int (pa_cons (pe_places Z) pa_nil))))), ?_⟩
  exact ⟨_, rfl, v, 1, 64, rfl, h1, h2, q⟩
theorem scLate : FnScope ["value"] ["value"] (defScope sNeedLate) := ⟨rfl, rfl, rfl, by decide +kernel, rfl, by decide +kernel, by decide +kernel⟩
theorem ok_late {f : Addr} {fd : FuncData} (Z : Kn mg) (N : Has P w K mg base CX0 1 "need_range" ["value", "least", "most"] spRange) (D : Df K mg "need_late" sNeedLate ["value"] f fd) : Has P w K mg base CX0 2 "need_late" ["value"] spLate := by
  refine D.has (D.2.1.ok scLate (fun vs H Q E h => ?_) (fun cdv A outer s H vs Q E hr h => ?_))
  · obtain ⟨v, rfl, _⟩ := h
    rfl
  obtain ⟨v, rfl, h1, h2, q⟩ := h
  refine ⟨_, pss_one (ps_expr (pe_has N hr (pa_cons (pv 0) (pa_cons pe_int (pa_cons (pe_late Z) pa_nil))))), ?_⟩
  exact ⟨_, rfl, v, 1, 10 ^ 60, rfl, h1, h2, q⟩

abbrev sLineLimit : Stmt := top 27
abbrev sNeedReach : Stmt := top 28
abbrev sLeastExtra : Stmt := top 29
abbrev sLeastSlope : Stmt := top 30
/-- sizes of lines that are asked for -/
def Lsz (a b : Int) : Prop := 1 ≤ a ∧ 1 ≤ a + b ∧ a ≤ 2 ^ 202 ∧ a + b ≤ 2 ^ 202
theorem Lsz.ln {a b : Int} (h : Lsz a b) {k : Nat} (hk : k ≤ 64) : (ln a b k).natAbs < 2 ^ 13057 :=
  natAbs_lt (n := 13056) (ln_nn h.1 h.2.1 k) (ln_size (c := 202) h.1 h.2.1 h.2.2.1 h.2.2.2 hk)
theorem Lsz.sl {a b : Int} (h : Lsz a b) : (a - 1).natAbs < 2 ^ 203 := by
  obtain ⟨h1, h2, h3, h4⟩ := h
  exact natAbs_lt (n := 202) (by omega) (by omega)
def spLineLimit : Sp := fun vs H Q _ => ∃ (a b : Int) (n : Nat), vs = [.int a, .int b, .int n] ∧ Lsz a b ∧ 1 ≤ n ∧ n ≤ 64 ∧ ∀ H', Same H H' → Q (.int (ln a b n)) H'
theorem scLineLimit : FnScope ["slope", "extra", "level", "before", "now", "_"] ["slope", "extra", "level"] (defScope sLineLimit) := ⟨rfl, rfl, rfl, by decide +kernel, rfl, by decide +kernel, by decide +kernel⟩
theorem ok_lineLimit {f : Addr} {fd : FuncData} (B : Bt mg) (D : Df K mg "_line_limit" sLineLimit ["slope", "extra", "level"] f fd) : Has P w K mg base CX0 1 "_line_limit" ["slope", "extra", "level"] spLineLimit := by
  refine D.has (D.2.1.ok scLineLimit (fun vs H Q E h => ?_) (fun cdv A outer s H vs Q E hr h => ?_))
  · obtain ⟨a, b, n, rfl, _⟩ := h
    rfl
  obtain ⟨a, b, n, rfl, hz, n1, n64, q⟩ := h
  refine ⟨_, pss_cons (ps_asg (pe_tup (pa_cons pe_int (pa_cons pe_int pa_nil))) (pg_tup rfl (pgs_cons (pg_name (i := 3) scLineLimit.nd rfl (.inl rfl)) (pgs_cons (pg_name (i := 4) scLineLimit.nd rfl (.inl rfl)) pgs_nil))))
    (pss_cons (ps_for PassesOwn.never rfl (pi_range1 (by rfl) B.range (pa_cons (pe_op op_sub (pv 2) pe_int) pa_nil)) (pg_name (i := 5) scLineLimit.nd rfl (.inl rfl))
      (pss_one (ps_par (i := 3) (j := 4) rfl scLineLimit.nd rfl rfl (by decide) rfl rfl (pa_cons (pv 4) (pa_cons (pe_op op_add (pe_op op_add (pe_op op_add (pv 4) (pe_op op_mulW (pe_op op_sub (pv 0) pe_int) (pv 3))) (pv 0)) (pv 1)) pa_nil)) (by rfl))))
    (pss_one (ps_ret (pv 4)))), ?_⟩
  refine ⟨(by show 2 ≤ sizeLine; decide), fun p hp => ?_⟩
  have s1 := same_new hp (.tup [.int 0, .int 1])
  refine ⟨p, _, rfl, .of upd_same, rfl, _, _, rfl, _, _, rfl, rfl, ?_⟩
  refine ⟨_, rfl, _, _, rfl, rfl, _, rfl, by omega, by omega, for_range (fun i σ H' => Same H H' ∧ ∃ v, σ = [some (.int a), some (.int b), some (.int n), some (.int (ln a b i)), some (.int (ln a b (i + 1))), v]) ⟨s1, none, rfl⟩ ?_ ?_⟩
  · rintro i σ H' hi ⟨s2, v, rfl⟩
    have hi' : i + 1 < n := by omega
    refine ⟨_, rfl, _, rfl, _, rfl, _, _, rfl, rfl, _, rfl, _, _, rfl, rfl, wide_mul (a := 203) (b := 13057) hz.sl (hz.ln (by omega)) (by decide) (by decide) (by decide), _, _, rfl, rfl, _, rfl, _, _, rfl, rfl, _, rfl, _, _, rfl, rfl, ?_⟩
    exact ⟨_, _, rfl, s2, _, rfl⟩
  · rintro σ H' ⟨s2, v, rfl⟩
    have e : ((n : Int) - 1).toNat + 1 = n := by omega
    refine ⟨_, rfl, ?_⟩
    rw [e]
    exact q _ s2
/-- the error: its class at C, its own dict (new) holds the lateness -/
def Raised (C : Addr) (H : Hp) (E : XK) (t : Int) : Prop := ∀ (dd : Addr) (H' : Hp), Same H H' → H' dd = some (.xd [(("late" : Str), .int t)]) → E (.ref C) (some dd) H'
theorem Raised.same {C : Addr} {H H' : Hp} {E : XK} {t : Int} (r : Raised C H E t) (s : Same H H') : Raised C H' E t := fun dd H2 s2 h => r dd H2 (s.trans s2) h
def spNeedReach (C : Addr) : Sp := fun vs H Q E => ∃ (k t : Int), vs = [.int k, .int t] ∧ (k = 1 ∧ t > 1 → Raised C H E t) ∧ (¬ (k = 1 ∧ t > 1) → Q .non H)
theorem scNeedReach : FnScope ["places", "late"] ["places", "late"] (defScope sNeedReach) := ⟨rfl, rfl, rfl, by decide +kernel, rfl, by decide +kernel, by decide +kernel⟩
variable {C fI cc cda : Addr}
theorem ok_needReach {f : Addr} {fd : FuncData} (T : PySem.LrX.UnTxt P K mg C fI cc cda) (D : Df K mg "_need_reachable" sNeedReach ["places", "late"] f fd) : Has P w K mg base (L2N.CX P w) 3 "_need_reachable" ["places", "late"] (spNeedReach C) := by
  refine D.has (okN D.2.1 scNeedReach (fun vs H Q E h => ?_) (fun cdv A outer s H vs Q E hr h => ?_))
  · obtain ⟨k, t, rfl, _⟩ := h
    rfl
  obtain ⟨k, t, rfl, h1, h2⟩ := h
  refine ⟨_, pss_one (ps_if (PW.pt (pw_and (pt_cmpR op_eq (pv 0) pe_int (nomark _)) (pw_and1 (pt_cmpR op_gt (pv 1) pe_int (nomark _))))) (pss_one (ps_raiseUn rfl T hr (L2N.takes_of rfl rfl rfl rfl) (by exact (pa_cons (pv 1) pa_nil)))) pss_nil), ?_⟩
  refine ⟨_, rfl, rfl, _, rfl, ?_⟩
  by_cases e : k = 1
  · rw [decide_eq_true (congrArg V.int e)]
    refine iteT ⟨_, rfl, _, _, rfl, rfl, _, rfl, ite2 (fun c => ?_) (fun c => ?_)⟩
    · have c := of_decide_eq_true c
      exact ⟨_, rfl, _, rfl, fun d hd => h1 ⟨e, c⟩ d _ (same_new hd _) upd_same⟩
    · have c := of_decide_eq_false (Bool.eq_false_iff.mpr c)
      exact h2 fun z => c z.2
  · rw [decide_eq_false (fun z => e (V.int.inj z))]
    exact iteF (h2 fun z => e z.1)
def spLeastExtra (C : Addr) : Sp := fun vs H Q E => ∃ (a t : Int) (n : Nat), vs = [.int a, .int n, .int t] ∧ 1 ≤ a ∧ a ≤ 1000000 ∧ 1 ≤ n ∧ n ≤ 64 ∧ 1 ≤ t ∧ t ≤ 10 ^ 60 ∧
  (n = 1 ∧ t > 1 → Raised C H E t) ∧ (¬ (n = 1 ∧ t > 1) → ∀ (e : Int) (H' : Hp), Same H H' → ExtraSpec a n t e → e ≤ 10 ^ 60 → Q (.int e) H')
theorem scLeastExtra : FnScope ["slope", "places", "late", "least", "covered", "growth", "missing"] ["slope", "places", "late"] (defScope sLeastExtra) := ⟨rfl, rfl, rfl, by decide +kernel, rfl, by decide +kernel, by decide +kernel⟩
theorem ok_leastExtra {f : Addr} {fd : FuncData} (B : Bt mg) (Z : Kn mg) (N1 : Has P w K mg base CX0 1 "need_range" ["value", "least", "most"] spRange) (N2 : Has P w K mg base CX0 2 "need_places" ["value"] spPlaces) (N3 : Has P w K mg base CX0 2 "need_late" ["value"] spLate)
    (N4 : Has P w K mg base (L2N.CX P w) 3 "_need_reachable" ["places", "late"] (spNeedReach C)) (N5 : Has P w K mg base CX0 1 "_line_limit" ["slope", "extra", "level"] spLineLimit) (D : Df K mg "least_extra" sLeastExtra ["slope", "places", "late"] f fd) :
    Has P w K mg base (L2N.CX P w) 4 "least_extra" ["slope", "places", "late"] (spLeastExtra C) := by
  refine D.has (okN D.2.1 scLeastExtra (fun vs H Q E h => ?_) (fun cdv A outer s H vs Q E hr h => ?_))
  · obtain ⟨a, t, n, rfl, _⟩ := h
    rfl
  obtain ⟨a, t, n, rfl, a1, a2, n1, n64, t1, t2, hR, hQ⟩ := h
  refine ⟨_, pss_cons (ps_expr (pe_has N1 (hr.mono (by decide)) (pa_cons (pv 0) (pa_cons pe_int (pa_cons (pe_slope Z) pa_nil)))))
    <| pss_cons (ps_expr (pe_has N2 (hr.mono (by decide)) (pa_cons (pv 1) pa_nil)))
    <| pss_cons (ps_expr (pe_has N3 (hr.mono (by decide)) (pa_cons (pv 2) pa_nil)))
    <| pss_cons (ps_expr (pe_hasN N4 hr (L2N.takes_of rfl rfl rfl rfl) (by exact (pa_cons (pv 1) (pa_cons (pv 2) pa_nil)))))
    <| pss_cons (ps_set (i := 3) scLeastExtra.nd rfl (.inl rfl) (pe_op op_sub pe_int (pv 0)))
    <| pss_cons (ps_set (i := 4) scLeastExtra.nd rfl (.inl rfl) (pe_has N5 (hr.mono (by decide)) (pa_cons (pv 0) (pa_cons (pv 3) (pa_cons (pv 1) pa_nil)))))
    <| pss_cons (ps_if (pt_cmpR op_ge (pv 4) (pv 2) (nomark _)) (pss_one (ps_ret (pv 3))) pss_nil)
    <| pss_cons (ps_set (i := 5) scLeastExtra.nd rfl (.inl rfl) (pe_op op_sub (pe_has N5 (hr.mono (by decide)) (pa_cons (pv 0) (pa_cons (pe_op op_add (pv 3) pe_int) (pa_cons (pv 1) pa_nil)))) (pv 4)))
    <| pss_cons (ps_set (i := 6) scLeastExtra.nd rfl (.inl rfl) (pe_op op_sub (pv 2) (pv 4)))
    <| pss_one (ps_ret (pe_op op_add (pv 3) (pe_op op_fdivW (pe_op op_sub (pe_op op_add (pv 6) (pv 5)) pe_int) (pv 5)))), ?_⟩
  refine ⟨_, rfl, a, 1, 10 ^ 6, rfl, a1, a2, ?_⟩
  refine ⟨_, rfl, (n : Int), rfl, by omega, by omega, ?_⟩
  refine ⟨_, rfl, t, rfl, t1, t2, ?_⟩
  refine ⟨_, rfl, _, rfl, (n : Int), t, rfl, fun z => hR ⟨by omega, z.2⟩, fun z => ?_⟩
  have z' : ¬ (n = 1 ∧ t > 1) := fun y => z ⟨by omega, y.2⟩
  have q := hQ z'
  refine ⟨_, rfl, _, _, rfl, rfl, ?_⟩
  refine ⟨_, rfl, _, rfl, _, rfl, a, 1 - a, n, rfl, ⟨a1, by omega, by omega, by omega⟩, n1, n64, fun H1 s1 => ?_⟩
  refine ⟨_, rfl, _, rfl, _, _, rfl, rfl, _, rfl, ite2 (fun c => ?_) (fun c => ?_)⟩
  · have c : t ≤ ln a (1 - a) n := of_decide_eq_true c
    exact ⟨_, rfl, q _ _ s1 ⟨Int.le_refl _, c, .inl rfl⟩ (by omega)⟩
  have c : ¬ t ≤ ln a (1 - a) n := of_decide_eq_false (Bool.eq_false_iff.mpr c)
  have n2 : 2 ≤ n := by
    refine Nat.lt_of_not_le fun y => ?_
    have e : n = 1 := by omega
    subst e
    rw [ln_one] at c
    exact z' ⟨rfl, by omega⟩
  refine ⟨_, rfl, _, rfl, _, _, rfl, rfl, _, rfl, a, 1 - a + 1, n, rfl, ⟨a1, by omega, by omega, by omega⟩, n1, n64, fun H2 s2 => ?_⟩
  refine ⟨_, rfl, _, _, rfl, rfl, ?_⟩
  refine ⟨_, rfl, _, rfl, _, _, rfl, rfl, ?_⟩
  have g : ln a (1 - a + 1) n - ln a (1 - a) n = gr a n := by
    rw [ln_succ]
    omega
  have g1 := gr_pos a1 n2
  have g2 : (gr a n).natAbs < 2 ^ 1409 := natAbs_lt (n := 1408) (gr_nn a1 n) (gr_size (c := 20) a1 (by omega) n64)
  rw [← g] at g1 g2
  refine ⟨_, rfl, _, rfl, _, rfl, _, _, rfl, rfl, _, _, rfl, rfl, _, rfl, _, _, rfl, rfl, wide_div (b := 1409) (by omega) g2 (by decide) (by decide), _, _, rfl, rfl, ?_⟩
  have sp := extra_spec a1 n2 (show ln a (1 - a) n < t by omega)
  have bd := extra_bound a1 n2 (show ln a (1 - a) n < t by omega)
  rw [← g] at sp bd
  exact q _ _ (s1.trans s2) sp (by omega)
def spLeastSlope (C : Addr) : Sp := fun vs H Q E => ∃ (t b : Int) (n : Nat), vs = [.int n, .int t, .int b] ∧ -1000000 ≤ b ∧ b ≤ 1000000 ∧ 1 ≤ n ∧ n ≤ 64 ∧ 1 ≤ t ∧ t ≤ 10 ^ 60 ∧
  (n = 1 ∧ t > 1 → Raised C H E t) ∧ (¬ (n = 1 ∧ t > 1) → ∀ (e : Int) (H' : Hp), Same H H' → SlopeSpec b n t e → e ≤ 10 ^ 60 + 1000001 → Q (.int e) H')
theorem scLeastSlope : FnScope ["places", "late", "extra", "low", "high", "middle"] ["places", "late", "extra"] (defScope sLeastSlope) := ⟨rfl, rfl, rfl, by decide +kernel, rfl, by decide +kernel, by decide +kernel⟩
theorem ok_leastSlope {f : Addr} {fd : FuncData} (B : Bt mg) (Z : Kn mg) (N2 : Has P w K mg base CX0 2 "need_places" ["value"] spPlaces) (N3 : Has P w K mg base CX0 2 "need_late" ["value"] spLate)
    (N4 : Has P w K mg base (L2N.CX P w) 3 "_need_reachable" ["places", "late"] (spNeedReach C)) (N5 : Has P w K mg base CX0 1 "_line_limit" ["slope", "extra", "level"] spLineLimit) (F : Fun K "least_slope" "least_slope" sLeastSlope f fd) :
    FnOk P w K mg base (L2N.CX P w) 4 f fd ["places", "late", "extra"] (spLeastSlope C) := by
  refine okN F scLeastSlope (fun vs H Q E h => ?_) (fun cdv A outer s H vs Q E hr h => ?_)
  · obtain ⟨t, b, n, rfl, _⟩ := h
    rfl
  obtain ⟨t, b, n, rfl, b1, b2, n1, n64, t1, t2, hR, hQ⟩ := h
  refine ⟨_, pss_cons (ps_expr (pe_has N2 (hr.mono (by decide)) (pa_cons (pv 0) pa_nil)))
    <| pss_cons (ps_expr (pe_has N3 (hr.mono (by decide)) (pa_cons (pv 1) pa_nil)))
    <| pss_cons (ps_expr (pe_hasN N4 hr (L2N.takes_of rfl rfl rfl rfl) (by exact (pa_cons (pv 0) (pa_cons (pv 1) pa_nil)))))
    <| pss_cons (ps_set (i := 3) scLeastSlope.nd rfl (.inl rfl) (pe_callB (call_max2 rfl) (by rfl) B.max (by decide +kernel) (pa_cons pe_int (pa_cons (pe_op op_sub pe_int (pv 2)) pa_nil))))
    <| pss_cons (ps_set (i := 4) scLeastSlope.nd rfl (.inl rfl) (pe_callB (call_max2 rfl) (by rfl) B.max (by decide +kernel) (pa_cons (pv 3) (pa_cons (pe_op op_sub (pe_op op_sub (pv 1) pe_int) (pv 2)) pa_nil))))
    <| pss_cons (ps_while PassesOwn.leaving (pt_cmpR op_lt (pv 3) (pv 4) (nomark _))
      (pss_cons (ps_set (i := 5) scLeastSlope.nd rfl (.inl rfl) (pe_op op_fdiv (pe_op op_add (pv 3) (pv 4)) pe_int))
      <| pss_one (ps_if (pt_cmpR op_ge (pe_has N5 (hr.mono (by decide)) (pa_cons (pv 5) (pa_cons (pv 2) (pa_cons (pv 0) pa_nil)))) (pv 1) (nomark _)) (pss_one (ps_set (i := 4) scLeastSlope.nd rfl (.inl rfl) (pv 5)))
        (pss_one (ps_set (i := 3) scLeastSlope.nd rfl (.inl rfl) (pe_op op_add (pv 5) pe_int))))))
    <| pss_one (ps_ret (pv 3)), ?_⟩
  refine ⟨_, rfl, (n : Int), rfl, by omega, by omega, ?_⟩
  refine ⟨_, rfl, t, rfl, t1, t2, ?_⟩
  refine ⟨_, rfl, _, rfl, (n : Int), t, rfl, fun z => hR ⟨by omega, z.2⟩, fun z => ?_⟩
  have z' : ¬ (n = 1 ∧ t > 1) := fun y => z ⟨by omega, y.2⟩
  have q := hQ z'
  obtain ⟨l1, l2, l3⟩ := lowS_ok b
  have tp := slope_top (b := b) (d := t) (k := n) n1 (fun y => by
    refine Int.le_of_not_gt fun c => z' ⟨y, c⟩)
  have tpb : lowS b ≤ (if t - 1 - b > lowS b then t - 1 - b else lowS b) ∧ (if t - 1 - b > lowS b then t - 1 - b else lowS b) ≤ 10 ^ 60 + 1000001 := by
    split <;> (rcases l3 with l3 | l3 <;> omega)
  refine ⟨_, rfl, _, _, rfl, rfl, _, _, rfl, ?_⟩
  refine ⟨_, rfl, _, rfl, _, _, rfl, rfl, _, rfl, _, _, rfl, rfl, _, _, rfl, ?_⟩
  refine ⟨fun m σ H' => ∃ (lo hi : Int) (v : Option V), m = (hi - lo).toNat ∧ σ = [some (.int n), some (.int t), some (.int b), some (.int lo), some (.int hi), v] ∧ Same H H' ∧ lowS b ≤ lo ∧ lo ≤ hi ∧ hi ≤ 10 ^ 60 + 1000001 ∧ t ≤ ln hi b n ∧ (lo = lowS b ∨ ln (lo - 1) b n < t),
    ⟨_, lowS b, _, none, rfl, rfl, Same.refl H, Int.le_refl _, tpb.1, tpb.2, tp, .inl rfl⟩, ?_⟩
  rintro m σ H' ⟨lo, hi, v, rfl, rfl, s1, w1, w2, w3, w4, w5⟩
  refine ⟨_, rfl, _, rfl, _, _, rfl, rfl, _, rfl, ite2 (fun c => ?_) (fun c => ?_)⟩
  · have c : lo < hi := of_decide_eq_true c
    refine ⟨fun σ' H2 => ∃ (lo' hi' : Int) (v : Option V), (hi' - lo').toNat < (hi - lo).toNat ∧ σ' = [some (.int n), some (.int t), some (.int b), some (.int lo'), some (.int hi'), v] ∧ Same H H2 ∧ lowS b ≤ lo' ∧ lo' ≤ hi' ∧ hi' ≤ 10 ^ 60 + 1000001 ∧ t ≤ ln hi' b n ∧ (lo' = lowS b ∨ ln (lo' - 1) b n < t),
      fun σ' H2 ⟨lo', hi', v, x0, x1, x2, x3, x4, x5, x6, x7⟩ => ⟨_, x0, lo', hi', v, rfl, x1, x2, x3, x4, x5, x6, x7⟩, ?_⟩
    refine ⟨_, rfl, _, rfl, _, _, rfl, rfl, _, _, rfl, rfl, ⟨by decide, by decide⟩, ?_⟩
    have m1 : lo ≤ (lo + hi) / 2 := by omega
    have m2 : (lo + hi) / 2 < hi := by omega
    refine ⟨_, rfl, _, rfl, _, rfl, (lo + hi) / 2, b, n, rfl, ⟨by omega, by omega, by omega, by omega⟩, n1, n64, fun H2 s2 => ?_⟩
    refine ⟨_, rfl, _, _, rfl, rfl, _, rfl, ite2 (fun c2 => ?_) (fun c2 => ?_)⟩
    · have c2 : t ≤ ln ((lo + hi) / 2) b n := of_decide_eq_true c2
      exact ⟨_, rfl, lo, (lo + hi) / 2, _, by omega, rfl, s1.trans s2, w1, m1, by omega, c2, w5⟩
    · have c2 : ¬ t ≤ ln ((lo + hi) / 2) b n := of_decide_eq_false (Bool.eq_false_iff.mpr c2)
      exact ⟨_, rfl, _, _, rfl, rfl, (lo + hi) / 2 + 1, hi, _, by omega, rfl, s1.trans s2, by omega, by omega, w3, w4, .inr (by rw [Int.add_sub_cancel]; omega)⟩
  · have c : ¬ lo < hi := of_decide_eq_false (Bool.eq_false_iff.mpr c)
    have e : lo = hi := by omega
    subst e
    exact ⟨_, rfl, q _ _ s1 ⟨w1, w4, w5⟩ w3⟩
end
end Lr

/-! least_level, hopeless_level -/
namespace Lr
open PySem L2
abbrev sLeastLevel : Stmt := top 25
abbrev sHopeless : Stmt := top 26
def spLeastLevel (c : Cs) (d : Nat) (C : Addr) : Sp := fun vs H Q E => ∃ (a : Addr) (m : Mdl) (t : Int), vs = [.ref a, .int t] ∧ RuleAt c H a m ∧ Ok m ∧ deep m ≤ d ∧ 1 ≤ t ∧ t ≤ 10 ^ 60 ∧
  (∀ (l : Nat) (H' : Hp), LeastSpec (reach (price m)) t l → l ≤ 64 → Same H H' → Q (.int l) H') ∧ (LeastSpec (reach (price m)) t 65 → Raised C H E t)
def spHopeless (c : Cs) (d : Nat) : Sp := fun vs H Q _ => ∃ (a : Addr) (m : Mdl) (t : Int), vs = [.ref a, .int t] ∧ RuleAt c H a m ∧ Ok m ∧ deep m ≤ d ∧ 1 ≤ t ∧ t ≤ 10 ^ 60 ∧
  ∀ (l : Nat) (H' : Hp), HopeSpec (lim (price m)) t l → Same H H' → Q (.int l) H'
theorem row_at {H : Hp} {f : Int → Int} {n k : Nat} {rs : List V} {i : Int} (h : RowsAt H f n rs) (hk : k < n) (e : i = (k : Int)) : ∃ p, atI rs i = some (.ref p) ∧ H p = some (.tup (row3 f k)) := by
  obtain ⟨p, a, b⟩ := h.2 k hk
  rw [e]
  exact ⟨p, atI_nat a, b⟩
section
variable {P : Program} {w : World} {K : PySem.W.Frag} {mg : Str → Option Value} {base : Heap} {c : Cs} {C fI cc cda : Addr} {d : Nat}
theorem scLeastLevel : FnScope ["rule", "late", "rows", "level"] ["rule", "late"] (defScope sLeastLevel) := ⟨rfl, rfl, rfl, by decide +kernel, rfl, by decide +kernel, by decide +kernel⟩
theorem ok_leastLevel {f : Addr} {fd : FuncData} (B : Bt mg) (Z : Kn mg) (T : PySem.LrX.UnTxt P K mg C fI cc cda) (N3 : Has P w K mg base CX0 2 "need_late" ["value"] spLate) (NT : Has P w K mg base CX0 8 "reach_table" ["rule", "level"] (spTable c d))
    (D : Df K mg "least_level" sLeastLevel ["rule", "late"] f fd) : Has P w K mg base (L2N.CX P w) 9 "least_level" ["rule", "late"] (spLeastLevel c d C) := by
  refine D.has (okN D.2.1 scLeastLevel (fun vs H Q E h => ?_) (fun cdv A outer s H vs Q E hr h => ?_))
  · obtain ⟨a, m, t, rfl, _⟩ := h
    rfl
  obtain ⟨a, m, t, rfl, ha, ok, hd, t1, t2, hQ, hE⟩ := h
  refine ⟨_, pss_cons (ps_expr (pe_has N3 (hr.mono (by decide)) (pa_cons (pv 1) pa_nil)))
    <| pss_cons (ps_set (i := 2) scLeastLevel.nd rfl (.inl rfl) (pe_has NT hr (pa_cons (pv 0) (pa_cons (pe_places Z) pa_nil))))
    <| pss_cons (ps_for PassesOwn.leaving rfl (pi_range1 (by rfl) B.range (pa_cons (pe_op op_add (pe_places Z) pe_int) pa_nil)) (pg_name (i := 3) scLeastLevel.nd rfl (.inl rfl))
      (pss_one (ps_if (pt_cmpR op_ge (pe_ix ix_tup (pe_ix ix_list (pv 2) (pv 3) (fun _ _ => rfl)) pe_int (fun _ _ => rfl)) (pv 1) (nomark _)) (pss_one (ps_ret (pv 3))) pss_nil)))
    <| pss_one (ps_raiseUn rfl T hr (L2N.takes_of rfl rfl rfl rfl) (by exact (pa_cons (pv 1) pa_nil))), ?_⟩
  refine ⟨_, rfl, t, rfl, t1, t2, ?_⟩
  refine ⟨_, rfl, a, m, rfl, ha, ok, hd, fun p H1 rs s1 hp hR => ?_⟩
  refine ⟨_, _, rfl, rfl, _, rfl, by decide, by decide, for_range (n := 65) (fun i σ H' => H' = H1 ∧ (∃ v, σ = [some (.ref a), some (.int t), some (.ref p), v]) ∧ ∀ j, j < i → reach (price m) j < t) ⟨rfl, ⟨none, rfl⟩, fun j hj => absurd hj (Nat.not_lt_zero j)⟩ ?_ ?_⟩
  · rintro i σ H' hi ⟨rfl, ⟨v, rfl⟩, hb⟩
    obtain ⟨q, hq, tq⟩ := row_at (i := 0 + (i : Int)) hR hi (Int.zero_add _)
    refine ⟨_, rfl, _, rfl, p, _, _, _, rfl, rfl, .of hp, hq, q, _, _, _, rfl, rfl, .of tq, atI_nat (j := 0) rfl, _, rfl, _, _, rfl, rfl, _, rfl, ite2 (fun cc => ?_) (fun cc => ?_)⟩
    · have cc : t ≤ reach (price m) i := of_decide_eq_true cc
      refine ⟨_, rfl, ?_⟩
      have e : (0 : Int) + (i : Int) = (i : Int) := Int.zero_add _
      rw [e]
      have i1 : 1 ≤ i := by
        refine Nat.pos_of_ne_zero fun z => ?_
        rw [z, reach_zero] at cc
        omega
      exact hQ i _ (.inl ⟨i1, by omega, cc, hb⟩) (by omega) s1
    · have cc : ¬ t ≤ reach (price m) i := of_decide_eq_false (Bool.eq_false_iff.mpr cc)
      refine ⟨rfl, ⟨_, rfl⟩, fun j hj => ?_⟩
      by_cases e : j = i
      · rw [e]
        omega
      · exact hb j (by omega)
  · rintro σ H' ⟨rfl, ⟨v, rfl⟩, hb⟩
    exact ⟨_, rfl, _, rfl, fun dd hdd => (hE (.inr ⟨rfl, fun j hj => hb j (by omega)⟩)).same s1 dd _ (same_new hdd _) upd_same⟩
theorem scHopeless : FnScope ["rule", "late", "bounds", "found", "level"] ["rule", "late"] (defScope sHopeless) := ⟨rfl, rfl, rfl, by decide +kernel, rfl, by decide +kernel, by decide +kernel⟩
theorem ok_hopeless {f : Addr} {fd : FuncData} (B : Bt mg) (Z : Kn mg) (N3 : Has P w K mg base CX0 2 "need_late" ["value"] spLate) (NL : Has P w K mg base CX0 8 "limits" ["rule", "level"] (spLimits c d))
    (D : Df K mg "hopeless_level" sHopeless ["rule", "late"] f fd) : Has P w K mg base CX0 9 "hopeless_level" ["rule", "late"] (spHopeless c d) := by
  refine D.has (D.2.1.ok scHopeless (fun vs H Q E h => ?_) (fun cdv A outer s H vs Q E hr h => ?_))
  · obtain ⟨a, m, t, rfl, _⟩ := h
    rfl
  obtain ⟨a, m, t, rfl, ha, ok, hd, t1, t2, hQ⟩ := h
  have G := good_price ok
  refine ⟨_, pss_cons (ps_expr (pe_has N3 (hr.mono (by decide)) (pa_cons (pv 1) pa_nil)))
    <| pss_cons (ps_set (i := 2) scHopeless.nd rfl (.inl rfl) (pe_has NL hr (pa_cons (pv 0) (pa_cons (pe_places Z) pa_nil))))
    <| pss_cons (ps_set (i := 3) scHopeless.nd rfl (.inl rfl) pe_int)
    <| pss_cons (ps_for PassesOwn.never rfl (pi_range1 (by rfl) B.range (pa_cons (pe_op op_add (pe_places Z) pe_int) pa_nil)) (pg_name (i := 4) scHopeless.nd rfl (.inl rfl))
      (pss_one (ps_if (pt_cmpR op_lt (pe_ix ix_list (pv 2) (pv 4) (fun _ _ => rfl)) (pv 1) (nomark _)) (pss_one (ps_set (i := 3) scHopeless.nd rfl (.inl rfl) (pv 4))) pss_nil)))
    <| pss_one (ps_ret (pv 3)), ?_⟩
  refine ⟨_, rfl, t, rfl, t1, t2, ?_⟩
  refine ⟨_, rfl, a, m, rfl, ha, ok, hd, fun p H1 s1 hp => ?_⟩
  refine ⟨_, _, rfl, rfl, _, rfl, by decide, by decide, for_range (n := 65) (fun i σ H' => H' = H1 ∧ ∃ (l : Nat) (v : Option V), σ = [some (.ref a), some (.int t), some (.ref p), some (.int l), v] ∧ l ≤ 64 ∧ lim (price m) l < t ∧ (∀ j, l < j → j < i → t ≤ lim (price m) j)) ⟨rfl, 0, none, rfl, by decide, by rw [lim_zero]; omega, fun j _ hj => absurd hj (Nat.not_lt_zero j)⟩ ?_ ?_⟩
  · rintro i σ H' hi ⟨rfl, l, v, rfl, l64, hl, hb⟩
    refine ⟨_, rfl, _, rfl, p, _, _, _, rfl, rfl, .of hp, sq_at (k := i) hi (Int.zero_add _), _, rfl, _, _, rfl, rfl, _, rfl, ite2 (fun cc => ?_) (fun cc => ?_)⟩
    · have cc : lim (price m) i < t := of_decide_eq_true cc
      refine ⟨_, rfl, rfl, i, some (.int (0 + (i : Int))), ?_, by omega, cc, fun j h1 h2 => by omega⟩
      have e : (0 : Int) + (i : Int) = (i : Int) := Int.zero_add _
      rw [e]
      rfl
    · have cc : ¬ lim (price m) i < t := of_decide_eq_false (Bool.eq_false_iff.mpr cc)
      refine ⟨rfl, l, _, rfl, l64, hl, fun j h1 h2 => ?_⟩
      by_cases e : j = i
      · rw [e]
        omega
      · exact hb j h1 (by omega)
  · rintro σ H' ⟨rfl, l, v, rfl, l64, hl, hb⟩
    exact ⟨_, rfl, hQ l _ ⟨l64, hl, fun j h1 h2 => hb j h1 (by omega)⟩ s1⟩
end
end Lr

/-! the law's own recurrences: _law_price, _law_limits, _law_levels, _law_reached -/
namespace Lr
open PySem L2
theorem sEq (a : Str) : V.bl (decide (V.str a = V.str a)) = V.bl true := by rw [decide_eq_true rfl]
theorem sNe {a b : Str} (h : (a == b) = false) : V.bl (decide (V.str a = V.str b)) = V.bl false := by
  rw [decide_eq_false fun z => by
    have e := V.str.inj z
    subst e
    simp at h]
/-- a model: tuples -/
def ModAt (H : Hp) : Addr → Mdl → Prop
  | a, .line s e => H a = some (.tup [.str "line", .int s, .int e])
  | a, .table ps sl fl => ∃ t, H a = some (.tup [.str "table", .ref t, .int sl, .int fl]) ∧ H t = some (.tup (ps.map V.int))
  | a, .comb true x y fl => ∃ u v, H a = some (.tup [.str "greater", .ref u, .ref v, .int fl]) ∧ ModAt H u x ∧ ModAt H v y
  | a, .comb false x y fl => ∃ u v, H a = some (.tup [.str "lesser", .ref u, .ref v, .int fl]) ∧ ModAt H u x ∧ ModAt H v y
theorem ModAt.nl {H H' : Hp} (n : NL H H') : ∀ {m : Mdl} {a : Addr}, ModAt H a m → ModAt H' a m
  | .line s e, a, h => n _ _ h fun _ z => by cases z
  | .table ps sl _, a, ⟨t, h1, h2⟩ => ⟨t, n _ _ h1 fun _ z => (by cases z), n _ _ h2 fun _ z => (by cases z)⟩
  | .comb true x y _, a, ⟨u, v, h, hu, hv⟩ => ⟨u, v, n _ _ h fun _ z => (by cases z), hu.nl n, hv.nl n⟩
  | .comb false x y _, a, ⟨u, v, h, hu, hv⟩ => ⟨u, v, n _ _ h fun _ z => (by cases z), hu.nl n, hv.nl n⟩
theorem ModAt.same {H H' : Hp} {m : Mdl} {a : Addr} (h : ModAt H a m) (s : Same H H') : ModAt H' a m := h.nl (NL.of_same s)
abbrev sPrice : Stmt := top 39
abbrev sLawLimits : Stmt := top 41
abbrev sLawLevels : Stmt := top 42
abbrev sReached : Stmt := top 43
theorem row_at1 {H : Hp} {f : Int → Int} {n k : Nat} {rs : List V} {i : Int} (h : RowsAt H f n rs) (hk : k < n) (e : i = (k : Int)) : ∃ p, atI rs i = some (.ref p) ∧ H p = some (.tup (row3 f k)) := by
  obtain ⟨p, a, b⟩ := h.2 k hk
  rw [e]
  exact ⟨p, atI_nat a, b⟩
def spPrice (d : Nat) : Sp := fun vs H Q _ => ∃ (a : Addr) (m : Mdl) (t : Int), vs = [.ref a, .int t] ∧ ModAt H a m ∧ Ok m ∧ deep m < d ∧ 1 ≤ t ∧ Q (.int (price m t)) H
section
variable {P : Program} {w : World} {K : PySem.W.Frag} {mg : Str → Option Value} {base : Heap}
theorem scPrice : FnScope ["_law_model_here", "_law_days_here", "_law_listed", "_law_one", "_law_other"] ["_law_model_here", "_law_days_here"] (defScope sPrice) := ⟨rfl, rfl, rfl, by decide +kernel, rfl, by decide +kernel, by decide +kernel⟩
theorem price_turn {f : Addr} {fd : FuncData} {d : Nat} (B : Bt mg) (D : Df K mg "_law_price" sPrice ["_law_model_here", "_law_days_here"] f fd) (N : Has P w K mg base CX0 d "_law_price" ["_law_model_here", "_law_days_here"] (spPrice d)) :
    Has P w K mg base CX0 (d + 1) "_law_price" ["_law_model_here", "_law_days_here"] (spPrice (d + 1)) := by
  refine D.has (D.2.1.ok scPrice (fun vs H Q E h => ?_) (fun cdv A outer s H vs Q E hr h => ?_))
  · obtain ⟨a, m, t, rfl, _⟩ := h
    rfl
  obtain ⟨a, m, t, rfl, ha, ok, hd, t1, q⟩ := h
  refine ⟨_, pss_cons (ps_if (pt_cmpR op_eq (pe_ix ix_tup (pv 0) pe_int (fun _ _ => rfl)) pe_str (nomark _))
      (pss_one (ps_ret (pe_op op_add (pe_op op_mul (pe_ix ix_tup (pv 0) pe_int (fun _ _ => rfl)) (pv 1)) (pe_ix ix_tup (pv 0) pe_int (fun _ _ => rfl))))) pss_nil)
    <| pss_cons (ps_if (pt_cmpR op_eq (pe_ix ix_tup (pv 0) pe_int (fun _ _ => rfl)) pe_str (nomark _))
      (pss_cons (ps_set (i := 2) scPrice.nd rfl (.inl rfl) (pe_ix ix_tup (pv 0) pe_int (fun _ _ => rfl)))
      <| pss_cons (ps_if (pt_cmpR op_le (pv 1) (pe_callB call_len_seq (by rfl) B.len PySem.boot_len (pa_cons (pv 2) pa_nil)) (nomark _)) (pss_one (ps_ret (pe_ix ix_tup (pv 2) (pe_op op_sub (pv 1) pe_int) (fun _ _ => rfl)))) pss_nil)
      <| pss_one (ps_ret (pe_op op_add (pe_ix ix_tup (pv 2) (pe_un un_neg pe_int) (fun _ _ => rfl)) (pe_op op_mul (pe_ix ix_tup (pv 0) pe_int (fun _ _ => rfl)) (pe_op op_sub (pv 1) (pe_callB call_len_seq (by rfl) B.len PySem.boot_len (pa_cons (pv 2) pa_nil))))))) pss_nil)
    <| pss_cons (ps_set (i := 3) scPrice.nd rfl (.inl rfl) (pe_has N hr (pa_cons (pe_ix ix_tup (pv 0) pe_int (fun _ _ => rfl)) (pa_cons (pv 1) pa_nil))))
    <| pss_cons (ps_set (i := 4) scPrice.nd rfl (.inl rfl) (pe_has N hr (pa_cons (pe_ix ix_tup (pv 0) pe_int (fun _ _ => rfl)) (pa_cons (pv 1) pa_nil))))
    <| pss_cons (ps_if (pt_cmpR op_eq (pe_ix ix_tup (pv 0) pe_int (fun _ _ => rfl)) pe_str (nomark _)) (pss_one (ps_ret (pe_callB (call_min2 rfl) (by rfl) B.min (by decide +kernel) (pa_cons (pv 3) (pa_cons (pv 4) pa_nil))))) pss_nil)
    <| pss_one (ps_ret (pe_callB (call_max2 rfl) (by rfl) B.max (by decide +kernel) (pa_cons (pv 3) (pa_cons (pv 4) pa_nil)))), ?_⟩
  match m, ha, ok, hd, q with
  | .line s e, ha, ⟨o1, o2, _⟩, hd, q =>
    refine ⟨_, rfl, a, _, _, _, rfl, rfl, .of ha, atI_nat (j := 0) rfl, rfl, true, sEq _, iteT ?_⟩
    exact ⟨_, rfl, a, _, _, _, rfl, rfl, .of ha, atI_nat (j := 1) rfl, _, rfl, _, _, rfl, rfl, .inl ⟨by omega, by omega⟩, _, rfl, a, _, _, _, rfl, rfl, .of ha, atI_nat (j := 2) rfl, _, _, rfl, rfl, q⟩
  | .table ps sl fl, ⟨u, ha, hu⟩, ⟨⟨p1, p2, p3, p4, p5⟩, o1, o2, _⟩, hd, q =>
    have hl : (ps.map V.int).length = ps.length := List.length_map _
    refine ⟨_, rfl, a, _, _, _, rfl, rfl, .of ha, atI_nat (j := 0) rfl, rfl, false, sNe (by decide +kernel), iteF ?_⟩
    refine ⟨_, rfl, a, _, _, _, rfl, rfl, .of ha, atI_nat (j := 0) rfl, rfl, true, sEq _, iteT ?_⟩
    refine ⟨_, rfl, a, _, _, _, rfl, rfl, .of ha, atI_nat (j := 1) rfl, ?_⟩
    refine ⟨_, rfl, _, rfl, u, _, rfl, .inr (.of hu), _, _, rfl, rfl, _, rfl, ite2 (fun c => ?_) (fun c => ?_)⟩
    · have c : t ≤ (((ps.map V.int).length : Nat) : Int) := of_decide_eq_true c
      rw [hl] at c
      refine ⟨_, rfl, _, rfl, _, _, rfl, rfl, u, _, _, _, rfl, rfl, .of hu, atI_int (by omega) (by omega), ?_⟩
      have e : price (.table ps sl fl) t = ps.getD (t - 1).toNat 0 := if_pos c
      rw [e] at q
      exact q
    · have c : ¬ t ≤ (((ps.map V.int).length : Nat) : Int) := of_decide_eq_false (Bool.eq_false_iff.mpr c)
      rw [hl] at c
      refine ⟨_, rfl, 1, rfl, u, _, _, _, rfl, rfl, .of hu, atI_neg (k := 1) (by decide) (by rw [hl]; exact p1) (int_nth (by rw [hl]; omega)) (by decide), ?_⟩
      refine ⟨_, rfl, a, _, _, _, rfl, rfl, .of ha, atI_nat (j := 2) rfl, _, rfl, _, rfl, u, _, rfl, .inr (.of hu), _, _, rfl, rfl, _, _, rfl, rfl, .inl ⟨by omega, by omega⟩, _, _, rfl, rfl, ?_⟩
      have e : price (.table ps sl fl) t = ps.getD (ps.length - 1) 0 + sl * (t - (ps.length : Int)) := if_neg c
      rw [e] at q
      rw [hl]
      exact q
  | .comb true x y fl, ⟨u, v, ha, hu, hv⟩, ⟨ox, oy, _⟩, hd, q =>
    have z : deep x < d ∧ deep y < d := by
      simp only [deep] at hd
      split at hd <;> omega
    refine ⟨_, rfl, a, _, _, _, rfl, rfl, .of ha, atI_nat (j := 0) rfl, rfl, false, sNe (by decide +kernel), iteF ?_⟩
    refine ⟨_, rfl, a, _, _, _, rfl, rfl, .of ha, atI_nat (j := 0) rfl, rfl, false, sNe (by decide +kernel), iteF ?_⟩
    refine ⟨_, rfl, a, _, _, _, rfl, rfl, .of ha, atI_nat (j := 1) rfl, _, rfl, u, x, t, rfl, hu, ox, z.1, t1, ?_⟩
    refine ⟨_, rfl, a, _, _, _, rfl, rfl, .of ha, atI_nat (j := 2) rfl, _, rfl, v, y, t, rfl, hv, oy, z.2, t1, ?_⟩
    refine ⟨_, rfl, a, _, _, _, rfl, rfl, .of ha, atI_nat (j := 0) rfl, rfl, false, sNe (by decide +kernel), iteF ?_⟩
    exact ⟨_, rfl, _, rfl, _, _, rfl, q⟩
  | .comb false x y fl, ⟨u, v, ha, hu, hv⟩, ⟨ox, oy, _⟩, hd, q =>
    have z : deep x < d ∧ deep y < d := by
      simp only [deep] at hd
      split at hd <;> omega
    refine ⟨_, rfl, a, _, _, _, rfl, rfl, .of ha, atI_nat (j := 0) rfl, rfl, false, sNe (by decide +kernel), iteF ?_⟩
    refine ⟨_, rfl, a, _, _, _, rfl, rfl, .of ha, atI_nat (j := 0) rfl, rfl, false, sNe (by decide +kernel), iteF ?_⟩
    refine ⟨_, rfl, a, _, _, _, rfl, rfl, .of ha, atI_nat (j := 1) rfl, _, rfl, u, x, t, rfl, hu, ox, z.1, t1, ?_⟩
    refine ⟨_, rfl, a, _, _, _, rfl, rfl, .of ha, atI_nat (j := 2) rfl, _, rfl, v, y, t, rfl, hv, oy, z.2, t1, ?_⟩
    refine ⟨_, rfl, a, _, _, _, rfl, rfl, .of ha, atI_nat (j := 0) rfl, rfl, true, sEq _, iteT ?_⟩
    exact ⟨_, rfl, _, rfl, _, _, rfl, q⟩
theorem ok_price {f : Addr} {fd : FuncData} (B : Bt mg) (D : Df K mg "_law_price" sPrice ["_law_model_here", "_law_days_here"] f fd) : ∀ d, Has P w K mg base CX0 d "_law_price" ["_law_model_here", "_law_days_here"] (spPrice d)
  | 0 => by
    have no : ∀ vs H Q E, ¬ spPrice 0 vs H Q E := fun vs H Q E ⟨a, m, t, _, _, _, h, _⟩ => Nat.not_lt_zero _ h
    exact D.has ⟨fun vs H Q E h => absurd h (no vs H Q E), fun A outer s H args us vs Q E _ _ _ _ h => absurd h (no vs H Q E)⟩
  | d + 1 => price_turn B D (ok_price B D d)
def spLawLimits (d : Nat) : Sp := fun vs H Q _ => ∃ (a : Addr) (m : Mdl), vs = [.ref a, .int 64] ∧ ModAt H a m ∧ Ok m ∧ deep m < d ∧ ∀ (p : Addr) (H' : Hp), H p = none → Same H H' → H' p = some (.lst (lims (price m) 65)) → Q (.ref p) H'
def spLawLevels (d : Nat) : Sp := fun vs H Q _ => ∃ (a : Addr) (m : Mdl), vs = [.ref a, .int 64] ∧ ModAt H a m ∧ Ok m ∧ deep m < d ∧ ∀ (p : Addr) (H' : Hp) (rs : List V), H p = none → Same H H' → H' p = some (.lst rs) → RowsAt H' (price m) 65 rs → Q (.ref p) H'
def spReached : Sp := fun vs H Q _ => ∃ (a b : Int) (n : Nat), vs = [.int a, .int b, .int n] ∧ Lsz a b ∧ 1 ≤ n ∧ n ≤ 64 ∧ ∀ H', Same H H' → Q (.int (ln a b n)) H'
theorem scLawLimits : FnScope ["_law_model_here", "_law_top", "_law_row", "_law_k"] ["_law_model_here", "_law_top"] (defScope sLawLimits) := ⟨rfl, rfl, rfl, by decide +kernel, rfl, by decide +kernel, by decide +kernel⟩
theorem ok_lawLimits {f : Addr} {fd : FuncData} {d k : Nat} (B : Bt mg) (N : Has P w K mg base CX0 k "_law_price" ["_law_model_here", "_law_days_here"] (spPrice d)) (D : Df K mg "_law_limits" sLawLimits ["_law_model_here", "_law_top"] f fd) :
    Has P w K mg base CX0 (k + 1) "_law_limits" ["_law_model_here", "_law_top"] (spLawLimits d) := by
  refine D.has (D.2.1.ok scLawLimits (fun vs H Q E h => ?_) (fun cdv A outer s H vs Q E hr h => ?_))
  · obtain ⟨a, m, rfl, _⟩ := h
    rfl
  obtain ⟨a, m, rfl, ha, ok, hd, q⟩ := h
  have G := good_price ok
  refine ⟨_, pss_cons (ps_set (i := 2) scLawLimits.nd rfl (.inl rfl) (pe_lst (pa_cons pe_int (pa_cons pe_int pa_nil))))
    <| pss_cons (ps_for PassesOwn.never rfl (pi_range2 (by rfl) B.range (pa_cons pe_int (pa_cons (pe_op op_add (pv 1) pe_int) pa_nil))) (pg_name (i := 3) scLawLimits.nd rfl (.inl rfl))
      (pss_one (ps_expr (pe_bm PySem.F.plainAttrs_list PySem.F.slot_list_append PySem.F.type_list_append mt_append (pv 2) (pa_cons (pe_op op_sub (pe_op op_add
        (pe_has N hr (pa_cons (pv 0) (pa_cons (pe_op op_add (pe_ix ix_list (pv 2) (pe_op op_sub (pv 3) pe_int) (fun _ _ => rfl)) pe_int) pa_nil)))
        (pe_ix ix_list (pv 2) (pe_op op_sub (pv 3) pe_int) (fun _ _ => rfl))) (pe_ix ix_list (pv 2) (pe_op op_sub (pv 3) pe_int) (fun _ _ => rfl))) pa_nil)))))
    <| pss_one (ps_ret (pv 2)), ?_⟩
  refine ⟨(by show 2 ≤ sizeLine; decide), fun p hp => ?_⟩
  refine ⟨_, rfl, _, _, rfl, rfl, 2, 65, rfl, ⟨by decide, by decide, by decide, by decide⟩, for_range (lo := 2) (n := 63) (fun i σ H' => Same H H' ∧ (∃ v, σ = [some (.ref a), some (.int 64), some (.ref p), v]) ∧ H' p = some (.lst (lims (price m) (i + 2)))) ⟨same_new hp _, ⟨none, rfl⟩, upd_same⟩ ?_ ?_⟩
  · rintro i σ H' hi ⟨s1, ⟨v, rfl⟩, hL⟩
    have hl : (lims (price m) (i + 2)).length = i + 2 := sq_len _ _
    have n0 := lim_nn G i
    refine ⟨_, rfl, .inl ⟨rfl, _, .inl (.inl hL)⟩, ?_⟩
    refine ⟨_, rfl, _, rfl, _, rfl, _, _, rfl, rfl, p, _, _, _, rfl, rfl, .of hL, sq_at (k := i) (by omega) (by omega), _, _, rfl, rfl, a, m, _, rfl, ha.same s1, ok, hd, by omega, ?_⟩
    refine ⟨_, rfl, _, rfl, _, _, rfl, rfl, p, _, _, _, rfl, rfl, .of hL, sq_at (k := i + 1) (by omega) (by omega), _, _, rfl, rfl, ?_⟩
    refine ⟨_, rfl, _, rfl, _, _, rfl, rfl, p, _, _, _, rfl, rfl, .of hL, sq_at (k := i) (by omega) (by omega), _, _, rfl, rfl, ?_⟩
    refine ⟨p, _, _, rfl, rfl, hL, small1000 (by rw [hl]; omega), same_mut s1 hp, ⟨_, rfl⟩, ?_⟩
    have z : lims (price m) (i + 1 + 2) = lims (price m) (i + 2) ++ [V.int (price m (lim (price m) i + 1) + lim (price m) (i + 1) - lim (price m) i)] := by
      rw [← lim_step]
      exact sq_succ _ _
    rw [z]
    exact upd_same
  · rintro σ H' ⟨s1, ⟨v, rfl⟩, hL⟩
    exact ⟨_, rfl, q p _ hp s1 hL⟩
theorem scLawLevels : FnScope ["_law_model_here", "_law_top", "_law_cost", "_law_rows", "_law_k", "_law_far", "_law_many", "_law_span"] ["_law_model_here", "_law_top"] (defScope sLawLevels) := ⟨rfl, rfl, rfl, by decide +kernel, rfl, by decide +kernel, by decide +kernel⟩
theorem ok_lawLevels {f : Addr} {fd : FuncData} {d k : Nat} (B : Bt mg) (N : Has P w K mg base CX0 k "_law_price" ["_law_model_here", "_law_days_here"] (spPrice d)) (D : Df K mg "_law_levels" sLawLevels ["_law_model_here", "_law_top"] f fd) :
    Has P w K mg base CX0 (k + 1) "_law_levels" ["_law_model_here", "_law_top"] (spLawLevels d) := by
  refine D.has (D.2.1.ok scLawLevels (fun vs H Q E h => ?_) (fun cdv A outer s H vs Q E hr h => ?_))
  · obtain ⟨a, m, rfl, _⟩ := h
    rfl
  obtain ⟨a, m, rfl, ha, ok, hd, q⟩ := h
  have G := good_price ok
  refine ⟨_, pss_cons (ps_set (i := 2) scLawLevels.nd rfl (.inl rfl) (pe_has N hr (pa_cons (pv 0) (pa_cons pe_int pa_nil))))
    <| pss_cons (ps_set (i := 3) scLawLevels.nd rfl (.inl rfl) (pe_lst (pa_cons (pe_tup (pa_cons pe_int (pa_cons pe_int (pa_cons pe_int pa_nil)))) (pa_cons (pe_tup (pa_cons pe_int (pa_cons pe_int (pa_cons pe_int pa_nil))))
      (pa_cons (pe_tup (pa_cons (pe_op op_add pe_int (pv 2)) (pa_cons (pv 2) (pa_cons pe_int pa_nil)))) pa_nil)))))
    <| pss_cons (ps_for PassesOwn.never rfl (pi_range2 (by rfl) B.range (pa_cons pe_int (pa_cons (pe_op op_add (pv 1) pe_int) pa_nil))) (pg_name (i := 4) scLawLevels.nd rfl (.inl rfl))
      (pss_cons (ps_set (i := 5) scLawLevels.nd rfl (.inl rfl) (pe_ix ix_tup (pe_ix ix_list (pv 3) (pe_op op_sub (pv 4) pe_int) (fun _ _ => rfl)) pe_int (fun _ _ => rfl)))
      <| pss_cons (ps_set (i := 6) scLawLevels.nd rfl (.inl rfl) (pe_op op_fdivW (pe_op op_sub (pe_op op_sub (pe_has N hr (pa_cons (pv 0) (pa_cons (pe_op op_add (pv 5) pe_int) pa_nil))) (pv 5)) (pe_ix ix_tup (pe_ix ix_list (pv 3) (pe_op op_sub (pv 4) pe_int) (fun _ _ => rfl)) pe_int (fun _ _ => rfl)))
          (pe_ix ix_tup (pe_ix ix_list (pv 3) (pe_op op_sub (pv 4) pe_int) (fun _ _ => rfl)) pe_int (fun _ _ => rfl))))
      <| pss_cons (ps_set (i := 7) scLawLevels.nd rfl (.inl rfl) (pe_op op_add (pe_op op_mulW (pv 6) (pe_ix ix_tup (pe_ix ix_list (pv 3) (pe_op op_sub (pv 4) pe_int) (fun _ _ => rfl)) pe_int (fun _ _ => rfl))) (pe_ix ix_tup (pe_ix ix_list (pv 3) (pe_op op_sub (pv 4) pe_int) (fun _ _ => rfl)) pe_int (fun _ _ => rfl))))
      <| pss_one (ps_expr (pe_bm PySem.F.plainAttrs_list PySem.F.slot_list_append PySem.F.type_list_append mt_append (pv 3)
          (pa_cons (pe_tup (pa_cons (pe_op op_add (pe_ix ix_tup (pe_ix ix_list (pv 3) (pe_op op_sub (pv 4) pe_int) (fun _ _ => rfl)) pe_int (fun _ _ => rfl)) (pv 7)) (pa_cons (pv 7) (pa_cons (pv 6) pa_nil)))) pa_nil)))))
    <| pss_one (ps_ret (pv 3)), ?_⟩
  refine ⟨_, rfl, a, m, 1, rfl, ha, ok, hd, by decide, ?_⟩
  refine ⟨(by show 3 ≤ sizeLine; decide), fun p0 h0 => ?_⟩
  refine ⟨(by show 3 ≤ sizeLine; decide), fun p1 h1 => ?_⟩
  refine ⟨_, rfl, _, _, rfl, rfl, _, rfl, (by show 3 ≤ sizeLine; decide), fun p2 h2 => ?_⟩
  refine ⟨(by show 3 ≤ sizeLine; decide), fun p hp => ?_⟩
  have s0 : Same H (upd H p0 (.tup [.int 0, .int 0, .int 0])) := same_new h0 _
  have s1 : Same H _ := s0.trans (same_new h1 (.tup [.int 1, .int 1, .int 0]))
  have s2 : Same H _ := s1.trans (same_new h2 (.tup [.int (1 + price m 1), .int (price m 1), .int 0]))
  have s3 : Same H _ := s2.trans (same_new hp (.lst [.ref p0, .ref p1, .ref p2]))
  have hpH : H p = none := s2.free hp
  refine ⟨_, rfl, _, _, rfl, rfl, 3, 65, rfl, ⟨by decide, by decide, by decide, by decide⟩, for_range (lo := 3) (n := 62) (fun i σ H' => ∃ (v4 v5 v6 v7 : Option V) (rs : List V), σ = [some (.ref a), some (.int 64), some (.int (price m 1)), some (.ref p), v4, v5, v6, v7] ∧ Same H H' ∧ H' p = some (.lst rs) ∧ RowsAt H' (price m) (i + 3) rs)
    ⟨none, none, none, none, _, rfl, s3, upd_same, rfl, fun k hk => ?_⟩ ?_ ?_⟩
  · have a3 := same_new hp (.lst [.ref p0, .ref p1, .ref p2])
    have a2 := same_new h2 (.tup [.int (1 + price m 1), .int (price m 1), .int 0])
    have a1 := same_new h1 (.tup [.int 1, .int 1, .int 0])
    match k, hk with
    | 0, _ => exact ⟨p0, rfl, a3 _ _ (a2 _ _ (a1 _ _ upd_same))⟩
    | 1, _ => exact ⟨p1, rfl, a3 _ _ (a2 _ _ upd_same)⟩
    | 2, _ => exact ⟨p2, rfl, a3 _ _ upd_same⟩
    | k + 3, hk => omega
  · rintro i σ H' hi ⟨v4, v5, v6, v7, rs, rfl, sH, hL, hR⟩
    obtain ⟨hl, hR'⟩ := id hR
    obtain ⟨pi, gi, ti⟩ := row_at1 (i := (3 : Int) + (i : Int) - 2) hR (k := i + 1) (by omega) (by omega)
    obtain ⟨po, go, to⟩ := row_at1 (i := (3 : Int) + (i : Int) - 1) hR (k := i + 2) (by omega) (by omega)
    have r0 := reach_nn G (i + 1)
    have l0 := len_pos G i
    have n0 := rep_nn G (i + 3)
    have lz := natAbs_lt (len_nn G (i + 1)) (len_size G (k := i + 1) (by omega))
    have rz := natAbs_lt n0 (rep_size G (k := i + 3) (by omega))
    rw [rep_step] at rz
    have er : row3 (price m) (i + 3) = [.int (reach (price m) (i + 2) + ((price m (reach (price m) (i + 1) + 1) - reach (price m) (i + 1) - len (price m) (i + 2)) / len (price m) (i + 1) * len (price m) (i + 1) + len (price m) (i + 2))),
        .int ((price m (reach (price m) (i + 1) + 1) - reach (price m) (i + 1) - len (price m) (i + 2)) / len (price m) (i + 1) * len (price m) (i + 1) + len (price m) (i + 2)),
        .int ((price m (reach (price m) (i + 1) + 1) - reach (price m) (i + 1) - len (price m) (i + 2)) / len (price m) (i + 1))] := by
      unfold row3
      rw [reach_step, len_step, rep_step]
    refine ⟨_, rfl, _, rfl, _, _, rfl, rfl, p, _, _, _, rfl, rfl, .of hL, gi, pi, _, _, _, rfl, rfl, .of ti, atI_nat (j := 0) rfl, ?_⟩
    refine ⟨_, rfl, _, rfl, _, _, rfl, rfl, a, m, _, rfl, ha.same sH, ok, hd, by omega, _, rfl, _, _, rfl, rfl, ?_⟩
    refine ⟨_, rfl, _, rfl, _, _, rfl, rfl, p, _, _, _, rfl, rfl, .of hL, go, po, _, _, _, rfl, rfl, .of to, atI_nat (j := 1) rfl, _, _, rfl, rfl, ?_⟩
    refine ⟨_, rfl, _, rfl, _, _, rfl, rfl, p, _, _, _, rfl, rfl, .of hL, gi, pi, _, _, _, rfl, rfl, .of ti, atI_nat (j := 1) rfl, _, _, rfl, rfl, wide_div (b := 2049) (by omega) lz (by decide) (by decide), ?_⟩
    refine ⟨_, rfl, _, rfl, _, rfl, _, _, rfl, rfl, p, _, _, _, rfl, rfl, .of hL, gi, pi, _, _, _, rfl, rfl, .of ti, atI_nat (j := 1) rfl, _, _, rfl, rfl, wide_mul (a := 2049) (b := 2049) rz lz (by decide) (by decide) (by decide), ?_⟩
    refine ⟨_, rfl, _, rfl, _, _, rfl, rfl, p, _, _, _, rfl, rfl, .of hL, go, po, _, _, _, rfl, rfl, .of to, atI_nat (j := 1) rfl, _, _, rfl, rfl, ?_⟩
    refine ⟨_, rfl, .inl ⟨rfl, _, .inl (.inl hL)⟩, ?_⟩
    refine ⟨_, rfl, _, rfl, _, _, rfl, rfl, p, _, _, _, rfl, rfl, .of hL, go, po, _, _, _, rfl, rfl, .of to, atI_nat (j := 0) rfl, ?_⟩
    refine ⟨_, rfl, _, _, rfl, rfl, _, rfl, _, rfl, (by show 3 ≤ sizeLine; decide), fun t ht => ?_⟩
    have ht' : H' t = none := ht
    have npt : p ≠ t := ne_of_none hL ht'
    refine ⟨p, _, _, rfl, rfl, (by rw [upd_ne npt]; exact hL), small1000 (by omega), _, _, _, _, _, rfl, ?_, upd_same, ?_⟩
    · exact same_mut (sH.trans (same_new ht' _)) hpH
    · refine RowsAt.add (RowsAt.nl (hR.nl (NL.of_same (same_new ht' _))) (NL.upd (xs := rs) ((upd_ne npt).trans hL))) ?_
      rw [upd_ne npt.symm, er]
      exact upd_same
  · rintro σ H' ⟨v4, v5, v6, v7, rs, rfl, sH, hL, hR⟩
    exact ⟨_, rfl, q p _ rs hpH sH hL hR⟩
theorem scReached : FnScope ["_law_steep", "_law_shift", "_law_seats_here", "_law_row", "_law_k"] ["_law_steep", "_law_shift", "_law_seats_here"] (defScope sReached) := ⟨rfl, rfl, rfl, by decide +kernel, rfl, by decide +kernel, by decide +kernel⟩
abbrev lns (a b : Int) (n : Nat) : List V := sq (fun k => V.int (ln a b k)) n
theorem ok_reached {f : Addr} {fd : FuncData} (B : Bt mg) (D : Df K mg "_law_reached" sReached ["_law_steep", "_law_shift", "_law_seats_here"] f fd) :
    Has P w K mg base CX0 1 "_law_reached" ["_law_steep", "_law_shift", "_law_seats_here"] spReached := by
  refine D.has (D.2.1.ok scReached (fun vs H Q E h => ?_) (fun cdv A outer s H vs Q E hr h => ?_))
  · obtain ⟨a, b, n, rfl, _⟩ := h
    rfl
  obtain ⟨a, b, n, rfl, hz, n1, n64, q⟩ := h
  refine ⟨_, pss_cons (ps_set (i := 3) scReached.nd rfl (.inl rfl) (pe_lst (pa_cons pe_int (pa_cons pe_int pa_nil))))
    <| pss_cons (ps_for PassesOwn.never rfl (pi_range2 (by rfl) B.range (pa_cons pe_int (pa_cons (pe_op op_add (pv 2) pe_int) pa_nil))) (pg_name (i := 4) scReached.nd rfl (.inl rfl))
      (pss_one (ps_expr (pe_bm PySem.F.plainAttrs_list PySem.F.slot_list_append PySem.F.type_list_append mt_append (pv 3) (pa_cons (pe_op op_add (pe_op op_add (pe_op op_add
        (pe_ix ix_list (pv 3) (pe_op op_sub (pv 4) pe_int) (fun _ _ => rfl)) (pe_op op_mulW (pe_op op_sub (pv 0) pe_int) (pe_ix ix_list (pv 3) (pe_op op_sub (pv 4) pe_int) (fun _ _ => rfl)))) (pv 0)) (pv 1)) pa_nil)))))
    <| pss_one (ps_ret (pe_ix ix_list (pv 3) (pv 2) (fun _ _ => rfl))), ?_⟩
  refine ⟨(by show 2 ≤ sizeLine; decide), fun p hp => ?_⟩
  refine ⟨_, rfl, _, _, rfl, rfl, 2, _, rfl, ⟨by decide, by decide, by omega, by omega⟩, for_range (lo := 2) (fun i σ H' => Same H H' ∧ (∃ v, σ = [some (.int a), some (.int b), some (.int n), some (.ref p), v]) ∧ H' p = some (.lst (lns a b (i + 2)))) ⟨same_new hp _, ⟨none, rfl⟩, upd_same⟩ ?_ ?_⟩
  · rintro i σ H' hi ⟨s1, ⟨v, rfl⟩, hL⟩
    have hl : (lns a b (i + 2)).length = i + 2 := sq_len _ _
    refine ⟨_, rfl, .inl ⟨rfl, _, .inl (.inl hL)⟩, ?_⟩
    refine ⟨_, rfl, _, rfl, _, _, rfl, rfl, p, _, _, _, rfl, rfl, .of hL, sq_at (k := i + 1) (by omega) (by omega), ?_⟩
    refine ⟨_, rfl, _, _, rfl, rfl, _, rfl, _, rfl, _, _, rfl, rfl, p, _, _, _, rfl, rfl, .of hL, sq_at (k := i) (by omega) (by omega), _, _, rfl, rfl, wide_mul (a := 203) (b := 13057) hz.sl (hz.ln (by omega)) (by decide) (by decide) (by decide), _, _, rfl, rfl, ?_⟩
    refine ⟨_, rfl, _, _, rfl, rfl, _, rfl, _, _, rfl, rfl, ?_⟩
    refine ⟨p, _, _, rfl, rfl, hL, small1000 (by rw [hl]; omega), same_mut s1 hp, ⟨_, rfl⟩, ?_⟩
    have z : lns a b (i + 1 + 2) = lns a b (i + 2) ++ [V.int (ln a b (i + 1) + (a - 1) * ln a b i + a + b)] := by
      rw [← ln_step]
      exact sq_succ _ _
    rw [z]
    exact upd_same
  · rintro σ H' ⟨s1, ⟨v, rfl⟩, hL⟩
    have e : ((n : Int) + 1 - 2).toNat + 2 = n + 1 := by omega
    rw [e] at hL
    exact ⟨_, rfl, _, rfl, p, _, _, _, rfl, rfl, .of hL, sq_at (k := n) (by omega) rfl, q _ s1⟩
end
end Lr

/-! _law_least_of, _law_hopeless_of, _law_level_holds -/
namespace Lr
open PySem L2
theorem bT {p : Prop} [Decidable p] (h : p) : V.bl (decide p) = V.bl true := by rw [decide_eq_true h]
theorem bF {p : Prop} [Decidable p] (h : ¬ p) : V.bl (decide p) = V.bl false := by rw [decide_eq_false h]
theorem tupT {p : Prop} [Decidable p] {v : V} (h : p) : some (HO.tup [V.bl (decide p), v]) = some (HO.tup [V.bl true, v]) := by rw [decide_eq_true h]
abbrev sLeastOf : Stmt := top 44
abbrev sHopelessOf : Stmt := top 45
abbrev sLevelHolds : Stmt := top 46
/-- same = isinstance(raised, ReachError) and _law_is_integer(raised.late) and raised.late == days (raised in slot i, days in slot j) -/
def tSame (C R : Addr) (i j : Nat) (a : Addr) (cls : Value) (dd : Option Addr) : TE :=
  tAndV (tCB (rIsR R a cls dd C) (tCons (tVar i) (tCons (tC (.ref R)) tNil))) (tAndV (tCallS spIsInt (fun _ => E0) (tCons (tXf a cls dd C "late" (tVar i)) tNil)) (tOp rEq (tXf a cls dd C "late" (tVar i)) (tVar j)))
theorem same_read {C R : Addr} {i j : Nat} {a dd : Addr} {σ : L2.St} {H : Hp} {t : Int} {Q : VK} (hi : σ[i]? = some (some (.ref a))) (hj : σ[j]? = some (some (.int t))) (hd : H dd = some (.xd [(("late" : Str), .int t)])) (q : Q (.bl true) H) :
    tSame C R i j a (.ref C) (some dd) σ H Q := by
  have l : List.lookup ("late" : Str) [(("late" : Str), V.int t)] = some (V.int t) := by simp [List.lookup]
  refine ⟨_, hi, rfl, rfl, dd, _, rfl, hd, true, rfl, iteT ?_⟩
  refine ⟨_, hi, rfl, rfl, dd, _, _, rfl, hd, l, t, rfl, true, rfl, iteT ?_⟩
  refine ⟨_, hi, rfl, rfl, dd, _, _, rfl, hd, l, _, hj, rfl, ?_⟩
  rw [decide_eq_true rfl]
  exact q
section
variable {X : Cx} {a C R : Addr} {oe : Obj} {cls : Value} {d : Option Addr} {pn : List (Addr × Obj)} {i j : Nat} {x y : Str} {p1 p2 p3 p4 p5 p6 p7 p8 p9 p10 p11 p12 p13 : Pos}
theorem pe_same (B : Bt X.mg) (U : UnIs X.K X.mg C R) (N : HasH X.prog X.w X.K X.mg X.base 1 "_law_is_integer" ["_law_answer"] spIsInt) (hr : Room 1 X.A) (hz : L2N.Zn cls d oe) (hf : ∃ vs, oe.data = .fields vs)
    {e1 e2 e3 e4 : Expr} (h1 : PE (X.suite a ((a, oe) :: pn)) e1 (tCB (rIsR R a cls d C) (tCons (tVar i) (tCons (tC (.ref R)) tNil)))) (h2 : PE (X.suite a ((a, oe) :: pn)) e2 (tCallS spIsInt (fun _ => E0) (tCons (tXf a cls d C "late" (tVar i)) tNil)))
    (h3 : PE (X.suite a ((a, oe) :: pn)) e3 (tOp rEq (tXf a cls d C "late" (tVar i)) (tVar j))) : PE (X.suite a ((a, oe) :: pn)) (.BoolOp .And [e1, e2, e3] p1) (tSame C R i j a cls d) :=
  pe_and h1 (pe_and h2 (pe_one h3))
end
def spLeastOf (c : Cs) (d : Nat) : Sp := fun vs H Q _ => ∃ (a q : Addr) (m : Mdl) (t : Int), vs = [.ref a, .int t, .ref q] ∧ RuleAt c H a m ∧ Ok m ∧ deep m ≤ d ∧ 1 ≤ t ∧ t ≤ 10 ^ 60 ∧ H q = some (.lst (reachs (price m) 65)) ∧
  ∀ (p : Addr) (H' : Hp) (l : Nat), Same H H' → H' p = some (.tup [.bl true, .int l]) → LeastSpec (reach (price m)) t l → Q (.ref p) H'
def spHopelessOf (c : Cs) (d : Nat) : Sp := fun vs H Q _ => ∃ (a q : Addr) (m : Mdl) (t : Int), vs = [.ref a, .int t, .ref q] ∧ RuleAt c H a m ∧ Ok m ∧ deep m ≤ d ∧ 1 ≤ t ∧ t ≤ 10 ^ 60 ∧ H q = some (.lst (lims (price m) 65)) ∧
  ∀ (p : Addr) (H' : Hp) (l : Nat), Same H H' → H' p = some (.tup [.bl true, .int l]) → HopeSpec (lim (price m)) t l → Q (.ref p) H'
section
variable {P : Program} {w : World} {K : PySem.W.Frag} {mg : Str → Option Value} {base : Heap} {c : Cs} {C R fI cc cda : Addr} {d : Nat}
theorem scLeastOf : FnScope ["_law_rule", "_law_days_here", "_law_row", "_law_answer", "raised", "_law_same"] ["_law_rule", "_law_days_here", "_law_row"] (defScope sLeastOf) := ⟨rfl, rfl, rfl, by decide +kernel, rfl, by decide +kernel, by decide +kernel⟩
theorem ok_leastOf {f : Addr} {fd : FuncData} (B : Bt mg) (T : PySem.LrX.UnTxt P K mg C fI cc cda) (U : UnIs K mg C R) (N1 : Has P w K mg base (L2N.CX P w) 9 "least_level" ["rule", "late"] (spLeastLevel c d C))
    (N2 : Has P w K mg base CX0 1 "_law_is_integer" ["_law_answer"] spIsInt) (N3 : HasH P w K mg base 1 "_law_is_integer" ["_law_answer"] spIsInt) (D : Df K mg "_law_least_of" sLeastOf ["_law_rule", "_law_days_here", "_law_row"] f fd) :
    Has P w K mg base CX0 10 "_law_least_of" ["_law_rule", "_law_days_here", "_law_row"] (spLeastOf c d) := by
  refine D.has (D.2.1.ok scLeastOf (fun vs H Q E h => ?_) (fun cdv A outer s H vs Q E hr h => ?_))
  · obtain ⟨a, q, m, t, rfl, _⟩ := h
    rfl
  obtain ⟨a, q, m, t, rfl, ha, ok, hd, t1, t2, hL, hQ⟩ := h
  refine ⟨_, pss_cons (L2N.ps_try_as (i := 4) (tb := fun W => tAsg (tCallS (spLeastLevel c d C) (WE W) (tCons (tVar 0) (tCons (tVar 1) tNil))) (gName 3))
        (ts := fun a cls dd => tSeq (tAsg (tSame C R 4 1 a cls dd) (gName 5)) (tRet (tTup (tCons (tAndV (tVar 5) (tOp (rI0 fun i j => .bl (decide (i < j))) (tOp (rIxL K) (tVar 2) (tC (.int 64))) (tVar 1))) (tCons (tC (.int 65)) tNil)))))
        (Wout := fun _ _ _ _ => False) rfl rfl scLeastOf.nd rfl rfl ⟨rfl, by decide, Or.inl T.gC⟩ takes0N
        (fun W pn xe tk _ => pss_one (ps_set (i := 3) scLeastOf.nd rfl (.inl rfl) (by exact (pe_hasN N1 hr tk (by exact (pa_cons (pv 0) (pa_cons (pv 1) pa_nil)))))))
        (fun a oe cls dd pn hz hf => pss_cons (ps_set (i := 5) scLeastOf.nd rfl (.inl rfl) (pe_and (pe_callB (call_isR U hz.zc hf) (by rfl) B.isi (by decide +kernel) (pa_cons (pv 4) (pa_cons (pe_glob (by rfl) U.gR rfl) pa_nil)))
            (pe_and (pe_hasH N3 ⟨(hr.mono (by decide) : Room 1 _).dp, (hr.mono (by decide) : Room 1 _).un⟩ (hotC_suite hz hf) (pa_cons (pe_xf U.xf U.noN hz.zc hf (pv 4)) pa_nil)) (pe_one (pe_cmpR op_eq (pe_xf U.xf U.noN hz.zc hf (pv 4)) (pv 1) (nomark _))))))
          <| pss_one (ps_ret (pe_tup (pa_cons (pe_and (pv 5) (pe_one (pe_cmpR op_lt (pe_ix ix_list (pv 2) pe_int (fun _ _ => rfl)) (pv 1) (nomark _)))) (pa_cons pe_int pa_nil))))))
    <| pss_cons (ps_if (PW.pt (pw_or (pt_not (pt_val (pe_has N2 (hr.mono (by decide)) (pa_cons (pv 3) pa_nil)))) (pw_or (pt_cmpR op_lt (pv 3) pe_int (nomark _)) (pw_or1 (pt_cmpR op_gt (pv 3) pe_int (nomark _)))))) (pss_one ps_never) pss_nil)
    <| pss_one (ps_ret (pe_tup (pa_cons (pe_and (pe_cmpR op_ge (pe_ix ix_list (pv 2) (pv 3) (fun _ _ => rfl)) (pv 1) (nomark _)) (pe_one (pe_cmpR op_lt (pe_ix ix_list (pv 2) (pe_op op_sub (pv 3) pe_int) (fun _ _ => rfl)) (pv 1) (nomark _)))) (pa_cons (pv 3) pa_nil)))), ?_⟩
  refine ⟨_, rfl, _, rfl, a, m, t, rfl, ha, ok, hd, t1, t2, fun l H1 sp l64 s1 => ?_, fun sp dd H1 s1 hdd => ?_⟩
  · obtain ⟨l1, _, lr, lb⟩ : 1 ≤ l ∧ l ≤ 64 ∧ t ≤ reach (price m) l ∧ ∀ j, j < l → reach (price m) j < t := by
      rcases sp with z | ⟨z, _⟩
      · exact z
      · omega
    refine ⟨_, rfl, (l : Int), rfl, true, rfl, iteF ?_⟩
    refine ⟨_, rfl, _, _, rfl, rfl, _, rfl, ite2 (fun cc => ?_) fun _ => ⟨_, rfl, _, _, rfl, rfl, _, rfl, ite2 (fun cc => ?_) fun _ => ?_⟩⟩
    · have cc := of_decide_eq_true cc
      omega
    · have cc := of_decide_eq_true cc
      omega
    refine ⟨_, rfl, _, rfl, q, _, _, _, rfl, rfl, .of (s1 _ _ hL), sq_at (k := l) (by omega) rfl, _, rfl, _, _, rfl, rfl, true, bT lr, iteT ?_⟩
    refine ⟨_, rfl, _, rfl, _, _, rfl, rfl, q, _, _, _, rfl, rfl, .of (s1 _ _ hL), sq_at (k := l - 1) (by omega) (by omega), _, rfl, _, _, rfl, rfl, ?_⟩
    refine ⟨_, rfl, (by show 2 ≤ sizeLine; decide), fun p hp => ?_⟩
    exact hQ p _ l (s1.trans (same_new hp _)) (upd_same.trans (tupT (lb (l - 1) (by omega)))) sp
  · refine ⟨true, U.te, fun _ a0 na => ?_, fun z => Bool.noConfusion z⟩
    refine same_read (t := t) rfl rfl hdd ?_
    refine ⟨_, rfl, true, rfl, iteT ?_⟩
    refine ⟨_, rfl, q, _, _, _, rfl, rfl, .of (s1 _ _ hL), sq_at (k := 64) (by decide) rfl, _, rfl, _, _, rfl, rfl, ?_⟩
    refine ⟨(by show 2 ≤ sizeLine; decide), fun p hp => ?_⟩
    have h64 : reach (price m) 64 < t := by
      rcases sp with ⟨_, z, _⟩ | ⟨_, z⟩
      · omega
      · exact z 64 (by decide)
    exact hQ p _ 65 (s1.trans (same_new hp _)) (upd_same.trans (tupT h64)) sp
theorem scHopelessOf : FnScope ["_law_rule", "_law_days_here", "_law_row", "_law_answer"] ["_law_rule", "_law_days_here", "_law_row"] (defScope sHopelessOf) := ⟨rfl, rfl, rfl, by decide +kernel, rfl, by decide +kernel, by decide +kernel⟩
theorem ok_hopelessOf {f : Addr} {fd : FuncData} (N1 : Has P w K mg base CX0 9 "hopeless_level" ["rule", "late"] (spHopeless c d)) (N2 : Has P w K mg base CX0 1 "_law_is_integer" ["_law_answer"] spIsInt)
    (D : Df K mg "_law_hopeless_of" sHopelessOf ["_law_rule", "_law_days_here", "_law_row"] f fd) : Has P w K mg base CX0 10 "_law_hopeless_of" ["_law_rule", "_law_days_here", "_law_row"] (spHopelessOf c d) := by
  refine D.has (D.2.1.ok scHopelessOf (fun vs H Q E h => ?_) (fun cdv A outer s H vs Q E hr h => ?_))
  · obtain ⟨a, q, m, t, rfl, _⟩ := h
    rfl
  obtain ⟨a, q, m, t, rfl, ha, ok, hd, t1, t2, hL, hQ⟩ := h
  refine ⟨_, pss_cons (ps_set (i := 3) scHopelessOf.nd rfl (.inl rfl) (pe_has N1 hr (pa_cons (pv 0) (pa_cons (pv 1) pa_nil))))
    <| pss_cons (ps_if (PW.pt (pw_or (pt_not (pt_val (pe_has N2 (hr.mono (by decide)) (pa_cons (pv 3) pa_nil)))) (pw_or (pt_cmpR op_lt (pv 3) pe_int (nomark _)) (pw_or1 (pt_cmpR op_gt (pv 3) pe_int (nomark _)))))) (pss_one ps_never) pss_nil)
    <| pss_one (ps_ret (pe_tup (pa_cons (pe_and (pe_cmpR op_lt (pe_ix ix_list (pv 2) (pv 3) (fun _ _ => rfl)) (pv 1) (nomark _)) (pe_one (pe_or (pe_cmpR op_eq (pv 3) pe_int (nomark _)) (pe_one (pe_cmpR op_ge (pe_ix ix_list (pv 2) (pe_op op_add (pv 3) pe_int) (fun _ _ => rfl)) (pv 1) (nomark _)))))) (pa_cons (pv 3) pa_nil)))), ?_⟩
  refine ⟨_, rfl, _, rfl, a, m, t, rfl, ha, ok, hd, t1, t2, fun l H1 sp s1 => ?_⟩
  obtain ⟨l64, lt, lb⟩ := id sp
  refine ⟨_, rfl, (l : Int), rfl, true, rfl, iteF ?_⟩
  refine ⟨_, rfl, _, _, rfl, rfl, _, rfl, ite2 (fun cc => ?_) fun _ => ⟨_, rfl, _, _, rfl, rfl, _, rfl, ite2 (fun cc => ?_) fun _ => ?_⟩⟩
  · have cc := of_decide_eq_true cc
    omega
  · have cc := of_decide_eq_true cc
    omega
  refine ⟨_, rfl, _, rfl, q, _, _, _, rfl, rfl, .of (s1 _ _ hL), sq_at (k := l) (by omega) rfl, _, rfl, _, _, rfl, rfl, true, bT lt, iteT ?_⟩
  refine ⟨_, rfl, rfl, ?_⟩
  by_cases e : l = 64
  · refine ⟨true, bT (congrArg V.int (by omega)), iteT ?_⟩
    refine ⟨_, rfl, (by show 2 ≤ sizeLine; decide), fun p hp => ?_⟩
    exact hQ p _ l (s1.trans (same_new hp _)) upd_same sp
  · refine ⟨false, bF (fun z => e (by have := V.int.inj z; omega)), iteF ?_⟩
    refine ⟨_, rfl, _, rfl, _, _, rfl, rfl, q, _, _, _, rfl, rfl, .of (s1 _ _ hL), sq_at (k := l + 1) (by omega) (by omega), _, rfl, _, _, rfl, rfl, ?_⟩
    refine ⟨_, rfl, (by show 2 ≤ sizeLine; decide), fun p hp => ?_⟩
    exact hQ p _ l (s1.trans (same_new hp _)) (upd_same.trans (tupT (lb (l + 1) (by omega) (by omega)))) sp
/-- the word of a model -/
def wordOf : Mdl → Str
  | .line .. => "line"
  | .table .. => "table"
  | .comb true .. => "greater"
  | .comb false .. => "lesser"
def spLevelHolds (c : Cs) (d : Nat) : Sp := fun vs H Q _ => ∃ (a q q2 : Addr) (m : Mdl) (t : Int), vs = [.ref a, .str (wordOf m), .int t, .ref q, .ref q2] ∧ RuleAt c H a m ∧ Ok m ∧ deep m ≤ d ∧ 1 ≤ t ∧ t ≤ 10 ^ 60 ∧ H q = some (.lst (lims (price m) 65)) ∧ H q2 = some (.lst (reachs (price m) 65)) ∧
  ∀ (H' : Hp), Same H H' → Q (.bl true) H'
theorem scLevelHolds : FnScope ["_law_rule", "_law_word", "_law_days_here", "_law_limits_here", "_law_numbers", "_law_low", "_law_high"] ["_law_rule", "_law_word", "_law_days_here", "_law_limits_here", "_law_numbers"] (defScope sLevelHolds) := ⟨rfl, rfl, rfl, by decide +kernel, rfl, by decide +kernel, by decide +kernel⟩
theorem ok_levelHolds {f : Addr} {fd : FuncData} (N1 : Has P w K mg base CX0 10 "_law_least_of" ["_law_rule", "_law_days_here", "_law_row"] (spLeastOf c d)) (N2 : Has P w K mg base CX0 10 "_law_hopeless_of" ["_law_rule", "_law_days_here", "_law_row"] (spHopelessOf c d))
    (D : Df K mg "_law_level_holds" sLevelHolds ["_law_rule", "_law_word", "_law_days_here", "_law_limits_here", "_law_numbers"] f fd) :
    Has P w K mg base CX0 11 "_law_level_holds" ["_law_rule", "_law_word", "_law_days_here", "_law_limits_here", "_law_numbers"] (spLevelHolds c d) := by
  refine D.has (D.2.1.ok scLevelHolds (fun vs H Q E h => ?_) (fun cdv A outer s H vs Q E hr h => ?_))
  · obtain ⟨a, q, q2, m, t, rfl, _⟩ := h
    rfl
  obtain ⟨a, q, q2, m, t, rfl, ha, ok, hd, t1, t2, hL, hR, hQ⟩ := h
  have G := good_price ok
  refine ⟨_, pss_cons (ps_set (i := 5) scLevelHolds.nd rfl (.inl rfl) (pe_has N1 hr (pa_cons (pv 0) (pa_cons (pv 2) (pa_cons (pv 4) pa_nil)))))
    <| pss_cons (ps_set (i := 6) scLevelHolds.nd rfl (.inl rfl) (pe_has N2 hr (pa_cons (pv 0) (pa_cons (pv 2) (pa_cons (pv 3) pa_nil)))))
    <| pss_cons (ps_if (PW.pt (pw_or (pt_not (pt_truth (pe_ix ix_tup (pv 5) pe_int (fun _ _ => rfl)) (by intro _; rfl))) (pw_or1 (pt_not (pt_truth (pe_ix ix_tup (pv 6) pe_int (fun _ _ => rfl)) (by intro _; rfl)))))) (pss_one ps_never) pss_nil)
    <| pss_cons (ps_if (pt_cmpR op_eq (pv 1) pe_str (nomark _)) (pss_one (ps_ret (pe_cmpR op_eq (pe_ix ix_tup (pv 5) pe_int (fun _ _ => rfl)) (pe_op op_add (pe_ix ix_tup (pv 6) pe_int (fun _ _ => rfl)) pe_int) (nomark _)))) pss_nil)
    <| pss_one (ps_ret (pe_cmpR op_gt (pe_ix ix_tup (pv 5) pe_int (fun _ _ => rfl)) (pe_ix ix_tup (pv 6) pe_int (fun _ _ => rfl)) (nomark _))), ?_⟩
  refine ⟨_, rfl, _, rfl, _, rfl, a, q2, m, t, rfl, ha, ok, hd, t1, t2, hR, fun p H1 l s1 hp sl => ?_⟩
  refine ⟨_, rfl, _, rfl, _, rfl, a, q, m, t, rfl, ha.same s1, ok, hd, t1, t2, s1 _ _ hL, fun p2 H2 h s2 hp2 sh => ?_⟩
  have hp' := s2 _ _ hp
  have s12 := s1.trans s2
  refine ⟨_, rfl, p, _, _, _, rfl, rfl, .of hp', atI_nat (j := 0) rfl, true, rfl, iteF ?_⟩
  refine ⟨_, rfl, p2, _, _, _, rfl, rfl, .of hp2, atI_nat (j := 0) rfl, true, rfl, iteF ?_⟩
  refine ⟨_, rfl, rfl, ?_⟩
  have other : (wordOf m == "line") = false → ∃ k, V.bl (decide (V.str (wordOf m) = V.str "line")) = V.bl k ∧ if k = true then tRet (tOp rEq (tOp (rIxT K) (tVar 5) (tC (.int 1))) (tOp (rI0 fun i j => .int (i + j)) (tOp (rIxT K) (tVar 6) (tC (.int 1))) (tC (.int 1))))
      { nx := tRet (tOp (rI0 fun i j => .bl (decide (j < i))) (tOp (rIxT K) (tVar 5) (tC (.int 1))) (tOp (rIxT K) (tVar 6) (tC (.int 1)))) { nx := fun _ H' => Q .non H', rt := Q }, rt := Q } [some (.ref a), some (.str (wordOf m)), some (.int t), some (.ref q), some (.ref q2), some (.ref p), some (.ref p2)] H2
      else tNext { nx := tRet (tOp (rI0 fun i j => .bl (decide (j < i))) (tOp (rIxT K) (tVar 5) (tC (.int 1))) (tOp (rIxT K) (tVar 6) (tC (.int 1)))) { nx := fun _ H' => Q .non H', rt := Q }, rt := Q } [some (.ref a), some (.str (wordOf m)), some (.int t), some (.ref q), some (.ref q2), some (.ref p), some (.ref p2)] H2 := fun e => by
    refine ⟨false, sNe e, iteF ?_⟩
    refine ⟨_, rfl, p, _, _, _, rfl, rfl, .of hp', atI_nat (j := 1) rfl, _, rfl, p2, _, _, _, rfl, rfl, .of hp2, atI_nat (j := 1) rfl, _, _, rfl, rfl, ?_⟩
    have z : (h : Int) < (l : Int) := by
      have := least_gt G sl sh
      omega
    show Q (.bl (decide ((h : Int) < (l : Int)))) H2
    rw [decide_eq_true z]
    exact hQ _ s12
  match m, other with
  | .line s e, _ =>
    refine ⟨true, sEq _, iteT ?_⟩
    refine ⟨_, rfl, p, _, _, _, rfl, rfl, .of hp', atI_nat (j := 1) rfl, _, rfl, p2, _, _, _, rfl, rfl, .of hp2, atI_nat (j := 1) rfl, _, _, rfl, rfl, rfl, ?_⟩
    have z : (l : Int) = (h : Int) + 1 := by
      have := least_line G (line_reach (a := s) (b := e) G fun d _ => rfl) sl sh
      omega
    show Q (.bl (decide (V.int (l : Int) = V.int ((h : Int) + 1)))) H2
    rw [decide_eq_true (congrArg V.int z)]
    exact hQ _ s12
  | .table .., other => exact other (show (("table" : Str) == "line") = false by decide +kernel)
  | .comb true .., other => exact other (show (("greater" : Str) == "line") = false by decide +kernel)
  | .comb false .., other => exact other (show (("lesser" : Str) == "line") = false by decide +kernel)
end
end Lr

/-! _law_extra_of, _law_slope_of -/
namespace Lr
open PySem L2
abbrev sExtraOf : Stmt := top 47
abbrev sSlopeOf : Stmt := top 48
def spExtraOf : Sp := fun vs H Q _ => ∃ (a t : Int) (n : Nat), vs = [.int a, .int n, .int t] ∧ 1 ≤ a ∧ a ≤ 1000000 ∧ 1 ≤ n ∧ n ≤ 64 ∧ 1 ≤ t ∧ t ≤ 10 ^ 60 ∧
  ∀ (p : Addr) (H' : Hp) (e : Int), Same H H' → H' p = some (.tup [.bl true, .int e]) → (n = 1 ∧ t > 1 → e = 10 ^ 7) → (¬ (n = 1 ∧ t > 1) → ExtraSpec a n t e) → Q (.ref p) H'
def spSlopeOf : Sp := fun vs H Q _ => ∃ (t b : Int) (n : Nat) (pl : Bool), vs = [.int n, .int t, .int b, .bl pl] ∧ (pl = true → b = 0) ∧ -1000000 ≤ b ∧ b ≤ 1000000 ∧ 1 ≤ n ∧ n ≤ 64 ∧ 1 ≤ t ∧ t ≤ 10 ^ 60 ∧
  ∀ (p : Addr) (H' : Hp) (e : Int), Same H H' → H' p = some (.tup [.bl true, .int e]) → (n = 1 ∧ t > 1 → e = 0) → (¬ (n = 1 ∧ t > 1) → SlopeSpec b n t e) → Q (.ref p) H'
section
variable {P : Program} {w : World} {K : PySem.W.Frag} {mg : Str → Option Value} {base : Heap} {C R fI cc cda : Addr}
theorem scExtraOf : FnScope ["_law_steep", "_law_seats_here", "_law_days_here", "_law_answer", "raised", "_law_same"] ["_law_steep", "_law_seats_here", "_law_days_here"] (defScope sExtraOf) := ⟨rfl, rfl, rfl, by decide +kernel, rfl, by decide +kernel, by decide +kernel⟩
/-- (same and seats == 1 and (days > 1), k) -/
theorem same_tail {σ : L2.St} {H : Hp} {t : Int} {n : Nat} {i j l : Nat} {k : TE} {kv : V} {D : Ends} (hi : σ[i]? = some (some (.bl true))) (hj : σ[j]? = some (some (.int (n : Int)))) (hl : σ[l]? = some (some (.int t))) (c : n = 1 ∧ t > 1)
    (hk : ∀ (Q : VK), Q kv H → k σ H Q) (q : ∀ p, H p = none → D.rt (.ref p) (upd H p (.tup [.bl true, kv]))) :
    tRet (tTup (tCons (tAndV (tVar i) (tAndV (tOp rEq (tVar j) (tC (.int 1))) (tOp (rI0 fun i j => .bl (decide (j < i))) (tVar l) (tC (.int 1))))) (tCons k tNil))) D σ H := by
  refine ⟨_, hi, true, rfl, iteT ⟨_, hj, rfl, true, bT (congrArg V.int (by omega)), iteT ⟨_, hl, _, _, rfl, rfl, ?_⟩⟩⟩
  refine hk _ ⟨(by show 2 ≤ sizeLine; decide), fun p hp => ?_⟩
  have q := q p hp
  rw [← decide_eq_true c.2] at q
  exact q
theorem ok_extraOf {f : Addr} {fd : FuncData} (B : Bt mg) (T : PySem.LrX.UnTxt P K mg C fI cc cda) (U : UnIs K mg C R) (N1 : Has P w K mg base (L2N.CX P w) 4 "least_extra" ["slope", "places", "late"] (spLeastExtra C))
    (N2 : Has P w K mg base CX0 1 "_law_is_integer" ["_law_answer"] spIsInt) (N3 : HasH P w K mg base 1 "_law_is_integer" ["_law_answer"] spIsInt) (N4 : Has P w K mg base CX0 1 "_law_reached" ["_law_steep", "_law_shift", "_law_seats_here"] spReached)
    (D : Df K mg "_law_extra_of" sExtraOf ["_law_steep", "_law_seats_here", "_law_days_here"] f fd) :
    Has P w K mg base CX0 5 "_law_extra_of" ["_law_steep", "_law_seats_here", "_law_days_here"] spExtraOf := by
  refine D.has (D.2.1.ok scExtraOf (fun vs H Q E h => ?_) (fun cdv A outer s H vs Q E hr h => ?_))
  · obtain ⟨a, t, n, rfl, _⟩ := h
    rfl
  obtain ⟨a, t, n, rfl, a1, a2, n1, n64, t1, t2, hQ⟩ := h
  refine ⟨_, pss_cons (L2N.ps_try_as (i := 4) (tb := fun W => tAsg (tCallS (spLeastExtra C) (WE W) (tCons (tVar 0) (tCons (tVar 1) (tCons (tVar 2) tNil)))) (gName 3))
        (ts := fun a cls dd => tSeq (tAsg (tSame C R 4 2 a cls dd) (gName 5)) (tRet (tTup (tCons (tAndV (tVar 5) (tAndV (tOp rEq (tVar 1) (tC (.int 1))) (tOp (rI0 fun i j => .bl (decide (j < i))) (tVar 2) (tC (.int 1))))) (tCons (tOp (rI CPow fun i j => .int (i ^ j.toNat)) (tC (.int 10)) (tC (.int 7))) tNil)))))
        (Wout := fun _ _ _ _ => False) rfl rfl scExtraOf.nd rfl rfl ⟨rfl, by decide, Or.inl T.gC⟩ takes0N
        (fun W pn xe tk _ => pss_one (ps_set (i := 3) scExtraOf.nd rfl (.inl rfl) (by exact (pe_hasN N1 hr tk (by exact (pa_cons (pv 0) (pa_cons (pv 1) (pa_cons (pv 2) pa_nil))))))))
        (fun a oe cls dd pn hz hf => pss_cons (ps_set (i := 5) scExtraOf.nd rfl (.inl rfl) (pe_and (pe_callB (call_isR U hz.zc hf) (by rfl) B.isi (by decide +kernel) (pa_cons (pv 4) (pa_cons (pe_glob (by rfl) U.gR rfl) pa_nil)))
            (pe_and (pe_hasH N3 ⟨(hr.mono (by decide) : Room 1 _).dp, (hr.mono (by decide) : Room 1 _).un⟩ (hotC_suite hz hf) (pa_cons (pe_xf U.xf U.noN hz.zc hf (pv 4)) pa_nil)) (pe_one (pe_cmpR op_eq (pe_xf U.xf U.noN hz.zc hf (pv 4)) (pv 2) (nomark _))))))
          <| pss_one (ps_ret (pe_tup (pa_cons (pe_and (pv 5) (pe_and (pe_cmpR op_eq (pv 1) pe_int (nomark _)) (pe_one (pe_cmpR op_gt (pv 2) pe_int (nomark _))))) (pa_cons (pe_op op_pow pe_int pe_int) pa_nil))))))
    <| pss_cons (ps_if (PW.pt (pw_or (pt_not (pt_val (pe_has N2 (hr.mono (by decide)) (pa_cons (pv 3) pa_nil)))) (pw_or (pt_cmpR op_lt (pv 3) (pe_op op_sub pe_int (pv 0)) (nomark _)) (pw_or1 (pt_cmpR op_lt (pe_has N4 (hr.mono (by decide)) (pa_cons (pv 0) (pa_cons (pv 3) (pa_cons (pv 1) pa_nil)))) (pv 2) (nomark _)))))) (pss_one ps_never) pss_nil)
    <| pss_one (ps_ret (pe_tup (pa_cons (pe_or (pe_cmpR op_eq (pv 3) (pe_op op_sub pe_int (pv 0)) (nomark _)) (pe_one (pe_cmpR op_lt (pe_has N4 (hr.mono (by decide)) (pa_cons (pv 0) (pa_cons (pe_op op_sub (pv 3) pe_int) (pa_cons (pv 1) pa_nil)))) (pv 2) (nomark _)))) (pa_cons (pv 3) pa_nil)))), ?_⟩
  refine ⟨_, rfl, _, rfl, _, rfl, a, t, n, rfl, a1, a2, n1, n64, t1, t2, fun c dd H1 s1 hdd => ?_, fun c e H1 s1 sp e60 => ?_⟩
  · refine ⟨true, U.te, fun _ a0 na => ?_, fun z => Bool.noConfusion z⟩
    refine same_read (t := t) rfl rfl hdd ?_
    refine same_tail (kv := .int (10 ^ 7)) (n := n) (t := t) rfl rfl rfl c (fun Q q => ⟨_, _, rfl, rfl, ⟨by decide, by decide, by decide⟩, q⟩) fun p hp => ?_
    exact hQ p _ _ (s1.trans (same_new hp _)) upd_same (fun _ => rfl) (fun z => (z c).elim)
  · obtain ⟨e1, e2, e3⟩ := id sp
    refine ⟨_, rfl, e, rfl, true, rfl, iteF ?_⟩
    refine ⟨_, rfl, _, rfl, _, _, rfl, rfl, _, _, rfl, rfl, _, rfl, ite2 (fun cc => ?_) fun _ => ?_⟩
    · have cc := of_decide_eq_true cc
      omega
    refine ⟨_, rfl, _, rfl, _, rfl, a, e, n, rfl, ⟨a1, by omega, by omega, by omega⟩, n1, n64, fun H2 s2 => ?_⟩
    refine ⟨_, rfl, _, _, rfl, rfl, _, rfl, ite2 (fun cc => ?_) fun _ => ?_⟩
    · have cc := of_decide_eq_true cc
      omega
    refine ⟨_, rfl, _, rfl, _, _, rfl, rfl, rfl, ?_⟩
    by_cases z : e = 1 - a
    · refine ⟨true, bT (congrArg V.int z), iteT ?_⟩
      refine ⟨_, rfl, (by show 2 ≤ sizeLine; decide), fun p hp => ?_⟩
      exact hQ p _ e ((s1.trans s2).trans (same_new hp _)) upd_same (fun y => (c y).elim) fun _ => sp
    · refine ⟨false, bF (fun y => z (V.int.inj y)), iteF ?_⟩
      refine ⟨_, rfl, _, rfl, _, _, rfl, rfl, _, rfl, a, e - 1, n, rfl, ⟨a1, by omega, by omega, by omega⟩, n1, n64, fun H3 s3 => ?_⟩
      refine ⟨_, rfl, _, _, rfl, rfl, ?_⟩
      refine ⟨_, rfl, (by show 2 ≤ sizeLine; decide), fun p hp => ?_⟩
      exact hQ p _ e (((s1.trans s2).trans s3).trans (same_new hp _)) (upd_same.trans (tupT (e3.resolve_left z))) (fun y => (c y).elim) fun _ => sp
end
end Lr

/-! defs with keyword-only defaults -/
namespace Lr
open PySem PySem.Spec PyProof.Rows L2
section
variable {K : PySem.W.Frag} {x qual : Str} {st : Stmt} {f : Addr} {fd : FuncData} {kws : List (Str × V)}
theorem fun_of (F : FunD K x qual (defArgs st) (defBody st) (defScope st) [] kws f fd) : Fun K x qual st f fd := by
  obtain ⟨oc, od, dV, kV, doc, pm, an, cdv, ct, osl, rfl, lk, hcd, hD, hK⟩ := F.ex
  rcases hD with ⟨_, rfl⟩ | ⟨e, _⟩
  · exact ⟨⟨oc, od, kV, doc, pm, an, cdv, ct, osl, rfl, lk, hcd⟩, F.kp⟩
  · exact absurd rfl e
end
section
variable {X : Cx} {CX : CXT} {k n : Nat} {f : Addr} {fd : FuncData} {ps ks : List Str} {sp : Sp} {E : L2.St → XK} {x : Str} {p pos : Pos} {e : Expr} {es : List Expr} {kws : List Keyword} {t tk : TA} {g : List Value → List Value → List Value} {gV : List V → List V → List V}
def tCallNS (n m : Nat) (sp : Sp) (gV : List V → List V → List V) (E : L2.St → XK) (t tk : TA) : TE := fun σ H Q => t σ H fun vs H1 => tk σ H1 fun zs H2 => vs.length = n ∧ zs.length = m ∧ sp (gV vs zs) H2 Q (E σ)
theorem run_fnNS {pins : List (Addr × Obj)} {σ : L2.St} {H : Hp} {s : Shared} {Q : VK} {us ws : List Value} {vs zs : List V} (F : FnOk X.prog X.w X.K X.mg X.base CX k f fd ps sp) (hr : Room k X.A) (hb : KBn X.K fd ps n ks g gV) (hx : PassesAt CX X σ (E σ))
    (I : Inv X pins σ H s) (r : Vals vs us) (rz : Vals zs ws) (l1 : vs.length = n) (l2 : zs.length = ks.length) (h : sp (gV vs zs) H Q (E σ)) : wpAny (model X.prog X.w) X.A (call (.ref f) us (ks.zip ws)) (EP X pins σ Q) X.xe s := by
  have r2 := hb.rel r rz
  refine wpAny_call (codeAny_mono (F.run X.A X.stack s H ⟨us, ks.zip ws⟩ (g us ws) (gV vs zs) Q (E σ) hr I.env0 (hb.to s us ws I.kIn (r.length.symm.trans l1) (rz.length.symm.trans l2)) r2 h) fun r s' hq => ?_)
  cases r with
  | error e => exact hx pins H s e s' I hq
  | ok fl =>
    cases fl with
    | ret u => exact I.after hq
    | next => exact False.elim hq
    | brk => exact False.elim hq
    | cont => exact False.elim hq
/-- f(e, .., k = v, ..), what is raised wished for at the caller's slots -/
theorem pe_callNS (F : FnOk X.prog X.w X.K X.mg X.base CX k f fd ps sp) (hr : Room k X.A) (hg : Gl X x) (hm : X.mg x = some (.ref f)) (hk : PySem.W.keepIn X.K (.ref f) = true) (hb : KBn X.K fd ps n ks g gV) (hx : ∀ σ, PassesAt CX X σ (E σ))
    (ha : PA X (e :: es) t) (hkw : PK X kws tk) (hall : (backToKw pos (keywordEach kws X.env)).all (·.1.isSome) = true := by rfl) (hks : (backToKw pos (keywordEach kws X.env)).filterMap (·.1) = ks := by rfl)
    (hdb : (x == ("__debug__" : Str)) = false := by decide) (he : starEach (e :: es) X.env = (false, eval e X.env) :: starEach es X.env := by rfl)
    (hpl : ((backTo pos (starEach (e :: es) X.env)).any (·.1) || (backToKw pos (keywordEach kws X.env)).any (·.1.isNone)) = false := by rfl) :
    PE X (.Call (.Name x p) (e :: es) kws pos) (tCallNS n ks.length sp gV E t tk) := by
  refine ⟨fun pins s σ H Q I h => ?_⟩
  refine wpAny_Call_Name_kw (ld_glob I hg hm ?_ hdb)
  refine PySem.W.callWith_KW (h₀ := X.base) I.ok.mod.kin hk hall (thn (ha.run pos pins s σ H _ I h) fun us s1 ⟨vs, H1, I1, r, q⟩ => ?_) hpl he
  refine thn (hkw.run pos pins s1 σ H1 _ I1 q) fun ws s2 ⟨zs, H2, I2, rz, l1, l2, q2⟩ => ⟨I2.kIn, ?_⟩
  rw [hks]
  exact run_fnNS F hr hb (hx σ) I2 r rz l1 l2 q2
end
/-! ### least_slope and Table.__init__: their parameters -/
abbrev SlopeD (K : PySem.W.Frag) (f : Addr) (fd : FuncData) : Prop := FunD K "least_slope" "least_slope" (defArgs sLeastSlope) (defBody sLeastSlope) (defScope sLeastSlope) [] [("extra", .int 0)] f fd
section
variable {K : PySem.W.Frag} {f : Addr} {fd : FuncData}
theorem slope_binds (F : SlopeD K f fd) : ∃ ds, Vals [.int 0] ds ∧ Binds K fd ["places", "late", "extra"] ds :=
  F.binds0 2 (by decide) rfl fun D doc pm an cdv ct us ks h1 h2 => by
    match us, ks, h1, h2 with
    | [a, b], [c], _, _ => exact ⟨_, _, _, _, _, _, rfl, rfl, rfl⟩
theorem slope_kbinds (F : SlopeD K f fd) : ∃ mv : List Value, KBn K fd ["places", "late", "extra"] 2 ["extra"] (fun us ws => us ++ ws) (fun us ws => us ++ ws) :=
  F.kbinds0 2 ["extra"] [] (fun us _ ws => us ++ ws) (by decide) (fun q h => by cases h) (fun r1 _ r3 => r1.append r3) fun D doc pm an cdv ct us mv ws h1 h2 h3 => by
    match us, mv, ws, h1, h2, h3 with
    | [a, b], [], [c], _, _, _ => exact rfl
end
end Lr

/-! _law_slope_of -/
namespace Lr
open PySem L2
/-- least_slope as it stands -/
def SlopeFn (P : Program) (w : World) (K : PySem.W.Frag) (mg : Str → Option Value) (base : Heap) (C : Addr) : Prop := ∃ f fd ds, mg "least_slope" = some (.ref f) ∧ PySem.W.keepIn K (.ref f) = true ∧ FnOk P w K mg base (L2N.CX P w) 4 f fd ["places", "late", "extra"] (spLeastSlope C) ∧
  Vals [.int 0] ds ∧ Binds K fd ["places", "late", "extra"] ds ∧ KBn K fd ["places", "late", "extra"] 2 ["extra"] (fun us ws => us ++ ws) (fun us ws => us ++ ws)
section
variable {P : Program} {w : World} {K : PySem.W.Frag} {mg : Str → Option Value} {base : Heap} {C R fI cc cda : Addr}
theorem scSlopeOf : FnScope ["_law_seats_here", "_law_days_here", "_law_shift", "_law_plain", "_law_answer", "raised", "_law_same", "_law_low"] ["_law_seats_here", "_law_days_here", "_law_shift", "_law_plain"] (defScope sSlopeOf) := ⟨rfl, rfl, rfl, by decide +kernel, rfl, by decide +kernel, by decide +kernel⟩
theorem ok_slopeOf {f : Addr} {fd : FuncData} (B : Bt mg) (T : PySem.LrX.UnTxt P K mg C fI cc cda) (U : UnIs K mg C R) (N1 : SlopeFn P w K mg base C)
    (N2 : Has P w K mg base CX0 1 "_law_is_integer" ["_law_answer"] spIsInt) (N3 : HasH P w K mg base 1 "_law_is_integer" ["_law_answer"] spIsInt) (N4 : Has P w K mg base CX0 1 "_law_reached" ["_law_steep", "_law_shift", "_law_seats_here"] spReached)
    (D : Df K mg "_law_slope_of" sSlopeOf ["_law_seats_here", "_law_days_here", "_law_shift", "_law_plain"] f fd) :
    Has P w K mg base CX0 5 "_law_slope_of" ["_law_seats_here", "_law_days_here", "_law_shift", "_law_plain"] spSlopeOf := by
  refine D.has (D.2.1.ok scSlopeOf (fun vs H Q E h => ?_) (fun cdv A outer s H vs Q E hr h => ?_))
  · obtain ⟨t, b, n, pl, rfl, _⟩ := h
    rfl
  obtain ⟨t, b, n, pl, rfl, hpl, b1, b2, n1, n64, t1, t2, hQ⟩ := h
  obtain ⟨l1, l2, l3⟩ := lowS_ok b
  obtain ⟨f1, fd1, ds1, m1, k1, F1, r1, bd1, kb1⟩ := N1
  refine ⟨_, pss_cons (L2N.ps_try_as (i := 5) (tb := fun W => tIfS (tB (tVar 3)) (tAsg (tCallSD (spLeastSlope C) [.int 0] (WE W) (tCons (tVar 0) (tCons (tVar 1) tNil))) (gName 4))
          (tAsg (tCallNS 2 1 (spLeastSlope C) (fun us ws => us ++ ws) (WE W) (tCons (tVar 0) (tCons (tVar 1) tNil)) (tCons (tVar 2) tNil)) (gName 4)))
        (ts := fun a cls dd => tSeq (tAsg (tSame C R 5 1 a cls dd) (gName 6)) (tRet (tTup (tCons (tAndV (tVar 6) (tAndV (tOp rEq (tVar 0) (tC (.int 1))) (tOp (rI0 fun i j => .bl (decide (j < i))) (tVar 1) (tC (.int 1))))) (tCons (tC (.int 0)) tNil)))))
        (Wout := fun _ _ _ _ => False) rfl rfl scSlopeOf.nd rfl rfl ⟨rfl, by decide, Or.inl T.gC⟩ takes0N
        (fun W pn xe tk _ => pss_one (ps_if (pt_val (pv 3))
          (pss_one (ps_set (i := 4) scSlopeOf.nd rfl (.inl rfl) (by exact (pe_callSD F1 (hr.mono (by decide)) rfl m1 k1 bd1 r1 (fun σ => L2N.passAt tk σ) (by exact (pa_cons (pv 0) (pa_cons (pv 1) pa_nil)))))))
          (pss_one (ps_set (i := 4) scSlopeOf.nd rfl (.inl rfl) (by exact (pe_callNS (ks := ["extra"]) F1 (hr.mono (by decide)) rfl m1 k1 kb1 (fun σ => L2N.passAt tk σ) (by exact (pa_cons (pv 0) (pa_cons (pv 1) pa_nil))) (by exact (pk_cons (pv 2) pk_nil))))))))
        (fun a oe cls dd pn hz hf => pss_cons (ps_set (i := 6) scSlopeOf.nd rfl (.inl rfl) (pe_and (pe_callB (call_isR U hz.zc hf) (by rfl) B.isi (by decide +kernel) (pa_cons (pv 5) (pa_cons (pe_glob (by rfl) U.gR rfl) pa_nil)))
            (pe_and (pe_hasH N3 ⟨(hr.mono (by decide) : Room 1 _).dp, (hr.mono (by decide) : Room 1 _).un⟩ (hotC_suite hz hf) (pa_cons (pe_xf U.xf U.noN hz.zc hf (pv 5)) pa_nil)) (pe_one (pe_cmpR op_eq (pe_xf U.xf U.noN hz.zc hf (pv 5)) (pv 1) (nomark _))))))
          <| pss_one (ps_ret (pe_tup (pa_cons (pe_and (pv 6) (pe_and (pe_cmpR op_eq (pv 0) pe_int (nomark _)) (pe_one (pe_cmpR op_gt (pv 1) pe_int (nomark _))))) (pa_cons pe_int pa_nil))))))
    <| pss_cons (ps_set (i := 7) scSlopeOf.nd rfl (.inl rfl) (pe_callB (call_max2 rfl) (by rfl) B.max (by decide +kernel) (pa_cons pe_int (pa_cons (pe_op op_sub pe_int (pv 2)) pa_nil))))
    <| pss_cons (ps_if (PW.pt (pw_or (pt_not (pt_val (pe_has N2 (hr.mono (by decide)) (pa_cons (pv 4) pa_nil)))) (pw_or (pt_cmpR op_lt (pv 4) (pv 7) (nomark _)) (pw_or1 (pt_cmpR op_lt (pe_has N4 (hr.mono (by decide)) (pa_cons (pv 4) (pa_cons (pv 2) (pa_cons (pv 0) pa_nil)))) (pv 1) (nomark _)))))) (pss_one ps_never) pss_nil)
    <| pss_one (ps_ret (pe_tup (pa_cons (pe_or (pe_cmpR op_eq (pv 4) (pv 7) (nomark _)) (pe_one (pe_cmpR op_lt (pe_has N4 (hr.mono (by decide)) (pa_cons (pe_op op_sub (pv 4) pe_int) (pa_cons (pv 2) (pa_cons (pv 0) pa_nil)))) (pv 1) (nomark _)))) (pa_cons (pv 4) pa_nil)))), ?_⟩
  rcases pl with _ | _
  all_goals (
    first
      | refine ⟨_, rfl, false, rfl, iteF ⟨_, rfl, _, rfl, _, rfl, rfl, rfl, t, b, n, rfl, b1, b2, n1, n64, t1, t2, fun c dd H1 s1 hdd => ?_, fun c e H1 s1 sp e60 => ?_⟩⟩
      | refine ⟨_, rfl, true, rfl, iteT ⟨_, rfl, _, rfl, t, b, n, congrArg (fun z => [V.int n, V.int t, V.int z]) (hpl rfl).symm, b1, b2, n1, n64, t1, t2, fun c dd H1 s1 hdd => ?_, fun c e H1 s1 sp e60 => ?_⟩⟩
    · refine ⟨true, U.te, fun _ a0 na => ?_, fun z => Bool.noConfusion z⟩
      refine same_read (t := t) rfl rfl hdd ?_
      refine same_tail (kv := .int 0) (n := n) (t := t) rfl rfl rfl c (fun Q q => q) fun p hp => ?_
      exact hQ p _ _ (s1.trans (same_new hp _)) upd_same (fun _ => rfl) (fun z => (z c).elim)
    · obtain ⟨e1, e2, e3⟩ := id sp
      refine ⟨_, rfl, _, _, rfl, rfl, _, _, rfl, ?_⟩
      refine ⟨_, rfl, e, rfl, true, rfl, iteF ?_⟩
      refine ⟨_, rfl, _, rfl, _, _, rfl, rfl, _, rfl, ite2 (fun cc => ?_) fun _ => ?_⟩
      · have cc : e < lowS b := of_decide_eq_true cc
        omega
      refine ⟨_, rfl, _, rfl, _, rfl, e, b, n, rfl, ⟨by omega, by omega, by omega, by omega⟩, n1, n64, fun H2 s2 => ?_⟩
      refine ⟨_, rfl, _, _, rfl, rfl, _, rfl, ite2 (fun cc => ?_) fun _ => ?_⟩
      · have cc := of_decide_eq_true cc
        omega
      refine ⟨_, rfl, _, rfl, rfl, ?_⟩
      by_cases z : e = lowS b
      · refine ⟨true, bT (congrArg V.int z), iteT ?_⟩
        refine ⟨_, rfl, (by show 2 ≤ sizeLine; decide), fun p hp => ?_⟩
        exact hQ p _ e ((s1.trans s2).trans (same_new hp _)) upd_same (fun y => (c y).elim) fun _ => sp
      · refine ⟨false, bF (fun y => z (V.int.inj y)), iteF ?_⟩
        refine ⟨_, rfl, _, _, rfl, rfl, _, rfl, _, rfl, e - 1, b, n, rfl, ⟨by omega, by omega, by omega, by omega⟩, n1, n64, fun H3 s3 => ?_⟩
        refine ⟨_, rfl, _, _, rfl, rfl, ?_⟩
        refine ⟨_, rfl, (by show 2 ≤ sizeLine; decide), fun p hp => ?_⟩
        exact hQ p _ e (((s1.trans s2).trans s3).trans (same_new hp _)) (upd_same.trans (tupT (e3.resolve_left z))) (fun y => (c y).elim) fun _ => sp)
end
end Lr

/-! the box: _law_box, _law_draw, _law_wide -/
namespace Lr
open PySem L2
abbrev sBox : Stmt := top 32
abbrev sDraw : Stmt := top 33
abbrev sWide : Stmt := top 34
/-- the box at b: the big numbers at g, the small ones at s -/
def BoxAt (H : Hp) (b g s : Addr) : Prop := ∃ (gs ss : List Int) (seed cnt : Int), H b = some (.lst [.ref g, .ref s, .int seed, .int cnt]) ∧ H g = some (.lst (gs.map V.int)) ∧ H s = some (.lst (ss.map V.int)) ∧ ss ≠ [] ∧ s ≠ g
/-- all but b and g stays -/
def Keep (b g : Addr) (H H' : Hp) : Prop := (∀ a o, H a = some o → a ≠ b → a ≠ g → H' a = some o) ∧ (∃ xs, H b = some (.lst xs)) ∧ (∃ xs, H g = some (.lst xs)) ∧ (∃ xs, H' b = some (.lst xs)) ∧ (∃ xs, H' g = some (.lst xs))
theorem Keep.trans {b g : Addr} {H H1 H2 : Hp} (k : Keep b g H H1) (l : Keep b g H1 H2) : Keep b g H H2 :=
  ⟨fun a o h n m => l.1 a o (k.1 a o h n m) n m, k.2.1, k.2.2.1, l.2.2.2.1, l.2.2.2.2⟩
theorem Keep.nl {b g : Addr} {H H' : Hp} (k : Keep b g H H') : NL H H' := fun a o h n => by
  refine k.1 a o h (fun e => ?_) (fun e => ?_)
  · subst e
    obtain ⟨xs, z⟩ := k.2.1
    rw [h] at z
    exact n xs (Option.some.inj z)
  · subst e
    obtain ⟨xs, z⟩ := k.2.2.1
    rw [h] at z
    exact n xs (Option.some.inj z)
theorem BoxAt.refl {H : Hp} {b g s : Addr} (h : BoxAt H b g s) : Keep b g H H := by
  obtain ⟨gs, ss, seed, cnt, h1, h2, h3, h4, h5⟩ := h
  exact ⟨fun a o h _ _ => h, ⟨_, h1⟩, ⟨_, h2⟩, ⟨_, h1⟩, ⟨_, h2⟩⟩
theorem BoxAt.same {H H' : Hp} {b g s : Addr} (h : BoxAt H b g s) (e : Same H H') : BoxAt H' b g s := by
  obtain ⟨gs, ss, seed, cnt, h1, h2, h3, h4, h5⟩ := h
  exact ⟨gs, ss, seed, cnt, e _ _ h1, e _ _ h2, e _ _ h3, h4, h5⟩
theorem BoxAt.kept {H H' : Hp} {b g s : Addr} (h : BoxAt H b g s) (e : Same H H') : Keep b g H H' := by
  obtain ⟨gs, ss, seed, cnt, h1, h2, h3, h4, h5⟩ := h
  exact ⟨fun a o h _ _ => e _ _ h, ⟨_, h1⟩, ⟨_, h2⟩, ⟨_, e _ _ h1⟩, ⟨_, e _ _ h2⟩⟩
theorem BoxAt.ne {H : Hp} {b g : Addr} {s : V} {gs : List Int} {r : List V} (h1 : H b = some (.lst (.ref g :: r))) (h2 : H g = some (.lst (gs.map V.int))) : b ≠ g := fun e => by
  subst e
  rw [h1] at h2
  have z := HO.lst.inj (Option.some.inj h2)
  cases gs with
  | nil => cases z
  | cons x l => cases (List.cons.inj z).1
theorem ints_ne {H : Hp} {b s : Addr} {gs : List Int} {v : Addr} {r : List V} (h1 : H b = some (.lst (.ref v :: r))) (h2 : H s = some (.lst (gs.map V.int))) : b ≠ s := fun e => by
  subst e
  rw [h1] at h2
  have z := HO.lst.inj (Option.some.inj h2)
  cases gs with
  | nil => cases z
  | cons x l => cases (List.cons.inj z).1
theorem ixN_at {n k : Nat} {i : Int} (h : k < n) (e : i = (k : Int)) : ixN n i = some k := by
  subst e
  unfold ixN
  rw [if_pos (by omega), if_pos (by omega)]
  rfl
/-- a draw's promise -/
def spDraw : Sp := fun vs H Q _ => ∃ (b g s : Addr) (many : Int), vs = [.ref b, .int many] ∧ BoxAt H b g s ∧ 1 ≤ many ∧ many ≤ 10 ^ 61 ∧ ∀ (H' : Hp) (z : Int), Keep b g H H' → BoxAt H' b g s → 0 ≤ z → z < many → Q (.int z) H'
section
variable {P : Program} {w : World} {K : PySem.W.Frag} {mg : Str → Option Value} {base : Heap}
theorem scDraw : FnScope ["_law_box_here", "_law_many", "_law_great", "_law_digit", "_law_small", "_law_near"] ["_law_box_here", "_law_many"] (defScope sDraw) := ⟨rfl, rfl, rfl, by decide +kernel, rfl, by decide +kernel, by decide +kernel⟩
theorem ok_draw {f : Addr} {fd : FuncData} (B : Bt mg) (D : Df K mg "_law_draw" sDraw ["_law_box_here", "_law_many"] f fd) : Has P w K mg base CX0 1 "_law_draw" ["_law_box_here", "_law_many"] spDraw := by
  refine D.has (D.2.1.ok scDraw (fun vs H Q E h => ?_) (fun cdv A outer s H vs Q E hr h => ?_))
  · obtain ⟨b, g, s, many, rfl, _⟩ := h
    rfl
  obtain ⟨b, g, s, many, rfl, ⟨gs, ss, seed, cnt, hb, hg, hs, h4, h5⟩, m1, m2, q⟩ := h
  have nbg : b ≠ g := ints_ne hb hg
  have nbs : b ≠ s := ints_ne hb hs
  refine ⟨_, pss_cons (ps_set (i := 2) scDraw.nd rfl (.inl rfl) (pe_ix ix_list (pv 0) pe_int (fun _ _ => rfl)))
    <| pss_cons (ps_if (pt_cmpR op_gt (pe_callB call_len_seq (by rfl) B.len PySem.boot_len (pa_cons (pv 2) pa_nil)) pe_int (nomark _))
      (pss_cons (ps_set (i := 3) scDraw.nd rfl (.inl rfl) (pe_op op_mod (pe_callTy call_int1 (by rfl) B.int (by decide +kernel) (pa_cons (pe_ix ix_list (pv 2) pe_int (fun _ _ => rfl)) pa_nil)) (pv 1)))
      <| pss_cons (ps_asg (pe_op op_fdivW (pe_callTy call_int1 (by rfl) B.int (by decide +kernel) (pa_cons (pe_ix ix_list (pv 2) pe_int (fun _ _ => rfl)) pa_nil)) (pv 1)) (pg_sub (pv 2) pe_int set_list))
      <| pss_cons (ps_if (pt_cmpR op_eq (pe_ix ix_list (pv 2) pe_int (fun _ _ => rfl)) pe_int (nomark _)) (pss_one (ps_expr (pe_bm PySem.F.plainAttrs_list PySem.F.slot_list_pop PySem.F.type_list_pop mt_popAt (pv 2) (pa_cons pe_int pa_nil)))) pss_nil)
      <| pss_one (ps_ret (pv 3))) pss_nil)
    <| pss_cons (ps_set (i := 4) scDraw.nd rfl (.inl rfl) (pe_ix ix_list (pv 0) pe_int (fun _ _ => rfl)))
    <| pss_cons (ps_set (i := 5) scDraw.nd rfl (.inl rfl) (pe_ix ix_list (pv 4) (pe_op op_mod (pe_callTy call_int1 (by rfl) B.int (by decide +kernel) (pa_cons (pe_ix ix_list (pv 0) pe_int (fun _ _ => rfl)) pa_nil)) (pe_callB call_len_seq (by rfl) B.len PySem.boot_len (pa_cons (pv 4) pa_nil))) (fun _ _ => rfl)))
    <| pss_cons (ps_asg (pe_op op_mod (pe_callTy call_int1 (by rfl) B.int (by decide +kernel) (pa_cons (pe_op op_add (pe_op op_add (pe_op op_mul (pe_ix ix_list (pv 0) pe_int (fun _ _ => rfl)) pe_int) (pv 5)) (pe_op op_mul pe_int (pe_ix ix_list (pv 0) pe_int (fun _ _ => rfl)))) pa_nil)) pe_int) (pg_sub (pv 0) pe_int set_list))
    <| pss_cons (ps_asg (pe_op op_add (pe_ix ix_list (pv 0) pe_int (fun _ _ => rfl)) pe_int) (pg_sub (pv 0) pe_int set_list))
    <| pss_one (ps_ret (pe_op op_mod (pe_op op_fdiv (pe_op op_mod (pe_callTy call_int1 (by rfl) B.int (by decide +kernel) (pa_cons (pe_op op_add (pe_op op_mul (pe_ix ix_list (pv 0) pe_int (fun _ _ => rfl)) pe_int) (pe_ix ix_list (pv 0) pe_int (fun _ _ => rfl))) pa_nil)) pe_int) pe_int) (pv 1))), ?_⟩
  refine ⟨_, rfl, b, _, _, _, rfl, rfl, .of hb, atI_nat (j := 0) rfl, ?_⟩
  refine ⟨_, rfl, g, _, rfl, .inl (.of hg), _, _, rfl, rfl, _, rfl, ?_⟩
  match gs, hg with
  | x :: r, hg =>
    refine ite2 (fun c => ?_) (fun c => ?_)
    · refine ⟨_, rfl, g, _, _, _, rfl, rfl, .of hg, atI_nat (j := 0) rfl, .inl ⟨x, rfl, _, rfl, _, _, rfl, rfl, by omega, ?_⟩⟩
      refine ⟨_, rfl, g, _, _, _, rfl, rfl, .of hg, atI_nat (j := 0) rfl, .inl ⟨x, rfl, _, rfl, _, _, rfl, rfl, wide_div (b := 400) (by omega) (by omega) (by decide) (by decide), ?_⟩⟩
      refine ⟨_, rfl, g, _, _, 0, rfl, rfl, hg, ixN_at (Nat.succ_pos _) rfl, ?_⟩
      have hg1 : upd H g (.lst ((V.int (x / many)) :: r.map V.int)) g = some (.lst ((V.int (x / many)) :: r.map V.int)) := upd_same
      have hb1 : upd H g (.lst ((V.int (x / many)) :: r.map V.int)) b = some (.lst [.ref g, .ref s, .int seed, .int cnt]) := (upd_ne nbg).trans hb
      have hs1 : upd H g (.lst ((V.int (x / many)) :: r.map V.int)) s = some (.lst (ss.map V.int)) := (upd_ne h5).trans hs
      have z1 : 0 ≤ x % many := Int.emod_nonneg _ (by omega)
      have z2 : x % many < many := Int.emod_lt_of_pos _ (by omega)
      refine ⟨_, rfl, g, _, _, _, rfl, rfl, .of hg1, atI_nat (j := 0) rfl, rfl, ?_⟩
      by_cases e : x / many = 0
      · refine ⟨true, bT (congrArg V.int e), iteT ?_⟩
        refine ⟨_, rfl, .inl ⟨rfl, _, .inl (.inl hg1)⟩, g, _, _, 0, _, rfl, rfl, hg1, by decide, by decide, ?_, rfl, ?_⟩
        · unfold seqIndex?
          simp
        refine ⟨_, rfl, q _ _ ⟨fun a o h n m => ?_, ⟨_, hb⟩, ⟨_, hg⟩, ⟨_, (upd_ne nbg).trans hb1⟩, ⟨_, upd_same⟩⟩ ⟨r, ss, seed, cnt, (upd_ne nbg).trans hb1, upd_same, (upd_ne h5).trans hs1, h4, h5⟩ z1 z2⟩
        rw [upd_ne m, upd_ne m]
        exact h
      · refine ⟨false, bF (fun y => e (V.int.inj y)), iteF ?_⟩
        refine ⟨_, rfl, q _ _ ⟨fun a o h n m => ?_, ⟨_, hb⟩, ⟨_, hg⟩, ⟨_, hb1⟩, ⟨_, hg1⟩⟩ ⟨x / many :: r, ss, seed, cnt, hb1, hg1, hs1, h4, h5⟩ z1 z2⟩
        rw [upd_ne m]
        exact h
    · have c := of_decide_eq_false (Bool.eq_false_iff.mpr c)
      exact (c (by show (0 : Int) < ((r.map V.int).length + 1 : Nat); omega)).elim
  | [], hg =>
    refine iteF ?_
    refine ⟨_, rfl, b, _, _, _, rfl, rfl, .of hb, atI_nat (j := 1) rfl, ?_⟩
    have sl : 0 < ss.length := List.length_pos_iff.mpr h4
    have sl' : (ss.map V.int).length = ss.length := List.length_map _
    have y1 : 0 ≤ cnt % (ss.length : Int) := Int.emod_nonneg _ (by omega)
    have y2 : cnt % (ss.length : Int) < (ss.length : Int) := Int.emod_lt_of_pos _ (by omega)
    refine ⟨_, rfl, _, rfl, b, _, _, _, rfl, rfl, .of hb, atI_nat (j := 3) rfl, .inl ⟨cnt, rfl, _, rfl, s, _, rfl, .inl (.of hs), _, _, rfl, rfl, by show (0 : Int) < (((ss.map V.int).length : Nat) : Int); omega, ?_⟩⟩
    have hat : atI (ss.map V.int) (cnt % (((ss.map V.int).length : Nat) : Int)) = some (.int (ss.getD (cnt % (ss.length : Int)).toNat 0)) := by
      rw [sl']
      exact atI_int y1 y2
    generalize ss.getD (cnt % (ss.length : Int)).toNat 0 = near at hat
    refine ⟨s, _, _, _, rfl, rfl, .of hs, hat, ?_⟩
    refine ⟨_, rfl, b, _, _, _, rfl, rfl, .of hb, atI_nat (j := 2) rfl, _, _, rfl, rfl, .inr ⟨by decide, by decide⟩, _, rfl, _, _, rfl, rfl, _, rfl, b, _, _, _, rfl, rfl, .of hb, atI_nat (j := 3) rfl, _, _, rfl, rfl, .inl ⟨by decide, by decide⟩, _, _, rfl, rfl,
      .inl ⟨_, rfl, _, _, rfl, rfl, (by show (0 : Int) < 2147483647; decide), ?_⟩⟩
    refine ⟨_, rfl, b, _, _, 2, rfl, rfl, hb, ixN_at (by show 2 < 4; decide) rfl, ?_⟩
    have hb1 : upd H b (.lst ([V.ref g, .ref s, .int seed, .int cnt].set 2 (.int ((seed * 48271 + near + 69621 * cnt) % 2147483647)))) b = some (.lst [V.ref g, .ref s, .int ((seed * 48271 + near + 69621 * cnt) % 2147483647), .int cnt]) := upd_same
    refine ⟨_, rfl, b, _, _, _, rfl, rfl, .of hb1, atI_nat (j := 3) rfl, _, _, rfl, rfl, ?_⟩
    refine ⟨_, rfl, b, _, _, 3, rfl, rfl, hb1, ixN_at (by show 3 < 4; decide) rfl, ?_⟩
    have hb2 : upd (upd H b (.lst ([V.ref g, .ref s, .int seed, .int cnt].set 2 (.int ((seed * 48271 + near + 69621 * cnt) % 2147483647))))) b (.lst ([V.ref g, .ref s, .int ((seed * 48271 + near + 69621 * cnt) % 2147483647), .int cnt].set 3 (.int (cnt + 1)))) b = some (.lst [V.ref g, .ref s, .int ((seed * 48271 + near + 69621 * cnt) % 2147483647), .int (cnt + 1)]) := upd_same
    refine ⟨_, rfl, b, _, _, _, rfl, rfl, .of hb2, atI_nat (j := 2) rfl, _, _, rfl, rfl, .inr ⟨by decide, by decide⟩, _, rfl, b, _, _, _, rfl, rfl, .of hb2, atI_nat (j := 3) rfl, _, _, rfl, rfl,
      .inl ⟨_, rfl, _, _, rfl, rfl, (by show (0 : Int) < 2147483629; decide), _, _, rfl, rfl, ⟨by decide, by decide⟩, _, rfl, _, _, rfl, rfl, by omega, ?_⟩⟩
    refine q _ _ ⟨fun a o h n m => ?_, ⟨_, hb⟩, ⟨_, hg⟩, ⟨_, hb2⟩, ⟨_, (upd_ne nbg.symm).trans ((upd_ne nbg.symm).trans hg)⟩⟩ ⟨[], ss, _, cnt + 1, hb2, (upd_ne nbg.symm).trans ((upd_ne nbg.symm).trans hg), (upd_ne nbs.symm).trans ((upd_ne nbs.symm).trans hs), h4, h5⟩ (Int.emod_nonneg _ (by omega)) (Int.emod_lt_of_pos _ (by omega))
    rw [upd_ne n, upd_ne n]
    exact h
end
end Lr

/-! _law_wide, _law_line, _law_days, _law_seats -/
namespace Lr
open PySem L2
abbrev sLawLine : Stmt := top 35
abbrev sDays : Stmt := top 49
abbrev sSeats : Stmt := top 50
theorem BoxAt.off {H : Hp} {b g s p : Addr} (h : BoxAt H b g s) (hp : H p = none) : p ≠ b ∧ p ≠ g := by
  obtain ⟨gs, ss, seed, cnt, h1, h2, h3, h4, h5⟩ := h
  exact ⟨(ne_of_none h1 hp).symm, (ne_of_none h2 hp).symm⟩
theorem pick {l : List Int} {i : Int} (h0 : 0 ≤ i) (h : i < (l.length : Int)) : ∃ v, v ∈ l ∧ atI (l.map V.int) i = some (.int v) := by
  refine ⟨l.getD i.toNat 0, ?_, atI_int h0 h⟩
  have hl : i.toNat < l.length := by omega
  rw [List.getD_eq_getElem?_getD, List.getElem?_eq_getElem hl]
  exact List.getElem_mem hl
section
variable {P : Program} {w : World} {K : PySem.W.Frag} {mg : Str → Option Value} {base : Heap}
theorem scWide : FnScope ["_law_box_here", "_law_many", "_law_number", "_law_span", "_law_turn"] ["_law_box_here", "_law_many"] (defScope sWide) := ⟨rfl, rfl, rfl, by decide +kernel, rfl, by decide +kernel, by decide +kernel⟩
theorem ok_wide {f : Addr} {fd : FuncData} (B : Bt mg) (N : Has P w K mg base CX0 1 "_law_draw" ["_law_box_here", "_law_many"] spDraw) (D : Df K mg "_law_wide" sWide ["_law_box_here", "_law_many"] f fd) : Has P w K mg base CX0 2 "_law_wide" ["_law_box_here", "_law_many"] spDraw := by
  refine D.has (D.2.1.ok scWide (fun vs H Q E h => ?_) (fun cdv A outer s H vs Q E hr h => ?_))
  · obtain ⟨b, g, s, many, rfl, _⟩ := h
    rfl
  obtain ⟨b, g, s, many, rfl, bx, m1, m2, q⟩ := h
  refine ⟨_, pss_cons (ps_if (pt_cmpR op_gt (pe_callB call_len_seq (by rfl) B.len PySem.boot_len (pa_cons (pe_ix ix_list (pv 0) pe_int (fun _ _ => rfl)) pa_nil)) pe_int (nomark _)) (pss_one (ps_ret (pe_has N hr (pa_cons (pv 0) (pa_cons (pv 1) pa_nil))))) pss_nil)
    <| pss_cons (ps_set (i := 2) scWide.nd rfl (.inl rfl) pe_int)
    <| pss_cons (ps_set (i := 3) scWide.nd rfl (.inl rfl) pe_int)
    <| pss_cons (ps_for PassesOwn.never rfl (pi_range1 (by rfl) B.range (pa_cons pe_int pa_nil)) (pg_name (i := 4) scWide.nd rfl (.inl rfl))
      (pss_one (ps_if (pt_cmpR op_lt (pv 3) (pv 1) (nomark _)) (pss_cons (ps_set (i := 2) scWide.nd rfl (.inl rfl) (pe_op op_add (pe_op op_mul (pv 2) pe_int) (pe_has N hr (pa_cons (pv 0) (pa_cons pe_int pa_nil))))) (pss_one (ps_set (i := 3) scWide.nd rfl (.inl rfl) (pe_op op_mul (pv 3) pe_int)))) pss_nil)))
    <| pss_one (ps_ret (pe_op op_mod (pe_callTy call_int1 (by rfl) B.int (by decide +kernel) (pa_cons (pv 2) pa_nil)) (pv 1))), ?_⟩
  obtain ⟨gs, ss, seed, cnt, hb, hg, hs, h4, h5⟩ := id bx
  refine ⟨_, rfl, b, _, _, _, rfl, rfl, .of hb, atI_nat (j := 0) rfl, g, _, rfl, .inl (.of hg), _, _, rfl, rfl, _, rfl, ite2 (fun _ => ?_) (fun _ => ?_)⟩
  · exact ⟨_, rfl, _, rfl, b, g, s, many, rfl, bx, m1, m2, q⟩
  refine ⟨_, rfl, by decide, by decide, for_range (n := 28) (fun i σ H' => ∃ (nu sp : Int) (v : Option V), σ = [some (.ref b), some (.int many), some (.int nu), some (.int sp), v] ∧ Keep b g H H' ∧ BoxAt H' b g s) ⟨0, 1, none, rfl, bx.refl, bx⟩ ?_ ?_⟩
  · rintro i σ H' hi ⟨nu, sp, v, rfl, k, bx⟩
    refine ⟨_, rfl, _, rfl, _, _, rfl, rfl, _, rfl, ite2 (fun _ => ?_) (fun _ => ?_)⟩
    · refine ⟨_, rfl, _, _, rfl, rfl, .inr ⟨by decide, by decide⟩, _, rfl, b, g, s, 1000, rfl, bx, by decide, by decide, fun H2 z k2 bx2 _ _ => ?_⟩
      refine ⟨_, _, rfl, rfl, _, rfl, _, _, rfl, rfl, .inr ⟨by decide, by decide⟩, ?_⟩
      exact ⟨_, _, _, rfl, k.trans k2, bx2⟩
    · exact ⟨nu, sp, _, rfl, k, bx⟩
  · rintro σ H' ⟨nu, sp, v, rfl, k, bx⟩
    refine ⟨_, rfl, .inl ⟨_, rfl, _, rfl, _, _, rfl, rfl, by omega, ?_⟩⟩
    exact q _ _ k bx (Int.emod_nonneg _ (by omega)) (Int.emod_lt_of_pos _ (by omega))
def spLawLine : Sp := fun vs H Q _ => ∃ (b g s : Addr) (sm : Int), vs = [.ref b, .int sm] ∧ BoxAt H b g s ∧ 0 ≤ sm ∧ sm < 2 ∧ ∀ (H' : Hp) (p : Addr) (a e : Int), Keep b g H H' → BoxAt H' b g s → Ok (.line a e) → ModAt H' p (.line a e) → Q (.ref p) H'
theorem scLawLine : FnScope ["_law_box_here", "_law_small", "_law_ways", "_law_steep", "_law_shift"] ["_law_box_here", "_law_small"] (defScope sLawLine) := ⟨rfl, rfl, rfl, by decide +kernel, rfl, by decide +kernel, by decide +kernel⟩
theorem ok_lawLine {f : Addr} {fd : FuncData} (N1 : Has P w K mg base CX0 1 "_law_draw" ["_law_box_here", "_law_many"] spDraw) (N2 : Has P w K mg base CX0 2 "_law_wide" ["_law_box_here", "_law_many"] spDraw)
    (D : Df K mg "_law_line" sLawLine ["_law_box_here", "_law_small"] f fd) : Has P w K mg base CX0 3 "_law_line" ["_law_box_here", "_law_small"] spLawLine := by
  refine D.has (D.2.1.ok scLawLine (fun vs H Q E h => ?_) (fun cdv A outer s H vs Q E hr h => ?_))
  · obtain ⟨b, g, s, many, rfl, _⟩ := h
    rfl
  obtain ⟨b, g, s, sm, rfl, bx, m1, m2, q⟩ := h
  refine ⟨_, pss_cons (ps_set (i := 2) scLawLine.nd rfl (.inl rfl) (pe_ix ix_list (pe_lst (pa_cons pe_int (pa_cons pe_int pa_nil))) (pv 1) (fun _ _ => rfl)))
    <| pss_cons (ps_set (i := 3) scLawLine.nd rfl (.inl rfl) (pe_op op_add pe_int (pe_has N2 hr (pa_cons (pv 0) (pa_cons (pe_ix ix_list (pe_lst (pa_cons pe_int (pa_cons pe_int (pa_cons pe_int (pa_cons (pe_op op_pow pe_int pe_int) pa_nil))))) (pe_has N1 (hr.mono (by decide)) (pa_cons (pv 0) (pa_cons (pv 2) pa_nil))) (fun _ _ => rfl)) pa_nil)))))
    <| pss_cons (ps_set (i := 4) scLawLine.nd rfl (.inl rfl) (pe_op op_add (pe_op op_sub pe_int (pv 3)) (pe_has N2 hr (pa_cons (pv 0) (pa_cons (pe_ix ix_list (pe_lst (pa_cons pe_int (pa_cons pe_int (pa_cons pe_int (pa_cons (pe_op op_add (pe_op op_pow pe_int pe_int) (pv 3)) pa_nil))))) (pe_has N1 (hr.mono (by decide)) (pa_cons (pv 0) (pa_cons (pv 2) pa_nil))) (fun _ _ => rfl)) pa_nil)))))
    <| pss_one (ps_ret (pe_tup (pa_cons pe_str (pa_cons (pv 3) (pa_cons (pv 4) pa_nil))))), ?_⟩
  refine ⟨(by show 2 ≤ sizeLine; decide), fun p hp => ?_⟩
  obtain ⟨wv, wi, wa⟩ := pick (l := [4, 2]) m1 m2
  have w2 : 1 ≤ wv ∧ wv ≤ 4 := by
    rcases List.mem_cons.mp wi with e | e
    · omega
    · have := List.mem_singleton.mp e
      omega
  refine ⟨_, rfl, p, _, _, _, rfl, rfl, .of upd_same, wa, ?_⟩
  have k0 := bx.kept (same_new hp (.lst [.int 4, .int 2]))
  have b0 := bx.same (same_new hp (.lst [.int 4, .int 2]))
  refine ⟨_, rfl, _, _, rfl, rfl, ⟨by decide, by decide, by decide⟩, (by show 4 ≤ sizeLine; decide), fun p1 hp1 => ?_⟩
  have of1 := b0.off hp1
  have k1 := k0.trans (b0.kept (same_new hp1 (.lst [.int 2, .int 4, .int 1000, .int (10 ^ 6)])))
  have b1 := b0.same (same_new hp1 (.lst [.int 2, .int 4, .int 1000, .int (10 ^ 6)]))
  refine ⟨_, rfl, _, rfl, b, g, s, wv, rfl, b1, by omega, by omega, fun H2 z k2 b2 z1 z2 => ?_⟩
  obtain ⟨sv, si, sa⟩ := pick (l := [2, 4, 1000, 10 ^ 6]) z1 (show z < 4 by omega)
  have sz : 1 ≤ sv ∧ sv ≤ 1000000 := by
    simp only [List.mem_cons, List.not_mem_nil, or_false] at si
    omega
  refine ⟨p1, _, _, _, rfl, rfl, .of (k2.1 _ _ upd_same of1.1 of1.2), sa, ?_⟩
  refine ⟨b, g, s, sv, rfl, b2, sz.1, by omega, fun H3 y k3 b3 y1 y2 => ?_⟩
  refine ⟨_, _, rfl, rfl, _, rfl, _, _, rfl, rfl, _, rfl, _, _, rfl, rfl, ⟨by decide, by decide, by decide⟩, _, rfl, _, _, rfl, rfl, (by show 4 ≤ sizeLine; decide), fun p2 hp2 => ?_⟩
  have of2 := b3.off hp2
  have k4 := b3.kept (same_new hp2 (.lst [.int 3, .int 6, .int 1000, .int (10 ^ 6 + (1 + y))]))
  have b4 := b3.same (same_new hp2 (.lst [.int 3, .int 6, .int 1000, .int (10 ^ 6 + (1 + y))]))
  refine ⟨_, rfl, _, rfl, b, g, s, wv, rfl, b4, by omega, by omega, fun H5 u k5 b5 u1 u2 => ?_⟩
  obtain ⟨ev, ei, ea⟩ := pick (l := [3, 6, 1000, 10 ^ 6 + (1 + y)]) u1 (show u < 4 by omega)
  have ez : 1 ≤ ev ∧ ev ≤ 1000000 + (1 + y) := by
    simp only [List.mem_cons, List.not_mem_nil, or_false] at ei
    omega
  refine ⟨p2, _, _, _, rfl, rfl, .of (k5.1 _ _ upd_same of2.1 of2.2), ea, ?_⟩
  refine ⟨b, g, s, ev, rfl, b5, ez.1, by omega, fun H6 x k6 b6 x1 x2 => ?_⟩
  refine ⟨_, _, rfl, rfl, _, rfl, _, rfl, (by show 3 ≤ sizeLine; decide), fun r hr => ?_⟩
  refine q _ r (1 + y) (1 - (1 + y) + x) (((((k1.trans k2).trans k3).trans k4).trans k5).trans (k6.trans (b6.kept (same_new hr _)))) (b6.same (same_new hr _)) ⟨by omega, by omega, by omega, by omega⟩ upd_same
def spDays : Sp := fun vs H Q _ => ∃ (b g s : Addr) (nu : Int), vs = [.ref b, .int nu] ∧ BoxAt H b g s ∧ ∀ (H' : Hp) (t : Int), Keep b g H H' → BoxAt H' b g s → 1 ≤ t → t ≤ 10 ^ 60 → Q (.int t) H'
theorem scDays : FnScope ["_law_box_here", "_law_number", "_law_way"] ["_law_box_here", "_law_number"] (defScope sDays) := ⟨rfl, rfl, rfl, by decide +kernel, rfl, by decide +kernel, by decide +kernel⟩
theorem ok_days {f : Addr} {fd : FuncData} (B : Bt mg) (N1 : Has P w K mg base CX0 1 "_law_draw" ["_law_box_here", "_law_many"] spDraw) (N2 : Has P w K mg base CX0 2 "_law_wide" ["_law_box_here", "_law_many"] spDraw)
    (D : Df K mg "_law_days" sDays ["_law_box_here", "_law_number"] f fd) : Has P w K mg base CX0 3 "_law_days" ["_law_box_here", "_law_number"] spDays := by
  refine D.has (D.2.1.ok scDays (fun vs H Q E h => ?_) (fun cdv A outer s H vs Q E hr h => ?_))
  · obtain ⟨b, g, s, many, rfl, _⟩ := h
    rfl
  obtain ⟨b, g, s, nu, rfl, bx, q⟩ := h
  refine ⟨_, pss_cons (ps_set (i := 2) scDays.nd rfl (.inl rfl) (pe_has N1 (hr.mono (by decide)) (pa_cons (pv 0) (pa_cons pe_int pa_nil))))
    <| pss_cons (ps_if (pt_cmpR op_eq (pv 2) pe_int (nomark _)) (pss_one (ps_ret (pe_op op_add pe_int (pe_has N1 (hr.mono (by decide)) (pa_cons (pv 0) (pa_cons pe_int pa_nil)))))) pss_nil)
    <| pss_cons (ps_if (pt_cmpR op_eq (pv 2) pe_int (nomark _)) (pss_one (ps_ret (pe_op op_add pe_int (pe_has N2 hr (pa_cons (pv 0) (pa_cons (pe_op op_pow pe_int pe_int) pa_nil)))))) pss_nil)
    <| pss_one (ps_ret (pe_callB (call_max2 rfl) (by rfl) B.max (by decide +kernel) (pa_cons pe_int (pa_cons (pe_callB (call_min2 rfl) (by rfl) B.min (by decide +kernel) (pa_cons (pe_op op_pow pe_int pe_int) (pa_cons (pe_op op_add (pe_op op_sub (pv 1) pe_int) (pe_has N1 (hr.mono (by decide)) (pa_cons (pv 0) (pa_cons pe_int pa_nil)))) pa_nil))) pa_nil)))), ?_⟩
  refine ⟨_, rfl, b, g, s, 4, rfl, bx, by decide, by decide, fun H1 z k1 b1 z1 z2 => ?_⟩
  refine ⟨_, rfl, rfl, _, rfl, ite2 (fun _ => ?_) (fun _ => ?_)⟩
  · refine ⟨_, rfl, b, g, s, 30, rfl, b1, by decide, by decide, fun H2 y k2 b2 y1 y2 => ⟨_, _, rfl, rfl, ?_⟩⟩
    exact q _ _ (k1.trans k2) b2 (by omega) (by omega)
  refine ⟨_, rfl, rfl, _, rfl, ite2 (fun _ => ?_) (fun _ => ?_)⟩
  · refine ⟨_, rfl, _, _, rfl, rfl, ⟨by decide, by decide, by decide⟩, b, g, s, 10 ^ 60, rfl, b1, by decide, by decide, fun H2 y k2 b2 y1 y2 => ⟨_, _, rfl, rfl, ?_⟩⟩
    exact q _ _ (k1.trans k2) b2 (by omega) (by omega)
  refine ⟨_, _, rfl, rfl, ⟨by decide, by decide, by decide⟩, _, rfl, _, _, rfl, rfl, _, rfl, b, g, s, 3, rfl, b1, by decide, by decide, fun H2 y k2 b2 y1 y2 => ⟨_, _, rfl, rfl, _, _, rfl, _, _, rfl, ?_⟩⟩
  have e : ∀ m : Int, 1 ≤ (if (if m < 10 ^ 60 then m else 10 ^ 60) > 1 then (if m < 10 ^ 60 then m else 10 ^ 60) else 1) ∧ (if (if m < 10 ^ 60 then m else 10 ^ 60) > 1 then (if m < 10 ^ 60 then m else 10 ^ 60) else 1) ≤ (10 : Int) ^ 60 := fun m => by
    constructor <;> (repeat' split) <;> omega
  exact q _ _ (k1.trans k2) b2 (e _).1 (e _).2
def spSeats : Sp := fun vs H Q _ => ∃ (b g s : Addr), vs = [.ref b] ∧ BoxAt H b g s ∧ ∀ (H' : Hp) (t : Int), Keep b g H H' → BoxAt H' b g s → 1 ≤ t → t ≤ 64 → Q (.int t) H'
theorem scSeats : FnScope ["_law_box_here", "_law_way"] ["_law_box_here"] (defScope sSeats) := ⟨rfl, rfl, rfl, by decide +kernel, rfl, by decide +kernel, by decide +kernel⟩
theorem ok_seats {f : Addr} {fd : FuncData} (N1 : Has P w K mg base CX0 1 "_law_draw" ["_law_box_here", "_law_many"] spDraw)
    (D : Df K mg "_law_seats" sSeats ["_law_box_here"] f fd) : Has P w K mg base CX0 2 "_law_seats" ["_law_box_here"] spSeats := by
  refine D.has (D.2.1.ok scSeats (fun vs H Q E h => ?_) (fun cdv A outer s H vs Q E hr h => ?_))
  · obtain ⟨b, g, s, rfl, _⟩ := h
    rfl
  obtain ⟨b, g, s, rfl, bx, q⟩ := h
  refine ⟨_, pss_cons (ps_set (i := 1) scSeats.nd rfl (.inl rfl) (pe_has N1 hr (pa_cons (pv 0) (pa_cons pe_int pa_nil))))
    <| pss_cons (ps_if (pt_cmpR op_lt (pv 1) pe_int (nomark _)) (pss_one (ps_ret (pe_op op_add (pv 1) pe_int))) pss_nil)
    <| pss_cons (ps_if (pt_cmpR op_eq (pv 1) pe_int (nomark _)) (pss_one (ps_ret (pe_op op_add pe_int (pe_has N1 hr (pa_cons (pv 0) (pa_cons pe_int pa_nil)))))) pss_nil)
    <| pss_cons (ps_if (pt_cmpR op_eq (pv 1) pe_int (nomark _)) (pss_one (ps_ret (pe_op op_add pe_int (pe_has N1 hr (pa_cons (pv 0) (pa_cons pe_int pa_nil)))))) pss_nil)
    <| pss_one (ps_ret pe_int), ?_⟩
  refine ⟨_, rfl, b, g, s, 6, rfl, bx, by decide, by decide, fun H1 z k1 b1 z1 z2 => ?_⟩
  refine ⟨_, rfl, _, _, rfl, rfl, _, rfl, ite2 (fun c => ?_) (fun _ => ?_)⟩
  · have c : z < 3 := of_decide_eq_true c
    exact ⟨_, rfl, _, _, rfl, rfl, q _ _ k1 b1 (by omega) (by omega)⟩
  refine ⟨_, rfl, rfl, _, rfl, ite2 (fun _ => ?_) (fun _ => ?_)⟩
  · refine ⟨_, rfl, b, g, s, 8, rfl, b1, by decide, by decide, fun H2 y k2 b2 y1 y2 => ⟨_, _, rfl, rfl, ?_⟩⟩
    exact q _ _ (k1.trans k2) b2 (by omega) (by omega)
  refine ⟨_, rfl, rfl, _, rfl, ite2 (fun _ => ?_) (fun _ => ?_)⟩
  · refine ⟨_, rfl, b, g, s, 64, rfl, b1, by decide, by decide, fun H2 y k2 b2 y1 y2 => ⟨_, _, rfl, rfl, ?_⟩⟩
    exact q _ _ (k1.trans k2) b2 (by omega) (by omega)
  exact q _ _ k1 b1 (by decide) (by decide)
end
end Lr

/-! _law_table -/
namespace Lr
open PySem L2
abbrev sLawTable : Stmt := top 36
theorem join {t u : TS} {D : Ends} {σ : L2.St} {H : Hp} (F : L2.St → Hp → Prop) (hA : ∀ N : L2.St → Hp → Prop, (∀ σ' H', F σ' H' → N σ' H') → t { D with nx := N } σ H) (hB : ∀ σ' H', F σ' H' → u D σ' H') : tSeq t u D σ H := hA (u D) hB
theorem BoxAt.off3 {H : Hp} {b g s p : Addr} (h : BoxAt H b g s) (hp : H p = none) : p ≠ b ∧ p ≠ g ∧ p ≠ s := by
  obtain ⟨gs, ss, seed, cnt, h1, h2, h3, h4, h5⟩ := h
  exact ⟨(ne_of_none h1 hp).symm, (ne_of_none h2 hp).symm, (ne_of_none h3 hp).symm⟩
theorem BoxAt.mut {H : Hp} {b g s q : Addr} {o : HO} (h : BoxAt H b g s) (n : q ≠ b ∧ q ≠ g ∧ q ≠ s) : BoxAt (upd H q o) b g s := by
  obtain ⟨gs, ss, seed, cnt, h1, h2, h3, h4, h5⟩ := h
  exact ⟨gs, ss, seed, cnt, (upd_ne n.1.symm).trans h1, (upd_ne n.2.1.symm).trans h2, (upd_ne n.2.2.symm).trans h3, h4, h5⟩
theorem Keep.free {b g : Addr} {H H' : Hp} {p : Addr} (k : Keep b g H H') (h : H' p = none) : H p = none := by
  obtain ⟨k0, k1, k2, ⟨_, k3⟩, ⟨_, k4⟩⟩ := k
  cases e : H p with
  | none => rfl
  | some o =>
    have z := k0 p o e (fun z => by rw [z, k3] at h; cases h) (fun z => by rw [z, k4] at h; cases h)
    rw [h] at z
    cases z
theorem Keep.mut {b g q : Addr} {H H' : Hp} {o : HO} (k : Keep b g H H') (h : H q = none) (nb : q ≠ b) (ng : q ≠ g) : Keep b g H (upd H' q o) := by
  obtain ⟨k0, k1, k2, ⟨_, k3⟩, ⟨_, k4⟩⟩ := k
  refine ⟨fun a u ha n m => ?_, k1, k2, ⟨_, (upd_ne nb.symm).trans k3⟩, ⟨_, (upd_ne ng.symm).trans k4⟩⟩
  rw [upd_ne (ne_of_none ha h)]
  exact k0 a u ha n m
theorem getD_lt {ps : List Int} {x : Int} {i : Nat} (h : i < ps.length) : (ps ++ [x]).getD i 0 = ps.getD i 0 := by
  rw [List.getD_eq_getElem?_getD, List.getD_eq_getElem?_getD, List.getElem?_append_left h]
theorem getD_end {ps : List Int} {x : Int} {i : Nat} (h : i = ps.length) : (ps ++ [x]).getD i 0 = x := by
  rw [List.getD_eq_getElem?_getD, h, List.getElem?_append_right (Nat.le_refl _), Nat.sub_self]
  rfl
/-- rising prices, the last at most pr -/
def Up (ps : List Int) (pr : Int) : Prop := (∀ i, i + 1 < ps.length → ps.getD i 0 < ps.getD (i + 1) 0) ∧ (∀ i, i < ps.length → 1 ≤ ps.getD i 0 ∧ ps.getD i 0 ≤ pr) ∧ 0 ≤ pr ∧ pr ≤ 15000000 * (ps.length : Int)
theorem up_add {ps : List Int} {pr x : Int} (h : Up ps pr) (h1 : pr < x) (h2 : x ≤ pr + 15000000) : Up (ps ++ [x]) x := by
  obtain ⟨u1, u2, u3, u4⟩ := h
  have hl : (ps ++ [x]).length = ps.length + 1 := by rw [List.length_append]; rfl
  refine ⟨fun i hi => ?_, fun i hi => ?_, by omega, by omega⟩
  · rw [hl] at hi
    rw [getD_lt (by omega)]
    by_cases e : i + 1 = ps.length
    · rw [getD_end e]
      have := u2 i (by omega)
      omega
    · rw [getD_lt (by omega)]
      exact u1 i (by omega)
  · rw [hl] at hi
    by_cases e : i = ps.length
    · rw [getD_end e]
      omega
    · rw [getD_lt (by omega)]
      have := u2 i (by omega)
      omega
theorem Up.asc {ps : List Int} {pr : Int} (h : Up ps pr) (l1 : 1 ≤ ps.length) (l2 : ps.length ≤ 64) : AscP ps := by
  obtain ⟨u1, u2, u3, u4⟩ := h
  exact ⟨l1, l2, (u2 0 (by omega)).1, u1, fun i hi => by have := u2 i hi; omega⟩
theorem getD_set {ps : List Int} {x : Int} {i j : Nat} (h : j < ps.length) : (ps.set j x).getD i 0 = if i = j then x else ps.getD i 0 := by
  rw [List.getD_eq_getElem?_getD, List.getElem?_set]
  by_cases e : j = i
  · rw [if_pos e, if_pos (by omega), if_pos e.symm]
    rfl
  · rw [if_neg e, if_neg (fun z => e z.symm), List.getD_eq_getElem?_getD]
theorem Up.top {ps : List Int} {pr : Int} (h : Up ps pr) (l1 : 1 ≤ ps.length) (l2 : ps.length ≤ 64) : AscP (ps.set (ps.length - 1) (10 ^ 9)) := by
  obtain ⟨u1, u2, u3, u4⟩ := h
  have hl : (ps.set (ps.length - 1) (10 ^ 9)).length = ps.length := List.length_set
  refine ⟨by omega, by omega, ?_, fun i hi => ?_, fun i hi => ?_⟩
  · rw [getD_set (by omega)]
    have := u2 0 (by omega)
    split <;> omega
  · rw [getD_set (by omega), getD_set (by omega)]
    have := u2 i (by omega)
    rw [if_neg (by omega)]
    split
    · omega
    · exact u1 i (by omega)
  · rw [getD_set (by omega)]
    have := u2 i (by omega)
    split <;> omega
def spLawTable : Sp := fun vs H Q _ => ∃ (b g s : Addr) (most sm : Int), vs = [.ref b, .int most, .int sm] ∧ BoxAt H b g s ∧ 1 ≤ most ∧ most ≤ 64 ∧ 0 ≤ sm ∧ sm < 2 ∧
  ∀ (H' : Hp) (p : Addr) (ps : List Int) (sl fl : Int), Keep b g H H' → BoxAt H' b g s → Ok (.table ps sl fl) → ModAt H' p (.table ps sl fl) → Q (.ref p) H'
section
variable {P : Program} {w : World} {K : PySem.W.Frag} {mg : Str → Option Value} {base : Heap}
theorem scLawTable : FnScope ["_law_box_here", "_law_most", "_law_small", "_law_gap", "_law_price_here", "_law_listed", "_law_turn", "_law_steep"] ["_law_box_here", "_law_most", "_law_small"] (defScope sLawTable) := ⟨rfl, rfl, rfl, by decide +kernel, rfl, by decide +kernel, by decide +kernel⟩
theorem ok_lawTable {f : Addr} {fd : FuncData} (B : Bt mg) (N1 : Has P w K mg base CX0 1 "_law_draw" ["_law_box_here", "_law_many"] spDraw) (N2 : Has P w K mg base CX0 2 "_law_wide" ["_law_box_here", "_law_many"] spDraw)
    (D : Df K mg "_law_table" sLawTable ["_law_box_here", "_law_most", "_law_small"] f fd) : Has P w K mg base CX0 3 "_law_table" ["_law_box_here", "_law_most", "_law_small"] spLawTable := by
  refine D.has (D.2.1.ok scLawTable (fun vs H Q E h => ?_) (fun cdv A outer s H vs Q E hr h => ?_))
  · obtain ⟨b, g, s, most, sm, rfl, _⟩ := h
    rfl
  obtain ⟨b, g, s, most, sm, rfl, bx, m1, m2, s1, s2, q⟩ := h
  refine ⟨_, pss_cons (ps_set (i := 3) scLawTable.nd rfl (.inl rfl) (pe_ix ix_list (pe_lst (pa_cons pe_int (pa_cons pe_int (pa_cons pe_int (pa_cons pe_int (pa_cons pe_int pa_nil)))))) (pe_has N1 (hr.mono (by decide)) (pa_cons (pv 0) (pa_cons (pe_ix ix_list (pe_lst (pa_cons pe_int (pa_cons pe_int pa_nil))) (pv 2) (fun _ _ => rfl)) pa_nil))) (fun _ _ => rfl)))
    <| pss_cons (ps_set (i := 4) scLawTable.nd rfl (.inl rfl) pe_int)
    <| pss_cons (ps_set (i := 5) scLawTable.nd rfl (.inl rfl) (pe_lst pa_nil))
    <| pss_cons (ps_for PassesOwn.never rfl (pi_range1 (by rfl) B.range (pa_cons (pe_op op_add pe_int (pe_has N1 (hr.mono (by decide)) (pa_cons (pv 0) (pa_cons (pv 1) pa_nil)))) pa_nil)) (pg_name (i := 6) scLawTable.nd rfl (.inl rfl))
      (pss_cons (ps_set (i := 4) scLawTable.nd rfl (.inl rfl) (pe_op op_add (pe_op op_add (pv 4) pe_int) (pe_has N2 hr (pa_cons (pv 0) (pa_cons (pv 3) pa_nil)))))
      <| pss_one (ps_expr (pe_bm PySem.F.plainAttrs_list PySem.F.slot_list_append PySem.F.type_list_append mt_append (pv 5) (pa_cons (pv 4) pa_nil)))))
    <| pss_cons (ps_if (PW.pt (pw_and (pt_cmpR op_eq (pe_has N1 (hr.mono (by decide)) (pa_cons (pv 0) (pa_cons pe_int pa_nil))) pe_int (nomark _)) (pw_and1 (pt_cmpR op_eq (pv 2) pe_int (nomark _)))))
      (pss_one (ps_asg (pe_op op_pow pe_int pe_int) (pg_sub (pv 5) (pe_un un_neg pe_int) set_list))) pss_nil)
    <| pss_cons (ps_set (i := 7) scLawTable.nd rfl (.inl rfl) (pe_op op_add pe_int (pe_has N2 hr (pa_cons (pv 0) (pa_cons (pe_ix ix_list (pe_lst (pa_cons pe_int (pa_cons pe_int (pa_cons pe_int (pa_cons (pe_op op_pow pe_int pe_int) pa_nil))))) (pe_has N1 (hr.mono (by decide)) (pa_cons (pv 0) (pa_cons (pe_ix ix_list (pe_lst (pa_cons pe_int (pa_cons pe_int pa_nil))) (pv 2) (fun _ _ => rfl)) pa_nil))) (fun _ _ => rfl)) pa_nil)))))
    <| pss_one (ps_ret (pe_tup (pa_cons pe_str (pa_cons (pe_callTy call_tuple_of (by rfl) B.tuple (by decide +kernel) (pa_cons (pv 5) pa_nil)) (pa_cons (pv 7) (pa_cons (pe_has N1 (hr.mono (by decide)) (pa_cons (pv 0) (pa_cons pe_int pa_nil))) pa_nil)))))), ?_⟩
  refine ⟨(by show 5 ≤ sizeLine; decide), fun p hp => ?_⟩
  have of0 := bx.off hp
  have k0 := bx.kept (same_new hp (.lst [.int 1, .int 2, .int 4, .int 1000, .int 15000000]))
  have b0 := bx.same (same_new hp (.lst [.int 1, .int 2, .int 4, .int 1000, .int 15000000]))
  refine ⟨_, rfl, (by show 2 ≤ sizeLine; decide), fun p1 hp1 => ?_⟩
  obtain ⟨wv, wi, wa⟩ := pick (l := [5, 3]) s1 s2
  have w2 : 1 ≤ wv ∧ wv ≤ 5 := by
    simp only [List.mem_cons, List.not_mem_nil, or_false] at wi
    omega
  have k1 := k0.trans (b0.kept (same_new hp1 (.lst [.int 5, .int 3])))
  have b1 := b0.same (same_new hp1 (.lst [.int 5, .int 3]))
  have e1 := same_new hp1 (.lst [.int 5, .int 3]) _ _ (upd_same (H := H) (a := p) (o := .lst [.int 1, .int 2, .int 4, .int 1000, .int 15000000]))
  refine ⟨_, rfl, p1, _, _, _, rfl, rfl, .of upd_same, wa, b, g, s, wv, rfl, b1, w2.1, by omega, fun H2 z k2 b2 z1 z2 => ?_⟩
  obtain ⟨gv, gi, ga⟩ := pick (l := [1, 2, 4, 1000, 15000000]) z1 (show z < 5 by omega)
  have g2 : 1 ≤ gv ∧ gv ≤ 15000000 := by
    simp only [List.mem_cons, List.not_mem_nil, or_false] at gi
    omega
  refine ⟨p, _, _, _, rfl, rfl, .of (k2.1 _ _ e1 of0.1 of0.2), ga, ?_⟩
  have K2 := k1.trans k2
  refine ⟨(by show 0 ≤ sizeLine; decide), fun l hl => ?_⟩
  have ofl := b2.off3 hl
  have fl := K2.free hl
  refine ⟨_, rfl, _, rfl, b, g, s, most, rfl, b2.same (same_new hl _), m1, by omega, fun H4 n k4 b4 n1 n2 => ?_⟩
  have K4 := K2.trans ((b2.kept (same_new hl _)).trans k4)
  have l4 := k4.1 _ _ upd_same ofl.1 ofl.2.1
  refine ⟨_, _, rfl, rfl, _, rfl, by omega, by omega, for_range (fun i σ H' => ∃ (pr : Int) (v : Option V) (ps : List Int), σ = [some (.ref b), some (.int most), some (.int sm), some (.int gv), some (.int pr), some (.ref l), v, none] ∧ Keep b g H H' ∧ BoxAt H' b g s ∧ H' l = some (.lst (ps.map V.int)) ∧ ps.length = i ∧ Up ps pr)
    ⟨0, none, [], rfl, K4, b4, l4, rfl, fun i hi => (Nat.not_lt_zero _ hi).elim, fun i hi => (Nat.not_lt_zero _ hi).elim, by decide, by decide⟩ ?_ ?_⟩
  · rintro i σ H' hi ⟨pr, v, ps, rfl, k5, b5, l5, li, up⟩
    have hm : (ps.map V.int).length = ps.length := List.length_map _
    refine ⟨_, rfl, _, _, rfl, rfl, _, rfl, _, rfl, b, g, s, gv, rfl, b5, g2.1, by omega, fun H6 y k6 b6 y1 y2 => ?_⟩
    have l6 := k6.1 _ _ l5 ofl.1 ofl.2.1
    refine ⟨_, _, rfl, rfl, _, rfl, .inl ⟨rfl, _, .inl (.inl l6)⟩, _, rfl, l, _, _, rfl, rfl, l6, small1000 (by omega), ?_⟩
    refine ⟨pr + 1 + y, _, ps ++ [pr + 1 + y], rfl, (k5.trans k6).mut fl ofl.1 ofl.2.1, b6.mut ofl, upd_same.trans ?_, ?_, up_add up (by omega) (by omega)⟩
    · rw [List.map_append]
      rfl
    · rw [List.length_append, li]
      rfl
  rintro σ H5 ⟨pr, v, ps, rfl, k5, b5, l5, li, up⟩
  have li1 : 1 ≤ ps.length := by omega
  have li2 : ps.length ≤ 64 := by omega
  dsimp only
  refine join (fun σ' H' => ∃ ps, σ' = [some (.ref b), some (.int most), some (.int sm), some (.int gv), some (.int pr), some (.ref l), v, none] ∧ Keep b g H H' ∧ BoxAt H' b g s ∧ H' l = some (.lst (ps.map V.int)) ∧ AscP ps) (fun N hN => ?_) ?_
  · refine ⟨_, rfl, b, g, s, 9, rfl, b5, by decide, by decide, fun H6 y k6 b6 y1 y2 => ?_⟩
    have l6 := k6.1 _ _ l5 ofl.1 ofl.2.1
    have other := hN _ H6 ⟨ps, rfl, k5.trans k6, b6, l6, up.asc li1 li2⟩
    refine ⟨rfl, _, rfl, ite2 (fun _ => ⟨_, rfl, rfl, _, rfl, ite2 (fun _ => ?_) (fun _ => other)⟩) (fun _ => other)⟩
    have hm : (ps.map V.int).length = ps.length := List.length_map _
    refine ⟨_, _, rfl, rfl, ⟨by decide, by decide, by decide⟩, _, rfl, _, rfl, l, _, _, ps.length - 1, rfl, rfl, l6, ?_, ?_⟩
    · unfold ixN
      rw [if_neg (by decide), hm, if_pos (by omega)]
      congr 1
      omega
    · refine hN _ _ ⟨ps.set (ps.length - 1) (10 ^ 9), rfl, (k5.trans k6).mut fl ofl.1 ofl.2.1, b6.mut ofl, upd_same.trans ?_, up.top li1 li2⟩
      rw [List.map_set]
      rfl
  rintro σ' H7 ⟨ps, rfl, k7, b7, l7, asc⟩
  refine ⟨_, rfl, _, _, rfl, rfl, ⟨by decide, by decide, by decide⟩, (by show 4 ≤ sizeLine; decide), fun p2 hp2 => ?_⟩
  have of2 := b7.off hp2
  have k8 := k7.trans (b7.kept (same_new hp2 (.lst [.int 1, .int 3, .int 1000, .int (10 ^ 6)])))
  have b8 := b7.same (same_new hp2 (.lst [.int 1, .int 3, .int 1000, .int (10 ^ 6)]))
  have l8 := same_new hp2 (.lst [.int 1, .int 3, .int 1000, .int (10 ^ 6)]) _ _ l7
  refine ⟨_, rfl, (by show 2 ≤ sizeLine; decide), fun p3 hp3 => ?_⟩
  obtain ⟨xv, xi, xa⟩ := pick (l := [4, 2]) s1 s2
  have x2 : 1 ≤ xv ∧ xv ≤ 4 := by
    simp only [List.mem_cons, List.not_mem_nil, or_false] at xi
    omega
  have k9 := k8.trans (b8.kept (same_new hp3 (.lst [.int 4, .int 2])))
  have b9 := b8.same (same_new hp3 (.lst [.int 4, .int 2]))
  have l9 := same_new hp3 (.lst [.int 4, .int 2]) _ _ l8
  have e9 := same_new hp3 (.lst [.int 4, .int 2]) _ _ (upd_same (H := H7) (a := p2) (o := .lst [.int 1, .int 3, .int 1000, .int (10 ^ 6)]))
  refine ⟨_, rfl, p3, _, _, _, rfl, rfl, .of upd_same, xa, b, g, s, xv, rfl, b9, x2.1, by omega, fun HA y kA bA y1 y2 => ?_⟩
  obtain ⟨yv, yi, ya⟩ := pick (l := [1, 3, 1000, 10 ^ 6]) y1 (show y < 4 by omega)
  have yz : 1 ≤ yv ∧ yv ≤ 1000000 := by
    simp only [List.mem_cons, List.not_mem_nil, or_false] at yi
    omega
  refine ⟨p2, _, _, _, rfl, rfl, .of (kA.1 _ _ e9 of2.1 of2.2), ya, b, g, s, yv, rfl, bA, yz.1, by omega, fun HB u kB bB u1 u2 => ?_⟩
  have lB := kB.1 _ _ (kA.1 _ _ l9 ofl.1 ofl.2.1) ofl.1 ofl.2.1
  refine ⟨_, _, rfl, rfl, _, rfl, l, _, rfl, .inl ⟨.of lB, fun t ht => ?_⟩⟩
  have oft := bB.off ht
  refine ⟨_, rfl, _, rfl, b, g, s, 4, rfl, bB.same (same_new ht _), by decide, by decide, fun HD fl kD bD f1 f2 => ?_⟩
  refine ⟨(by show 4 ≤ sizeLine; decide), fun r hr => ?_⟩
  have tD := same_new hr (.tup [.str "table", .ref t, .int (1 + u), .int fl]) _ _ (kD.1 _ _ upd_same oft.1 oft.2)
  exact q _ r ps (1 + u) fl ((k9.trans kA).trans (kB.trans ((bB.kept (same_new ht _)).trans (kD.trans (bD.kept (same_new hr _)))))) (bD.same (same_new hr _)) ⟨asc, by omega, by omega, by omega, by omega⟩ ⟨t, upd_same, tD⟩
end
end Lr

/-! _law_model -/
namespace Lr
open PySem L2
abbrev sLawModel : Stmt := top 37
/-- models -/
def Ms (H : Hp) (xs : List V) (d : Nat) : Prop := ∀ v, v ∈ xs → ∃ p m, v = .ref p ∧ ModAt H p m ∧ Ok m ∧ deep m ≤ d
theorem Ms.nl {H H' : Hp} {xs : List V} {d : Nat} (h : Ms H xs d) (n : NL H H') : Ms H' xs d := fun v hv => by
  obtain ⟨p, m, e, a, o, l⟩ := h v hv
  exact ⟨p, m, e, a.nl n, o, l⟩
theorem Ms.mono {H : Hp} {xs : List V} {d e : Nat} (h : Ms H xs d) (l : d ≤ e) : Ms H xs e := fun v hv => by
  obtain ⟨p, m, x, a, o, y⟩ := h v hv
  exact ⟨p, m, x, a, o, Nat.le_trans y l⟩
theorem Ms.app {H : Hp} {xs ys : List V} {d : Nat} (h : Ms H xs d) (k : Ms H ys d) : Ms H (xs ++ ys) d := fun v hv => by
  rcases List.mem_append.mp hv with z | z
  · exact h v z
  · exact k v z
theorem Ms.one {H : Hp} {d : Nat} {p : Addr} {m : Mdl} (a : ModAt H p m) (o : Ok m) (l : deep m ≤ d) : Ms H [.ref p] d := fun v hv => by
  have e := List.mem_singleton.mp hv
  exact ⟨p, m, e, a, o, l⟩
theorem Ms.cut {H : Hp} {xs : List V} {d : Nat} {lo hi : Option Int} (h : Ms H xs d) : Ms H (cutV xs lo hi) d := fun v hv => h v (by
  unfold cutV at hv
  exact List.mem_of_mem_drop (List.mem_of_mem_take hv))
theorem cut_to {xs : List V} {i : Int} {k : Nat} (e : i = (k : Int)) (h : k ≤ xs.length) : (cutV xs none (some i)).length = k := by
  unfold cutV
  rw [e, HT.sIx_none, HT.sIx_nat, List.drop_zero, List.length_take]
  omega
theorem cut_from {xs : List V} {i : Int} {k : Nat} (e : i = (k : Int)) (h : k ≤ xs.length) : (cutV xs (some i) none).length = xs.length - k := by
  unfold cutV
  rw [e, HT.sIx_none, HT.sIx_nat, List.length_take, List.length_drop]
  omega
theorem at_mem {xs : List V} {i : Int} (h0 : 0 ≤ i) (h : i < (xs.length : Int)) : ∃ v, atI xs i = some v ∧ v ∈ xs := by
  obtain ⟨k, rfl⟩ : ∃ k : Nat, i = (k : Int) := ⟨i.toNat, by omega⟩
  have hl : k < xs.length := by omega
  exact ⟨xs[k], atI_nat (List.getElem?_eq_getElem hl), List.getElem_mem hl⟩
theorem ModAt.head {H : Hp} {a : Addr} {m : Mdl} (h : ModAt H a m) : ∃ r, H a = some (.tup (.str (wordOf m) :: r)) := by
  match m, h with
  | .line s e, h => exact ⟨_, h⟩
  | .table ps sl fl, ⟨t, h, _⟩ => exact ⟨_, h⟩
  | .comb true x y fl, ⟨u, v, h, _⟩ => exact ⟨_, h⟩
  | .comb false x y fl, ⟨u, v, h, _⟩ => exact ⟨_, h⟩
theorem modC {H : Hp} {a u v : Addr} {c : Bool} {x y : Mdl} {fl : Int} (h : H a = some (.tup [.str (if c = true then "greater" else "lesser"), .ref u, .ref v, .int fl])) (hu : ModAt H u x) (hv : ModAt H v y) : ModAt H a (.comb c x y fl) := by
  cases c with
  | true => exact ⟨u, v, h, hu, hv⟩
  | false => exact ⟨u, v, h, hu, hv⟩
theorem word_at {z : Int} (h0 : 0 ≤ z) (h : z < 2) : ∃ c : Bool, atI [V.str "lesser", V.str "greater"] z = some (.str (if c = true then "greater" else "lesser")) := by
  have e : z = 0 ∨ z = 1 := by omega
  rcases e with e | e
  · exact ⟨false, by rw [e]; exact atI_nat (j := 0) rfl⟩
  · exact ⟨true, by rw [e]; exact atI_nat (j := 1) rfl⟩
theorem deepC {c : Bool} {x y : Mdl} {fl : Int} {d : Nat} (hx : deep x ≤ d) (hy : deep y ≤ d) : deep (.comb c x y fl) ≤ d + 1 := by
  show (if deep x ≤ deep y then deep y else deep x) + 1 ≤ d + 1
  split <;> omega
def spLawModel : Sp := fun vs H Q _ => ∃ (b g s : Addr) (n : Nat) (most sm : Int), vs = [.ref b, .int n, .int most, .int sm] ∧ BoxAt H b g s ∧ 1 ≤ n ∧ n ≤ 6 ∧ 1 ≤ most ∧ most ≤ 64 ∧ 0 ≤ sm ∧ sm < 2 ∧
  ∀ (H' : Hp) (p : Addr) (m : Mdl), Keep b g H H' → BoxAt H' b g s → Ok m → deep m ≤ 5 → ModAt H' p m → Q (.ref p) H'
section
variable {P : Program} {w : World} {K : PySem.W.Frag} {mg : Str → Option Value} {base : Heap}
theorem scLawModel : FnScope ["_law_box_here", "_law_count", "_law_most", "_law_small", "_law_models", "_law_turn", "_law_at", "_law_one", "_law_other", "_law_word"] ["_law_box_here", "_law_count", "_law_most", "_law_small"] (defScope sLawModel) := ⟨rfl, rfl, rfl, by decide +kernel, rfl, by decide +kernel, by decide +kernel⟩
theorem ok_lawModel {f : Addr} {fd : FuncData} (B : Bt mg) (N1 : Has P w K mg base CX0 1 "_law_draw" ["_law_box_here", "_law_many"] spDraw) (N2 : Has P w K mg base CX0 3 "_law_line" ["_law_box_here", "_law_small"] spLawLine)
    (N3 : Has P w K mg base CX0 3 "_law_table" ["_law_box_here", "_law_most", "_law_small"] spLawTable)
    (D : Df K mg "_law_model" sLawModel ["_law_box_here", "_law_count", "_law_most", "_law_small"] f fd) : Has P w K mg base CX0 4 "_law_model" ["_law_box_here", "_law_count", "_law_most", "_law_small"] spLawModel := by
  refine D.has (D.2.1.ok scLawModel (fun vs H Q E h => ?_) (fun cdv A outer s H vs Q E hr h => ?_))
  · obtain ⟨b, g, s, n, most, sm, rfl, _⟩ := h
    rfl
  obtain ⟨b, g, s, n, most, sm, rfl, bx, n1, n6, m1, m2, s1, s2, q⟩ := h
  refine ⟨_, pss_cons (ps_set (i := 4) scLawModel.nd rfl (.inl rfl) (pe_lst pa_nil))
    <| pss_cons (ps_for PassesOwn.never rfl (pi_range1 (by rfl) B.range (pa_cons (pv 1) pa_nil)) (pg_name (i := 5) scLawModel.nd rfl (.inl rfl))
      (pss_one (ps_if (pt_cmpR op_eq (pe_has N1 (hr.mono (by decide)) (pa_cons (pv 0) (pa_cons pe_int pa_nil))) pe_int (nomark _))
        (pss_one (ps_expr (pe_bm PySem.F.plainAttrs_list PySem.F.slot_list_append PySem.F.type_list_append mt_append (pv 4) (pa_cons (pe_has N2 hr (pa_cons (pv 0) (pa_cons (pv 3) pa_nil))) pa_nil))))
        (pss_one (ps_expr (pe_bm PySem.F.plainAttrs_list PySem.F.slot_list_append PySem.F.type_list_append mt_append (pv 4) (pa_cons (pe_has N3 hr (pa_cons (pv 0) (pa_cons (pv 2) (pa_cons (pv 3) pa_nil)))) pa_nil)))))))
    <| pss_cons (ps_for PassesOwn.never rfl (pi_range1 (by rfl) B.range (pa_cons (pe_op op_sub (pv 1) pe_int) pa_nil)) (pg_name (i := 5) scLawModel.nd rfl (.inl rfl))
      (pss_cons (ps_set (i := 6) scLawModel.nd rfl (.inl rfl) (pe_has N1 (hr.mono (by decide)) (pa_cons (pv 0) (pa_cons (pe_op op_sub (pe_callB call_len_seq (by rfl) B.len PySem.boot_len (pa_cons (pv 4) pa_nil)) pe_int) pa_nil))))
      <| pss_cons (ps_set (i := 7) scLawModel.nd rfl (.inl rfl) (pe_ix ix_list (pv 4) (pv 6) (fun _ _ => rfl)))
      <| pss_cons (ps_set (i := 8) scLawModel.nd rfl (.inl rfl) (pe_ix ix_list (pv 4) (pe_op op_add (pv 6) pe_int) (fun _ _ => rfl)))
      <| pss_cons (ps_if (PW.pt (pw_and (pt_cmpR op_in_seq (pe_ix ix_tup (pv 7) pe_int (fun _ _ => rfl)) (pe_tup (pa_cons pe_str (pa_cons pe_str pa_nil))) (by intros; rfl)) (pw_and1 (pt_cmpR op_eq (pe_has N1 (hr.mono (by decide)) (pa_cons (pv 0) (pa_cons pe_int pa_nil))) pe_int (nomark _)))))
        (pss_one (ps_set (i := 8) scLawModel.nd rfl (.inl rfl) (pv 7))) pss_nil)
      <| pss_cons (ps_set (i := 9) scLawModel.nd rfl (.inl rfl) (pe_ix ix_list (pe_lst (pa_cons pe_str (pa_cons pe_str pa_nil))) (pe_has N1 (hr.mono (by decide)) (pa_cons (pv 0) (pa_cons pe_int pa_nil))) (fun _ _ => rfl)))
      <| pss_one (ps_set (i := 4) scLawModel.nd rfl (.inl rfl) (pe_op op_cat (pe_op op_cat (pe_slice sl_list (pv 4) po_none (po_some (pv 6))) (pe_lst (pa_cons (pe_tup (pa_cons (pv 9) (pa_cons (pv 7) (pa_cons (pv 8) (pa_cons (pe_has N1 (hr.mono (by decide)) (pa_cons (pv 0) (pa_cons pe_int pa_nil))) pa_nil))))) pa_nil)))
          (pe_slice sl_list (pv 4) (po_some (pe_op op_add (pv 6) pe_int)) po_none)))))
    <| pss_one (ps_ret (pe_ix ix_list (pv 4) pe_int (fun _ _ => rfl))), ?_⟩
  refine ⟨(by show 0 ≤ sizeLine; decide), fun l hl => ?_⟩
  have ofl := bx.off3 hl
  refine ⟨_, rfl, _, rfl, by omega, by omega, for_range (fun i σ H' => ∃ (v : Option V) (xs : List V), σ = [some (.ref b), some (.int n), some (.int most), some (.int sm), some (.ref l), v, none, none, none, none] ∧ Keep b g H H' ∧ BoxAt H' b g s ∧ H' l = some (.lst xs) ∧ xs.length = i ∧ Ms H' xs 0)
    ⟨none, [], rfl, bx.kept (same_new hl _), bx.same (same_new hl _), upd_same, rfl, fun v hv => by cases hv⟩ ?_ ?_⟩
  · rintro i σ H' hi ⟨v, xs, rfl, k1, b1, l1, li, ms⟩
    refine ⟨_, rfl, b, g, s, 2, rfl, b1, by decide, by decide, fun H2 z k2 b2 z1 z2 => ?_⟩
    have l2 := k2.1 _ _ l1 ofl.1 ofl.2.1
    refine ⟨rfl, _, rfl, ite2 (fun _ => ?_) (fun _ => ?_)⟩
    · refine ⟨_, rfl, .inl ⟨rfl, _, .inl (.inl l2)⟩, _, rfl, _, rfl, b, g, s, sm, rfl, b2, s1, s2, fun H3 p a e k3 b3 o3 a3 => ?_⟩
      have l3 := k3.1 _ _ l2 ofl.1 ofl.2.1
      have nl : NL H' (upd H3 l (.lst (xs ++ [.ref p]))) := (k2.nl.trans k3.nl).trans (NL.upd l3)
      refine ⟨l, _, _, rfl, rfl, l3, small1000 (by omega), ?_⟩
      refine ⟨_, _, rfl, ((k1.trans k2).trans k3).mut hl ofl.1 ofl.2.1, b3.mut ofl, upd_same, by rw [List.length_append, li]; rfl, (ms.nl nl).app (Ms.one (a3.nl (NL.upd l3)) o3 (Nat.le_refl _))⟩
    · refine ⟨_, rfl, .inl ⟨rfl, _, .inl (.inl l2)⟩, _, rfl, _, rfl, _, rfl, b, g, s, most, sm, rfl, b2, m1, m2, s1, s2, fun H3 p ps sl fl k3 b3 o3 a3 => ?_⟩
      have l3 := k3.1 _ _ l2 ofl.1 ofl.2.1
      have nl : NL H' (upd H3 l (.lst (xs ++ [.ref p]))) := (k2.nl.trans k3.nl).trans (NL.upd l3)
      refine ⟨l, _, _, rfl, rfl, l3, small1000 (by omega), ?_⟩
      refine ⟨_, _, rfl, ((k1.trans k2).trans k3).mut hl ofl.1 ofl.2.1, b3.mut ofl, upd_same, by rw [List.length_append, li]; rfl, (ms.nl nl).app (Ms.one (a3.nl (NL.upd l3)) o3 (Nat.le_refl _))⟩
  rintro σ H0 ⟨v, xs, rfl, k0, b0, l0, li, ms⟩
  refine ⟨_, rfl, _, _, rfl, rfl, _, rfl, by omega, by omega, for_range (fun i σ H' => ∃ (l : Addr) (v5 v6 v7 v8 v9 : Option V) (xs : List V), σ = [some (.ref b), some (.int n), some (.int most), some (.int sm), some (.ref l), v5, v6, v7, v8, v9] ∧ Keep b g H H' ∧ BoxAt H' b g s ∧ H' l = some (.lst xs) ∧ l ≠ b ∧ l ≠ g ∧ xs.length + i = n ∧ Ms H' xs i)
    ⟨l, _, _, _, _, _, xs, rfl, k0, b0, l0, ofl.1, ofl.2.1, by omega, ms⟩ ?_ ?_⟩
  · rintro i σ H' hi ⟨l, v5, v6, v7, v8, v9, xs, rfl, k1, b1, l1, nlb, nlg, li, ms⟩
    have hi' : i + 2 ≤ n := by omega
    refine ⟨_, rfl, _, rfl, l, _, rfl, .inl (.of l1), _, _, rfl, rfl, b, g, s, _, rfl, b1, by omega, by omega, fun H2 z k2 b2 z1 z2 => ?_⟩
    obtain ⟨z, rfl⟩ : ∃ k : Nat, z = (k : Int) := ⟨z.toNat, by omega⟩
    have l2 := k2.1 _ _ l1 nlb nlg
    obtain ⟨w1, a1, i1⟩ := at_mem (xs := xs) (i := z) z1 (by omega)
    obtain ⟨w2, a2, i2⟩ := at_mem (xs := xs) (i := z + 1) (by omega) (by omega)
    have ms2 := ms.nl k2.nl
    obtain ⟨p1, x1, rfl, h1, o1, d1⟩ := ms2 _ i1
    obtain ⟨p2, x2, rfl, h2, o2, d2⟩ := ms2 _ i2
    refine ⟨_, rfl, _, rfl, l, _, _, _, rfl, rfl, .of l2, a1, ?_⟩
    refine ⟨_, rfl, _, rfl, _, _, rfl, rfl, l, _, _, _, rfl, rfl, .of l2, a2, ?_⟩
    dsimp only
    refine join (fun σ' H3 => ∃ p2 x2, σ' = [some (.ref b), some (.int n), some (.int most), some (.int sm), some (.ref l), some (.int (0 + i)), some (.int z), some (.ref p1), some (.ref p2), v9] ∧ Keep b g H2 H3 ∧ BoxAt H3 b g s ∧ ModAt H3 p2 x2 ∧ Ok x2 ∧ deep x2 ≤ i) (fun N hN => ?_) ?_
    · obtain ⟨r1, e1⟩ := h1.head
      refine ⟨_, rfl, p1, _, _, _, rfl, rfl, .of e1, atI_nat (j := 0) rfl, (by show 2 ≤ sizeLine; decide), fun t ht => ?_⟩
      have st := same_new ht (.tup [.str "line", .str "table"])
      refine ⟨t, _, rfl, .inr (.of upd_same), rfl, rfl, _, rfl, ite2 (fun _ => ?_) (fun _ => hN _ _ ⟨p2, x2, rfl, b2.kept st, b2.same st, h2.same st, o2, d2⟩)⟩
      refine ⟨_, rfl, b, g, s, 8, rfl, b2.same st, by decide, by decide, fun H3 y k3 b3 y1 y2 => ?_⟩
      refine ⟨rfl, _, rfl, ite2 (fun _ => ?_) (fun _ => hN _ _ ⟨p2, x2, rfl, (b2.kept st).trans k3, b3, (h2.same st).nl k3.nl, o2, d2⟩)⟩
      exact ⟨_, rfl, hN _ _ ⟨p1, x1, rfl, (b2.kept st).trans k3, b3, (h1.same st).nl k3.nl, o1, d1⟩⟩
    rintro σ' H3 ⟨p2, x2, rfl, k3, b3, h2, o2, d2⟩
    have h1 := h1.nl k3.nl
    have l3 := k3.1 _ _ l2 nlb nlg
    have ms3 := ms2.nl k3.nl
    refine ⟨(by show 2 ≤ sizeLine; decide), fun t ht => ?_⟩
    have oft := b3.off ht
    have st := same_new ht (.lst [.str "lesser", .str "greater"])
    refine ⟨_, rfl, b, g, s, 2, rfl, b3.same st, by decide, by decide, fun H4 y k4 b4 y1 y2 => ?_⟩
    obtain ⟨c, hc⟩ := word_at y1 y2
    have K4 := (b3.kept st).trans k4
    refine ⟨t, _, _, _, rfl, rfl, .of (k4.1 _ _ upd_same oft.1 oft.2), hc, ?_⟩
    have l4 := K4.1 _ _ l3 nlb nlg
    refine ⟨_, rfl, _, rfl, _, rfl, l, _, rfl, .of l4, fun a ha => ?_⟩
    have c1 : (cutV xs none (some (z : Int))).length = z := cut_to rfl (by omega)
    have c2 : (cutV xs (some ((z : Int) + 2)) none).length = xs.length - (z + 2) := cut_from (k := z + 2) (by omega) (by omega)
    have ofa := b4.off ha
    have sa := same_new ha (.lst (cutV xs none (some (z : Int))))
    refine ⟨_, rfl, _, rfl, _, rfl, _, rfl, b, g, s, 2, rfl, b4.same sa, by decide, by decide, fun H5 fl k5 b5 f1 f2 => ?_⟩
    have l5 := k5.1 _ _ (sa _ _ l4) nlb nlg
    refine ⟨(by show 4 ≤ sizeLine; decide), fun t2 ht2 => ⟨(by show 1 ≤ sizeLine; decide), fun e he => ?_⟩⟩
    refine ⟨a, e, _, _, rfl, rfl, same_new he _ _ _ (same_new ht2 _ _ _ (k5.1 _ _ upd_same ofa.1 ofa.2)), upd_same, Nat.le_of_lt (small1000 (by show (cutV xs none (some (z : Int))).length + 1 ≤ 1000; omega)), fun y hy => ?_⟩
    refine ⟨_, rfl, _, rfl, _, _, rfl, rfl, _, rfl, l, _, rfl, .of (same_new hy _ _ _ (same_new he _ _ _ (same_new ht2 _ _ _ l5))), fun d hd => ?_⟩
    refine ⟨y, d, _, _, rfl, rfl, same_new hd _ _ _ upd_same, upd_same, Nat.le_of_lt (small1000 (by rw [List.length_append, c1, c2]; show z + 1 + (xs.length - (z + 2)) ≤ 1000; omega)), fun r hr => ?_⟩
    have S9 := ((same_new ht2 (.tup [.str (if c = true then "greater" else "lesser"), .ref p1, .ref p2, .int fl])).trans (same_new he (.lst [.ref t2]))).trans ((same_new hy (.lst (cutV xs none (some (z : Int)) ++ [.ref t2]))).trans (same_new hd (.lst (cutV xs (some ((z : Int) + 2)) none))))
    have T9 := ((same_new he (.lst [.ref t2])).trans ((same_new hy (.lst (cutV xs none (some (z : Int)) ++ [.ref t2]))).trans (same_new hd (.lst (cutV xs (some ((z : Int) + 2)) none))))) _ _ upd_same
    have S10 := S9.trans (same_new hr (.lst ((cutV xs none (some (z : Int)) ++ [.ref t2]) ++ cutV xs (some ((z : Int) + 2)) none)))
    have T10 := same_new hr (.lst ((cutV xs none (some (z : Int)) ++ [.ref t2]) ++ cutV xs (some ((z : Int) + 2)) none)) _ _ T9
    have ofr := (b5.same S9).off hr
    have nl := (K4.nl.trans (NL.of_same sa)).trans (k5.nl.trans (NL.of_same S10))
    have ms10 := (ms3.nl nl).mono (Nat.le_succ i)
    refine ⟨r, _, _, _, _, _, _, rfl, (((k1.trans k2).trans k3).trans K4).trans ((b4.kept sa).trans (k5.trans (b5.kept S10))), b5.same S10, upd_same, ofr.1, ofr.2, ?_, (ms10.cut.app (Ms.one (modC T10 (h1.nl nl) (h2.nl nl)) ⟨o1, o2, f1, f2⟩ (deepC d1 d2))).app ms10.cut⟩
    rw [List.length_append, List.length_append, c1, c2]
    show z + 1 + (xs.length - (z + 2)) + (i + 1) = n
    omega
  · rintro σ H' ⟨l, v5, v6, v7, v8, v9, xs, rfl, k1, b1, l1, nlb, nlg, li, ms⟩
    obtain ⟨w1, a1, i1⟩ := at_mem (xs := xs) (i := 0) (by decide) (by omega)
    obtain ⟨p1, x1, rfl, h1, o1, d1⟩ := ms _ i1
    refine ⟨_, rfl, l, _, _, _, rfl, rfl, .of l1, a1, ?_⟩
    exact q _ _ _ k1 b1 o1 (by omega) h1
end
end Lr

/-! models as data: equal data, equal model -/
namespace Lr
open PySem PySem.Spec PyProof.Rows L2
def dat : Mdl → PyData
  | .line s e => .tuple [.str "line", .int s, .int e]
  | .table ps sl fl => .tuple [.str "table", .tuple (ps.map .int), .int sl, .int fl]
  | .comb true x y fl => .tuple [.str "greater", dat x, dat y, .int fl]
  | .comb false x y fl => .tuple [.str "lesser", dat x, dat y, .int fl]
theorem ints_dp {K : PySem.W.Frag} {H : Hp} : ∀ ps : List Int, DpAll K H (ps.map V.int) (ps.map PyData.int)
  | [] => .nil
  | p :: ps => .cons (.int p) (ints_dp ps)
theorem dat_dp {K : PySem.W.Frag} {H : Hp} : ∀ {m : Mdl} {a : Addr}, ModAt H a m → Dp K H (.ref a) (dat m)
  | .line s e, a, h => .tup (.of h) (.cons (.str _) (.cons (.int _) (.cons (.int _) .nil)))
  | .table ps sl fl, a, ⟨t, h, ht⟩ => .tup (.of h) (.cons (.str _) (.cons (.tup (.of ht) (ints_dp ps)) (.cons (.int _) (.cons (.int _) .nil))))
  | .comb true x y fl, a, ⟨u, v, h, hu, hv⟩ => .tup (.of h) (.cons (.str _) (.cons (dat_dp hu) (.cons (dat_dp hv) (.cons (.int _) .nil))))
  | .comb false x y fl, a, ⟨u, v, h, hu, hv⟩ => .tup (.of h) (.cons (.str _) (.cons (dat_dp hu) (.cons (dat_dp hv) (.cons (.int _) .nil))))
theorem ints_lay : ∀ ps : List Int, PyData.canLayAll0 (ps.map PyData.int) = true
  | [] => by simp [PyData.canLayAll0]
  | p :: ps => by simp [PyData.canLayAll0, PyData.canLay0, ints_lay ps]
theorem ints_depth : ∀ ps : List Int, PyData.depthAll (ps.map PyData.int) = 0
  | [] => by simp [PyData.depthAll]
  | p :: ps => by simp [PyData.depthAll, PyData.depth, ints_depth ps]
theorem w1 : PyData.canLay0 (.str "line") = true := by decide +kernel
theorem w2 : PyData.canLay0 (.str "table") = true := by decide +kernel
theorem w3 : PyData.canLay0 (.str "greater") = true := by decide +kernel
theorem w4 : PyData.canLay0 (.str "lesser") = true := by decide +kernel
theorem dat_lay : ∀ m : Mdl, (dat m).canLay0 = true
  | .line s e => by
    show PyData.canLay0 (.tuple [.str "line", .int s, .int e]) = true
    rw [PyData.canLay0, PyData.canLayAll0, w1]
    simp [PyData.canLay0, PyData.canLayAll0]
  | .table ps sl fl => by
    show PyData.canLay0 (.tuple [.str "table", .tuple (ps.map .int), .int sl, .int fl]) = true
    rw [PyData.canLay0, PyData.canLayAll0, w2]
    simp [PyData.canLay0, PyData.canLayAll0, ints_lay]
  | .comb true x y fl => by
    show PyData.canLay0 (.tuple [.str "greater", dat x, dat y, .int fl]) = true
    rw [PyData.canLay0, PyData.canLayAll0, w3]
    simp [PyData.canLay0, PyData.canLayAll0, dat_lay x, dat_lay y]
  | .comb false x y fl => by
    show PyData.canLay0 (.tuple [.str "lesser", dat x, dat y, .int fl]) = true
    rw [PyData.canLay0, PyData.canLayAll0, w4]
    simp [PyData.canLay0, PyData.canLayAll0, dat_lay x, dat_lay y]
theorem dat_depth : ∀ m : Mdl, (dat m).depth ≤ deep m + 2
  | .line s e => by
    show PyData.depth (.tuple [.str "line", .int s, .int e]) ≤ 0 + 2
    simp [PyData.depth, PyData.depthAll]
  | .table ps sl fl => by
    show PyData.depth (.tuple [.str "table", .tuple (ps.map .int), .int sl, .int fl]) ≤ 0 + 2
    simp [PyData.depth, PyData.depthAll, ints_depth]
  | .comb true x y fl => by
    have a := dat_depth x
    have b := dat_depth y
    show PyData.depth (.tuple [.str "greater", dat x, dat y, .int fl]) ≤ (if deep x ≤ deep y then deep y else deep x) + 1 + 2
    simp only [PyData.depth, PyData.depthAll]
    split <;> omega
  | .comb false x y fl => by
    have a := dat_depth x
    have b := dat_depth y
    show PyData.depth (.tuple [.str "lesser", dat x, dat y, .int fl]) ≤ (if deep x ≤ deep y then deep y else deep x) + 1 + 2
    simp only [PyData.depth, PyData.depthAll]
    split <;> omega
theorem dat_shaped {m : Mdl} (h : deep m ≤ 60) : SeqAt.shaped (dat m) = true := by
  have d := dat_depth m
  show ((dat m).canLay0 && decide ((dat m).depth ≤ 64)) = true
  rw [dat_lay, decide_eq_true (by omega)]
  rfl
theorem ints_inj : ∀ {ps qs : List Int}, PyData.eqvAll (ps.map PyData.int) (qs.map PyData.int) = true → ps = qs
  | [], [], _ => rfl
  | [], q :: qs, h => by simp [PyData.eqvAll] at h
  | p :: ps, [], h => by simp [PyData.eqvAll] at h
  | p :: ps, q :: qs, h => by
    simp only [List.map_cons, PyData.eqvAll, PyData.eqv, Bool.and_eq_true, beq_iff_eq] at h
    rw [h.1, ints_inj h.2]
theorem dat_inj : ∀ {x y : Mdl}, PyData.eqv (dat x) (dat y) = true → x = y := by
  intro x
  induction x with
  | line s e =>
    intro y h
    match y, h with
    | .line s' e', h =>
      simp only [dat, PyData.eqv, PyData.eqvAll, Bool.and_eq_true, beq_iff_eq] at h
      rw [h.2.1, h.2.2.1]
    | .table ps sl fl, h =>
      simp only [dat, PyData.eqv, PyData.eqvAll, Bool.and_eq_true, beq_iff_eq] at h
      exact absurd h.1 (by decide +kernel)
    | .comb true u v fl, h =>
      simp only [dat, PyData.eqv, PyData.eqvAll, Bool.and_eq_true, beq_iff_eq] at h
      exact absurd h.1 (by decide +kernel)
    | .comb false u v fl, h =>
      simp only [dat, PyData.eqv, PyData.eqvAll, Bool.and_eq_true, beq_iff_eq] at h
      exact absurd h.1 (by decide +kernel)
  | table ps sl fl =>
    intro y h
    match y, h with
    | .line s' e', h =>
      simp only [dat, PyData.eqv, PyData.eqvAll, Bool.and_eq_true, beq_iff_eq] at h
      exact absurd h.1 (by decide +kernel)
    | .table ps' sl' fl', h =>
      simp only [dat, PyData.eqv, PyData.eqvAll, Bool.and_eq_true, beq_iff_eq] at h
      rw [ints_inj h.2.1, h.2.2.1, h.2.2.2.1]
    | .comb true u v fl, h =>
      simp only [dat, PyData.eqv, PyData.eqvAll, Bool.and_eq_true, beq_iff_eq] at h
      exact absurd h.1 (by decide +kernel)
    | .comb false u v fl, h =>
      simp only [dat, PyData.eqv, PyData.eqvAll, Bool.and_eq_true, beq_iff_eq] at h
      exact absurd h.1 (by decide +kernel)
  | comb g x1 x2 fl i1 i2 =>
    intro y h
    cases g with
    | true =>
      match y, h with
      | .line s' e', h =>
        simp only [dat, PyData.eqv, PyData.eqvAll, Bool.and_eq_true, beq_iff_eq] at h
        exact absurd h.1 (by decide +kernel)
      | .table ps' sl' fl', h =>
        simp only [dat, PyData.eqv, PyData.eqvAll, Bool.and_eq_true, beq_iff_eq] at h
        exact absurd h.1 (by decide +kernel)
      | .comb true u v fl', h =>
        simp only [dat, PyData.eqv, PyData.eqvAll, Bool.and_eq_true, beq_iff_eq] at h
        rw [i1 h.2.1, i2 h.2.2.1, h.2.2.2.1]
      | .comb false u v fl', h =>
        simp only [dat, PyData.eqv, PyData.eqvAll, Bool.and_eq_true, beq_iff_eq] at h
        exact absurd h.1 (by decide +kernel)
    | false =>
      match y, h with
      | .line s' e', h =>
        simp only [dat, PyData.eqv, PyData.eqvAll, Bool.and_eq_true, beq_iff_eq] at h
        exact absurd h.1 (by decide +kernel)
      | .table ps' sl' fl', h =>
        simp only [dat, PyData.eqv, PyData.eqvAll, Bool.and_eq_true, beq_iff_eq] at h
        exact absurd h.1 (by decide +kernel)
      | .comb true u v fl', h =>
        simp only [dat, PyData.eqv, PyData.eqvAll, Bool.and_eq_true, beq_iff_eq] at h
        exact absurd h.1 (by decide +kernel)
      | .comb false u v fl', h =>
        simp only [dat, PyData.eqv, PyData.eqvAll, Bool.and_eq_true, beq_iff_eq] at h
        rw [i1 h.2.1, i2 h.2.2.1, h.2.2.2.1]
end Lr

/-! new rules: the classes' makers, & and |, _law_built -/
namespace Lr
open PySem L2
abbrev sBuilt : Stmt := top 38
theorem un64 {k : Nat} {A : Around} (r : Room k A) : A.units + 64 < cLine := by have := r.un; omega
/-- a class that can be made -/
def MkI (P : Program) (w : World) (K : PySem.W.Frag) (mg : Str → Option Value) (base : Heap) (C : Addr) (k : Nat) (ps : List Str) (sp : Sp) : Prop := ∃ f fd, Mk K C f ∧ FnOk P w K mg base CX0 k f fd ps sp ∧ Binds K fd ps []
def spNew2 (C : Addr) : Sp := fun vs H Q _ => ∃ (a b : Addr), vs = [.ref a, .ref b] ∧ ∀ (x dx : Addr) (H' : Hp), Same H H' → H' x = some (.ins C dx (fComb a b)) → Q (.ref x) H'
theorem same_made {H : Hp} {x dx C : Addr} {o : HO} (hx : H x = none) (hd : H dx = none) : Same H (upd (upd (upd H dx (.own x)) x (.ins C dx [])) x o) := same_mut (same_mut (same_new hd _) hx) hx
section
variable {P : Program} {w : World} {K : PySem.W.Frag} {mg : Str → Option Value} {base : Heap} {c : Cs}
theorem comb_read {C : Addr} {σ : L2.St} {H : Hp} {Q : VK} {i j : Nat} {a b : Addr} (hi : σ[i]? = some (some (.ref a))) (hj : σ[j]? = some (some (.ref b))) (q : ∀ (x dx : Addr) (H' : Hp), Same H H' → H' x = some (.ins C dx (fComb a b)) → Q (.ref x) H') :
    tMake C (spCombInit C) [] E0 (tCons (tVar i) (tCons (tVar j) tNil)) σ H Q :=
  ⟨_, hi, _, hj, fun x dx hx hdx ne => ⟨x, dx, a, b, rfl, upd_same, rfl, q x dx _ (same_made hx hdx) upd_same⟩⟩
theorem scAnd : FnScope ["self", "other"] ["self", "other"] (defScope sAnd) := ⟨rfl, rfl, rfl, by decide +kernel, rfl, by decide +kernel, by decide +kernel⟩
theorem ok_and {f : Addr} {fd : FuncData} (T : Rt K mg c) (M : MkI P w K mg base c.less 1 ["self", "one", "other"] (spCombInit c.less)) (F : Fun K "__and__" "Rule.__and__" sAnd f fd) : FnOk P w K mg base CX0 3 f fd ["self", "other"] (spNew2 c.less) := by
  obtain ⟨f1, fd1, mk, F1, b1⟩ := M
  refine F.ok scAnd (fun vs H Q E h => ?_) (fun cdv A outer s H vs Q E hr h => ?_)
  · obtain ⟨a, b, rfl, _⟩ := h
    rfl
  obtain ⟨a, b, rfl, q⟩ := h
  refine ⟨_, pss_one (ps_ret (pe_make mk F1 hr rfl T.gS b1 .nil pass0 (pa_cons (pv 0) (pa_cons (pv 1) pa_nil)))), ?_⟩
  exact comb_read rfl rfl q
theorem scOr : FnScope ["self", "other"] ["self", "other"] (defScope sOr) := ⟨rfl, rfl, rfl, by decide +kernel, rfl, by decide +kernel, by decide +kernel⟩
theorem ok_or {f : Addr} {fd : FuncData} (T : Rt K mg c) (M : MkI P w K mg base c.grt 1 ["self", "one", "other"] (spCombInit c.grt)) (F : Fun K "__or__" "Rule.__or__" sOr f fd) : FnOk P w K mg base CX0 3 f fd ["self", "other"] (spNew2 c.grt) := by
  obtain ⟨f1, fd1, mk, F1, b1⟩ := M
  refine F.ok scOr (fun vs H Q E h => ?_) (fun cdv A outer s H vs Q E hr h => ?_)
  · obtain ⟨a, b, rfl, _⟩ := h
    rfl
  obtain ⟨a, b, rfl, q⟩ := h
  refine ⟨_, pss_one (ps_ret (pe_make mk F1 hr rfl T.gG b1 .nil pass0 (pa_cons (pv 0) (pa_cons (pv 1) pa_nil)))), ?_⟩
  exact comb_read rfl rfl q
/-- what _law_built leans on -/
structure Mks (P : Program) (w : World) (K : PySem.W.Frag) (mg : Str → Option Value) (base : Heap) (c : Cs) : Prop where
  line : MkI P w K mg base c.line 1 ["self", "slope", "extra"] (spLineInit c)
  less : MkI P w K mg base c.less 1 ["self", "one", "other"] (spCombInit c.less)
  grt : MkI P w K mg base c.grt 1 ["self", "one", "other"] (spCombInit c.grt)
  table : ∃ f fd ds, Mk K c.table f ∧ FnOk P w K mg base CX0 2 f fd ["self", "prices", "slope"] (spTableInit K c) ∧ Vals [.int 1] ds ∧ Binds K fd ["self", "prices", "slope"] ds ∧ KBn K fd ["self", "prices", "slope"] 2 ["slope"] (fun us ws => us ++ ws) (fun us ws => us ++ ws)
  opA : ∃ f fd, OpAll K c f .BitAnd ∧ FnOk P w K mg base CX0 3 f fd ["self", "other"] (spNew2 c.less) ∧ Binds K fd ["self", "other"] []
  opO : ∃ f fd, OpAll K c f .BitOr ∧ FnOk P w K mg base CX0 3 f fd ["self", "other"] (spNew2 c.grt) ∧ Binds K fd ["self", "other"] []
  apart : Apart K c
def spBuilt (c : Cs) (d : Nat) : Sp := fun vs H Q _ => ∃ (a : Addr) (m : Mdl), vs = [.ref a] ∧ ModAt H a m ∧ Ok m ∧ deep m < d ∧ d ≤ 60 ∧ ∀ (H' : Hp) (r : Addr), Same H H' → RuleAt c H' r m → Q (.ref r) H'
theorem scBuilt : FnScope ["_law_model_here", "_law_given", "_law_one", "_law_other"] ["_law_model_here"] (defScope sBuilt) := ⟨rfl, rfl, rfl, by decide +kernel, rfl, by decide +kernel, by decide +kernel⟩
theorem built_turn {f : Addr} {fd : FuncData} {d : Nat} (B : Bt mg) (T : Rt K mg c) (M : Mks P w K mg base c) (D : Df K mg "_law_built" sBuilt ["_law_model_here"] f fd) (N : Has P w K mg base CX0 (d + 3) "_law_built" ["_law_model_here"] (spBuilt c d)) :
    Has P w K mg base CX0 (d + 1 + 3) "_law_built" ["_law_model_here"] (spBuilt c (d + 1)) := by
  obtain ⟨fL, dL, mkL, FL, bL⟩ := M.line
  obtain ⟨fS, dS, mkS, FS, bS⟩ := M.less
  obtain ⟨fG, dG, mkG, FG, bG⟩ := M.grt
  obtain ⟨fT, dT, vT, mkT, FT, rT, bT', kT⟩ := M.table
  obtain ⟨fA, dA, oA, FA, bA⟩ := M.opA
  obtain ⟨fO, dO, oO, FO, bO⟩ := M.opO
  refine D.has (D.2.1.ok scBuilt (fun vs H Q E h => ?_) (fun cdv A outer s H vs Q E hr h => ?_))
  · obtain ⟨a, m, rfl, _⟩ := h
    rfl
  obtain ⟨a, m, rfl, ha, ok, hd, h60, q⟩ := h
  refine ⟨_, pss_cons (ps_if (pt_cmpR op_eq (pe_ix ix_tup (pv 0) pe_int (fun _ _ => rfl)) pe_str (nomark _))
      (pss_one (ps_ret (pe_make mkL FL (hr.mono (by omega)) rfl T.gL bL .nil pass0 (pa_cons (pe_ix ix_tup (pv 0) pe_int (fun _ _ => rfl)) (pa_cons (pe_ix ix_tup (pv 0) pe_int (fun _ _ => rfl)) pa_nil))))) pss_nil)
    <| pss_cons (ps_if (pt_cmpR op_eq (pe_ix ix_tup (pv 0) pe_int (fun _ _ => rfl)) pe_str (nomark _))
      (pss_cons (ps_set (i := 1) scBuilt.nd rfl (.inl rfl) (pe_ix ix_tup (pv 0) pe_int (fun _ _ => rfl)))
      <| pss_cons (ps_if (pt_cmpR op_eq (pe_op op_mod (pe_ix ix_tup (pv 0) pe_int (fun _ _ => rfl)) pe_int) pe_int (nomark _)) (pss_one (ps_set (i := 1) scBuilt.nd rfl (.inl rfl) (pe_callTy call_list_of (by rfl) B.list (by decide +kernel) (pa_cons (pe_ix ix_tup (pv 0) pe_int (fun _ _ => rfl)) pa_nil)))) pss_nil)
      <| pss_cons (ps_if (PW.pt (pw_and (pt_cmpR op_eq (pe_ix ix_tup (pv 0) pe_int (fun _ _ => rfl)) pe_int (nomark _)) (pw_and1 (pt_cmpR op_lt (pe_ix ix_tup (pv 0) pe_int (fun _ _ => rfl)) pe_int (nomark _)))))
        (pss_one (ps_ret (pe_make mkT FT (hr.mono (by omega)) rfl T.gT bT' rT pass0 (pa_cons (pv 1) pa_nil)))) pss_nil)
      <| pss_one (ps_ret (pe_makeK (ks := ["slope"]) mkT FT (hr.mono (by omega)) rfl T.gT kT pass0 (pa_cons (pv 1) pa_nil) (by exact (pk_cons (pe_ix ix_tup (pv 0) pe_int (fun _ _ => rfl)) pk_nil))))) pss_nil)
    <| pss_cons (ps_set (i := 2) scBuilt.nd rfl (.inl rfl) (pe_has N hr (pa_cons (pe_ix ix_tup (pv 0) pe_int (fun _ _ => rfl)) pa_nil)))
    <| pss_cons (ps_set (i := 3) scBuilt.nd rfl (.inl rfl) (pv 2))
    <| pss_cons (ps_if (pt_cmpR (op_neD (un64 hr)) (pe_ix ix_tup (pv 0) pe_int (fun _ _ => rfl)) (pe_ix ix_tup (pv 0) pe_int (fun _ _ => rfl)) (nomark _)) (pss_one (ps_set (i := 3) scBuilt.nd rfl (.inl rfl) (pe_has N hr (pa_cons (pe_ix ix_tup (pv 0) pe_int (fun _ _ => rfl)) pa_nil)))) pss_nil)
    <| pss_cons (ps_if (pt_cmpR op_eq (pe_ix ix_tup (pv 0) pe_int (fun _ _ => rfl)) pe_str (nomark _))
      (pss_cons (ps_if (pt_cmpR op_eq (pe_ix ix_tup (pv 0) pe_int (fun _ _ => rfl)) pe_int (nomark _)) (pss_one (ps_ret (pe_op (op_rules oA M.apart FA (hr.mono (by omega)) bA) (pv 2) (pv 3)))) pss_nil)
      <| pss_one (ps_ret (pe_make mkS FS (hr.mono (by omega)) rfl T.gS bS .nil pass0 (pa_cons (pv 2) (pa_cons (pv 3) pa_nil))))) pss_nil)
    <| pss_cons (ps_if (pt_cmpR op_eq (pe_ix ix_tup (pv 0) pe_int (fun _ _ => rfl)) pe_int (nomark _)) (pss_one (ps_ret (pe_op (op_rules oO M.apart FO (hr.mono (by omega)) bO) (pv 2) (pv 3)))) pss_nil)
    <| pss_one (ps_ret (pe_make mkG FG (hr.mono (by omega)) rfl T.gG bG .nil pass0 (pa_cons (pv 2) (pa_cons (pv 3) pa_nil)))), ?_⟩
  match m, ha, ok, hd, q with
  | .line s e, ha, ⟨o1, o2, o3, o4⟩, hd, q =>
    refine ⟨_, rfl, a, _, _, _, rfl, rfl, .of ha, atI_nat (j := 0) rfl, rfl, true, sEq _, iteT ?_⟩
    refine ⟨_, rfl, a, _, _, _, rfl, rfl, .of ha, atI_nat (j := 1) rfl, _, rfl, a, _, _, _, rfl, rfl, .of ha, atI_nat (j := 2) rfl, fun x dx hx hdx ne => ?_⟩
    exact ⟨x, dx, s, e, rfl, upd_same, o1, o3, rfl, q _ x (same_made hx hdx) ⟨dx, upd_same⟩⟩
  | .table ps sl fl, ⟨u, ha, hu⟩, ⟨asc, o1, o2, o3, o4⟩, hd, q =>
    refine ⟨_, rfl, a, _, _, _, rfl, rfl, .of ha, atI_nat (j := 0) rfl, rfl, false, sNe (by decide +kernel), iteF ?_⟩
    refine ⟨_, rfl, a, _, _, _, rfl, rfl, .of ha, atI_nat (j := 0) rfl, rfl, true, sEq _, iteT ?_⟩
    refine ⟨_, rfl, a, _, _, _, rfl, rfl, .of ha, atI_nat (j := 1) rfl, ?_⟩
    dsimp only
    refine join (fun σ' H1 => ∃ g, σ' = [some (.ref a), some (.ref g), none, none] ∧ Same H H1 ∧ (H1 g = some (.lst (ps.map V.int)) ∨ H1 g = some (.tup (ps.map V.int)))) (fun N hN => ?_) ?_
    · refine ⟨_, rfl, a, _, _, _, rfl, rfl, .of ha, atI_nat (j := 3) rfl, _, _, rfl, rfl, (by show (0 : Int) < 2; decide), rfl, _, rfl, ite2 (fun _ => ?_) (fun _ => hN _ _ ⟨u, rfl, Same.refl H, .inr hu⟩)⟩
      exact ⟨_, rfl, a, _, _, _, rfl, rfl, .of ha, atI_nat (j := 1) rfl, u, _, rfl, .inr (.of hu), fun l hl => hN _ _ ⟨l, rfl, same_new hl _, .inl upd_same⟩⟩
    rintro σ' H1 ⟨g, rfl, s1, hg⟩
    have ha1 := s1 _ _ ha
    have last : tRet (tMakeK c.table 1 1 (spTableInit K c) (fun us ws => us ++ ws) E0 (tCons (tVar 1) tNil) (tCons (tOp (rIxT K) (tVar 0) (tC (.int 2))) tNil)) { nx := fun _ H' => Q .non H', rt := Q } [some (.ref a), some (.ref g), none, none] H1 := by
      refine ⟨_, rfl, _, rfl, a, _, _, _, rfl, rfl, .of ha1, atI_nat (j := 2) rfl, rfl, rfl, fun x dx hx hdx ne => ?_⟩
      have st := same_mut (o := .ins c.table dx []) (same_new hdx (.own x)) hx
      refine ⟨x, dx, g, ps, sl, rfl, upd_same, ?_, asc, o1, fun t H2 s2 ht => ⟨rfl, ?_⟩⟩
      · rcases hg with hg | hg
        · exact .inl (.of (st _ _ hg))
        · exact .inr (st _ _ hg)
      · have hx2 : H2 x = some (.ins c.table dx []) := s2 _ _ upd_same
        have nt : t ≠ x := fun z => by rw [z, hx2] at ht; cases ht
        exact q _ x (s1.trans (same_mut (st.trans s2) hx)) ⟨dx, t, upd_same, (upd_ne nt).trans ht⟩
    refine ⟨_, rfl, a, _, _, _, rfl, rfl, .of ha1, atI_nat (j := 2) rfl, rfl, _, rfl, ite2 (fun c1 => ?_) (fun _ => last)⟩
    refine ⟨_, rfl, a, _, _, _, rfl, rfl, .of ha1, atI_nat (j := 3) rfl, _, _, rfl, rfl, _, rfl, ite2 (fun _ => ?_) (fun _ => last)⟩
    have e1 : sl = 1 := V.int.inj (of_decide_eq_true c1)
    refine ⟨_, rfl, fun x dx hx hdx ne => ?_⟩
    have st := same_mut (o := .ins c.table dx []) (same_new hdx (.own x)) hx
    refine ⟨x, dx, g, ps, 1, rfl, upd_same, ?_, asc, by decide, fun t H2 s2 ht => ⟨rfl, ?_⟩⟩
    · rcases hg with hg | hg
      · exact .inl (.of (st _ _ hg))
      · exact .inr (st _ _ hg)
    · have hx2 : H2 x = some (.ins c.table dx []) := s2 _ _ upd_same
      have nt : t ≠ x := fun z => by rw [z, hx2] at ht; cases ht
      rw [e1] at q
      exact q _ x (s1.trans (same_mut (st.trans s2) hx)) ⟨dx, t, upd_same, (upd_ne nt).trans ht⟩
  | .comb true x y fl, ⟨u, v, ha, hu, hv⟩, ⟨ox, oy, _⟩, hd, q =>
    have dm : deep (.comb true x y fl) = (if deep x ≤ deep y then deep y else deep x) + 1 := rfl
    have dx : deep x < d := by
      rw [dm] at hd
      split at hd <;> omega
    have dy : deep y < d := by
      rw [dm] at hd
      split at hd <;> omega
    refine ⟨_, rfl, a, _, _, _, rfl, rfl, .of ha, atI_nat (j := 0) rfl, rfl, false, sNe (by decide +kernel), iteF ?_⟩
    refine ⟨_, rfl, a, _, _, _, rfl, rfl, .of ha, atI_nat (j := 0) rfl, rfl, false, sNe (by decide +kernel), iteF ?_⟩
    refine ⟨_, rfl, a, _, _, _, rfl, rfl, .of ha, atI_nat (j := 1) rfl, u, x, rfl, hu, ox, dx, by omega, fun H1 r1 s1 h1 => ?_⟩
    have ha1 := s1 _ _ ha
    refine ⟨_, rfl, ?_⟩
    dsimp only
    refine join (fun σ' H2 => ∃ r2, σ' = [some (.ref a), none, some (.ref r1), some (.ref r2)] ∧ Same H1 H2 ∧ RuleAt c H2 r2 y) (fun N hN => ?_) ?_
    · refine ⟨_, rfl, a, _, _, _, rfl, rfl, .of ha1, atI_nat (j := 1) rfl, _, rfl, a, _, _, _, rfl, rfl, .of ha1, atI_nat (j := 2) rfl, dat x, dat y, dat_dp (hu.same s1), dat_dp (hv.same s1), dat_shaped (by omega), dat_shaped (by omega), _, rfl, ite2 (fun _ => ?_) (fun cc => ?_)⟩
      · exact ⟨_, rfl, a, _, _, _, rfl, rfl, .of ha1, atI_nat (j := 2) rfl, v, y, rfl, hv.same s1, oy, dy, by omega, fun H2 r2 s2 h2 => hN _ _ ⟨r2, rfl, s2, h2⟩⟩
      · have e : x = y := dat_inj (by simpa using cc)
        subst e
        exact hN _ _ ⟨r1, rfl, Same.refl H1, h1⟩
    rintro σ' H2 ⟨r2, rfl, s2, h2⟩
    have ha2 := s2 _ _ ha1
    have fin : ∀ (z dz : Addr) (H3 : Hp), Same H2 H3 → H3 z = some (.ins c.grt dz (fComb r1 r2)) → Q (.ref z) H3 := fun z dz H3 s3 e3 => q _ z (s1.trans (s2.trans s3)) ⟨dz, r1, r2, e3, (h1.same s2).same s3, h2.same s3⟩
    refine ⟨_, rfl, a, _, _, _, rfl, rfl, .of ha2, atI_nat (j := 0) rfl, rfl, false, sNe (by decide +kernel), iteF ?_⟩
    refine ⟨_, rfl, a, _, _, _, rfl, rfl, .of ha2, atI_nat (j := 3) rfl, rfl, _, rfl, ite2 (fun _ => ?_) (fun _ => comb_read rfl rfl fin)⟩
    exact ⟨_, rfl, _, rfl, r1, r2, x, y, rfl, rfl, h1.same s2, h2, r1, r2, rfl, fin⟩
  | .comb false x y fl, ⟨u, v, ha, hu, hv⟩, ⟨ox, oy, _⟩, hd, q =>
    have dm : deep (.comb false x y fl) = (if deep x ≤ deep y then deep y else deep x) + 1 := rfl
    have dx : deep x < d := by
      rw [dm] at hd
      split at hd <;> omega
    have dy : deep y < d := by
      rw [dm] at hd
      split at hd <;> omega
    refine ⟨_, rfl, a, _, _, _, rfl, rfl, .of ha, atI_nat (j := 0) rfl, rfl, false, sNe (by decide +kernel), iteF ?_⟩
    refine ⟨_, rfl, a, _, _, _, rfl, rfl, .of ha, atI_nat (j := 0) rfl, rfl, false, sNe (by decide +kernel), iteF ?_⟩
    refine ⟨_, rfl, a, _, _, _, rfl, rfl, .of ha, atI_nat (j := 1) rfl, u, x, rfl, hu, ox, dx, by omega, fun H1 r1 s1 h1 => ?_⟩
    have ha1 := s1 _ _ ha
    refine ⟨_, rfl, ?_⟩
    dsimp only
    refine join (fun σ' H2 => ∃ r2, σ' = [some (.ref a), none, some (.ref r1), some (.ref r2)] ∧ Same H1 H2 ∧ RuleAt c H2 r2 y) (fun N hN => ?_) ?_
    · refine ⟨_, rfl, a, _, _, _, rfl, rfl, .of ha1, atI_nat (j := 1) rfl, _, rfl, a, _, _, _, rfl, rfl, .of ha1, atI_nat (j := 2) rfl, dat x, dat y, dat_dp (hu.same s1), dat_dp (hv.same s1), dat_shaped (by omega), dat_shaped (by omega), _, rfl, ite2 (fun _ => ?_) (fun cc => ?_)⟩
      · exact ⟨_, rfl, a, _, _, _, rfl, rfl, .of ha1, atI_nat (j := 2) rfl, v, y, rfl, hv.same s1, oy, dy, by omega, fun H2 r2 s2 h2 => hN _ _ ⟨r2, rfl, s2, h2⟩⟩
      · have e : x = y := dat_inj (by simpa using cc)
        subst e
        exact hN _ _ ⟨r1, rfl, Same.refl H1, h1⟩
    rintro σ' H2 ⟨r2, rfl, s2, h2⟩
    have ha2 := s2 _ _ ha1
    have fin : ∀ (z dz : Addr) (H3 : Hp), Same H2 H3 → H3 z = some (.ins c.less dz (fComb r1 r2)) → Q (.ref z) H3 := fun z dz H3 s3 e3 => q _ z (s1.trans (s2.trans s3)) ⟨dz, r1, r2, e3, (h1.same s2).same s3, h2.same s3⟩
    refine ⟨_, rfl, a, _, _, _, rfl, rfl, .of ha2, atI_nat (j := 0) rfl, rfl, true, sEq _, iteT ?_⟩
    refine ⟨_, rfl, a, _, _, _, rfl, rfl, .of ha2, atI_nat (j := 3) rfl, rfl, _, rfl, ite2 (fun _ => ?_) (fun _ => comb_read rfl rfl fin)⟩
    exact ⟨_, rfl, _, rfl, r1, r2, x, y, rfl, rfl, h1.same s2, h2, r1, r2, rfl, fin⟩
theorem ok_built {f : Addr} {fd : FuncData} (B : Bt mg) (T : Rt K mg c) (M : Mks P w K mg base c) (D : Df K mg "_law_built" sBuilt ["_law_model_here"] f fd) : ∀ d, Has P w K mg base CX0 (d + 3) "_law_built" ["_law_model_here"] (spBuilt c d)
  | 0 => by
    have no : ∀ vs H Q E, ¬ spBuilt c 0 vs H Q E := fun vs H Q E ⟨a, m, _, _, _, h, _⟩ => Nat.not_lt_zero _ h
    exact D.has ⟨fun vs H Q E h => absurd h (no vs H Q E), fun A outer s H args us vs Q E _ _ _ _ h => absurd h (no vs H Q E)⟩
  | d + 1 => built_turn B T M D (ok_built B T M D d)
end
end Lr

/-! _law_box -/
namespace Lr
open PySem L2
def spBox (K : PySem.W.Frag) : Sp := fun vs H Q _ => ∃ (a : Addr) (ns : List Int), vs = [.ref a] ∧ SqL K H a (ns.map V.int) ∧ ns.length ≤ 63 ∧ ∀ (H' : Hp) (b g s : Addr), Same H H' → BoxAt H' b g s → Q (.ref b) H'
theorem SqL_same {K : PySem.W.Frag} {H H' : Hp} {a : Addr} {xs : List V} (h : SqL K H a xs) (s : Same H H') : SqL K H' a xs :=
  h.elim (fun h => .inl (h.elim (fun h => .inl (s _ _ h)) fun ⟨o, h⟩ => .inr ⟨o, s _ _ h⟩)) fun h => .inr h
theorem int_at {cs : List Int} {i : Nat} {x : V} (h : (cs.map V.int)[i]? = some x) : ∃ v, x = .int v := by
  have m := List.mem_of_getElem? h
  obtain ⟨v, _, e⟩ := List.mem_map.mp m
  exact ⟨v, e.symm⟩
theorem cut_ints (ns : List Int) (lo hi : Option Int) : ∃ cs : List Int, cutV (ns.map V.int) lo hi = cs.map V.int ∧ cs.length ≤ ns.length := by
  refine ⟨(ns.drop (HT.sIx (ns.map V.int).length 0 lo)).take (HT.sIx (ns.map V.int).length (ns.map V.int).length hi - HT.sIx (ns.map V.int).length 0 lo), ?_, ?_⟩
  · unfold cutV
    rw [List.map_take, List.map_drop]
  · rw [List.length_take, List.length_drop]
    omega
section
variable {P : Program} {w : World} {K : PySem.W.Frag} {mg : Str → Option Value} {base : Heap}
theorem scBox : FnScope ["_law_script", "_law_cell", "_law_great", "_law_small", "_law_seed"] ["_law_script"] (defScope sBox) := ⟨rfl, rfl, rfl, by decide +kernel, rfl, by decide +kernel, by decide +kernel⟩
theorem ok_box {f : Addr} {fd : FuncData} (B : Bt mg) (D : Df K mg "_law_box" sBox ["_law_script"] f fd) : Has P w K mg base CX0 1 "_law_box" ["_law_script"] (spBox K) := by
  refine D.has (D.2.1.ok scBox (fun vs H Q E h => ?_) (fun cdv A outer s H vs Q E hr h => ?_))
  · obtain ⟨a, ns, rfl, _⟩ := h
    rfl
  obtain ⟨a, ns, rfl, hS, hn, q⟩ := h
  refine ⟨_, pss_cons (ps_setLc (i := 2) (own := [("_law_cell", 1)]) (g := gName 1) rfl scBox.nd rfl rfl (sw_true rfl rfl rfl (by decide +kernel)) (pi_list (pe_slice sl_list (pv 0) po_none (po_some pe_int))) (blkOk_by (N := ["_law_script", "_law_cell", "_law_great", "_law_small", "_law_seed"]) (sc := defScope sBox) (by decide +kernel))
      (fun _ _ _ _ _ => pg_name (i := 1) scBox.nd rfl (.inl rfl)) (fun _ _ _ _ _ => pts_one (pt_cmpR op_ge (pe_callB call_abs (by rfl) B.abs (by decide +kernel) (pa_cons (pv 1) pa_nil)) (pe_op op_pow pe_int pe_int) (nomark _))) (fun _ _ _ _ _ => pe_callB call_abs (by rfl) B.abs (by decide +kernel) (pa_cons (pv 1) pa_nil)))
    <| pss_cons (ps_setLc (i := 3) (own := [("_law_cell", 1)]) (g := gName 1) rfl scBox.nd rfl rfl (sw_true rfl rfl rfl (by decide +kernel)) (pi_list (pe_slice sl_list (pv 0) po_none (po_some pe_int))) (blkOk_by (N := ["_law_script", "_law_cell", "_law_great", "_law_small", "_law_seed"]) (sc := defScope sBox) (by decide +kernel))
      (fun _ _ _ _ _ => pg_name (i := 1) scBox.nd rfl (.inl rfl)) (fun _ _ _ _ _ => pts_one (pt_cmpR op_lt (pe_callB call_abs (by rfl) B.abs (by decide +kernel) (pa_cons (pv 1) pa_nil)) (pe_op op_pow pe_int pe_int) (nomark _))) (fun _ _ _ _ _ => pe_callB call_abs (by rfl) B.abs (by decide +kernel) (pa_cons (pv 1) pa_nil)))
    <| pss_cons (ps_set (i := 4) scBox.nd rfl (.inl rfl) (pe_op op_add pe_int (pe_callB call_len_seq (by rfl) B.len PySem.boot_len (pa_cons (pv 3) pa_nil))))
    <| pss_cons (ps_for PassesOwn.never rfl (pi_list (pv 3)) (pg_name (i := 1) scBox.nd rfl (.inl rfl)) (pss_one (ps_set (i := 4) scBox.nd rfl (.inl rfl) (pe_op op_mod (pe_callTy call_int1 (by rfl) B.int (by decide +kernel) (pa_cons (pe_op op_add (pe_op op_mul (pv 4) pe_int) (pv 1)) pa_nil)) pe_int))))
    <| pss_one (ps_ret (pe_lst (pa_cons (pv 2) (pa_cons (pe_op op_cat (pv 3) (pe_lst (pa_cons pe_int pa_nil))) (pa_cons (pv 4) (pa_cons pe_int pa_nil)))))), ?_⟩
  obtain ⟨cs, ec, lc⟩ := cut_ints ns none (some 63)
  refine ⟨_, rfl, _, rfl, a, _, rfl, hS, fun p hp => ?_⟩
  have s0 := same_new hp (.lst (cutV (ns.map V.int) none (some 63)))
  have hp0 : upd H p (.lst (cutV (ns.map V.int) none (some 63))) p = some (.lst (cs.map V.int)) := upd_same.trans (by rw [ec])
  refine ⟨p, rfl, ⟨_, .of upd_same⟩, fun D1 hD1 => lc_list (xs := cs.map V.int) (fun i H' => Same H H' ∧ H' p = some (.lst (cs.map V.int)) ∧ ∃ acc : List Int, H' D1 = some (.lst (acc.map V.int)) ∧ acc.length ≤ i)
    ⟨same_mut s0 (s0.free hD1), (upd_ne (ne_of_none hp0 hD1)).trans hp0, [], upd_same, Nat.le_refl _⟩ (fun i H' _ h => .of h.2.1) ?_ ?_⟩
  · rintro i x H' hx ⟨s1, h1, acc, ha, la⟩
    have li : i < (cs.map V.int).length := (List.getElem?_eq_some_iff.mp hx).1
    rw [List.length_map] at li
    obtain ⟨v, rfl⟩ := int_at hx
    refine ⟨rfl, _, rfl, v, rfl, _, _, rfl, rfl, ⟨by decide, by decide, by decide⟩, _, _, rfl, rfl, _, rfl, ite2 (fun c => ?_) (fun c => ?_)⟩
    · refine ⟨_, rfl, v, rfl, _, ha, small1000 (by rw [List.length_map]; omega), ?_⟩
      generalize (if v < 0 then -v else v) = u
      have nD : p ≠ D1 := ne_of_none hp0 hD1
      refine ⟨same_mut s1 (s0.free hD1), (upd_ne nD).trans h1, acc ++ [u], upd_same.trans (by rw [List.map_append]; rfl), ?_⟩
      rw [List.length_append]
      exact Nat.succ_le_succ la
    · exact ⟨s1, h1, acc, ha, Nat.le_succ_of_le la⟩
  rintro H1 ⟨s1, -, gs, hg, -⟩
  refine ⟨_, rfl, _, rfl, a, _, rfl, SqL_same hS s1, fun p2 hp2 => ?_⟩
  have s2 := same_new hp2 (.lst (cutV (ns.map V.int) none (some 63)))
  have hp3 : upd H1 p2 (.lst (cutV (ns.map V.int) none (some 63))) p2 = some (.lst (cs.map V.int)) := upd_same.trans (by rw [ec])
  refine ⟨p2, rfl, ⟨_, .of upd_same⟩, fun D2 hD2 => lc_list (xs := cs.map V.int) (fun i H' => Same H1 H' ∧ H' p2 = some (.lst (cs.map V.int)) ∧ ∃ acc : List Int, H' D2 = some (.lst (acc.map V.int)) ∧ acc.length ≤ i)
    ⟨same_mut s2 (s2.free hD2), (upd_ne (ne_of_none hp3 hD2)).trans hp3, [], upd_same, Nat.le_refl _⟩ (fun i H' _ h => .of h.2.1) ?_ ?_⟩
  · rintro i x H' hx ⟨s3, h1, acc, ha, la⟩
    have li : i < (cs.map V.int).length := (List.getElem?_eq_some_iff.mp hx).1
    rw [List.length_map] at li
    obtain ⟨v, rfl⟩ := int_at hx
    refine ⟨rfl, _, rfl, v, rfl, _, _, rfl, rfl, ⟨by decide, by decide, by decide⟩, _, _, rfl, rfl, _, rfl, ite2 (fun c => ?_) (fun c => ?_)⟩
    · refine ⟨_, rfl, v, rfl, _, ha, small1000 (by rw [List.length_map]; omega), ?_⟩
      generalize (if v < 0 then -v else v) = u
      have nD : p2 ≠ D2 := ne_of_none hp3 hD2
      refine ⟨same_mut s3 (s2.free hD2), (upd_ne nD).trans h1, acc ++ [u], upd_same.trans (by rw [List.map_append]; rfl), ?_⟩
      rw [List.length_append]
      exact Nat.succ_le_succ la
    · exact ⟨s3, h1, acc, ha, Nat.le_succ_of_le la⟩
  rintro H2 ⟨s3, -, ss, hs, ls⟩
  have hg2 := s3 _ _ hg
  rw [List.length_map] at ls
  refine ⟨_, rfl, D2, _, rfl, .inl (.of hs), _, _, rfl, rfl, ?_⟩
  refine ⟨_, rfl, D2, rfl, ⟨_, .of hs⟩, for_list (xs := ss.map V.int) (fun i σ H' => H' = H2 ∧ ∃ (v : Option V) (seed : Int), σ = [some (.ref a), v, some (.ref D1), some (.ref D2), some (.int seed)]) ⟨rfl, _, _, rfl⟩ (fun i σ H' _ h => by rw [h.1]; exact .of hs) ?_ ?_⟩
  · rintro i x σ H' hx ⟨rfl, v, seed, rfl⟩
    obtain ⟨u, rfl⟩ := int_at hx
    refine ⟨_, rfl, _, _, rfl, rfl, .inr ⟨by decide, by decide⟩, _, rfl, _, _, rfl, rfl, .inl ⟨_, rfl, _, _, rfl, rfl, (by show (0 : Int) < 2147483647; decide), ?_⟩⟩
    exact ⟨rfl, _, _, rfl⟩
  rintro σ H' ⟨rfl, v, seed, rfl⟩
  refine ⟨_, rfl, _, rfl, (by show 1 ≤ sizeLine; decide), fun e he => ?_⟩
  have s4 := same_new he (.lst [.int 7])
  refine ⟨D2, e, _, _, rfl, rfl, s4 _ _ hs, upd_same, Nat.le_of_lt (small1000 (by rw [List.length_map]; show ss.length + 1 ≤ 1000; omega)), fun r hr => ?_⟩
  have s5 := s4.trans (same_new hr (.lst (ss.map V.int ++ [.int 7])))
  refine ⟨_, rfl, (by show 4 ≤ sizeLine; decide), fun b hb => ?_⟩
  have s6 := same_new hb (.lst [.ref D1, .ref r, .int seed, .int 0])
  refine q _ b D1 r ((s1.trans s3).trans (s5.trans s6)) ⟨gs, ss ++ [7], seed, 0, upd_same, s6 _ _ (s5 _ _ hg2), (s6 _ _ upd_same).trans (by rw [List.map_append]; rfl), fun z => (by cases ss <;> cases z), (ne_of_none (s4 _ _ hg2) hr).symm⟩
end
end Lr

/-! _law_line_holds, law -/
namespace Lr
open PySem L2
abbrev sLineHolds : Stmt := top 51
abbrev sLaw : Stmt := top 52
def spLineHolds : Sp := fun vs H Q _ => ∃ (b g s : Addr), vs = [.ref b] ∧ BoxAt H b g s ∧ ∀ H', Keep b g H H' → BoxAt H' b g s → Q (.bl true) H'
section
variable {P : Program} {w : World} {K : PySem.W.Frag} {mg : Str → Option Value} {base : Heap} {c : Cs}
theorem scLineHolds : FnScope ["_law_box_here", "_law_line_here", "_law_seats_here", "_law_days_here", "_law_added", "_law_back"] ["_law_box_here"] (defScope sLineHolds) := ⟨rfl, rfl, rfl, by decide +kernel, rfl, by decide +kernel, by decide +kernel⟩
theorem ok_lineHolds {f : Addr} {fd : FuncData} (N1 : Has P w K mg base CX0 1 "_law_draw" ["_law_box_here", "_law_many"] spDraw) (N2 : Has P w K mg base CX0 3 "_law_line" ["_law_box_here", "_law_small"] spLawLine)
    (N3 : Has P w K mg base CX0 2 "_law_seats" ["_law_box_here"] spSeats) (N4 : Has P w K mg base CX0 3 "_law_days" ["_law_box_here", "_law_number"] spDays) (N5 : Has P w K mg base CX0 1 "_law_reached" ["_law_steep", "_law_shift", "_law_seats_here"] spReached)
    (N6 : Has P w K mg base CX0 5 "_law_extra_of" ["_law_steep", "_law_seats_here", "_law_days_here"] spExtraOf) (N7 : Has P w K mg base CX0 5 "_law_slope_of" ["_law_seats_here", "_law_days_here", "_law_shift", "_law_plain"] spSlopeOf)
    (D : Df K mg "_law_line_holds" sLineHolds ["_law_box_here"] f fd) : Has P w K mg base CX0 6 "_law_line_holds" ["_law_box_here"] spLineHolds := by
  refine D.has (D.2.1.ok scLineHolds (fun vs H Q E h => ?_) (fun cdv A outer s H vs Q E hr h => ?_))
  · obtain ⟨b, g, s, rfl, _⟩ := h
    rfl
  obtain ⟨b, g, s, rfl, bx, q⟩ := h
  refine ⟨_, pss_cons (ps_set (i := 1) scLineHolds.nd rfl (.inl rfl) (pe_has N2 (hr.mono (by decide)) (pa_cons (pv 0) (pa_cons (pe_has N1 (hr.mono (by decide)) (pa_cons (pv 0) (pa_cons pe_int pa_nil))) pa_nil))))
    <| pss_cons (ps_set (i := 2) scLineHolds.nd rfl (.inl rfl) (pe_has N3 (hr.mono (by decide)) (pa_cons (pv 0) pa_nil)))
    <| pss_cons (ps_set (i := 3) scLineHolds.nd rfl (.inl rfl) (pe_has N4 (hr.mono (by decide)) (pa_cons (pv 0) (pa_cons (pe_has N5 (hr.mono (by decide)) (pa_cons (pe_ix ix_tup (pv 1) pe_int (fun _ _ => rfl)) (pa_cons (pe_ix ix_tup (pv 1) pe_int (fun _ _ => rfl)) (pa_cons (pv 2) pa_nil)))) pa_nil))))
    <| pss_cons (ps_set (i := 4) scLineHolds.nd rfl (.inl rfl) (pe_has N6 hr (pa_cons (pe_ix ix_tup (pv 1) pe_int (fun _ _ => rfl)) (pa_cons (pv 2) (pa_cons (pv 3) pa_nil)))))
    <| pss_cons (ps_if (pt_not (pt_truth (pe_ix ix_tup (pv 4) pe_int (fun _ _ => rfl)) (by intro _; rfl))) (pss_one ps_never) pss_nil)
    <| pss_cons (ps_if (PW.pt (pw_or (pt_not (pt_truth (pe_ix ix_tup (pe_has N7 hr (pa_cons (pv 2) (pa_cons (pv 3) (pa_cons (pe_ix ix_tup (pv 1) pe_int (fun _ _ => rfl)) (pa_cons pe_bl pa_nil))))) pe_int (fun _ _ => rfl)) (by intro _; rfl)))
        (pw_or1 (pt_not (pt_truth (pe_ix ix_tup (pe_has N7 hr (pa_cons (pv 2) (pa_cons (pv 3) (pa_cons pe_int (pa_cons pe_bl pa_nil))))) pe_int (fun _ _ => rfl)) (by intro _; rfl)))))) (pss_one ps_never) pss_nil)
    <| pss_cons (ps_if (pt_cmpR op_gt (pe_ix ix_tup (pv 4) pe_int (fun _ _ => rfl)) (pe_op op_pow pe_int pe_int) (nomark _)) (pss_one (ps_ret pe_bl)) pss_nil)
    <| pss_cons (ps_set (i := 5) scLineHolds.nd rfl (.inl rfl) (pe_has N7 hr (pa_cons (pv 2) (pa_cons (pv 3) (pa_cons (pe_ix ix_tup (pv 4) pe_int (fun _ _ => rfl)) (pa_cons pe_bl pa_nil))))))
    <| pss_one (ps_ret (pe_and (pe_ix ix_tup (pv 5) pe_int (fun _ _ => rfl)) (pe_one (pe_cmpR op_le (pe_ix ix_tup (pv 5) pe_int (fun _ _ => rfl)) (pe_ix ix_tup (pv 1) pe_int (fun _ _ => rfl)) (nomark _))))), ?_⟩
  refine ⟨_, rfl, _, rfl, b, g, s, 2, rfl, bx, by decide, by decide, fun H1 z k1 b1 z1 z2 => ?_⟩
  refine ⟨b, g, s, z, rfl, b1, z1, z2, fun H2 p a e k2 b2 ok hp2 => ?_⟩
  obtain ⟨a1, a2, ae, e2⟩ := ok
  refine ⟨_, rfl, b, g, s, rfl, b2, fun H3 n k3 b3 n1 n2 => ?_⟩
  obtain ⟨n, rfl⟩ : ∃ k : Nat, n = (k : Int) := ⟨n.toNat, by omega⟩
  have n1' : 1 ≤ n := by omega
  have n2' : n ≤ 64 := by omega
  have nn : ∀ xs, (HO.tup [.str "line", .int a, .int e]) ≠ .lst xs := fun xs z => by cases z
  have hp3 : H3 p = some (.tup [.str "line", .int a, .int e]) := k3.nl _ _ hp2 nn
  refine ⟨_, rfl, _, rfl, p, _, _, _, rfl, rfl, .of hp3, atI_nat (j := 1) rfl, _, rfl, p, _, _, _, rfl, rfl, .of hp3, atI_nat (j := 2) rfl, _, rfl, a, e, n, rfl, ⟨a1, ae, by omega, by omega⟩, n1', n2', fun H4 s4 => ?_⟩
  refine ⟨b, g, s, _, rfl, b3.same s4, fun H5 t k5 b5 t1 t2 => ?_⟩
  have hp5 := k5.nl _ _ (s4 _ _ hp3) nn
  refine ⟨_, rfl, p, _, _, _, rfl, rfl, .of hp5, atI_nat (j := 1) rfl, _, rfl, _, rfl, a, t, n, rfl, a1, a2, n1', n2', t1, t2, fun p6 H6 ex s6 h6 ea eb => ?_⟩
  refine ⟨_, rfl, p6, _, _, _, rfl, rfl, .of h6, atI_nat (j := 0) rfl, true, rfl, iteF ?_⟩
  have hp6 := s6 _ _ hp5
  refine ⟨_, rfl, _, rfl, _, rfl, p, _, _, _, rfl, rfl, .of hp6, atI_nat (j := 2) rfl, t, e, n, false, rfl, (fun z => by cases z), by omega, by omega, n1', n2', t1, t2, fun p7 H7 x7 s7 h7 _ _ => ?_⟩
  refine ⟨p7, _, _, _, rfl, rfl, .of h7, atI_nat (j := 0) rfl, true, rfl, iteF ?_⟩
  refine ⟨_, rfl, _, rfl, t, 0, n, true, rfl, (fun _ => rfl), by decide, by decide, n1', n2', t1, t2, fun p8 H8 x8 s8 h8 _ _ => ?_⟩
  refine ⟨p8, _, _, _, rfl, rfl, .of h8, atI_nat (j := 0) rfl, true, rfl, iteF ?_⟩
  have h68 := s8 _ _ (s7 _ _ h6)
  have hp8 := s8 _ _ (s7 _ _ hp6)
  have s58 := (s6.trans s7).trans s8
  have K5 := ((k1.trans k2).trans k3).trans ((b3.kept s4).trans k5)
  refine ⟨_, rfl, p6, _, _, _, rfl, rfl, .of h68, atI_nat (j := 1) rfl, _, _, rfl, rfl, ⟨by decide, by decide, by decide⟩, _, _, rfl, rfl, _, rfl, ite2 (fun _ => ?_) (fun cc => ?_)⟩
  · exact q _ (K5.trans (b5.kept s58)) (b5.same s58)
  have cc : ¬ (10 : Int) ^ 6 < ex := of_decide_eq_false (Bool.eq_false_iff.mpr cc)
  have nz : ¬ (n = 1 ∧ t > 1) := fun z => by
    have := ea z
    omega
  obtain ⟨l1, l2, _⟩ := eb nz
  refine ⟨_, rfl, _, rfl, _, rfl, p6, _, _, _, rfl, rfl, .of h68, atI_nat (j := 1) rfl, t, ex, n, false, rfl, (fun z => by cases z), by omega, by omega, n1', n2', t1, t2, fun p9 H9 sl s9 h9 _ sp => ?_⟩
  have le := slope_le a1 l1 l2 (sp nz)
  have hp9 := s9 _ _ hp8
  refine ⟨_, rfl, p9, _, _, _, rfl, rfl, .of h9, atI_nat (j := 0) rfl, true, rfl, iteT ⟨_, rfl, p9, _, _, _, rfl, rfl, .of h9, atI_nat (j := 1) rfl, _, rfl, p, _, _, _, rfl, rfl, .of hp9, atI_nat (j := 1) rfl, _, _, rfl, rfl, ?_⟩⟩
  show Q (.bl (decide (sl ≤ a))) H9
  rw [decide_eq_true le]
  exact q _ (K5.trans (b5.kept (s58.trans s9))) (b5.same (s58.trans s9))
end
end Lr

/-! law -/
namespace Lr
open PySem L2
def spLaw (K : PySem.W.Frag) : Sp := fun vs H Q _ => ∃ (a : Addr) (ns : List Int), vs = [.ref a] ∧ SqL K H a (ns.map V.int) ∧ ns.length ≤ 63 ∧ ∀ H', Q (.bl true) H'
section
variable {P : Program} {w : World} {K : PySem.W.Frag} {mg : Str → Option Value} {base : Heap} {c : Cs}
theorem scLaw : FnScope ["_law_script", "_law_box_here", "_law_small", "_law_model_here", "_law_rule", "_law_limits_here", "_law_numbers", "_law_turn", "_law_at", "_law_days_here", "_law_row"] ["_law_script"] (defScope sLaw) := ⟨rfl, rfl, rfl, by decide +kernel, rfl, by decide +kernel, by decide +kernel⟩
theorem ok_law {f : Addr} {fd : FuncData} (B : Bt mg) (N0 : Has P w K mg base CX0 1 "_law_box" ["_law_script"] (spBox K)) (N1 : Has P w K mg base CX0 1 "_law_draw" ["_law_box_here", "_law_many"] spDraw)
    (N2 : Has P w K mg base CX0 4 "_law_model" ["_law_box_here", "_law_count", "_law_most", "_law_small"] spLawModel) (N3 : Has P w K mg base CX0 3 "_law_table" ["_law_box_here", "_law_most", "_law_small"] spLawTable)
    (N4 : Has P w K mg base CX0 9 "_law_built" ["_law_model_here"] (spBuilt c 6)) (N5 : Has P w K mg base CX0 7 "_law_limits" ["_law_model_here", "_law_top"] (spLawLimits 6)) (N6 : Has P w K mg base CX0 7 "_law_levels" ["_law_model_here", "_law_top"] (spLawLevels 6))
    (N7 : Has P w K mg base CX0 3 "_law_days" ["_law_box_here", "_law_number"] spDays) (N8 : Has P w K mg base CX0 11 "_law_level_holds" ["_law_rule", "_law_word", "_law_days_here", "_law_limits_here", "_law_numbers"] (spLevelHolds c 5))
    (N9 : Has P w K mg base CX0 6 "_law_line_holds" ["_law_box_here"] spLineHolds)
    (F : Fun K "law" "law" sLaw f fd) : FnOk P w K mg base CX0 12 f fd ["_law_script"] (spLaw K) := by
  refine F.ok scLaw (fun vs H Q E h => ?_) (fun cdv A outer s H vs Q E hr h => ?_)
  · obtain ⟨a, ns, rfl, _⟩ := h
    rfl
  obtain ⟨a, ns, rfl, hS, hn, q⟩ := h
  refine ⟨_, pss_cons (ps_set (i := 1) scLaw.nd rfl (.inl rfl) (pe_has N0 (hr.mono (by decide)) (pa_cons (pv 0) pa_nil)))
    <| pss_cons (ps_set (i := 2) scLaw.nd rfl (.inl rfl) (pe_has N1 (hr.mono (by decide)) (pa_cons (pv 1) (pa_cons pe_int pa_nil))))
    <| pss_cons (ps_set (i := 3) scLaw.nd rfl (.inl rfl) (pe_has N2 (hr.mono (by decide)) (pa_cons (pv 1) (pa_cons (pe_ix ix_list (pe_lst (pa_cons pe_int (pa_cons pe_int (pa_cons pe_int (pa_cons pe_int (pa_cons pe_int pa_nil)))))) (pe_has N1 (hr.mono (by decide)) (pa_cons (pv 1) (pa_cons pe_int pa_nil))) (fun _ _ => rfl)) (pa_cons pe_int (pa_cons (pv 2) pa_nil))))))
    <| pss_cons (ps_if (pt_cmpR op_eq (pe_has N1 (hr.mono (by decide)) (pa_cons (pv 1) (pa_cons pe_int pa_nil))) pe_int (nomark _)) (pss_one (ps_set (i := 3) scLaw.nd rfl (.inl rfl) (pe_has N3 (hr.mono (by decide)) (pa_cons (pv 1) (pa_cons pe_int (pa_cons (pv 2) pa_nil)))))) pss_nil)
    <| pss_cons (ps_set (i := 4) scLaw.nd rfl (.inl rfl) (pe_has N4 (hr.mono (by decide)) (pa_cons (pv 3) pa_nil)))
    <| pss_cons (ps_set (i := 5) scLaw.nd rfl (.inl rfl) (pe_has N5 (hr.mono (by decide)) (pa_cons (pv 3) (pa_cons pe_int pa_nil))))
    <| pss_cons (ps_setLc (i := 6) (own := [("_law_row", 10)]) (g := gName 10) (tt := tYes) (te := tOp (rIxT K) (tVar 10) (tC (.int 0))) rfl scLaw.nd rfl rfl (sw_true rfl rfl rfl (by decide +kernel)) (pi_list (pe_has N6 (hr.mono (by decide)) (pa_cons (pv 3) (pa_cons pe_int pa_nil))))
      (blkOk_by (N := ["_law_script", "_law_box_here", "_law_small", "_law_model_here", "_law_rule", "_law_limits_here", "_law_numbers", "_law_turn", "_law_at", "_law_days_here", "_law_row"]) (sc := defScope sLaw) (by decide +kernel))
      (fun _ _ _ _ _ => pg_name (i := 10) scLaw.nd rfl (.inl rfl)) (fun _ _ _ _ _ => pts_nil) (fun _ _ _ _ _ => pe_ix ix_tup (pv 10) pe_int (fun _ _ => rfl)))
    <| pss_cons (ps_for PassesOwn.never rfl (pi_range1 (by rfl) B.range (pa_cons pe_int pa_nil)) (pg_name (i := 7) scLaw.nd rfl (.inl rfl))
      (pss_cons (ps_set (i := 8) scLaw.nd rfl (.inl rfl) (pe_has N1 (hr.mono (by decide)) (pa_cons (pv 1) (pa_cons pe_int pa_nil))))
      <| pss_cons (ps_set (i := 9) scLaw.nd rfl (.inl rfl) (pe_has N7 (hr.mono (by decide)) (pa_cons (pv 1) (pa_cons (pe_ix ix_list (pe_lst (pa_cons (pe_ix ix_list (pv 5) (pv 8) (fun _ _ => rfl)) (pa_cons (pe_ix ix_list (pv 6) (pv 8) (fun _ _ => rfl)) pa_nil))) (pe_has N1 (hr.mono (by decide)) (pa_cons (pv 1) (pa_cons pe_int pa_nil))) (fun _ _ => rfl)) pa_nil))))
      <| pss_one (ps_if (pt_not (pt_val (pe_has N8 hr (pa_cons (pv 4) (pa_cons (pe_ix ix_tup (pv 3) pe_int (fun _ _ => rfl)) (pa_cons (pv 9) (pa_cons (pv 5) (pa_cons (pv 6) pa_nil)))))))) (pss_one ps_never) pss_nil)))
    <| pss_one (ps_ret (pe_and (pe_has N9 (hr.mono (by decide)) (pa_cons (pv 1) pa_nil)) (pe_one (pe_has N9 (hr.mono (by decide)) (pa_cons (pv 1) pa_nil))))), ?_⟩
  refine ⟨_, rfl, a, ns, rfl, hS, hn, fun H1 b g s s1 b1 => ?_⟩
  refine ⟨_, rfl, b, g, s, 2, rfl, b1, by decide, by decide, fun H2 sm k2 b2 m1 m2 => ?_⟩
  refine ⟨_, rfl, (by show 5 ≤ sizeLine; decide), fun p hp => ?_⟩
  have ofp := b2.off hp
  refine ⟨_, rfl, b, g, s, 5, rfl, b2.same (same_new hp _), by decide, by decide, fun H3 z k3 b3 z1 z2 => ?_⟩
  obtain ⟨cv, ci, ca⟩ := pick (l := [1, 1, 2, 3, 6]) z1 (show z < 5 by omega)
  have c2 : 1 ≤ cv ∧ cv ≤ 6 := by
    simp only [List.mem_cons, List.not_mem_nil, or_false] at ci
    omega
  obtain ⟨n, rfl⟩ : ∃ k : Nat, cv = (k : Int) := ⟨cv.toNat, by omega⟩
  refine ⟨p, _, _, _, rfl, rfl, .of (k3.1 _ _ upd_same ofp.1 ofp.2), ca, ?_⟩
  refine ⟨_, rfl, b, g, s, n, 8, sm, rfl, b3, by omega, by omega, by decide, by decide, m1, m2, fun H4 pm m k4 b4 ok hd hm => ?_⟩
  dsimp only
  refine join (fun σ' H5 => ∃ pm m, σ' = [some (.ref a), some (.ref b), some (.int sm), some (.ref pm), none, none, none, none, none, none, none] ∧ BoxAt H5 b g s ∧ Ok m ∧ deep m ≤ 5 ∧ ModAt H5 pm m) (fun N hN => ?_) ?_
  · refine ⟨_, rfl, b, g, s, 4, rfl, b4, by decide, by decide, fun H5 y k5 b5 y1 y2 => ?_⟩
    refine ⟨rfl, _, rfl, ite2 (fun _ => ?_) (fun _ => hN _ _ ⟨pm, m, rfl, b5, ok, hd, hm.nl k5.nl⟩)⟩
    exact ⟨_, rfl, _, rfl, b, g, s, 64, sm, rfl, b5, by decide, by decide, m1, m2, fun H6 p ps sl fl k6 b6 ok6 hm6 => hN _ _ ⟨p, _, rfl, b6, ok6, Nat.zero_le _, hm6⟩⟩
  rintro σ' H5 ⟨pm, m, rfl, b5, ok, hd, hm⟩
  refine ⟨_, rfl, pm, m, rfl, hm, ok, by omega, by decide, fun H6 r s6 hr6 => ?_⟩
  refine ⟨_, rfl, pm, m, rfl, hm.same s6, ok, by omega, fun l H7 nl s7 hl => ?_⟩
  have b6 := b5.same s6
  have ofl := b6.off nl
  refine ⟨_, rfl, pm, m, rfl, (hm.same s6).same s7, ok, by omega, fun t H8 rs nt s8 ht hR => ?_⟩
  have b7 := b6.same s7
  have b8 := b7.same s8
  have hl8 := s8 _ _ hl
  refine ⟨t, rfl, ⟨_, .of ht⟩, fun D hD => ?_⟩
  have ofD := b8.off hD
  refine lc_list (xs := rs) (fun i H' => Same H8 H' ∧ H' D = some (.lst (reachs (price m) i))) ⟨same_new hD _, upd_same⟩ (fun i H' _ h => .of (h.1 _ _ ht)) ?_ ?_
  · rintro i x H' hx ⟨s9, hD9⟩
    have li : i < rs.length := (List.getElem?_eq_some_iff.mp hx).1
    rw [hR.1] at li
    obtain ⟨p9, e9, h9⟩ := hR.2 i li
    rw [hx] at e9
    obtain rfl := Option.some.inj e9
    refine ⟨rfl, _, rfl, p9, _, _, _, rfl, rfl, .of (s9 _ _ h9), atI_nat (j := 0) rfl, _, hD9, small1000 (by rw [sq_len]; omega), ?_⟩
    exact ⟨same_mut s9 hD, upd_same.trans (congrArg (fun z => some (HO.lst z)) (sq_succ (fun k => V.int (reach (price m) k)) i).symm)⟩
  rintro H9 ⟨s9, hD9⟩
  rw [hR.1] at hD9
  have b9 := b8.same s9
  have hl9 := s9 _ _ hl8
  have hr9 := ((hr6.same s7).same s8).same s9
  have hm9 := (((hm.same s6).same s7).same s8).same s9
  refine ⟨_, rfl, by decide, by decide, for_range (n := 4) (fun i σ H' => ∃ (v7 v8 v9 : Option V), σ = [some (.ref a), some (.ref b), some (.int sm), some (.ref pm), some (.ref r), some (.ref l), some (.ref D), v7, v8, v9, none] ∧ BoxAt H' b g s ∧ H' l = some (.lst (lims (price m) 65)) ∧ H' D = some (.lst (reachs (price m) 65)) ∧ RuleAt c H' r m ∧ ModAt H' pm m)
    ⟨_, _, _, rfl, b9, hl9, hD9, hr9, hm9⟩ ?_ ?_⟩
  · rintro i σ H' hi ⟨v7, v8, v9, rfl, bx, hl, hD, hr, hm⟩
    refine ⟨_, rfl, b, g, s, 65, rfl, bx, by decide, by decide, fun HA at' kA bA a1 a2 => ?_⟩
    have hlA := kA.1 _ _ hl ofl.1 ofl.2
    have hDA := kA.1 _ _ hD ofD.1 ofD.2
    obtain ⟨k, rfl⟩ : ∃ k : Nat, at' = (k : Int) := ⟨at'.toNat, by omega⟩
    refine ⟨_, rfl, _, rfl, _, rfl, l, _, _, _, rfl, rfl, .of hlA, sq_at (k := k) (by omega) rfl, _, rfl, _, rfl, D, _, _, _, rfl, rfl, .of hDA, sq_at (k := k) (by omega) rfl, (by show 2 ≤ sizeLine; decide), fun p hp => ?_⟩
    have ofp := bA.off hp
    have sp := same_new hp (.lst [.int (lim (price m) k), .int (reach (price m) k)])
    refine ⟨_, rfl, b, g, s, 2, rfl, bA.same sp, by decide, by decide, fun HB y kB bB y1 y2 => ?_⟩
    obtain ⟨nu, _, na⟩ := pick (l := [lim (price m) k, reach (price m) k]) y1 (show y < 2 by omega)
    refine ⟨p, _, _, _, rfl, rfl, .of (kB.1 _ _ upd_same ofp.1 ofp.2), na, b, g, s, nu, rfl, bB, fun HC t kC bC t1 t2 => ?_⟩
    have nl : NL H' HC := (kA.nl.trans (NL.of_same sp)).trans (kB.nl.trans kC.nl)
    have hlC := kC.1 _ _ (kB.1 _ _ (sp _ _ hlA) ofl.1 ofl.2) ofl.1 ofl.2
    have hDC := kC.1 _ _ (kB.1 _ _ (sp _ _ hDA) ofD.1 ofD.2) ofD.1 ofD.2
    have hmC := hm.nl nl
    obtain ⟨tl, hd0⟩ := hmC.head
    refine ⟨_, rfl, _, rfl, pm, _, _, _, rfl, rfl, .of hd0, atI_nat (j := 0) rfl, _, rfl, _, rfl, _, rfl, r, l, D, m, t, rfl, hr.nl nl, ok, hd, t1, t2, hlC, hDC, fun HD sD => ?_⟩
    exact ⟨true, rfl, iteF ⟨_, _, _, rfl, bC.same sD, sD _ _ hlC, sD _ _ hDC, (hr.nl nl).same sD, hmC.same sD⟩⟩
  · rintro σ H' ⟨v7, v8, v9, rfl, bx, _, _, _, _⟩
    exact ⟨_, rfl, b, g, s, rfl, bx, fun HA kA bA => ⟨true, rfl, iteT ⟨_, rfl, b, g, s, rfl, bA, fun HB kB bB => q HB⟩⟩⟩
end
end Lr

section
set_option maxHeartbeats 0
open PySem PySem.W PyProof.Rows
open_top Lr.hd for PySem.Challenge.rw_latereach_k05_whole_least_numbers

end
set_option maxHeartbeats 0
/-! the program's top: each def, class and constant where it stands; the law's promise; the end -/
namespace Lr
open PySem L2
theorem exm_self {K : PySem.W.Frag} {S : Addr} (h1 : PySem.W.subIn K (.ref S) (.type "BaseException") = some true) (h2 : PySem.W.isClsIn K S = true) (h3 : PySem.W.typeIn K (.ref S) = some (.type "type")) (h4 : PySem.W.subIn K (.ref S) (.ref S) = some true) :
    PySem.W.exmOne K (.ref S) (.ref S) = some true := by
  have e1 : (PySem.W.subIn K (.ref S) (.type "BaseException") == some true) = true := by rw [h1] <;> rfl
  have e2 : ((PySem.W.clsIn K S).isSome && PySem.W.typeIn K (.ref S) == some (.type "type")) = true := by
    have h2' : (PySem.W.clsIn K S).isSome = true := h2
    rw [h2', h3] <;> rfl
  show (if (PySem.W.subIn K (.ref S) (.type "BaseException") == some true) = true then (if ((PySem.W.clsIn K S).isSome && PySem.W.typeIn K (.ref S) == some (.type "type")) = true then PySem.W.subIn K (.ref S) (.ref S) else none) else none) = some true
  rw [if_pos e1, if_pos e2]
  exact h4
theorem df_of {K : PySem.W.Frag} {h : Heap} {mg : Str → Option Value} (X : K.In h) (G : h.Ns mainGlobals mg) {x : Str} {st : Stmt} {ps : List Str} {f : Addr} {oc : Value} {od an : Option Addr} {osl : Array (Option Value)} {kV doc pm cdv ct : Value}
    (a : PySem.W.nsIn K mainGlobals x = some (some (.ref f))) (l : K.lookup f = some ⟨oc, od, .func (PySem.W.fnOf x x (defArgs st) (defBody st) (defScope st) .none kV doc pm an cdv ct), osl⟩) (c : PySem.W.codeIn K cdv x = true) (k : PySem.W.keepIn K (.ref f) = true)
    (hb : ∀ (kV doc pm : Value) (an : Option Addr) (cdv ct : Value) (us : List Value), us.length = ps.length → bindArgs (PySem.W.fnOf x x (defArgs st) (defBody st) (defScope st) .none kV doc pm an cdv ct) ⟨us, []⟩ = pure (ps.zip us)) :
    Df K mg x st ps f (PySem.W.fnOf x x (defArgs st) (defBody st) (defScope st) .none kV doc pm an cdv ct) := ⟨PySem.W.mg_of X G a, fun_mk l c k, (fun_mk l c k).binds hb⟩
theorem fund_of {K : PySem.W.Frag} {x qual z : Str} {i : Int} {t : Tok} {st : Stmt} {f D : Addr} {oc : Value} {od an : Option Addr} {osl : Array (Option Value)} {doc pm cdv ct : Value}
    (l : K.lookup f = some ⟨oc, od, .func (PySem.W.fnOf x qual (defArgs st) (defBody st) (defScope st) .none (.ref D) doc pm an cdv ct), osl⟩) (c : PySem.W.codeIn K cdv qual = true) (k : PySem.W.keepIn K (.ref f) = true) (n : PySem.W.nsIn K D z = some (some (.int i t))) :
    FunD K x qual (defArgs st) (defBody st) (defScope st) [] [(z, .int i)] f (PySem.W.fnOf x qual (defArgs st) (defBody st) (defScope st) .none (.ref D) doc pm an cdv ct) :=
  ⟨⟨oc, od, .none, .ref D, doc, pm, an, cdv, ct, osl, rfl, l, c, .inl ⟨rfl, rfl⟩, .inr ⟨D, rfl, fun q hq => by
    have e := List.mem_singleton.mp hq
    subst e
    exact ⟨_, n, t, rfl⟩⟩⟩, k⟩
theorem tbl_binds {K : PySem.W.Frag} {f : Addr} {fd : FuncData} (F : FunD K "__init__" "Table.__init__" (defArgs sTableInit) (defBody sTableInit) (defScope sTableInit) [] [("slope", .int 1)] f fd) : ∃ ds, Vals [.int 1] ds ∧ Binds K fd ["self", "prices", "slope"] ds :=
  F.binds0 2 (by decide) rfl fun D doc pm an cdv ct us ks h1 h2 => by
    match us, ks, h1, h2 with
    | [a, b], [c], _, _ => exact ⟨_, _, _, _, _, _, rfl, rfl, rfl⟩
theorem tbl_kbinds {K : PySem.W.Frag} {f : Addr} {fd : FuncData} (F : FunD K "__init__" "Table.__init__" (defArgs sTableInit) (defBody sTableInit) (defScope sTableInit) [] [("slope", .int 1)] f fd) : ∃ mv : List Value, KBn K fd ["self", "prices", "slope"] 2 ["slope"] (fun us ws => us ++ ws) (fun us ws => us ++ ws) :=
  F.kbinds0 2 ["slope"] [] (fun us _ ws => us ++ ws) (by decide) (fun q h => by cases h) (fun r1 _ r3 => r1.append r3) fun D doc pm an cdv ct us mv ws h1 h2 h3 => by
    match us, mv, ws, h1, h2, h3 with
    | [a, b], [], [c], _, _, _ => exact rfl
theorem dA : PySem.dunder Operator.BitAnd.info.2 = ("__and__" : Str) := by decide +kernel
theorem dAr : PySem.dunderR Operator.BitAnd.info.2 = ("__rand__" : Str) := by decide +kernel
theorem dO : PySem.dunder Operator.BitOr.info.2 = ("__or__" : Str) := by decide +kernel
theorem dOr : PySem.dunderR Operator.BitOr.info.2 = ("__ror__" : Str) := by decide +kernel
theorem op_a {K : PySem.W.Frag} {C f : Addr} (s : PySem.W.selfFirst K C = true) (m : PySem.W.findIn K (.ref C) "__and__" = some (some (.ref f))) (r : PySem.W.findIn K (.ref C) "__rand__" = some none) : OpC K C f .BitAnd := ⟨s, by rw [dA]; exact m, by rw [dAr]; exact r⟩
theorem op_o {K : PySem.W.Frag} {C f : Addr} (s : PySem.W.selfFirst K C = true) (m : PySem.W.findIn K (.ref C) "__or__" = some (some (.ref f))) (r : PySem.W.findIn K (.ref C) "__ror__" = some none) : OpC K C f .BitOr := ⟨s, by rw [dO]; exact m, by rw [dOr]; exact r⟩

theorem all_mk {P : Program} {w : World} {K : PySem.W.Frag} {h : Heap} {mg : Str → Option Value} (X : K.In h) (G : h.Ns mainGlobals mg)
    {fa f0 f1 f2 f3 f4 f5 f6 f7 f8 f9 f10 f11 f12 f13 f14 f15 f16 f17 f18 f19 f20 f21 f22 f23 f24 f25 f26 f27 f28 f29 f30 f31 f32 dsK fK CL fIL fCL CT : Addr}
    {dsT fIT fCT CS fIS fCS CG fIG fCG fA fO CE RE ccE cdE NE fE : Addr}
    {oc0 kV0 dc0 pm0 cd0 ct0 oc1 kV1 dc1 pm1 cd1 ct1 oc2 kV2 dc2 pm2 cd2 ct2 oc3 kV3 dc3 pm3 cd3 ct3 oc4 kV4 dc4 pm4 cd4 ct4 oc5 kV5 dc5 pm5 cd5 ct5 oc6 kV6 dc6 pm6 : Value}
    {cd6 ct6 oc7 kV7 dc7 pm7 cd7 ct7 oc8 kV8 dc8 pm8 cd8 ct8 oc9 kV9 dc9 pm9 cd9 ct9 oc10 kV10 dc10 pm10 cd10 ct10 oc11 kV11 dc11 pm11 cd11 ct11 oc12 kV12 dc12 pm12 cd12 ct12 oc13 kV13 : Value}
    {dc13 pm13 cd13 ct13 oc14 kV14 dc14 pm14 cd14 ct14 oc15 kV15 dc15 pm15 cd15 ct15 oc16 kV16 dc16 pm16 cd16 ct16 oc17 kV17 dc17 pm17 cd17 ct17 oc18 kV18 dc18 pm18 cd18 ct18 oc19 kV19 dc19 pm19 cd19 ct19 : Value}
    {oc20 kV20 dc20 pm20 cd20 ct20 oc21 kV21 dc21 pm21 cd21 ct21 oc22 kV22 dc22 pm22 cd22 ct22 oc23 kV23 dc23 pm23 cd23 ct23 oc24 kV24 dc24 pm24 cd24 ct24 oc25 kV25 dc25 pm25 cd25 ct25 oc26 kV26 dc26 pm26 : Value}
    {cd26 ct26 oc27 kV27 dc27 pm27 cd27 ct27 oc28 kV28 dc28 pm28 cd28 ct28 oc29 kV29 dc29 pm29 cd29 ct29 oc30 kV30 dc30 pm30 cd30 ct30 oc31 kV31 dc31 pm31 cd31 ct31 oc32 kV32 dc32 pm32 cd32 ct32 ocK dcK : Value}
    {pmK cdK ctK ocIL kVIL dcIL pmIL cdIL ctIL ocCL kVCL dcCL pmCL cdCL ctCL ocIT dcIT pmIT cdIT ctIT ocCT kVCT dcCT pmCT cdCT ctCT ocIS kVIS dcIS pmIS cdIS ctIS ocCS kVCS dcCS pmCS cdCS ctCS ocIG kVIG : Value}
    {dcIG pmIG cdIG ctIG ocCG kVCG dcCG pmCG cdCG ctCG ocA kVA dcA pmA cdA ctA ocO kVO dcO pmO cdO ctO ocE kVE dcE pmE ctE clE1 clE2 : Value}
    {od0 an0 od1 an1 od2 an2 od3 an3 od4 an4 od5 an5 od6 an6 od7 an7 od8 an8 od9 an9 od10 an10 od11 an11 od12 an12 od13 an13 od14 an14 od15 an15 od16 an16 od17 an17 od18 an18 od19 an19 od20 an20 od21 an21 od22 an22 od23 an23 od24 an24 od25 an25 od26 an26 od27 an27 od28 an28 od29 an29 od30 an30 od31 an31 od32 an32 odK anK odIL anIL odCL anCL odIT anIT odCT anCT odIS anIS odCS anCS odIG anIG odCG anCG odA anA odO anO odE anE cdE1 cdE2 : Option Addr}
    {sl0 sl1 sl2 sl3 sl4 sl5 sl6 sl7 sl8 sl9 sl10 sl11 sl12 sl13 sl14 sl15 sl16 sl17 sl18 sl19 sl20 sl21 sl22 sl23 sl24 sl25 sl26 sl27 sl28 sl29 sl30 sl31 sl32 slK slIL slCL slIT slCT slIS slCS slIG slCG slA slO slE csE1 csE2 : Array (Option Value)} {vsE1 : Array Value}
    {nmE qE fileE : Str} {bsE bmE : List Value} {snE : List Str} {subE : List Value} {abE : Bool} {colE : Option Bool} {ddE : Option Addr} {e0 e1 e2 e3 e5 : Option Value} {tk0 tk1 tk2 tk3 tk4 tfE : Tok}
    (hfa : mg "law" = some (.ref fa))
    (a0 : PySem.W.nsIn K mainGlobals "need_range" = some (some (.ref f0)))
    (l0 : K.lookup f0 = some ⟨oc0, od0, .func (PySem.W.fnOf "need_range" "need_range" (defArgs sNeedRange) (defBody sNeedRange) (defScope sNeedRange) .none kV0 dc0 pm0 an0 cd0 ct0), sl0⟩)
    (c0 : PySem.W.codeIn K cd0 "need_range" = true)
    (k0 : PySem.W.keepIn K (.ref f0) = true)
    (a1 : PySem.W.nsIn K mainGlobals "need_places" = some (some (.ref f1)))
    (l1 : K.lookup f1 = some ⟨oc1, od1, .func (PySem.W.fnOf "need_places" "need_places" (defArgs sNeedPlaces) (defBody sNeedPlaces) (defScope sNeedPlaces) .none kV1 dc1 pm1 an1 cd1 ct1), sl1⟩)
    (c1 : PySem.W.codeIn K cd1 "need_places" = true)
    (k1 : PySem.W.keepIn K (.ref f1) = true)
    (a2 : PySem.W.nsIn K mainGlobals "need_late" = some (some (.ref f2)))
    (l2 : K.lookup f2 = some ⟨oc2, od2, .func (PySem.W.fnOf "need_late" "need_late" (defArgs sNeedLate) (defBody sNeedLate) (defScope sNeedLate) .none kV2 dc2 pm2 an2 cd2 ct2), sl2⟩)
    (c2 : PySem.W.codeIn K cd2 "need_late" = true)
    (k2 : PySem.W.keepIn K (.ref f2) = true)
    (a3 : PySem.W.nsIn K mainGlobals "limits" = some (some (.ref f3)))
    (l3 : K.lookup f3 = some ⟨oc3, od3, .func (PySem.W.fnOf "limits" "limits" (defArgs sLimits) (defBody sLimits) (defScope sLimits) .none kV3 dc3 pm3 an3 cd3 ct3), sl3⟩)
    (c3 : PySem.W.codeIn K cd3 "limits" = true)
    (k3 : PySem.W.keepIn K (.ref f3) = true)
    (a4 : PySem.W.nsIn K mainGlobals "reach_table" = some (some (.ref f4)))
    (l4 : K.lookup f4 = some ⟨oc4, od4, .func (PySem.W.fnOf "reach_table" "reach_table" (defArgs sReachTable) (defBody sReachTable) (defScope sReachTable) .none kV4 dc4 pm4 an4 cd4 ct4), sl4⟩)
    (c4 : PySem.W.codeIn K cd4 "reach_table" = true)
    (k4 : PySem.W.keepIn K (.ref f4) = true)
    (a5 : PySem.W.nsIn K mainGlobals "_need_late" = some (some (.ref f5)))
    (l5 : K.lookup f5 = some ⟨oc5, od5, .func (PySem.W.fnOf "_need_late" "_need_late" (defArgs sNeedLate1) (defBody sNeedLate1) (defScope sNeedLate1) .none kV5 dc5 pm5 an5 cd5 ct5), sl5⟩)
    (c5 : PySem.W.codeIn K cd5 "_need_late" = true)
    (k5 : PySem.W.keepIn K (.ref f5) = true)
    (a6 : PySem.W.nsIn K mainGlobals "_ascending" = some (some (.ref f6)))
    (l6 : K.lookup f6 = some ⟨oc6, od6, .func (PySem.W.fnOf "_ascending" "_ascending" (defArgs sAsc) (defBody sAsc) (defScope sAsc) .none kV6 dc6 pm6 an6 cd6 ct6), sl6⟩)
    (c6 : PySem.W.codeIn K cd6 "_ascending" = true)
    (k6 : PySem.W.keepIn K (.ref f6) = true)
    (a7 : PySem.W.nsIn K mainGlobals "least_level" = some (some (.ref f7)))
    (l7 : K.lookup f7 = some ⟨oc7, od7, .func (PySem.W.fnOf "least_level" "least_level" (defArgs sLeastLevel) (defBody sLeastLevel) (defScope sLeastLevel) .none kV7 dc7 pm7 an7 cd7 ct7), sl7⟩)
    (c7 : PySem.W.codeIn K cd7 "least_level" = true)
    (k7 : PySem.W.keepIn K (.ref f7) = true)
    (a8 : PySem.W.nsIn K mainGlobals "hopeless_level" = some (some (.ref f8)))
    (l8 : K.lookup f8 = some ⟨oc8, od8, .func (PySem.W.fnOf "hopeless_level" "hopeless_level" (defArgs sHopeless) (defBody sHopeless) (defScope sHopeless) .none kV8 dc8 pm8 an8 cd8 ct8), sl8⟩)
    (c8 : PySem.W.codeIn K cd8 "hopeless_level" = true)
    (k8 : PySem.W.keepIn K (.ref f8) = true)
    (a9 : PySem.W.nsIn K mainGlobals "_line_limit" = some (some (.ref f9)))
    (l9 : K.lookup f9 = some ⟨oc9, od9, .func (PySem.W.fnOf "_line_limit" "_line_limit" (defArgs sLineLimit) (defBody sLineLimit) (defScope sLineLimit) .none kV9 dc9 pm9 an9 cd9 ct9), sl9⟩)
    (c9 : PySem.W.codeIn K cd9 "_line_limit" = true)
    (k9 : PySem.W.keepIn K (.ref f9) = true)
    (a10 : PySem.W.nsIn K mainGlobals "_need_reachable" = some (some (.ref f10)))
    (l10 : K.lookup f10 = some ⟨oc10, od10, .func (PySem.W.fnOf "_need_reachable" "_need_reachable" (defArgs sNeedReach) (defBody sNeedReach) (defScope sNeedReach) .none kV10 dc10 pm10 an10 cd10 ct10), sl10⟩)
    (c10 : PySem.W.codeIn K cd10 "_need_reachable" = true)
    (k10 : PySem.W.keepIn K (.ref f10) = true)
    (a11 : PySem.W.nsIn K mainGlobals "least_extra" = some (some (.ref f11)))
    (l11 : K.lookup f11 = some ⟨oc11, od11, .func (PySem.W.fnOf "least_extra" "least_extra" (defArgs sLeastExtra) (defBody sLeastExtra) (defScope sLeastExtra) .none kV11 dc11 pm11 an11 cd11 ct11), sl11⟩)
    (c11 : PySem.W.codeIn K cd11 "least_extra" = true)
    (k11 : PySem.W.keepIn K (.ref f11) = true)
    (a12 : PySem.W.nsIn K mainGlobals "_law_box" = some (some (.ref f12)))
    (l12 : K.lookup f12 = some ⟨oc12, od12, .func (PySem.W.fnOf "_law_box" "_law_box" (defArgs sBox) (defBody sBox) (defScope sBox) .none kV12 dc12 pm12 an12 cd12 ct12), sl12⟩)
    (c12 : PySem.W.codeIn K cd12 "_law_box" = true)
    (k12 : PySem.W.keepIn K (.ref f12) = true)
    (a13 : PySem.W.nsIn K mainGlobals "_law_draw" = some (some (.ref f13)))
    (l13 : K.lookup f13 = some ⟨oc13, od13, .func (PySem.W.fnOf "_law_draw" "_law_draw" (defArgs sDraw) (defBody sDraw) (defScope sDraw) .none kV13 dc13 pm13 an13 cd13 ct13), sl13⟩)
    (c13 : PySem.W.codeIn K cd13 "_law_draw" = true)
    (k13 : PySem.W.keepIn K (.ref f13) = true)
    (a14 : PySem.W.nsIn K mainGlobals "_law_wide" = some (some (.ref f14)))
    (l14 : K.lookup f14 = some ⟨oc14, od14, .func (PySem.W.fnOf "_law_wide" "_law_wide" (defArgs sWide) (defBody sWide) (defScope sWide) .none kV14 dc14 pm14 an14 cd14 ct14), sl14⟩)
    (c14 : PySem.W.codeIn K cd14 "_law_wide" = true)
    (k14 : PySem.W.keepIn K (.ref f14) = true)
    (a15 : PySem.W.nsIn K mainGlobals "_law_line" = some (some (.ref f15)))
    (l15 : K.lookup f15 = some ⟨oc15, od15, .func (PySem.W.fnOf "_law_line" "_law_line" (defArgs sLawLine) (defBody sLawLine) (defScope sLawLine) .none kV15 dc15 pm15 an15 cd15 ct15), sl15⟩)
    (c15 : PySem.W.codeIn K cd15 "_law_line" = true)
    (k15 : PySem.W.keepIn K (.ref f15) = true)
    (a16 : PySem.W.nsIn K mainGlobals "_law_table" = some (some (.ref f16)))
    (l16 : K.lookup f16 = some ⟨oc16, od16, .func (PySem.W.fnOf "_law_table" "_law_table" (defArgs sLawTable) (defBody sLawTable) (defScope sLawTable) .none kV16 dc16 pm16 an16 cd16 ct16), sl16⟩)
    (c16 : PySem.W.codeIn K cd16 "_law_table" = true)
    (k16 : PySem.W.keepIn K (.ref f16) = true)
    (a17 : PySem.W.nsIn K mainGlobals "_law_model" = some (some (.ref f17)))
    (l17 : K.lookup f17 = some ⟨oc17, od17, .func (PySem.W.fnOf "_law_model" "_law_model" (defArgs sLawModel) (defBody sLawModel) (defScope sLawModel) .none kV17 dc17 pm17 an17 cd17 ct17), sl17⟩)
    (c17 : PySem.W.codeIn K cd17 "_law_model" = true)
    (k17 : PySem.W.keepIn K (.ref f17) = true)
    (a18 : PySem.W.nsIn K mainGlobals "_law_built" = some (some (.ref f18)))
    (l18 : K.lookup f18 = some ⟨oc18, od18, .func (PySem.W.fnOf "_law_built" "_law_built" (defArgs sBuilt) (defBody sBuilt) (defScope sBuilt) .none kV18 dc18 pm18 an18 cd18 ct18), sl18⟩)
    (c18 : PySem.W.codeIn K cd18 "_law_built" = true)
    (k18 : PySem.W.keepIn K (.ref f18) = true)
    (a19 : PySem.W.nsIn K mainGlobals "_law_price" = some (some (.ref f19)))
    (l19 : K.lookup f19 = some ⟨oc19, od19, .func (PySem.W.fnOf "_law_price" "_law_price" (defArgs sPrice) (defBody sPrice) (defScope sPrice) .none kV19 dc19 pm19 an19 cd19 ct19), sl19⟩)
    (c19 : PySem.W.codeIn K cd19 "_law_price" = true)
    (k19 : PySem.W.keepIn K (.ref f19) = true)
    (a20 : PySem.W.nsIn K mainGlobals "_law_is_integer" = some (some (.ref f20)))
    (l20 : K.lookup f20 = some ⟨oc20, od20, .func (PySem.W.fnOf "_law_is_integer" "_law_is_integer" (defArgs sIsInt) (defBody sIsInt) (defScope sIsInt) .none kV20 dc20 pm20 an20 cd20 ct20), sl20⟩)
    (c20 : PySem.W.codeIn K cd20 "_law_is_integer" = true)
    (k20 : PySem.W.keepIn K (.ref f20) = true)
    (a21 : PySem.W.nsIn K mainGlobals "_law_limits" = some (some (.ref f21)))
    (l21 : K.lookup f21 = some ⟨oc21, od21, .func (PySem.W.fnOf "_law_limits" "_law_limits" (defArgs sLawLimits) (defBody sLawLimits) (defScope sLawLimits) .none kV21 dc21 pm21 an21 cd21 ct21), sl21⟩)
    (c21 : PySem.W.codeIn K cd21 "_law_limits" = true)
    (k21 : PySem.W.keepIn K (.ref f21) = true)
    (a22 : PySem.W.nsIn K mainGlobals "_law_levels" = some (some (.ref f22)))
    (l22 : K.lookup f22 = some ⟨oc22, od22, .func (PySem.W.fnOf "_law_levels" "_law_levels" (defArgs sLawLevels) (defBody sLawLevels) (defScope sLawLevels) .none kV22 dc22 pm22 an22 cd22 ct22), sl22⟩)
    (c22 : PySem.W.codeIn K cd22 "_law_levels" = true)
    (k22 : PySem.W.keepIn K (.ref f22) = true)
    (a23 : PySem.W.nsIn K mainGlobals "_law_reached" = some (some (.ref f23)))
    (l23 : K.lookup f23 = some ⟨oc23, od23, .func (PySem.W.fnOf "_law_reached" "_law_reached" (defArgs sReached) (defBody sReached) (defScope sReached) .none kV23 dc23 pm23 an23 cd23 ct23), sl23⟩)
    (c23 : PySem.W.codeIn K cd23 "_law_reached" = true)
    (k23 : PySem.W.keepIn K (.ref f23) = true)
    (a24 : PySem.W.nsIn K mainGlobals "_law_least_of" = some (some (.ref f24)))
    (l24 : K.lookup f24 = some ⟨oc24, od24, .func (PySem.W.fnOf "_law_least_of" "_law_least_of" (defArgs sLeastOf) (defBody sLeastOf) (defScope sLeastOf) .none kV24 dc24 pm24 an24 cd24 ct24), sl24⟩)
    (c24 : PySem.W.codeIn K cd24 "_law_least_of" = true)
    (k24 : PySem.W.keepIn K (.ref f24) = true)
    (a25 : PySem.W.nsIn K mainGlobals "_law_hopeless_of" = some (some (.ref f25)))
    (l25 : K.lookup f25 = some ⟨oc25, od25, .func (PySem.W.fnOf "_law_hopeless_of" "_law_hopeless_of" (defArgs sHopelessOf) (defBody sHopelessOf) (defScope sHopelessOf) .none kV25 dc25 pm25 an25 cd25 ct25), sl25⟩)
    (c25 : PySem.W.codeIn K cd25 "_law_hopeless_of" = true)
    (k25 : PySem.W.keepIn K (.ref f25) = true)
    (a26 : PySem.W.nsIn K mainGlobals "_law_level_holds" = some (some (.ref f26)))
    (l26 : K.lookup f26 = some ⟨oc26, od26, .func (PySem.W.fnOf "_law_level_holds" "_law_level_holds" (defArgs sLevelHolds) (defBody sLevelHolds) (defScope sLevelHolds) .none kV26 dc26 pm26 an26 cd26 ct26), sl26⟩)
    (c26 : PySem.W.codeIn K cd26 "_law_level_holds" = true)
    (k26 : PySem.W.keepIn K (.ref f26) = true)
    (a27 : PySem.W.nsIn K mainGlobals "_law_extra_of" = some (some (.ref f27)))
    (l27 : K.lookup f27 = some ⟨oc27, od27, .func (PySem.W.fnOf "_law_extra_of" "_law_extra_of" (defArgs sExtraOf) (defBody sExtraOf) (defScope sExtraOf) .none kV27 dc27 pm27 an27 cd27 ct27), sl27⟩)
    (c27 : PySem.W.codeIn K cd27 "_law_extra_of" = true)
    (k27 : PySem.W.keepIn K (.ref f27) = true)
    (a28 : PySem.W.nsIn K mainGlobals "_law_slope_of" = some (some (.ref f28)))
    (l28 : K.lookup f28 = some ⟨oc28, od28, .func (PySem.W.fnOf "_law_slope_of" "_law_slope_of" (defArgs sSlopeOf) (defBody sSlopeOf) (defScope sSlopeOf) .none kV28 dc28 pm28 an28 cd28 ct28), sl28⟩)
    (c28 : PySem.W.codeIn K cd28 "_law_slope_of" = true)
    (k28 : PySem.W.keepIn K (.ref f28) = true)
    (a29 : PySem.W.nsIn K mainGlobals "_law_days" = some (some (.ref f29)))
    (l29 : K.lookup f29 = some ⟨oc29, od29, .func (PySem.W.fnOf "_law_days" "_law_days" (defArgs sDays) (defBody sDays) (defScope sDays) .none kV29 dc29 pm29 an29 cd29 ct29), sl29⟩)
    (c29 : PySem.W.codeIn K cd29 "_law_days" = true)
    (k29 : PySem.W.keepIn K (.ref f29) = true)
    (a30 : PySem.W.nsIn K mainGlobals "_law_seats" = some (some (.ref f30)))
    (l30 : K.lookup f30 = some ⟨oc30, od30, .func (PySem.W.fnOf "_law_seats" "_law_seats" (defArgs sSeats) (defBody sSeats) (defScope sSeats) .none kV30 dc30 pm30 an30 cd30 ct30), sl30⟩)
    (c30 : PySem.W.codeIn K cd30 "_law_seats" = true)
    (k30 : PySem.W.keepIn K (.ref f30) = true)
    (a31 : PySem.W.nsIn K mainGlobals "_law_line_holds" = some (some (.ref f31)))
    (l31 : K.lookup f31 = some ⟨oc31, od31, .func (PySem.W.fnOf "_law_line_holds" "_law_line_holds" (defArgs sLineHolds) (defBody sLineHolds) (defScope sLineHolds) .none kV31 dc31 pm31 an31 cd31 ct31), sl31⟩)
    (c31 : PySem.W.codeIn K cd31 "_law_line_holds" = true)
    (k31 : PySem.W.keepIn K (.ref f31) = true)
    (a32 : PySem.W.nsIn K mainGlobals "law" = some (some (.ref f32)))
    (l32 : K.lookup f32 = some ⟨oc32, od32, .func (PySem.W.fnOf "law" "law" (defArgs sLaw) (defBody sLaw) (defScope sLaw) .none kV32 dc32 pm32 an32 cd32 ct32), sl32⟩)
    (c32 : PySem.W.codeIn K cd32 "law" = true)
    (k32 : PySem.W.keepIn K (.ref f32) = true)
    (aK : PySem.W.nsIn K mainGlobals "least_slope" = some (some (.ref fK)))
    (lK : K.lookup fK = some ⟨ocK, odK, .func (PySem.W.fnOf "least_slope" "least_slope" (defArgs sLeastSlope) (defBody sLeastSlope) (defScope sLeastSlope) .none (.ref dsK) dcK pmK anK cdK ctK), slK⟩)
    (cK : PySem.W.codeIn K cdK "least_slope" = true)
    (kK : PySem.W.keepIn K (.ref fK) = true)
    (nK : PySem.W.nsIn K dsK "extra" = some (some (.int 0 tk0)))
    (z1 : PySem.W.nsIn K mainGlobals "MOST_PLACES" = some (some (.int 64 tk1)))
    (z2 : PySem.W.nsIn K mainGlobals "MOST_LATE" = some (some (.int (10 ^ 60) tk2)))
    (z3 : PySem.W.nsIn K mainGlobals "MOST_SLOPE" = some (some (.int (10 ^ 6) tk3)))
    (b0 : PySem.W.nsIn K mainGlobals "isinstance" = some none)
    (b1 : PySem.W.nsIn K mainGlobals "bool" = some none)
    (b2 : PySem.W.nsIn K mainGlobals "int" = some none)
    (b3 : PySem.W.nsIn K mainGlobals "len" = some none)
    (b4 : PySem.W.nsIn K mainGlobals "range" = some none)
    (b5 : PySem.W.nsIn K mainGlobals "tuple" = some none)
    (b6 : PySem.W.nsIn K mainGlobals "list" = some none)
    (b7 : PySem.W.nsIn K mainGlobals "min" = some none)
    (b8 : PySem.W.nsIn K mainGlobals "max" = some none)
    (b9 : PySem.W.nsIn K mainGlobals "abs" = some none)
    (b10 : PySem.W.nsIn K mainGlobals "super" = some none)
    (gL : PySem.W.nsIn K mainGlobals "Line" = some (some (.ref CL)))
    (pgL : PySem.W.plainGet K CL Str.empty = true)
    (hdL : PySem.W.hasDictIn K CL = true)
    (poL : PySem.W.plainOver K CL = true)
    (saL : PySem.W.findIn K (.ref CL) "__setattr__" = some (some (.builtin "object.__setattr__")))
    (mkL : PySem.W.makesIn K CL = true)
    (kcL : PySem.W.keepIn K (.ref CL) = true)
    (n0L : PySem.W.findIn K (.ref CL) "slope" = some none)
    (n1L : PySem.W.findIn K (.ref CL) "extra" = some none)
    (aiL : PySem.W.findIn K (.ref CL) "__init__" = some (some (.ref fIL)))
    (iiL : PySem.W.isFn K (.ref fIL) = true)
    (lIL : K.lookup fIL = some ⟨ocIL, odIL, .func (PySem.W.fnOf "__init__" "Line.__init__" (defArgs sLineInit) (defBody sLineInit) (defScope sLineInit) .none kVIL dcIL pmIL anIL cdIL ctIL), slIL⟩)
    (cIL : PySem.W.codeIn K cdIL "Line.__init__" = true)
    (kIL : PySem.W.keepIn K (.ref fIL) = true)
    (acL : PySem.W.findIn K (.ref CL) "__call__" = some (some (.ref fCL)))
    (icL : PySem.W.isFn K (.ref fCL) = true)
    (fiL : PySem.W.fnIn K fCL = true)
    (lCL : K.lookup fCL = some ⟨ocCL, odCL, .func (PySem.W.fnOf "__call__" "Line.__call__" (defArgs sLineCall) (defBody sLineCall) (defScope sLineCall) .none kVCL dcCL pmCL anCL cdCL ctCL), slCL⟩)
    (cCL : PySem.W.codeIn K cdCL "Line.__call__" = true)
    (kCL : PySem.W.keepIn K (.ref fCL) = true)
    (gT : PySem.W.nsIn K mainGlobals "Table" = some (some (.ref CT)))
    (pgT : PySem.W.plainGet K CT Str.empty = true)
    (hdT : PySem.W.hasDictIn K CT = true)
    (poT : PySem.W.plainOver K CT = true)
    (saT : PySem.W.findIn K (.ref CT) "__setattr__" = some (some (.builtin "object.__setattr__")))
    (mkT : PySem.W.makesIn K CT = true)
    (kcT : PySem.W.keepIn K (.ref CT) = true)
    (n0T : PySem.W.findIn K (.ref CT) "prices" = some none)
    (n1T : PySem.W.findIn K (.ref CT) "slope" = some none)
    (aiT : PySem.W.findIn K (.ref CT) "__init__" = some (some (.ref fIT)))
    (iiT : PySem.W.isFn K (.ref fIT) = true)
    (lIT : K.lookup fIT = some ⟨ocIT, odIT, .func (PySem.W.fnOf "__init__" "Table.__init__" (defArgs sTableInit) (defBody sTableInit) (defScope sTableInit) .none (.ref dsT) dcIT pmIT anIT cdIT ctIT), slIT⟩)
    (cIT : PySem.W.codeIn K cdIT "Table.__init__" = true)
    (kIT : PySem.W.keepIn K (.ref fIT) = true)
    (nT : PySem.W.nsIn K dsT "slope" = some (some (.int 1 tk4)))
    (acT : PySem.W.findIn K (.ref CT) "__call__" = some (some (.ref fCT)))
    (icT : PySem.W.isFn K (.ref fCT) = true)
    (fiT : PySem.W.fnIn K fCT = true)
    (lCT : K.lookup fCT = some ⟨ocCT, odCT, .func (PySem.W.fnOf "__call__" "Table.__call__" (defArgs sTableCall) (defBody sTableCall) (defScope sTableCall) .none kVCT dcCT pmCT anCT cdCT ctCT), slCT⟩)
    (cCT : PySem.W.codeIn K cdCT "Table.__call__" = true)
    (kCT : PySem.W.keepIn K (.ref fCT) = true)
    (gS : PySem.W.nsIn K mainGlobals "Lesser" = some (some (.ref CS)))
    (pgS : PySem.W.plainGet K CS Str.empty = true)
    (hdS : PySem.W.hasDictIn K CS = true)
    (poS : PySem.W.plainOver K CS = true)
    (saS : PySem.W.findIn K (.ref CS) "__setattr__" = some (some (.builtin "object.__setattr__")))
    (mkS : PySem.W.makesIn K CS = true)
    (kcS : PySem.W.keepIn K (.ref CS) = true)
    (n0S : PySem.W.findIn K (.ref CS) "_one" = some none)
    (n1S : PySem.W.findIn K (.ref CS) "_other" = some none)
    (aiS : PySem.W.findIn K (.ref CS) "__init__" = some (some (.ref fIS)))
    (iiS : PySem.W.isFn K (.ref fIS) = true)
    (lIS : K.lookup fIS = some ⟨ocIS, odIS, .func (PySem.W.fnOf "__init__" "Lesser.__init__" (defArgs sLessInit) (defBody sLessInit) (defScope sLessInit) .none kVIS dcIS pmIS anIS cdIS ctIS), slIS⟩)
    (cIS : PySem.W.codeIn K cdIS "Lesser.__init__" = true)
    (kIS : PySem.W.keepIn K (.ref fIS) = true)
    (acS : PySem.W.findIn K (.ref CS) "__call__" = some (some (.ref fCS)))
    (icS : PySem.W.isFn K (.ref fCS) = true)
    (fiS : PySem.W.fnIn K fCS = true)
    (lCS : K.lookup fCS = some ⟨ocCS, odCS, .func (PySem.W.fnOf "__call__" "Lesser.__call__" (defArgs sLessCall) (defBody sLessCall) (defScope sLessCall) .none kVCS dcCS pmCS anCS cdCS ctCS), slCS⟩)
    (cCS : PySem.W.codeIn K cdCS "Lesser.__call__" = true)
    (kCS : PySem.W.keepIn K (.ref fCS) = true)
    (gG : PySem.W.nsIn K mainGlobals "Greater" = some (some (.ref CG)))
    (pgG : PySem.W.plainGet K CG Str.empty = true)
    (hdG : PySem.W.hasDictIn K CG = true)
    (poG : PySem.W.plainOver K CG = true)
    (saG : PySem.W.findIn K (.ref CG) "__setattr__" = some (some (.builtin "object.__setattr__")))
    (mkG : PySem.W.makesIn K CG = true)
    (kcG : PySem.W.keepIn K (.ref CG) = true)
    (n0G : PySem.W.findIn K (.ref CG) "_one" = some none)
    (n1G : PySem.W.findIn K (.ref CG) "_other" = some none)
    (aiG : PySem.W.findIn K (.ref CG) "__init__" = some (some (.ref fIG)))
    (iiG : PySem.W.isFn K (.ref fIG) = true)
    (lIG : K.lookup fIG = some ⟨ocIG, odIG, .func (PySem.W.fnOf "__init__" "Greater.__init__" (defArgs sGrtInit) (defBody sGrtInit) (defScope sGrtInit) .none kVIG dcIG pmIG anIG cdIG ctIG), slIG⟩)
    (cIG : PySem.W.codeIn K cdIG "Greater.__init__" = true)
    (kIG : PySem.W.keepIn K (.ref fIG) = true)
    (acG : PySem.W.findIn K (.ref CG) "__call__" = some (some (.ref fCG)))
    (icG : PySem.W.isFn K (.ref fCG) = true)
    (fiG : PySem.W.fnIn K fCG = true)
    (lCG : K.lookup fCG = some ⟨ocCG, odCG, .func (PySem.W.fnOf "__call__" "Greater.__call__" (defArgs sGrtCall) (defBody sGrtCall) (defScope sGrtCall) .none kVCG dcCG pmCG anCG cdCG ctCG), slCG⟩)
    (cCG : PySem.W.codeIn K cdCG "Greater.__call__" = true)
    (kCG : PySem.W.keepIn K (.ref fCG) = true)
    (meAL : PySem.W.findIn K (.ref CL) "__and__" = some (some (.ref fA)))
    (reAL : PySem.W.findIn K (.ref CL) "__rand__" = some none)
    (meAT : PySem.W.findIn K (.ref CT) "__and__" = some (some (.ref fA)))
    (reAT : PySem.W.findIn K (.ref CT) "__rand__" = some none)
    (meAS : PySem.W.findIn K (.ref CS) "__and__" = some (some (.ref fA)))
    (reAS : PySem.W.findIn K (.ref CS) "__rand__" = some none)
    (meAG : PySem.W.findIn K (.ref CG) "__and__" = some (some (.ref fA)))
    (reAG : PySem.W.findIn K (.ref CG) "__rand__" = some none)
    (ipA : PySem.W.isFn K (.ref fA) = true)
    (lA : K.lookup fA = some ⟨ocA, odA, .func (PySem.W.fnOf "__and__" "Rule.__and__" (defArgs sAnd) (defBody sAnd) (defScope sAnd) .none kVA dcA pmA anA cdA ctA), slA⟩)
    (cA : PySem.W.codeIn K cdA "Rule.__and__" = true)
    (kA : PySem.W.keepIn K (.ref fA) = true)
    (meOL : PySem.W.findIn K (.ref CL) "__or__" = some (some (.ref fO)))
    (reOL : PySem.W.findIn K (.ref CL) "__ror__" = some none)
    (meOT : PySem.W.findIn K (.ref CT) "__or__" = some (some (.ref fO)))
    (reOT : PySem.W.findIn K (.ref CT) "__ror__" = some none)
    (meOS : PySem.W.findIn K (.ref CS) "__or__" = some (some (.ref fO)))
    (reOS : PySem.W.findIn K (.ref CS) "__ror__" = some none)
    (meOG : PySem.W.findIn K (.ref CG) "__or__" = some (some (.ref fO)))
    (reOG : PySem.W.findIn K (.ref CG) "__ror__" = some none)
    (ipO : PySem.W.isFn K (.ref fO) = true)
    (lO : K.lookup fO = some ⟨ocO, odO, .func (PySem.W.fnOf "__or__" "Rule.__or__" (defArgs sOr) (defBody sOr) (defScope sOr) .none kVO dcO pmO anO cdO ctO), slO⟩)
    (cO : PySem.W.codeIn K cdO "Rule.__or__" = true)
    (kO : PySem.W.keepIn K (.ref fO) = true)
    (sfL : PySem.W.selfFirst K CL = true)
    (sfT : PySem.W.selfFirst K CT = true)
    (sfS : PySem.W.selfFirst K CS = true)
    (sfG : PySem.W.selfFirst K CG = true)
    (suLT : PySem.W.subIn K (.ref CL) (.ref CT) = some false)
    (suLS : PySem.W.subIn K (.ref CL) (.ref CS) = some false)
    (suLG : PySem.W.subIn K (.ref CL) (.ref CG) = some false)
    (suTL : PySem.W.subIn K (.ref CT) (.ref CL) = some false)
    (suTS : PySem.W.subIn K (.ref CT) (.ref CS) = some false)
    (suTG : PySem.W.subIn K (.ref CT) (.ref CG) = some false)
    (suSL : PySem.W.subIn K (.ref CS) (.ref CL) = some false)
    (suST : PySem.W.subIn K (.ref CS) (.ref CT) = some false)
    (suSG : PySem.W.subIn K (.ref CS) (.ref CG) = some false)
    (suGL : PySem.W.subIn K (.ref CG) (.ref CL) = some false)
    (suGT : PySem.W.subIn K (.ref CG) (.ref CT) = some false)
    (suGS : PySem.W.subIn K (.ref CG) (.ref CS) = some false)
    (gE : PySem.W.nsIn K mainGlobals "Unreachable" = some (some (.ref CE)))
    (gR : PySem.W.nsIn K mainGlobals "ReachError" = some (some (.ref RE)))
    (xE : K.lookup CE = some (PySem.excClassObj nmE qE CE NE bsE bmE true snE subE abE colE ddE e0 e1 e2 e3 e5 "ValueError.__new__"))
    (rE : PySem.HandSPX.refsVE bmE = true)
    (saE : PySem.W.findIn K (.ref CE) "__setattr__" = some (some (.builtin "object.__setattr__")))
    (naE : PySem.W.findIn K (.ref CE) "late" = some none)
    (iE : PySem.W.findIn K (.ref CE) "__init__" = some (some (.ref fE)))
    (tE : PySem.W.typeIn K (.ref fE) = some (.type "function"))
    (kE : PySem.W.keepIn K (.ref CE) = true)
    (beE : PySem.W.subIn K (.ref CE) (.type "BaseException") = some true)
    (veE : PySem.W.subIn K (.ref CE) (.type "ValueError") = some true)
    (tyE : PySem.W.typeIn K (.ref CE) = some (.type "type"))
    (owE : PySem.W.mroIn K CE (.ref CE) = some true)
    (suE : PySem.W.ks_superIn K CE CE "__init__" = some (some (.builtin "ValueError.__init__")))
    (opE : PySem.W.nsIn K PySem.cStatics "thirdparty.any" = some none)
    (lE : K.lookup fE = some ⟨ocE, odE, .func (PySem.W.fnX "__init__" "Unreachable.__init__" (defArgs PySem.LrX.sUnInit) (defBody PySem.LrX.sUnInit) (defScope PySem.LrX.sUnInit) [("__class__", ccE)] .none kVE dcE pmE anE (.ref cdE) ctE), slE⟩)
    (cE : PySem.W.codeIn K (.ref cdE) "Unreachable.__init__" = true)
    (ldE : K.lookup cdE = some ⟨clE1, cdE1, .fields vsE1, csE1⟩)
    (v2E : vsE1[2]? = some (.str fileE tfE))
    (flE : ((P.main.file : Str) == fileE) = true)
    (lcE : K.lookup ccE = some ⟨clE2, cdE2, .cell (some (.ref CE)), csE2⟩)
    (mnE : (P.main.scope.names.lookup ("super" : Str)).isSome = false)
    (hgaE : PySem.W.findIn K (.ref CE) "__getattribute__" = some (some (.builtin "BaseException.__getattribute__")))
    (hgtE : PySem.W.findIn K (.ref CE) "__getattr__" = some none)
    (hdE : PySem.W.hasDictIn K CE = true)
    (haE : PySem.W.findIn K (.ref CE) "__class__" = some (some (.builtin "object.__class__")))
    (hnE : PySem.W.specialIn K (.builtin "object.__class__") "__get__" = some (some (.builtin "getset_descriptor.__get__")))
    (htE : PySem.W.takesIn K (.builtin "object.__class__") = some true)
    (hmE : PySem.W.mroIn K CE (.type "object") = some true)
    (ktE : PySem.W.kitOne K (.ref CE) (.ref RE) = some true)
    (icE : PySem.W.isClsIn K CE = true)
    (ssE : PySem.W.subIn K (.ref CE) (.ref CE) = some true)
    : ∃ fd : FuncData, (∀ (s : Shared) (u : Value), BindsTo s fd ⟨[u], []⟩ [("_law_script", u)]) ∧ ∀ base : Heap, K.In base → base.Ns mainGlobals mg → FnOk P w K mg base CX0 12 fa fd ["_law_script"] (spLaw K) := by
  have e := hfa.symm.trans (PySem.W.mg_of X G a32)
  cases e
  have B : Bt mg := ⟨PySem.W.mg_none_of X G b0, PySem.W.mg_none_of X G b1, PySem.W.mg_none_of X G b2, PySem.W.mg_none_of X G b3, PySem.W.mg_none_of X G b4, PySem.W.mg_none_of X G b5, PySem.W.mg_none_of X G b6, PySem.W.mg_none_of X G b7, PySem.W.mg_none_of X G b8, PySem.W.mg_none_of X G b9⟩
  have Z : Kn mg := ⟨⟨_, PySem.W.mg_of X G z1⟩, ⟨_, PySem.W.mg_of X G z2⟩, ⟨_, PySem.W.mg_of X G z3⟩⟩
  have U : PySem.LrX.UnTxt P K mg CE fE ccE cdE :=
    { gC := PySem.W.mg_of X G gE, gS := PySem.W.mg_none_of X G b10, cls := ⟨nmE, qE, NE, bsE, bmE, snE, subE, abE, colE, ddE, e0, e1, e2, e3, e5, xE, rE⟩, sa := saE, noN := naE, iC := iE, tC := tE, kC := kE, exC := beE, veC := veE, tyC := tyE, own := owE, sup := suE, opq := opE,
      fn := ⟨_, _, _, _, _, _, _, _, lE, cE⟩, code := ⟨_, _, _, _, _, _, ldE, v2E, flE⟩, cell := ⟨_, _, _, lcE⟩, main := mnE }
  have I : UnIs K mg CE RE := { gR := PySem.W.mg_of X G gR, hcl := icE, hga := hgaE, hgt := hgtE, hsub := beE, hdC := hdE, ha := haE, hn := hnE, htk := htE, hm := hmE, kit := ktE, noN := naE, te := exm_self beE icE tyE ssE }
  let c : Cs := ⟨CL, CT, CS, CG⟩
  have T : Rt K mg c := ⟨⟨pgL, hdL, poL, saL⟩, n0L, n1L, PySem.W.mg_of X G gL, ⟨pgT, hdT, poT, saT⟩, n0T, n1T, PySem.W.mg_of X G gT, ⟨pgS, hdS, poS, saS⟩, n0S, n1S, PySem.W.mg_of X G gS, ⟨pgG, hdG, poG, saG⟩, n0G, n1G, PySem.W.mg_of X G gG⟩
  have D0 := df_of (x := "need_range") (st := sNeedRange) (ps := ["value", "least", "most"]) X G a0 l0 c0 k0 (fun _ _ _ _ _ _ us hl => match us, hl with | [_, _, _], _ => rfl)
  have D1 := df_of (x := "need_places") (st := sNeedPlaces) (ps := ["value"]) X G a1 l1 c1 k1 (fun _ _ _ _ _ _ us hl => match us, hl with | [_], _ => rfl)
  have D2 := df_of (x := "need_late") (st := sNeedLate) (ps := ["value"]) X G a2 l2 c2 k2 (fun _ _ _ _ _ _ us hl => match us, hl with | [_], _ => rfl)
  have D3 := df_of (x := "limits") (st := sLimits) (ps := ["rule", "level"]) X G a3 l3 c3 k3 (fun _ _ _ _ _ _ us hl => match us, hl with | [_, _], _ => rfl)
  have D4 := df_of (x := "reach_table") (st := sReachTable) (ps := ["rule", "level"]) X G a4 l4 c4 k4 (fun _ _ _ _ _ _ us hl => match us, hl with | [_, _], _ => rfl)
  have D5 := df_of (x := "_need_late") (st := sNeedLate1) (ps := ["late"]) X G a5 l5 c5 k5 (fun _ _ _ _ _ _ us hl => match us, hl with | [_], _ => rfl)
  have D6 := df_of (x := "_ascending") (st := sAsc) (ps := ["prices"]) X G a6 l6 c6 k6 (fun _ _ _ _ _ _ us hl => match us, hl with | [_], _ => rfl)
  have D7 := df_of (x := "least_level") (st := sLeastLevel) (ps := ["rule", "late"]) X G a7 l7 c7 k7 (fun _ _ _ _ _ _ us hl => match us, hl with | [_, _], _ => rfl)
  have D8 := df_of (x := "hopeless_level") (st := sHopeless) (ps := ["rule", "late"]) X G a8 l8 c8 k8 (fun _ _ _ _ _ _ us hl => match us, hl with | [_, _], _ => rfl)
  have D9 := df_of (x := "_line_limit") (st := sLineLimit) (ps := ["slope", "extra", "level"]) X G a9 l9 c9 k9 (fun _ _ _ _ _ _ us hl => match us, hl with | [_, _, _], _ => rfl)
  have D10 := df_of (x := "_need_reachable") (st := sNeedReach) (ps := ["places", "late"]) X G a10 l10 c10 k10 (fun _ _ _ _ _ _ us hl => match us, hl with | [_, _], _ => rfl)
  have D11 := df_of (x := "least_extra") (st := sLeastExtra) (ps := ["slope", "places", "late"]) X G a11 l11 c11 k11 (fun _ _ _ _ _ _ us hl => match us, hl with | [_, _, _], _ => rfl)
  have D12 := df_of (x := "_law_box") (st := sBox) (ps := ["_law_script"]) X G a12 l12 c12 k12 (fun _ _ _ _ _ _ us hl => match us, hl with | [_], _ => rfl)
  have D13 := df_of (x := "_law_draw") (st := sDraw) (ps := ["_law_box_here", "_law_many"]) X G a13 l13 c13 k13 (fun _ _ _ _ _ _ us hl => match us, hl with | [_, _], _ => rfl)
  have D14 := df_of (x := "_law_wide") (st := sWide) (ps := ["_law_box_here", "_law_many"]) X G a14 l14 c14 k14 (fun _ _ _ _ _ _ us hl => match us, hl with | [_, _], _ => rfl)
  have D15 := df_of (x := "_law_line") (st := sLawLine) (ps := ["_law_box_here", "_law_small"]) X G a15 l15 c15 k15 (fun _ _ _ _ _ _ us hl => match us, hl with | [_, _], _ => rfl)
  have D16 := df_of (x := "_law_table") (st := sLawTable) (ps := ["_law_box_here", "_law_most", "_law_small"]) X G a16 l16 c16 k16 (fun _ _ _ _ _ _ us hl => match us, hl with | [_, _, _], _ => rfl)
  have D17 := df_of (x := "_law_model") (st := sLawModel) (ps := ["_law_box_here", "_law_count", "_law_most", "_law_small"]) X G a17 l17 c17 k17 (fun _ _ _ _ _ _ us hl => match us, hl with | [_, _, _, _], _ => rfl)
  have D18 := df_of (x := "_law_built") (st := sBuilt) (ps := ["_law_model_here"]) X G a18 l18 c18 k18 (fun _ _ _ _ _ _ us hl => match us, hl with | [_], _ => rfl)
  have D19 := df_of (x := "_law_price") (st := sPrice) (ps := ["_law_model_here", "_law_days_here"]) X G a19 l19 c19 k19 (fun _ _ _ _ _ _ us hl => match us, hl with | [_, _], _ => rfl)
  have D20 := df_of (x := "_law_is_integer") (st := sIsInt) (ps := ["_law_answer"]) X G a20 l20 c20 k20 (fun _ _ _ _ _ _ us hl => match us, hl with | [_], _ => rfl)
  have D21 := df_of (x := "_law_limits") (st := sLawLimits) (ps := ["_law_model_here", "_law_top"]) X G a21 l21 c21 k21 (fun _ _ _ _ _ _ us hl => match us, hl with | [_, _], _ => rfl)
  have D22 := df_of (x := "_law_levels") (st := sLawLevels) (ps := ["_law_model_here", "_law_top"]) X G a22 l22 c22 k22 (fun _ _ _ _ _ _ us hl => match us, hl with | [_, _], _ => rfl)
  have D23 := df_of (x := "_law_reached") (st := sReached) (ps := ["_law_steep", "_law_shift", "_law_seats_here"]) X G a23 l23 c23 k23 (fun _ _ _ _ _ _ us hl => match us, hl with | [_, _, _], _ => rfl)
  have D24 := df_of (x := "_law_least_of") (st := sLeastOf) (ps := ["_law_rule", "_law_days_here", "_law_row"]) X G a24 l24 c24 k24 (fun _ _ _ _ _ _ us hl => match us, hl with | [_, _, _], _ => rfl)
  have D25 := df_of (x := "_law_hopeless_of") (st := sHopelessOf) (ps := ["_law_rule", "_law_days_here", "_law_row"]) X G a25 l25 c25 k25 (fun _ _ _ _ _ _ us hl => match us, hl with | [_, _, _], _ => rfl)
  have D26 := df_of (x := "_law_level_holds") (st := sLevelHolds) (ps := ["_law_rule", "_law_word", "_law_days_here", "_law_limits_here", "_law_numbers"]) X G a26 l26 c26 k26 (fun _ _ _ _ _ _ us hl => match us, hl with | [_, _, _, _, _], _ => rfl)
  have D27 := df_of (x := "_law_extra_of") (st := sExtraOf) (ps := ["_law_steep", "_law_seats_here", "_law_days_here"]) X G a27 l27 c27 k27 (fun _ _ _ _ _ _ us hl => match us, hl with | [_, _, _], _ => rfl)
  have D28 := df_of (x := "_law_slope_of") (st := sSlopeOf) (ps := ["_law_seats_here", "_law_days_here", "_law_shift", "_law_plain"]) X G a28 l28 c28 k28 (fun _ _ _ _ _ _ us hl => match us, hl with | [_, _, _, _], _ => rfl)
  have D29 := df_of (x := "_law_days") (st := sDays) (ps := ["_law_box_here", "_law_number"]) X G a29 l29 c29 k29 (fun _ _ _ _ _ _ us hl => match us, hl with | [_, _], _ => rfl)
  have D30 := df_of (x := "_law_seats") (st := sSeats) (ps := ["_law_box_here"]) X G a30 l30 c30 k30 (fun _ _ _ _ _ _ us hl => match us, hl with | [_], _ => rfl)
  have D31 := df_of (x := "_law_line_holds") (st := sLineHolds) (ps := ["_law_box_here"]) X G a31 l31 c31 k31 (fun _ _ _ _ _ _ us hl => match us, hl with | [_], _ => rfl)
  have D32 := df_of (x := "law") (st := sLaw) (ps := ["_law_script"]) X G a32 l32 c32 k32 (fun _ _ _ _ _ _ us hl => match us, hl with | [_], _ => rfl)
  have FIL := fun_mk (st := sLineInit) lIL cIL kIL
  have FCL := fun_mk (st := sLineCall) lCL cCL kCL
  have bIL := FIL.binds (ps := ["self", "slope", "extra"]) fun _ _ _ _ _ _ us hl => match us, hl with | [_, _, _], _ => rfl
  have bCL := FCL.binds (ps := ["self", "late"]) fun _ _ _ _ _ _ us hl => match us, hl with | [_, _], _ => rfl
  have FIT := fun_mk (st := sTableInit) lIT cIT kIT
  have FCT := fun_mk (st := sTableCall) lCT cCT kCT
  have bCT := FCT.binds (ps := ["self", "late"]) fun _ _ _ _ _ _ us hl => match us, hl with | [_, _], _ => rfl
  have FIS := fun_mk (st := sLessInit) lIS cIS kIS
  have FCS := fun_mk (st := sLessCall) lCS cCS kCS
  have bIS := FIS.binds (ps := ["self", "one", "other"]) fun _ _ _ _ _ _ us hl => match us, hl with | [_, _, _], _ => rfl
  have bCS := FCS.binds (ps := ["self", "late"]) fun _ _ _ _ _ _ us hl => match us, hl with | [_, _], _ => rfl
  have FIG := fun_mk (st := sGrtInit) lIG cIG kIG
  have FCG := fun_mk (st := sGrtCall) lCG cCG kCG
  have bIG := FIG.binds (ps := ["self", "one", "other"]) fun _ _ _ _ _ _ us hl => match us, hl with | [_, _, _], _ => rfl
  have bCG := FCG.binds (ps := ["self", "late"]) fun _ _ _ _ _ _ us hl => match us, hl with | [_, _], _ => rfl
  have FA := fun_mk (st := sAnd) lA cA kA
  have bbA := FA.binds (ps := ["self", "other"]) fun _ _ _ _ _ _ us hl => match us, hl with | [_, _], _ => rfl
  have FO := fun_mk (st := sOr) lO cO kO
  have bbO := FO.binds (ps := ["self", "other"]) fun _ _ _ _ _ _ us hl => match us, hl with | [_, _], _ => rfl
  have DT := fund_of (st := sTableInit) lIT cIT kIT nT
  obtain ⟨vT, rT, bIT⟩ := tbl_binds DT
  obtain ⟨_, kbT⟩ := tbl_kbinds DT
  have DK := fund_of (st := sLeastSlope) lK cK kK nK
  obtain ⟨vK, rK, bK⟩ := slope_binds DK
  obtain ⟨_, kbK⟩ := slope_kbinds DK
  have Ca : Calls K c fCL fCT fCS fCG _ _ _ _ := ⟨⟨acL, icL, fiL⟩, FCL, bCL, ⟨acT, icT, fiT⟩, FCT, bCT, ⟨acS, icS, fiS⟩, FCS, bCS, ⟨acG, icG, fiG⟩, FCG, bCG⟩
  have Ap : Apart K c := ⟨suLT, suLS, suLG, suTL, suTS, suTG, suSL, suST, suSG, suGL, suGT, suGS⟩
  have OA : OpAll K c fA .BitAnd := ⟨ipA, op_a sfL meAL reAL, op_a sfT meAT reAT, op_a sfS meAS reAS, op_a sfG meAG reAG⟩
  have OO : OpAll K c fO .BitOr := ⟨ipO, op_o sfL meOL reOL, op_o sfT meOT reOT, op_o sfS meOS reOS, op_o sfG meOG reOG⟩
  refine ⟨PySem.W.fnOf "law" "law" (defArgs sLaw) (defBody sLaw) (defScope sLaw) .none kV32 dc32 pm32 an32 cd32 ct32, fun s u => .of_eq rfl, fun base _ _ => ?_⟩
  have R1 := ok_range (P := P) (w := w) (base := base) B D0
  have P1 := ok_places (P := P) (w := w) (base := base) Z R1 D1
  have A1 := ok_late (P := P) (w := w) (base := base) Z R1 D2
  have Q1 := ok_nl1 (P := P) (w := w) (base := base) B D5
  have S1 := ok_asc (P := P) (w := w) (base := base) B D6
  have RU := rule_ok (P := P) (w := w) (base := base) (c := c) B T Q1 Ca 5
  have LI := ok_limits (P := P) (w := w) (base := base) B RU D3
  have TA := ok_table (P := P) (w := w) (base := base) B RU D4
  have LN := ok_lineLimit (P := P) (w := w) (base := base) B D9
  have NR := ok_needReach (P := P) (w := w) (base := base) U D10
  have LE := ok_leastExtra (P := P) (w := w) (base := base) B Z R1 P1 A1 NR LN D11
  have LS := ok_leastSlope (P := P) (w := w) (base := base) B Z P1 A1 NR LN (fun_of DK)
  have LV := ok_leastLevel (P := P) (w := w) (base := base) B Z U A1 TA D7
  have HL := ok_hopeless (P := P) (w := w) (base := base) B Z A1 LI D8
  have IS := ok_isint (P := P) (w := w) (base := base) B D20
  have IH := ok_isintH (P := P) (w := w) (base := base) B D20
  have PR := ok_price (P := P) (w := w) (base := base) B D19 6
  have WL := ok_lawLimits (P := P) (w := w) (base := base) B PR D21
  have WV := ok_lawLevels (P := P) (w := w) (base := base) B PR D22
  have RE' := ok_reached (P := P) (w := w) (base := base) B D23
  have LO := ok_leastOf (P := P) (w := w) (base := base) B U I LV IS IH D24
  have HO' := ok_hopelessOf (P := P) (w := w) (base := base) HL IS D25
  have LH := ok_levelHolds (P := P) (w := w) (base := base) LO HO' D26
  have XO := ok_extraOf (P := P) (w := w) (base := base) B U I LE IS IH RE' D27
  have SO := ok_slopeOf (P := P) (w := w) (base := base) B U I ⟨_, _, _, PySem.W.mg_of X G aK, kK, LS, rK, bK, kbK⟩ IS IH RE' D28
  have BX := ok_box (P := P) (w := w) (base := base) B D12
  have DR := ok_draw (P := P) (w := w) (base := base) B D13
  have WI := ok_wide (P := P) (w := w) (base := base) B DR D14
  have LL := ok_lawLine (P := P) (w := w) (base := base) DR WI D15
  have LT := ok_lawTable (P := P) (w := w) (base := base) B DR WI D16
  have MO := ok_lawModel (P := P) (w := w) (base := base) B DR LL LT D17
  have DY := ok_days (P := P) (w := w) (base := base) B DR WI D29
  have SE := ok_seats (P := P) (w := w) (base := base) DR D30
  have KL := (⟨_, _, ⟨mkL, aiL, iiL, kcL⟩, ok_lineInit FIL T, bIL⟩ : MkI P w K mg base c.line 1 ["self", "slope", "extra"] (spLineInit c))
  have KS := (⟨_, _, ⟨mkS, aiS, iiS, kcS⟩, ok_lessInit FIS T, bIS⟩ : MkI P w K mg base c.less 1 ["self", "one", "other"] (spCombInit c.less))
  have KG := (⟨_, _, ⟨mkG, aiG, iiG, kcG⟩, ok_grtInit FIG T, bIG⟩ : MkI P w K mg base c.grt 1 ["self", "one", "other"] (spCombInit c.grt))
  have MK := (⟨KL, KS, KG, ⟨_, _, _, ⟨mkT, aiT, iiT, kcT⟩, ok_tableInit B FIT T S1, rT, bIT, kbT⟩, ⟨_, _, OA, ok_and T KS FA, bbA⟩, ⟨_, _, OO, ok_or T KG FO, bbO⟩, Ap⟩ : Mks P w K mg base c)
  have BU := ok_built (P := P) (w := w) (base := base) B T MK D18 6
  have HH := ok_lineHolds (P := P) (w := w) (base := base) DR LL SE DY RE' XO SO D31
  exact ok_law B BX DR MO LT BU WL WV DY LH HH D32.2.1
/-- the law row's walk -/
theorem walk {l : PySem.W.OpenLaw} {q : Program} {loose : List Str} {XP : (Str → Option Value) → Heap → Prop} {YP : World → Heap → Prop} {d : DefRec} {K : Params → PySem.W.Frag} (hn : l.most = some 63) (hdf : d.params.defaults = [])
    (hY : ∀ (w : World) (h : Heap), YP w h → (K w.params).In h)
    (F : ∀ (w : World) (mg : Str → Option Value) (fa : Addr) (h : Heap), (K w.params).In h → h.Ns mainGlobals mg → mg d.name = some (.ref fa) →
      ∃ fd : FuncData, (∀ (s : Shared) (u : Value), BindsTo s fd ⟨[u], []⟩ [("_law_script", u)]) ∧ ∀ base : Heap, (K w.params).In base → base.Ns mainGlobals mg → FnOk l.prog w (K w.params) mg base CX0 12 fa fd ["_law_script"] (spLaw (K w.params))) :
    PySem.W.WalkO q loose XP YP l.row.toRowW d [] (fun f vs => PySem.call f vs) :=
  L2.walk_of (n := 63) (k := 12) (x := "_law_script") (CX := fun _ => CX0) (sp := fun w => spLaw (K w.params)) hn (by decide) hdf ⟨rfl, by decide, by decide⟩ hY F (fun _ _ a ns hl _ hS => ⟨a, ns, rfl, hS, hl, fun _ => rfl⟩) fun _ _ _ _ _ z => z
end Lr
open PySem PySem.W PyProof.Rows
set_option maxRecDepth 100000 in
set_option maxHeartbeats 0 in
theorem PySem.Challenge.cw_latereach_k05_whole_least_numbers_holds : PySem.Challenge.rw_latereach_k05_whole_least_numbers.Holds := by
  refine Lr.hd (by
  k_fill
  refine Lr.walk (l := PySem.Challenge.rw_latereach_k05_whole_least_numbers) rfl rfl (fun w h Y => PySem.W.kIn_of Y) ?F
  case F =>
    intro w mg fa h KX G hmg
    refine' Lr.all_mk (P := PySem.Challenge.rw_latereach_k05_whole_least_numbers.prog) (w := w) KX G hmg ?a0 ?l0 ?c0 ?k0 ?a1 ?l1 ?c1 ?k1 ?a2 ?l2 ?c2 ?k2 ?a3 ?l3 ?c3 ?k3 ?a4 ?l4 ?c4 ?k4 ?a5 ?l5 ?c5 ?k5 ?a6 ?l6 ?c6 ?k6 ?a7 ?l7 ?c7 ?k7 ?a8 ?l8 ?c8 ?k8 ?a9 ?l9 ?c9 ?k9 ?a10 ?l10 ?c10 ?k10 ?a11 ?l11 ?c11 ?k11 ?a12 ?l12 ?c12 ?k12 ?a13 ?l13 ?c13 ?k13 ?a14 ?l14 ?c14 ?k14 ?a15 ?l15 ?c15 ?k15 ?a16 ?l16 ?c16 ?k16 ?a17 ?l17 ?c17 ?k17 ?a18 ?l18 ?c18 ?k18 ?a19 ?l19 ?c19 ?k19 ?a20 ?l20 ?c20 ?k20 ?a21 ?l21 ?c21 ?k21 ?a22 ?l22 ?c22 ?k22 ?a23 ?l23 ?c23 ?k23 ?a24 ?l24 ?c24 ?k24 ?a25 ?l25 ?c25 ?k25 ?a26 ?l26 ?c26 ?k26 ?a27 ?l27 ?c27 ?k27 ?a28 ?l28 ?c28 ?k28 ?a29 ?l29 ?c29 ?k29 ?a30 ?l30 ?c30 ?k30 ?a31 ?l31 ?c31 ?k31 ?a32 ?l32 ?c32 ?k32 ?aK ?lK ?cK ?kK ?nK ?z1 ?z2 ?z3 ?b0 ?b1 ?b2 ?b3 ?b4 ?b5 ?b6 ?b7 ?b8 ?b9 ?b10 ?gL ?pgL ?hdL ?poL ?saL ?mkL ?kcL ?n0L ?n1L ?aiL ?iiL ?lIL ?cIL ?kIL ?acL ?icL ?fiL ?lCL ?cCL ?kCL ?gT ?pgT ?hdT ?poT ?saT ?mkT ?kcT ?n0T ?n1T ?aiT ?iiT ?lIT ?cIT ?kIT ?nT ?acT ?icT ?fiT ?lCT ?cCT ?kCT ?gS ?pgS ?hdS ?poS ?saS ?mkS ?kcS ?n0S ?n1S ?aiS ?iiS ?lIS ?cIS ?kIS ?acS ?icS ?fiS ?lCS ?cCS ?kCS ?gG ?pgG ?hdG ?poG ?saG ?mkG ?kcG ?n0G ?n1G ?aiG ?iiG ?lIG ?cIG ?kIG ?acG ?icG ?fiG ?lCG ?cCG ?kCG ?meAL ?reAL ?meAT ?reAT ?meAS ?reAS ?meAG ?reAG ?ipA ?lA ?cA ?kA ?meOL ?reOL ?meOT ?reOT ?meOS ?reOS ?meOG ?reOG ?ipO ?lO ?cO ?kO ?sfL ?sfT ?sfS ?sfG ?suLT ?suLS ?suLG ?suTL ?suTS ?suTG ?suSL ?suST ?suSG ?suGL ?suGT ?suGS ?gE ?gR ?xE ?rE ?saE ?naE ?iE ?tE ?kE ?beE ?veE ?tyE ?owE ?suE ?opE ?lE ?cE ?ldE ?v2E ?flE ?lcE ?mnE ?hgaE ?hgtE ?hdE ?haE ?hnE ?htE ?hmE ?ktE ?icE ?ssE
    (case a0 => k_is)
    (case l0 => k_is)
    (case c0 => k_is)
    (case k0 => k_is)
    (case a1 => k_is)
    (case l1 => k_is)
    (case c1 => k_is)
    (case k1 => k_is)
    (case a2 => k_is)
    (case l2 => k_is)
    (case c2 => k_is)
    (case k2 => k_is)
    (case a3 => k_is)
    (case l3 => k_is)
    (case c3 => k_is)
    (case k3 => k_is)
    (case a4 => k_is)
    (case l4 => k_is)
    (case c4 => k_is)
    (case k4 => k_is)
    (case a5 => k_is)
    (case l5 => k_is)
    (case c5 => k_is)
    (case k5 => k_is)
    (case a6 => k_is)
    (case l6 => k_is)
    (case c6 => k_is)
    (case k6 => k_is)
    (case a7 => k_is)
    (case l7 => k_is)
    (case c7 => k_is)
    (case k7 => k_is)
    (case a8 => k_is)
    (case l8 => k_is)
    (case c8 => k_is)
    (case k8 => k_is)
    (case a9 => k_is)
    (case l9 => k_is)
    (case c9 => k_is)
    (case k9 => k_is)
    (case a10 => k_is)
    (case l10 => k_is)
    (case c10 => k_is)
    (case k10 => k_is)
    (case a11 => k_is)
    (case l11 => k_is)
    (case c11 => k_is)
    (case k11 => k_is)
    (case a12 => k_is)
    (case l12 => k_is)
    (case c12 => k_is)
    (case k12 => k_is)
    (case a13 => k_is)
    (case l13 => k_is)
    (case c13 => k_is)
    (case k13 => k_is)
    (case a14 => k_is)
    (case l14 => k_is)
    (case c14 => k_is)
    (case k14 => k_is)
    (case a15 => k_is)
    (case l15 => k_is)
    (case c15 => k_is)
    (case k15 => k_is)
    (case a16 => k_is)
    (case l16 => k_is)
    (case c16 => k_is)
    (case k16 => k_is)
    (case a17 => k_is)
    (case l17 => k_is)
    (case c17 => k_is)
    (case k17 => k_is)
    (case a18 => k_is)
    (case l18 => k_is)
    (case c18 => k_is)
    (case k18 => k_is)
    (case a19 => k_is)
    (case l19 => k_is)
    (case c19 => k_is)
    (case k19 => k_is)
    (case a20 => k_is)
    (case l20 => k_is)
    (case c20 => k_is)
    (case k20 => k_is)
    (case a21 => k_is)
    (case l21 => k_is)
    (case c21 => k_is)
    (case k21 => k_is)
    (case a22 => k_is)
    (case l22 => k_is)
    (case c22 => k_is)
    (case k22 => k_is)
    (case a23 => k_is)
    (case l23 => k_is)
    (case c23 => k_is)
    (case k23 => k_is)
    (case a24 => k_is)
    (case l24 => k_is)
    (case c24 => k_is)
    (case k24 => k_is)
    (case a25 => k_is)
    (case l25 => k_is)
    (case c25 => k_is)
    (case k25 => k_is)
    (case a26 => k_is)
    (case l26 => k_is)
    (case c26 => k_is)
    (case k26 => k_is)
    (case a27 => k_is)
    (case l27 => k_is)
    (case c27 => k_is)
    (case k27 => k_is)
    (case a28 => k_is)
    (case l28 => k_is)
    (case c28 => k_is)
    (case k28 => k_is)
    (case a29 => k_is)
    (case l29 => k_is)
    (case c29 => k_is)
    (case k29 => k_is)
    (case a30 => k_is)
    (case l30 => k_is)
    (case c30 => k_is)
    (case k30 => k_is)
    (case a31 => k_is)
    (case l31 => k_is)
    (case c31 => k_is)
    (case k31 => k_is)
    (case a32 => k_is)
    (case l32 => k_is)
    (case c32 => k_is)
    (case k32 => k_is)
    (case aK => k_is)
    (case lK => k_is)
    (case cK => k_is)
    (case kK => k_is)
    (case nK => k_is)
    (case z1 => k_is)
    (case z2 => k_is)
    (case z3 => k_is)
    (case b0 => k_is)
    (case b1 => k_is)
    (case b2 => k_is)
    (case b3 => k_is)
    (case b4 => k_is)
    (case b5 => k_is)
    (case b6 => k_is)
    (case b7 => k_is)
    (case b8 => k_is)
    (case b9 => k_is)
    (case b10 => k_is)
    (case gL => k_is)
    (case pgL => k_is)
    (case hdL => k_is)
    (case poL => k_is)
    (case saL => k_is)
    (case mkL => k_is)
    (case kcL => k_is)
    (case n0L => k_is)
    (case n1L => k_is)
    (case aiL => k_is)
    (case iiL => k_is)
    (case lIL => k_is)
    (case cIL => k_is)
    (case kIL => k_is)
    (case acL => k_is)
    (case icL => k_is)
    (case fiL => k_is)
    (case lCL => k_is)
    (case cCL => k_is)
    (case kCL => k_is)
    (case gT => k_is)
    (case pgT => k_is)
    (case hdT => k_is)
    (case poT => k_is)
    (case saT => k_is)
    (case mkT => k_is)
    (case kcT => k_is)
    (case n0T => k_is)
    (case n1T => k_is)
    (case aiT => k_is)
    (case iiT => k_is)
    (case lIT => k_is)
    (case cIT => k_is)
    (case kIT => k_is)
    (case nT => k_is)
    (case acT => k_is)
    (case icT => k_is)
    (case fiT => k_is)
    (case lCT => k_is)
    (case cCT => k_is)
    (case kCT => k_is)
    (case gS => k_is)
    (case pgS => k_is)
    (case hdS => k_is)
    (case poS => k_is)
    (case saS => k_is)
    (case mkS => k_is)
    (case kcS => k_is)
    (case n0S => k_is)
    (case n1S => k_is)
    (case aiS => k_is)
    (case iiS => k_is)
    (case lIS => k_is)
    (case cIS => k_is)
    (case kIS => k_is)
    (case acS => k_is)
    (case icS => k_is)
    (case fiS => k_is)
    (case lCS => k_is)
    (case cCS => k_is)
    (case kCS => k_is)
    (case gG => k_is)
    (case pgG => k_is)
    (case hdG => k_is)
    (case poG => k_is)
    (case saG => k_is)
    (case mkG => k_is)
    (case kcG => k_is)
    (case n0G => k_is)
    (case n1G => k_is)
    (case aiG => k_is)
    (case iiG => k_is)
    (case lIG => k_is)
    (case cIG => k_is)
    (case kIG => k_is)
    (case acG => k_is)
    (case icG => k_is)
    (case fiG => k_is)
    (case lCG => k_is)
    (case cCG => k_is)
    (case kCG => k_is)
    (case meAL => k_is)
    (case reAL => k_is)
    (case meAT => k_is)
    (case reAT => k_is)
    (case meAS => k_is)
    (case reAS => k_is)
    (case meAG => k_is)
    (case reAG => k_is)
    (case ipA => k_is)
    (case lA => k_is)
    (case cA => k_is)
    (case kA => k_is)
    (case meOL => k_is)
    (case reOL => k_is)
    (case meOT => k_is)
    (case reOT => k_is)
    (case meOS => k_is)
    (case reOS => k_is)
    (case meOG => k_is)
    (case reOG => k_is)
    (case ipO => k_is)
    (case lO => k_is)
    (case cO => k_is)
    (case kO => k_is)
    (case sfL => k_is)
    (case sfT => k_is)
    (case sfS => k_is)
    (case sfG => k_is)
    (case suLT => k_is)
    (case suLS => k_is)
    (case suLG => k_is)
    (case suTL => k_is)
    (case suTS => k_is)
    (case suTG => k_is)
    (case suSL => k_is)
    (case suST => k_is)
    (case suSG => k_is)
    (case suGL => k_is)
    (case suGT => k_is)
    (case suGS => k_is)
    (case gE => k_is)
    (case gR => k_is)
    (case xE => k_is)
    (case rE => decide +kernel)
    (case saE => k_is)
    (case naE => k_is)
    (case iE => k_is)
    (case tE => k_is)
    (case kE => k_is)
    (case beE => k_is)
    (case veE => k_is)
    (case tyE => k_is)
    (case owE => k_is)
    (case suE => ks_is)
    (case opE => k_is)
    (case lE => k_is)
    (case cE => k_is)
    (case ldE => k_is)
    (case v2E => rfl)
    (case flE => decide +kernel)
    (case lcE => k_is)
    (case mnE => decide +kernel)
    (case hgaE => k_is)
    (case hgtE => k_is)
    (case hdE => k_is)
    (case haE => k_is)
    (case hnE => k_is)
    (case htE => k_is)
    (case hmE => k_is)
    (case ktE => kit_is)
    (case icE => k_is)
    (case ssE => first | rfl | k_is))
