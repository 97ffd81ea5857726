/- Both checks of a Spec return the same value, at every Spec. Conditions: none. -/
import Derived.Test.YthddjdainglhcaaGreatDoorSmall
import Derived.Test.YthddjdainglhcaaGreatDoorCheckA
import Derived.Test.YthddjdainglhcaaGreatDoorCheckB
import Derived.Test.YthddjdainglhcaaGreatDoorCheckC
import Derived.Test.YthddjdainglhcaaGreatDoorCheckD
namespace Go.Ex.KW
open Go Go.RowKit Go.Proofs

/-- the answer of both checks -/
def chkV (L W D : Int) : Int :=
  if L < 1 ∨ 120 < L ∨ W < 2 ∨ 24 < W ∨ D < -120 ∨ 120 < D then 2
  else if fundB D = false then 15
  else if L % D ≠ 0 then 14
  else if decide (D < 0) ≠ (W % 2 == 1) then 16
  else if 512 < psiT L * (W - 1) then 7
  else 0

theorem fund0 : fundB 0 = false := by decide
theorem chk_any (L W D : Int) (w : World) :
    Calls Tryz.prog 11 #[.agg #[.int .i64 L, .int .i64 W, .int .i64 D]] w fun e w' => e = .returned (.int .i64 (chkV L W D)) ∧ RowKit.Below w.heap.size w w' := by
  by_cases h : L < 1 ∨ 120 < L ∨ W < 2 ∨ 24 < W ∨ D < -120 ∨ 120 < D
  · rw [show chkV L W D = 2 by unfold chkV; rw [if_pos h]]
    exact chk_out L W D w h
  have h1 : 1 ≤ L := by omega
  have h2 : L ≤ 120 := by omega
  have h3 : 2 ≤ W := by omega
  have h4 : W ≤ 24 := by omega
  have h5 : -120 ≤ D := by omega
  have h6 : D ≤ 120 := by omega
  cases hf : fundB D with
  | false =>
    rw [show chkV L W D = 15 by unfold chkV; rw [if_neg h, if_pos hf]]
    exact chk_disc L W D w h1 h2 h3 h4 h5 h6 hf
  | true =>
    have hD : ¬ D = 0 := fun e => by subst e; rw [fund0] at hf; cases hf
    have hf' : ¬ fundB D = false := by rw [hf]; simp
    by_cases hl : L % D ≠ 0
    · rw [show chkV L W D = 14 by unfold chkV; rw [if_neg h, if_neg hf', if_pos hl]]
      exact chk_level L W D w h1 h2 h3 h4 h5 h6 hf hD (by simpa using hl)
    have hl' : (L % D != 0) = false := by simpa using hl
    by_cases hp : decide (D < 0) ≠ (W % 2 == 1)
    · rw [show chkV L W D = 16 by unfold chkV; rw [if_neg h, if_neg hf', if_neg hl, if_pos hp]]
      by_cases hn : D < 0
      · exact chk_parA L W D w h1 h2 h3 h4 h5 h6 hf hD hl' hn (by cases hq : W % 2 == 1 <;> simp [hn, hq] at hp ⊢)
      · exact chk_parB L W D w h1 h2 h3 h4 h5 h6 hf hD hl' (by omega) (by cases hq : W % 2 == 1 <;> simp [hn, hq] at hp ⊢)
    by_cases hs : 512 < psiT L * (W - 1)
    · rw [show chkV L W D = 7 by unfold chkV; rw [if_neg h, if_neg hf', if_neg hl, if_neg hp, if_pos hs]]
      by_cases hn : D < 0
      · exact chk_largeA L W D w h1 h2 h3 h4 h5 h6 hf hD hl' hn (by cases hq : W % 2 == 1 <;> simp [hn, hq] at hp ⊢) hs
      · exact chk_largeB L W D w h1 h2 h3 h4 h5 h6 hf hD hl' (by omega) (by cases hq : W % 2 == 1 <;> simp [hn, hq] at hp ⊢) hs
    · rw [show chkV L W D = 0 by unfold chkV; rw [if_neg h, if_neg hf', if_neg hl, if_neg hp, if_neg hs]]
      by_cases hn : D < 0
      · exact chk_okA L W D w h1 h2 h3 h4 h5 h6 hf hD hl' hn (by cases hq : W % 2 == 1 <;> simp [hn, hq] at hp ⊢) (by omega)
      · exact chk_okB L W D w h1 h2 h3 h4 h5 h6 hf hD hl' (by omega) (by cases hq : W % 2 == 1 <;> simp [hn, hq] at hp ⊢) (by omega)
/-- what a Spec is that passes -/
theorem chk_zero {L W D : Int} (h : chkV L W D = 0) : 1 ≤ L ∧ L ≤ 120 ∧ -120 ≤ D ∧ D ≤ 120 ∧ D ≠ 0 := by
  unfold chkV at h
  split at h
  · cases h
  · split at h
    · cases h
    · rename_i h1 h2
      refine ⟨by omega, by omega, by omega, by omega, fun e => h2 ?_⟩
      subst e; exact fund0
end Go.Ex.KW

namespace Go.Ex.KW
open Go Go.RowKit Go.Proofs

theorem ref_any (L W D : Int) (w : World) :
    Calls Tryz.prog 14 #[.agg #[.int .i64 L, .int .i64 W, .int .i64 D]] w fun e w' => e = .returned (.int .i64 (chkV L W D)) ∧ RowKit.Below w.heap.size w w' := by
  by_cases h : L < 1 ∨ 120 < L ∨ W < 2 ∨ 24 < W ∨ D < -120 ∨ 120 < D
  · rw [show chkV L W D = 2 by unfold chkV; rw [if_pos h]]
    exact ref_out L W D w h
  have h1 : 1 ≤ L := by omega
  have h2 : L ≤ 120 := by omega
  have h3 : 2 ≤ W := by omega
  have h4 : W ≤ 24 := by omega
  have h5 : -120 ≤ D := by omega
  have h6 : D ≤ 120 := by omega
  cases hf : fundB D with
  | false =>
    rw [show chkV L W D = 15 by unfold chkV; rw [if_neg h, if_pos hf]]
    exact ref_disc L W D w h1 h2 h3 h4 h5 h6 hf
  | true =>
    have hD : ¬ D = 0 := fun e => by subst e; rw [fund0] at hf; cases hf
    have hf' : ¬ fundB D = false := by rw [hf]; simp
    have hev : (W % 2 == 0) = !(W % 2 == 1) := by
      rw [Bool.eq_iff_iff]; simp; omega
    by_cases hl : L % D ≠ 0
    · rw [show chkV L W D = 14 by unfold chkV; rw [if_neg h, if_neg hf', if_pos hl]]
      have hl2 : (L % D != 0) = true := by simpa using hl
      cases ho : D == 1 with
      | true => exact ref_level1 L W D w h1 h2 h3 h4 h5 h6 hD ho hl2
      | false => exact ref_level L W D w h1 h2 h3 h4 h5 h6 hf hD ho hl2
    have hl' : (L % D != 0) = false := by simpa using hl
    by_cases hp : decide (D < 0) ≠ (W % 2 == 1)
    · rw [show chkV L W D = 16 by unfold chkV; rw [if_neg h, if_neg hf', if_neg hl, if_pos hp]]
      by_cases hn : D < 0
      · have he : (W % 2 == 0) = true := by rw [hev]; cases hq : W % 2 == 1 <;> simp [hn, hq] at hp ⊢
        have ho : (D == 1) = false := beq_false_of_ne (by omega)
        exact ref_parA L W D w h1 h2 h3 h4 h5 h6 hf hD ho hl' (by omega) he
      · have he : (W % 2 == 0) = false := by rw [hev]; cases hq : W % 2 == 1 <;> simp [hn, hq] at hp ⊢
        cases ho : D == 1 with
        | true => exact ref_parB1 L W D w h1 h2 h3 h4 h5 h6 hD ho hl' (by omega) he
        | false => exact ref_parB L W D w h1 h2 h3 h4 h5 h6 hf hD ho hl' (by omega) he
    by_cases hs : 512 < psiT L * (W - 1)
    · rw [show chkV L W D = 7 by unfold chkV; rw [if_neg h, if_neg hf', if_neg hl, if_neg hp, if_pos hs]]
      by_cases hn : D < 0
      · have he : (W % 2 == 0) = false := by rw [hev]; cases hq : W % 2 == 1 <;> simp [hn, hq] at hp ⊢
        have ho : (D == 1) = false := beq_false_of_ne (by omega)
        exact ref_largeA L W D w h1 h2 h3 h4 h5 h6 hf hD ho hl' (by omega) he hs
      · have he : (W % 2 == 0) = true := by rw [hev]; cases hq : W % 2 == 1 <;> simp [hn, hq] at hp ⊢
        cases ho : D == 1 with
        | true => exact ref_largeB1 L W D w h1 h2 h3 h4 h5 h6 hD ho hl' (by omega) he hs
        | false => exact ref_largeB L W D w h1 h2 h3 h4 h5 h6 hf hD ho hl' (by omega) he hs
    · rw [show chkV L W D = 0 by unfold chkV; rw [if_neg h, if_neg hf', if_neg hl, if_neg hp, if_neg hs]]
      by_cases hn : D < 0
      · have he : (W % 2 == 0) = false := by rw [hev]; cases hq : W % 2 == 1 <;> simp [hn, hq] at hp ⊢
        have ho : (D == 1) = false := beq_false_of_ne (by omega)
        exact ref_okA L W D w h1 h2 h3 h4 h5 h6 hf hD ho hl' (by omega) he (by omega)
      · have he : (W % 2 == 0) = true := by rw [hev]; cases hq : W % 2 == 1 <;> simp [hn, hq] at hp ⊢
        cases ho : D == 1 with
        | true => exact ref_okB1 L W D w h1 h2 h3 h4 h5 h6 hD ho hl' (by omega) he (by omega)
        | false => exact ref_okB L W D w h1 h2 h3 h4 h5 h6 hf hD ho hl' (by omega) he (by omega)
end Go.Ex.KW

