/- The reference's check of a Spec, the spaces that are too large. Conditions: the case's. -/
import Derived.Test.YthddjdainglhcaaGreatDoorCheckA
import Derived.Deep.RegionWith
namespace Go.Ex.KW
open Go Go.RowKit Go.Proofs
set_option maxHeartbeats 400000 in
theorem ref_largeA (L W D : Int) (w : World) (h1 : 1 ≤ L) (h2 : L ≤ 120) (h3 : 2 ≤ W) (h4 : W ≤ 24) (h5 : -120 ≤ D) (h6 : D ≤ 120) (hf : fundB D = true) (hD : ¬D = 0) (hD1 : (D == 1) = false) (hl : (L % D != 0) = false) (hn : D ≤ 0) (hw : (W % 2 == 0) = false) (hp : 512 < psiT L * (W - 1)) :
    Calls Tryz.prog 14 #[.agg #[.int .i64 L, .int .i64 W, .int .i64 D]] w fun e w' => e = .returned (.int .i64 7) ∧ RowKit.Below w.heap.size w w' := by
  have hi : intEq D 1 = false := by
    cases hq : intEq D 1
    · rfl
    · rw [intEq_iff.1 hq] at hD1; cases hD1
  have HC := Lib.hid (fun w => call31 h5 h6 w)
  rw [hf, hi] at HC
  clear hf hi
  have hD2 : (D != 1) = true := by rw [bne, hD1]; rfl
  have hps := psi_bound h1 h2
  have HP := Lib.hid (fun w => call32 h1 h2 w)
  generalize psiT L = s at *
  obtain ⟨hs1, hs2⟩ := hps
  have hm0 : 0 ≤ s * (W - 1) := Int.mul_nonneg (by omega) (by omega)
  have hm1 : s * (W - 1) ≤ 300 * 23 := Int.mul_le_mul hs2 (by omega) (by omega) (by omega)
  have q1 : IntKind.i64.wrap (W - 1) = W - 1 := IntWalk.i64_in _ (by omega)
  have q2 : IntKind.i64.wrap (s * (W - 1)) = s * (W - 1) := IntWalk.i64_in _ (by omega)
  have hd : decide (0 < D) = false := decide_eq_false (by omega)
  go_enter Tryz.func14, Tryz.ntmps14
  go_wp2_with fail
  refine (HC.out _).mono ?_
  rintro e w1 ⟨rfl, hb⟩
  have S1 := SpecAt.box hb; clear hb
  have e0 := S1.c0
  have e1 := S1.c1
  have e2 := S1.c2
  go_wp2
  go_region_with (go_at_call 32; refine (HP.out _).mono ?_; rintro e w2 ⟨rfl, hb2⟩; have S2 := S1.later (w2 := w2) ⟨hb2.os, hb2.tape, hb2.output, hb2.size, hb2.block⟩; have f1 := S2.c1)
  all_goals
    go_wp2
    go_ret
    exact ⟨rfl, ⟨S2.below.os, S2.below.tape, S2.below.output, S2.below.size, S2.below.block⟩⟩

set_option maxHeartbeats 400000 in
theorem ref_largeB1 (L W D : Int) (w : World) (h1 : 1 ≤ L) (h2 : L ≤ 120) (h3 : 2 ≤ W) (h4 : W ≤ 24) (h5 : -120 ≤ D) (h6 : D ≤ 120) (hD : ¬D = 0) (hD1 : (D == 1) = true) (hl : (L % D != 0) = false) (hn : 0 < D) (hw : (W % 2 == 0) = true) (hp : 512 < psiT L * (W - 1)) :
    Calls Tryz.prog 14 #[.agg #[.int .i64 L, .int .i64 W, .int .i64 D]] w fun e w' => e = .returned (.int .i64 7) ∧ RowKit.Below w.heap.size w w' := by
  have hD2 : (D != 1) = false := by rw [bne, hD1]; rfl
  have hps := psi_bound h1 h2
  have HP := Lib.hid (fun w => call32 h1 h2 w)
  generalize psiT L = s at *
  obtain ⟨hs1, hs2⟩ := hps
  have hm0 : 0 ≤ s * (W - 1) := Int.mul_nonneg (by omega) (by omega)
  have hm1 : s * (W - 1) ≤ 300 * 23 := Int.mul_le_mul hs2 (by omega) (by omega) (by omega)
  have q1 : IntKind.i64.wrap (W - 1) = W - 1 := IntWalk.i64_in _ (by omega)
  have q2 : IntKind.i64.wrap (s * (W - 1)) = s * (W - 1) := IntWalk.i64_in _ (by omega)
  have hd : decide (0 < D) = true := decide_eq_true (by omega)
  go_enter Tryz.func14, Tryz.ntmps14
  go_wp2
  go_region_with (go_at_call 32; refine (HP.out _).mono ?_; rintro e w2 ⟨rfl, hb2⟩; have S2 := SpecAt.box (w := w) (w1 := w2) ⟨hb2.os, hb2.tape, hb2.output, hb2.size, hb2.block⟩; have f1 := S2.c1)
  all_goals
    go_wp2
    go_ret
    exact ⟨rfl, ⟨S2.below.os, S2.below.tape, S2.below.output, S2.below.size, S2.below.block⟩⟩

set_option maxHeartbeats 400000 in
theorem ref_largeB (L W D : Int) (w : World) (h1 : 1 ≤ L) (h2 : L ≤ 120) (h3 : 2 ≤ W) (h4 : W ≤ 24) (h5 : -120 ≤ D) (h6 : D ≤ 120) (hf : fundB D = true) (hD : ¬D = 0) (hD1 : (D == 1) = false) (hl : (L % D != 0) = false) (hn : 0 < D) (hw : (W % 2 == 0) = true) (hp : 512 < psiT L * (W - 1)) :
    Calls Tryz.prog 14 #[.agg #[.int .i64 L, .int .i64 W, .int .i64 D]] w fun e w' => e = .returned (.int .i64 7) ∧ RowKit.Below w.heap.size w w' := by
  have hi : intEq D 1 = false := by
    cases hq : intEq D 1
    · rfl
    · rw [intEq_iff.1 hq] at hD1; cases hD1
  have HC := Lib.hid (fun w => call31 h5 h6 w)
  rw [hf, hi] at HC
  clear hf hi
  have hD2 : (D != 1) = true := by rw [bne, hD1]; rfl
  have hps := psi_bound h1 h2
  have HP := Lib.hid (fun w => call32 h1 h2 w)
  generalize psiT L = s at *
  obtain ⟨hs1, hs2⟩ := hps
  have hm0 : 0 ≤ s * (W - 1) := Int.mul_nonneg (by omega) (by omega)
  have hm1 : s * (W - 1) ≤ 300 * 23 := Int.mul_le_mul hs2 (by omega) (by omega) (by omega)
  have q1 : IntKind.i64.wrap (W - 1) = W - 1 := IntWalk.i64_in _ (by omega)
  have q2 : IntKind.i64.wrap (s * (W - 1)) = s * (W - 1) := IntWalk.i64_in _ (by omega)
  have hd : decide (0 < D) = true := decide_eq_true (by omega)
  go_enter Tryz.func14, Tryz.ntmps14
  go_wp2_with fail
  refine (HC.out _).mono ?_
  rintro e w1 ⟨rfl, hb⟩
  have S1 := SpecAt.box hb; clear hb
  have e0 := S1.c0
  have e1 := S1.c1
  have e2 := S1.c2
  go_wp2
  go_region_with (go_at_call 32; refine (HP.out _).mono ?_; rintro e w2 ⟨rfl, hb2⟩; have S2 := S1.later (w2 := w2) ⟨hb2.os, hb2.tape, hb2.output, hb2.size, hb2.block⟩; have f1 := S2.c1)
  all_goals
    go_wp2
    go_ret
    exact ⟨rfl, ⟨S2.below.os, S2.below.tape, S2.below.output, S2.below.size, S2.below.block⟩⟩

end Go.Ex.KW

