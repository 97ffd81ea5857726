/- The reference's check of a Spec, the early cases. Conditions: the case's. -/
import Derived.Test.YthddjdainglhcaaGreatDoorCheckA
import Derived.Deep.RegionWith
namespace Go.Ex.KW
open Go Go.RowKit Go.Proofs
set_option maxHeartbeats 400000 in
theorem ref_out (L W D : Int) (w : World) (h : L < 1 ∨ 120 < L ∨ W < 2 ∨ 24 < W ∨ D < -120 ∨ 120 < D) :
    Calls Tryz.prog 14 #[.agg #[.int .i64 L, .int .i64 W, .int .i64 D]] w fun e w' => e = .returned (.int .i64 2) ∧ RowKit.Below w.heap.size w w' := by
  by_cases h1 : L < 1
  · clear h
    go_enter Tryz.func14, Tryz.ntmps14
    go_wp2
    go_ret
    exact ⟨rfl, by first | exact (RowKit.Below.refl _ _).alloc (Nat.le_refl _) _ | trace_state⟩
  by_cases h2 : 120 < L
  · clear h
    go_enter Tryz.func14, Tryz.ntmps14
    go_wp2
    go_ret
    exact ⟨rfl, by first | exact (RowKit.Below.refl _ _).alloc (Nat.le_refl _) _ | trace_state⟩
  have h1' : 1 ≤ L := by omega
  have h2' : L ≤ 120 := by omega
  by_cases h3 : W < 2
  · clear h
    go_enter Tryz.func14, Tryz.ntmps14
    go_wp2
    go_ret
    exact ⟨rfl, by first | exact (RowKit.Below.refl _ _).alloc (Nat.le_refl _) _ | trace_state⟩
  by_cases h4 : 24 < W
  · clear h
    have h3' : 2 ≤ W := by omega
    go_enter Tryz.func14, Tryz.ntmps14
    go_wp2
    go_ret
    exact ⟨rfl, by first | exact (RowKit.Below.refl _ _).alloc (Nat.le_refl _) _ | trace_state⟩
  have h3' : 2 ≤ W := by omega
  have h4' : W ≤ 24 := by omega
  by_cases h5 : D < -120
  · clear h
    go_enter Tryz.func14, Tryz.ntmps14
    go_wp2
    go_ret
    exact ⟨rfl, by first | exact (RowKit.Below.refl _ _).alloc (Nat.le_refl _) _ | trace_state⟩
  have h5' : -120 ≤ D := by omega
  have h6 : 120 < D := by omega
  clear h
  go_enter Tryz.func14, Tryz.ntmps14
  go_wp2
  go_ret
  exact ⟨rfl, by first | exact (RowKit.Below.refl _ _).alloc (Nat.le_refl _) _ | trace_state⟩

set_option maxHeartbeats 400000 in
theorem ref_disc (L W D : Int) (w : World) (h1 : 1 ≤ L) (h2 : L ≤ 120) (h3 : 2 ≤ W) (h4 : W ≤ 24) (h5 : -120 ≤ D) (h6 : D ≤ 120) (hf : fundB D = false) :
    Calls Tryz.prog 14 #[.agg #[.int .i64 L, .int .i64 W, .int .i64 D]] w fun e w' => e = .returned (.int .i64 15) ∧ RowKit.Below w.heap.size w w' := by
  have hD1 : D ≠ 1 := fun h => by subst h; exact absurd hf (by decide)
  have HC := Lib.hid (fun w => call31 h5 h6 w)
  rw [hf] at HC
  clear hf
  have hn : (D == 1) = false := beq_false_of_ne hD1
  have hn' : (D != 1) = true := by rw [bne, hn]; rfl
  clear hD1
  go_enter Tryz.func14, Tryz.ntmps14
  go_wp2_with fail
  refine (HC.out _).mono ?_
  rintro e w1 ⟨rfl, hb⟩
  have S1 := SpecAt.box hb; clear hb
  go_wp2
  go_ret
  exact ⟨rfl, S1.below⟩

set_option maxHeartbeats 400000 in
theorem ref_level1 (L W D : Int) (w : World) (h1 : 1 ≤ L) (h2 : L ≤ 120) (h3 : 2 ≤ W) (h4 : W ≤ 24) (h5 : -120 ≤ D) (h6 : D ≤ 120) (hD : ¬D = 0) (hD1 : (D == 1) = true) (hl : (L % D != 0) = true) :
    Calls Tryz.prog 14 #[.agg #[.int .i64 L, .int .i64 W, .int .i64 D]] w fun e w' => e = .returned (.int .i64 14) ∧ RowKit.Below w.heap.size w w' := by
  have hD2 : (D != 1) = false := by rw [bne, hD1]; rfl
  go_enter Tryz.func14, Tryz.ntmps14
  go_wp2
  go_ret
  exact ⟨rfl, (RowKit.Below.refl _ _).alloc (Nat.le_refl _) _⟩

set_option maxHeartbeats 400000 in
theorem ref_level (L W D : Int) (w : World) (h1 : 1 ≤ L) (h2 : L ≤ 120) (h3 : 2 ≤ W) (h4 : W ≤ 24) (h5 : -120 ≤ D) (h6 : D ≤ 120) (hf : fundB D = true) (hD : ¬D = 0) (hD1 : (D == 1) = false) (hl : (L % D != 0) = true) :
    Calls Tryz.prog 14 #[.agg #[.int .i64 L, .int .i64 W, .int .i64 D]] w fun e w' => e = .returned (.int .i64 14) ∧ RowKit.Below w.heap.size w w' := by
  have hi : intEq D 1 = false := by
    cases hq : intEq D 1
    · rfl
    · rw [intEq_iff.1 hq] at hD1; cases hD1
  have HC := Lib.hid (fun w => call31 h5 h6 w)
  rw [hf, hi] at HC
  clear hf hi
  have hD2 : (D != 1) = true := by rw [bne, hD1]; rfl
  go_enter Tryz.func14, Tryz.ntmps14
  go_wp2_with fail
  refine (HC.out _).mono ?_
  rintro e w1 ⟨rfl, hb⟩
  have S1 := SpecAt.box hb; clear hb
  have e0 := S1.c0
  have e1 := S1.c1
  have e2 := S1.c2
  go_wp2
  go_ret
  exact ⟨rfl, S1.below⟩

set_option maxHeartbeats 400000 in
theorem ref_parA (L W D : Int) (w : World) (h1 : 1 ≤ L) (h2 : L ≤ 120) (h3 : 2 ≤ W) (h4 : W ≤ 24) (h5 : -120 ≤ D) (h6 : D ≤ 120) (hf : fundB D = true) (hD : ¬D = 0) (hD1 : (D == 1) = false) (hl : (L % D != 0) = false) (hn : D ≤ 0) (hw : (W % 2 == 0) = true) :
    Calls Tryz.prog 14 #[.agg #[.int .i64 L, .int .i64 W, .int .i64 D]] w fun e w' => e = .returned (.int .i64 16) ∧ RowKit.Below w.heap.size w w' := by
  have hi : intEq D 1 = false := by
    cases hq : intEq D 1
    · rfl
    · rw [intEq_iff.1 hq] at hD1; cases hD1
  have HC := Lib.hid (fun w => call31 h5 h6 w)
  rw [hf, hi] at HC
  clear hf hi
  have hD2 : (D != 1) = true := by rw [bne, hD1]; rfl
  have hd : decide (0 < D) = false := decide_eq_false (by omega)
  go_enter Tryz.func14, Tryz.ntmps14
  go_wp2_with fail
  refine (HC.out _).mono ?_
  rintro e w1 ⟨rfl, hb⟩
  have S1 := SpecAt.box hb; clear hb
  have e0 := S1.c0
  have e1 := S1.c1
  have e2 := S1.c2
  go_wp2
  go_ret
  exact ⟨rfl, S1.below⟩

set_option maxHeartbeats 400000 in
theorem ref_parB1 (L W D : Int) (w : World) (h1 : 1 ≤ L) (h2 : L ≤ 120) (h3 : 2 ≤ W) (h4 : W ≤ 24) (h5 : -120 ≤ D) (h6 : D ≤ 120) (hD : ¬D = 0) (hD1 : (D == 1) = true) (hl : (L % D != 0) = false) (hn : 0 < D) (hw : (W % 2 == 0) = false) :
    Calls Tryz.prog 14 #[.agg #[.int .i64 L, .int .i64 W, .int .i64 D]] w fun e w' => e = .returned (.int .i64 16) ∧ RowKit.Below w.heap.size w w' := by
  have hD2 : (D != 1) = false := by rw [bne, hD1]; rfl
  have hd : decide (0 < D) = true := decide_eq_true (by omega)
  go_enter Tryz.func14, Tryz.ntmps14
  go_wp2
  go_ret
  exact ⟨rfl, (RowKit.Below.refl _ _).alloc (Nat.le_refl _) _⟩

set_option maxHeartbeats 400000 in
theorem ref_parB (L W D : Int) (w : World) (h1 : 1 ≤ L) (h2 : L ≤ 120) (h3 : 2 ≤ W) (h4 : W ≤ 24) (h5 : -120 ≤ D) (h6 : D ≤ 120) (hf : fundB D = true) (hD : ¬D = 0) (hD1 : (D == 1) = false) (hl : (L % D != 0) = false) (hn : 0 < D) (hw : (W % 2 == 0) = false) :
    Calls Tryz.prog 14 #[.agg #[.int .i64 L, .int .i64 W, .int .i64 D]] w fun e w' => e = .returned (.int .i64 16) ∧ RowKit.Below w.heap.size w w' := by
  have hi : intEq D 1 = false := by
    cases hq : intEq D 1
    · rfl
    · rw [intEq_iff.1 hq] at hD1; cases hD1
  have HC := Lib.hid (fun w => call31 h5 h6 w)
  rw [hf, hi] at HC
  clear hf hi
  have hD2 : (D != 1) = true := by rw [bne, hD1]; rfl
  have hd : decide (0 < D) = true := decide_eq_true (by omega)
  go_enter Tryz.func14, Tryz.ntmps14
  go_wp2_with fail
  refine (HC.out _).mono ?_
  rintro e w1 ⟨rfl, hb⟩
  have S1 := SpecAt.box hb; clear hb
  have e0 := S1.c0
  have e1 := S1.c1
  have e2 := S1.c2
  go_wp2
  go_ret
  exact ⟨rfl, S1.below⟩

end Go.Ex.KW

