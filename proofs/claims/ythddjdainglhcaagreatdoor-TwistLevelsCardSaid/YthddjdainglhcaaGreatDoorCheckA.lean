/- The program's check of a Spec, case by case. Conditions: the case's. -/
import Derived.Test.YthddjdainglhcaaGreatDoorSmall
import Derived.Deep.RegionWith
namespace Go.Ex.KW
open Go Go.RowKit Go.Proofs

set_option maxHeartbeats 400000 in
theorem chk_out (L W D : Int) (w : World) (h : L < 1 ∨ 120 < L ∨ W < 2 ∨ 24 < W ∨ D < -120 ∨ 120 < D) :
    Calls Tryz.prog 11 #[.agg #[.int .i64 L, .int .i64 W, .int .i64 D]] w fun e w' => e = .returned (.int .i64 2) ∧ RowKit.Below w.heap.size w w' := by
  by_cases h1 : L < 1
  · clear h
    go_enter Tryz.func11, Tryz.ntmps11
    go_wp2
    go_ret
    exact ⟨rfl, by first | exact (RowKit.Below.refl _ _).alloc (Nat.le_refl _) _ | trace_state⟩
  by_cases h2 : 120 < L
  · clear h
    go_enter Tryz.func11, Tryz.ntmps11
    go_wp2
    go_ret
    exact ⟨rfl, by first | exact (RowKit.Below.refl _ _).alloc (Nat.le_refl _) _ | trace_state⟩
  have h1' : 1 ≤ L := by omega
  have h2' : L ≤ 120 := by omega
  by_cases h3 : W < 2
  · clear h
    go_enter Tryz.func11, Tryz.ntmps11
    go_wp2
    go_ret
    exact ⟨rfl, by first | exact (RowKit.Below.refl _ _).alloc (Nat.le_refl _) _ | trace_state⟩
  by_cases h4 : 24 < W
  · clear h
    have h3' : 2 ≤ W := by omega
    go_enter Tryz.func11, Tryz.ntmps11
    go_wp2
    go_ret
    exact ⟨rfl, by first | exact (RowKit.Below.refl _ _).alloc (Nat.le_refl _) _ | trace_state⟩
  have h3' : 2 ≤ W := by omega
  have h4' : W ≤ 24 := by omega
  by_cases h5 : D < -120
  · clear h
    go_enter Tryz.func11, Tryz.ntmps11
    go_wp2
    go_ret
    exact ⟨rfl, by first | exact (RowKit.Below.refl _ _).alloc (Nat.le_refl _) _ | trace_state⟩
  have h5' : -120 ≤ D := by omega
  have h6 : 120 < D := by omega
  clear h
  go_enter Tryz.func11, Tryz.ntmps11
  go_wp2
  go_ret
  exact ⟨rfl, by first | exact (RowKit.Below.refl _ _).alloc (Nat.le_refl _) _ | trace_state⟩
end Go.Ex.KW

namespace Go.Ex.KW
open Go Go.RowKit Go.Proofs

theorem bcell {W w1 : World} (hb : RowKit.Below W.heap.size W w1) : (∀ b o, b < W.heap.size → w1.cell? ⟨b, o, none⟩ = W.cell? ⟨b, o, none⟩) ∧ (∀ b o, b < W.heap.size → w1.frozen? ⟨b, o, none⟩ = W.frozen? ⟨b, o, none⟩) :=
  ⟨fun b o h => hb.cell (p := ⟨b, o, none⟩) h, fun b o h => hb.frozen (p := ⟨b, o, none⟩) h⟩

set_option maxHeartbeats 400000 in
theorem chk_disc (L W D : Int) (w : World) (h1 : 1 ≤ L) (h2 : L ≤ 120) (h3 : 2 ≤ W) (h4 : W ≤ 24) (h5 : -120 ≤ D) (h6 : D ≤ 120) (hf : fundB D = false) :
    Calls Tryz.prog 11 #[.agg #[.int .i64 L, .int .i64 W, .int .i64 D]] w fun e w' => e = .returned (.int .i64 15) ∧ RowKit.Below w.heap.size w w' := by
  obtain ⟨a, f, z, hz, hc⟩ := call28 h5 h6
  rw [hf] at hz
  have HC := Lib.hid hc; clear hc hf
  by_cases h0 : z = 0
  · have hf1 : f ≠ 1 := fun h => by subst h; subst h0; simp at hz
    subst h0; clear hz
    have hn : (f == 1) = false := beq_false_of_ne hf1
    have hn' : (f != 1) = true := by rw [bne, hn]; rfl
    clear hf1
    go_enter Tryz.func11, Tryz.ntmps11
    go_wp2_with fail
    refine (HC.out _).mono ?_
    rintro e w' ⟨rfl, hb⟩
    go_wp2
    go_ret
    exact ⟨rfl, ((RowKit.Below.refl _ _).alloc (Nat.le_refl _) _).trans (hb.mono (by simp))⟩
  · have hn : (z == 0) = false := beq_false_of_ne h0
    have hn' : (z != 0) = true := by rw [bne, hn]; rfl
    clear h0 hz
    go_enter Tryz.func11, Tryz.ntmps11
    go_wp2_with fail
    refine (HC.out _).mono ?_
    rintro e w' ⟨rfl, hb⟩
    go_wp2
    go_ret
    exact ⟨rfl, ((RowKit.Below.refl _ _).alloc (Nat.le_refl _) _).trans (hb.mono (by simp))⟩

/-- the cells of a Spec in the block b -/
structure SpecAt (w w1 : World) (L W D : Int) : Prop where
  c0 : w1.cell? ⟨w.heap.size, 0, none⟩ = some (.int .i64 L)
  c1 : w1.cell? ⟨w.heap.size, 1, none⟩ = some (.int .i64 W)
  c2 : w1.cell? ⟨w.heap.size, 2, none⟩ = some (.int .i64 D)
  lt : w.heap.size < w1.heap.size
  below : RowKit.Below w.heap.size w w1
theorem SpecAt.box {w w1 : World} {L W D : Int} {t : TypeId} (hb : RowKit.Below (w.alloc (.cells #[.int .i64 L, .int .i64 W, .int .i64 D] t)).heap.size (w.alloc (.cells #[.int .i64 L, .int .i64 W, .int .i64 D] t)) w1) : SpecAt w w1 L W D := by
  have hs : (w.alloc (.cells #[.int .i64 L, .int .i64 W, .int .i64 D] t)).heap.size = w.heap.size + 1 := by unfold World.alloc; simp
  obtain ⟨hc, _⟩ := bcell hb
  rw [hs] at hc
  refine ⟨?_, ?_, ?_, ?_, ((RowKit.Below.refl _ _).alloc (Nat.le_refl _) _).trans (hb.mono (by rw [hs]; omega))⟩
  · rw [hc _ _ (by omega)]; exact (World.cell?_alloc_at _ _ _ _ rfl).trans rfl
  · rw [hc _ _ (by omega)]; exact (World.cell?_alloc_at _ _ _ _ rfl).trans rfl
  · rw [hc _ _ (by omega)]; exact (World.cell?_alloc_at _ _ _ _ rfl).trans rfl
  · have := hb.size; rw [hs] at this; omega
theorem SpecAt.later {w w1 w2 : World} {L W D : Int} (h : SpecAt w w1 L W D) (hb : RowKit.Below w1.heap.size w1 w2) : SpecAt w w2 L W D := by
  obtain ⟨hc, _⟩ := bcell hb
  exact ⟨(hc _ _ h.lt).trans h.c0, (hc _ _ h.lt).trans h.c1, (hc _ _ h.lt).trans h.c2, Nat.lt_of_lt_of_le h.lt hb.size, h.below.trans (hb.mono (Nat.le_of_lt h.lt))⟩

/-- the greatest value of psi up to 120, and the least -/
theorem psi_bound {L : Int} (h1 : 1 ≤ L) (h2 : L ≤ 120) : 1 ≤ psiT L ∧ psiT L ≤ 300 := by
  have hall : ∀ n, n < 120 → (decide (1 ≤ psiL.getD (n + 1) 0) && decide (psiL.getD (n + 1) 0 ≤ 300)) = true := by decide
  have := hall (L.toNat - 1) (by omega)
  rw [show L.toNat - 1 + 1 = L.toNat by omega, Bool.and_eq_true] at this
  exact ⟨of_decide_eq_true this.1, of_decide_eq_true this.2⟩

set_option maxHeartbeats 400000 in
theorem chk_level (L W D : Int) (w : World) (h1 : 1 ≤ L) (h2 : L ≤ 120) (h3 : 2 ≤ W) (h4 : W ≤ 24) (h5 : -120 ≤ D) (h6 : D ≤ 120) (hf : fundB D = true) (hD : ¬D = 0) (hl : (L % D != 0) = true) :
    Calls Tryz.prog 11 #[.agg #[.int .i64 L, .int .i64 W, .int .i64 D]] w fun e w' => e = .returned (.int .i64 14) ∧ RowKit.Below w.heap.size w w' := by
  obtain ⟨a, f, z, hz, hc⟩ := call28 h5 h6
  rw [hf] at hz
  have HC := Lib.hid hc; clear hc hf
  obtain ⟨rfl, rfl⟩ : z = 0 ∧ f = 1 := of_decide_eq_true hz
  clear hz
  have hps := psi_bound h1 h2
  have HP := Lib.hid (fun w => call29 h1 h2 w)
  generalize psiT L = s at *
  obtain ⟨hs1, hs2⟩ := hps
  have hm0 : 0 ≤ s * (W - 1) := Int.mul_nonneg (by omega) (by omega)
  have hm1 : s * (W - 1) ≤ 300 * 23 := Int.mul_le_mul hs2 (by omega) (by omega) (by omega)
  go_enter Tryz.func11, Tryz.ntmps11
  go_wp2_with fail
  refine (HC.out _).mono ?_
  rintro e w1 ⟨rfl, hb⟩
  have S1 := SpecAt.box hb; clear hb
  have e0 := S1.c0
  go_wp2_with fail
  refine (HP.out _).mono ?_
  rintro e w2 ⟨rfl, hb2⟩
  have S2 := S1.later hb2
  clear e0 hb2
  have e0 := S2.c0
  have e1 := S2.c1
  have e2 := S2.c2
  go_wp2
  go_ret
  exact ⟨rfl, S2.below⟩

set_option maxHeartbeats 400000 in
theorem chk_parA (L W D : Int) (w : World) (h1 : 1 ≤ L) (h2 : L ≤ 120) (h3 : 2 ≤ W) (h4 : W ≤ 24) (h5 : -120 ≤ D) (h6 : D ≤ 120) (hf : fundB D = true) (hD : ¬D = 0) (hl : (L % D != 0) = false) (hn : D < 0) (hw : (W % 2 == 1) = false) :
    Calls Tryz.prog 11 #[.agg #[.int .i64 L, .int .i64 W, .int .i64 D]] w fun e w' => e = .returned (.int .i64 16) ∧ RowKit.Below w.heap.size w w' := by
  obtain ⟨a, f, z, hz, hc⟩ := call28 h5 h6
  rw [hf] at hz
  have HC := Lib.hid hc; clear hc hf
  obtain ⟨rfl, rfl⟩ : z = 0 ∧ f = 1 := of_decide_eq_true hz
  clear hz
  have hps := psi_bound h1 h2
  have HP := Lib.hid (fun w => call29 h1 h2 w)
  generalize psiT L = s at *
  obtain ⟨hs1, hs2⟩ := hps
  have hm0 : 0 ≤ s * (W - 1) := Int.mul_nonneg (by omega) (by omega)
  have hm1 : s * (W - 1) ≤ 300 * 23 := Int.mul_le_mul hs2 (by omega) (by omega) (by omega)
  go_enter Tryz.func11, Tryz.ntmps11
  go_wp2_with fail
  refine (HC.out _).mono ?_
  rintro e w1 ⟨rfl, hb⟩
  have S1 := SpecAt.box hb; clear hb
  have e0 := S1.c0
  go_wp2_with fail
  refine (HP.out _).mono ?_
  rintro e w2 ⟨rfl, hb2⟩
  have S2 := S1.later hb2
  clear e0 hb2
  have e0 := S2.c0
  have e1 := S2.c1
  have e2 := S2.c2
  go_wp2
  go_ret
  exact ⟨rfl, S2.below⟩

set_option maxHeartbeats 400000 in
theorem chk_parB (L W D : Int) (w : World) (h1 : 1 ≤ L) (h2 : L ≤ 120) (h3 : 2 ≤ W) (h4 : W ≤ 24) (h5 : -120 ≤ D) (h6 : D ≤ 120) (hf : fundB D = true) (hD : ¬D = 0) (hl : (L % D != 0) = false) (hn : 0 ≤ D) (hw : (W % 2 == 1) = true) :
    Calls Tryz.prog 11 #[.agg #[.int .i64 L, .int .i64 W, .int .i64 D]] w fun e w' => e = .returned (.int .i64 16) ∧ RowKit.Below w.heap.size w w' := by
  obtain ⟨a, f, z, hz, hc⟩ := call28 h5 h6
  rw [hf] at hz
  have HC := Lib.hid hc; clear hc hf
  obtain ⟨rfl, rfl⟩ : z = 0 ∧ f = 1 := of_decide_eq_true hz
  clear hz
  have hps := psi_bound h1 h2
  have HP := Lib.hid (fun w => call29 h1 h2 w)
  generalize psiT L = s at *
  obtain ⟨hs1, hs2⟩ := hps
  have hm0 : 0 ≤ s * (W - 1) := Int.mul_nonneg (by omega) (by omega)
  have hm1 : s * (W - 1) ≤ 300 * 23 := Int.mul_le_mul hs2 (by omega) (by omega) (by omega)
  have hd : decide (D < 0) = false := decide_eq_false (by omega)
  go_enter Tryz.func11, Tryz.ntmps11
  go_wp2_with fail
  refine (HC.out _).mono ?_
  rintro e w1 ⟨rfl, hb⟩
  have S1 := SpecAt.box hb; clear hb
  have e0 := S1.c0
  go_wp2_with fail
  refine (HP.out _).mono ?_
  rintro e w2 ⟨rfl, hb2⟩
  have S2 := S1.later hb2
  clear e0 hb2
  have e0 := S2.c0
  have e1 := S2.c1
  have e2 := S2.c2
  go_wp2
  go_ret
  exact ⟨rfl, S2.below⟩

set_option maxHeartbeats 400000 in
theorem chk_largeA (L W D : Int) (w : World) (h1 : 1 ≤ L) (h2 : L ≤ 120) (h3 : 2 ≤ W) (h4 : W ≤ 24) (h5 : -120 ≤ D) (h6 : D ≤ 120) (hf : fundB D = true) (hD : ¬D = 0) (hl : (L % D != 0) = false) (hn : D < 0) (hw : (W % 2 == 1) = true) (hp : 512 < psiT L * (W - 1)) :
    Calls Tryz.prog 11 #[.agg #[.int .i64 L, .int .i64 W, .int .i64 D]] w fun e w' => e = .returned (.int .i64 7) ∧ RowKit.Below w.heap.size w w' := by
  obtain ⟨a, f, z, hz, hc⟩ := call28 h5 h6
  rw [hf] at hz
  have HC := Lib.hid hc; clear hc hf
  obtain ⟨rfl, rfl⟩ : z = 0 ∧ f = 1 := of_decide_eq_true hz
  clear hz
  have hps := psi_bound h1 h2
  have HP := Lib.hid (fun w => call29 h1 h2 w)
  generalize psiT L = s at *
  obtain ⟨hs1, hs2⟩ := hps
  have hm0 : 0 ≤ s * (W - 1) := Int.mul_nonneg (by omega) (by omega)
  have hm1 : s * (W - 1) ≤ 300 * 23 := Int.mul_le_mul hs2 (by omega) (by omega) (by omega)
  go_enter Tryz.func11, Tryz.ntmps11
  go_wp2_with fail
  refine (HC.out _).mono ?_
  rintro e w1 ⟨rfl, hb⟩
  have S1 := SpecAt.box hb; clear hb
  have e0 := S1.c0
  go_wp2_with fail
  refine (HP.out _).mono ?_
  rintro e w2 ⟨rfl, hb2⟩
  have S2 := S1.later hb2
  clear e0 hb2
  have e0 := S2.c0
  have e1 := S2.c1
  have e2 := S2.c2
  go_wp2
  go_ret
  exact ⟨rfl, S2.below⟩

set_option maxHeartbeats 400000 in
theorem chk_largeB (L W D : Int) (w : World) (h1 : 1 ≤ L) (h2 : L ≤ 120) (h3 : 2 ≤ W) (h4 : W ≤ 24) (h5 : -120 ≤ D) (h6 : D ≤ 120) (hf : fundB D = true) (hD : ¬D = 0) (hl : (L % D != 0) = false) (hn : 0 ≤ D) (hw : (W % 2 == 1) = false) (hp : 512 < psiT L * (W - 1)) :
    Calls Tryz.prog 11 #[.agg #[.int .i64 L, .int .i64 W, .int .i64 D]] w fun e w' => e = .returned (.int .i64 7) ∧ RowKit.Below w.heap.size w w' := by
  obtain ⟨a, f, z, hz, hc⟩ := call28 h5 h6
  rw [hf] at hz
  have HC := Lib.hid hc; clear hc hf
  obtain ⟨rfl, rfl⟩ : z = 0 ∧ f = 1 := of_decide_eq_true hz
  clear hz
  have hps := psi_bound h1 h2
  have HP := Lib.hid (fun w => call29 h1 h2 w)
  generalize psiT L = s at *
  obtain ⟨hs1, hs2⟩ := hps
  have hm0 : 0 ≤ s * (W - 1) := Int.mul_nonneg (by omega) (by omega)
  have hm1 : s * (W - 1) ≤ 300 * 23 := Int.mul_le_mul hs2 (by omega) (by omega) (by omega)
  have hd : decide (D < 0) = false := decide_eq_false (by omega)
  go_enter Tryz.func11, Tryz.ntmps11
  go_wp2_with fail
  refine (HC.out _).mono ?_
  rintro e w1 ⟨rfl, hb⟩
  have S1 := SpecAt.box hb; clear hb
  have e0 := S1.c0
  go_wp2_with fail
  refine (HP.out _).mono ?_
  rintro e w2 ⟨rfl, hb2⟩
  have S2 := S1.later hb2
  clear e0 hb2
  have e0 := S2.c0
  have e1 := S2.c1
  have e2 := S2.c2
  go_wp2
  go_ret
  exact ⟨rfl, S2.below⟩

set_option maxHeartbeats 400000 in
theorem chk_okA (L W D : Int) (w : World) (h1 : 1 ≤ L) (h2 : L ≤ 120) (h3 : 2 ≤ W) (h4 : W ≤ 24) (h5 : -120 ≤ D) (h6 : D ≤ 120) (hf : fundB D = true) (hD : ¬D = 0) (hl : (L % D != 0) = false) (hn : D < 0) (hw : (W % 2 == 1) = true) (hp : psiT L * (W - 1) ≤ 512) :
    Calls Tryz.prog 11 #[.agg #[.int .i64 L, .int .i64 W, .int .i64 D]] w fun e w' => e = .returned (.int .i64 0) ∧ RowKit.Below w.heap.size w w' := by
  obtain ⟨a, f, z, hz, hc⟩ := call28 h5 h6
  rw [hf] at hz
  have HC := Lib.hid hc; clear hc hf
  obtain ⟨rfl, rfl⟩ : z = 0 ∧ f = 1 := of_decide_eq_true hz
  clear hz
  have hps := psi_bound h1 h2
  have HP := Lib.hid (fun w => call29 h1 h2 w)
  generalize psiT L = s at *
  obtain ⟨hs1, hs2⟩ := hps
  have hm0 : 0 ≤ s * (W - 1) := Int.mul_nonneg (by omega) (by omega)
  have hm1 : s * (W - 1) ≤ 300 * 23 := Int.mul_le_mul hs2 (by omega) (by omega) (by omega)
  go_enter Tryz.func11, Tryz.ntmps11
  go_wp2_with fail
  refine (HC.out _).mono ?_
  rintro e w1 ⟨rfl, hb⟩
  have S1 := SpecAt.box hb; clear hb
  have e0 := S1.c0
  go_wp2_with fail
  refine (HP.out _).mono ?_
  rintro e w2 ⟨rfl, hb2⟩
  have S2 := S1.later hb2
  clear e0 hb2
  have e0 := S2.c0
  have e1 := S2.c1
  have e2 := S2.c2
  go_wp2
  go_ret
  exact ⟨rfl, S2.below⟩

set_option maxHeartbeats 400000 in
theorem chk_okB (L W D : Int) (w : World) (h1 : 1 ≤ L) (h2 : L ≤ 120) (h3 : 2 ≤ W) (h4 : W ≤ 24) (h5 : -120 ≤ D) (h6 : D ≤ 120) (hf : fundB D = true) (hD : ¬D = 0) (hl : (L % D != 0) = false) (hn : 0 ≤ D) (hw : (W % 2 == 1) = false) (hp : psiT L * (W - 1) ≤ 512) :
    Calls Tryz.prog 11 #[.agg #[.int .i64 L, .int .i64 W, .int .i64 D]] w fun e w' => e = .returned (.int .i64 0) ∧ RowKit.Below w.heap.size w w' := by
  obtain ⟨a, f, z, hz, hc⟩ := call28 h5 h6
  rw [hf] at hz
  have HC := Lib.hid hc; clear hc hf
  obtain ⟨rfl, rfl⟩ : z = 0 ∧ f = 1 := of_decide_eq_true hz
  clear hz
  have hps := psi_bound h1 h2
  have HP := Lib.hid (fun w => call29 h1 h2 w)
  generalize psiT L = s at *
  obtain ⟨hs1, hs2⟩ := hps
  have hm0 : 0 ≤ s * (W - 1) := Int.mul_nonneg (by omega) (by omega)
  have hm1 : s * (W - 1) ≤ 300 * 23 := Int.mul_le_mul hs2 (by omega) (by omega) (by omega)
  have hd : decide (D < 0) = false := decide_eq_false (by omega)
  go_enter Tryz.func11, Tryz.ntmps11
  go_wp2_with fail
  refine (HC.out _).mono ?_
  rintro e w1 ⟨rfl, hb⟩
  have S1 := SpecAt.box hb; clear hb
  have e0 := S1.c0
  go_wp2_with fail
  refine (HP.out _).mono ?_
  rintro e w2 ⟨rfl, hb2⟩
  have S2 := S1.later hb2
  clear e0 hb2
  have e0 := S2.c0
  have e1 := S2.c1
  have e2 := S2.c2
  go_wp2
  go_ret
  exact ⟨rfl, S2.below⟩
end Go.Ex.KW

