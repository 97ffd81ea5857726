/- The program's and the reference's level of a twist, case by case. Conditions: the case's. -/
import Derived.Test.YthddjdainglhcaaGreatDoorCheck
namespace Go.Ex.KW
open Go Go.RowKit Go.Proofs

def properB (d : Int) : Bool := decide (-1000 ≤ d ∧ d ≤ 1000) && fundB d
theorem proper12 (d : Int) (w : World) : Calls Tryz.prog 12 #[.int .i64 d] w fun e w' => e = .returned (.bool (properB d)) ∧ RowKit.Below w.heap.size w w' := by
  by_cases h : -1000 ≤ d ∧ d ≤ 1000
  · rw [show properB d = fundB d by unfold properB; rw [decide_eq_true h, Bool.true_and]]
    exact call12 h.1 h.2 w
  · rw [show properB d = false by unfold properB; rw [decide_eq_false h, Bool.false_and]]
    exact (out12 d w (by omega)).mono fun e w' ⟨he, hw⟩ => ⟨he, by rw [hw]; exact .refl _ _⟩
theorem proper15 (d : Int) (w : World) : Calls Tryz.prog 15 #[.int .i64 d] w fun e w' => e = .returned (.bool (properB d)) ∧ RowKit.Below w.heap.size w w' := by
  by_cases h : -1000 ≤ d ∧ d ≤ 1000
  · rw [show properB d = fundB d by unfold properB; rw [decide_eq_true h, Bool.true_and]]
    exact call15 h.1 h.2 w
  · rw [show properB d = false by unfold properB; rw [decide_eq_false h, Bool.false_and]]
    exact (out15 d w (by omega)).mono fun e w' ⟨he, hw⟩ => ⟨he, by rw [hw]; exact .refl _ _⟩

theorem proper_range {d : Int} (hd : properB d = true) : -1000 ≤ d ∧ d ≤ 1000 ∧ d ≠ 0 := by
  unfold properB at hd
  rw [Bool.and_eq_true] at hd
  have h := of_decide_eq_true hd.1
  exact ⟨h.1, h.2, fun e => by subst e; rw [fund0] at hd; cases hd.2⟩
def absI (d : Int) : Int := (d.natAbs : Int)
theorem absI_pos {d : Int} (h : d ≠ 0) : 0 < absI d := by unfold absI; omega
/-- the level of the twist -/
def levV (L D d : Int) : Int := lcmI (lcmI L (absI d * absI D)) (absI d * absI d)

set_option maxHeartbeats 400000 in
theorem level5_PP (L W D d : Int) (w : World) (hc : chkV L W D = 0) (hd : properB d = true) (hx : -d ≤ d) (hy : -D ≤ D) :
    Calls Tryz.prog 5 #[.agg #[.int .i64 L, .int .i64 W, .int .i64 D], .int .i64 d] w fun e w' => e = .returned (.tuple #[.int .i64 (levV L D d), .int .i64 0]) ∧ RowKit.Below w.heap.size w w' := by
  obtain ⟨h1, h2, h5, h6, h7⟩ := chk_zero hc
  obtain ⟨d1, d2, d3⟩ := proper_range hd
  have a1 : absI d = d := by unfold absI; omega
  have a2 : absI D = D := by unfold absI; omega
  unfold levV
  rw [a1, a2]
  clear a1 a2
  have HC := Lib.hid (fun w => chk_any L W D w)
  rw [hc] at HC
  have HD := Lib.hid (fun w => proper12 d w)
  rw [hd] at HD
  clear hc hd
  have p0 : 0 < d * D := Int.mul_pos (by omega) (by omega)
  have p1 : d * D ≤ 1000 * 120 := Int.mul_le_mul (by omega) (by omega) (by omega) (by omega)
  have s0 : 0 < d * d := Int.mul_pos (by omega) (by omega)
  have s1 : d * d ≤ 1000 * 1000 := Int.mul_le_mul (by omega) (by omega) (by omega) (by omega)
  have l0 := lcmI_pos (show 0 < L by omega) p0
  have l1 : lcmI L (d * D) ≤ 100000000 := by
    have q1 := lcmI_le (show 0 ≤ L by omega) (Int.le_of_lt p0)
    have q2 : L * (d * D) ≤ 120 * (1000 * 120) := Int.mul_le_mul h2 p1 (by omega) (by omega)
    omega
  generalize hX : lcmI L (d * D) = X at l0 l1 ⊢
  have HX := Lib.hid hX; clear hX
  go_enter Tryz.func5, Tryz.ntmps5
  go_wp2_with fail
  refine (HC.out _).mono ?_
  rintro e w1 ⟨rfl, hb⟩
  have S1 := SpecAt.box hb; clear hb
  go_wp2_with fail
  refine (HD.out _).mono ?_
  rintro e w2 ⟨rfl, hb2⟩
  have S2 := S1.later hb2; clear hb2
  have e0 := S2.c0
  have e2 := S2.c2
  go_wp2_with fail
  refine (lcm13i _ _ _ (by omega) (by omega) (by omega) (by omega)).mono ?_
  rintro e w3 ⟨rfl, n3, rfl⟩
  rw [HX.out]
  go_wp2_with fail
  refine (lcm13i _ _ _ (by omega) (by omega) (by omega) (by omega)).mono ?_
  rintro e w4 ⟨rfl, n4, rfl⟩
  go_wp2
  go_ret2
  exact ⟨rfl, ⟨S2.below.os, S2.below.tape, S2.below.output, S2.below.size, S2.below.block⟩⟩

set_option maxHeartbeats 400000 in
theorem level5_PN (L W D d : Int) (w : World) (hc : chkV L W D = 0) (hd : properB d = true) (hx : -d ≤ d) (hy : D < -D) :
    Calls Tryz.prog 5 #[.agg #[.int .i64 L, .int .i64 W, .int .i64 D], .int .i64 d] w fun e w' => e = .returned (.tuple #[.int .i64 (levV L D d), .int .i64 0]) ∧ RowKit.Below w.heap.size w w' := by
  obtain ⟨h1, h2, h5, h6, h7⟩ := chk_zero hc
  obtain ⟨d1, d2, d3⟩ := proper_range hd
  have a1 : absI d = d := by unfold absI; omega
  have a2 : absI D = -D := by unfold absI; omega
  unfold levV
  rw [a1, a2]
  clear a1 a2
  have HC := Lib.hid (fun w => chk_any L W D w)
  rw [hc] at HC
  have HD := Lib.hid (fun w => proper12 d w)
  rw [hd] at HD
  clear hc hd
  have p0 : 0 < d * -D := Int.mul_pos (by omega) (by omega)
  have p1 : d * -D ≤ 1000 * 120 := Int.mul_le_mul (by omega) (by omega) (by omega) (by omega)
  have s0 : 0 < d * d := Int.mul_pos (by omega) (by omega)
  have s1 : d * d ≤ 1000 * 1000 := Int.mul_le_mul (by omega) (by omega) (by omega) (by omega)
  have l0 := lcmI_pos (show 0 < L by omega) p0
  have l1 : lcmI L (d * -D) ≤ 100000000 := by
    have q1 := lcmI_le (show 0 ≤ L by omega) (Int.le_of_lt p0)
    have q2 : L * (d * -D) ≤ 120 * (1000 * 120) := Int.mul_le_mul h2 p1 (by omega) (by omega)
    omega
  generalize hX : lcmI L (d * -D) = X at l0 l1 ⊢
  have HX := Lib.hid hX; clear hX
  go_enter Tryz.func5, Tryz.ntmps5
  go_wp2_with fail
  refine (HC.out _).mono ?_
  rintro e w1 ⟨rfl, hb⟩
  have S1 := SpecAt.box hb; clear hb
  go_wp2_with fail
  refine (HD.out _).mono ?_
  rintro e w2 ⟨rfl, hb2⟩
  have S2 := S1.later hb2; clear hb2
  have e0 := S2.c0
  have e2 := S2.c2
  go_wp2_with fail
  refine (lcm13i _ _ _ (by omega) (by omega) (by omega) (by omega)).mono ?_
  rintro e w3 ⟨rfl, n3, rfl⟩
  rw [HX.out]
  go_wp2_with fail
  refine (lcm13i _ _ _ (by omega) (by omega) (by omega) (by omega)).mono ?_
  rintro e w4 ⟨rfl, n4, rfl⟩
  go_wp2
  go_ret2
  exact ⟨rfl, ⟨S2.below.os, S2.below.tape, S2.below.output, S2.below.size, S2.below.block⟩⟩

set_option maxHeartbeats 400000 in
theorem level5_NP (L W D d : Int) (w : World) (hc : chkV L W D = 0) (hd : properB d = true) (hx : d < -d) (hy : -D ≤ D) :
    Calls Tryz.prog 5 #[.agg #[.int .i64 L, .int .i64 W, .int .i64 D], .int .i64 d] w fun e w' => e = .returned (.tuple #[.int .i64 (levV L D d), .int .i64 0]) ∧ RowKit.Below w.heap.size w w' := by
  obtain ⟨h1, h2, h5, h6, h7⟩ := chk_zero hc
  obtain ⟨d1, d2, d3⟩ := proper_range hd
  have a1 : absI d = -d := by unfold absI; omega
  have a2 : absI D = D := by unfold absI; omega
  unfold levV
  rw [a1, a2]
  clear a1 a2
  have HC := Lib.hid (fun w => chk_any L W D w)
  rw [hc] at HC
  have HD := Lib.hid (fun w => proper12 d w)
  rw [hd] at HD
  clear hc hd
  have p0 : 0 < -d * D := Int.mul_pos (by omega) (by omega)
  have p1 : -d * D ≤ 1000 * 120 := Int.mul_le_mul (by omega) (by omega) (by omega) (by omega)
  have s0 : 0 < -d * -d := Int.mul_pos (by omega) (by omega)
  have s1 : -d * -d ≤ 1000 * 1000 := Int.mul_le_mul (by omega) (by omega) (by omega) (by omega)
  have l0 := lcmI_pos (show 0 < L by omega) p0
  have l1 : lcmI L (-d * D) ≤ 100000000 := by
    have q1 := lcmI_le (show 0 ≤ L by omega) (Int.le_of_lt p0)
    have q2 : L * (-d * D) ≤ 120 * (1000 * 120) := Int.mul_le_mul h2 p1 (by omega) (by omega)
    omega
  generalize hX : lcmI L (-d * D) = X at l0 l1 ⊢
  have HX := Lib.hid hX; clear hX
  go_enter Tryz.func5, Tryz.ntmps5
  go_wp2_with fail
  refine (HC.out _).mono ?_
  rintro e w1 ⟨rfl, hb⟩
  have S1 := SpecAt.box hb; clear hb
  go_wp2_with fail
  refine (HD.out _).mono ?_
  rintro e w2 ⟨rfl, hb2⟩
  have S2 := S1.later hb2; clear hb2
  have e0 := S2.c0
  have e2 := S2.c2
  go_wp2_with fail
  refine (lcm13i _ _ _ (by omega) (by omega) (by omega) (by omega)).mono ?_
  rintro e w3 ⟨rfl, n3, rfl⟩
  rw [HX.out]
  go_wp2_with fail
  refine (lcm13i _ _ _ (by omega) (by omega) (by omega) (by omega)).mono ?_
  rintro e w4 ⟨rfl, n4, rfl⟩
  go_wp2
  go_ret2
  exact ⟨rfl, ⟨S2.below.os, S2.below.tape, S2.below.output, S2.below.size, S2.below.block⟩⟩

set_option maxHeartbeats 400000 in
theorem level5_NN (L W D d : Int) (w : World) (hc : chkV L W D = 0) (hd : properB d = true) (hx : d < -d) (hy : D < -D) :
    Calls Tryz.prog 5 #[.agg #[.int .i64 L, .int .i64 W, .int .i64 D], .int .i64 d] w fun e w' => e = .returned (.tuple #[.int .i64 (levV L D d), .int .i64 0]) ∧ RowKit.Below w.heap.size w w' := by
  obtain ⟨h1, h2, h5, h6, h7⟩ := chk_zero hc
  obtain ⟨d1, d2, d3⟩ := proper_range hd
  have a1 : absI d = -d := by unfold absI; omega
  have a2 : absI D = -D := by unfold absI; omega
  unfold levV
  rw [a1, a2]
  clear a1 a2
  have HC := Lib.hid (fun w => chk_any L W D w)
  rw [hc] at HC
  have HD := Lib.hid (fun w => proper12 d w)
  rw [hd] at HD
  clear hc hd
  have p0 : 0 < -d * -D := Int.mul_pos (by omega) (by omega)
  have p1 : -d * -D ≤ 1000 * 120 := Int.mul_le_mul (by omega) (by omega) (by omega) (by omega)
  have s0 : 0 < -d * -d := Int.mul_pos (by omega) (by omega)
  have s1 : -d * -d ≤ 1000 * 1000 := Int.mul_le_mul (by omega) (by omega) (by omega) (by omega)
  have l0 := lcmI_pos (show 0 < L by omega) p0
  have l1 : lcmI L (-d * -D) ≤ 100000000 := by
    have q1 := lcmI_le (show 0 ≤ L by omega) (Int.le_of_lt p0)
    have q2 : L * (-d * -D) ≤ 120 * (1000 * 120) := Int.mul_le_mul h2 p1 (by omega) (by omega)
    omega
  generalize hX : lcmI L (-d * -D) = X at l0 l1 ⊢
  have HX := Lib.hid hX; clear hX
  go_enter Tryz.func5, Tryz.ntmps5
  go_wp2_with fail
  refine (HC.out _).mono ?_
  rintro e w1 ⟨rfl, hb⟩
  have S1 := SpecAt.box hb; clear hb
  go_wp2_with fail
  refine (HD.out _).mono ?_
  rintro e w2 ⟨rfl, hb2⟩
  have S2 := S1.later hb2; clear hb2
  have e0 := S2.c0
  have e2 := S2.c2
  go_wp2_with fail
  refine (lcm13i _ _ _ (by omega) (by omega) (by omega) (by omega)).mono ?_
  rintro e w3 ⟨rfl, n3, rfl⟩
  rw [HX.out]
  go_wp2_with fail
  refine (lcm13i _ _ _ (by omega) (by omega) (by omega) (by omega)).mono ?_
  rintro e w4 ⟨rfl, n4, rfl⟩
  go_wp2
  go_ret2
  exact ⟨rfl, ⟨S2.below.os, S2.below.tape, S2.below.output, S2.below.size, S2.below.block⟩⟩
end Go.Ex.KW

namespace Go.Ex.KW
open Go Go.RowKit Go.Proofs

set_option maxHeartbeats 400000 in
theorem level5_bad (L W D d : Int) (w : World) (hc : ¬ chkV L W D = 0) :
    Calls Tryz.prog 5 #[.agg #[.int .i64 L, .int .i64 W, .int .i64 D], .int .i64 d] w fun e w' => e = .returned (.tuple #[.int .i64 0, .int .i64 (chkV L W D)]) ∧ RowKit.Below w.heap.size w w' := by
  have HC := Lib.hid (fun w => chk_any L W D w)
  generalize chkV L W D = c at *
  have hn : (c == 0) = false := beq_false_of_ne hc
  have hn' : (c != 0) = true := by rw [bne, hn]; rfl
  clear hc
  go_enter Tryz.func5, Tryz.ntmps5
  go_wp2_with fail
  refine (HC.out _).mono ?_
  rintro e w1 ⟨rfl, hb⟩
  have S1 := SpecAt.box hb; clear hb
  go_wp2
  go_ret2
  exact ⟨rfl, S1.below⟩
set_option maxHeartbeats 400000 in
theorem level6_bad (L W D d : Int) (w : World) (hc : ¬ chkV L W D = 0) :
    Calls Tryz.prog 6 #[.agg #[.int .i64 L, .int .i64 W, .int .i64 D], .int .i64 d] w fun e w' => e = .returned (.tuple #[.int .i64 0, .int .i64 (chkV L W D)]) ∧ RowKit.Below w.heap.size w w' := by
  have HC := Lib.hid (fun w => ref_any L W D w)
  generalize chkV L W D = c at *
  have hn : (c == 0) = false := beq_false_of_ne hc
  have hn' : (c != 0) = true := by rw [bne, hn]; rfl
  clear hc
  go_enter Tryz.func6, Tryz.ntmps6
  go_wp2_with fail
  refine (HC.out _).mono ?_
  rintro e w1 ⟨rfl, hb⟩
  have S1 := SpecAt.box hb; clear hb
  go_wp2
  go_ret2
  exact ⟨rfl, S1.below⟩
set_option maxHeartbeats 400000 in
theorem level5_disc (L W D d : Int) (w : World) (hc : chkV L W D = 0) (hd : properB d = false) :
    Calls Tryz.prog 5 #[.agg #[.int .i64 L, .int .i64 W, .int .i64 D], .int .i64 d] w fun e w' => e = .returned (.tuple #[.int .i64 0, .int .i64 15]) ∧ RowKit.Below w.heap.size w w' := by
  have HC := Lib.hid (fun w => chk_any L W D w)
  rw [hc] at HC
  have HD := Lib.hid (fun w => proper12 d w)
  rw [hd] at HD
  clear hc hd
  go_enter Tryz.func5, Tryz.ntmps5
  go_wp2_with fail
  refine (HC.out _).mono ?_
  rintro e w1 ⟨rfl, hb⟩
  have S1 := SpecAt.box hb; clear hb
  go_wp2_with fail
  refine (HD.out _).mono ?_
  rintro e w2 ⟨rfl, hb2⟩
  have S2 := S1.later hb2; clear hb2
  go_wp2
  go_ret2
  exact ⟨rfl, S2.below⟩
set_option maxHeartbeats 400000 in
theorem level6_disc (L W D d : Int) (w : World) (hc : chkV L W D = 0) (hd : properB d = false) :
    Calls Tryz.prog 6 #[.agg #[.int .i64 L, .int .i64 W, .int .i64 D], .int .i64 d] w fun e w' => e = .returned (.tuple #[.int .i64 0, .int .i64 15]) ∧ RowKit.Below w.heap.size w w' := by
  have HC := Lib.hid (fun w => ref_any L W D w)
  rw [hc] at HC
  have HD := Lib.hid (fun w => proper15 d w)
  rw [hd] at HD
  clear hc hd
  go_enter Tryz.func6, Tryz.ntmps6
  go_wp2_with fail
  refine (HC.out _).mono ?_
  rintro e w1 ⟨rfl, hb⟩
  have S1 := SpecAt.box hb; clear hb
  go_wp2_with fail
  refine (HD.out _).mono ?_
  rintro e w2 ⟨rfl, hb2⟩
  have S2 := S1.later hb2; clear hb2
  go_wp2
  go_ret2
  exact ⟨rfl, S2.below⟩

end Go.Ex.KW

namespace Go.Ex.KW
open Go Go.RowKit Go.Proofs

/-- the state of the loop over the two factors -/
def LevRel (L m q : Int) (w0 : World) (o i : Value) (wr : World) : Prop :=
  ∃ k n : Nat, i = .int .i64 k ∧ wr = w0.drewN n ∧ ((k = 0 ∧ o = .int .i64 L) ∨ (k = 1 ∧ o = .int .i64 (lcmI L m)) ∨ (k = 2 ∧ o = .int .i64 (lcmI (lcmI L m) q)))
theorem lcm_facts {a b : Int} (ha : 0 < a) (ha' : a ≤ 100000000) (hb : 0 < b) (hb' : b ≤ 1000000) : 0 ≤ a / gcdI a b ∧ a / gcdI a b ≤ 100000000 ∧ 0 ≤ a / gcdI a b * b ∧ a / gcdI a b * b ≤ 100000000000000 := by
  have h1 := gcdI_pos (b := b) ha
  have h2 : 0 ≤ a / gcdI a b := Int.ediv_nonneg (by omega) (by omega)
  have h3 : a / gcdI a b ≤ a := Int.ediv_le_self _ (by omega)
  have h4 : a / gcdI a b * b ≤ 100000000 * 1000000 := Int.mul_le_mul (by omega) hb' (by omega) (by omega)
  exact ⟨h2, by omega, Int.mul_nonneg h2 (by omega), by omega⟩

set_option maxHeartbeats 400000 in
theorem level6_PP (L W D d : Int) (w : World) (hc : chkV L W D = 0) (hd : properB d = true) (hx : -d ≤ d) (hy : -D ≤ D) :
    Calls Tryz.prog 6 #[.agg #[.int .i64 L, .int .i64 W, .int .i64 D], .int .i64 d] w fun e w' => e = .returned (.tuple #[.int .i64 (levV L D d), .int .i64 0]) ∧ RowKit.Below w.heap.size w w' := by
  obtain ⟨h1, h2, h5, h6, h7⟩ := chk_zero hc
  obtain ⟨d1, d2, d3⟩ := proper_range hd
  have a1 : absI d = d := by unfold absI; omega
  have a2 : absI D = D := by unfold absI; omega
  have a3 : absI d * absI d = d * d := by rw [a1]
  unfold levV
  rw [a3, a1, a2]
  clear a1 a2 a3
  have HC := Lib.hid (fun w => ref_any L W D w)
  rw [hc] at HC
  have HD := Lib.hid (fun w => proper15 d w)
  rw [hd] at HD
  clear hc hd
  have p0 : 0 < d * D := Int.mul_pos (by omega) (by omega)
  have p1 : d * D ≤ 1000 * 120 := Int.mul_le_mul (by omega) (by omega) (by omega) (by omega)
  have s0 : 0 < d * d := Int.mul_pos (by omega) (by omega)
  have s1 : d * d ≤ 1000 * 1000 := by
    have h : d * d ≤ 1000 * 1000 := Int.mul_le_mul (by omega) (by omega) (by omega) (by omega)
    exact h
  have l0 := lcmI_pos (show 0 < L by omega) p0
  have l1 : lcmI L (d * D) ≤ 100000000 := by
    have q1 := lcmI_le (show 0 ≤ L by omega) (Int.le_of_lt p0)
    have q2 : L * (d * D) ≤ 120 * (1000 * 120) := Int.mul_le_mul h2 p1 (by omega) (by omega)
    omega
  go_enter Tryz.func6, Tryz.ntmps6
  go_wp2_with fail
  refine (HC.out _).mono ?_
  rintro e w1 ⟨rfl, hb⟩
  have S1 := SpecAt.box hb; clear hb
  go_wp2_with fail
  refine (HD.out _).mono ?_
  rintro e w2 ⟨rfl, hb2⟩
  have S2 := S1.later hb2; clear hb2
  have e0 := S2.c0
  have e2 := S2.c2
  go_wp2_with fail
  clear e0 e2
  go_loopw [7, 35] (fun o i wr => LevRel L (d * D) (d * d) w2 o i wr) (fun _ i _ => 2 - (intOf i).toNat)
  case atStart => exact ⟨0, 0, rfl, rfl, .inl ⟨rfl, rfl⟩⟩
  case round =>
    generalize hm : d * D = m at *
    generalize hq : d * d = q at *
    have HM := Lib.hid hm; clear hm
    have HQ := Lib.hid hq; clear hq
    obtain ⟨k, n, rfl, rfl, hcase⟩ := hrel
    have i0 : ∀ w, (Instr.index 44 (.agg #[.int .i64 m, .int .i64 q]) (.int .i64 0)).run Tryz.prog w = .ok (.int .i64 m) w := fun _ => by kernel_rfl
    have i1 : ∀ w, (Instr.index 44 (.agg #[.int .i64 m, .int .i64 q]) (.int .i64 1)).run Tryz.prog w = .ok (.int .i64 q) w := fun _ => by kernel_rfl
    generalize hX : lcmI L m = X at *
    have HX := Lib.hid hX; clear hX
    rcases hcase with ⟨rfl, rfl⟩ | ⟨rfl, rfl⟩ | ⟨rfl, rfl⟩
    · obtain ⟨f1, f2, f3, f4⟩ := lcm_facts (a := L) (b := m) (by omega) (by omega) (by omega) (by omega)
      have g0 := gcdI_pos (a := L) (b := m) (by omega)
      have HE := Lib.hid (lcmI_eq L m (by omega) (by omega))
      generalize hG : gcdI L m = g at *
      have HG := Lib.hid hG; clear hG
      go_wp2_with fail
      refine (gcd16i _ _ _ (by omega) (by omega) (by omega) (by omega)).mono ?_
      rintro e w3 ⟨rfl, n3, rfl⟩
      rw [HG.out]
      go_wp2
      go_roundw
      case rel => exact ⟨1, n + n3, rfl, rfl, .inr (.inl ⟨rfl, by rw [HX.out] at HE; rw [← HE.out, HX.out]⟩)⟩
      case measure => simp [intOf]
    · obtain ⟨f1, f2, f3, f4⟩ := lcm_facts (a := X) (b := q) (by omega) (by omega) (by omega) (by omega)
      have g0 := gcdI_pos (a := X) (b := q) (by omega)
      have HE := Lib.hid (lcmI_eq X q (by omega) (by omega))
      generalize hG : gcdI X q = g at *
      have HG := Lib.hid hG; clear hG
      go_wp2_with fail
      refine (gcd16i _ _ _ (by omega) (by omega) (by omega) (by omega)).mono ?_
      rintro e w3 ⟨rfl, n3, rfl⟩
      rw [HG.out]
      go_wp2
      go_roundw
      case rel => exact ⟨2, n + n3, rfl, rfl, .inr (.inr ⟨rfl, by rw [HX.out, ← HE.out]⟩)⟩
      case measure => simp [intOf]
    · go_wp2
      go_ret2
      exact ⟨by show Ending.returned (.tuple #[.int .i64 (lcmI X q), .int .i64 0]) = _; rw [← HX.out, ← HM.out, ← HQ.out], ⟨S2.below.os, S2.below.tape, S2.below.output, S2.below.size, S2.below.block⟩⟩

set_option maxHeartbeats 400000 in
theorem level6_PN (L W D d : Int) (w : World) (hc : chkV L W D = 0) (hd : properB d = true) (hx : -d ≤ d) (hy : D < -D) :
    Calls Tryz.prog 6 #[.agg #[.int .i64 L, .int .i64 W, .int .i64 D], .int .i64 d] w fun e w' => e = .returned (.tuple #[.int .i64 (levV L D d), .int .i64 0]) ∧ RowKit.Below w.heap.size w w' := by
  obtain ⟨h1, h2, h5, h6, h7⟩ := chk_zero hc
  obtain ⟨d1, d2, d3⟩ := proper_range hd
  have a1 : absI d = d := by unfold absI; omega
  have a2 : absI D = -D := by unfold absI; omega
  have a3 : absI d * absI d = d * d := by rw [a1]
  unfold levV
  rw [a3, a1, a2]
  clear a1 a2 a3
  have HC := Lib.hid (fun w => ref_any L W D w)
  rw [hc] at HC
  have HD := Lib.hid (fun w => proper15 d w)
  rw [hd] at HD
  clear hc hd
  have p0 : 0 < d * -D := Int.mul_pos (by omega) (by omega)
  have p1 : d * -D ≤ 1000 * 120 := Int.mul_le_mul (by omega) (by omega) (by omega) (by omega)
  have s0 : 0 < d * d := Int.mul_pos (by omega) (by omega)
  have s1 : d * d ≤ 1000 * 1000 := by
    have h : d * d ≤ 1000 * 1000 := Int.mul_le_mul (by omega) (by omega) (by omega) (by omega)
    exact h
  have l0 := lcmI_pos (show 0 < L by omega) p0
  have l1 : lcmI L (d * -D) ≤ 100000000 := by
    have q1 := lcmI_le (show 0 ≤ L by omega) (Int.le_of_lt p0)
    have q2 : L * (d * -D) ≤ 120 * (1000 * 120) := Int.mul_le_mul h2 p1 (by omega) (by omega)
    omega
  go_enter Tryz.func6, Tryz.ntmps6
  go_wp2_with fail
  refine (HC.out _).mono ?_
  rintro e w1 ⟨rfl, hb⟩
  have S1 := SpecAt.box hb; clear hb
  go_wp2_with fail
  refine (HD.out _).mono ?_
  rintro e w2 ⟨rfl, hb2⟩
  have S2 := S1.later hb2; clear hb2
  have e0 := S2.c0
  have e2 := S2.c2
  go_wp2_with fail
  clear e0 e2
  go_loopw [7, 35] (fun o i wr => LevRel L (d * -D) (d * d) w2 o i wr) (fun _ i _ => 2 - (intOf i).toNat)
  case atStart => exact ⟨0, 0, rfl, rfl, .inl ⟨rfl, rfl⟩⟩
  case round =>
    generalize hm : d * -D = m at *
    generalize hq : d * d = q at *
    have HM := Lib.hid hm; clear hm
    have HQ := Lib.hid hq; clear hq
    obtain ⟨k, n, rfl, rfl, hcase⟩ := hrel
    have i0 : ∀ w, (Instr.index 44 (.agg #[.int .i64 m, .int .i64 q]) (.int .i64 0)).run Tryz.prog w = .ok (.int .i64 m) w := fun _ => by kernel_rfl
    have i1 : ∀ w, (Instr.index 44 (.agg #[.int .i64 m, .int .i64 q]) (.int .i64 1)).run Tryz.prog w = .ok (.int .i64 q) w := fun _ => by kernel_rfl
    generalize hX : lcmI L m = X at *
    have HX := Lib.hid hX; clear hX
    rcases hcase with ⟨rfl, rfl⟩ | ⟨rfl, rfl⟩ | ⟨rfl, rfl⟩
    · obtain ⟨f1, f2, f3, f4⟩ := lcm_facts (a := L) (b := m) (by omega) (by omega) (by omega) (by omega)
      have g0 := gcdI_pos (a := L) (b := m) (by omega)
      have HE := Lib.hid (lcmI_eq L m (by omega) (by omega))
      generalize hG : gcdI L m = g at *
      have HG := Lib.hid hG; clear hG
      go_wp2_with fail
      refine (gcd16i _ _ _ (by omega) (by omega) (by omega) (by omega)).mono ?_
      rintro e w3 ⟨rfl, n3, rfl⟩
      rw [HG.out]
      go_wp2
      go_roundw
      case rel => exact ⟨1, n + n3, rfl, rfl, .inr (.inl ⟨rfl, by rw [HX.out] at HE; rw [← HE.out, HX.out]⟩)⟩
      case measure => simp [intOf]
    · obtain ⟨f1, f2, f3, f4⟩ := lcm_facts (a := X) (b := q) (by omega) (by omega) (by omega) (by omega)
      have g0 := gcdI_pos (a := X) (b := q) (by omega)
      have HE := Lib.hid (lcmI_eq X q (by omega) (by omega))
      generalize hG : gcdI X q = g at *
      have HG := Lib.hid hG; clear hG
      go_wp2_with fail
      refine (gcd16i _ _ _ (by omega) (by omega) (by omega) (by omega)).mono ?_
      rintro e w3 ⟨rfl, n3, rfl⟩
      rw [HG.out]
      go_wp2
      go_roundw
      case rel => exact ⟨2, n + n3, rfl, rfl, .inr (.inr ⟨rfl, by rw [HX.out, ← HE.out]⟩)⟩
      case measure => simp [intOf]
    · go_wp2
      go_ret2
      exact ⟨by show Ending.returned (.tuple #[.int .i64 (lcmI X q), .int .i64 0]) = _; rw [← HX.out, ← HM.out, ← HQ.out], ⟨S2.below.os, S2.below.tape, S2.below.output, S2.below.size, S2.below.block⟩⟩

set_option maxHeartbeats 400000 in
theorem level6_NP (L W D d : Int) (w : World) (hc : chkV L W D = 0) (hd : properB d = true) (hx : d < -d) (hy : -D ≤ D) :
    Calls Tryz.prog 6 #[.agg #[.int .i64 L, .int .i64 W, .int .i64 D], .int .i64 d] w fun e w' => e = .returned (.tuple #[.int .i64 (levV L D d), .int .i64 0]) ∧ RowKit.Below w.heap.size w w' := by
  obtain ⟨h1, h2, h5, h6, h7⟩ := chk_zero hc
  obtain ⟨d1, d2, d3⟩ := proper_range hd
  have a1 : absI d = -d := by unfold absI; omega
  have a2 : absI D = D := by unfold absI; omega
  have a3 : absI d * absI d = d * d := by rw [a1]; exact Int.neg_mul_neg d d
  unfold levV
  rw [a3, a1, a2]
  clear a1 a2 a3
  have HC := Lib.hid (fun w => ref_any L W D w)
  rw [hc] at HC
  have HD := Lib.hid (fun w => proper15 d w)
  rw [hd] at HD
  clear hc hd
  have p0 : 0 < -d * D := Int.mul_pos (by omega) (by omega)
  have p1 : -d * D ≤ 1000 * 120 := Int.mul_le_mul (by omega) (by omega) (by omega) (by omega)
  have s0 : 0 < d * d := Int.mul_pos_of_neg_of_neg (by omega) (by omega)
  have s1 : d * d ≤ 1000 * 1000 := by
    have h : -d * -d ≤ 1000 * 1000 := Int.mul_le_mul (by omega) (by omega) (by omega) (by omega)
    rwa [Int.neg_mul_neg] at h
  have l0 := lcmI_pos (show 0 < L by omega) p0
  have l1 : lcmI L (-d * D) ≤ 100000000 := by
    have q1 := lcmI_le (show 0 ≤ L by omega) (Int.le_of_lt p0)
    have q2 : L * (-d * D) ≤ 120 * (1000 * 120) := Int.mul_le_mul h2 p1 (by omega) (by omega)
    omega
  go_enter Tryz.func6, Tryz.ntmps6
  go_wp2_with fail
  refine (HC.out _).mono ?_
  rintro e w1 ⟨rfl, hb⟩
  have S1 := SpecAt.box hb; clear hb
  go_wp2_with fail
  refine (HD.out _).mono ?_
  rintro e w2 ⟨rfl, hb2⟩
  have S2 := S1.later hb2; clear hb2
  have e0 := S2.c0
  have e2 := S2.c2
  go_wp2_with fail
  clear e0 e2
  go_loopw [7, 35] (fun o i wr => LevRel L (-d * D) (d * d) w2 o i wr) (fun _ i _ => 2 - (intOf i).toNat)
  case atStart => exact ⟨0, 0, rfl, rfl, .inl ⟨rfl, rfl⟩⟩
  case round =>
    generalize hm : -d * D = m at *
    generalize hq : d * d = q at *
    have HM := Lib.hid hm; clear hm
    have HQ := Lib.hid hq; clear hq
    obtain ⟨k, n, rfl, rfl, hcase⟩ := hrel
    have i0 : ∀ w, (Instr.index 44 (.agg #[.int .i64 m, .int .i64 q]) (.int .i64 0)).run Tryz.prog w = .ok (.int .i64 m) w := fun _ => by kernel_rfl
    have i1 : ∀ w, (Instr.index 44 (.agg #[.int .i64 m, .int .i64 q]) (.int .i64 1)).run Tryz.prog w = .ok (.int .i64 q) w := fun _ => by kernel_rfl
    generalize hX : lcmI L m = X at *
    have HX := Lib.hid hX; clear hX
    rcases hcase with ⟨rfl, rfl⟩ | ⟨rfl, rfl⟩ | ⟨rfl, rfl⟩
    · obtain ⟨f1, f2, f3, f4⟩ := lcm_facts (a := L) (b := m) (by omega) (by omega) (by omega) (by omega)
      have g0 := gcdI_pos (a := L) (b := m) (by omega)
      have HE := Lib.hid (lcmI_eq L m (by omega) (by omega))
      generalize hG : gcdI L m = g at *
      have HG := Lib.hid hG; clear hG
      go_wp2_with fail
      refine (gcd16i _ _ _ (by omega) (by omega) (by omega) (by omega)).mono ?_
      rintro e w3 ⟨rfl, n3, rfl⟩
      rw [HG.out]
      go_wp2
      go_roundw
      case rel => exact ⟨1, n + n3, rfl, rfl, .inr (.inl ⟨rfl, by rw [HX.out] at HE; rw [← HE.out, HX.out]⟩)⟩
      case measure => simp [intOf]
    · obtain ⟨f1, f2, f3, f4⟩ := lcm_facts (a := X) (b := q) (by omega) (by omega) (by omega) (by omega)
      have g0 := gcdI_pos (a := X) (b := q) (by omega)
      have HE := Lib.hid (lcmI_eq X q (by omega) (by omega))
      generalize hG : gcdI X q = g at *
      have HG := Lib.hid hG; clear hG
      go_wp2_with fail
      refine (gcd16i _ _ _ (by omega) (by omega) (by omega) (by omega)).mono ?_
      rintro e w3 ⟨rfl, n3, rfl⟩
      rw [HG.out]
      go_wp2
      go_roundw
      case rel => exact ⟨2, n + n3, rfl, rfl, .inr (.inr ⟨rfl, by rw [HX.out, ← HE.out]⟩)⟩
      case measure => simp [intOf]
    · go_wp2
      go_ret2
      exact ⟨by show Ending.returned (.tuple #[.int .i64 (lcmI X q), .int .i64 0]) = _; rw [← HX.out, ← HM.out, ← HQ.out], ⟨S2.below.os, S2.below.tape, S2.below.output, S2.below.size, S2.below.block⟩⟩

set_option maxHeartbeats 400000 in
theorem level6_NN (L W D d : Int) (w : World) (hc : chkV L W D = 0) (hd : properB d = true) (hx : d < -d) (hy : D < -D) :
    Calls Tryz.prog 6 #[.agg #[.int .i64 L, .int .i64 W, .int .i64 D], .int .i64 d] w fun e w' => e = .returned (.tuple #[.int .i64 (levV L D d), .int .i64 0]) ∧ RowKit.Below w.heap.size w w' := by
  obtain ⟨h1, h2, h5, h6, h7⟩ := chk_zero hc
  obtain ⟨d1, d2, d3⟩ := proper_range hd
  have a1 : absI d = -d := by unfold absI; omega
  have a2 : absI D = -D := by unfold absI; omega
  have a3 : absI d * absI d = d * d := by rw [a1]; exact Int.neg_mul_neg d d
  unfold levV
  rw [a3, a1, a2]
  clear a1 a2 a3
  have HC := Lib.hid (fun w => ref_any L W D w)
  rw [hc] at HC
  have HD := Lib.hid (fun w => proper15 d w)
  rw [hd] at HD
  clear hc hd
  have p0 : 0 < -d * -D := Int.mul_pos (by omega) (by omega)
  have p1 : -d * -D ≤ 1000 * 120 := Int.mul_le_mul (by omega) (by omega) (by omega) (by omega)
  have s0 : 0 < d * d := Int.mul_pos_of_neg_of_neg (by omega) (by omega)
  have s1 : d * d ≤ 1000 * 1000 := by
    have h : -d * -d ≤ 1000 * 1000 := Int.mul_le_mul (by omega) (by omega) (by omega) (by omega)
    rwa [Int.neg_mul_neg] at h
  have l0 := lcmI_pos (show 0 < L by omega) p0
  have l1 : lcmI L (-d * -D) ≤ 100000000 := by
    have q1 := lcmI_le (show 0 ≤ L by omega) (Int.le_of_lt p0)
    have q2 : L * (-d * -D) ≤ 120 * (1000 * 120) := Int.mul_le_mul h2 p1 (by omega) (by omega)
    omega
  go_enter Tryz.func6, Tryz.ntmps6
  go_wp2_with fail
  refine (HC.out _).mono ?_
  rintro e w1 ⟨rfl, hb⟩
  have S1 := SpecAt.box hb; clear hb
  go_wp2_with fail
  refine (HD.out _).mono ?_
  rintro e w2 ⟨rfl, hb2⟩
  have S2 := S1.later hb2; clear hb2
  have e0 := S2.c0
  have e2 := S2.c2
  go_wp2_with fail
  clear e0 e2
  go_loopw [7, 35] (fun o i wr => LevRel L (-d * -D) (d * d) w2 o i wr) (fun _ i _ => 2 - (intOf i).toNat)
  case atStart => exact ⟨0, 0, rfl, rfl, .inl ⟨rfl, rfl⟩⟩
  case round =>
    generalize hm : -d * -D = m at *
    generalize hq : d * d = q at *
    have HM := Lib.hid hm; clear hm
    have HQ := Lib.hid hq; clear hq
    obtain ⟨k, n, rfl, rfl, hcase⟩ := hrel
    have i0 : ∀ w, (Instr.index 44 (.agg #[.int .i64 m, .int .i64 q]) (.int .i64 0)).run Tryz.prog w = .ok (.int .i64 m) w := fun _ => by kernel_rfl
    have i1 : ∀ w, (Instr.index 44 (.agg #[.int .i64 m, .int .i64 q]) (.int .i64 1)).run Tryz.prog w = .ok (.int .i64 q) w := fun _ => by kernel_rfl
    generalize hX : lcmI L m = X at *
    have HX := Lib.hid hX; clear hX
    rcases hcase with ⟨rfl, rfl⟩ | ⟨rfl, rfl⟩ | ⟨rfl, rfl⟩
    · obtain ⟨f1, f2, f3, f4⟩ := lcm_facts (a := L) (b := m) (by omega) (by omega) (by omega) (by omega)
      have g0 := gcdI_pos (a := L) (b := m) (by omega)
      have HE := Lib.hid (lcmI_eq L m (by omega) (by omega))
      generalize hG : gcdI L m = g at *
      have HG := Lib.hid hG; clear hG
      go_wp2_with fail
      refine (gcd16i _ _ _ (by omega) (by omega) (by omega) (by omega)).mono ?_
      rintro e w3 ⟨rfl, n3, rfl⟩
      rw [HG.out]
      go_wp2
      go_roundw
      case rel => exact ⟨1, n + n3, rfl, rfl, .inr (.inl ⟨rfl, by rw [HX.out] at HE; rw [← HE.out, HX.out]⟩)⟩
      case measure => simp [intOf]
    · obtain ⟨f1, f2, f3, f4⟩ := lcm_facts (a := X) (b := q) (by omega) (by omega) (by omega) (by omega)
      have g0 := gcdI_pos (a := X) (b := q) (by omega)
      have HE := Lib.hid (lcmI_eq X q (by omega) (by omega))
      generalize hG : gcdI X q = g at *
      have HG := Lib.hid hG; clear hG
      go_wp2_with fail
      refine (gcd16i _ _ _ (by omega) (by omega) (by omega) (by omega)).mono ?_
      rintro e w3 ⟨rfl, n3, rfl⟩
      rw [HG.out]
      go_wp2
      go_roundw
      case rel => exact ⟨2, n + n3, rfl, rfl, .inr (.inr ⟨rfl, by rw [HX.out, ← HE.out]⟩)⟩
      case measure => simp [intOf]
    · go_wp2
      go_ret2
      exact ⟨by show Ending.returned (.tuple #[.int .i64 (lcmI X q), .int .i64 0]) = _; rw [← HX.out, ← HM.out, ← HQ.out], ⟨S2.below.os, S2.below.tape, S2.below.output, S2.below.size, S2.below.block⟩⟩
end Go.Ex.KW

