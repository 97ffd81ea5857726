/- What the small functions that the law calls return: greatest common divisors, least common multiples, discriminants, psi. Conditions: bounds on the arguments, stated at each theorem. -/
import Derived.Test.YthddjdainglhcaaGreatDoorProg
import Derived.WalkKit
import Derived.WalkSpells
import Derived.WalkLawsBesides
import Derived.BigQuiet
import Derived.Deep.QuietTactic
import Derived.Lib.Hide
import Derived.IntWalk
import Derived.Test.YthddjdainglhcaaGreatDoorChain
import Derived.Test.YthddjdainglhcaaGreatDoorScalar
import Derived.Test.YthddjdainglhcaaGreatDoorPartA
import Derived.Test.YthddjdainglhcaaGreatDoorPartB
import Derived.Test.YthddjdainglhcaaGreatDoorPartC
import Derived.Test.YthddjdainglhcaaGreatDoorPartD
import Derived.Test.YthddjdainglhcaaGreatDoorPartE
import Derived.Test.YthddjdainglhcaaGreatDoorPartF
import Derived.Below
namespace Go.Ex.KW
open Go Go.RowKit Go.Proofs

theorem gcd_step (a b : Nat) : Nat.gcd b (a % b) = Nat.gcd a b := by rw [Nat.gcd_comm, ← Nat.gcd_rec, Nat.gcd_comm]

/-- the state of Euclid's loop -/
def GcdRel (g : Nat) (w : World) (x y : Value) (wr : World) : Prop := ∃ p q n : Nat, x = .int .i64 p ∧ y = .int .i64 q ∧ Nat.gcd p q = g ∧ p ≤ 1000000000000 ∧ q ≤ 1000000000000 ∧ wr = w.drewN n

set_option maxHeartbeats 400000 in
theorem gcd16 (a b : Nat) (w : World) (ha : a ≤ 1000000000000) (hb : b ≤ 1000000000000) :
    Calls Tryz.prog 16 #[.int .i64 a, .int .i64 b] w fun e w' => e = .returned (.int .i64 (Nat.gcd a b : Nat)) ∧ ∃ n, w' = w.drewN n := by
  go_enter Tryz.func16, Tryz.ntmps16
  go_wp2
  go_loopw [0, 1] (fun x y wr => GcdRel (Nat.gcd a b) w x y wr) (fun _ y _ => (intOf y).toNat)
  case atStart => exact ⟨a, b, 0, rfl, rfl, rfl, ha, hb, rfl⟩
  case round =>
    obtain ⟨p, q, n, rfl, rfl, hg, hp, hq, rfl⟩ := hrel
    have G := Lib.hid hg; clear hg
    by_cases h0 : q = 0
    · subst h0
      go_wp2
      go_ret
      exact ⟨by rw [← G.out, Nat.gcd_zero_right]; rfl, n, rfl⟩
    · have hpos : 0 < q := Nat.pos_of_ne_zero h0
      go_wp2
      go_quiet (fail)
      go_roundw
      case rel => refine ⟨_, _, _, _, _, _, _, _, ?_, rfl⟩; exact ⟨q, p % q, n + nq, rfl, rfl, by rw [gcd_step]; exact G.out, hq, Nat.le_trans (Nat.le_of_lt (Nat.mod_lt p hpos)) hq, World.drewN_drewN ..⟩
      case measure => simp [intOf]; have := Nat.mod_lt p hpos; omega

set_option maxHeartbeats 400000 in
theorem gcd30 (a b : Nat) (w : World) (ha : a ≤ 1000000000000) (hb : b ≤ 1000000000000) :
    Calls Tryz.prog 30 #[.int .i64 a, .int .i64 b] w fun e w' => e = .returned (.int .i64 (Nat.gcd a b : Nat)) ∧ ∃ n, w' = w.drewN n := by
  go_enter Tryz.func30, Tryz.ntmps30
  go_wp2
  go_loopw [0, 1] (fun x y wr => GcdRel (Nat.gcd a b) w x y wr) (fun _ y _ => (intOf y).toNat)
  case atStart => exact ⟨a, b, 0, rfl, rfl, rfl, ha, hb, rfl⟩
  case round =>
    obtain ⟨p, q, n, rfl, rfl, hg, hp, hq, rfl⟩ := hrel
    have G := Lib.hid hg; clear hg
    by_cases h0 : q = 0
    · subst h0
      go_wp2
      go_ret
      exact ⟨by rw [← G.out, Nat.gcd_zero_right]; rfl, n, rfl⟩
    · have hpos : 0 < q := Nat.pos_of_ne_zero h0
      have hne : ((q : Int) == 0) = false := beq_false_of_ne (by omega)
      have hne' : ((q : Int) != 0) = true := by rw [bne, hne]; rfl
      go_wp2
      go_quiet (fail)
      go_roundw
      case rel => refine ⟨_, _, _, _, _, _, _, _, ?_, rfl⟩; exact ⟨q, p % q, n + nq, rfl, rfl, by rw [gcd_step]; exact G.out, hq, Nat.le_trans (Nat.le_of_lt (Nat.mod_lt p hpos)) hq, World.drewN_drewN ..⟩
      case measure => simp [intOf]; have := Nat.mod_lt p hpos; omega
end Go.Ex.KW

namespace Go.Ex.KW
open Go Go.Proofs
set_option maxRecDepth 100000

theorem opq0 : ∀ i, ((fun _ => Value.bool true : Nat → Value) i).oneCell' = true := fun _ => rfl
/-- nothing is known of memory -/
theorem hr_empty {ω : Nat → Value} (w : World) : ∃ ρ, HR Tryz.prog ρ ω hE w ∧ GlobOk Tryz.prog ρ := by
  let ρ : Pth → Option BI := fun id => if id = key id.toNat ∧ id.toNat < 2 then some ⟨id.toNat, 0, 0⟩ else none
  have hd : ∀ id, hE.m.get .dead id = AObj.dead := fun id => get_nil _ _
  refine ⟨ρ, ⟨fun id => ?_, fun a b ia ib ho => ?_, fun id i h => ?_⟩, fun g hg => ?_⟩
  · rw [hd]; trivial
  · rw [hd] at ho; cases ho
  · show id.toNat < q2.toNat
    simp only [ρ] at h
    by_cases hx : id = key id.toNat ∧ id.toNat < 2
    · exact hx.2
    · rw [if_neg hx] at h; cases h
  · rw [gsize] at hg
    refine ⟨⟨g, 0, 0⟩, ?_, rfl, rfl⟩
    simp only [ρ, key_toNat]
    rw [if_pos ⟨trivial, hg⟩]

/-- a function of one integer, run -/
theorem scalar {f : Nat} {d : Int} {v : AVal} {H' : AH} (h : runS (key f) d = .ok v H') (w : World) :
    Calls Tryz.prog f #[.int .i64 d] w fun e w' => (∃ ρ' v', e = .returned v' ∧ VR ρ' (fun _ => Value.bool true) v v') ∧ Go.RowKit.Below w.heap.size w w' := by
  obtain ⟨ρ, hr, hg⟩ := hr_empty (ω := fun _ => Value.bool true) w
  unfold runS at h
  rw [callG_eq] at h
  have hcf := callF_sound opq0 follows tab0 h hr hg (.cons (.int .i64 d) .nil)
  refine (hcf.calls fun k => room_wide k).mono fun e w' he => ?_
  cases e with
  | panicked x => exact he.elim
  | outgrown => exact he.elim
  | returned v =>
    obtain ⟨ρ', hv, hs⟩ := he
    exact ⟨⟨ρ', v, rfl, hv⟩, ⟨hs.os, hs.tape, hs.output, hs.size, hs.kept fun id => by rw [show hE.m.get .dead id = AObj.dead from get_nil _ _]; rfl⟩⟩

theorem boolEq_eq {a b : Bool} (h : boolEq a b = true) : a = b := by cases a <;> cases b <;> first | rfl | cases h
theorem intEq_iff {a b : Int} : intEq a b = true ↔ a = b := by
  cases a <;> cases b <;> simp [intEq] <;> omega
theorem allL_mem {f : Int → Bool} : ∀ {l : List Int}, allL f l = true → ∀ d ∈ l, f d = true
  | [], _, _, h => by cases h
  | a :: l, h, d, hd => by
    unfold allL at h
    rw [Bool.and_eq_true] at h
    cases hd with
    | head => exact h.1
    | tail _ hd => exact allL_mem h.2 d hd
theorem allL_range {f : Int → Bool} {l : List Int} {n : Nat} {lo : Int} (h : allL f l = true) (hl : l = (List.range n).map fun (k : Nat) => lo + (k : Int)) {d : Int} (h1 : lo ≤ d) (h2 : d < lo + n) : f d = true := by
  refine allL_mem h d ?_
  rw [hl, List.mem_map]
  exact ⟨(d - lo).toNat, List.mem_range.2 (by omega), by omega⟩
theorem okBool_some {b : Bool} {r : R} (h : okBool b r = true) : ∃ H, r = .ok (.bool b) H := by
  unfold okBool at h
  split at h
  · rw [boolEq_eq h]; exact ⟨_, rfl⟩
  · cases h
theorem okFund_some {b : Bool} {r : R} (h : okFund b r = true) : ∃ a f e H, r = .ok (.tup [.int .i64 a, .int .i64 f, .int .i64 e]) H ∧ (decide (e = 0 ∧ f = 1) = b) := by
  unfold okFund at h
  split at h
  · rename_i a f e H
    refine ⟨a, f, e, H, rfl, ?_⟩
    rw [← boolEq_eq h, Bool.eq_iff_iff]
    simp [intEq_iff]
  · cases h
theorem okPair_some {n : Int} {r : R} (h : okPair n r = true) : ∃ H, r = .ok (.tup [.int .i64 n, .int .i64 0]) H := by
  unfold okPair at h
  split at h
  · simp only [Bool.and_eq_true, intEq_iff] at h
    obtain ⟨rfl, rfl⟩ := h
    exact ⟨_, rfl⟩
  · cases h
theorem okInt_some {n : Int} {r : R} (h : okInt n r = true) : ∃ H, r = .ok (.int .i64 n) H := by
  unfold okInt at h
  split at h
  · simp only [intEq_iff] at h
    subst h
    exact ⟨_, rfl⟩
  · cases h
theorem vr_int {ρ : Pth → Option BI} {ω : Nat → Value} {k : IntKind} {n : Int} {v : Value} (h : VR ρ ω (.int k n) v) : v = .int k n := by cases h; rfl
theorem vr_bool {ρ : Pth → Option BI} {ω : Nat → Value} {b : Bool} {v : Value} (h : VR ρ ω (.bool b) v) : v = .bool b := by cases h; rfl
theorem vr_two {ρ : Pth → Option BI} {ω : Nat → Value} {k l : IntKind} {a b : Int} {v : Value} (h : VR ρ ω (.tup [.int k a, .int l b]) v) : v = .tuple #[.int k a, .int l b] := by
  cases h with
  | tup _ vs h =>
    cases h with | cons h1 h => cases h with | cons h2 h => cases h; rw [vr_int h1, vr_int h2]
theorem vr_three {ρ : Pth → Option BI} {ω : Nat → Value} {k l m : IntKind} {a b c : Int} {v : Value} (h : VR ρ ω (.tup [.int k a, .int l b, .int m c]) v) : v = .tuple #[.int k a, .int l b, .int m c] := by
  cases h with
  | tup _ vs h =>
    cases h with | cons h1 h => cases h with | cons h2 h => cases h with | cons h3 h => cases h; rw [vr_int h1, vr_int h2, vr_int h3]
theorem t12 {d : Int} (h1 : -1000 ≤ d) (h2 : d ≤ 1000) : okBool (fundB d) (runS (key 12) d) = true := by
  rcases Int.lt_or_le (-416) d with h | h
  rotate_left
  · exact allL_range (f := fun d => okBool (fundB d) (runS (key 12) d)) u0 v0 (by omega) (by omega)
  rcases Int.lt_or_le 169 d with h | h
  rotate_left
  · exact allL_range (f := fun d => okBool (fundB d) (runS (key 12) d)) u1 v1 (by omega) (by omega)
  rcases Int.lt_or_le 754 d with h | h
  rotate_left
  · exact allL_range (f := fun d => okBool (fundB d) (runS (key 12) d)) u2 v2 (by omega) (by omega)
  exact allL_range (f := fun d => okBool (fundB d) (runS (key 12) d)) u3 v3 (by omega) (by omega)
theorem t15 {d : Int} (h1 : -1000 ≤ d) (h2 : d ≤ 1000) : okBool (fundB d) (runS (key 15) d) = true := by
  rcases Int.lt_or_le 642 d with h | h
  rotate_left
  · exact allL_range (f := fun d => okBool (fundB d) (runS (key 15) d)) u4 v4 (by omega) (by omega)
  exact allL_range (f := fun d => okBool (fundB d) (runS (key 15) d)) u5 v5 (by omega) (by omega)
theorem t28 {d : Int} (h1 : -120 ≤ d) (h2 : d ≤ 120) : okFund (fundB d) (runS (key 28) d) = true := by
  exact allL_range (f := fun d => okFund (fundB d) (runS (key 28) d)) u6 v6 (by omega) (by omega)
theorem t31 {d : Int} (h1 : -120 ≤ d) (h2 : d ≤ 120) : okBool (fundB d && !(intEq d 1)) (runS (key 31) d) = true := by
  exact allL_range (f := fun d => okBool (fundB d && !(intEq d 1)) (runS (key 31) d)) u7 v7 (by omega) (by omega)
theorem t29 {d : Int} (h1 : 1 ≤ d) (h2 : d ≤ 120) : okPair (psiT d) (runS (key 29) d) = true := by
  exact allL_range (f := fun d => okPair (psiT d) (runS (key 29) d)) u8 v8 (by omega) (by omega)
theorem t32 {d : Int} (h1 : 1 ≤ d) (h2 : d ≤ 120) : okInt (psiT d) (runS (key 32) d) = true := by
  rcases Int.lt_or_le 42 d with h | h
  rotate_left
  · exact allL_range (f := fun d => okInt (psiT d) (runS (key 32) d)) u9 v9 (by omega) (by omega)
  rcases Int.lt_or_le 53 d with h | h
  rotate_left
  · exact allL_range (f := fun d => okInt (psiT d) (runS (key 32) d)) u10 v10 (by omega) (by omega)
  rcases Int.lt_or_le 61 d with h | h
  rotate_left
  · exact allL_range (f := fun d => okInt (psiT d) (runS (key 32) d)) u11 v11 (by omega) (by omega)
  rcases Int.lt_or_le 67 d with h | h
  rotate_left
  · exact allL_range (f := fun d => okInt (psiT d) (runS (key 32) d)) u12 v12 (by omega) (by omega)
  rcases Int.lt_or_le 72 d with h | h
  rotate_left
  · exact allL_range (f := fun d => okInt (psiT d) (runS (key 32) d)) u13 v13 (by omega) (by omega)
  rcases Int.lt_or_le 76 d with h | h
  rotate_left
  · exact allL_range (f := fun d => okInt (psiT d) (runS (key 32) d)) u14 v14 (by omega) (by omega)
  rcases Int.lt_or_le 80 d with h | h
  rotate_left
  · exact allL_range (f := fun d => okInt (psiT d) (runS (key 32) d)) u15 v15 (by omega) (by omega)
  rcases Int.lt_or_le 83 d with h | h
  rotate_left
  · exact allL_range (f := fun d => okInt (psiT d) (runS (key 32) d)) u16 v16 (by omega) (by omega)
  rcases Int.lt_or_le 86 d with h | h
  rotate_left
  · exact allL_range (f := fun d => okInt (psiT d) (runS (key 32) d)) u17 v17 (by omega) (by omega)
  rcases Int.lt_or_le 89 d with h | h
  rotate_left
  · exact allL_range (f := fun d => okInt (psiT d) (runS (key 32) d)) u18 v18 (by omega) (by omega)
  rcases Int.lt_or_le 92 d with h | h
  rotate_left
  · exact allL_range (f := fun d => okInt (psiT d) (runS (key 32) d)) u19 v19 (by omega) (by omega)
  rcases Int.lt_or_le 95 d with h | h
  rotate_left
  · exact allL_range (f := fun d => okInt (psiT d) (runS (key 32) d)) u20 v20 (by omega) (by omega)
  rcases Int.lt_or_le 97 d with h | h
  rotate_left
  · exact allL_range (f := fun d => okInt (psiT d) (runS (key 32) d)) u21 v21 (by omega) (by omega)
  rcases Int.lt_or_le 99 d with h | h
  rotate_left
  · exact allL_range (f := fun d => okInt (psiT d) (runS (key 32) d)) u22 v22 (by omega) (by omega)
  rcases Int.lt_or_le 101 d with h | h
  rotate_left
  · exact allL_range (f := fun d => okInt (psiT d) (runS (key 32) d)) u23 v23 (by omega) (by omega)
  rcases Int.lt_or_le 103 d with h | h
  rotate_left
  · exact allL_range (f := fun d => okInt (psiT d) (runS (key 32) d)) u24 v24 (by omega) (by omega)
  rcases Int.lt_or_le 105 d with h | h
  rotate_left
  · exact allL_range (f := fun d => okInt (psiT d) (runS (key 32) d)) u25 v25 (by omega) (by omega)
  rcases Int.lt_or_le 107 d with h | h
  rotate_left
  · exact allL_range (f := fun d => okInt (psiT d) (runS (key 32) d)) u26 v26 (by omega) (by omega)
  rcases Int.lt_or_le 109 d with h | h
  rotate_left
  · exact allL_range (f := fun d => okInt (psiT d) (runS (key 32) d)) u27 v27 (by omega) (by omega)
  rcases Int.lt_or_le 111 d with h | h
  rotate_left
  · exact allL_range (f := fun d => okInt (psiT d) (runS (key 32) d)) u28 v28 (by omega) (by omega)
  rcases Int.lt_or_le 113 d with h | h
  rotate_left
  · exact allL_range (f := fun d => okInt (psiT d) (runS (key 32) d)) u29 v29 (by omega) (by omega)
  rcases Int.lt_or_le 115 d with h | h
  rotate_left
  · exact allL_range (f := fun d => okInt (psiT d) (runS (key 32) d)) u30 v30 (by omega) (by omega)
  rcases Int.lt_or_le 116 d with h | h
  rotate_left
  · exact allL_range (f := fun d => okInt (psiT d) (runS (key 32) d)) u31 v31 (by omega) (by omega)
  rcases Int.lt_or_le 117 d with h | h
  rotate_left
  · exact allL_range (f := fun d => okInt (psiT d) (runS (key 32) d)) u32 v32 (by omega) (by omega)
  rcases Int.lt_or_le 118 d with h | h
  rotate_left
  · exact allL_range (f := fun d => okInt (psiT d) (runS (key 32) d)) u33 v33 (by omega) (by omega)
  rcases Int.lt_or_le 119 d with h | h
  rotate_left
  · exact allL_range (f := fun d => okInt (psiT d) (runS (key 32) d)) u34 v34 (by omega) (by omega)
  exact allL_range (f := fun d => okInt (psiT d) (runS (key 32) d)) u35 v35 (by omega) (by omega)

theorem call12 {d : Int} (h1 : -1000 ≤ d) (h2 : d ≤ 1000) (w : World) : Calls Tryz.prog 12 #[.int .i64 d] w fun e w' => e = .returned (.bool (fundB d)) ∧ Go.RowKit.Below w.heap.size w w' := by
  obtain ⟨H, h⟩ := okBool_some (t12 h1 h2)
  refine (scalar h w).mono fun e w' ⟨⟨_, _, he, hv⟩, hb⟩ => ⟨?_, hb⟩
  rw [he, vr_bool hv]
theorem call15 {d : Int} (h1 : -1000 ≤ d) (h2 : d ≤ 1000) (w : World) : Calls Tryz.prog 15 #[.int .i64 d] w fun e w' => e = .returned (.bool (fundB d)) ∧ Go.RowKit.Below w.heap.size w w' := by
  obtain ⟨H, h⟩ := okBool_some (t15 h1 h2)
  refine (scalar h w).mono fun e w' ⟨⟨_, _, he, hv⟩, hb⟩ => ⟨?_, hb⟩
  rw [he, vr_bool hv]
theorem call31 {d : Int} (h1 : -120 ≤ d) (h2 : d ≤ 120) (w : World) : Calls Tryz.prog 31 #[.int .i64 d] w fun e w' => e = .returned (.bool (fundB d && !(intEq d 1))) ∧ Go.RowKit.Below w.heap.size w w' := by
  obtain ⟨H, h⟩ := okBool_some (t31 h1 h2)
  refine (scalar h w).mono fun e w' ⟨⟨_, _, he, hv⟩, hb⟩ => ⟨?_, hb⟩
  rw [he, vr_bool hv]
theorem call28 {d : Int} (h1 : -120 ≤ d) (h2 : d ≤ 120) : ∃ a f z : Int, decide (z = 0 ∧ f = 1) = fundB d ∧ ∀ w : World, Calls Tryz.prog 28 #[.int .i64 d] w fun e w' => e = .returned (.tuple #[.int .i64 a, .int .i64 f, .int .i64 z]) ∧ Go.RowKit.Below w.heap.size w w' := by
  obtain ⟨a, f, z, H, h, hz⟩ := okFund_some (t28 h1 h2)
  refine ⟨a, f, z, hz, fun w => (scalar h w).mono fun e w' ⟨⟨_, _, he, hv⟩, hb⟩ => ⟨?_, hb⟩⟩
  rw [he, vr_three hv]
theorem call29 {d : Int} (h1 : 1 ≤ d) (h2 : d ≤ 120) (w : World) : Calls Tryz.prog 29 #[.int .i64 d] w fun e w' => e = .returned (.tuple #[.int .i64 (psiT d), .int .i64 0]) ∧ Go.RowKit.Below w.heap.size w w' := by
  obtain ⟨H, h⟩ := okPair_some (t29 h1 h2)
  refine (scalar h w).mono fun e w' ⟨⟨_, _, he, hv⟩, hb⟩ => ⟨?_, hb⟩
  rw [he, vr_two hv]
theorem call32 {d : Int} (h1 : 1 ≤ d) (h2 : d ≤ 120) (w : World) : Calls Tryz.prog 32 #[.int .i64 d] w fun e w' => e = .returned (.int .i64 (psiT d)) ∧ Go.RowKit.Below w.heap.size w w' := by
  obtain ⟨H, h⟩ := okInt_some (t32 h1 h2)
  refine (scalar h w).mono fun e w' ⟨⟨_, _, he, hv⟩, hb⟩ => ⟨?_, hb⟩
  rw [he, vr_int hv]
end Go.Ex.KW

namespace Go.Ex.KW
open Go Go.RowKit Go.Proofs

set_option maxHeartbeats 400000 in
theorem lcm13 (a b : Nat) (w : World) (ha : a ≤ 100000000) (ha0 : 0 < a) (hb : b ≤ 10000000) :
    Calls Tryz.prog 13 #[.int .i64 a, .int .i64 b] w fun e w' => e = .returned (.int .i64 (a / Nat.gcd a b * b : Nat)) ∧ ∃ n, w' = w.drewN n := by
  have hg := Nat.gcd_pos_of_pos_left b ha0
  have hd : a / Nat.gcd a b ≤ 100000000 := Nat.le_trans (Nat.div_le_self _ _) ha
  have hm : a / Nat.gcd a b * b ≤ 100000000 * 10000000 := Nat.mul_le_mul hd hb
  generalize hG : Nat.gcd a b = g at hg hd hm ⊢
  have HG := Lib.hid hG; clear hG
  have hg0 : 0 < (g : Int) := by omega
  have hdi : (a : Int) / (g : Int) ≤ 100000000 := by
    have : ((a / g : Nat) : Int) ≤ 100000000 := by omega
    rwa [Int.natCast_ediv] at this
  have hdi0 : 0 ≤ (a : Int) / (g : Int) := Int.ediv_nonneg (by omega) (by omega)
  have hmi : (a : Int) / (g : Int) * (b : Int) ≤ 1000000000000000 := by
    have : ((a / g * b : Nat) : Int) ≤ 1000000000000000 := by omega
    rwa [Int.natCast_mul, Int.natCast_ediv] at this
  have hmi0 : 0 ≤ (a : Int) / (g : Int) * (b : Int) := Int.mul_nonneg hdi0 (by omega)
  go_enter Tryz.func13, Tryz.ntmps13
  go_wp2_with fail
  refine (gcd30 a b _ (by omega) (by omega)).mono ?_
  rintro e w' ⟨rfl, n, rfl⟩
  rw [HG.out]
  go_wp2
  go_ret
  exact ⟨by rw [Int.natCast_mul, Int.natCast_ediv]; rfl, n, rfl⟩
set_option maxHeartbeats 400000 in
theorem out12 (d : Int) (w : World) (h : d < -1000 ∨ 1000 < d) :
    Calls Tryz.prog 12 #[.int .i64 d] w fun e w' => e = .returned (.bool false) ∧ w' = w := by
  go_enter Tryz.func12, Tryz.ntmps12
  rcases h with h | h
  · go_wp2
    go_ret
    exact ⟨rfl, rfl⟩
  · have h' : -1000 ≤ d := by omega
    go_wp2
    go_ret
    exact ⟨rfl, rfl⟩
set_option maxHeartbeats 400000 in
theorem out15 (d : Int) (w : World) (h : d < -1000 ∨ 1000 < d) :
    Calls Tryz.prog 15 #[.int .i64 d] w fun e w' => e = .returned (.bool false) ∧ w' = w := by
  go_enter Tryz.func15, Tryz.ntmps15
  rcases h with h | h
  · go_wp2
    go_ret
    exact ⟨rfl, rfl⟩
  · have h' : -1000 ≤ d := by omega
    go_wp2
    go_ret
    exact ⟨rfl, rfl⟩
/-- the least common multiple as both programs compute it -/
def lcmI (a b : Int) : Int := ((a.toNat / Nat.gcd a.toNat b.toNat * b.toNat : Nat) : Int)
theorem lcm13i (a b : Int) (w : World) (h0 : 0 < a) (ha : a ≤ 100000000) (hb0 : 0 ≤ b) (hb : b ≤ 10000000) :
    Calls Tryz.prog 13 #[.int .i64 a, .int .i64 b] w fun e w' => e = .returned (.int .i64 (lcmI a b)) ∧ ∃ n, w' = w.drewN n := by
  obtain ⟨x, rfl⟩ := Int.eq_ofNat_of_zero_le (Int.le_of_lt h0)
  obtain ⟨y, rfl⟩ := Int.eq_ofNat_of_zero_le hb0
  exact lcm13 x y w (by omega) (by omega) (by omega)
def gcdI (a b : Int) : Int := (Nat.gcd a.toNat b.toNat : Int)
theorem gcd16i (a b : Int) (w : World) (h0 : 0 ≤ a) (ha : a ≤ 1000000000000) (hb0 : 0 ≤ b) (hb : b ≤ 1000000000000) :
    Calls Tryz.prog 16 #[.int .i64 a, .int .i64 b] w fun e w' => e = .returned (.int .i64 (gcdI a b)) ∧ ∃ n, w' = w.drewN n := by
  obtain ⟨x, rfl⟩ := Int.eq_ofNat_of_zero_le h0
  obtain ⟨y, rfl⟩ := Int.eq_ofNat_of_zero_le hb0
  exact gcd16 x y w (by omega) (by omega)
theorem lcmI_eq (a b : Int) (h0 : 0 ≤ a) (hb : 0 ≤ b) : lcmI a b = a / gcdI a b * b := by
  obtain ⟨x, rfl⟩ := Int.eq_ofNat_of_zero_le h0
  obtain ⟨y, rfl⟩ := Int.eq_ofNat_of_zero_le hb
  unfold lcmI gcdI
  simp only [Int.toNat_natCast]
  rw [Int.natCast_mul, Int.natCast_ediv]
theorem gcdI_pos {a b : Int} (h : 0 < a) : 0 < gcdI a b := by
  unfold gcdI
  have := Nat.gcd_pos_of_pos_left b.toNat (show 0 < a.toNat by omega)
  omega
theorem gcdI_le {a b : Int} (h : 0 < a) : gcdI a b ≤ a := by
  unfold gcdI
  have := Nat.gcd_le_left b.toNat (show 0 < a.toNat by omega)
  omega
theorem lcmI_pos {a b : Int} (h : 0 < a) (hb : 0 < b) : 0 < lcmI a b := by
  unfold lcmI
  have h1 : 0 < a.toNat / Nat.gcd a.toNat b.toNat := Nat.div_pos (Nat.gcd_le_left _ (by omega)) (Nat.gcd_pos_of_pos_left _ (by omega))
  have := Nat.mul_pos h1 (show 0 < b.toNat by omega)
  omega
theorem lcmI_le {a b : Int} (h : 0 ≤ a) (hb : 0 ≤ b) : lcmI a b ≤ a * b := by
  obtain ⟨x, rfl⟩ := Int.eq_ofNat_of_zero_le h
  obtain ⟨y, rfl⟩ := Int.eq_ofNat_of_zero_le hb
  unfold lcmI
  simp only [Int.toNat_natCast]
  have := Nat.mul_le_mul_right y (Nat.div_le_self x (Nat.gcd x y))
  have h2 : ((x / x.gcd y * y : Nat) : Int) ≤ ((x * y : Nat) : Int) := by omega
  rwa [Int.natCast_mul x y] at h2
end Go.Ex.KW

