/- The law TwistLevels, called at any Spec and discriminant, returns true and leaves what was in memory as it was. Conditions: the table of package math/bits holds its values. -/
import Derived.Test.YthddjdainglhcaaGreatDoorAwake
import Derived.Test.YthddjdainglhcaaGreatDoorLevel
namespace Go.Ex.KW
open Go Go.RowKit Go.Proofs

/-- what both calls of the law return -/
def ansN (L W D d : Int) : Int := if chkV L W D = 0 then (if properB d = true then levV L D d else 0) else 0
def ansE (L W D d : Int) : Int := if chkV L W D = 0 then (if properB d = true then 0 else 15) else chkV L W D
theorem level5_any (L W D d : Int) (w : World) :
    Calls Tryz.prog 5 #[.agg #[.int .i64 L, .int .i64 W, .int .i64 D], .int .i64 d] w fun e w' => e = .returned (.tuple #[.int .i64 (ansN L W D d), .int .i64 (ansE L W D d)]) ∧ RowKit.Below w.heap.size w w' := by
  unfold ansN ansE
  by_cases hc : chkV L W D = 0
  · rw [if_pos hc, if_pos hc]
    cases hd : properB d with
    | false =>
      rw [if_neg (by simp), if_neg (by simp)]
      exact level5_disc L W D d w hc hd
    | true =>
      rw [if_pos rfl, if_pos rfl]
      rcases Int.lt_or_le d (-d) with hx | hx <;> rcases Int.lt_or_le D (-D) with hy | hy
      · exact level5_NN L W D d w hc hd hx hy
      · exact level5_NP L W D d w hc hd hx hy
      · exact level5_PN L W D d w hc hd hx hy
      · exact level5_PP L W D d w hc hd hx hy
  · rw [if_neg hc, if_neg hc]
    exact level5_bad L W D d w hc
theorem level6_any (L W D d : Int) (w : World) :
    Calls Tryz.prog 6 #[.agg #[.int .i64 L, .int .i64 W, .int .i64 D], .int .i64 d] w fun e w' => e = .returned (.tuple #[.int .i64 (ansN L W D d), .int .i64 (ansE L W D d)]) ∧ RowKit.Below w.heap.size w w' := by
  unfold ansN ansE
  by_cases hc : chkV L W D = 0
  · rw [if_pos hc, if_pos hc]
    cases hd : properB d with
    | false =>
      rw [if_neg (by simp), if_neg (by simp)]
      exact level6_disc L W D d w hc hd
    | true =>
      rw [if_pos rfl, if_pos rfl]
      rcases Int.lt_or_le d (-d) with hx | hx <;> rcases Int.lt_or_le D (-D) with hy | hy
      · exact level6_NN L W D d w hc hd hx hy
      · exact level6_NP L W D d w hc hd hx hy
      · exact level6_PN L W D d w hc hd hx hy
      · exact level6_PP L W D d w hc hd hx hy
  · rw [if_neg hc, if_neg hc]
    exact level6_bad L W D d w hc

theorem tabIs_alloc {w : World} {o : Obj} {s : String} {k : IntKind} {l : List Int} (h : Lib.TabIs Tryz.prog w s k l) : Lib.TabIs Tryz.prog (w.alloc o) s k l := by
  unfold Lib.TabIs World.var? at h ⊢
  cases hg : Tryz.prog.globalNamed s with
  | none => rw [hg] at h; exact absurd h (by simp)
  | some g =>
    rw [hg] at h
    simp only [Option.bind_some] at h ⊢
    cases hq : w.heap[g]? with
    | none => rw [hq] at h; simp at h
    | some x =>
      have : (w.alloc o).heap[g]? = some x := by
        rw [RowKit.Below.heap_alloc w o g (Array.getElem?_eq_some_iff.1 hq).1]; exact hq
      rw [this]; rw [hq] at h; exact h

set_option maxHeartbeats 400000 in
theorem law (L W D d : Int) (w : World) (ht : Lib.TabIs Tryz.prog w "math/bits.deBruijn64tab" .u8 zs) :
    Calls Tryz.prog 3 #[.agg #[.int .i64 L, .int .i64 W, .int .i64 D], .int .i64 d] w fun e w' => e = .returned (.bool true) ∧ RowKit.Below w.heap.size w w' := by
  have HT := Lib.hid ht; clear ht
  have H5 := Lib.hid (fun w => level5_any L W D d w)
  have H6 := Lib.hid (fun w => level6_any L W D d w)
  generalize ansN L W D d = n at *
  generalize ansE L W D d = z at *
  have hn : (n == n) = true := beq_self_eq_true n
  have hz : (z == z) = true := beq_self_eq_true z
  go_enter Tryz.func3, Tryz.ntmps3
  go_wp2_with fail
  refine (awake_any _ (tabIs_alloc HT.out)).mono ?_
  rintro e w1 ⟨rfl, hb⟩
  have S1 := SpecAt.box hb; clear hb
  have e0 := S1.c0
  have e1 := S1.c1
  have e2 := S1.c2
  go_wp2_with fail
  refine (H5.out _).mono ?_
  rintro e w2 ⟨rfl, hb2⟩
  have S2 := S1.later hb2; clear hb2 e0 e1 e2
  have e0 := S2.c0
  have e1 := S2.c1
  have e2 := S2.c2
  go_wp2_with fail
  refine (H6.out _).mono ?_
  rintro e w3 ⟨rfl, hb3⟩
  have S3 := S2.later hb3; clear hb3 e0 e1 e2
  go_wp2
  go_ret
  exact ⟨rfl, S3.below⟩
end Go.Ex.KW

