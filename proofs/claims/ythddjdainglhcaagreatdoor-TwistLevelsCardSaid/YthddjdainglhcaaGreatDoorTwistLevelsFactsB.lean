/- The closed facts that the card of TwistLevels asks of the program. Conditions: none. -/
import Derived.Test.YthddjdainglhcaaGreatDoorRows
import Derived.Test.YthddjdainglhcaaGreatDoorCards
import Derived.JoinedOf
import Derived.RowKit
import Derived.SevenTiedAt
namespace Go.Proofs.YthddjdainglhcaaGreatDoor
open Go Go.ChangeShapes Go.RowKit
set_option maxRecDepth 100000
set_option maxHeartbeats 40000000
theorem namedP : Tryz.checked.prog.funcNamed Rows.twistLevelsRow.func = some 3 := by kernel_rfl
theorem instP : Tryz.f3.isInstance Tryz.checked.prog Rows.twistLevelsRow.origin Rows.twistLevelsRow.targs := of_decide_eq_true (by kernel_rfl)
theorem wrapP : Tryz.f3.isWrapper Tryz.checked.prog Rows.twistLevelsRow.wrapper Rows.twistLevelsRow.mainSum := by
  unfold Func.isWrapper
  rw [if_neg (of_decide_eq_false (by kernel_rfl))]
  exact ⟨rfl, rfl⟩
theorem wfP : Rows.twistLevelsRow.wfByText (OpenSpec.ofChange Rows.twistLevelsSpec) = true := by kernel_rfl
theorem mainP : Tryz.checked.prog.mainIs = some (true, "aecaa0d3dc155f600d953f77ae706818038aa4debbb3636023e7e4719e61dfa6".toList) := by kernel_rfl
theorem lookedP : false = Tryz.checked.prog.looks [] := by kernel_rfl
theorem wanted23 : Tryz.checked.prog.wantsStandIn 23 = false := by kernel_rfl
theorem wanted3 : Tryz.checked.prog.wantsStandIn 3 = false := by kernel_rfl
theorem goesP_none : Tryz.checked.prog.funcs.any Func.goes = false := by kernel_rfl
/-- where no function starts a goroutine no call does -/
theorem goesP_of {P : Program} (h : P.funcs.any Func.goes = false) (n : String) : false = P.goesAt .entering n := by
  have h1 : ∀ f : FuncId, P.goes f = false := fun f => by
    unfold Program.goes
    rw [h, Bool.and_false, Bool.or_false, List.any_eq_false]
    intro g _ hg
    cases hx : P.funcs[g]? with
    | none => rw [hx] at hg; cases hg
    | some fn =>
      rw [hx] at hg
      have hm := Array.mem_of_getElem? hx
      rw [Array.any_eq_false'] at h
      exact h fn hm hg
  unfold Program.goesAt Program.goesFrom
  cases P.funcNamed n with
  | none => rfl
  | some f =>
    show false = (P.goes f || false)
    rw [h1]
    rfl
theorem goesP : false = Rows.twistLevelsRow.goesBy Tryz.checked.prog := goesP_of goesP_none _
end Go.Proofs.YthddjdainglhcaaGreatDoor

