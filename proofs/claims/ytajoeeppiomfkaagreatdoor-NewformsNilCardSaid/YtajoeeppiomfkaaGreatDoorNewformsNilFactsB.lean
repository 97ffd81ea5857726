/- The closed facts that the card of NewformsNil asks of the program. Conditions: none. -/
import Derived.Test.YtajoeeppiomfkaaGreatDoorRows
import Derived.Test.YtajoeeppiomfkaaGreatDoorCards
import Derived.JoinedOf
import Derived.RowKit
import Derived.SevenTiedAt
namespace Go.Proofs.YtajoeeppiomfkaaGreatDoor
open Go Go.ChangeShapes Go.RowKit
set_option maxRecDepth 100000
set_option maxHeartbeats 40000000
theorem named : Tryz.checked.prog.funcNamed Rows.newformsNilRow.func = some 3 := by kernel_rfl
theorem inst : Tryz.f3.isInstance Tryz.checked.prog Rows.newformsNilRow.origin Rows.newformsNilRow.targs := of_decide_eq_true (by kernel_rfl)
theorem wrap : Tryz.f3.isWrapper Tryz.checked.prog Rows.newformsNilRow.wrapper Rows.newformsNilRow.mainSum := by
  unfold Func.isWrapper
  rw [if_neg (of_decide_eq_false (by kernel_rfl))]
  exact ⟨rfl, rfl⟩
theorem wf : Rows.newformsNilRow.wfByText (OpenSpec.ofChange Rows.newformsNilSpec) = true := by kernel_rfl
theorem main : Tryz.checked.prog.mainIs = some (true, "4a9479bb133d193a88983924006994885808dcc331701a0613d58a20041a3dc8".toList) := by kernel_rfl
theorem looked : false = Tryz.checked.prog.looks [] := by kernel_rfl
theorem wanted : Tryz.checked.prog.wantsStandIn 23 = false := by kernel_rfl
theorem goes_none : Tryz.checked.prog.funcs.any Func.goes = false := by kernel_rfl
/-- where no function starts a goroutine no call does -/
theorem goes_of {P : Program} (h : P.funcs.any Func.goes = false) (n : String) : false = P.goesAt .entering n := by
  have h1 : ∀ f : FuncId, P.goes f = false := fun f => by
    unfold Program.goes
    rw [h, Bool.and_false, Bool.or_false, List.any_eq_false]
    intro g _ hg
    cases hx : P.funcs[g]? with
    | none => rw [hx] at hg; cases hg
    | some fn =>
      rw [hx] at hg
      have hm := Array.mem_of_getElem? hx
      rw [Array.any_eq_false'] at h
      exact h fn hm hg
  unfold Program.goesAt Program.goesFrom
  cases P.funcNamed n with
  | none => rfl
  | some f =>
    show false = (P.goes f || false)
    rw [h1]
    rfl
theorem goes : false = Rows.newformsNilRow.goesBy Tryz.checked.prog := goes_of goes_none _
end Go.Proofs.YtajoeeppiomfkaaGreatDoor
