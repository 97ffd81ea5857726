/- Closed facts that the row and the card ask of the program. Conditions: none. -/
import Derived.Test.YtohlgneeifkikaaGreatDoorRows
import Derived.Test.YtohlgneeifkikaaGreatDoorCards
import Derived.JoinedOf
import Derived.RowKit
import Derived.SevenTiedAt
set_option maxRecDepth 1000000
set_option maxHeartbeats 0
set_option linter.unusedVariables false
noncomputable section
namespace Go.Proofs.YtohlgneeifkikaaGreatDoor
open Go Go.ChangeShapes Go.RowKit
theorem sH:Tryz.checked.prog.funcNamed Rows.newformsSeparateRow.func=some 4:=by kernel_rfl
theorem Eo:Tryz.f4.isInstance Tryz.checked.prog Rows.newformsSeparateRow.origin Rows.newformsSeparateRow.targs:=of_decide_eq_true (by kernel_rfl)
theorem Ep:Tryz.f4.isWrapper Tryz.checked.prog Rows.newformsSeparateRow.wrapper Rows.newformsSeparateRow.mainSum:=by unfold Func.isWrapper;rw[if_neg (of_decide_eq_false (by kernel_rfl))];exact⟨rfl,rfl⟩
theorem Er:Rows.newformsSeparateRow.wfByText (OpenSpec.ofChange Rows.newformsSeparateSpec)=true:=by kernel_rfl
theorem Es:Tryz.checked.prog.mainIs=some (true, "0efd8b91bd47a0f5445cd73b1db0b59e75ca4acdd0e44165b06281f5d538a474".toList):=by kernel_rfl
theorem Et:false=Tryz.checked.prog.looks []:=by kernel_rfl
theorem Eu:Tryz.checked.prog.wantsStandIn 23=false:=by kernel_rfl
theorem Ev:Tryz.checked.prog.funcs.any Func.goes=false:=by kernel_rfl
theorem Ew{P:Program}(h:P.funcs.any Func.goes=false)(n:String):false=P.goesAt .entering n:=by
 have h1:∀f:FuncId,P.goes f=false:=λf=>by
  unfold Program.goes;rw[h,Bool.and_false,Bool.or_false,List.any_eq_false];intro g _ hg;cases hx:P.funcs[g]? with
  |none=>rw[hx]at hg;cases hg
  |some fn=>rw[hx]at hg;have hm:=Array.mem_of_getElem? hx;rw[Array.any_eq_false']at h;exact h fn hm hg
 unfold Program.goesAt Program.goesFrom;cases P.funcNamed n with
 |none=>rfl
 |some f=>show false=(P.goes f||false);rw[h1];rfl
theorem Ey:false=Rows.newformsSeparateRow.goesBy Tryz.checked.prog:=Ew Ev _
end Go.Proofs.YtohlgneeifkikaaGreatDoor
