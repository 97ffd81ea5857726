/- Closed facts that the row and the card ask of the program. Conditions: none. -/
import Derived.Test.YtohlgneeifkikaaGreatDoorRows
import Derived.JoinedOf
import Derived.RowKit
set_option maxRecDepth 1000000
set_option maxHeartbeats 0
set_option linter.unusedVariables false
noncomputable section
namespace Go.Proofs.YtohlgneeifkikaaGreatDoor
open Go Go.ChangeShapes Go.RowKit
theorem Em{a b:Bool}(ha:a=true)(hb:b=true):(a&&b)=true:=by rw[ha,hb];rfl
theorem En:joinedFacts Tryz.prog 4 Tryz.f4 Rows.newformsSeparateSpec Rows.newformsSeparateRow=true:=by
 unfold joinedFacts
 repeat' with_reducible apply Em
 all_goals as_aux_lemma=>kernel_rfl
end Go.Proofs.YtohlgneeifkikaaGreatDoor
