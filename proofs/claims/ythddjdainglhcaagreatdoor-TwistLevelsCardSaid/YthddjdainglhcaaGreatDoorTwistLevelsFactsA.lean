/- The closed facts that the row of TwistLevels asks of the program. Conditions: none. -/
import Derived.Test.YthddjdainglhcaaGreatDoorRows
import Derived.JoinedOf
import Derived.RowKit
namespace Go.Proofs.YthddjdainglhcaaGreatDoor
open Go Go.ChangeShapes Go.RowKit
set_option maxRecDepth 100000
theorem bandP {a b : Bool} (ha : a = true) (hb : b = true) : (a && b) = true := by rw [ha, hb]; rfl
set_option maxHeartbeats 40000000 in
theorem factsP : joinedFacts Tryz.prog 3 Tryz.f3 Rows.twistLevelsSpec Rows.twistLevelsRow = true := by
  unfold joinedFacts
  repeat' with_reducible apply bandP
  all_goals as_aux_lemma => kernel_rfl
end Go.Proofs.YthddjdainglhcaaGreatDoor

