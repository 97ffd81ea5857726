/- The closed facts that the row of PeriodsNil asks of the program. Conditions: none. -/
import Derived.Test.YtajoeeppiomfkaaGreatDoorRows
import Derived.JoinedOf
import Derived.RowKit
namespace Go.Proofs.YtajoeeppiomfkaaGreatDoor
open Go Go.ChangeShapes Go.RowKit
set_option maxRecDepth 100000
theorem bandP {a b : Bool} (ha : a = true) (hb : b = true) : (a && b) = true := by rw [ha, hb]; rfl
set_option maxHeartbeats 40000000 in
theorem factsP : joinedFacts Tryz.prog 4 Tryz.f4 Rows.periodsNilSpec Rows.periodsNilRow = true := by
  unfold joinedFacts
  repeat' with_reducible apply bandP
  all_goals as_aux_lemma => kernel_rfl
end Go.Proofs.YtajoeeppiomfkaaGreatDoor
