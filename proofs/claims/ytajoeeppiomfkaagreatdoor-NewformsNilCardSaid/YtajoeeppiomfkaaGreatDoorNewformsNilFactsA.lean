/- The closed facts that the row of NewformsNil asks of the program. Conditions: none. -/
import Derived.Test.YtajoeeppiomfkaaGreatDoorRows
import Derived.JoinedOf
import Derived.RowKit
namespace Go.Proofs.YtajoeeppiomfkaaGreatDoor
open Go Go.ChangeShapes Go.RowKit
set_option maxRecDepth 100000
theorem band {a b : Bool} (ha : a = true) (hb : b = true) : (a && b) = true := by rw [ha, hb]; rfl
set_option maxHeartbeats 40000000 in
theorem facts : joinedFacts Tryz.prog 3 Tryz.f3 Rows.newformsNilSpec Rows.newformsNilRow = true := by
  unfold joinedFacts
  repeat' with_reducible apply band
  all_goals as_aux_lemma => kernel_rfl
end Go.Proofs.YtajoeeppiomfkaaGreatDoor
