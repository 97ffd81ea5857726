/- The executor's results of these calls are those stated beforehand; of the law: true. Conditions: none. -/
import Derived.Test.YtajoeeppiomfkaaGreatDoorPKnown
import Derived.Test.YtajoeeppiomfkaaGreatDoorExCore
import Derived.KernelRfl
set_option maxRecDepth 100000
namespace Go.Ex.KP
theorem poM11 : isRes oM11 (callG F4 1000000 (key 56) oM11.args (preHeap q2 oM11)) = true := by kernel_rfl
end Go.Ex.KP
