/- The executor's results of these calls are those stated beforehand; of the law: true. Conditions: none. -/
import Derived.Test.YtajoeeppiomfkaaGreatDoorPKnown
import Derived.Test.YtajoeeppiomfkaaGreatDoorExCore
import Derived.KernelRfl
set_option maxRecDepth 100000
namespace Go.Ex.KP
theorem poH3 : isRes oH3 (callG F11 1000000 (key 61) oH3.args (preHeap q2 oH3)) = true := by kernel_rfl
end Go.Ex.KP
