/- The executor's results of these calls are those stated beforehand; of the law: true. Conditions: none. -/
import Derived.Test.YtajoeeppiomfkaaGreatDoorPKnown
import Derived.Test.YtajoeeppiomfkaaGreatDoorExCore
import Derived.KernelRfl
set_option maxRecDepth 100000
namespace Go.Ex.KP
theorem poX66 : isRes oX66 (callG F8 1000000 (key 66) oX66.args (preHeap q2 oX66)) = true := by kernel_rfl
end Go.Ex.KP
