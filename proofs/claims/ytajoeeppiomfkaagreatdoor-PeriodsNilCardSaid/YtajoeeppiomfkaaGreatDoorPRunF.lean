/- The executor's results of these calls are those stated beforehand; of the law: true. Conditions: none. -/
import Derived.Test.YtajoeeppiomfkaaGreatDoorPKnown
import Derived.Test.YtajoeeppiomfkaaGreatDoorExCore
import Derived.KernelRfl
set_option maxRecDepth 100000
namespace Go.Ex.KP
theorem poX64 : isRes oX64 (callG F6 1000000 (key 64) oX64.args (preHeap q2 oX64)) = true := by kernel_rfl
end Go.Ex.KP
