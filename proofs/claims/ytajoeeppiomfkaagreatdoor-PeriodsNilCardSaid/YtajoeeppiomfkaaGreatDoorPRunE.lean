/- The executor's results of these calls are those stated beforehand; of the law: true. Conditions: none. -/
import Derived.Test.YtajoeeppiomfkaaGreatDoorPKnown
import Derived.Test.YtajoeeppiomfkaaGreatDoorExCore
import Derived.KernelRfl
set_option maxRecDepth 100000
namespace Go.Ex.KP
theorem poG0 : isRes oG0 (callG F5 1000000 (key 192) oG0.args (preHeap q2 oG0)) = true := by kernel_rfl
theorem poG1 : isRes oG1 (callG F5 1000000 (key 192) oG1.args (preHeap q2 oG1)) = true := by kernel_rfl
end Go.Ex.KP
