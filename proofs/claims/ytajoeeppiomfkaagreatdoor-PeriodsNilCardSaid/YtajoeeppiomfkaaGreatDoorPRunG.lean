/- The executor's results of these calls are those stated beforehand; of the law: true. Conditions: none. -/
import Derived.Test.YtajoeeppiomfkaaGreatDoorPKnown
import Derived.Test.YtajoeeppiomfkaaGreatDoorExCore
import Derived.KernelRfl
set_option maxRecDepth 100000
namespace Go.Ex.KP
theorem poI0 : isRes oI0 (callG F7 1000000 (key 138) oI0.args (preHeap q2 oI0)) = true := by kernel_rfl
theorem poI1 : isRes oI1 (callG F7 1000000 (key 138) oI1.args (preHeap q2 oI1)) = true := by kernel_rfl
end Go.Ex.KP
