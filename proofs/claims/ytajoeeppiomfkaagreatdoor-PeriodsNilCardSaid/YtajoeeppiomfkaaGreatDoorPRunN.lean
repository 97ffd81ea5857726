/- The executor's results of these calls are those stated beforehand; of the law: true. Conditions: none. -/
import Derived.Test.YtajoeeppiomfkaaGreatDoorPKnown
import Derived.Test.YtajoeeppiomfkaaGreatDoorExCore
import Derived.KernelRfl
set_option maxRecDepth 100000
namespace Go.Ex.KP
theorem poP0 : isRes oP0 (callG F13 1000000 (key 9) oP0.args (preHeap q2 oP0)) = true := by kernel_rfl
theorem poP1 : isRes oP1 (callG F13 1000000 (key 9) oP1.args (preHeap q2 oP1)) = true := by kernel_rfl
end Go.Ex.KP
