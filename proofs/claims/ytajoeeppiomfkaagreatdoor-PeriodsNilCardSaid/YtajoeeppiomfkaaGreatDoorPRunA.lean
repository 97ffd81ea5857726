/- The executor's results of these calls are those stated beforehand; of the law: true. Conditions: none. -/
import Derived.Test.YtajoeeppiomfkaaGreatDoorPKnown
import Derived.Test.YtajoeeppiomfkaaGreatDoorExCore
import Derived.KernelRfl
set_option maxRecDepth 100000
namespace Go.Ex.KP
theorem poL1 : isRes oL1 (callG F0 1000000 (key 247) oL1.args (preHeap q2 oL1)) = true := by kernel_rfl
theorem poL11 : isRes oL11 (callG F0 1000000 (key 247) oL11.args (preHeap q2 oL11)) = true := by kernel_rfl
theorem poE1 : isRes oE1 (callG F1 1000000 (key 171) oE1.args (preHeap q2 oE1)) = true := by kernel_rfl
theorem poE11 : isRes oE11 (callG F1 1000000 (key 171) oE11.args (preHeap q2 oE11)) = true := by kernel_rfl
end Go.Ex.KP
