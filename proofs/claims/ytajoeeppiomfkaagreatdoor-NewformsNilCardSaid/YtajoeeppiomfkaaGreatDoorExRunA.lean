/- The executor's results of the small calls are those stated beforehand. Conditions: none. -/
import Derived.Test.YtajoeeppiomfkaaGreatDoorExKnown
import Derived.Test.YtajoeeppiomfkaaGreatDoorExCore
import Derived.KernelRfl
set_option maxRecDepth 100000
namespace Go.Ex.K
theorem pL1 : isRes L1.o (callG F0 1000000 (key 247) L1.o.args (preHeap q2 L1.o)) = true := by kernel_rfl
theorem pL11 : isRes L11.o (callG F0 1000000 (key 247) L11.o.args (preHeap q2 L11.o)) = true := by kernel_rfl
theorem pE1 : isRes E1.o (callG F1 1000000 (key 171) E1.o.args (preHeap q2 E1.o)) = true := by kernel_rfl
theorem pE11 : isRes E11.o (callG F1 1000000 (key 171) E11.o.args (preHeap q2 E11.o)) = true := by kernel_rfl
end Go.Ex.K
