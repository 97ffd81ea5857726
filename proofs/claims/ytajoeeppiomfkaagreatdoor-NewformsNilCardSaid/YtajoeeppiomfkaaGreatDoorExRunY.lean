/- The executor's result of a call is the one stated beforehand. Conditions: none. -/
import Derived.Test.YtajoeeppiomfkaaGreatDoorExKnown
import Derived.Test.YtajoeeppiomfkaaGreatDoorExCore
import Derived.KernelRfl
set_option maxRecDepth 100000
namespace Go.Ex.K
theorem pX66 : isRes X66.o (callG F5 1000000 (key 66) X66.o.args (preHeap q2 X66.o)) = true := by kernel_rfl
end Go.Ex.K
