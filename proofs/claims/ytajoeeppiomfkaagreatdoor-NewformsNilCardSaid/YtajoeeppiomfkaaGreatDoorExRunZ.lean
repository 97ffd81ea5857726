/- The executor's result of a call is the one stated beforehand. Conditions: none. -/
import Derived.Test.YtajoeeppiomfkaaGreatDoorExKnown
import Derived.Test.YtajoeeppiomfkaaGreatDoorExCore
import Derived.KernelRfl
set_option maxRecDepth 100000
namespace Go.Ex.K
theorem pX35 : isRes X35.o (callG F7 1000000 (key 35) X35.o.args (preHeap q2 X35.o)) = true := by kernel_rfl
end Go.Ex.K
