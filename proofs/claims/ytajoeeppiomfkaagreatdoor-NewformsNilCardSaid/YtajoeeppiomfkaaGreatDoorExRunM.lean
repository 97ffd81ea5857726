/- The executor's result of a call is the one stated beforehand. Conditions: none. -/
import Derived.Test.YtajoeeppiomfkaaGreatDoorExKnown
import Derived.Test.YtajoeeppiomfkaaGreatDoorExCore
import Derived.KernelRfl
set_option maxRecDepth 100000
namespace Go.Ex.K
theorem pM11 : isRes M11.o (callG F3 1000000 (key 56) M11.o.args (preHeap q2 M11.o)) = true := by kernel_rfl
end Go.Ex.K
