/- The executor's result of a call is the one stated beforehand. Conditions: none. -/
import Derived.Test.YtajoeeppiomfkaaGreatDoorExKnown
import Derived.Test.YtajoeeppiomfkaaGreatDoorExCore
import Derived.KernelRfl
set_option maxRecDepth 100000
namespace Go.Ex.K
theorem pN11 : isRes N11.o (callG F6 1000000 (key 24) N11.o.args (preHeap q2 N11.o)) = true := by kernel_rfl
end Go.Ex.K
