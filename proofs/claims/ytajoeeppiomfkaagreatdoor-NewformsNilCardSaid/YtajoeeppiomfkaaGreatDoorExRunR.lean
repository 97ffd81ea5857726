/- The executor's result of a call is the one stated beforehand. Conditions: none. -/
import Derived.Test.YtajoeeppiomfkaaGreatDoorExKnown
import Derived.Test.YtajoeeppiomfkaaGreatDoorExCore
import Derived.KernelRfl
set_option maxRecDepth 100000
namespace Go.Ex.K
theorem pR11 : isRes R11.o (callG F2 1000000 (key 106) R11.o.args (preHeap q2 R11.o)) = true := by kernel_rfl
end Go.Ex.K
