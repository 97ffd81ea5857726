/- The executor's result of a call is the one stated beforehand. Conditions: none. -/
import Derived.Test.YtajoeeppiomfkaaGreatDoorExKnown
import Derived.Test.YtajoeeppiomfkaaGreatDoorExCore
import Derived.KernelRfl
set_option maxRecDepth 100000
namespace Go.Ex.K
theorem pX64 : isRes X64.o (callG F4 1000000 (key 64) X64.o.args (preHeap q2 X64.o)) = true := by kernel_rfl
end Go.Ex.K
