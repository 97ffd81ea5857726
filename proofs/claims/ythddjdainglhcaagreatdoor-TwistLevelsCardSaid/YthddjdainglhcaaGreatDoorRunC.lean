/- The executor's results of these calls are those stated beforehand. Conditions: none. -/
import Derived.Test.YthddjdainglhcaaGreatDoorKnown
import Derived.Test.YthddjdainglhcaaGreatDoorExCore
import Derived.KernelRfl
set_option maxRecDepth 100000
namespace Go.Ex.KW
theorem poX18 : isRes oX18 (callG F6 1000000 (key 18) oX18.args (preHeap q2 oX18)) = true := by kernel_rfl
end Go.Ex.KW

set_option maxRecDepth 100000
namespace Go.Ex.KW
theorem poX19 : isRes oX19 (callG F7 1000000 (key 19) oX19.args (preHeap q2 oX19)) = true := by kernel_rfl
end Go.Ex.KW

