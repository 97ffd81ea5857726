/- The executor's results of these calls are those stated beforehand. Conditions: none. -/
import Derived.Test.YthddjdainglhcaaGreatDoorKnown
import Derived.Test.YthddjdainglhcaaGreatDoorExCore
import Derived.KernelRfl
set_option maxRecDepth 100000
namespace Go.Ex.KW
theorem poX62 : isRes oX62 (callG F8 1000000 (key 62) oX62.args (preHeap q2 oX62)) = true := by kernel_rfl
end Go.Ex.KW

set_option maxRecDepth 100000
namespace Go.Ex.KW
theorem poX20 : isRes oX20 (callG F9 1000000 (key 20) oX20.args (preHeap q2 oX20)) = true := by kernel_rfl
end Go.Ex.KW

