/- The executor's results of these calls are those stated beforehand. Conditions: none. -/
import Derived.Test.YthddjdainglhcaaGreatDoorKnown
import Derived.Test.YthddjdainglhcaaGreatDoorExCore
import Derived.KernelRfl
set_option maxRecDepth 100000
namespace Go.Ex.KW
theorem poM11 : isRes oM11 (callG F4 1000000 (key 17) oM11.args (preHeap q2 oM11)) = true := by kernel_rfl
end Go.Ex.KW

set_option maxRecDepth 100000
namespace Go.Ex.KW
theorem poG0 : isRes oG0 (callG F5 1000000 (key 96) oG0.args (preHeap q2 oG0)) = true := by kernel_rfl
theorem poG1 : isRes oG1 (callG F5 1000000 (key 96) oG1.args (preHeap q2 oG1)) = true := by kernel_rfl
end Go.Ex.KW

