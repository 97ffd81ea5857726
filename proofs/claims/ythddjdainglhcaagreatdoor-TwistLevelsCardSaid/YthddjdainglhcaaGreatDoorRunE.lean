/- The executor's results of these calls are those stated beforehand. Conditions: none. -/
import Derived.Test.YthddjdainglhcaaGreatDoorKnown
import Derived.Test.YthddjdainglhcaaGreatDoorExCore
import Derived.KernelRfl
set_option maxRecDepth 100000
namespace Go.Ex.KW
theorem poN11 : isRes oN11 (callG F10 1000000 (key 7) oN11.args (preHeap q2 oN11)) = true := by kernel_rfl
end Go.Ex.KW

set_option maxRecDepth 100000
namespace Go.Ex.KW
def isTrue : R → Bool
  | .ok (.bool b) _ => b
  | _ => false
def lawArgs : List AVal := []
theorem plaw : isTrue (callG F11 1000000 (key 4) lawArgs H0) = true := by kernel_rfl
end Go.Ex.KW

