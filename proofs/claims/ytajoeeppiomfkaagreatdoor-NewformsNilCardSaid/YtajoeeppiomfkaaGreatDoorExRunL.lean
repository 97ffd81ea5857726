/- The executor's result of the law is true. Conditions: none. -/
import Derived.Test.YtajoeeppiomfkaaGreatDoorExKnown
import Derived.Test.YtajoeeppiomfkaaGreatDoorExCore
import Derived.KernelRfl
set_option maxRecDepth 100000
namespace Go.Ex.K
def isTrue : R → Bool
  | .ok (.bool b) _ => b
  | _ => false
def lawArgs : List AVal := [.agg [.opq 0, .opq 1, .opq 2]]
theorem plaw : isTrue (callG F8 1000000 (key 3) lawArgs H0) = true := by kernel_rfl
end Go.Ex.K
