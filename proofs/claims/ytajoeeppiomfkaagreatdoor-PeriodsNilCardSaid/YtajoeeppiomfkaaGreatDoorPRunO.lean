/- The executor's results of these calls are those stated beforehand; of the law: true. Conditions: none. -/
import Derived.Test.YtajoeeppiomfkaaGreatDoorPKnown
import Derived.Test.YtajoeeppiomfkaaGreatDoorExCore
import Derived.KernelRfl
set_option maxRecDepth 100000
namespace Go.Ex.KP
def isTrue : R → Bool
  | .ok (.bool b) _ => b
  | _ => false
def lawArgs : List AVal := [.agg [.opq 0,.opq 1,.opq 2,.opq 3,.opq 4],.agg [.opq 5,.opq 6]]
theorem plaw : isTrue (callG F14 1000000 (key 4) lawArgs H0) = true := by kernel_rfl
end Go.Ex.KP
