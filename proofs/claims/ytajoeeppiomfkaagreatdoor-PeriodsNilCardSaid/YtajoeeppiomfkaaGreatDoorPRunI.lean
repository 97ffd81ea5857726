/- The executor's results of these calls are those stated beforehand; of the law: true. Conditions: none. -/
import Derived.Test.YtajoeeppiomfkaaGreatDoorPKnown
import Derived.Test.YtajoeeppiomfkaaGreatDoorExCore
import Derived.KernelRfl
set_option maxRecDepth 100000
namespace Go.Ex.KP
theorem poN11 : isRes oN11 (callG F9 1000000 (key 24) oN11.args (preHeap q2 oN11)) = true := by kernel_rfl
end Go.Ex.KP
