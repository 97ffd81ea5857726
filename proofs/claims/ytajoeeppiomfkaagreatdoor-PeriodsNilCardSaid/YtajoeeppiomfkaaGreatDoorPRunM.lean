/- The executor's results of these calls are those stated beforehand; of the law: true. Conditions: none. -/
import Derived.Test.YtajoeeppiomfkaaGreatDoorPKnown
import Derived.Test.YtajoeeppiomfkaaGreatDoorExCore
import Derived.KernelRfl
set_option maxRecDepth 100000
namespace Go.Ex.KP
theorem poW0 : isRes oW0 (callG F12 1000000 (key 62) oW0.args (preHeap q2 oW0)) = true := by kernel_rfl
end Go.Ex.KP
