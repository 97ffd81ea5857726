/- The executor's results of these calls are those stated beforehand; of the law: true. Conditions: none. -/
import Derived.Test.YtajoeeppiomfkaaGreatDoorPKnown
import Derived.Test.YtajoeeppiomfkaaGreatDoorExCore
import Derived.KernelRfl
set_option maxRecDepth 100000
namespace Go.Ex.KP
theorem poR11 : isRes oR11 (callG F2 1000000 (key 106) oR11.args (preHeap q2 oR11)) = true := by kernel_rfl
end Go.Ex.KP
