/- The executor's results of these calls are those stated beforehand. Conditions: none. -/
import Derived.Test.YthddjdainglhcaaGreatDoorKnown
import Derived.Test.YthddjdainglhcaaGreatDoorExCore
import Derived.KernelRfl
set_option maxRecDepth 100000
namespace Go.Ex.KW
theorem poL1 : isRes oL1 (callG F0 1000000 (key 162) oL1.args (preHeap q2 oL1)) = true := by kernel_rfl
theorem poL11 : isRes oL11 (callG F0 1000000 (key 162) oL11.args (preHeap q2 oL11)) = true := by kernel_rfl
theorem poE1 : isRes oE1 (callG F1 1000000 (key 82) oE1.args (preHeap q2 oE1)) = true := by kernel_rfl
theorem poE11 : isRes oE11 (callG F1 1000000 (key 82) oE11.args (preHeap q2 oE11)) = true := by kernel_rfl
end Go.Ex.KW

set_option maxRecDepth 100000
namespace Go.Ex.KW
theorem poR11 : isRes oR11 (callG F2 1000000 (key 34) oR11.args (preHeap q2 oR11)) = true := by kernel_rfl
end Go.Ex.KW

set_option maxRecDepth 100000
namespace Go.Ex.KW
theorem poB6 : isRes oB6 (callG F3 1000000 (key 87) oB6.args (preHeap q2 oB6)) = true := by kernel_rfl
theorem poB7 : isRes oB7 (callG F3 1000000 (key 87) oB7.args (preHeap q2 oB7)) = true := by kernel_rfl
theorem poB12 : isRes oB12 (callG F3 1000000 (key 87) oB12.args (preHeap q2 oB12)) = true := by kernel_rfl
theorem poB15 : isRes oB15 (callG F3 1000000 (key 87) oB15.args (preHeap q2 oB15)) = true := by kernel_rfl
theorem poB19 : isRes oB19 (callG F3 1000000 (key 87) oB19.args (preHeap q2 oB19)) = true := by kernel_rfl
theorem poB20 : isRes oB20 (callG F3 1000000 (key 87) oB20.args (preHeap q2 oB20)) = true := by kernel_rfl
theorem poB22 : isRes oB22 (callG F3 1000000 (key 87) oB22.args (preHeap q2 oB22)) = true := by kernel_rfl
theorem poB25 : isRes oB25 (callG F3 1000000 (key 87) oB25.args (preHeap q2 oB25)) = true := by kernel_rfl
theorem poB29 : isRes oB29 (callG F3 1000000 (key 87) oB29.args (preHeap q2 oB29)) = true := by kernel_rfl
theorem poB30 : isRes oB30 (callG F3 1000000 (key 87) oB30.args (preHeap q2 oB30)) = true := by kernel_rfl
theorem poB33 : isRes oB33 (callG F3 1000000 (key 87) oB33.args (preHeap q2 oB33)) = true := by kernel_rfl
theorem poB36 : isRes oB36 (callG F3 1000000 (key 87) oB36.args (preHeap q2 oB36)) = true := by kernel_rfl
theorem poB37 : isRes oB37 (callG F3 1000000 (key 87) oB37.args (preHeap q2 oB37)) = true := by kernel_rfl
end Go.Ex.KW

