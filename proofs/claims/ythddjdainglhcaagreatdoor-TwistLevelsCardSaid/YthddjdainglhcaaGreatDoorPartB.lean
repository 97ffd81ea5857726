/- The executor's results of functions of one integer are those of the tables, a part of them. Conditions: none. -/
import Derived.Test.YthddjdainglhcaaGreatDoorScalar
import Derived.KernelRfl
set_option maxRecDepth 100000
namespace Go.Ex.KW
theorem u4 : allL (fun d => okBool (fundB d) (runS q71 d)) r4 = true := by kernel_rfl
theorem v4 : r4 = (List.range 1643).map (fun (k : Nat) => ((-1000) : Int) + (k : Int)) := by kernel_rfl
end Go.Ex.KW

set_option maxRecDepth 100000
namespace Go.Ex.KW
theorem u5 : allL (fun d => okBool (fundB d) (runS q71 d)) r5 = true := by kernel_rfl
theorem v5 : r5 = (List.range 358).map (fun (k : Nat) => ((643) : Int) + (k : Int)) := by kernel_rfl
end Go.Ex.KW

set_option maxRecDepth 100000
namespace Go.Ex.KW
theorem u6 : allL (fun d => okFund (fundB d) (runS q43 d)) r6 = true := by kernel_rfl
theorem v6 : r6 = (List.range 241).map (fun (k : Nat) => ((-120) : Int) + (k : Int)) := by kernel_rfl
end Go.Ex.KW

set_option maxRecDepth 100000
namespace Go.Ex.KW
theorem u7 : allL (fun d => okBool (fundB d && !(intEq d 1)) (runS q73 d)) r7 = true := by kernel_rfl
theorem v7 : r7 = (List.range 241).map (fun (k : Nat) => ((-120) : Int) + (k : Int)) := by kernel_rfl
end Go.Ex.KW

set_option maxRecDepth 100000
namespace Go.Ex.KW
theorem u8 : allL (fun d => okPair (psiT d) (runS q53 d)) r8 = true := by kernel_rfl
theorem v8 : r8 = (List.range 120).map (fun (k : Nat) => ((1) : Int) + (k : Int)) := by kernel_rfl
end Go.Ex.KW

set_option maxRecDepth 100000
namespace Go.Ex.KW
theorem u9 : allL (fun d => okInt (psiT d) (runS q04 d)) r9 = true := by kernel_rfl
theorem v9 : r9 = (List.range 42).map (fun (k : Nat) => ((1) : Int) + (k : Int)) := by kernel_rfl
end Go.Ex.KW

