/- The executor's results of functions of one integer are those of the tables, a part of them. Conditions: none. -/
import Derived.Test.YthddjdainglhcaaGreatDoorScalar
import Derived.KernelRfl
set_option maxRecDepth 100000
namespace Go.Ex.KW
theorem u17 : allL (fun d => okInt (psiT d) (runS q04 d)) r17 = true := by kernel_rfl
theorem v17 : r17 = (List.range 3).map (fun (k : Nat) => ((84) : Int) + (k : Int)) := by kernel_rfl
end Go.Ex.KW

set_option maxRecDepth 100000
namespace Go.Ex.KW
theorem u18 : allL (fun d => okInt (psiT d) (runS q04 d)) r18 = true := by kernel_rfl
theorem v18 : r18 = (List.range 3).map (fun (k : Nat) => ((87) : Int) + (k : Int)) := by kernel_rfl
end Go.Ex.KW

set_option maxRecDepth 100000
namespace Go.Ex.KW
theorem u19 : allL (fun d => okInt (psiT d) (runS q04 d)) r19 = true := by kernel_rfl
theorem v19 : r19 = (List.range 3).map (fun (k : Nat) => ((90) : Int) + (k : Int)) := by kernel_rfl
end Go.Ex.KW

set_option maxRecDepth 100000
namespace Go.Ex.KW
theorem u20 : allL (fun d => okInt (psiT d) (runS q04 d)) r20 = true := by kernel_rfl
theorem v20 : r20 = (List.range 3).map (fun (k : Nat) => ((93) : Int) + (k : Int)) := by kernel_rfl
end Go.Ex.KW

set_option maxRecDepth 100000
namespace Go.Ex.KW
theorem u21 : allL (fun d => okInt (psiT d) (runS q04 d)) r21 = true := by kernel_rfl
theorem v21 : r21 = (List.range 2).map (fun (k : Nat) => ((96) : Int) + (k : Int)) := by kernel_rfl
end Go.Ex.KW

set_option maxRecDepth 100000
namespace Go.Ex.KW
theorem u22 : allL (fun d => okInt (psiT d) (runS q04 d)) r22 = true := by kernel_rfl
theorem v22 : r22 = (List.range 2).map (fun (k : Nat) => ((98) : Int) + (k : Int)) := by kernel_rfl
end Go.Ex.KW

set_option maxRecDepth 100000
namespace Go.Ex.KW
theorem u23 : allL (fun d => okInt (psiT d) (runS q04 d)) r23 = true := by kernel_rfl
theorem v23 : r23 = (List.range 2).map (fun (k : Nat) => ((100) : Int) + (k : Int)) := by kernel_rfl
end Go.Ex.KW

