/- The executor's results of functions of one integer are those of the tables, a part of them. Conditions: none. -/
import Derived.Test.YthddjdainglhcaaGreatDoorScalar
import Derived.KernelRfl
set_option maxRecDepth 100000
namespace Go.Ex.KW
theorem u24 : allL (fun d => okInt (psiT d) (runS q04 d)) r24 = true := by kernel_rfl
theorem v24 : r24 = (List.range 2).map (fun (k : Nat) => ((102) : Int) + (k : Int)) := by kernel_rfl
end Go.Ex.KW

set_option maxRecDepth 100000
namespace Go.Ex.KW
theorem u25 : allL (fun d => okInt (psiT d) (runS q04 d)) r25 = true := by kernel_rfl
theorem v25 : r25 = (List.range 2).map (fun (k : Nat) => ((104) : Int) + (k : Int)) := by kernel_rfl
end Go.Ex.KW

set_option maxRecDepth 100000
namespace Go.Ex.KW
theorem u26 : allL (fun d => okInt (psiT d) (runS q04 d)) r26 = true := by kernel_rfl
theorem v26 : r26 = (List.range 2).map (fun (k : Nat) => ((106) : Int) + (k : Int)) := by kernel_rfl
end Go.Ex.KW

set_option maxRecDepth 100000
namespace Go.Ex.KW
theorem u27 : allL (fun d => okInt (psiT d) (runS q04 d)) r27 = true := by kernel_rfl
theorem v27 : r27 = (List.range 2).map (fun (k : Nat) => ((108) : Int) + (k : Int)) := by kernel_rfl
end Go.Ex.KW

set_option maxRecDepth 100000
namespace Go.Ex.KW
theorem u28 : allL (fun d => okInt (psiT d) (runS q04 d)) r28 = true := by kernel_rfl
theorem v28 : r28 = (List.range 2).map (fun (k : Nat) => ((110) : Int) + (k : Int)) := by kernel_rfl
end Go.Ex.KW

set_option maxRecDepth 100000
namespace Go.Ex.KW
theorem u29 : allL (fun d => okInt (psiT d) (runS q04 d)) r29 = true := by kernel_rfl
theorem v29 : r29 = (List.range 2).map (fun (k : Nat) => ((112) : Int) + (k : Int)) := by kernel_rfl
end Go.Ex.KW

