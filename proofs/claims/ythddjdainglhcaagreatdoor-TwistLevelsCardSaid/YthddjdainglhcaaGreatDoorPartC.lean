/- The executor's results of functions of one integer are those of the tables, a part of them. Conditions: none. -/
import Derived.Test.YthddjdainglhcaaGreatDoorScalar
import Derived.KernelRfl
set_option maxRecDepth 100000
namespace Go.Ex.KW
theorem u10 : allL (fun d => okInt (psiT d) (runS q04 d)) r10 = true := by kernel_rfl
theorem v10 : r10 = (List.range 11).map (fun (k : Nat) => ((43) : Int) + (k : Int)) := by kernel_rfl
end Go.Ex.KW

set_option maxRecDepth 100000
namespace Go.Ex.KW
theorem u11 : allL (fun d => okInt (psiT d) (runS q04 d)) r11 = true := by kernel_rfl
theorem v11 : r11 = (List.range 8).map (fun (k : Nat) => ((54) : Int) + (k : Int)) := by kernel_rfl
end Go.Ex.KW

set_option maxRecDepth 100000
namespace Go.Ex.KW
theorem u12 : allL (fun d => okInt (psiT d) (runS q04 d)) r12 = true := by kernel_rfl
theorem v12 : r12 = (List.range 6).map (fun (k : Nat) => ((62) : Int) + (k : Int)) := by kernel_rfl
end Go.Ex.KW

set_option maxRecDepth 100000
namespace Go.Ex.KW
theorem u13 : allL (fun d => okInt (psiT d) (runS q04 d)) r13 = true := by kernel_rfl
theorem v13 : r13 = (List.range 5).map (fun (k : Nat) => ((68) : Int) + (k : Int)) := by kernel_rfl
end Go.Ex.KW

set_option maxRecDepth 100000
namespace Go.Ex.KW
theorem u14 : allL (fun d => okInt (psiT d) (runS q04 d)) r14 = true := by kernel_rfl
theorem v14 : r14 = (List.range 4).map (fun (k : Nat) => ((73) : Int) + (k : Int)) := by kernel_rfl
end Go.Ex.KW

set_option maxRecDepth 100000
namespace Go.Ex.KW
theorem u15 : allL (fun d => okInt (psiT d) (runS q04 d)) r15 = true := by kernel_rfl
theorem v15 : r15 = (List.range 4).map (fun (k : Nat) => ((77) : Int) + (k : Int)) := by kernel_rfl
end Go.Ex.KW

set_option maxRecDepth 100000
namespace Go.Ex.KW
theorem u16 : allL (fun d => okInt (psiT d) (runS q04 d)) r16 = true := by kernel_rfl
theorem v16 : r16 = (List.range 3).map (fun (k : Nat) => ((81) : Int) + (k : Int)) := by kernel_rfl
end Go.Ex.KW

