/- The executor's results of functions of one integer are those of the tables, a part of them. Conditions: none. -/
import Derived.Test.YthddjdainglhcaaGreatDoorScalar
import Derived.KernelRfl
set_option maxRecDepth 100000
namespace Go.Ex.KW
theorem u30 : allL (fun d => okInt (psiT d) (runS q04 d)) r30 = true := by kernel_rfl
theorem v30 : r30 = (List.range 2).map (fun (k : Nat) => ((114) : Int) + (k : Int)) := by kernel_rfl
end Go.Ex.KW

set_option maxRecDepth 100000
namespace Go.Ex.KW
theorem u31 : allL (fun d => okInt (psiT d) (runS q04 d)) r31 = true := by kernel_rfl
theorem v31 : r31 = (List.range 1).map (fun (k : Nat) => ((116) : Int) + (k : Int)) := by kernel_rfl
end Go.Ex.KW

set_option maxRecDepth 100000
namespace Go.Ex.KW
theorem u32 : allL (fun d => okInt (psiT d) (runS q04 d)) r32 = true := by kernel_rfl
theorem v32 : r32 = (List.range 1).map (fun (k : Nat) => ((117) : Int) + (k : Int)) := by kernel_rfl
end Go.Ex.KW

set_option maxRecDepth 100000
namespace Go.Ex.KW
theorem u33 : allL (fun d => okInt (psiT d) (runS q04 d)) r33 = true := by kernel_rfl
theorem v33 : r33 = (List.range 1).map (fun (k : Nat) => ((118) : Int) + (k : Int)) := by kernel_rfl
end Go.Ex.KW

set_option maxRecDepth 100000
namespace Go.Ex.KW
theorem u34 : allL (fun d => okInt (psiT d) (runS q04 d)) r34 = true := by kernel_rfl
theorem v34 : r34 = (List.range 1).map (fun (k : Nat) => ((119) : Int) + (k : Int)) := by kernel_rfl
end Go.Ex.KW

set_option maxRecDepth 100000
namespace Go.Ex.KW
theorem u35 : allL (fun d => okInt (psiT d) (runS q04 d)) r35 = true := by kernel_rfl
theorem v35 : r35 = (List.range 1).map (fun (k : Nat) => ((120) : Int) + (k : Int)) := by kernel_rfl
end Go.Ex.KW

