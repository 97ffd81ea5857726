/- The executor's results of functions of one integer are those of the tables, a part of them. Conditions: none. -/
import Derived.Test.YthddjdainglhcaaGreatDoorScalar
import Derived.KernelRfl
set_option maxRecDepth 100000
namespace Go.Ex.KW
theorem u0 : allL (fun d => okBool (fundB d) (runS q41 d)) r0 = true := by kernel_rfl
theorem v0 : r0 = (List.range 585).map (fun (k : Nat) => ((-1000) : Int) + (k : Int)) := by kernel_rfl
end Go.Ex.KW

set_option maxRecDepth 100000
namespace Go.Ex.KW
theorem u1 : allL (fun d => okBool (fundB d) (runS q41 d)) r1 = true := by kernel_rfl
theorem v1 : r1 = (List.range 585).map (fun (k : Nat) => ((-415) : Int) + (k : Int)) := by kernel_rfl
end Go.Ex.KW

set_option maxRecDepth 100000
namespace Go.Ex.KW
theorem u2 : allL (fun d => okBool (fundB d) (runS q41 d)) r2 = true := by kernel_rfl
theorem v2 : r2 = (List.range 585).map (fun (k : Nat) => ((170) : Int) + (k : Int)) := by kernel_rfl
end Go.Ex.KW

set_option maxRecDepth 100000
namespace Go.Ex.KW
theorem u3 : allL (fun d => okBool (fundB d) (runS q41 d)) r3 = true := by kernel_rfl
theorem v3 : r3 = (List.range 246).map (fun (k : Nat) => ((755) : Int) + (k : Int)) := by kernel_rfl
end Go.Ex.KW

