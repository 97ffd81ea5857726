/- Every table of compiled functions and of known results is right about the program. Conditions: none. -/
import Derived.Test.YthddjdainglhcaaGreatDoorSameA
import Derived.Test.YthddjdainglhcaaGreatDoorSameB
import Derived.Test.YthddjdainglhcaaGreatDoorSameC
import Derived.Test.YthddjdainglhcaaGreatDoorSameD
import Derived.Test.YthddjdainglhcaaGreatDoorRunA
import Derived.Test.YthddjdainglhcaaGreatDoorRunB
import Derived.Test.YthddjdainglhcaaGreatDoorRunC
import Derived.Test.YthddjdainglhcaaGreatDoorRunD
import Derived.Test.YthddjdainglhcaaGreatDoorRunE
namespace Go.Ex.KW
open Go Go.Proofs
set_option maxRecDepth 100000

theorem follows : Tryz.prog.follows .mixedOrders = true := by kernel_rfl
theorem gsize : Tryz.prog.globals.size = 2 := by kernel_rfl
theorem hq : q2 = key Tryz.prog.globals.size := by rw [gsize]; rfl
theorem f0 : F0 = putL L7 (putL L6 (putL L5 (putL L4 (putL L3 (putL L2 (putL L1 (putL L0 (.nil)))))))) := by kernel_rfl
variable {ω : Nat → Value} (hω : ∀ i, (ω i).oneCell' = true)
theorem tab0 : TabOk Tryz.prog ω F0 := by
  rw [f0]
  exact .putL g7 (.putL g6 (.putL g5 (.putL g4 (.putL g3 (.putL g2 (.putL g1 (.putL g0 (.nil))))))))
include hω
theorem tab1 : TabOk Tryz.prog ω F1 := .put tab0 h162.some (List.forall_mem_cons.2 ⟨TabOk.rel hω follows hq tab0 rfl (by kernel_rfl) poL1, List.forall_mem_cons.2 ⟨TabOk.rel hω follows hq tab0 rfl (by kernel_rfl) poL11, fun _ h => by cases h⟩⟩)
theorem tab2 : TabOk Tryz.prog ω F2 := .put (tab1 hω) h82.some (List.forall_mem_cons.2 ⟨TabOk.rel hω follows hq (tab1 hω) rfl (by kernel_rfl) poE1, List.forall_mem_cons.2 ⟨TabOk.rel hω follows hq (tab1 hω) rfl (by kernel_rfl) poE11, fun _ h => by cases h⟩⟩)
theorem tab3 : TabOk Tryz.prog ω F3 := .put (tab2 hω) h34.some (List.forall_mem_cons.2 ⟨TabOk.rel hω follows hq (tab2 hω) rfl (by kernel_rfl) poR11, fun _ h => by cases h⟩)
theorem tab4 : TabOk Tryz.prog ω F4 := .put (tab3 hω) h87.some (List.forall_mem_cons.2 ⟨TabOk.exact hω follows (tab3 hω) rfl (by kernel_rfl) poB6, List.forall_mem_cons.2 ⟨TabOk.exact hω follows (tab3 hω) rfl (by kernel_rfl) poB7, List.forall_mem_cons.2 ⟨TabOk.exact hω follows (tab3 hω) rfl (by kernel_rfl) poB12, List.forall_mem_cons.2 ⟨TabOk.exact hω follows (tab3 hω) rfl (by kernel_rfl) poB15, List.forall_mem_cons.2 ⟨TabOk.exact hω follows (tab3 hω) rfl (by kernel_rfl) poB19, List.forall_mem_cons.2 ⟨TabOk.exact hω follows (tab3 hω) rfl (by kernel_rfl) poB20, List.forall_mem_cons.2 ⟨TabOk.exact hω follows (tab3 hω) rfl (by kernel_rfl) poB22, List.forall_mem_cons.2 ⟨TabOk.exact hω follows (tab3 hω) rfl (by kernel_rfl) poB25, List.forall_mem_cons.2 ⟨TabOk.exact hω follows (tab3 hω) rfl (by kernel_rfl) poB29, List.forall_mem_cons.2 ⟨TabOk.exact hω follows (tab3 hω) rfl (by kernel_rfl) poB30, List.forall_mem_cons.2 ⟨TabOk.exact hω follows (tab3 hω) rfl (by kernel_rfl) poB33, List.forall_mem_cons.2 ⟨TabOk.exact hω follows (tab3 hω) rfl (by kernel_rfl) poB36, List.forall_mem_cons.2 ⟨TabOk.exact hω follows (tab3 hω) rfl (by kernel_rfl) poB37, fun _ h => by cases h⟩⟩⟩⟩⟩⟩⟩⟩⟩⟩⟩⟩⟩)
theorem tab5 : TabOk Tryz.prog ω F5 := .put (tab4 hω) h17.some (List.forall_mem_cons.2 ⟨TabOk.rel hω follows hq (tab4 hω) rfl (by kernel_rfl) poM11, fun _ h => by cases h⟩)
theorem tab6 : TabOk Tryz.prog ω F6 := .put (tab5 hω) h96.some (List.forall_mem_cons.2 ⟨TabOk.exact hω follows (tab5 hω) rfl (by kernel_rfl) poG0, List.forall_mem_cons.2 ⟨TabOk.exact hω follows (tab5 hω) rfl (by kernel_rfl) poG1, fun _ h => by cases h⟩⟩)
theorem tab7 : TabOk Tryz.prog ω F7 := .put (tab6 hω) h18.some (List.forall_mem_cons.2 ⟨TabOk.exact hω follows (tab6 hω) rfl (by kernel_rfl) poX18, fun _ h => by cases h⟩)
theorem tab8 : TabOk Tryz.prog ω F8 := .put (tab7 hω) h19.some (List.forall_mem_cons.2 ⟨TabOk.exact hω follows (tab7 hω) rfl (by kernel_rfl) poX19, fun _ h => by cases h⟩)
theorem tab9 : TabOk Tryz.prog ω F9 := .put (tab8 hω) h62.some (List.forall_mem_cons.2 ⟨TabOk.exact hω follows (tab8 hω) rfl (by kernel_rfl) poX62, fun _ h => by cases h⟩)
theorem tab10 : TabOk Tryz.prog ω F10 := .put (tab9 hω) h20.some (List.forall_mem_cons.2 ⟨TabOk.exact hω follows (tab9 hω) rfl (by kernel_rfl) poX20, fun _ h => by cases h⟩)
theorem tab11 : TabOk Tryz.prog ω F11 := .put (tab10 hω) h7.some (List.forall_mem_cons.2 ⟨TabOk.rel hω follows hq (tab10 hω) rfl (by kernel_rfl) poN11, fun _ h => by cases h⟩)
end Go.Ex.KW

