/- The law NewformsNil, called at any three integers, returns true and leaves what was in memory as it was. Conditions: the table of package math/bits holds its values. -/
import Derived.Test.YtajoeeppiomfkaaGreatDoorExSameA
import Derived.Test.YtajoeeppiomfkaaGreatDoorExSameB
import Derived.Test.YtajoeeppiomfkaaGreatDoorExSameC
import Derived.Test.YtajoeeppiomfkaaGreatDoorExSameD
import Derived.Test.YtajoeeppiomfkaaGreatDoorExSameE
import Derived.Test.YtajoeeppiomfkaaGreatDoorExSameF
import Derived.Test.YtajoeeppiomfkaaGreatDoorExSameG
import Derived.Test.YtajoeeppiomfkaaGreatDoorExSameH
import Derived.Test.YtajoeeppiomfkaaGreatDoorExRunA
import Derived.Test.YtajoeeppiomfkaaGreatDoorExRunR
import Derived.Test.YtajoeeppiomfkaaGreatDoorExRunM
import Derived.Test.YtajoeeppiomfkaaGreatDoorExRunX
import Derived.Test.YtajoeeppiomfkaaGreatDoorExRunY
import Derived.Test.YtajoeeppiomfkaaGreatDoorExRunN
import Derived.Test.YtajoeeppiomfkaaGreatDoorExRunZ
import Derived.Test.YtajoeeppiomfkaaGreatDoorExRunL
import Derived.Lib.LaidTab
namespace Go.Ex.K
open Go Go.Proofs
set_option maxRecDepth 100000

theorem follows : Tryz.prog.follows .mixedOrders = true := by kernel_rfl
theorem gsize : Tryz.prog.globals.size = 2 := by kernel_rfl
theorem hq : q2 = key Tryz.prog.globals.size := by rw [gsize]; rfl
theorem f0 : F0 = putL L7 (putL L6 (putL L5 (putL L4 (putL L3 (putL L2 (putL L1 (putL L0 .nil))))))) := by kernel_rfl

section
variable {ω : Nat → Value} (hω : ∀ i, (ω i).oneCell' = true)
theorem tab0 : TabOk Tryz.prog ω F0 := by
  rw [f0]
  exact .putL g7 (.putL g6 (.putL g5 (.putL g4 (.putL g3 (.putL g2 (.putL g1 (.putL g0 .nil)))))))
include hω
theorem tab1 : TabOk Tryz.prog ω F1 := .put tab0 h247.some (List.forall_mem_cons.2 ⟨TabOk.rel hω follows hq tab0 rfl (by kernel_rfl) pL1, List.forall_mem_cons.2 ⟨TabOk.rel hω follows hq tab0 rfl (by kernel_rfl) pL11, fun _ h => by cases h⟩⟩)
theorem tab2 : TabOk Tryz.prog ω F2 := .put (tab1 hω) h171.some (List.forall_mem_cons.2 ⟨TabOk.rel hω follows hq (tab1 hω) rfl (by kernel_rfl) pE1, List.forall_mem_cons.2 ⟨TabOk.rel hω follows hq (tab1 hω) rfl (by kernel_rfl) pE11, fun _ h => by cases h⟩⟩)
theorem tab3 : TabOk Tryz.prog ω F3 := .put (tab2 hω) h106.some (List.forall_mem_cons.2 ⟨TabOk.rel hω follows hq (tab2 hω) rfl (by kernel_rfl) pR11, fun _ h => by cases h⟩)
theorem tab4 : TabOk Tryz.prog ω F4 := .put (tab3 hω) h56.some (List.forall_mem_cons.2 ⟨TabOk.rel hω follows hq (tab3 hω) rfl (by kernel_rfl) pM11, fun _ h => by cases h⟩)
theorem tab5 : TabOk Tryz.prog ω F5 := .put (tab4 hω) h64.some (List.forall_mem_cons.2 ⟨TabOk.exact hω follows (tab4 hω) rfl (by kernel_rfl) pX64, fun _ h => by cases h⟩)
theorem tab6 : TabOk Tryz.prog ω F6 := .put (tab5 hω) h66.some (List.forall_mem_cons.2 ⟨TabOk.exact hω follows (tab5 hω) rfl (by kernel_rfl) pX66, fun _ h => by cases h⟩)
theorem tab7 : TabOk Tryz.prog ω F7 := .put (tab6 hω) h24.some (List.forall_mem_cons.2 ⟨TabOk.rel hω follows hq (tab6 hω) rfl (by kernel_rfl) pN11, fun _ h => by cases h⟩)
theorem tab8 : TabOk Tryz.prog ω F8 := .put (tab7 hω) h35.some (List.forall_mem_cons.2 ⟨TabOk.exact hω follows (tab7 hω) rfl (by kernel_rfl) pX35, fun _ h => by cases h⟩)
end

theorem isTrue_some {r : R} (h : isTrue r = true) : ∃ H, r = .ok (.bool true) H := by
  unfold isTrue at h
  split at h
  · subst h; exact ⟨_, rfl⟩
  · cases h

def zs : List Int := [0, 1, 56, 2, 57, 49, 28, 3, 61, 58, 42, 50, 38, 29, 17, 4, 62, 47, 59, 36, 45, 43, 51, 22, 53, 39, 33, 30, 24, 18, 12, 5, 63, 55, 48, 27, 60, 41, 37, 16, 46, 35, 44, 21, 52, 32, 23, 11, 54, 26, 40, 15, 34, 20, 31, 10, 25, 14, 19, 9, 13, 8, 7, 6]
theorem tab_zs : tabL = zs.map fun z => AVal.int .u8 z := rfl
theorem tab_named : Tryz.prog.globalNamed "math/bits.deBruijn64tab" = some 0 := by kernel_rfl

/-- the law, called: it returns true, and what was in memory stays as it was -/
theorem law (a b c : Int) (w : World) (ht : Lib.TabIs Tryz.prog w "math/bits.deBruijn64tab" .u8 zs) :
    Calls Tryz.prog 3 #[.agg #[.int .i64 a, .int .i64 b, .int .i64 c]] w fun e w' => e = .returned (.bool true) ∧ w'.os = w.os ∧ w'.output = w.output ∧ ∀ i, i < w.heap.size → w'.heap[i]? = w.heap[i]? := by
  let ω : Nat → Value := fun i => match i with | 0 => .int .i64 a | 1 => .int .i64 b | _ => .int .i64 c
  have hω : ∀ i, (ω i).oneCell' = true := fun i => by
    match i with
    | 0 => rfl
    | 1 => rfl
    | _ + 2 => rfl
  have hrow : ∃ T fz, w.heap[0]? = some (.cells (zs.map fun z => Value.int .u8 z).toArray T fz) := by
    unfold Lib.TabIs World.var? at ht
    rw [tab_named, Option.bind_some] at ht
    split at ht
    · rename_i cs T fz hq
      simp only [Option.some.injEq] at ht
      subst ht
      exact ⟨T, fz, hq⟩
    · cases ht
  obtain ⟨T, fz, hrow⟩ := hrow
  obtain ⟨ρ, hr, hg⟩ := start_ok (P := Tryz.prog) (ω := ω) (cells := tabL) (q := q2) (ms := [0, 1]) hrow (by rw [tab_zs]; simp) (fun i x hx => by
    rw [tab_zs, List.getElem?_map, Option.map_eq_some_iff] at hx
    obtain ⟨z, hz, rfl⟩ := hx
    refine ⟨.u8, z, rfl, ?_⟩
    simp only [List.getElem?_toArray, List.getElem?_map, hz, Option.map_some]) rfl (by simp)
  have hH : (⟨q2, .node (.ro tabL.length 1 tabL .nil) nil8⟩ : AH) = H0 := rfl
  rw [hH] at hr
  obtain ⟨H', hcall⟩ := isTrue_some plaw
  rw [callG_eq] at hcall
  have hglob : GlobOk Tryz.prog ρ := fun g hgl => hg g (by rw [gsize] at hgl; exact hgl)
  have hargs : All2 (VR ρ ω) lawArgs [.agg #[.int .i64 a, .int .i64 b, .int .i64 c]] := by
    refine .cons ?_ .nil
    have := VR.agg (ρ := ρ) (ω := ω) [.opq 0, .opq 1, .opq 2] [ω 0, ω 1, ω 2] (.cons (.opq 0) (.cons (.opq 1) (.cons (.opq 2) .nil))) (fun v hv => by
      simp only [List.mem_cons, List.not_mem_nil, or_false] at hv
      rcases hv with rfl | rfl | rfl
      · exact hω 0
      · exact hω 1
      · exact hω 2)
    exact this
  have hc := callF_sound hω follows (tab8 hω) hcall hr hglob hargs
  refine (hc.calls fun k => room_wide k).mono fun e w' he => ?_
  cases e with
  | panicked x => exact he.elim
  | outgrown => exact he.elim
  | returned v =>
    obtain ⟨ρ', hv, hs⟩ := he
    cases hv with
    | bool t =>
      refine ⟨rfl, hs.os, hs.output, hs.kept fun id => ?_⟩
      have hget : H0.m.get .dead id = if id = key 0 then AObj.ro 64 1 tabL .nil else AObj.dead := by
        cases id with
        | e => rfl
        | s d p =>
          rw [if_neg (by intro h; cases h)]
          show T8.get AObj.dead (.s d p) (.node _ nil8) = _
          simp only [T8.get, sel_nil8, get_nil]
      rw [hget]
      by_cases h : id = key 0
      · rw [if_pos h]; rfl
      · rw [if_neg h]; rfl
end Go.Ex.K
