/- The law PeriodsNil, called at any arguments (a path and two integers, seven cells in all), returns true and leaves what was in memory as it was. Conditions: the table of package math/bits holds its values. -/
import Derived.Test.YtajoeeppiomfkaaGreatDoorPChain
import Derived.Lib.LaidTab
import Derived.Below
namespace Go.Ex.KP
open Go Go.Proofs
set_option maxRecDepth 100000

theorem isTrue_some {r : R} (h : isTrue r = true) : ∃ H, r = .ok (.bool true) H := by
  unfold isTrue at h
  split at h
  · subst h; exact ⟨_, rfl⟩
  · cases h

def zs : List Int := [0, 1, 56, 2, 57, 49, 28, 3, 61, 58, 42, 50, 38, 29, 17, 4, 62, 47, 59, 36, 45, 43, 51, 22, 53, 39, 33, 30, 24, 18, 12, 5, 63, 55, 48, 27, 60, 41, 37, 16, 46, 35, 44, 21, 52, 32, 23, 11, 54, 26, 40, 15, 34, 20, 31, 10, 25, 14, 19, 9, 13, 8, 7, 6]
theorem tab_zs : tabL = zs.map fun z => AVal.int .u8 z := rfl
theorem tab_named : Tryz.prog.globalNamed "math/bits.deBruijn64tab" = some 0 := by kernel_rfl

/-- the law, called at any seven cells: it returns true, and what was in memory stays as it was -/
theorem law (c0 c1 c2 c3 c4 c5 c6 : Value) (hc : ∀ v ∈ [c0, c1, c2, c3, c4, c5, c6], v.oneCell' = true) (w : World) (ht : Lib.TabIs Tryz.prog w "math/bits.deBruijn64tab" .u8 zs) :
    Calls Tryz.prog 4 #[.agg #[c0, c1, c2, c3, c4], .agg #[c5, c6]] w fun e w' => e = .returned (.bool true) ∧ Go.RowKit.Below w.heap.size w w' := by
  let ω : Nat → Value := fun i => match i with | 0 => c0 | 1 => c1 | 2 => c2 | 3 => c3 | 4 => c4 | 5 => c5 | _ => c6
  have hω : ∀ i, (ω i).oneCell' = true := fun i => by
    match i with
    | 0 => exact hc _ (by simp [ω])
    | 1 => exact hc _ (by simp [ω])
    | 2 => exact hc _ (by simp [ω])
    | 3 => exact hc _ (by simp [ω])
    | 4 => exact hc _ (by simp [ω])
    | 5 => exact hc _ (by simp [ω])
    | _ + 6 => exact hc _ (by simp [ω])
  have hrow : ∃ T fz, w.heap[0]? = some (.cells (zs.map fun z => Value.int .u8 z).toArray T fz) := by
    unfold Lib.TabIs World.var? at ht
    rw [tab_named, Option.bind_some] at ht
    split at ht
    · rename_i cs T fz hq
      simp only [Option.some.injEq] at ht
      subst ht
      exact ⟨T, fz, hq⟩
    · cases ht
  obtain ⟨T, fz, hrow⟩ := hrow
  obtain ⟨ρ, hr, hg⟩ := start_ok (P := Tryz.prog) (ω := ω) (cells := tabL) (q := q2) (ms := [0, 1]) hrow (by rw [tab_zs]; simp) (fun i x hx => by
    rw [tab_zs, List.getElem?_map, Option.map_eq_some_iff] at hx
    obtain ⟨z, hz, rfl⟩ := hx
    refine ⟨.u8, z, rfl, ?_⟩
    simp only [List.getElem?_toArray, List.getElem?_map, hz, Option.map_some]) rfl (by simp)
  have hH : (⟨q2, .node (.ro tabL.length 1 tabL .nil) nil8⟩ : AH) = H0 := rfl
  rw [hH] at hr
  obtain ⟨H', hcall⟩ := isTrue_some plaw
  rw [callG_eq] at hcall
  have hglob : GlobOk Tryz.prog ρ := fun g hgl => hg g (by rw [gsize] at hgl; exact hgl)
  have hargs : All2 (VR ρ ω) lawArgs [.agg #[c0, c1, c2, c3, c4], .agg #[c5, c6]] := by
    refine .cons ?_ (.cons ?_ .nil)
    · have := VR.agg (ρ := ρ) (ω := ω) [.opq 0, .opq 1, .opq 2, .opq 3, .opq 4] [ω 0, ω 1, ω 2, ω 3, ω 4] (.cons (.opq 0) (.cons (.opq 1) (.cons (.opq 2) (.cons (.opq 3) (.cons (.opq 4) .nil))))) (fun v hv => hc v (by
        simp only [List.mem_cons, List.not_mem_nil, or_false] at hv ⊢
        rcases hv with rfl | rfl | rfl | rfl | rfl <;> simp))
      exact this
    · have := VR.agg (ρ := ρ) (ω := ω) [.opq 5, .opq 6] [ω 5, ω 6] (.cons (.opq 5) (.cons (.opq 6) .nil)) (fun v hv => hc v (by
        simp only [List.mem_cons, List.not_mem_nil, or_false] at hv ⊢
        rcases hv with rfl | rfl <;> simp))
      exact this
  have hcf := callF_sound hω follows (tab14 hω) hcall hr hglob hargs
  refine (hcf.calls fun k => room_wide k).mono fun e w' he => ?_
  cases e with
  | panicked x => exact he.elim
  | outgrown => exact he.elim
  | returned v =>
    obtain ⟨ρ', hv, hs⟩ := he
    cases hv with
    | bool t =>
      refine ⟨rfl, ⟨hs.os, hs.tape, hs.output, hs.size, hs.kept fun id => ?_⟩⟩
      have hget : H0.m.get .dead id = if id = key 0 then AObj.ro 64 1 tabL .nil else AObj.dead := by
        cases id with
        | e => rfl
        | s d p =>
          rw [if_neg (by intro h; cases h)]
          show T8.get AObj.dead (.s d p) (.node _ nil8) = _
          simp only [T8.get, sel_nil8, get_nil]
      rw [hget]
      by_cases h : id = key 0
      · rw [if_pos h]; rfl
      · rw [if_neg h]; rfl
end Go.Ex.KP
