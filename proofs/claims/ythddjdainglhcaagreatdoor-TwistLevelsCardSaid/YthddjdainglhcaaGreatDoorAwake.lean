/- The fixed example that the law begins with returns true and leaves what was in memory as it was. Conditions: the table of package math/bits holds its values. -/
import Derived.Test.YthddjdainglhcaaGreatDoorChain
import Derived.Lib.LaidTab
import Derived.Below
namespace Go.Ex.KW
open Go Go.Proofs
set_option maxRecDepth 100000

theorem isTrue_some {r : R} (h : isTrue r = true) : ∃ H, r = .ok (.bool true) H := by
  unfold isTrue at h
  split at h
  · subst h; exact ⟨_, rfl⟩
  · cases h

def zs : List Int := [0, 1, 56, 2, 57, 49, 28, 3, 61, 58, 42, 50, 38, 29, 17, 4, 62, 47, 59, 36, 45, 43, 51, 22, 53, 39, 33, 30, 24, 18, 12, 5, 63, 55, 48, 27, 60, 41, 37, 16, 46, 35, 44, 21, 52, 32, 23, 11, 54, 26, 40, 15, 34, 20, 31, 10, 25, 14, 19, 9, 13, 8, 7, 6]
theorem tab_zs : tabL = zs.map fun z => AVal.int .u8 z := rfl
theorem tab_named : Tryz.prog.globalNamed "math/bits.deBruijn64tab" = some 0 := by kernel_rfl

/-- the example, called: it returns true, and what was in memory stays as it was -/
theorem awake_any (w : World) (ht : Lib.TabIs Tryz.prog w "math/bits.deBruijn64tab" .u8 zs) :
    Calls Tryz.prog 4 #[] w fun e w' => e = .returned (.bool true) ∧ Go.RowKit.Below w.heap.size w w' := by
  let ω : Nat → Value := fun _ => .bool true
  have hω : ∀ i, (ω i).oneCell' = true := fun _ => rfl
  have hrow : ∃ T fz, w.heap[0]? = some (.cells (zs.map fun z => Value.int .u8 z).toArray T fz) := by
    unfold Lib.TabIs World.var? at ht
    rw [tab_named, Option.bind_some] at ht
    split at ht
    · rename_i cs T fz hq
      simp only [Option.some.injEq] at ht
      subst ht
      exact ⟨T, fz, hq⟩
    · cases ht
  obtain ⟨T, fz, hrow⟩ := hrow
  obtain ⟨ρ, hr, hg⟩ := start_ok (P := Tryz.prog) (ω := ω) (cells := tabL) (q := q2) (ms := [0, 1]) hrow (by rw [tab_zs]; simp) (fun i x hx => by
    rw [tab_zs, List.getElem?_map, Option.map_eq_some_iff] at hx
    obtain ⟨z, hz, rfl⟩ := hx
    refine ⟨.u8, z, rfl, ?_⟩
    simp only [List.getElem?_toArray, List.getElem?_map, hz, Option.map_some]) rfl (by simp)
  have hH : (⟨q2, .node (.ro tabL.length 1 tabL .nil) nil8⟩ : AH) = H0 := rfl
  rw [hH] at hr
  obtain ⟨H', hcall⟩ := isTrue_some plaw
  rw [callG_eq] at hcall
  have hglob : GlobOk Tryz.prog ρ := fun g hgl => hg g (by rw [gsize] at hgl; exact hgl)
  have hcf := callF_sound hω follows (tab11 hω) hcall hr hglob (vals := []) .nil
  refine (hcf.calls fun k => room_wide k).mono fun e w' he => ?_
  cases e with
  | panicked x => exact he.elim
  | outgrown => exact he.elim
  | returned v =>
    obtain ⟨ρ', hv, hs⟩ := he
    cases hv with
    | bool t =>
      refine ⟨rfl, ⟨hs.os, hs.tape, hs.output, hs.size, hs.kept fun id => ?_⟩⟩
      have hget : H0.m.get .dead id = if id = key 0 then AObj.ro 64 1 tabL .nil else AObj.dead := by
        cases id with
        | e => rfl
        | s d p =>
          rw [if_neg (by intro h; cases h)]
          show T8.get AObj.dead (.s d p) (.node _ nil8) = _
          simp only [T8.get, sel_nil8, get_nil]
      rw [hget]
      by_cases h : id = key 0
      · rw [if_pos h]; rfl
      · rw [if_neg h]; rfl
end Go.Ex.KW

