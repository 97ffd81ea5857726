/- The statement TwistLevels: its row and its tied card. Conditions: those of the row, none of our own. -/
import Derived.Test.YthddjdainglhcaaGreatDoorTwistLevelsLaw
import Derived.Test.YthddjdainglhcaaGreatDoorTwistLevelsFactsA
import Derived.Test.YthddjdainglhcaaGreatDoorTwistLevelsFactsB
import Derived.Test.YthddjdainglhcaaGreatDoorRows
import Derived.Test.YthddjdainglhcaaGreatDoorTie
import Derived.Test.YthddjdainglhcaaGreatDoorCards
import Derived.Lib.SmallJoins
import Derived.Lib.LaidTab
import Derived.ChangeSame
import Derived.ChangeVars
import Derived.JoinedOf
import Derived.RowKit
import Derived.RowKitTokens
import Derived.LaidLaws
import Derived.LaidHandle
import Derived.SevenTiedAt
namespace Go.Proofs.YthddjdainglhcaaGreatDoor
open Go Go.ChangeShapes Go.WideShapes Go.RowKit Go.Lib Go.Joins
set_option maxRecDepth 100000

theorem own : ownKnob Tryz.prog.godebug = none := by kernel_rfl
theorem typed : (Tryz.prog.globals[0]?).map (·.type) = some 236 := by kernel_rfl
theorem under236 : Tryz.prog.underlying 236 = some (.array 64 5) := by kernel_rfl
theorem under5 : Tryz.prog.underlying 5 = some (.int .u8) := by kernel_rfl
theorem cells5 : Tryz.prog.cellsOf 5 = 1 := by kernel_rfl
theorem cells236 : Tryz.prog.cellsOf 236 = 64 := by kernel_rfl
theorem cells23 : Tryz.prog.cellsOf 23 = 3 := by kernel_rfl

/-- the table's variable as it is laid at the start -/
noncomputable def laidWorld (os : Os) : World :=
  let w0 := World.holding Tryz.prog os ⟨#[], #[], []⟩
  { w0 with heap := w0.heap.modify 0 fun
      | .cells _ t frozen => .cells (Ex.KW.zs.map fun z => Value.int .u8 z).toArray t frozen
      | o => o }
theorem laid_tab : Rows.twistLevelsRow.laid = [("math/bits.deBruijn64tab", tabData .u8 Ex.KW.zs)] := rfl
theorem laidWorld_met (os : Os) (args : Array Value) : laidMetH Tryz.prog Rows.twistLevelsRow.laid ((laidWorld os).forCall (fun _ _ => 0) ⟨#[], args, []⟩).memory :=
  laidMetH_of_parts (laidMet_of_run' 8 (by kernel_rfl) (by kernel_rfl)) (by kernel_rfl)

/-- what the row's condition gives the law: the variable's cells -/
theorem tab_of {W : World} (h : laidMetH Tryz.prog Rows.twistLevelsRow.laid W) : TabIs Tryz.prog W "math/bits.deBruijn64tab" .u8 Ex.KW.zs := by
  have h' : laidMet Tryz.prog [("math/bits.deBruijn64tab", tabData .u8 Ex.KW.zs)] W := h
  exact tabIs_of_head Ex.KW.tab_named typed under236 under5 cells5 cells236 h'

theorem kept {w w' : World} {may : MemPlace → Prop} (h1 : w'.os = w.os) (h2 : w'.output = w.output) (h3 : ∀ i, i < w.heap.size → w'.heap[i]? = w.heap[i]?) : w.keptBut w' may := by
  refine ⟨h1, h2, fun i hi => ?_⟩
  rw [h3 i hi]
  cases w.heap[i]? with
  | none => exact rfl
  | some o => cases o <;> first | exact ⟨rfl, rfl, rfl, fun _ _ => rfl⟩ | exact .inr ⟨rfl, rfl⟩ | exact rfl

theorem trod_i64 {H : Type} {enc : TypeId × Value → H} {w : World} {base : Nat} {sp : Nat → Bool} {held : Bool} {n : Int} (hw : (Lit.int .i64 n).wf = true) : ∃ m, DataW.trod enc Tryz.prog w base sp held m 3 [.int .i64 n] = some (.lit (.int .i64 n), []) :=
  ⟨1, by simp [DataW.trod, Tryz.underlying3, hw]⟩

theorem lifted (os : Os) (started : os.Started) (H : Type) (enc : TypeId × Value → H) :
    ReturnsInHanded {} Tryz.checked os 3 .any (fun w args => (Rows.twistLevelsSpec.pre enc Tryz.prog Tryz.f3 Rows.twistLevelsRow.domain false w args ∧ laidMetH Tryz.prog Rows.twistLevelsRow.laid w) ∧ sizedMet enc Tryz.prog Tryz.f3 (OpenSpec.ofChange Rows.twistLevelsSpec) false w args)
      (Rows.twistLevelsSpec.post enc Tryz.prog Tryz.f3 false true false false) := by
  refine returnsInHanded_of_change_and (C := Tryz.checked) (X := fun w _ => laidMetH Tryz.prog Rows.twistLevelsRow.laid w) (fun _ _ _ hh h => h.of_heap hh) own started (by kernel_rfl) Tryz.func3
    (ChangeSpec.witness_at (enc := enc) (C := Tryz.checked) (os := os) (X := fun w _ => laidMetH Tryz.prog Rows.twistLevelsRow.laid w) false (laidWorld os) #[.agg #[.int .i64 0, .int .i64 0, .int .i64 0], .int .i64 0] 8 rfl (by kernel_rfl) (by kernel_rfl) (by kernel_rfl) (by kernel_rfl) (by kernel_rfl) (laidWorld_met os _)) ?_
  intro W base args ds gs before hval0 hW _ _ hL _
  have hval : ∀ (j : Nat) t v, Tryz.f3.params[j]? = some t → args[j]? = some v → Value.okWide Tryz.prog W .any base t v := hval0
  have hW' := hW
  obtain ⟨p, q, hA0, hV0, rfl, hfz, hnd⟩ := hW
  have hA : DataW.TrodAll enc Tryz.prog W 0 (fun _ => true) true Tryz.f3.params.toList args.toList ds p := hA0
  have hV : DataW.TrodVars enc Tryz.prog W (fun _ => true) [] gs q := hV0
  rw [Tryz.params3] at hA hval
  obtain ⟨v0, v1, d0, d1, p0, p1, rfl, rfl, rfl, h0, h1⟩ := trodAll_two hA
  obtain ⟨x0, x1, x2, y0, y1, y2, n, rfl, rfl, rfl, t0, t1, t2⟩ := open_agg3 Tryz.underlying23 (by kernel_rfl) cells23 (hval 0 23 v0 rfl rfl) h0
  obtain ⟨a, ea, rfl, wa⟩ := DataW.trod_int Tryz.underlying3 t0
  obtain ⟨b, eb, rfl, wb⟩ := DataW.trod_int Tryz.underlying3 t1
  obtain ⟨c, ec, rfl, wc⟩ := DataW.trod_int Tryz.underlying3 t2
  simp only [List.cons.injEq, and_true] at ea eb ec
  subst ea eb ec
  obtain ⟨d, rfl, rfl, rfl, wd⟩ := open_int Tryz.underlying3 (hval 1 3 v1 rfl rfl) h1
  obtain ⟨rfl, rfl⟩ : gs = [] ∧ q = [] := by
    cases gs with
    | nil => exact ⟨rfl, hV⟩
    | cons g r => exact absurd hV (by intro h; cases h)
  refine (Ex.KW.law a b c d W (tab_of hL)).mono fun e W' ⟨he, hb⟩ => ?_
  subst he
  refine ⟨_, rfl, _, _, _, [], [] ++ [], [], hW', ?_, ?_, ?_, hb.frame _, fun h => by cases h⟩
  · exact trodAll_mk1 (shut_bool Tryz.underlying4 true)
  · exact trodAll_mk2 (shut_agg3 Tryz.underlying23 (by kernel_rfl) cells23 (trod_i64 wa) (trod_i64 wb) (trod_i64 wc)) (shut_int Tryz.underlying3 wd)
  · rfl

theorem row_holds : Rows.TwistLevelsSaid :=
  OpenClaim.holds_of_wide 3 Tryz.f3 rfl rfl rfl rfl rfl rfl rfl ⟨rfl, rfl, rfl, rfl, rfl⟩ rfl rfl rfl rfl rfl namedP Tryz.func3 factsP instP wrapP
    (fun os started H enc _ => lifted os started H enc)

theorem twistLevels_holds : Rows.TwistLevelsCardSaid :=
  Claim7.holds_tied_plain_at .later [] [.data] true (true, "aecaa0d3dc155f600d953f77ae706818038aa4debbb3636023e7e4719e61dfa6") false
    row_holds (fun _ h => by cases h) wfP (fun _ h => by cases h) twistLevels_row_tie rfl ⟨rfl, rfl⟩ mainP rfl
    (fun f fn hf hfn => by
      obtain rfl : 3 = f := Option.some.inj (namedP.symm.trans hf)
      obtain rfl : Tryz.f3 = fn := Option.some.inj (Tryz.func3.symm.trans hfn)
      exact ⟨lookedP, fun j t ht => by
        rw [Tryz.params3] at ht
        rcases j with _ | _ | j
        · have h3 : t = 23 := by simpa using ht.symm
          subst h3
          exact wanted23
        · have h3 : t = 3 := by simpa using ht.symm
          subst h3
          exact wanted3
        · simp at ht⟩)
    goesP
end Go.Proofs.YthddjdainglhcaaGreatDoor

