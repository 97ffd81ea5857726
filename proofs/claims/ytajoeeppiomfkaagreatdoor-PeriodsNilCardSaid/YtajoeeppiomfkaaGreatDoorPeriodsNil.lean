/- The statement PeriodsNil: its row and its tied card. Conditions: those of the row, none of our own. -/
import Derived.Test.YtajoeeppiomfkaaGreatDoorPeriodsNilLaw
import Derived.Test.YtajoeeppiomfkaaGreatDoorPeriodsNilFactsA
import Derived.Test.YtajoeeppiomfkaaGreatDoorPeriodsNilFactsB
import Derived.Test.YtajoeeppiomfkaaGreatDoorRows
import Derived.Test.YtajoeeppiomfkaaGreatDoorTie
import Derived.Test.YtajoeeppiomfkaaGreatDoorCards
import Derived.Lib.SmallJoins
import Derived.Lib.LaidTab
import Derived.ChangeSame
import Derived.ChangeVars
import Derived.JoinedOf
import Derived.RowKit
import Derived.RowKitTokens
import Derived.Carry
import Derived.LaidLaws
import Derived.LaidHandle
import Derived.SevenTiedAt
namespace Go.Proofs.YtajoeeppiomfkaaGreatDoor
open Go Go.ChangeShapes Go.WideShapes Go.RowKit Go.Lib Go.Joins
set_option maxRecDepth 100000

theorem ownP : ownKnob Tryz.prog.godebug = none := by kernel_rfl
theorem typedP : (Tryz.prog.globals[0]?).map (·.type) = some 263 := by kernel_rfl
theorem under263P : Tryz.prog.underlying 263 = some (.array 64 5) := by kernel_rfl
theorem under5P : Tryz.prog.underlying 5 = some (.int .u8) := by kernel_rfl
theorem cells5P : Tryz.prog.cellsOf 5 = 1 := by kernel_rfl
theorem cells263P : Tryz.prog.cellsOf 263 = 64 := by kernel_rfl
theorem cells68P : Tryz.prog.cellsOf 68 = 5 := by kernel_rfl
theorem cells69P : Tryz.prog.cellsOf 69 = 2 := by kernel_rfl
theorem readP68 : Tryz.prog.readableRec 68 = true := by kernel_rfl
theorem readP69 : Tryz.prog.readableRec 69 = true := by kernel_rfl
theorem laidP : laidOutB Tryz.prog = true := by kernel_rfl
theorem rowP68 : 68 < Tryz.prog.types.size := of_decide_eq_true (by kernel_rfl)
theorem rowP69 : 69 < Tryz.prog.types.size := of_decide_eq_true (by kernel_rfl)

/-- a cell is no aggregate -/
theorem oneCell_of {P : Program} {w : World} {r : Reach} {b : Nat} {u : TypeId} {v : Value} (h : Cell.okWide P w r b u v) : v.oneCell' = true := by
  cases v with
  | agg cs =>
    unfold Cell.okWide at h
    split at h <;> first | contradiction | (unfold Cell.ok at h; split at h <;> first | contradiction | exact h.elim)
  | tuple cs =>
    unfold Cell.okWide at h
    split at h <;> first | contradiction | (unfold Cell.ok at h; split at h <;> first | contradiction | exact h.elim)
  | _ => rfl
theorem oneCells {P : Program} {w : World} {r : Reach} {b : Nat} {t : TypeId} {cs : Array Value} (h : Row.okWide P w r b t cs) {i : Nat} {v : Value} (hv : cs[i]? = some v) : v.oneCell' = true := by
  obtain ⟨ts, _, _, hc⟩ := h
  obtain ⟨u, _, hu⟩ := hc i v hv
  exact oneCell_of hu
theorem opened {P : Program} {w : World} {r : Reach} {b : Nat} {t : TypeId} {v : Value} (hs : (match P.underlying t with | some (.struct _) | some (.array _ _) => true | _ => false) = true) (h : Value.okWide P w r b t v) :
    ∃ cs : Array Value, v = .agg cs ∧ cs.size = P.cellsOf t ∧ ∀ (i : Nat) (x : Value), cs[i]? = some x → x.oneCell' = true := by
  unfold Value.okWide at h
  split at h
  · obtain ⟨cs, h1, h2, h3⟩ := h
    exact ⟨cs, h1, h2, fun i x => oneCells h3⟩
  · obtain ⟨cs, h1, h2, h3⟩ := h
    exact ⟨cs, h1, h2, fun i x => oneCells h3⟩
  · rename_i h1 h2
    split at hs
    · exact absurd (by assumption) (h1 _)
    · exact absurd (by assumption) (h2 _ _)
    · cases hs
theorem array5 {α : Type} {cs : Array α} (h : cs.size = 5) : ∃ c0 c1 c2 c3 c4, cs = #[c0, c1, c2, c3, c4] := by
  obtain ⟨l⟩ := cs
  match l, h with
  | [c0, c1, c2, c3, c4], _ => exact ⟨c0, c1, c2, c3, c4, rfl⟩

/-- the table's variable as it is laid at the start -/
noncomputable def laidWorldP (os : Os) : World :=
  let w0 := World.holding Tryz.prog os ⟨#[], #[], []⟩
  { w0 with heap := w0.heap.modify 0 fun
      | .cells _ t frozen => .cells (Ex.KP.zs.map fun z => Value.int .u8 z).toArray t frozen
      | o => o }
theorem laidWorldP_met (os : Os) (args : Array Value) : laidMetH Tryz.prog Rows.periodsNilRow.laid ((laidWorldP os).forCall (fun _ _ => 0) ⟨#[], args, []⟩).memory :=
  laidMetH_of_parts (laidMet_of_run' 8 (by kernel_rfl) (by kernel_rfl)) (by kernel_rfl)

/-- what the row's condition gives the law: the variable's cells -/
theorem tabP_of {W : World} (h : laidMetH Tryz.prog Rows.periodsNilRow.laid W) : TabIs Tryz.prog W "math/bits.deBruijn64tab" .u8 Ex.KP.zs := by
  have h' : laidMet Tryz.prog [("math/bits.deBruijn64tab", tabData .u8 Ex.KP.zs)] W := h
  exact tabIs_of_head Ex.KP.tab_named typedP under263P under5P cells5P cells263P h'

theorem liftedP (os : Os) (started : os.Started) (H : Type) (enc : TypeId × Value → H) :
    ReturnsInHanded {} Tryz.checked os 4 .any (fun w args => (Rows.periodsNilSpec.pre enc Tryz.prog Tryz.f4 Rows.periodsNilRow.domain false w args ∧ laidMetH Tryz.prog Rows.periodsNilRow.laid w) ∧ sizedMet enc Tryz.prog Tryz.f4 (OpenSpec.ofChange Rows.periodsNilSpec) false w args)
      (Rows.periodsNilSpec.post enc Tryz.prog Tryz.f4 false true false false) := by
  refine returnsInHanded_of_change_and (C := Tryz.checked) (X := fun w _ => laidMetH Tryz.prog Rows.periodsNilRow.laid w) (fun _ _ _ hh h => h.of_heap hh) ownP started (by kernel_rfl) Tryz.func4
    (ChangeSpec.witness_at (enc := enc) (C := Tryz.checked) (os := os) (X := fun w _ => laidMetH Tryz.prog Rows.periodsNilRow.laid w) false (laidWorldP os) #[.agg #[.slice none 0 0, .int .i64 0, .int .i64 0, .int .i64 0, .int .i64 0], .agg #[.int .i64 0, .int .i64 0]] 8 rfl (by kernel_rfl) (by kernel_rfl) (by kernel_rfl) (by kernel_rfl) (by kernel_rfl) (laidWorldP_met os _)) ?_
  intro W base args ds gs before hval0 hW _ _ hL _
  have hval : ∀ (j : Nat) t v, Tryz.f4.params[j]? = some t → args[j]? = some v → Value.okWide Tryz.prog W .any base t v := hval0
  have hW' := hW
  obtain ⟨p, q, hA0, hV0, rfl, hfz, hnd⟩ := hW
  have hA : DataW.TrodAll enc Tryz.prog W 0 (fun _ => true) true Tryz.f4.params.toList args.toList ds p := hA0
  have hV : DataW.TrodVars enc Tryz.prog W (fun _ => true) [] gs q := hV0
  rw [Tryz.params4] at hA hval
  obtain ⟨v0, v1, d0, d1, p0, p1, rfl, rfl, rfl, h0, h1⟩ := trodAll_two hA
  obtain ⟨cs0, rfl, hs0, ho0⟩ := opened (by kernel_rfl) (hval 0 68 v0 rfl rfl)
  obtain ⟨cs1, rfl, hs1, ho1⟩ := opened (by kernel_rfl) (hval 1 69 v1 rfl rfl)
  obtain ⟨c0, c1, c2, c3, c4, rfl⟩ := array5 (hs0.trans cells68P)
  obtain ⟨c5, c6, rfl⟩ := array2 (hs1.trans cells69P)
  obtain ⟨rfl, rfl⟩ : gs = [] ∧ q = [] := by
    cases gs with
    | nil => exact ⟨rfl, hV⟩
    | cons g r => exact absurd hV (by intro h; cases h)
  have hc : ∀ v ∈ [c0, c1, c2, c3, c4, c5, c6], v.oneCell' = true := by
    intro v hv
    simp only [List.mem_cons, List.not_mem_nil, or_false] at hv
    rcases hv with rfl | rfl | rfl | rfl | rfl | rfl | rfl
    · exact ho0 0 _ rfl
    · exact ho0 1 _ rfl
    · exact ho0 2 _ rfl
    · exact ho0 3 _ rfl
    · exact ho0 4 _ rfl
    · exact ho1 0 _ rfl
    · exact ho1 1 _ rfl
  have hlt0 : ∀ x ∈ p0, x.block < W.heap.size := fun x hx => hW'.lt x (by simp [hx])
  have hlt1 : ∀ x ∈ p1, x.block < W.heap.size := fun x hx => hW'.lt x (by simp [hx])
  refine (Ex.KP.law c0 c1 c2 c3 c4 c5 c6 hc W (tabP_of hL)).mono fun e W' ⟨he, hb⟩ => ?_
  subst he
  refine ⟨_, rfl, _, _, _, [], p0 ++ p1, [], hW', ?_, ?_, ?_, hb.frame _, fun h => by cases h⟩
  · exact trodAll_mk1 (shut_bool Tryz.underlying4 true)
  · exact trodAll_mk2 (Below.trod laidP readP68 rowP68 h0 hb hlt0) (Below.trod laidP readP69 rowP69 h1 hb hlt1)
  · rfl

theorem rowP_holds : Rows.PeriodsNilSaid :=
  OpenClaim.holds_of_wide 4 Tryz.f4 rfl rfl rfl rfl rfl rfl rfl ⟨rfl, rfl, rfl, rfl, rfl⟩ rfl rfl rfl rfl rfl namedP Tryz.func4 factsP instP wrapP
    (fun os started H enc _ => liftedP os started H enc)

theorem periodsNil_holds : Rows.PeriodsNilCardSaid :=
  Claim7.holds_tied_plain_at .later [] [.data] true (true, "4a9479bb133d193a88983924006994885808dcc331701a0613d58a20041a3dc8") false
    rowP_holds (fun _ h => by cases h) wfP (fun _ h => by cases h) periodsNil_row_tie rfl ⟨rfl, rfl⟩ mainP rfl
    (fun f fn hf hfn => by
      obtain rfl : 4 = f := Option.some.inj (namedP.symm.trans hf)
      obtain rfl : Tryz.f4 = fn := Option.some.inj (Tryz.func4.symm.trans hfn)
      exact ⟨lookedP, fun j t ht => by
        rw [Tryz.params4] at ht
        rcases j with _ | _ | j
        · have h3 : t = 68 := by simpa using ht.symm
          subst h3
          exact wanted68
        · have h3 : t = 69 := by simpa using ht.symm
          subst h3
          exact wanted69
        · simp at ht⟩)
    goesP
end Go.Proofs.YtajoeeppiomfkaaGreatDoor
