/-
  DERIVED. GIVEN WITH THE SEED: THE CARDS: each row of YtohlgneeifkikaaGreatDoorRows.lean that lists a variable, with what it lists TIED to the program's text (the seventh form; the later family's looks); each row that meets fmt, with fmt's text TOLD by the authors' own Lean function (tested against real Go, not proved from fmt's source: count such statements apart). THE CARD IS WHAT COUNTS. Prove the row's statement (the work); the ties are given (YtohlgneeifkikaaGreatDoorTie.lean); close each card by the builder's one call (the guide's Derived/Test/ToyasCard.lean, 'card_holds'). Laid BY PROGRAM, IN A SANDBOX (cutbox-door.mjs). By AI agents, Wed Nov 11 2026. No macro, syntax, notation, axiom, sorry.
-/
import Derived.Test.YtohlgneeifkikaaGreatDoorRows
import GoSem.ClaimSeven
namespace Go.Proofs.YtohlgneeifkikaaGreatDoor
namespace Rows

/-- THE TIED CARD OF 'halfplanelaw49.NewformsDiffer'. -/
def newformsDifferCard : Claim7 := { stood := { row := newformsDifferRow, standIns := [], harness := (true, "0efd8b91bd47a0f5445cd73b1db0b59e75ca4acdd0e44165b06281f5d538a474"), looks := false }, kinds := [], alts := [], laidByText := true, laidKinds := [.data], laidTests := true, laidLooks := .later }
def NewformsDifferCardSaid : Prop := Claim7.holds Tryz.pinned (.plain (OpenSpec.ofChange newformsDifferSpec)) newformsDifferCard

/-- THE TIED CARD OF 'halfplanelaw49.NewformsSeparate'. -/
def newformsSeparateCard : Claim7 := { stood := { row := newformsSeparateRow, standIns := [], harness := (true, "0efd8b91bd47a0f5445cd73b1db0b59e75ca4acdd0e44165b06281f5d538a474"), looks := false }, kinds := [], alts := [], laidByText := true, laidKinds := [.data], laidTests := true, laidLooks := .later }
def NewformsSeparateCardSaid : Prop := Claim7.holds Tryz.pinned (.plain (OpenSpec.ofChange newformsSeparateSpec)) newformsSeparateCard

/-- THE TIED CARD OF 'halfplanelaw49.NewformsDegrees'. -/
def newformsDegreesCard : Claim7 := { stood := { row := newformsDegreesRow, standIns := [], harness := (true, "0efd8b91bd47a0f5445cd73b1db0b59e75ca4acdd0e44165b06281f5d538a474"), looks := false }, kinds := [], alts := [], laidByText := true, laidKinds := [.data], laidTests := true, laidLooks := .later }
def NewformsDegreesCardSaid : Prop := Claim7.holds Tryz.pinned (.plain (OpenSpec.ofChange newformsDegreesSpec)) newformsDegreesCard

/-- THE SECOND FORM's CARD OF 'halfplanelaw49.NewformsDiffer'. -/
def newformsDifferUptoCard : Claim7 := { stood := { row := newformsDifferUptoRow, standIns := [], harness := (true, "0efd8b91bd47a0f5445cd73b1db0b59e75ca4acdd0e44165b06281f5d538a474"), looks := false }, kinds := [], alts := [], laidByText := true, laidKinds := [.data], laidTests := true, laidLooks := .later }
def NewformsDifferUptoCardSaid : Prop := Claim7.holds Tryz.pinned (.plain (OpenSpec.upto newformsDifferSpec)) newformsDifferUptoCard

/-- THE SECOND FORM's CARD OF 'halfplanelaw49.NewformsSeparate'. -/
def newformsSeparateUptoCard : Claim7 := { stood := { row := newformsSeparateUptoRow, standIns := [], harness := (true, "0efd8b91bd47a0f5445cd73b1db0b59e75ca4acdd0e44165b06281f5d538a474"), looks := false }, kinds := [], alts := [], laidByText := true, laidKinds := [.data], laidTests := true, laidLooks := .later }
def NewformsSeparateUptoCardSaid : Prop := Claim7.holds Tryz.pinned (.plain (OpenSpec.upto newformsSeparateSpec)) newformsSeparateUptoCard

/-- THE SECOND FORM's CARD OF 'halfplanelaw49.NewformsDegrees'. -/
def newformsDegreesUptoCard : Claim7 := { stood := { row := newformsDegreesUptoRow, standIns := [], harness := (true, "0efd8b91bd47a0f5445cd73b1db0b59e75ca4acdd0e44165b06281f5d538a474"), looks := false }, kinds := [], alts := [], laidByText := true, laidKinds := [.data], laidTests := true, laidLooks := .later }
def NewformsDegreesUptoCardSaid : Prop := Claim7.holds Tryz.pinned (.plain (OpenSpec.upto newformsDegreesSpec)) newformsDegreesUptoCard
end Rows
end Go.Proofs.YtohlgneeifkikaaGreatDoor
