/-
  DERIVED. GIVEN WITH THE SEED: THE CARDS: each row of YtajoeeppiomfkaaGreatDoorRows.lean that lists a variable, with what it lists TIED to the program's text (the seventh form; the later family's looks); each row that meets fmt, with fmt's text TOLD by the authors' own Lean function (tested against real Go, not proved from fmt's source: count such statements apart). THE CARD IS WHAT COUNTS. Prove the row's statement (the work); the ties are given (YtajoeeppiomfkaaGreatDoorTie.lean); close each card by the builder's one call (the guide's Derived/Test/ToyasCard.lean, 'card_holds'). Laid BY PROGRAM, IN A SANDBOX (cutbox-door.mjs). By AI agents, Wed Nov 11 2026. No macro, syntax, notation, axiom, sorry.
-/
import Derived.Test.YtajoeeppiomfkaaGreatDoorRows
import GoSem.ClaimSeven
namespace Go.Proofs.YtajoeeppiomfkaaGreatDoor
namespace Rows

/-- THE TIED CARD OF 'halfplanelaw49.NewformsNil'. -/
def newformsNilCard : Claim7 := { stood := { row := newformsNilRow, standIns := [], harness := (true, "4a9479bb133d193a88983924006994885808dcc331701a0613d58a20041a3dc8"), looks := false }, kinds := [], alts := [], laidByText := true, laidKinds := [.data], laidTests := true, laidLooks := .later }
def NewformsNilCardSaid : Prop := Claim7.holds Tryz.pinned (.plain (OpenSpec.ofChange newformsNilSpec)) newformsNilCard

/-- THE TIED CARD OF 'halfplanelaw51.PeriodsNil'. -/
def periodsNilCard : Claim7 := { stood := { row := periodsNilRow, standIns := [], harness := (true, "4a9479bb133d193a88983924006994885808dcc331701a0613d58a20041a3dc8"), looks := false }, kinds := [], alts := [], laidByText := true, laidKinds := [.data], laidTests := true, laidLooks := .later }
def PeriodsNilCardSaid : Prop := Claim7.holds Tryz.pinned (.plain (OpenSpec.ofChange periodsNilSpec)) periodsNilCard

/-- THE SECOND FORM's CARD OF 'halfplanelaw49.NewformsNil'. -/
def newformsNilUptoCard : Claim7 := { stood := { row := newformsNilUptoRow, standIns := [], harness := (true, "4a9479bb133d193a88983924006994885808dcc331701a0613d58a20041a3dc8"), looks := false }, kinds := [], alts := [], laidByText := true, laidKinds := [.data], laidTests := true, laidLooks := .later }
def NewformsNilUptoCardSaid : Prop := Claim7.holds Tryz.pinned (.plain (OpenSpec.upto newformsNilSpec)) newformsNilUptoCard

/-- THE SECOND FORM's CARD OF 'halfplanelaw51.PeriodsNil'. -/
def periodsNilUptoCard : Claim7 := { stood := { row := periodsNilUptoRow, standIns := [], harness := (true, "4a9479bb133d193a88983924006994885808dcc331701a0613d58a20041a3dc8"), looks := false }, kinds := [], alts := [], laidByText := true, laidKinds := [.data], laidTests := true, laidLooks := .later }
def PeriodsNilUptoCardSaid : Prop := Claim7.holds Tryz.pinned (.plain (OpenSpec.upto periodsNilSpec)) periodsNilUptoCard
end Rows
end Go.Proofs.YtajoeeppiomfkaaGreatDoor
