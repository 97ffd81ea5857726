/-
  DERIVED. GIVEN WITH THE SEED: THE CARDS: each row of YthddjdainglhcaaGreatDoorRows.lean that lists a variable, with what it lists TIED to the program's text (the seventh form; the later family's looks); each row that meets fmt, with fmt's text TOLD by the authors' own Lean function (tested against real Go, not proved from fmt's source: count such statements apart). THE CARD IS WHAT COUNTS. Prove the row's statement (the work); the ties are given (YthddjdainglhcaaGreatDoorTie.lean); close each card by the builder's one call (the guide's Derived/Test/ToyasCard.lean, 'card_holds'). Laid BY PROGRAM, IN A SANDBOX (cutbox-door.mjs). By AI agents, Wed Nov 11 2026. No macro, syntax, notation, axiom, sorry.
-/
import Derived.Test.YthddjdainglhcaaGreatDoorRows
import GoSem.ClaimSeven
namespace Go.Proofs.YthddjdainglhcaaGreatDoor
namespace Rows

/-- THE TIED CARD OF 'halfplanelaw50.TwistLevels'. -/
def twistLevelsCard : Claim7 := { stood := { row := twistLevelsRow, standIns := [], harness := (true, "aecaa0d3dc155f600d953f77ae706818038aa4debbb3636023e7e4719e61dfa6"), looks := false }, kinds := [], alts := [], laidByText := true, laidKinds := [.data], laidTests := true, laidLooks := .later }
def TwistLevelsCardSaid : Prop := Claim7.holds Tryz.pinned (.plain (OpenSpec.ofChange twistLevelsSpec)) twistLevelsCard

/-- THE SECOND FORM's CARD OF 'halfplanelaw50.TwistLevels'. -/
def twistLevelsUptoCard : Claim7 := { stood := { row := twistLevelsUptoRow, standIns := [], harness := (true, "aecaa0d3dc155f600d953f77ae706818038aa4debbb3636023e7e4719e61dfa6"), looks := false }, kinds := [], alts := [], laidByText := true, laidKinds := [.data], laidTests := true, laidLooks := .later }
def TwistLevelsUptoCardSaid : Prop := Claim7.holds Tryz.pinned (.plain (OpenSpec.upto twistLevelsSpec)) twistLevelsUptoCard
end Rows
end Go.Proofs.YthddjdainglhcaaGreatDoor
