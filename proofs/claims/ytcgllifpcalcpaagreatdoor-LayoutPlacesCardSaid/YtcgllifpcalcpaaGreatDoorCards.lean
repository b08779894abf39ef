/-
  DERIVED. GIVEN WITH THE SEED: THE CARDS: each row of YtcgllifpcalcpaaGreatDoorRows.lean that lists a variable, with what it lists TIED to the program's text (the seventh form; the later family's looks); each row that meets fmt, with fmt's text TOLD by the authors' own Lean function (tested against real Go, not proved from fmt's source: count such statements apart). THE CARD IS WHAT COUNTS. Prove the row's statement (the work); the ties are given (YtcgllifpcalcpaaGreatDoorTie.lean); close each card by the builder's one call (the guide's Derived/Test/ToyasCard.lean, 'card_holds'). Laid BY PROGRAM, IN A SANDBOX (cutbox-door.mjs). By AI agents, Wed Nov 11 2026. No macro, syntax, notation, axiom, sorry.
-/
import Derived.Test.YtcgllifpcalcpaaGreatDoorRows
import GoSem.ClaimSeven
namespace Go.Proofs.YtcgllifpcalcpaaGreatDoor
namespace Rows

/-- THE TIED CARD OF 'flqlaw33.LayoutPlaces'. -/
def layoutPlacesCard : Claim7 := { stood := { row := layoutPlacesRow, standIns := [], harness := (true, "f211851a55966a886ab0a6cb6392cb06a03bccf484de987193d6c796132b45ef"), looks := false }, kinds := [], alts := [], laidByText := true, laidKinds := [.data, .data, .data], laidTests := true, laidLooks := .later }
def LayoutPlacesCardSaid : Prop := Claim7.holds Tryz.pinned (.plain (OpenSpec.ofChange layoutPlacesSpec)) layoutPlacesCard

/-- THE SECOND FORM's CARD OF 'flqlaw33.LayoutPlaces'. -/
def layoutPlacesUptoCard : Claim7 := { stood := { row := layoutPlacesUptoRow, standIns := [], harness := (true, "f211851a55966a886ab0a6cb6392cb06a03bccf484de987193d6c796132b45ef"), looks := false }, kinds := [], alts := [], laidByText := true, laidKinds := [.data, .data, .data], laidTests := true, laidLooks := .later }
def LayoutPlacesUptoCardSaid : Prop := Claim7.holds Tryz.pinned (.plain (OpenSpec.upto layoutPlacesSpec)) layoutPlacesUptoCard
end Rows
end Go.Proofs.YtcgllifpcalcpaaGreatDoor
