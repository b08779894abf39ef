/-
  DERIVED. GIVEN WITH THE SEED: THE CARDS: each row of YtipcbmgelahkfaaGreatDoorRows.lean that lists a variable, with what it lists TIED to the program's text (the seventh form; the later family's looks); each row that meets fmt, with fmt's text TOLD by the authors' own Lean function (tested against real Go, not proved from fmt's source: count such statements apart). THE CARD IS WHAT COUNTS. Prove the row's statement (the work); the ties are given (YtipcbmgelahkfaaGreatDoorTie.lean); close each card by the builder's one call (the guide's Derived/Test/ToyasCard.lean, 'card_holds'). Laid BY PROGRAM, IN A SANDBOX (cutbox-door.mjs). By AI agents, Wed Nov 11 2026. No macro, syntax, notation, axiom, sorry.
-/
import Derived.Test.YtipcbmgelahkfaaGreatDoorRows
import GoSem.ClaimSeven
namespace Go.Proofs.YtipcbmgelahkfaaGreatDoor
namespace Rows

/-- THE TIED CARD OF 'flqlaw9.FactsCount'. -/
def factsCountCard : Claim7 := { stood := { row := factsCountRow, standIns := [], harness := (true, "daad291f870143bc87433f0be2cc71348f826bb7ce088e65cae2e8106c745251"), looks := false }, kinds := [], alts := [], laidByText := true, laidKinds := [.data, .data, .data, .widerDeep], laidTests := true, laidLooks := .later }
def FactsCountCardSaid : Prop := Claim7.holds Tryz.pinned (.plain (OpenSpec.ofChange factsCountSpec)) factsCountCard

/-- THE TIED CARD OF 'flqlaw9.FactsAgree'. -/
def factsAgreeCard : Claim7 := { stood := { row := factsAgreeRow, standIns := [], harness := (true, "daad291f870143bc87433f0be2cc71348f826bb7ce088e65cae2e8106c745251"), looks := false }, kinds := [], alts := [], laidByText := true, laidKinds := [.data, .data, .data, .widerDeep], laidTests := true, laidLooks := .later }
def FactsAgreeCardSaid : Prop := Claim7.holds Tryz.pinned (.plain (OpenSpec.ofChange factsAgreeSpec)) factsAgreeCard

/-- THE SECOND FORM's CARD OF 'flqlaw9.FactsCount'. -/
def factsCountUptoCard : Claim7 := { stood := { row := factsCountUptoRow, standIns := [], harness := (true, "daad291f870143bc87433f0be2cc71348f826bb7ce088e65cae2e8106c745251"), looks := false }, kinds := [], alts := [], laidByText := true, laidKinds := [.data, .data, .data, .widerDeep], laidTests := true, laidLooks := .later }
def FactsCountUptoCardSaid : Prop := Claim7.holds Tryz.pinned (.plain (OpenSpec.upto factsCountSpec)) factsCountUptoCard

/-- THE SECOND FORM's CARD OF 'flqlaw9.FactsAgree'. -/
def factsAgreeUptoCard : Claim7 := { stood := { row := factsAgreeUptoRow, standIns := [], harness := (true, "daad291f870143bc87433f0be2cc71348f826bb7ce088e65cae2e8106c745251"), looks := false }, kinds := [], alts := [], laidByText := true, laidKinds := [.data, .data, .data, .widerDeep], laidTests := true, laidLooks := .later }
def FactsAgreeUptoCardSaid : Prop := Claim7.holds Tryz.pinned (.plain (OpenSpec.upto factsAgreeSpec)) factsAgreeUptoCard
end Rows
end Go.Proofs.YtipcbmgelahkfaaGreatDoor
