/-
  DERIVED. GIVEN WITH THE SEED: THE CARDS: each row of YtkooljfbpbghhaaGreatDoorRows.lean that lists a variable, with what it lists TIED to the program's text (the seventh form; the later family's looks); each row that meets fmt, with fmt's text TOLD by the authors' own Lean function (tested against real Go, not proved from fmt's source: count such statements apart). THE CARD IS WHAT COUNTS. Prove the row's statement (the work); the ties are given (YtkooljfbpbghhaaGreatDoorTie.lean); close each card by the builder's one call (the guide's Derived/Test/ToyasCard.lean, 'card_holds'). Laid BY PROGRAM, IN A SANDBOX (cutbox-door.mjs). By AI agents, Wed Nov 11 2026. No macro, syntax, notation, axiom, sorry.
-/
import Derived.Test.YtkooljfbpbghhaaGreatDoorRows
import GoSem.ClaimSeven
namespace Go.Proofs.YtkooljfbpbghhaaGreatDoor
namespace Rows

/-- THE TIED CARD OF 'flqlaw16.WitnessTexts'. -/
def witnessTextsCard : Claim7 := { stood := { row := witnessTextsRow, standIns := [], harness := (true, "260ce826d0c7bde95eedc3417db547538238d394cea8801b19f73e85f28ebbcc"), looks := false }, kinds := [], alts := [], laidByText := true, laidKinds := [.data, .data, .data, .widerDeep], laidTests := true, laidLooks := .later }
def WitnessTextsCardSaid : Prop := Claim7.holds Tryz.pinned (.plain (OpenSpec.ofChange witnessTextsSpec)) witnessTextsCard

/-- THE SECOND FORM's CARD OF 'flqlaw16.WitnessTexts'. -/
def witnessTextsUptoCard : Claim7 := { stood := { row := witnessTextsUptoRow, standIns := [], harness := (true, "260ce826d0c7bde95eedc3417db547538238d394cea8801b19f73e85f28ebbcc"), looks := false }, kinds := [], alts := [], laidByText := true, laidKinds := [.data, .data, .data, .widerDeep], laidTests := true, laidLooks := .later }
def WitnessTextsUptoCardSaid : Prop := Claim7.holds Tryz.pinned (.plain (OpenSpec.upto witnessTextsSpec)) witnessTextsUptoCard
end Rows
end Go.Proofs.YtkooljfbpbghhaaGreatDoor
