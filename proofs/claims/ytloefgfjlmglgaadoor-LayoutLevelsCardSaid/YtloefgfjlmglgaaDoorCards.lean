/-
  DERIVED. GIVEN WITH THE SEED: THE CARDS: each row of YtloefgfjlmglgaaDoorRows.lean that lists a variable, with what it lists TIED to the program's text (the seventh form; the later family's looks); each row that meets fmt, with fmt's text TOLD by the authors' own Lean function (tested against real Go, not proved from fmt's source: count such statements apart). THE CARD IS WHAT COUNTS. Prove the row's statement (the work); the ties are given (YtloefgfjlmglgaaDoorTie.lean); close each card by the builder's one call (the guide's Derived/Test/ToyasCard.lean, 'card_holds'). Laid BY PROGRAM, IN A SANDBOX (cutbox-door.mjs). By AI agents, Wed Nov 11 2026. No macro, syntax, notation, axiom, sorry.
-/
import Derived.Test.YtloefgfjlmglgaaDoorRows
import GoSem.ClaimSeven
namespace Go.Proofs.YtloefgfjlmglgaaDoor
namespace Rows

/-- THE TIED CARD OF 'flqlaw33.LayoutTurns'. -/
def layoutTurnsCard : Claim7 := { stood := { row := layoutTurnsRow, standIns := [], harness := (true, "ba633ca655d7bcac5800901be342f9b4f0b9996669fa7874ba9ba3a087c88f65"), looks := false }, kinds := [], alts := [], laidByText := true, laidKinds := [.data, .data, .data], laidTests := true, laidLooks := .later }
def LayoutTurnsCardSaid : Prop := Claim7.holds Tryd.pinned (.plain (OpenSpec.ofChange layoutTurnsSpec)) layoutTurnsCard

/-- THE TIED CARD OF 'flqlaw33.LayoutFractions'. -/
def layoutFractionsCard : Claim7 := { stood := { row := layoutFractionsRow, standIns := [], harness := (true, "ba633ca655d7bcac5800901be342f9b4f0b9996669fa7874ba9ba3a087c88f65"), looks := false }, kinds := [], alts := [], laidByText := true, laidKinds := [.data, .data, .data], laidTests := true, laidLooks := .later }
def LayoutFractionsCardSaid : Prop := Claim7.holds Tryd.pinned (.plain (OpenSpec.ofChange layoutFractionsSpec)) layoutFractionsCard

/-- THE TIED CARD OF 'flqlaw33.LayoutLevels'. -/
def layoutLevelsCard : Claim7 := { stood := { row := layoutLevelsRow, standIns := [], harness := (true, "ba633ca655d7bcac5800901be342f9b4f0b9996669fa7874ba9ba3a087c88f65"), looks := false }, kinds := [], alts := [], laidByText := true, laidKinds := [.data, .data, .data], laidTests := true, laidLooks := .later }
def LayoutLevelsCardSaid : Prop := Claim7.holds Tryd.pinned (.plain (OpenSpec.ofChange layoutLevelsSpec)) layoutLevelsCard

/-- THE SECOND FORM's CARD OF 'flqlaw33.LayoutTurns'. -/
def layoutTurnsUptoCard : Claim7 := { stood := { row := layoutTurnsUptoRow, standIns := [], harness := (true, "ba633ca655d7bcac5800901be342f9b4f0b9996669fa7874ba9ba3a087c88f65"), looks := false }, kinds := [], alts := [], laidByText := true, laidKinds := [.data, .data, .data], laidTests := true, laidLooks := .later }
def LayoutTurnsUptoCardSaid : Prop := Claim7.holds Tryd.pinned (.plain (OpenSpec.upto layoutTurnsSpec)) layoutTurnsUptoCard

/-- THE SECOND FORM's CARD OF 'flqlaw33.LayoutFractions'. -/
def layoutFractionsUptoCard : Claim7 := { stood := { row := layoutFractionsUptoRow, standIns := [], harness := (true, "ba633ca655d7bcac5800901be342f9b4f0b9996669fa7874ba9ba3a087c88f65"), looks := false }, kinds := [], alts := [], laidByText := true, laidKinds := [.data, .data, .data], laidTests := true, laidLooks := .later }
def LayoutFractionsUptoCardSaid : Prop := Claim7.holds Tryd.pinned (.plain (OpenSpec.upto layoutFractionsSpec)) layoutFractionsUptoCard

/-- THE SECOND FORM's CARD OF 'flqlaw33.LayoutLevels'. -/
def layoutLevelsUptoCard : Claim7 := { stood := { row := layoutLevelsUptoRow, standIns := [], harness := (true, "ba633ca655d7bcac5800901be342f9b4f0b9996669fa7874ba9ba3a087c88f65"), looks := false }, kinds := [], alts := [], laidByText := true, laidKinds := [.data, .data, .data], laidTests := true, laidLooks := .later }
def LayoutLevelsUptoCardSaid : Prop := Claim7.holds Tryd.pinned (.plain (OpenSpec.upto layoutLevelsSpec)) layoutLevelsUptoCard
end Rows
end Go.Proofs.YtloefgfjlmglgaaDoor
