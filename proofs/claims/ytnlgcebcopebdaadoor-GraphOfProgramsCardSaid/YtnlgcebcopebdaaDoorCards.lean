/-
  DERIVED. GIVEN WITH THE SEED: THE CARDS: each row of YtnlgcebcopebdaaDoorRows.lean that lists a variable, with what it lists TIED to the program's text (the seventh form; the later family's looks); each row that meets fmt, with fmt's text TOLD by the authors' own Lean function (tested against real Go, not proved from fmt's source: count such statements apart). THE CARD IS WHAT COUNTS. Prove the row's statement (the work); the ties are given (YtnlgcebcopebdaaDoorTie.lean); close each card by the builder's one call (the guide's Derived/Test/ToyasCard.lean, 'card_holds'). Laid BY PROGRAM, IN A SANDBOX (cutbox-door.mjs). By AI agents, Wed Nov 11 2026. No macro, syntax, notation, axiom, sorry.
-/
import Derived.Test.YtnlgcebcopebdaaDoorRows
import GoSem.ClaimSeven
namespace Go.Proofs.YtnlgcebcopebdaaDoor
namespace Rows

/-- THE TIED CARD OF 'flqlaw8.GraphOfPrograms'. -/
def graphOfProgramsCard : Claim7 := { stood := { row := graphOfProgramsRow, standIns := [], harness := (true, "6139239655ba3626ed2964354ffdf32c8385f5ff8d38d018b569519066ed4c18"), looks := false }, kinds := [], alts := [], laidByText := true, laidKinds := [.widerDeep], laidTests := true, laidLooks := .later }
def GraphOfProgramsCardSaid : Prop := Claim7.holds Tryd.pinned (.plain (OpenSpec.ofChange graphOfProgramsSpec)) graphOfProgramsCard

/-- THE TIED CARD OF 'flqlaw8.GraphReverse'. -/
def graphReverseCard : Claim7 := { stood := { row := graphReverseRow, standIns := [], harness := (true, "6139239655ba3626ed2964354ffdf32c8385f5ff8d38d018b569519066ed4c18"), looks := false }, kinds := [], alts := [], laidByText := true, laidKinds := [.widerDeep], laidTests := true, laidLooks := .later }
def GraphReverseCardSaid : Prop := Claim7.holds Tryd.pinned (.plain (OpenSpec.ofChange graphReverseSpec)) graphReverseCard

/-- THE TIED CARD OF 'flqlaw8.GraphExamples'. -/
def graphExamplesCard : Claim7 := { stood := { row := graphExamplesRow, standIns := [], harness := (true, "6139239655ba3626ed2964354ffdf32c8385f5ff8d38d018b569519066ed4c18"), looks := false }, kinds := [], alts := [], laidByText := true, laidKinds := [.widerDeep], laidTests := true, laidLooks := .later }
def GraphExamplesCardSaid : Prop := Claim7.holds Tryd.pinned (.plain (OpenSpec.ofChange graphExamplesSpec)) graphExamplesCard

/-- THE SECOND FORM's CARD OF 'flqlaw8.GraphOfPrograms'. -/
def graphOfProgramsUptoCard : Claim7 := { stood := { row := graphOfProgramsUptoRow, standIns := [], harness := (true, "6139239655ba3626ed2964354ffdf32c8385f5ff8d38d018b569519066ed4c18"), looks := false }, kinds := [], alts := [], laidByText := true, laidKinds := [.widerDeep], laidTests := true, laidLooks := .later }
def GraphOfProgramsUptoCardSaid : Prop := Claim7.holds Tryd.pinned (.plain (OpenSpec.upto graphOfProgramsSpec)) graphOfProgramsUptoCard

/-- THE SECOND FORM's CARD OF 'flqlaw8.GraphReverse'. -/
def graphReverseUptoCard : Claim7 := { stood := { row := graphReverseUptoRow, standIns := [], harness := (true, "6139239655ba3626ed2964354ffdf32c8385f5ff8d38d018b569519066ed4c18"), looks := false }, kinds := [], alts := [], laidByText := true, laidKinds := [.widerDeep], laidTests := true, laidLooks := .later }
def GraphReverseUptoCardSaid : Prop := Claim7.holds Tryd.pinned (.plain (OpenSpec.upto graphReverseSpec)) graphReverseUptoCard

/-- THE SECOND FORM's CARD OF 'flqlaw8.GraphExamples'. -/
def graphExamplesUptoCard : Claim7 := { stood := { row := graphExamplesUptoRow, standIns := [], harness := (true, "6139239655ba3626ed2964354ffdf32c8385f5ff8d38d018b569519066ed4c18"), looks := false }, kinds := [], alts := [], laidByText := true, laidKinds := [.widerDeep], laidTests := true, laidLooks := .later }
def GraphExamplesUptoCardSaid : Prop := Claim7.holds Tryd.pinned (.plain (OpenSpec.upto graphExamplesSpec)) graphExamplesUptoCard
end Rows
end Go.Proofs.YtnlgcebcopebdaaDoor
