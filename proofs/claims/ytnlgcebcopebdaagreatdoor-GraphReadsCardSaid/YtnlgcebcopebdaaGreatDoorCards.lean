/-
  DERIVED. GIVEN WITH THE SEED: THE CARDS: each row of YtnlgcebcopebdaaGreatDoorRows.lean that lists a variable, with what it lists TIED to the program's text (the seventh form; the later family's looks); each row that meets fmt, with fmt's text TOLD by the authors' own Lean function (tested against real Go, not proved from fmt's source: count such statements apart). THE CARD IS WHAT COUNTS. Prove the row's statement (the work); the ties are given (YtnlgcebcopebdaaGreatDoorTie.lean); close each card by the builder's one call (the guide's Derived/Test/ToyasCard.lean, 'card_holds'). Laid BY PROGRAM, IN A SANDBOX (cutbox-door.mjs). By AI agents, Wed Nov 11 2026. No macro, syntax, notation, axiom, sorry.
-/
import Derived.Test.YtnlgcebcopebdaaGreatDoorRows
import GoSem.ClaimSeven
namespace Go.Proofs.YtnlgcebcopebdaaGreatDoor
namespace Rows

/-- THE TIED CARD OF 'flqlaw8.GraphBuilds'. -/
def graphBuildsCard : Claim7 := { stood := { row := graphBuildsRow, standIns := [], harness := (true, "5184cef22c0e8aa0c74683f3de15c3dce0668af278c2445dfd13c2117a94010d"), looks := false }, kinds := [], alts := [], laidByText := true, laidKinds := [.widerDeep], laidTests := true, laidLooks := .later }
def GraphBuildsCardSaid : Prop := Claim7.holds Tryz.pinned (.plain (OpenSpec.ofChange graphBuildsSpec)) graphBuildsCard

/-- THE TIED CARD OF 'flqlaw8.GraphReads'. -/
def graphReadsCard : Claim7 := { stood := { row := graphReadsRow, standIns := [], harness := (true, "5184cef22c0e8aa0c74683f3de15c3dce0668af278c2445dfd13c2117a94010d"), looks := false }, kinds := [], alts := [], laidByText := true, laidKinds := [.widerDeep], laidTests := true, laidLooks := .later }
def GraphReadsCardSaid : Prop := Claim7.holds Tryz.pinned (.plain (OpenSpec.ofChange graphReadsSpec)) graphReadsCard

/-- THE TIED CARD OF 'flqlaw8.GraphReach'. -/
def graphReachCard : Claim7 := { stood := { row := graphReachRow, standIns := [], harness := (true, "5184cef22c0e8aa0c74683f3de15c3dce0668af278c2445dfd13c2117a94010d"), looks := false }, kinds := [], alts := [], laidByText := true, laidKinds := [.widerDeep], laidTests := true, laidLooks := .later }
def GraphReachCardSaid : Prop := Claim7.holds Tryz.pinned (.plain (OpenSpec.ofChange graphReachSpec)) graphReachCard

/-- THE SECOND FORM's CARD OF 'flqlaw8.GraphBuilds'. -/
def graphBuildsUptoCard : Claim7 := { stood := { row := graphBuildsUptoRow, standIns := [], harness := (true, "5184cef22c0e8aa0c74683f3de15c3dce0668af278c2445dfd13c2117a94010d"), looks := false }, kinds := [], alts := [], laidByText := true, laidKinds := [.widerDeep], laidTests := true, laidLooks := .later }
def GraphBuildsUptoCardSaid : Prop := Claim7.holds Tryz.pinned (.plain (OpenSpec.upto graphBuildsSpec)) graphBuildsUptoCard

/-- THE SECOND FORM's CARD OF 'flqlaw8.GraphReads'. -/
def graphReadsUptoCard : Claim7 := { stood := { row := graphReadsUptoRow, standIns := [], harness := (true, "5184cef22c0e8aa0c74683f3de15c3dce0668af278c2445dfd13c2117a94010d"), looks := false }, kinds := [], alts := [], laidByText := true, laidKinds := [.widerDeep], laidTests := true, laidLooks := .later }
def GraphReadsUptoCardSaid : Prop := Claim7.holds Tryz.pinned (.plain (OpenSpec.upto graphReadsSpec)) graphReadsUptoCard

/-- THE SECOND FORM's CARD OF 'flqlaw8.GraphReach'. -/
def graphReachUptoCard : Claim7 := { stood := { row := graphReachUptoRow, standIns := [], harness := (true, "5184cef22c0e8aa0c74683f3de15c3dce0668af278c2445dfd13c2117a94010d"), looks := false }, kinds := [], alts := [], laidByText := true, laidKinds := [.widerDeep], laidTests := true, laidLooks := .later }
def GraphReachUptoCardSaid : Prop := Claim7.holds Tryz.pinned (.plain (OpenSpec.upto graphReachSpec)) graphReachUptoCard
end Rows
end Go.Proofs.YtnlgcebcopebdaaGreatDoor
