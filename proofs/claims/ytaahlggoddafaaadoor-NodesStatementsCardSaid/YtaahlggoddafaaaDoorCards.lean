/-
  DERIVED. GIVEN WITH THE SEED: THE CARDS: each row of YtaahlggoddafaaaDoorRows.lean that lists a variable, with what it lists TIED to the program's text (the seventh form; the later family's looks); each row that meets fmt, with fmt's text TOLD by the authors' own Lean function (tested against real Go, not proved from fmt's source: count such statements apart). THE CARD IS WHAT COUNTS. Prove the row's statement (the work); the ties are given (YtaahlggoddafaaaDoorTie.lean); close each card by the builder's one call (the guide's Derived/Test/ToyasCard.lean, 'card_holds'). Laid BY PROGRAM, IN A SANDBOX (cutbox-door.mjs). By AI agents, Wed Nov 11 2026. No macro, syntax, notation, axiom, sorry.
-/
import Derived.Test.YtaahlggoddafaaaDoorRows
import GoSem.ClaimSeven
namespace Go.Proofs.YtaahlggoddafaaaDoor
namespace Rows

/-- THE TIED CARD OF 'flqlaw7.NodesNumber'. -/
def nodesNumberCard : Claim7 := { stood := { row := nodesNumberRow, standIns := [], harness := (true, "da859d703067230e132102205b0c82c093910ec27e48c1a1c70ec5e81352ebac"), looks := false }, kinds := [], alts := [], laidByText := true, laidKinds := [.data, .data, .data, .widerDeep], laidTests := true, laidLooks := .later }
def NodesNumberCardSaid : Prop := Claim7.holds Tryd.pinned (.plain (OpenSpec.ofChange nodesNumberSpec)) nodesNumberCard

/-- THE TIED CARD OF 'flqlaw7.NodesStatements'. -/
def nodesStatementsCard : Claim7 := { stood := { row := nodesStatementsRow, standIns := [], harness := (true, "da859d703067230e132102205b0c82c093910ec27e48c1a1c70ec5e81352ebac"), looks := false }, kinds := [], alts := [], laidByText := true, laidKinds := [.data, .data, .data, .widerDeep], laidTests := true, laidLooks := .later }
def NodesStatementsCardSaid : Prop := Claim7.holds Tryd.pinned (.plain (OpenSpec.ofChange nodesStatementsSpec)) nodesStatementsCard

/-- THE SECOND FORM's CARD OF 'flqlaw7.NodesNumber'. -/
def nodesNumberUptoCard : Claim7 := { stood := { row := nodesNumberUptoRow, standIns := [], harness := (true, "da859d703067230e132102205b0c82c093910ec27e48c1a1c70ec5e81352ebac"), looks := false }, kinds := [], alts := [], laidByText := true, laidKinds := [.data, .data, .data, .widerDeep], laidTests := true, laidLooks := .later }
def NodesNumberUptoCardSaid : Prop := Claim7.holds Tryd.pinned (.plain (OpenSpec.upto nodesNumberSpec)) nodesNumberUptoCard

/-- THE SECOND FORM's CARD OF 'flqlaw7.NodesStatements'. -/
def nodesStatementsUptoCard : Claim7 := { stood := { row := nodesStatementsUptoRow, standIns := [], harness := (true, "da859d703067230e132102205b0c82c093910ec27e48c1a1c70ec5e81352ebac"), looks := false }, kinds := [], alts := [], laidByText := true, laidKinds := [.data, .data, .data, .widerDeep], laidTests := true, laidLooks := .later }
def NodesStatementsUptoCardSaid : Prop := Claim7.holds Tryd.pinned (.plain (OpenSpec.upto nodesStatementsSpec)) nodesStatementsUptoCard
end Rows
end Go.Proofs.YtaahlggoddafaaaDoor
