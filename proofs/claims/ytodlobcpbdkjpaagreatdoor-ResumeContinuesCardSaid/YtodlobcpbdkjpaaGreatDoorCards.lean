/-
  DERIVED. GIVEN WITH THE SEED: THE CARDS: each row of YtodlobcpbdkjpaaGreatDoorRows.lean that lists a variable, with what it lists TIED to the program's text (the seventh form; the later family's looks); each row that meets fmt, with fmt's text TOLD by the authors' own Lean function (tested against real Go, not proved from fmt's source: count such statements apart). THE CARD IS WHAT COUNTS. Prove the row's statement (the work); the ties are given (YtodlobcpbdkjpaaGreatDoorTie.lean); close each card by the builder's one call (the guide's Derived/Test/ToyasCard.lean, 'card_holds'). Laid BY PROGRAM, IN A SANDBOX (cutbox-door.mjs). By AI agents, Wed Nov 11 2026. No macro, syntax, notation, axiom, sorry.
-/
import Derived.Test.YtodlobcpbdkjpaaGreatDoorRows
import GoSem.ClaimSeven
namespace Go.Proofs.YtodlobcpbdkjpaaGreatDoor
namespace Rows

/-- THE TIED CARD OF 'flqlaw18.ResumeEncodes'. -/
def resumeEncodesCard : Claim7 := { stood := { row := resumeEncodesRow, standIns := [], harness := (true, "fa2a9040bb6362e76e5292935a38906bb452508d4bfb3eefdf45c05414f7ed95"), looks := false }, kinds := [], alts := [], laidByText := true, laidKinds := [.data, .data, .data], laidTests := true, laidLooks := .later }
def ResumeEncodesCardSaid : Prop := Claim7.holds Tryz.pinned (.plain (OpenSpec.ofChange resumeEncodesSpec)) resumeEncodesCard

/-- THE TIED CARD OF 'flqlaw18.ResumeDecodes'. -/
def resumeDecodesCard : Claim7 := { stood := { row := resumeDecodesRow, standIns := [], harness := (true, "fa2a9040bb6362e76e5292935a38906bb452508d4bfb3eefdf45c05414f7ed95"), looks := false }, kinds := [], alts := [], laidByText := true, laidKinds := [.data, .data, .data], laidTests := true, laidLooks := .later }
def ResumeDecodesCardSaid : Prop := Claim7.holds Tryz.pinned (.plain (OpenSpec.ofChange resumeDecodesSpec)) resumeDecodesCard

/-- THE TIED CARD OF 'flqlaw18.ResumeContinues'. -/
def resumeContinuesCard : Claim7 := { stood := { row := resumeContinuesRow, standIns := [], harness := (true, "fa2a9040bb6362e76e5292935a38906bb452508d4bfb3eefdf45c05414f7ed95"), looks := false }, kinds := [], alts := [], laidByText := true, laidKinds := [.data, .data, .data], laidTests := true, laidLooks := .later }
def ResumeContinuesCardSaid : Prop := Claim7.holds Tryz.pinned (.plain (OpenSpec.ofChange resumeContinuesSpec)) resumeContinuesCard

/-- THE SECOND FORM's CARD OF 'flqlaw18.ResumeEncodes'. -/
def resumeEncodesUptoCard : Claim7 := { stood := { row := resumeEncodesUptoRow, standIns := [], harness := (true, "fa2a9040bb6362e76e5292935a38906bb452508d4bfb3eefdf45c05414f7ed95"), looks := false }, kinds := [], alts := [], laidByText := true, laidKinds := [.data, .data, .data], laidTests := true, laidLooks := .later }
def ResumeEncodesUptoCardSaid : Prop := Claim7.holds Tryz.pinned (.plain (OpenSpec.upto resumeEncodesSpec)) resumeEncodesUptoCard

/-- THE SECOND FORM's CARD OF 'flqlaw18.ResumeDecodes'. -/
def resumeDecodesUptoCard : Claim7 := { stood := { row := resumeDecodesUptoRow, standIns := [], harness := (true, "fa2a9040bb6362e76e5292935a38906bb452508d4bfb3eefdf45c05414f7ed95"), looks := false }, kinds := [], alts := [], laidByText := true, laidKinds := [.data, .data, .data], laidTests := true, laidLooks := .later }
def ResumeDecodesUptoCardSaid : Prop := Claim7.holds Tryz.pinned (.plain (OpenSpec.upto resumeDecodesSpec)) resumeDecodesUptoCard

/-- THE SECOND FORM's CARD OF 'flqlaw18.ResumeContinues'. -/
def resumeContinuesUptoCard : Claim7 := { stood := { row := resumeContinuesUptoRow, standIns := [], harness := (true, "fa2a9040bb6362e76e5292935a38906bb452508d4bfb3eefdf45c05414f7ed95"), looks := false }, kinds := [], alts := [], laidByText := true, laidKinds := [.data, .data, .data], laidTests := true, laidLooks := .later }
def ResumeContinuesUptoCardSaid : Prop := Claim7.holds Tryz.pinned (.plain (OpenSpec.upto resumeContinuesSpec)) resumeContinuesUptoCard
end Rows
end Go.Proofs.YtodlobcpbdkjpaaGreatDoor
