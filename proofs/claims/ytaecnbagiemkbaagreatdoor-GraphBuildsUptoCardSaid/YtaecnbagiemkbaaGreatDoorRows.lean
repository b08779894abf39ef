/-
  NARROWER THAN 'FOR EVERY INPUT', by the rows' own cells (each row's printed sentence says how): GraphBuilds: laid.
  DERIVED. THE GIVEN ROWS OF THIS SEAT. 1 by the template 'for every input the law returns true; each argument reads behind the call as it read before'; 0 by the template 'total and deterministic' (their statements: YtaecnbagiemkbaaGreatDoorTotals.lean).
  GIVEN WITH THE SEED: the statements are not yours to turn. If you find one false, say at which input.
  Laid BY PROGRAM, IN A SANDBOX (cutbox-rows.mjs): the forced cells as the released guide's own fill.sh prints them over the translation 6bdb8f8180d40c87… (all of the seat's roots in one cut). By AI agents, Wed Nov 11 2026. No macro, syntax, notation, axiom, sorry.
-/
import Derived.Test.YtaecnbagiemkbaaGreatDoorChecked
import GoSem.Claim
import GoSem.ClaimJoined
import GoSem.ClaimMapViews
import Derived.JoinedTies
import Derived.KernelRfl
namespace Go.Proofs.YtaecnbagiemkbaaGreatDoor
/- THE CELL 'sum', in the pinned program and in every row, IS THE sha256 OF THE DUMP (.gsa) THAT YtaecnbagiemkbaaGreatDoorProg.lean LOADS. Nothing in Lean hashes anything: it is a label: what it is worth is what the hold of that sum in a sandbox is worth. -/
noncomputable def Tryz.pinned : Pinned := { name := "ytaecnbagiemkbaagreatdoor", sum := "6bdb8f8180d40c87af0bc8f9cf4dafc60c4a847b4dc08b36ec6472b70756d68d", checked := Tryz.checked }
namespace Rows
def none {H : Type} : Left H := { results := [], args := [] }

/- WHAT THE LISTED PACKAGE-LEVEL VARIABLES READ AS WHEN THE CALL BEGINS. Each datum BY PROGRAM (the guide's laid-datum.mjs) off the statement by which the dump's own 'gosem.cut.vars' lays the variable. In a bare row this is a premise. The card (YtaecnbagiemkbaaGreatDoorCards.lean) ties it to the program's text. -/
def laid_flowquery_lexer_keywords {H : Type} : DataW H := .slice [.lit (.string [102, 117, 110, 99]), .lit (.string [98, 108, 111, 99, 107]), .lit (.string [101, 110, 100]), .lit (.string [117, 115, 101]), .lit (.string [99, 97, 108, 108]), .lit (.string [115, 111, 117, 114, 99, 101]), .lit (.string [115, 105, 110, 107]), .lit (.string [115, 97, 110, 105, 116, 105, 122, 101]), .lit (.string [103, 111, 116, 111]), .lit (.string [98, 114, 97, 110, 99, 104]), .lit (.string [114, 101, 116, 117, 114, 110])] []

/-- 'flqlaw8.GraphBuilds': WHATEVER THE INPUT: true; the input reads as it did. -/
def graphBuildsSpec : ChangeSpec := { name := "graphBuilds", fn := fun _ => fun
  | [d1, d2] => { results := [.lit (.bool true)], args := [d1, d2] }
  | _ => none }
def graphBuildsRow : OpenClaim := { program := "ytaecnbagiemkbaagreatdoor", sum := "6bdb8f8180d40c87af0bc8f9cf4dafc60c4a847b4dc08b36ec6472b70756d68d", func := "flowquery/flqlaw8.GraphBuilds", spec := "graphBuilds", unfollowed := true, recurses := true, named := ["flowquery/lexer.keywords"], plainKeys := false, apart := false, laid := [("flowquery/lexer.keywords", laid_flowquery_lexer_keywords)] }
def GraphBuildsSaid : Prop := graphBuildsRow.holds Tryz.pinned (OpenSpec.ofChange graphBuildsSpec)

/-- ITS FALSE NEIGHBOUR: 'it returns false'. Refute it at one input. -/
def graphBuildsWrong : ChangeSpec := { name := "graphBuilds", fn := fun _ => fun
  | [d1, d2] => { results := [.lit (.bool false)], args := [d1, d2] }
  | _ => none }
def GraphBuildsWrongFalsely : Prop := graphBuildsRow.holds Tryz.pinned (OpenSpec.ofChange graphBuildsWrong)

/- THE SECOND FORM. 'bulk': how many values and letters a reading holds, each counted each time it is reached (what is shared counts as often as it is met; a slice's spare places count too). A statement '..UptoSaid' is the law's where the arguments, and the package variables that the reading takes, are together of bulk at most 1048576: NARROWER than '..Said'. Prove '..Said' where nothing that the law and all that it calls make is longer than what came in: it says more and counts as full. Else prove '..UptoSaid'. A law counts once. -/
mutual
def uptoBulk {H : Type} : DataW H → Nat
  | .lit (.string bytes) => bytes.length + 1
  | .lit _ => 1
  | .nil => 1
  | .ptr d => uptoBulk d + 1
  | .slice elems spare => uptoBulkAll elems + uptoBulkAll spare + 1
  | .agg parts => uptoBulkAll parts + 1
  | .iface _ d => uptoBulk d + 1
  | .map entries => uptoBulkEntries entries + 1
  | .held _ => 1
def uptoBulkAll {H : Type} : List (DataW H) → Nat
  | [] => 0
  | d :: r => uptoBulk d + uptoBulkAll r
def uptoBulkEntries {H : Type} : List (Lit × DataW H) → Nat
  | [] => 0
  | x :: r => uptoBulkEntry x + uptoBulkEntries r
def uptoBulkEntry {H : Type} : Lit × DataW H → Nat
  | (.string bytes, d) => bytes.length + uptoBulk d + 1
  | (_, d) => uptoBulk d + 1
 end
def uptoSmall : (H : Type) → List (DataW H) → Bool := fun _ ds => decide (uptoBulkAll ds ≤ 1048576)
def OpenSpec.upto (s : _root_.Go.ChangeSpec) : _root_.Go.OpenSpec := { _root_.Go.OpenSpec.ofChange s with cond := some uptoSmall }

/-- 'flqlaw8.GraphBuilds', WHERE WHAT IT READS IS OF BULK AT MOST 1048576: true; the input reads as it did. -/
def graphBuildsUptoRow : OpenClaim := { program := "ytaecnbagiemkbaagreatdoor", sum := "6bdb8f8180d40c87af0bc8f9cf4dafc60c4a847b4dc08b36ec6472b70756d68d", func := "flowquery/flqlaw8.GraphBuilds", spec := "graphBuilds", unfollowed := true, recurses := true, named := ["flowquery/lexer.keywords"], plainKeys := false, apart := false, laid := [("flowquery/lexer.keywords", laid_flowquery_lexer_keywords)], narrowed := true }
def GraphBuildsUptoSaid : Prop := graphBuildsUptoRow.holds Tryz.pinned (OpenSpec.upto graphBuildsSpec)

end Rows
end Go.Proofs.YtaecnbagiemkbaaGreatDoor
