/-
  NARROWER THAN 'FOR EVERY INPUT', by the rows' own cells (each row's printed sentence says how): GraphBuilds: laid · GraphReads: laid · GraphReach: laid.
  DERIVED. THE GIVEN ROWS OF THIS SEAT. 3 by the template 'for every input the law returns true; each argument reads behind the call as it read before'; 0 by the template 'total and deterministic' (their statements: YtnlgcebcopebdaaGreatDoorTotals.lean).
  GIVEN WITH THE SEED: the statements are not yours to turn. If you find one false, say at which input.
  Laid BY PROGRAM, IN A SANDBOX (cutbox-rows.mjs): the forced cells as the released guide's own fill.sh prints them over the translation 246c4a3c6af2d9f8… (all of the seat's roots in one cut). By AI agents, Wed Nov 11 2026. No macro, syntax, notation, axiom, sorry.
-/
import Derived.Test.YtnlgcebcopebdaaGreatDoorChecked
import GoSem.Claim
import GoSem.ClaimJoined
import GoSem.ClaimMapViews
import Derived.JoinedTies
import Derived.KernelRfl
namespace Go.Proofs.YtnlgcebcopebdaaGreatDoor
/- THE CELL 'sum', in the pinned program and in every row, IS THE sha256 OF THE DUMP (.gsa) THAT YtnlgcebcopebdaaGreatDoorProg.lean LOADS. Nothing in Lean hashes anything: it is a label: what it is worth is what the hold of that sum in a sandbox is worth. -/
noncomputable def Tryz.pinned : Pinned := { name := "ytnlgcebcopebdaagreatdoor", sum := "246c4a3c6af2d9f8fe89475e13f1790af67e39864bbad58bc3169ca27880bdb0", checked := Tryz.checked }
namespace Rows
def none {H : Type} : Left H := { results := [], args := [] }

/- WHAT THE LISTED PACKAGE-LEVEL VARIABLES READ AS WHEN THE CALL BEGINS. Each datum BY PROGRAM (the guide's laid-datum.mjs) off the statement by which the dump's own 'gosem.cut.vars' lays the variable. In a bare row this is a premise. The card (YtnlgcebcopebdaaGreatDoorCards.lean) ties it to the program's text. -/
def laid_flowquery_lexer_keywords {H : Type} : DataW H := .slice [.lit (.string [102, 117, 110, 99]), .lit (.string [98, 108, 111, 99, 107]), .lit (.string [101, 110, 100]), .lit (.string [117, 115, 101]), .lit (.string [99, 97, 108, 108]), .lit (.string [115, 111, 117, 114, 99, 101]), .lit (.string [115, 105, 110, 107]), .lit (.string [115, 97, 110, 105, 116, 105, 122, 101]), .lit (.string [103, 111, 116, 111]), .lit (.string [98, 114, 97, 110, 99, 104]), .lit (.string [114, 101, 116, 117, 114, 110])] []

/-- 'flqlaw8.GraphBuilds': WHATEVER THE INPUT: true; the input reads as it did. -/
def graphBuildsSpec : ChangeSpec := { name := "graphBuilds", fn := fun _ => fun
  | [d1, d2] => { results := [.lit (.bool true)], args := [d1, d2] }
  | _ => none }
def graphBuildsRow : OpenClaim := { program := "ytnlgcebcopebdaagreatdoor", sum := "246c4a3c6af2d9f8fe89475e13f1790af67e39864bbad58bc3169ca27880bdb0", func := "flowquery/flqlaw8.GraphBuilds", spec := "graphBuilds", unfollowed := true, recurses := true, named := ["flowquery/lexer.keywords"], plainKeys := false, apart := false, laid := [("flowquery/lexer.keywords", laid_flowquery_lexer_keywords)] }
def GraphBuildsSaid : Prop := graphBuildsRow.holds Tryz.pinned (OpenSpec.ofChange graphBuildsSpec)

/-- ITS FALSE NEIGHBOUR: 'it returns false'. Refute it at one input. -/
def graphBuildsWrong : ChangeSpec := { name := "graphBuilds", fn := fun _ => fun
  | [d1, d2] => { results := [.lit (.bool false)], args := [d1, d2] }
  | _ => none }
def GraphBuildsWrongFalsely : Prop := graphBuildsRow.holds Tryz.pinned (OpenSpec.ofChange graphBuildsWrong)

/-- 'flqlaw8.GraphReads': WHATEVER THE INPUT: true; the input reads as it did. -/
def graphReadsSpec : ChangeSpec := { name := "graphReads", fn := fun _ => fun
  | [d1, d2, d3] => { results := [.lit (.bool true)], args := [d1, d2, d3] }
  | _ => none }
def graphReadsRow : OpenClaim := { program := "ytnlgcebcopebdaagreatdoor", sum := "246c4a3c6af2d9f8fe89475e13f1790af67e39864bbad58bc3169ca27880bdb0", func := "flowquery/flqlaw8.GraphReads", spec := "graphReads", unfollowed := true, recurses := true, named := ["flowquery/lexer.keywords"], plainKeys := false, apart := false, laid := [("flowquery/lexer.keywords", laid_flowquery_lexer_keywords)] }
def GraphReadsSaid : Prop := graphReadsRow.holds Tryz.pinned (OpenSpec.ofChange graphReadsSpec)

/-- ITS FALSE NEIGHBOUR: 'it returns false'. Refute it at one input. -/
def graphReadsWrong : ChangeSpec := { name := "graphReads", fn := fun _ => fun
  | [d1, d2, d3] => { results := [.lit (.bool false)], args := [d1, d2, d3] }
  | _ => none }
def GraphReadsWrongFalsely : Prop := graphReadsRow.holds Tryz.pinned (OpenSpec.ofChange graphReadsWrong)

/-- 'flqlaw8.GraphReach': WHATEVER THE INPUT: true; the input reads as it did. -/
def graphReachSpec : ChangeSpec := { name := "graphReach", fn := fun _ => fun
  | [d] => { results := [.lit (.bool true)], args := [d] }
  | _ => none }
def graphReachRow : OpenClaim := { program := "ytnlgcebcopebdaagreatdoor", sum := "246c4a3c6af2d9f8fe89475e13f1790af67e39864bbad58bc3169ca27880bdb0", func := "flowquery/flqlaw8.GraphReach", spec := "graphReach", unfollowed := true, recurses := true, named := ["flowquery/lexer.keywords"], plainKeys := false, apart := false, laid := [("flowquery/lexer.keywords", laid_flowquery_lexer_keywords)] }
def GraphReachSaid : Prop := graphReachRow.holds Tryz.pinned (OpenSpec.ofChange graphReachSpec)

/-- ITS FALSE NEIGHBOUR: 'it returns false'. Refute it at one input. -/
def graphReachWrong : ChangeSpec := { name := "graphReach", fn := fun _ => fun
  | [d] => { results := [.lit (.bool false)], args := [d] }
  | _ => none }
def GraphReachWrongFalsely : Prop := graphReachRow.holds Tryz.pinned (OpenSpec.ofChange graphReachWrong)

/- THE SECOND FORM. 'bulk': how many values and letters a reading holds, each counted each time it is reached (what is shared counts as often as it is met; a slice's spare places count too). A statement '..UptoSaid' is the law's where the arguments, and the package variables that the reading takes, are together of bulk at most 1048576: NARROWER than '..Said'. Prove '..Said' where nothing that the law and all that it calls make is longer than what came in: it says more and counts as full. Else prove '..UptoSaid'. A law counts once. -/
mutual
def uptoBulk {H : Type} : DataW H → Nat
  | .lit (.string bytes) => bytes.length + 1
  | .lit _ => 1
  | .nil => 1
  | .ptr d => uptoBulk d + 1
  | .slice elems spare => uptoBulkAll elems + uptoBulkAll spare + 1
  | .agg parts => uptoBulkAll parts + 1
  | .iface _ d => uptoBulk d + 1
  | .map entries => uptoBulkEntries entries + 1
  | .held _ => 1
def uptoBulkAll {H : Type} : List (DataW H) → Nat
  | [] => 0
  | d :: r => uptoBulk d + uptoBulkAll r
def uptoBulkEntries {H : Type} : List (Lit × DataW H) → Nat
  | [] => 0
  | x :: r => uptoBulkEntry x + uptoBulkEntries r
def uptoBulkEntry {H : Type} : Lit × DataW H → Nat
  | (.string bytes, d) => bytes.length + uptoBulk d + 1
  | (_, d) => uptoBulk d + 1
 end
def uptoSmall : (H : Type) → List (DataW H) → Bool := fun _ ds => decide (uptoBulkAll ds ≤ 1048576)
def OpenSpec.upto (s : _root_.Go.ChangeSpec) : _root_.Go.OpenSpec := { _root_.Go.OpenSpec.ofChange s with cond := some uptoSmall }

/-- 'flqlaw8.GraphBuilds', WHERE WHAT IT READS IS OF BULK AT MOST 1048576: true; the input reads as it did. -/
def graphBuildsUptoRow : OpenClaim := { program := "ytnlgcebcopebdaagreatdoor", sum := "246c4a3c6af2d9f8fe89475e13f1790af67e39864bbad58bc3169ca27880bdb0", func := "flowquery/flqlaw8.GraphBuilds", spec := "graphBuilds", unfollowed := true, recurses := true, named := ["flowquery/lexer.keywords"], plainKeys := false, apart := false, laid := [("flowquery/lexer.keywords", laid_flowquery_lexer_keywords)], narrowed := true }
def GraphBuildsUptoSaid : Prop := graphBuildsUptoRow.holds Tryz.pinned (OpenSpec.upto graphBuildsSpec)

/-- 'flqlaw8.GraphReads', WHERE WHAT IT READS IS OF BULK AT MOST 1048576: true; the input reads as it did. -/
def graphReadsUptoRow : OpenClaim := { program := "ytnlgcebcopebdaagreatdoor", sum := "246c4a3c6af2d9f8fe89475e13f1790af67e39864bbad58bc3169ca27880bdb0", func := "flowquery/flqlaw8.GraphReads", spec := "graphReads", unfollowed := true, recurses := true, named := ["flowquery/lexer.keywords"], plainKeys := false, apart := false, laid := [("flowquery/lexer.keywords", laid_flowquery_lexer_keywords)], narrowed := true }
def GraphReadsUptoSaid : Prop := graphReadsUptoRow.holds Tryz.pinned (OpenSpec.upto graphReadsSpec)

/-- 'flqlaw8.GraphReach', WHERE WHAT IT READS IS OF BULK AT MOST 1048576: true; the input reads as it did. -/
def graphReachUptoRow : OpenClaim := { program := "ytnlgcebcopebdaagreatdoor", sum := "246c4a3c6af2d9f8fe89475e13f1790af67e39864bbad58bc3169ca27880bdb0", func := "flowquery/flqlaw8.GraphReach", spec := "graphReach", unfollowed := true, recurses := true, named := ["flowquery/lexer.keywords"], plainKeys := false, apart := false, laid := [("flowquery/lexer.keywords", laid_flowquery_lexer_keywords)], narrowed := true }
def GraphReachUptoSaid : Prop := graphReachUptoRow.holds Tryz.pinned (OpenSpec.upto graphReachSpec)

end Rows
end Go.Proofs.YtnlgcebcopebdaaGreatDoor
