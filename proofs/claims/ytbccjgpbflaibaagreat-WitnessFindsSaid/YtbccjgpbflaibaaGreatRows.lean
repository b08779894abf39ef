/-
  No cell of these rows narrows 'for every input' (looked for: loops, veiled, ifaces, maps, wideKeys, modest, calm, conditions, laid).
  DERIVED. THE GIVEN ROWS OF THIS SEAT. 4 by the template 'for every input the law returns true; each argument reads behind the call as it read before'; 0 by the template 'total and deterministic' (their statements: YtbccjgpbflaibaaGreatTotals.lean).
  GIVEN WITH THE SEED: the statements are not yours to turn. If you find one false, say at which input.
  Laid BY PROGRAM, IN A SANDBOX (cutbox-rows.mjs): the forced cells as the released guide's own fill.sh prints them over the translation ccff5fc631c4f315… (all of the seat's roots in one cut). By AI agents, Wed Nov 11 2026. No macro, syntax, notation, axiom, sorry.
-/
import Derived.Test.YtbccjgpbflaibaaGreatChecked
import GoSem.Claim
import GoSem.ClaimJoined
import GoSem.ClaimMapViews
import Derived.JoinedTies
import Derived.KernelRfl
namespace Go.Proofs.YtbccjgpbflaibaaGreat
/- THE CELL 'sum', in the pinned program and in every row, IS THE sha256 OF THE DUMP (.gsa) THAT YtbccjgpbflaibaaGreatProg.lean LOADS. Nothing in Lean hashes anything: it is a label: what it is worth is what the hold of that sum in a sandbox is worth. -/
noncomputable def Tryz.pinned : Pinned := { name := "ytbccjgpbflaibaagreat", sum := "ccff5fc631c4f3155116af6f8e864e3f4b85b2f8187332559f3ebc07b4d0d804", checked := Tryz.checked }
namespace Rows
def none {H : Type} : Left H := { results := [], args := [] }

/-- 'flqlaw16.WitnessChecks': WHATEVER THE INPUT: true; the input reads as it did. -/
def witnessChecksSpec : ChangeSpec := { name := "witnessChecks", fn := fun _ => fun
  | [d1, d2, d3, d4, d5, d6] => { results := [.lit (.bool true)], args := [d1, d2, d3, d4, d5, d6] }
  | _ => none }
def witnessChecksRow : OpenClaim := { program := "ytbccjgpbflaibaagreat", sum := "ccff5fc631c4f3155116af6f8e864e3f4b85b2f8187332559f3ebc07b4d0d804", func := "flowquery/flqlaw16.WitnessChecks", spec := "witnessChecks", unfollowed := true, recurses := true, plainKeys := false, apart := false }
def WitnessChecksSaid : Prop := witnessChecksRow.holds Tryz.pinned (OpenSpec.ofChange witnessChecksSpec)

/-- ITS FALSE NEIGHBOUR: 'it returns false'. Refute it at one input. -/
def witnessChecksWrong : ChangeSpec := { name := "witnessChecks", fn := fun _ => fun
  | [d1, d2, d3, d4, d5, d6] => { results := [.lit (.bool false)], args := [d1, d2, d3, d4, d5, d6] }
  | _ => none }
def WitnessChecksWrongFalsely : Prop := witnessChecksRow.holds Tryz.pinned (OpenSpec.ofChange witnessChecksWrong)

/-- 'flqlaw16.WitnessSound': WHATEVER THE INPUT: true; the input reads as it did. -/
def witnessSoundSpec : ChangeSpec := { name := "witnessSound", fn := fun _ => fun
  | [d1, d2] => { results := [.lit (.bool true)], args := [d1, d2] }
  | _ => none }
def witnessSoundRow : OpenClaim := { program := "ytbccjgpbflaibaagreat", sum := "ccff5fc631c4f3155116af6f8e864e3f4b85b2f8187332559f3ebc07b4d0d804", func := "flowquery/flqlaw16.WitnessSound", spec := "witnessSound", unfollowed := true, recurses := true, plainKeys := false, apart := false }
def WitnessSoundSaid : Prop := witnessSoundRow.holds Tryz.pinned (OpenSpec.ofChange witnessSoundSpec)

/-- ITS FALSE NEIGHBOUR: 'it returns false'. Refute it at one input. -/
def witnessSoundWrong : ChangeSpec := { name := "witnessSound", fn := fun _ => fun
  | [d1, d2] => { results := [.lit (.bool false)], args := [d1, d2] }
  | _ => none }
def WitnessSoundWrongFalsely : Prop := witnessSoundRow.holds Tryz.pinned (OpenSpec.ofChange witnessSoundWrong)

/-- 'flqlaw16.WitnessFinds': WHATEVER THE INPUT: true; the input reads as it did. -/
def witnessFindsSpec : ChangeSpec := { name := "witnessFinds", fn := fun _ => fun
  | [d1, d2, d3, d4] => { results := [.lit (.bool true)], args := [d1, d2, d3, d4] }
  | _ => none }
def witnessFindsRow : OpenClaim := { program := "ytbccjgpbflaibaagreat", sum := "ccff5fc631c4f3155116af6f8e864e3f4b85b2f8187332559f3ebc07b4d0d804", func := "flowquery/flqlaw16.WitnessFinds", spec := "witnessFinds", unfollowed := true, recurses := true, plainKeys := false, apart := false }
def WitnessFindsSaid : Prop := witnessFindsRow.holds Tryz.pinned (OpenSpec.ofChange witnessFindsSpec)

/-- ITS FALSE NEIGHBOUR: 'it returns false'. Refute it at one input. -/
def witnessFindsWrong : ChangeSpec := { name := "witnessFinds", fn := fun _ => fun
  | [d1, d2, d3, d4] => { results := [.lit (.bool false)], args := [d1, d2, d3, d4] }
  | _ => none }
def WitnessFindsWrongFalsely : Prop := witnessFindsRow.holds Tryz.pinned (OpenSpec.ofChange witnessFindsWrong)

/-- 'flqlaw16.WitnessDecides': WHATEVER THE INPUT: true; the input reads as it did. -/
def witnessDecidesSpec : ChangeSpec := { name := "witnessDecides", fn := fun _ => fun
  | [d] => { results := [.lit (.bool true)], args := [d] }
  | _ => none }
def witnessDecidesRow : OpenClaim := { program := "ytbccjgpbflaibaagreat", sum := "ccff5fc631c4f3155116af6f8e864e3f4b85b2f8187332559f3ebc07b4d0d804", func := "flowquery/flqlaw16.WitnessDecides", spec := "witnessDecides", unfollowed := true, recurses := true, plainKeys := false, apart := false }
def WitnessDecidesSaid : Prop := witnessDecidesRow.holds Tryz.pinned (OpenSpec.ofChange witnessDecidesSpec)

/-- ITS FALSE NEIGHBOUR: 'it returns false'. Refute it at one input. -/
def witnessDecidesWrong : ChangeSpec := { name := "witnessDecides", fn := fun _ => fun
  | [d] => { results := [.lit (.bool false)], args := [d] }
  | _ => none }
def WitnessDecidesWrongFalsely : Prop := witnessDecidesRow.holds Tryz.pinned (OpenSpec.ofChange witnessDecidesWrong)

/- THE SECOND FORM. 'bulk': how many values and letters a reading holds, each counted each time it is reached (what is shared counts as often as it is met; a slice's spare places count too). A statement '..UptoSaid' is the law's where the arguments, and the package variables that the reading takes, are together of bulk at most 1048576: NARROWER than '..Said'. Prove '..Said' where nothing that the law and all that it calls make is longer than what came in: it says more and counts as full. Else prove '..UptoSaid'. A law counts once. -/
mutual
def uptoBulk {H : Type} : DataW H → Nat
  | .lit (.string bytes) => bytes.length + 1
  | .lit _ => 1
  | .nil => 1
  | .ptr d => uptoBulk d + 1
  | .slice elems spare => uptoBulkAll elems + uptoBulkAll spare + 1
  | .agg parts => uptoBulkAll parts + 1
  | .iface _ d => uptoBulk d + 1
  | .map entries => uptoBulkEntries entries + 1
  | .held _ => 1
def uptoBulkAll {H : Type} : List (DataW H) → Nat
  | [] => 0
  | d :: r => uptoBulk d + uptoBulkAll r
def uptoBulkEntries {H : Type} : List (Lit × DataW H) → Nat
  | [] => 0
  | x :: r => uptoBulkEntry x + uptoBulkEntries r
def uptoBulkEntry {H : Type} : Lit × DataW H → Nat
  | (.string bytes, d) => bytes.length + uptoBulk d + 1
  | (_, d) => uptoBulk d + 1
 end
def uptoSmall : (H : Type) → List (DataW H) → Bool := fun _ ds => decide (uptoBulkAll ds ≤ 1048576)
def OpenSpec.upto (s : _root_.Go.ChangeSpec) : _root_.Go.OpenSpec := { _root_.Go.OpenSpec.ofChange s with cond := some uptoSmall }

/-- 'flqlaw16.WitnessChecks', WHERE WHAT IT READS IS OF BULK AT MOST 1048576: true; the input reads as it did. -/
def witnessChecksUptoRow : OpenClaim := { program := "ytbccjgpbflaibaagreat", sum := "ccff5fc631c4f3155116af6f8e864e3f4b85b2f8187332559f3ebc07b4d0d804", func := "flowquery/flqlaw16.WitnessChecks", spec := "witnessChecks", unfollowed := true, recurses := true, plainKeys := false, apart := false, narrowed := true }
def WitnessChecksUptoSaid : Prop := witnessChecksUptoRow.holds Tryz.pinned (OpenSpec.upto witnessChecksSpec)

/-- 'flqlaw16.WitnessSound', WHERE WHAT IT READS IS OF BULK AT MOST 1048576: true; the input reads as it did. -/
def witnessSoundUptoRow : OpenClaim := { program := "ytbccjgpbflaibaagreat", sum := "ccff5fc631c4f3155116af6f8e864e3f4b85b2f8187332559f3ebc07b4d0d804", func := "flowquery/flqlaw16.WitnessSound", spec := "witnessSound", unfollowed := true, recurses := true, plainKeys := false, apart := false, narrowed := true }
def WitnessSoundUptoSaid : Prop := witnessSoundUptoRow.holds Tryz.pinned (OpenSpec.upto witnessSoundSpec)

/-- 'flqlaw16.WitnessFinds', WHERE WHAT IT READS IS OF BULK AT MOST 1048576: true; the input reads as it did. -/
def witnessFindsUptoRow : OpenClaim := { program := "ytbccjgpbflaibaagreat", sum := "ccff5fc631c4f3155116af6f8e864e3f4b85b2f8187332559f3ebc07b4d0d804", func := "flowquery/flqlaw16.WitnessFinds", spec := "witnessFinds", unfollowed := true, recurses := true, plainKeys := false, apart := false, narrowed := true }
def WitnessFindsUptoSaid : Prop := witnessFindsUptoRow.holds Tryz.pinned (OpenSpec.upto witnessFindsSpec)

/-- 'flqlaw16.WitnessDecides', WHERE WHAT IT READS IS OF BULK AT MOST 1048576: true; the input reads as it did. -/
def witnessDecidesUptoRow : OpenClaim := { program := "ytbccjgpbflaibaagreat", sum := "ccff5fc631c4f3155116af6f8e864e3f4b85b2f8187332559f3ebc07b4d0d804", func := "flowquery/flqlaw16.WitnessDecides", spec := "witnessDecides", unfollowed := true, recurses := true, plainKeys := false, apart := false, narrowed := true }
def WitnessDecidesUptoSaid : Prop := witnessDecidesUptoRow.holds Tryz.pinned (OpenSpec.upto witnessDecidesSpec)

end Rows
end Go.Proofs.YtbccjgpbflaibaaGreat
