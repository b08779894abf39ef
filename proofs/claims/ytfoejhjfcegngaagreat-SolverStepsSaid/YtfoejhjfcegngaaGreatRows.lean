/-
  No cell of these rows narrows 'for every input' (looked for: loops, veiled, ifaces, maps, wideKeys, modest, calm, conditions, laid).
  DERIVED. THE GIVEN ROWS OF THIS SEAT. 14 by the template 'for every input the law returns true; each argument reads behind the call as it read before'; 0 by the template 'total and deterministic' (their statements: YtfoejhjfcegngaaGreatTotals.lean).
  GIVEN WITH THE SEED: the statements are not yours to turn. If you find one false, say at which input.
  Laid BY PROGRAM, IN A SANDBOX (cutbox-rows.mjs): the forced cells as the released guide's own fill.sh prints them over the translation 78429070f3ff3036… (all of the seat's roots in one cut). By AI agents, Wed Nov 11 2026. No macro, syntax, notation, axiom, sorry.
-/
import Derived.Test.YtfoejhjfcegngaaGreatChecked
import GoSem.Claim
import GoSem.ClaimJoined
import GoSem.ClaimMapViews
import Derived.JoinedTies
import Derived.KernelRfl
namespace Go.Proofs.YtfoejhjfcegngaaGreat
/- THE CELL 'sum', in the pinned program and in every row, IS THE sha256 OF THE DUMP (.gsa) THAT YtfoejhjfcegngaaGreatProg.lean LOADS. Nothing in Lean hashes anything: it is a label: what it is worth is what the hold of that sum in a sandbox is worth. -/
noncomputable def Tryz.pinned : Pinned := { name := "ytfoejhjfcegngaagreat", sum := "78429070f3ff30362078708f36c88fa7a9091375ff3ddc71769f1932b5540759", checked := Tryz.checked }
namespace Rows
def none {H : Type} : Left H := { results := [], args := [] }

/-- 'flqlaw16.WitnessChecks': WHATEVER THE INPUT: true; the input reads as it did. -/
def witnessChecksSpec : ChangeSpec := { name := "witnessChecks", fn := fun _ => fun
  | [d1, d2, d3, d4, d5, d6] => { results := [.lit (.bool true)], args := [d1, d2, d3, d4, d5, d6] }
  | _ => none }
def witnessChecksRow : OpenClaim := { program := "ytfoejhjfcegngaagreat", sum := "78429070f3ff30362078708f36c88fa7a9091375ff3ddc71769f1932b5540759", func := "flowquery/flqlaw16.WitnessChecks", spec := "witnessChecks", unfollowed := true, recurses := true, plainKeys := false, apart := false }
def WitnessChecksSaid : Prop := witnessChecksRow.holds Tryz.pinned (OpenSpec.ofChange witnessChecksSpec)

/-- ITS FALSE NEIGHBOUR: 'it returns false'. Refute it at one input. -/
def witnessChecksWrong : ChangeSpec := { name := "witnessChecks", fn := fun _ => fun
  | [d1, d2, d3, d4, d5, d6] => { results := [.lit (.bool false)], args := [d1, d2, d3, d4, d5, d6] }
  | _ => none }
def WitnessChecksWrongFalsely : Prop := witnessChecksRow.holds Tryz.pinned (OpenSpec.ofChange witnessChecksWrong)

/-- 'flqlaw16.WitnessSound': WHATEVER THE INPUT: true; the input reads as it did. -/
def witnessSoundSpec : ChangeSpec := { name := "witnessSound", fn := fun _ => fun
  | [d1, d2] => { results := [.lit (.bool true)], args := [d1, d2] }
  | _ => none }
def witnessSoundRow : OpenClaim := { program := "ytfoejhjfcegngaagreat", sum := "78429070f3ff30362078708f36c88fa7a9091375ff3ddc71769f1932b5540759", func := "flowquery/flqlaw16.WitnessSound", spec := "witnessSound", unfollowed := true, recurses := true, plainKeys := false, apart := false }
def WitnessSoundSaid : Prop := witnessSoundRow.holds Tryz.pinned (OpenSpec.ofChange witnessSoundSpec)

/-- ITS FALSE NEIGHBOUR: 'it returns false'. Refute it at one input. -/
def witnessSoundWrong : ChangeSpec := { name := "witnessSound", fn := fun _ => fun
  | [d1, d2] => { results := [.lit (.bool false)], args := [d1, d2] }
  | _ => none }
def WitnessSoundWrongFalsely : Prop := witnessSoundRow.holds Tryz.pinned (OpenSpec.ofChange witnessSoundWrong)

/-- 'flqlaw15.SolverRuns': WHATEVER THE INPUT: true; the input reads as it did. -/
def solverRunsSpec : ChangeSpec := { name := "solverRuns", fn := fun _ => fun
  | [d1, d2] => { results := [.lit (.bool true)], args := [d1, d2] }
  | _ => none }
def solverRunsRow : OpenClaim := { program := "ytfoejhjfcegngaagreat", sum := "78429070f3ff30362078708f36c88fa7a9091375ff3ddc71769f1932b5540759", func := "flowquery/flqlaw15.SolverRuns", spec := "solverRuns", unfollowed := true, recurses := true, plainKeys := false, apart := false }
def SolverRunsSaid : Prop := solverRunsRow.holds Tryz.pinned (OpenSpec.ofChange solverRunsSpec)

/-- ITS FALSE NEIGHBOUR: 'it returns false'. Refute it at one input. -/
def solverRunsWrong : ChangeSpec := { name := "solverRuns", fn := fun _ => fun
  | [d1, d2] => { results := [.lit (.bool false)], args := [d1, d2] }
  | _ => none }
def SolverRunsWrongFalsely : Prop := solverRunsRow.holds Tryz.pinned (OpenSpec.ofChange solverRunsWrong)

/-- 'flqlaw15.SolverSlices': WHATEVER THE INPUT: true; the input reads as it did. -/
def solverSlicesSpec : ChangeSpec := { name := "solverSlices", fn := fun _ => fun
  | [d1, d2, d3] => { results := [.lit (.bool true)], args := [d1, d2, d3] }
  | _ => none }
def solverSlicesRow : OpenClaim := { program := "ytfoejhjfcegngaagreat", sum := "78429070f3ff30362078708f36c88fa7a9091375ff3ddc71769f1932b5540759", func := "flowquery/flqlaw15.SolverSlices", spec := "solverSlices", unfollowed := true, recurses := true, plainKeys := false, apart := false }
def SolverSlicesSaid : Prop := solverSlicesRow.holds Tryz.pinned (OpenSpec.ofChange solverSlicesSpec)

/-- ITS FALSE NEIGHBOUR: 'it returns false'. Refute it at one input. -/
def solverSlicesWrong : ChangeSpec := { name := "solverSlices", fn := fun _ => fun
  | [d1, d2, d3] => { results := [.lit (.bool false)], args := [d1, d2, d3] }
  | _ => none }
def SolverSlicesWrongFalsely : Prop := solverSlicesRow.holds Tryz.pinned (OpenSpec.ofChange solverSlicesWrong)

/-- 'flqlaw15.SolverDemands': WHATEVER THE INPUT: true; the input reads as it did. -/
def solverDemandsSpec : ChangeSpec := { name := "solverDemands", fn := fun _ => fun
  | [d] => { results := [.lit (.bool true)], args := [d] }
  | _ => none }
def solverDemandsRow : OpenClaim := { program := "ytfoejhjfcegngaagreat", sum := "78429070f3ff30362078708f36c88fa7a9091375ff3ddc71769f1932b5540759", func := "flowquery/flqlaw15.SolverDemands", spec := "solverDemands", unfollowed := true, recurses := true, plainKeys := false, apart := false }
def SolverDemandsSaid : Prop := solverDemandsRow.holds Tryz.pinned (OpenSpec.ofChange solverDemandsSpec)

/-- ITS FALSE NEIGHBOUR: 'it returns false'. Refute it at one input. -/
def solverDemandsWrong : ChangeSpec := { name := "solverDemands", fn := fun _ => fun
  | [d] => { results := [.lit (.bool false)], args := [d] }
  | _ => none }
def SolverDemandsWrongFalsely : Prop := solverDemandsRow.holds Tryz.pinned (OpenSpec.ofChange solverDemandsWrong)

/-- 'flqlaw15.SolverGrows': WHATEVER THE INPUT: true; the input reads as it did. -/
def solverGrowsSpec : ChangeSpec := { name := "solverGrows", fn := fun _ => fun
  | [d] => { results := [.lit (.bool true)], args := [d] }
  | _ => none }
def solverGrowsRow : OpenClaim := { program := "ytfoejhjfcegngaagreat", sum := "78429070f3ff30362078708f36c88fa7a9091375ff3ddc71769f1932b5540759", func := "flowquery/flqlaw15.SolverGrows", spec := "solverGrows", unfollowed := true, recurses := true, plainKeys := false, apart := false }
def SolverGrowsSaid : Prop := solverGrowsRow.holds Tryz.pinned (OpenSpec.ofChange solverGrowsSpec)

/-- ITS FALSE NEIGHBOUR: 'it returns false'. Refute it at one input. -/
def solverGrowsWrong : ChangeSpec := { name := "solverGrows", fn := fun _ => fun
  | [d] => { results := [.lit (.bool false)], args := [d] }
  | _ => none }
def SolverGrowsWrongFalsely : Prop := solverGrowsRow.holds Tryz.pinned (OpenSpec.ofChange solverGrowsWrong)

/-- 'flqlaw15.SolverKnown': WHATEVER THE INPUT: true; the input reads as it did. -/
def solverKnownSpec : ChangeSpec := { name := "solverKnown", fn := fun _ => fun
  | [d] => { results := [.lit (.bool true)], args := [d] }
  | _ => none }
def solverKnownRow : OpenClaim := { program := "ytfoejhjfcegngaagreat", sum := "78429070f3ff30362078708f36c88fa7a9091375ff3ddc71769f1932b5540759", func := "flowquery/flqlaw15.SolverKnown", spec := "solverKnown", unfollowed := true, recurses := true, plainKeys := false, apart := false }
def SolverKnownSaid : Prop := solverKnownRow.holds Tryz.pinned (OpenSpec.ofChange solverKnownSpec)

/-- ITS FALSE NEIGHBOUR: 'it returns false'. Refute it at one input. -/
def solverKnownWrong : ChangeSpec := { name := "solverKnown", fn := fun _ => fun
  | [d] => { results := [.lit (.bool false)], args := [d] }
  | _ => none }
def SolverKnownWrongFalsely : Prop := solverKnownRow.holds Tryz.pinned (OpenSpec.ofChange solverKnownWrong)

/-- 'flqlaw16.WitnessFinds': WHATEVER THE INPUT: true; the input reads as it did. -/
def witnessFindsSpec : ChangeSpec := { name := "witnessFinds", fn := fun _ => fun
  | [d1, d2, d3, d4] => { results := [.lit (.bool true)], args := [d1, d2, d3, d4] }
  | _ => none }
def witnessFindsRow : OpenClaim := { program := "ytfoejhjfcegngaagreat", sum := "78429070f3ff30362078708f36c88fa7a9091375ff3ddc71769f1932b5540759", func := "flowquery/flqlaw16.WitnessFinds", spec := "witnessFinds", unfollowed := true, recurses := true, plainKeys := false, apart := false }
def WitnessFindsSaid : Prop := witnessFindsRow.holds Tryz.pinned (OpenSpec.ofChange witnessFindsSpec)

/-- ITS FALSE NEIGHBOUR: 'it returns false'. Refute it at one input. -/
def witnessFindsWrong : ChangeSpec := { name := "witnessFinds", fn := fun _ => fun
  | [d1, d2, d3, d4] => { results := [.lit (.bool false)], args := [d1, d2, d3, d4] }
  | _ => none }
def WitnessFindsWrongFalsely : Prop := witnessFindsRow.holds Tryz.pinned (OpenSpec.ofChange witnessFindsWrong)

/-- 'flqlaw16.WitnessDecides': WHATEVER THE INPUT: true; the input reads as it did. -/
def witnessDecidesSpec : ChangeSpec := { name := "witnessDecides", fn := fun _ => fun
  | [d] => { results := [.lit (.bool true)], args := [d] }
  | _ => none }
def witnessDecidesRow : OpenClaim := { program := "ytfoejhjfcegngaagreat", sum := "78429070f3ff30362078708f36c88fa7a9091375ff3ddc71769f1932b5540759", func := "flowquery/flqlaw16.WitnessDecides", spec := "witnessDecides", unfollowed := true, recurses := true, plainKeys := false, apart := false }
def WitnessDecidesSaid : Prop := witnessDecidesRow.holds Tryz.pinned (OpenSpec.ofChange witnessDecidesSpec)

/-- ITS FALSE NEIGHBOUR: 'it returns false'. Refute it at one input. -/
def witnessDecidesWrong : ChangeSpec := { name := "witnessDecides", fn := fun _ => fun
  | [d] => { results := [.lit (.bool false)], args := [d] }
  | _ => none }
def WitnessDecidesWrongFalsely : Prop := witnessDecidesRow.holds Tryz.pinned (OpenSpec.ofChange witnessDecidesWrong)

/-- 'flqlaw14.ConeRestricts': WHATEVER THE INPUT: true; the input reads as it did. -/
def coneRestrictsSpec : ChangeSpec := { name := "coneRestricts", fn := fun _ => fun
  | [d1, d2, d3, d4, d5] => { results := [.lit (.bool true)], args := [d1, d2, d3, d4, d5] }
  | _ => none }
def coneRestrictsRow : OpenClaim := { program := "ytfoejhjfcegngaagreat", sum := "78429070f3ff30362078708f36c88fa7a9091375ff3ddc71769f1932b5540759", func := "flowquery/flqlaw14.ConeRestricts", spec := "coneRestricts", unfollowed := true, recurses := true, plainKeys := false, apart := false }
def ConeRestrictsSaid : Prop := coneRestrictsRow.holds Tryz.pinned (OpenSpec.ofChange coneRestrictsSpec)

/-- ITS FALSE NEIGHBOUR: 'it returns false'. Refute it at one input. -/
def coneRestrictsWrong : ChangeSpec := { name := "coneRestricts", fn := fun _ => fun
  | [d1, d2, d3, d4, d5] => { results := [.lit (.bool false)], args := [d1, d2, d3, d4, d5] }
  | _ => none }
def ConeRestrictsWrongFalsely : Prop := coneRestrictsRow.holds Tryz.pinned (OpenSpec.ofChange coneRestrictsWrong)

/-- 'flqlaw14.ConeExact': WHATEVER THE INPUT: true; the input reads as it did. -/
def coneExactSpec : ChangeSpec := { name := "coneExact", fn := fun _ => fun
  | [d] => { results := [.lit (.bool true)], args := [d] }
  | _ => none }
def coneExactRow : OpenClaim := { program := "ytfoejhjfcegngaagreat", sum := "78429070f3ff30362078708f36c88fa7a9091375ff3ddc71769f1932b5540759", func := "flowquery/flqlaw14.ConeExact", spec := "coneExact", unfollowed := true, recurses := true, plainKeys := false, apart := false }
def ConeExactSaid : Prop := coneExactRow.holds Tryz.pinned (OpenSpec.ofChange coneExactSpec)

/-- ITS FALSE NEIGHBOUR: 'it returns false'. Refute it at one input. -/
def coneExactWrong : ChangeSpec := { name := "coneExact", fn := fun _ => fun
  | [d] => { results := [.lit (.bool false)], args := [d] }
  | _ => none }
def ConeExactWrongFalsely : Prop := coneExactRow.holds Tryz.pinned (OpenSpec.ofChange coneExactWrong)

/-- 'flqlaw15.SolverSteps': WHATEVER THE INPUT: true; the input reads as it did. -/
def solverStepsSpec : ChangeSpec := { name := "solverSteps", fn := fun _ => fun
  | [d] => { results := [.lit (.bool true)], args := [d] }
  | _ => none }
def solverStepsRow : OpenClaim := { program := "ytfoejhjfcegngaagreat", sum := "78429070f3ff30362078708f36c88fa7a9091375ff3ddc71769f1932b5540759", func := "flowquery/flqlaw15.SolverSteps", spec := "solverSteps", unfollowed := true, recurses := true, plainKeys := false, apart := false }
def SolverStepsSaid : Prop := solverStepsRow.holds Tryz.pinned (OpenSpec.ofChange solverStepsSpec)

/-- ITS FALSE NEIGHBOUR: 'it returns false'. Refute it at one input. -/
def solverStepsWrong : ChangeSpec := { name := "solverSteps", fn := fun _ => fun
  | [d] => { results := [.lit (.bool false)], args := [d] }
  | _ => none }
def SolverStepsWrongFalsely : Prop := solverStepsRow.holds Tryz.pinned (OpenSpec.ofChange solverStepsWrong)

/-- 'flqlaw15.SolverLeaf': WHATEVER THE INPUT: true; the input reads as it did. -/
def solverLeafSpec : ChangeSpec := { name := "solverLeaf", fn := fun _ => fun
  | [d] => { results := [.lit (.bool true)], args := [d] }
  | _ => none }
def solverLeafRow : OpenClaim := { program := "ytfoejhjfcegngaagreat", sum := "78429070f3ff30362078708f36c88fa7a9091375ff3ddc71769f1932b5540759", func := "flowquery/flqlaw15.SolverLeaf", spec := "solverLeaf", unfollowed := true, recurses := true, plainKeys := false, apart := false }
def SolverLeafSaid : Prop := solverLeafRow.holds Tryz.pinned (OpenSpec.ofChange solverLeafSpec)

/-- ITS FALSE NEIGHBOUR: 'it returns false'. Refute it at one input. -/
def solverLeafWrong : ChangeSpec := { name := "solverLeaf", fn := fun _ => fun
  | [d] => { results := [.lit (.bool false)], args := [d] }
  | _ => none }
def SolverLeafWrongFalsely : Prop := solverLeafRow.holds Tryz.pinned (OpenSpec.ofChange solverLeafWrong)

/-- 'flqlaw15.SolverAnswers': WHATEVER THE INPUT: true; the input reads as it did. -/
def solverAnswersSpec : ChangeSpec := { name := "solverAnswers", fn := fun _ => fun
  | [d] => { results := [.lit (.bool true)], args := [d] }
  | _ => none }
def solverAnswersRow : OpenClaim := { program := "ytfoejhjfcegngaagreat", sum := "78429070f3ff30362078708f36c88fa7a9091375ff3ddc71769f1932b5540759", func := "flowquery/flqlaw15.SolverAnswers", spec := "solverAnswers", unfollowed := true, recurses := true, plainKeys := false, apart := false }
def SolverAnswersSaid : Prop := solverAnswersRow.holds Tryz.pinned (OpenSpec.ofChange solverAnswersSpec)

/-- ITS FALSE NEIGHBOUR: 'it returns false'. Refute it at one input. -/
def solverAnswersWrong : ChangeSpec := { name := "solverAnswers", fn := fun _ => fun
  | [d] => { results := [.lit (.bool false)], args := [d] }
  | _ => none }
def SolverAnswersWrongFalsely : Prop := solverAnswersRow.holds Tryz.pinned (OpenSpec.ofChange solverAnswersWrong)

/- THE SECOND FORM. 'bulk': how many values and letters a reading holds, each counted each time it is reached (what is shared counts as often as it is met; a slice's spare places count too). A statement '..UptoSaid' is the law's where the arguments, and the package variables that the reading takes, are together of bulk at most 1048576: NARROWER than '..Said'. Prove '..Said' where nothing that the law and all that it calls make is longer than what came in: it says more and counts as full. Else prove '..UptoSaid'. A law counts once. -/
mutual
def uptoBulk {H : Type} : DataW H → Nat
  | .lit (.string bytes) => bytes.length + 1
  | .lit _ => 1
  | .nil => 1
  | .ptr d => uptoBulk d + 1
  | .slice elems spare => uptoBulkAll elems + uptoBulkAll spare + 1
  | .agg parts => uptoBulkAll parts + 1
  | .iface _ d => uptoBulk d + 1
  | .map entries => uptoBulkEntries entries + 1
  | .held _ => 1
def uptoBulkAll {H : Type} : List (DataW H) → Nat
  | [] => 0
  | d :: r => uptoBulk d + uptoBulkAll r
def uptoBulkEntries {H : Type} : List (Lit × DataW H) → Nat
  | [] => 0
  | x :: r => uptoBulkEntry x + uptoBulkEntries r
def uptoBulkEntry {H : Type} : Lit × DataW H → Nat
  | (.string bytes, d) => bytes.length + uptoBulk d + 1
  | (_, d) => uptoBulk d + 1
 end
def uptoSmall : (H : Type) → List (DataW H) → Bool := fun _ ds => decide (uptoBulkAll ds ≤ 1048576)
def OpenSpec.upto (s : _root_.Go.ChangeSpec) : _root_.Go.OpenSpec := { _root_.Go.OpenSpec.ofChange s with cond := some uptoSmall }

/-- 'flqlaw16.WitnessChecks', WHERE WHAT IT READS IS OF BULK AT MOST 1048576: true; the input reads as it did. -/
def witnessChecksUptoRow : OpenClaim := { program := "ytfoejhjfcegngaagreat", sum := "78429070f3ff30362078708f36c88fa7a9091375ff3ddc71769f1932b5540759", func := "flowquery/flqlaw16.WitnessChecks", spec := "witnessChecks", unfollowed := true, recurses := true, plainKeys := false, apart := false, narrowed := true }
def WitnessChecksUptoSaid : Prop := witnessChecksUptoRow.holds Tryz.pinned (OpenSpec.upto witnessChecksSpec)

/-- 'flqlaw16.WitnessSound', WHERE WHAT IT READS IS OF BULK AT MOST 1048576: true; the input reads as it did. -/
def witnessSoundUptoRow : OpenClaim := { program := "ytfoejhjfcegngaagreat", sum := "78429070f3ff30362078708f36c88fa7a9091375ff3ddc71769f1932b5540759", func := "flowquery/flqlaw16.WitnessSound", spec := "witnessSound", unfollowed := true, recurses := true, plainKeys := false, apart := false, narrowed := true }
def WitnessSoundUptoSaid : Prop := witnessSoundUptoRow.holds Tryz.pinned (OpenSpec.upto witnessSoundSpec)

/-- 'flqlaw15.SolverRuns', WHERE WHAT IT READS IS OF BULK AT MOST 1048576: true; the input reads as it did. -/
def solverRunsUptoRow : OpenClaim := { program := "ytfoejhjfcegngaagreat", sum := "78429070f3ff30362078708f36c88fa7a9091375ff3ddc71769f1932b5540759", func := "flowquery/flqlaw15.SolverRuns", spec := "solverRuns", unfollowed := true, recurses := true, plainKeys := false, apart := false, narrowed := true }
def SolverRunsUptoSaid : Prop := solverRunsUptoRow.holds Tryz.pinned (OpenSpec.upto solverRunsSpec)

/-- 'flqlaw15.SolverSlices', WHERE WHAT IT READS IS OF BULK AT MOST 1048576: true; the input reads as it did. -/
def solverSlicesUptoRow : OpenClaim := { program := "ytfoejhjfcegngaagreat", sum := "78429070f3ff30362078708f36c88fa7a9091375ff3ddc71769f1932b5540759", func := "flowquery/flqlaw15.SolverSlices", spec := "solverSlices", unfollowed := true, recurses := true, plainKeys := false, apart := false, narrowed := true }
def SolverSlicesUptoSaid : Prop := solverSlicesUptoRow.holds Tryz.pinned (OpenSpec.upto solverSlicesSpec)

/-- 'flqlaw15.SolverDemands', WHERE WHAT IT READS IS OF BULK AT MOST 1048576: true; the input reads as it did. -/
def solverDemandsUptoRow : OpenClaim := { program := "ytfoejhjfcegngaagreat", sum := "78429070f3ff30362078708f36c88fa7a9091375ff3ddc71769f1932b5540759", func := "flowquery/flqlaw15.SolverDemands", spec := "solverDemands", unfollowed := true, recurses := true, plainKeys := false, apart := false, narrowed := true }
def SolverDemandsUptoSaid : Prop := solverDemandsUptoRow.holds Tryz.pinned (OpenSpec.upto solverDemandsSpec)

/-- 'flqlaw15.SolverGrows', WHERE WHAT IT READS IS OF BULK AT MOST 1048576: true; the input reads as it did. -/
def solverGrowsUptoRow : OpenClaim := { program := "ytfoejhjfcegngaagreat", sum := "78429070f3ff30362078708f36c88fa7a9091375ff3ddc71769f1932b5540759", func := "flowquery/flqlaw15.SolverGrows", spec := "solverGrows", unfollowed := true, recurses := true, plainKeys := false, apart := false, narrowed := true }
def SolverGrowsUptoSaid : Prop := solverGrowsUptoRow.holds Tryz.pinned (OpenSpec.upto solverGrowsSpec)

/-- 'flqlaw15.SolverKnown', WHERE WHAT IT READS IS OF BULK AT MOST 1048576: true; the input reads as it did. -/
def solverKnownUptoRow : OpenClaim := { program := "ytfoejhjfcegngaagreat", sum := "78429070f3ff30362078708f36c88fa7a9091375ff3ddc71769f1932b5540759", func := "flowquery/flqlaw15.SolverKnown", spec := "solverKnown", unfollowed := true, recurses := true, plainKeys := false, apart := false, narrowed := true }
def SolverKnownUptoSaid : Prop := solverKnownUptoRow.holds Tryz.pinned (OpenSpec.upto solverKnownSpec)

/-- 'flqlaw16.WitnessFinds', WHERE WHAT IT READS IS OF BULK AT MOST 1048576: true; the input reads as it did. -/
def witnessFindsUptoRow : OpenClaim := { program := "ytfoejhjfcegngaagreat", sum := "78429070f3ff30362078708f36c88fa7a9091375ff3ddc71769f1932b5540759", func := "flowquery/flqlaw16.WitnessFinds", spec := "witnessFinds", unfollowed := true, recurses := true, plainKeys := false, apart := false, narrowed := true }
def WitnessFindsUptoSaid : Prop := witnessFindsUptoRow.holds Tryz.pinned (OpenSpec.upto witnessFindsSpec)

/-- 'flqlaw16.WitnessDecides', WHERE WHAT IT READS IS OF BULK AT MOST 1048576: true; the input reads as it did. -/
def witnessDecidesUptoRow : OpenClaim := { program := "ytfoejhjfcegngaagreat", sum := "78429070f3ff30362078708f36c88fa7a9091375ff3ddc71769f1932b5540759", func := "flowquery/flqlaw16.WitnessDecides", spec := "witnessDecides", unfollowed := true, recurses := true, plainKeys := false, apart := false, narrowed := true }
def WitnessDecidesUptoSaid : Prop := witnessDecidesUptoRow.holds Tryz.pinned (OpenSpec.upto witnessDecidesSpec)

/-- 'flqlaw14.ConeRestricts', WHERE WHAT IT READS IS OF BULK AT MOST 1048576: true; the input reads as it did. -/
def coneRestrictsUptoRow : OpenClaim := { program := "ytfoejhjfcegngaagreat", sum := "78429070f3ff30362078708f36c88fa7a9091375ff3ddc71769f1932b5540759", func := "flowquery/flqlaw14.ConeRestricts", spec := "coneRestricts", unfollowed := true, recurses := true, plainKeys := false, apart := false, narrowed := true }
def ConeRestrictsUptoSaid : Prop := coneRestrictsUptoRow.holds Tryz.pinned (OpenSpec.upto coneRestrictsSpec)

/-- 'flqlaw14.ConeExact', WHERE WHAT IT READS IS OF BULK AT MOST 1048576: true; the input reads as it did. -/
def coneExactUptoRow : OpenClaim := { program := "ytfoejhjfcegngaagreat", sum := "78429070f3ff30362078708f36c88fa7a9091375ff3ddc71769f1932b5540759", func := "flowquery/flqlaw14.ConeExact", spec := "coneExact", unfollowed := true, recurses := true, plainKeys := false, apart := false, narrowed := true }
def ConeExactUptoSaid : Prop := coneExactUptoRow.holds Tryz.pinned (OpenSpec.upto coneExactSpec)

/-- 'flqlaw15.SolverSteps', WHERE WHAT IT READS IS OF BULK AT MOST 1048576: true; the input reads as it did. -/
def solverStepsUptoRow : OpenClaim := { program := "ytfoejhjfcegngaagreat", sum := "78429070f3ff30362078708f36c88fa7a9091375ff3ddc71769f1932b5540759", func := "flowquery/flqlaw15.SolverSteps", spec := "solverSteps", unfollowed := true, recurses := true, plainKeys := false, apart := false, narrowed := true }
def SolverStepsUptoSaid : Prop := solverStepsUptoRow.holds Tryz.pinned (OpenSpec.upto solverStepsSpec)

/-- 'flqlaw15.SolverLeaf', WHERE WHAT IT READS IS OF BULK AT MOST 1048576: true; the input reads as it did. -/
def solverLeafUptoRow : OpenClaim := { program := "ytfoejhjfcegngaagreat", sum := "78429070f3ff30362078708f36c88fa7a9091375ff3ddc71769f1932b5540759", func := "flowquery/flqlaw15.SolverLeaf", spec := "solverLeaf", unfollowed := true, recurses := true, plainKeys := false, apart := false, narrowed := true }
def SolverLeafUptoSaid : Prop := solverLeafUptoRow.holds Tryz.pinned (OpenSpec.upto solverLeafSpec)

/-- 'flqlaw15.SolverAnswers', WHERE WHAT IT READS IS OF BULK AT MOST 1048576: true; the input reads as it did. -/
def solverAnswersUptoRow : OpenClaim := { program := "ytfoejhjfcegngaagreat", sum := "78429070f3ff30362078708f36c88fa7a9091375ff3ddc71769f1932b5540759", func := "flowquery/flqlaw15.SolverAnswers", spec := "solverAnswers", unfollowed := true, recurses := true, plainKeys := false, apart := false, narrowed := true }
def SolverAnswersUptoSaid : Prop := solverAnswersUptoRow.holds Tryz.pinned (OpenSpec.upto solverAnswersSpec)

end Rows
end Go.Proofs.YtfoejhjfcegngaaGreat
