/- LayoutMeasures of flqlaw33 holds: for every input the law answers true and leaves its arguments as they were. Conditions: none beyond the given row's own. -/
import Derived.Test.YtloefgfjlmglgaaGreatDoorW3
import Derived.Test.YtloefgfjlmglgaaGreatDoorRows
import Derived.Test.YtloefgfjlmglgaaGreatDoorTie
import Derived.Test.YtloefgfjlmglgaaGreatDoorCards
import Derived.SevenTiedAt
import Derived.Test.YtloefgfjlmglgaaGreatDoorC0
import Derived.Test.YtloefgfjlmglgaaGreatDoorC1
import Derived.Test.YtloefgfjlmglgaaGreatDoorC2
import Derived.Test.YtloefgfjlmglgaaGreatDoorC3
import Derived.Test.YtloefgfjlmglgaaGreatDoorC4
import Derived.Test.YtloefgfjlmglgaaGreatDoorC5
set_option linter.unusedVariables false
namespace Go.Proofs.YtloefgfjlmglgaaGreatDoor
open Go Go.SL Go.SL.G Go.WideShapes Go.ChangeShapes
set_option maxRecDepth 100000
set_option maxHeartbeats 4000000
theorem c_all : joinedFacts Tryz.pinned.checked.prog 3 Tryz.f3 Rows.layoutMeasuresSpec Rows.layoutMeasuresRow = true := joined_mk (by kernel_rfl) c_laid c_maps (by kernel_rfl) (by kernel_rfl) c_in c_unf c_rec c_named (by kernel_rfl) (by kernel_rfl) (by kernel_rfl) (by kernel_rfl) c_heard c_may c_lift c_make (by kernel_rfl)
theorem rt3 : RdT Tryz.prog 3 Int := rdT_int Tryz.underlying3
theorem rt22 : RdT Tryz.prog 22 (List Int) := rdT_slice rt3 Tryz.underlying22 (by kernel_rfl) (by kernel_rfl)
set_option maxHeartbeats 4000000 in
set_option maxRecDepth 100000 in
theorem layoutMeasures_holds : Rows.LayoutMeasuresSaid := by
  refine law_holdsL 3 Tryz.f3 (tb := 4) rfl rfl rfl rfl rfl rfl rfl ⟨rfl, rfl, rfl, rfl, rfl⟩ rfl rfl rfl rfl rfl rfl rfl rfl rfl c_fn Tryz.func3 c_all
    (of_decide_eq_true (by kernel_rfl)) (by unfold Func.isWrapper; first | (rw [if_pos (by decide +kernel)]; kernel_rfl) | (rw [if_neg (by decide +kernel)]; exact ⟨rfl, rfl⟩)) (by kernel_rfl) (by kernel_rfl)
    ⟨rfl, fun H ds hd => ?_⟩ c_laid (by kernel_rfl) rfl Tryz.underlying4 (fun os started H enc => ChangeSpec.witness_shaped (enc := enc) (C := Tryz.checked) (os := os) (X := fun w _ => laidMetH Tryz.prog Rows.layoutMeasuresRow.laid w) false (World.doorLaid Tryz.prog 400 os) #[.slice none 0 0, vi 0] 30 rfl (World.shaped_of_RefB (by kernel_rfl) (by kernel_rfl)) (by kernel_rfl) (by kernel_rfl) (by kernel_rfl) (laidMetH_of_parts3 (fuel := 8) (laidMet_of_run' 8 (by kernel_rfl) (by kernel_rfl)) (by kernel_rfl) (by kernel_rfl))) ?_
  · have hd : ds.length = 2 := hd
    match ds, hd with
    | [d0, d1], _ => rfl
  · intro H enc W base args ds ps hval hA hw hL
    rw [Tryz.params3] at hA hw hval
    obtain ⟨v0, vs0, d0, ds0, p0, z0, hargs0, rfl, rfl, t0, hA0⟩ := trodAll_cons hA
    obtain ⟨v1, vs1, d1, ds1, p1, z1, hargs1, rfl, rfl, t1, hA1⟩ := trodAll_cons hA0
    obtain ⟨e1, rfl, rfl⟩ := trodAll_nil hA1
    subst e1
    subst hargs1
    obtain rfl : args = #[v0, v1] := by cases args; simp_all
    simp only [DataW.weightsEach, List.all_append, Bool.and_eq_true] at hw
    obtain ⟨w0, w1, _⟩ := hw
    obtain ⟨x0, a0, k0, rfl, h0⟩ := arg_slice rt22 Tryz.underlying22 (hval 0 22 v0 rfl rfl) t0 w0
    obtain ⟨x1, rfl, h1⟩ := arg_int Tryz.underlying3 (hval 1 3 v1 rfl rfl) t1 w1
    exact ⟨_, Unit, _, _, (sepAll_p rfl h0 sepAll_n), fn3 x0 a0 k0 x1 h1 true (LayoutMeasures_true x0 x1)⟩
set_option maxRecDepth 100000 in
theorem layoutMeasuresCard_holds : Rows.LayoutMeasuresCardSaid :=
  Claim7.holds_tied_plain_at .later [] [.data, .data, .data] true (true, "677c672956c6cf63cd08d51bb732db45523ec175ff153a229ea3ad56ea3ab16e") false
    layoutMeasures_holds (fun _ h => by cases h) (by kernel_rfl) (fun _ h => by cases h) layoutMeasures_row_tie rfl ⟨rfl, rfl⟩ (by kernel_rfl) rfl
    (fun f fn hf hfn => by
      obtain rfl : f = 3 := Option.some.inj ((show Tryz.prog.funcNamed "flowquery/flqlaw33.LayoutMeasures" = some 3 by kernel_rfl).symm.trans hf) |>.symm
      obtain rfl : fn = Tryz.f3 := (Option.some.inj (Tryz.func3.symm.trans hfn)).symm
      exact ⟨by kernel_rfl, fun j t ht => by
        rw [Tryz.params3] at ht
        rcases j with _ | _ | j
        · obtain rfl : 22 = t := by simpa using ht
          exact (show Tryz.prog.wantsStandIn 22 = false by kernel_rfl)
        · obtain rfl : 3 = t := by simpa using ht
          exact (show Tryz.prog.wantsStandIn 3 = false by kernel_rfl)
        · simp at ht⟩)
    (by kernel_rfl)
end Go.Proofs.YtloefgfjlmglgaaGreatDoor
