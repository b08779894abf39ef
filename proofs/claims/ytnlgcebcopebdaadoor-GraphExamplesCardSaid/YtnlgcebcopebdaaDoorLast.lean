/- GraphExamples of flqlaw8 holds: for every input the law answers true and leaves its arguments as they were. Conditions: none beyond the given row's own. -/
import Derived.Test.YtnlgcebcopebdaaDoorW5
import Derived.Test.YtnlgcebcopebdaaDoorRows
import Derived.Test.YtnlgcebcopebdaaDoorTie
import Derived.Test.YtnlgcebcopebdaaDoorCards
import Derived.SevenTiedAt
import Derived.Test.YtnlgcebcopebdaaDoorC0
import Derived.Test.YtnlgcebcopebdaaDoorC1
import Derived.Test.YtnlgcebcopebdaaDoorC2
import Derived.Test.YtnlgcebcopebdaaDoorC3
import Derived.Test.YtnlgcebcopebdaaDoorC4
import Derived.Test.YtnlgcebcopebdaaDoorC5
set_option linter.unusedVariables false
namespace Go.Proofs.YtnlgcebcopebdaaDoor
open Go Go.SL Go.SL.G Go.WideShapes Go.ChangeShapes
set_option maxRecDepth 100000
set_option maxHeartbeats 4000000
theorem c_all : joinedFacts Tryd.pinned.checked.prog 5 Tryd.f5 Rows.graphExamplesSpec Rows.graphExamplesRow = true := joined_mk (by kernel_rfl) c_laid c_maps (by kernel_rfl) (by kernel_rfl) c_in c_unf c_rec c_named (by kernel_rfl) (by kernel_rfl) (by kernel_rfl) (by kernel_rfl) c_heard c_may c_lift c_make (by kernel_rfl)

set_option maxHeartbeats 4000000 in
set_option maxRecDepth 100000 in
theorem graphExamples_holds : Rows.GraphExamplesSaid := by
  refine law_holdsL 5 Tryd.f5 (tb := 4) rfl rfl rfl rfl rfl rfl rfl ⟨rfl, rfl, rfl, rfl, rfl⟩ rfl rfl rfl rfl rfl rfl rfl rfl rfl c_fn Tryd.func5 c_all
    (of_decide_eq_true (by kernel_rfl)) (by unfold Func.isWrapper; first | (rw [if_pos (by decide +kernel)]; kernel_rfl) | (rw [if_neg (by decide +kernel)]; exact ⟨rfl, rfl⟩)) (by kernel_rfl) (by kernel_rfl)
    ⟨rfl, fun H ds hd => ?_⟩ c_laid (by kernel_rfl) rfl Tryd.underlying4 (fun os started H enc => ChangeSpec.witness_shaped (enc := enc) (C := Tryd.checked) (os := os) (X := fun w _ => laidMetH Tryd.prog Rows.graphExamplesRow.laid w) false (World.doorLaid Tryd.prog 400 os) #[] 30 rfl (World.shaped_of_RefB (by kernel_rfl) (by kernel_rfl)) (by kernel_rfl) (by kernel_rfl) (by kernel_rfl) (laidMetH_of_parts3 (fuel := 8) (laidMet_of_run' 8 (by kernel_rfl) (by kernel_rfl)) (by kernel_rfl) (by kernel_rfl))) ?_
  · have hd : ds.length = 0 := hd
    match ds, hd with
    | [], _ => rfl
  · intro H enc W base args ds ps hval hA hw hL
    rw [Tryd.params5] at hA hw hval
    obtain ⟨e1, rfl, rfl⟩ := trodAll_nil hA
    subst e1
    obtain rfl : args = #[] := by cases args; simp_all
    simp only [DataW.weightsEach, List.all_append, Bool.and_eq_true] at hw
    obtain ⟨_⟩ := hw
    obtain ⟨ga, gk, hg⟩ := laid_strs (T := 54) (e := 9) (g := 0) (nm := "flowquery/lexer.keywords") (L := kwL) Tryd.underlying54 Tryd.underlying9 (by kernel_rfl) (by kernel_rfl) (by kernel_rfl) (by unfold kwL; simp) (by decide) (by decide) hL
    exact ⟨_, Unit, _, _, (hg _), fn5 ga gk true (GraphExamples_true )⟩
set_option maxRecDepth 100000 in
theorem graphExamplesCard_holds : Rows.GraphExamplesCardSaid :=
  Claim7.holds_tied_plain_at .later [] [.widerDeep] true (true, "6139239655ba3626ed2964354ffdf32c8385f5ff8d38d018b569519066ed4c18") false
    graphExamples_holds (fun _ h => by cases h) (by kernel_rfl) (fun _ h => by cases h) graphExamples_row_tie rfl ⟨rfl, rfl⟩ (by kernel_rfl) rfl
    (fun f fn hf hfn => by
      obtain rfl : f = 5 := Option.some.inj ((show Tryd.prog.funcNamed "flowquery/flqlaw8.GraphExamples" = some 5 by kernel_rfl).symm.trans hf) |>.symm
      obtain rfl : fn = Tryd.f5 := (Option.some.inj (Tryd.func5.symm.trans hfn)).symm
      exact ⟨by kernel_rfl, fun j t ht => by
        rw [Tryd.params5] at ht
        rcases j with j
        · simp at ht⟩)
    (by kernel_rfl)
end Go.Proofs.YtnlgcebcopebdaaDoor
