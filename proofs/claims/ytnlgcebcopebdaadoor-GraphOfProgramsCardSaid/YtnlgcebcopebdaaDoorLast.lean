/- GraphOfPrograms of flqlaw8 holds: for every input the law answers true and leaves its arguments as they were. Conditions: none beyond the given row's own. -/
import Derived.Test.YtnlgcebcopebdaaDoorW6
import Derived.Test.YtnlgcebcopebdaaDoorRows
import Derived.Test.YtnlgcebcopebdaaDoorTie
import Derived.Test.YtnlgcebcopebdaaDoorCards
import Derived.SevenTiedAt
import Derived.Test.YtnlgcebcopebdaaDoorC0
import Derived.Test.YtnlgcebcopebdaaDoorC1
import Derived.Test.YtnlgcebcopebdaaDoorC2
import Derived.Test.YtnlgcebcopebdaaDoorC3
import Derived.Test.YtnlgcebcopebdaaDoorC4
import Derived.Test.YtnlgcebcopebdaaDoorC5
set_option linter.unusedVariables false
namespace Go.Proofs.YtnlgcebcopebdaaDoor
open Go Go.SL Go.SL.G Go.WideShapes Go.ChangeShapes
set_option maxRecDepth 100000
set_option maxHeartbeats 4000000
theorem c_all : joinedFacts Tryd.pinned.checked.prog 3 Tryd.f3 Rows.graphOfProgramsSpec Rows.graphOfProgramsRow = true := QmR (by kernel_rfl) c_laid c_maps (by kernel_rfl) (by kernel_rfl) c_in c_unf c_rec c_named (by kernel_rfl) (by kernel_rfl) (by kernel_rfl) (by kernel_rfl) c_heard c_may c_lift c_make (by kernel_rfl)
theorem rt3 : RdT Tryd.prog 3 Int := Qqc Tryd.underlying3
theorem rt22 : RdT Tryd.prog 22 (List Int) := Qm7 rt3 Tryd.underlying22 (by kernel_rfl) (by kernel_rfl)
set_option maxHeartbeats 4000000 in
set_option maxRecDepth 100000 in
theorem graphOfPrograms_holds : Rows.GraphOfProgramsSaid := by
  refine Qmj 3 Tryd.f3 (tb := 4) rfl rfl rfl rfl rfl rfl rfl ⟨rfl, rfl, rfl, rfl, rfl⟩ rfl rfl rfl rfl rfl rfl rfl rfl rfl c_fn Tryd.func3 c_all
    (of_decide_eq_true (by kernel_rfl)) (by unfold Func.isWrapper; first | (rw [if_pos (by decide +kernel)]; kernel_rfl) | (rw [if_neg (by decide +kernel)]; exact ⟨rfl, rfl⟩)) (by kernel_rfl) (by kernel_rfl)
    ⟨rfl, fun H ds hd => ?_⟩ c_laid (by kernel_rfl) rfl Tryd.underlying4 (fun os started H enc => ChangeSpec.witness_shaped (enc := enc) (C := Tryd.checked) (os := os) (X := fun w _ => laidMetH Tryd.prog Rows.graphOfProgramsRow.laid w) false (World.doorLaid Tryd.prog 400 os) #[.slice none 0 0] 30 rfl (World.shaped_of_RefB (by kernel_rfl) (by kernel_rfl)) (by kernel_rfl) (by kernel_rfl) (by kernel_rfl) (laidMetH_of_parts3 (fuel := 8) (laidMet_of_run' 8 (by kernel_rfl) (by kernel_rfl)) (by kernel_rfl) (by kernel_rfl))) ?_
  · have hd : ds.length = 1 := hd
    match ds, hd with
    | [d0], _ => rfl
  · intro H enc W base args ds ps hval hA hw hL
    rw [Tryd.params3] at hA hw hval
    obtain ⟨v0, vs0, d0, ds0, p0, z0, hargs0, rfl, rfl, t0, hA0⟩ := trodAll_cons hA
    obtain ⟨e1, rfl, rfl⟩ := trodAll_nil hA0
    subst e1
    obtain rfl : args = #[v0] := by cases args; simp_all
    simp only [DataW.weightsEach, List.all_append, Bool.and_eq_true] at hw
    obtain ⟨w0, _⟩ := hw
    obtain ⟨x0, a0, k0, rfl, h0⟩ := Qm8 rt22 Tryd.underlying22 (hval 0 22 v0 rfl rfl) t0 w0
    obtain ⟨ga, gk, hg⟩ := Qnw (T := 54) (e := 9) (g := 0) (nm := "flowquery/lexer.keywords") (L := kwL) Tryd.underlying54 Tryd.underlying9 (by kernel_rfl) (by kernel_rfl) (by kernel_rfl) (by unfold kwL; simp) (by decide) (by decide) hL
    exact ⟨_, Unit, _, _, (Qkc rfl h0 (hg _)), fn3 x0 a0 k0 ga gk true (Qhq x0)⟩
set_option maxRecDepth 100000 in
theorem graphOfProgramsCard_holds : Rows.GraphOfProgramsCardSaid :=
  Claim7.holds_tied_plain_at .later [] [.widerDeep] true (true, "6139239655ba3626ed2964354ffdf32c8385f5ff8d38d018b569519066ed4c18") false
    graphOfPrograms_holds (fun _ h => by cases h) (by kernel_rfl) (fun _ h => by cases h) graphOfPrograms_row_tie rfl ⟨rfl, rfl⟩ (by kernel_rfl) rfl
    (fun f fn hf hfn => by
      obtain rfl : f = 3 := Option.some.inj ((show Tryd.prog.funcNamed "flowquery/flqlaw8.GraphOfPrograms" = some 3 by kernel_rfl).symm.trans hf) |>.symm
      obtain rfl : fn = Tryd.f3 := (Option.some.inj (Tryd.func3.symm.trans hfn)).symm
      exact ⟨by kernel_rfl, fun j t ht => by
        rw [Tryd.params3] at ht
        rcases j with _ | j
        · obtain rfl : 22 = t := by simpa using ht
          exact (show Tryd.prog.wantsStandIn 22 = false by kernel_rfl)
        · simp at ht⟩)
    (by kernel_rfl)
end Go.Proofs.YtnlgcebcopebdaaDoor
