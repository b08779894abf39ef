/- LayoutLevels of flqlaw33 holds: for every input the law answers true and leaves its arguments as they were. Conditions: none beyond the given row's own. -/
import Derived.Test.YtloefgfjlmglgaaDoorW3
import Derived.Test.YtloefgfjlmglgaaDoorRows
import Derived.Test.YtloefgfjlmglgaaDoorTie
import Derived.Test.YtloefgfjlmglgaaDoorCards
import Derived.SevenTiedAt
import Derived.Test.YtloefgfjlmglgaaDoorC0
import Derived.Test.YtloefgfjlmglgaaDoorC1
import Derived.Test.YtloefgfjlmglgaaDoorC2
import Derived.Test.YtloefgfjlmglgaaDoorC3
import Derived.Test.YtloefgfjlmglgaaDoorC4
import Derived.Test.YtloefgfjlmglgaaDoorC5
set_option linter.unusedVariables false
namespace Go.Proofs.YtloefgfjlmglgaaDoor
open Go Go.SL Go.SL.G Go.WideShapes Go.ChangeShapes
set_option maxRecDepth 100000
set_option maxHeartbeats 4000000
theorem c_all : joinedFacts Tryd.pinned.checked.prog 5 Tryd.f5 Rows.layoutLevelsSpec Rows.layoutLevelsRow = true := joined_mk (by kernel_rfl) c_laid c_maps (by kernel_rfl) (by kernel_rfl) c_in c_unf c_rec c_named (by kernel_rfl) (by kernel_rfl) (by kernel_rfl) (by kernel_rfl) c_heard c_may c_lift c_make (by kernel_rfl)
theorem rt3 : RdT Tryd.prog 3 Int := rdT_int Tryd.underlying3
theorem rt22 : RdT Tryd.prog 22 (List Int) := rdT_slice rt3 Tryd.underlying22 (by kernel_rfl) (by kernel_rfl)
set_option maxHeartbeats 4000000 in
set_option maxRecDepth 100000 in
theorem layoutLevels_holds : Rows.LayoutLevelsSaid := by
  refine law_holdsL 5 Tryd.f5 (tb := 4) rfl rfl rfl rfl rfl rfl rfl ⟨rfl, rfl, rfl, rfl, rfl⟩ rfl rfl rfl rfl rfl rfl rfl rfl rfl c_fn Tryd.func5 c_all
    (of_decide_eq_true (by kernel_rfl)) (by unfold Func.isWrapper; first | (rw [if_pos (by decide +kernel)]; kernel_rfl) | (rw [if_neg (by decide +kernel)]; exact ⟨rfl, rfl⟩)) (by kernel_rfl) (by kernel_rfl)
    ⟨rfl, fun H ds hd => ?_⟩ c_laid (by kernel_rfl) rfl Tryd.underlying4 (fun os started H enc => ChangeSpec.witness_shaped (enc := enc) (C := Tryd.checked) (os := os) (X := fun w _ => laidMetH Tryd.prog Rows.layoutLevelsRow.laid w) false (World.doorLaid Tryd.prog 400 os) #[.slice none 0 0] 30 rfl (World.shaped_of_RefB (by kernel_rfl) (by kernel_rfl)) (by kernel_rfl) (by kernel_rfl) (by kernel_rfl) (laidMetH_of_parts3 (fuel := 8) (laidMet_of_run' 8 (by kernel_rfl) (by kernel_rfl)) (by kernel_rfl) (by kernel_rfl))) ?_
  · have hd : ds.length = 1 := hd
    match ds, hd with
    | [d0], _ => rfl
  · intro H enc W base args ds ps hval hA hw hL
    rw [Tryd.params5] at hA hw hval
    obtain ⟨v0, vs0, d0, ds0, p0, z0, hargs0, rfl, rfl, t0, hA0⟩ := trodAll_cons hA
    obtain ⟨e1, rfl, rfl⟩ := trodAll_nil hA0
    subst e1
    obtain rfl : args = #[v0] := by cases args; simp_all
    simp only [DataW.weightsEach, List.all_append, Bool.and_eq_true] at hw
    obtain ⟨w0, _⟩ := hw
    obtain ⟨x0, a0, k0, rfl, h0⟩ := arg_slice rt22 Tryd.underlying22 (hval 0 22 v0 rfl rfl) t0 w0
    exact ⟨_, Unit, _, _, (sepAll_p rfl h0 sepAll_n), fn5 x0 a0 k0 true (LayoutLevels_true x0)⟩
set_option maxRecDepth 100000 in
theorem layoutLevelsCard_holds : Rows.LayoutLevelsCardSaid :=
  Claim7.holds_tied_plain_at .later [] [.data, .data, .data] true (true, "ba633ca655d7bcac5800901be342f9b4f0b9996669fa7874ba9ba3a087c88f65") false
    layoutLevels_holds (fun _ h => by cases h) (by kernel_rfl) (fun _ h => by cases h) layoutLevels_row_tie rfl ⟨rfl, rfl⟩ (by kernel_rfl) rfl
    (fun f fn hf hfn => by
      obtain rfl : f = 5 := Option.some.inj ((show Tryd.prog.funcNamed "flowquery/flqlaw33.LayoutLevels" = some 5 by kernel_rfl).symm.trans hf) |>.symm
      obtain rfl : fn = Tryd.f5 := (Option.some.inj (Tryd.func5.symm.trans hfn)).symm
      exact ⟨by kernel_rfl, fun j t ht => by
        rw [Tryd.params5] at ht
        rcases j with _ | j
        · obtain rfl : 22 = t := by simpa using ht
          exact (show Tryd.prog.wantsStandIn 22 = false by kernel_rfl)
        · simp at ht⟩)
    (by kernel_rfl)
end Go.Proofs.YtloefgfjlmglgaaDoor
