/- WitnessDecides of flqlaw16 holds: for every input the law answers true and leaves its arguments as they were. Conditions: none beyond the given row's own. -/
import Derived.Test.YtbccjgpbflaibaaGreatW5
import Derived.Test.YtbccjgpbflaibaaGreatRows
import Derived.Test.YtbccjgpbflaibaaGreatC0
import Derived.Test.YtbccjgpbflaibaaGreatC1
import Derived.Test.YtbccjgpbflaibaaGreatC2
import Derived.Test.YtbccjgpbflaibaaGreatC3
import Derived.Test.YtbccjgpbflaibaaGreatC4
import Derived.Test.YtbccjgpbflaibaaGreatC5
set_option linter.unusedVariables false
namespace Go.Proofs.YtbccjgpbflaibaaGreat
open Go Go.SL Go.SL.G Go.WideShapes Go.ChangeShapes
set_option maxRecDepth 100000
set_option maxHeartbeats 4000000
theorem c_all : joinedFacts Tryz.pinned.checked.prog 6 Tryz.f6 Rows.witnessDecidesSpec Rows.witnessDecidesRow = true := joined_mk (by kernel_rfl) c_laid c_maps (by kernel_rfl) (by kernel_rfl) c_in c_unf c_rec c_named (by kernel_rfl) (by kernel_rfl) (by kernel_rfl) (by kernel_rfl) c_heard c_may c_lift c_make (by kernel_rfl)
theorem rt3 : RdT Tryz.prog 3 Int := rdT_int Tryz.underlying3
theorem rt22 : RdT Tryz.prog 22 (List Int) := rdT_slice rt3 Tryz.underlying22 (by kernel_rfl) (by kernel_rfl)
set_option maxHeartbeats 4000000 in
set_option maxRecDepth 100000 in
theorem witnessDecides_holds : Rows.WitnessDecidesSaid := by
  refine law_holds 6 Tryz.f6 (tb := 4) rfl rfl rfl rfl rfl rfl rfl ⟨rfl, rfl, rfl, rfl, rfl⟩ rfl rfl rfl rfl rfl rfl rfl rfl rfl c_fn Tryz.func6 c_all
    (of_decide_eq_true (by kernel_rfl)) (by unfold Func.isWrapper; first | (rw [if_pos (by decide +kernel)]; kernel_rfl) | (rw [if_neg (by decide +kernel)]; exact ⟨rfl, rfl⟩)) (by kernel_rfl) (by kernel_rfl)
    ⟨rfl, fun H ds hd => ?_⟩ c_laid (by kernel_rfl) rfl Tryz.underlying4 (fun os started H enc => ChangeSpec.witness6 (enc := enc) (C := Tryz.checked) false ⟨#[], #[.slice none 0 0], []⟩ 30 (by kernel_rfl) (by kernel_rfl) (by kernel_rfl) (by kernel_rfl)) ?_
  · have hd : ds.length = 1 := hd
    match ds, hd with
    | [d0], _ => rfl
  · intro H enc W base args ds ps hval hA hw
    rw [Tryz.params6] at hA hw hval
    obtain ⟨v0, vs0, d0, ds0, p0, z0, hargs0, rfl, rfl, t0, hA0⟩ := trodAll_cons hA
    obtain ⟨e1, rfl, rfl⟩ := trodAll_nil hA0
    subst e1
    obtain rfl : args = #[v0] := by cases args; simp_all
    simp only [DataW.weightsEach, List.all_append, Bool.and_eq_true] at hw
    obtain ⟨w0, _⟩ := hw
    obtain ⟨x0, a0, k0, rfl, h0⟩ := arg_slice rt22 Tryz.underlying22 (hval 0 22 v0 rfl rfl) t0 w0
    exact ⟨_, Unit, _, _, (sepAll_p rfl h0 sepAll_n), fn6 x0 a0 k0 true (WitnessDecides_true x0)⟩
end Go.Proofs.YtbccjgpbflaibaaGreat
