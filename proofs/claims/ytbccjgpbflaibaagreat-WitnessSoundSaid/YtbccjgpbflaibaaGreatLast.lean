/- WitnessSound of flqlaw16 holds: for every input the law answers true and leaves its arguments as they were. Conditions: none beyond the given row's own. -/
import Derived.Test.YtbccjgpbflaibaaGreatW5
import Derived.Test.YtbccjgpbflaibaaGreatRows
import Derived.Test.YtbccjgpbflaibaaGreatC0
import Derived.Test.YtbccjgpbflaibaaGreatC1
import Derived.Test.YtbccjgpbflaibaaGreatC2
import Derived.Test.YtbccjgpbflaibaaGreatC3
import Derived.Test.YtbccjgpbflaibaaGreatC4
import Derived.Test.YtbccjgpbflaibaaGreatC5
set_option linter.unusedVariables false
namespace Go.Proofs.YtbccjgpbflaibaaGreat
open Go Go.SL Go.SL.G Go.WideShapes Go.ChangeShapes
set_option maxRecDepth 100000
set_option maxHeartbeats 4000000
theorem c_all : joinedFacts Tryz.pinned.checked.prog 4 Tryz.f4 Rows.witnessSoundSpec Rows.witnessSoundRow = true := joined_mk (by kernel_rfl) c_laid c_maps (by kernel_rfl) (by kernel_rfl) c_in c_unf c_rec c_named (by kernel_rfl) (by kernel_rfl) (by kernel_rfl) (by kernel_rfl) c_heard c_may c_lift c_make (by kernel_rfl)
theorem rt3 : RdT Tryz.prog 3 Int := rdT_int Tryz.underlying3
theorem rt22 : RdT Tryz.prog 22 (List Int) := rdT_slice rt3 Tryz.underlying22 (by kernel_rfl) (by kernel_rfl)
theorem rt37 : RdT Tryz.prog 37 GHop := ⟨by
  intro H enc w n cs x h hw
  obtain ⟨hl, hf⟩ := trod_struct_fields Tryz.underlying37 h hw
  rw [show Tryz.prog.cellsOf 37 = 2 by kernel_rfl] at hl
  obtain ⟨q0, q1, rfl⟩ : ∃ q0 q1, cs = [q0, q1] := by
    match cs, hl with
    | [q0, q1], _ => exact ⟨_, _, rfl⟩
  obtain ⟨m0, y0, t0, u0⟩ := hf 0 _ rfl
  have t0 : DataW.trod enc Tryz.prog w 0 (fun _ => true) true m0 3 (([q0, q1].drop 0).take (Tryz.prog.cellsOf 3)) = some y0 := t0
  have u0 : (y0.1.weights Tryz.prog 3).all (· ≤ reachBytes) = true := u0
  rw [show Tryz.prog.cellsOf 3 = 1 by kernel_rfl] at t0
  have t0 : DataW.trod enc Tryz.prog w 0 (fun _ => true) true m0 3 [q0] = some y0 := t0
  obtain ⟨a0, r0⟩ := rt3.rd t0 u0
  obtain ⟨m1, y1, t1, u1⟩ := hf 1 _ rfl
  have t1 : DataW.trod enc Tryz.prog w 0 (fun _ => true) true m1 3 (([q0, q1].drop 1).take (Tryz.prog.cellsOf 3)) = some y1 := t1
  have u1 : (y1.1.weights Tryz.prog 3).all (· ≤ reachBytes) = true := u1
  rw [show Tryz.prog.cellsOf 3 = 1 by kernel_rfl] at t1
  have t1 : DataW.trod enc Tryz.prog w 0 (fun _ => true) true m1 3 [q1] = some y1 := t1
  obtain ⟨a1, r1⟩ := rt3.rd t1 u1
  obtain ⟨e, p1⟩ := r0
  cases e
  obtain ⟨e, p2⟩ := r1
  cases e
  exact ⟨⟨a0, a1⟩, rfl, p1, p2⟩⟩
theorem rt28 : RdT Tryz.prog 28 (List GHop) := rdT_slice rt37 Tryz.underlying28 (by kernel_rfl) (by kernel_rfl)
set_option maxHeartbeats 4000000 in
set_option maxRecDepth 100000 in
theorem witnessSound_holds : Rows.WitnessSoundSaid := by
  refine law_holds 4 Tryz.f4 (tb := 4) rfl rfl rfl rfl rfl rfl rfl ⟨rfl, rfl, rfl, rfl, rfl⟩ rfl rfl rfl rfl rfl rfl rfl rfl rfl c_fn Tryz.func4 c_all
    (of_decide_eq_true (by kernel_rfl)) (by unfold Func.isWrapper; first | (rw [if_pos (by decide +kernel)]; kernel_rfl) | (rw [if_neg (by decide +kernel)]; exact ⟨rfl, rfl⟩)) (by kernel_rfl) (by kernel_rfl)
    ⟨rfl, fun H ds hd => ?_⟩ c_laid (by kernel_rfl) rfl Tryz.underlying4 (fun os started H enc => ChangeSpec.witness6 (enc := enc) (C := Tryz.checked) false ⟨#[], #[.slice none 0 0, .slice none 0 0], []⟩ 30 (by kernel_rfl) (by kernel_rfl) (by kernel_rfl) (by kernel_rfl)) ?_
  · have hd : ds.length = 2 := hd
    match ds, hd with
    | [d0, d1], _ => rfl
  · intro H enc W base args ds ps hval hA hw
    rw [Tryz.params4] at hA hw hval
    obtain ⟨v0, vs0, d0, ds0, p0, z0, hargs0, rfl, rfl, t0, hA0⟩ := trodAll_cons hA
    obtain ⟨v1, vs1, d1, ds1, p1, z1, hargs1, rfl, rfl, t1, hA1⟩ := trodAll_cons hA0
    obtain ⟨e1, rfl, rfl⟩ := trodAll_nil hA1
    subst e1
    subst hargs1
    obtain rfl : args = #[v0, v1] := by cases args; simp_all
    simp only [DataW.weightsEach, List.all_append, Bool.and_eq_true] at hw
    obtain ⟨w0, w1, _⟩ := hw
    obtain ⟨x0, a0, k0, rfl, h0⟩ := arg_slice rt22 Tryz.underlying22 (hval 0 22 v0 rfl rfl) t0 w0
    obtain ⟨x1, a1, k1, rfl, h1⟩ := arg_slice rt28 Tryz.underlying28 (hval 1 28 v1 rfl rfl) t1 w1
    exact ⟨_, Unit, _, _, (sepAll_p rfl h0 (sepAll_p rfl h1 sepAll_n)), fn4 x0 a0 k0 x1 a1 k1 true (WitnessSound_true x0 x1)⟩
end Go.Proofs.YtbccjgpbflaibaaGreat
