/- LedgerAgrees of flqlaw23 holds: for every input the law answers true and leaves its arguments as they were. Conditions: none beyond the given row's own. -/
import Derived.Test.YtoifcmbbbngpoaaW4
import Derived.Test.YtoifcmbbbngpoaaRows
import Derived.Test.YtoifcmbbbngpoaaC0
import Derived.Test.YtoifcmbbbngpoaaC1
import Derived.Test.YtoifcmbbbngpoaaC2
import Derived.Test.YtoifcmbbbngpoaaC3
import Derived.Test.YtoifcmbbbngpoaaC4
import Derived.Test.YtoifcmbbbngpoaaC5
set_option linter.unusedVariables false
namespace Go.Proofs.Ytoifcmbbbngpoaa
open Go Go.SL Go.SL.G Go.WideShapes Go.ChangeShapes
set_option maxRecDepth 100000
set_option maxHeartbeats 4000000
theorem c_all : joinedFacts Try.pinned.checked.prog 3 Try.f3 Rows.ledgerAgreesSpec Rows.ledgerAgreesRow = true := joined_mk (by kernel_rfl) c_laid c_maps (by kernel_rfl) (by kernel_rfl) c_in c_unf c_rec c_named (by kernel_rfl) (by kernel_rfl) (by kernel_rfl) (by kernel_rfl) c_heard c_may c_lift c_make (by kernel_rfl)
theorem rt3 : RdT Try.prog 3 Int := rdT_int Try.underlying3
theorem rt22 : RdT Try.prog 22 (List Int) := rdT_slice rt3 Try.underlying22 (by kernel_rfl) (by kernel_rfl)
theorem rt4 : RdT Try.prog 4 Bool := rdT_bool Try.underlying4
theorem rt43 : RdT Try.prog 43 GTurn := ⟨by
  intro H enc w n cs x h hw
  obtain ⟨hl, hf⟩ := trod_struct_fields Try.underlying43 h hw
  rw [show Try.prog.cellsOf 43 = 5 by kernel_rfl] at hl
  obtain ⟨q0, q1, q2, q3, q4, rfl⟩ : ∃ q0 q1 q2 q3 q4, cs = [q0, q1, q2, q3, q4] := by
    match cs, hl with
    | [q0, q1, q2, q3, q4], _ => exact ⟨_, _, _, _, _, rfl⟩
  obtain ⟨m0, y0, t0, u0⟩ := hf 0 _ rfl
  have t0 : DataW.trod enc Try.prog w 0 (fun _ => true) true m0 3 (([q0, q1, q2, q3, q4].drop 0).take (Try.prog.cellsOf 3)) = some y0 := t0
  have u0 : (y0.1.weights Try.prog 3).all (· ≤ reachBytes) = true := u0
  rw [show Try.prog.cellsOf 3 = 1 by kernel_rfl] at t0
  have t0 : DataW.trod enc Try.prog w 0 (fun _ => true) true m0 3 [q0] = some y0 := t0
  obtain ⟨a0, r0⟩ := rt3.rd t0 u0
  obtain ⟨m1, y1, t1, u1⟩ := hf 1 _ rfl
  have t1 : DataW.trod enc Try.prog w 0 (fun _ => true) true m1 3 (([q0, q1, q2, q3, q4].drop 1).take (Try.prog.cellsOf 3)) = some y1 := t1
  have u1 : (y1.1.weights Try.prog 3).all (· ≤ reachBytes) = true := u1
  rw [show Try.prog.cellsOf 3 = 1 by kernel_rfl] at t1
  have t1 : DataW.trod enc Try.prog w 0 (fun _ => true) true m1 3 [q1] = some y1 := t1
  obtain ⟨a1, r1⟩ := rt3.rd t1 u1
  obtain ⟨m2, y2, t2, u2⟩ := hf 2 _ rfl
  have t2 : DataW.trod enc Try.prog w 0 (fun _ => true) true m2 3 (([q0, q1, q2, q3, q4].drop 2).take (Try.prog.cellsOf 3)) = some y2 := t2
  have u2 : (y2.1.weights Try.prog 3).all (· ≤ reachBytes) = true := u2
  rw [show Try.prog.cellsOf 3 = 1 by kernel_rfl] at t2
  have t2 : DataW.trod enc Try.prog w 0 (fun _ => true) true m2 3 [q2] = some y2 := t2
  obtain ⟨a2, r2⟩ := rt3.rd t2 u2
  obtain ⟨m3, y3, t3, u3⟩ := hf 3 _ rfl
  have t3 : DataW.trod enc Try.prog w 0 (fun _ => true) true m3 3 (([q0, q1, q2, q3, q4].drop 3).take (Try.prog.cellsOf 3)) = some y3 := t3
  have u3 : (y3.1.weights Try.prog 3).all (· ≤ reachBytes) = true := u3
  rw [show Try.prog.cellsOf 3 = 1 by kernel_rfl] at t3
  have t3 : DataW.trod enc Try.prog w 0 (fun _ => true) true m3 3 [q3] = some y3 := t3
  obtain ⟨a3, r3⟩ := rt3.rd t3 u3
  obtain ⟨m4, y4, t4, u4⟩ := hf 4 _ rfl
  have t4 : DataW.trod enc Try.prog w 0 (fun _ => true) true m4 4 (([q0, q1, q2, q3, q4].drop 4).take (Try.prog.cellsOf 4)) = some y4 := t4
  have u4 : (y4.1.weights Try.prog 4).all (· ≤ reachBytes) = true := u4
  rw [show Try.prog.cellsOf 4 = 1 by kernel_rfl] at t4
  have t4 : DataW.trod enc Try.prog w 0 (fun _ => true) true m4 4 [q4] = some y4 := t4
  obtain ⟨a4, r4⟩ := rt4.rd t4 u4
  obtain ⟨e, p1⟩ := r0
  cases e
  obtain ⟨e, p2⟩ := r1
  cases e
  obtain ⟨e, p3⟩ := r2
  cases e
  obtain ⟨e, p4⟩ := r3
  cases e
  have e := r4
  cases e
  exact ⟨⟨a0, a1, a2, a3, a4⟩, rfl, p1, p2, p3, p4⟩⟩
theorem rt23 : RdT Try.prog 23 (List GTurn) := rdT_slice rt43 Try.underlying23 (by kernel_rfl) (by kernel_rfl)
set_option maxHeartbeats 4000000 in
set_option maxRecDepth 100000 in
theorem ledgerAgrees_holds : Rows.LedgerAgreesSaid := by
  refine law_holds 3 Try.f3 (tb := 4) rfl rfl rfl rfl rfl rfl rfl ⟨rfl, rfl, rfl, rfl, rfl⟩ rfl rfl rfl rfl rfl rfl rfl rfl rfl c_fn Try.func3 c_all
    (of_decide_eq_true (by kernel_rfl)) (by unfold Func.isWrapper; first | (rw [if_pos (by decide +kernel)]; kernel_rfl) | (rw [if_neg (by decide +kernel)]; exact ⟨rfl, rfl⟩)) (by kernel_rfl) (by kernel_rfl)
    ⟨rfl, fun H ds hd => ?_⟩ c_laid (by kernel_rfl) rfl Try.underlying4 (fun os started H enc => ChangeSpec.witness6 (enc := enc) (C := Try.checked) false ⟨#[], #[.slice none 0 0, .slice none 0 0, vi 0, vi 0], []⟩ 30 (by kernel_rfl) (by kernel_rfl) (by kernel_rfl) (by kernel_rfl)) ?_
  · have hd : ds.length = 4 := hd
    match ds, hd with
    | [d0, d1, d2, d3], _ => rfl
  · intro H enc W base args ds ps hval hA hw
    rw [Try.params3] at hA hw hval
    obtain ⟨v0, vs0, d0, ds0, p0, z0, hargs0, rfl, rfl, t0, hA0⟩ := trodAll_cons hA
    obtain ⟨v1, vs1, d1, ds1, p1, z1, hargs1, rfl, rfl, t1, hA1⟩ := trodAll_cons hA0
    obtain ⟨v2, vs2, d2, ds2, p2, z2, hargs2, rfl, rfl, t2, hA2⟩ := trodAll_cons hA1
    obtain ⟨v3, vs3, d3, ds3, p3, z3, hargs3, rfl, rfl, t3, hA3⟩ := trodAll_cons hA2
    obtain ⟨e1, rfl, rfl⟩ := trodAll_nil hA3
    subst e1
    subst hargs3
    subst hargs2
    subst hargs1
    obtain rfl : args = #[v0, v1, v2, v3] := by cases args; simp_all
    simp only [DataW.weightsEach, List.all_append, Bool.and_eq_true] at hw
    obtain ⟨w0, w1, w2, w3, _⟩ := hw
    obtain ⟨x0, a0, k0, rfl, h0⟩ := arg_slice rt22 Try.underlying22 (hval 0 22 v0 rfl rfl) t0 w0
    obtain ⟨x1, a1, k1, rfl, h1⟩ := arg_slice rt23 Try.underlying23 (hval 1 23 v1 rfl rfl) t1 w1
    obtain ⟨x2, rfl, h2⟩ := arg_int Try.underlying3 (hval 2 3 v2 rfl rfl) t2 w2
    obtain ⟨x3, rfl, h3⟩ := arg_int Try.underlying3 (hval 3 3 v3 rfl rfl) t3 w3
    exact ⟨_, Unit, _, _, (sepAll_p rfl h0 (sepAll_p rfl h1 sepAll_n)), fn3 x0 a0 k0 x1 a1 k1 x2 x3 h2 h3 true (LedgerAgrees_true x0 x1 x2 x3)⟩
end Go.Proofs.Ytoifcmbbbngpoaa
