/- WitnessFinds of flqlaw16 holds: for every input the law answers true and leaves its arguments as they were. Conditions: none beyond the given row's own. -/
import Derived.Test.YtbccjgpbflaibaaGreatW6
import Derived.Test.YtbccjgpbflaibaaGreatRows
import Derived.Test.YtbccjgpbflaibaaGreatC0
import Derived.Test.YtbccjgpbflaibaaGreatC1
import Derived.Test.YtbccjgpbflaibaaGreatC2
import Derived.Test.YtbccjgpbflaibaaGreatC3
import Derived.Test.YtbccjgpbflaibaaGreatC4
import Derived.Test.YtbccjgpbflaibaaGreatC5
set_option linter.unusedVariables false
namespace Go.Proofs.YtbccjgpbflaibaaGreat
open Go Go.SL Go.SL.G Go.WideShapes Go.ChangeShapes
set_option maxRecDepth 100000
set_option maxHeartbeats 4000000
theorem c_all : joinedFacts Tryz.pinned.checked.prog 5 Tryz.f5 Rows.witnessFindsSpec Rows.witnessFindsRow = true := QqQ (by kernel_rfl) c_laid c_maps (by kernel_rfl) (by kernel_rfl) c_in c_unf c_rec c_named (by kernel_rfl) (by kernel_rfl) (by kernel_rfl) (by kernel_rfl) c_heard c_may c_lift c_make (by kernel_rfl)
theorem rt3 : RdT Tryz.prog 3 Int := Qru Tryz.underlying3
theorem rt22 : RdT Tryz.prog 22 (List Int) := Qhx rt3 Tryz.underlying22 (by kernel_rfl) (by kernel_rfl)
theorem rt23 : RdT Tryz.prog 23 (List (List Int)) := Qhx rt22 Tryz.underlying23 (by kernel_rfl) (by kernel_rfl)
theorem rt91 : RdT Tryz.prog 91 (BitVec 64) := Quv Tryz.underlying91
theorem rt40 : RdT Tryz.prog 40 (List (BitVec 64)) := Qhx rt91 Tryz.underlying40 (by kernel_rfl) (by kernel_rfl)
theorem rt42 : RdT Tryz.prog 42 Qaf := ⟨by
  intro H enc w n cs x h hw
  obtain ⟨hl, hf⟩ := QdY Tryz.underlying42 h hw
  rw [show Tryz.prog.cellsOf 42 = 2 by kernel_rfl] at hl
  obtain ⟨q0, q1, rfl⟩ : ∃ q0 q1, cs = [q0, q1] := by
    match cs, hl with
    | [q0, q1], _ => exact ⟨_, _, rfl⟩
  obtain ⟨m0, y0, t0, u0⟩ := hf 0 _ rfl
  have t0 : DataW.trod enc Tryz.prog w 0 (fun _ => true) true m0 3 (([q0, q1].drop 0).take (Tryz.prog.cellsOf 3)) = some y0 := t0
  have u0 : (y0.1.weights Tryz.prog 3).all (· ≤ reachBytes) = true := u0
  rw [show Tryz.prog.cellsOf 3 = 1 by kernel_rfl] at t0
  have t0 : DataW.trod enc Tryz.prog w 0 (fun _ => true) true m0 3 [q0] = some y0 := t0
  obtain ⟨a0, r0⟩ := rt3.rd t0 u0
  obtain ⟨m1, y1, t1, u1⟩ := hf 1 _ rfl
  have t1 : DataW.trod enc Tryz.prog w 0 (fun _ => true) true m1 40 (([q0, q1].drop 1).take (Tryz.prog.cellsOf 40)) = some y1 := t1
  have u1 : (y1.1.weights Tryz.prog 40).all (· ≤ reachBytes) = true := u1
  rw [show Tryz.prog.cellsOf 40 = 1 by kernel_rfl] at t1
  have t1 : DataW.trod enc Tryz.prog w 0 (fun _ => true) true m1 40 [q1] = some y1 := t1
  obtain ⟨a1, r1⟩ := rt40.rd t1 u1
  obtain ⟨e, p1⟩ := r0
  cases e
  obtain ⟨c2, e, p2⟩ := r1
  cases e
  exact ⟨⟨a0, a1⟩, _, rfl, p1, p2⟩⟩
theorem rt105 : RdT Tryz.prog 105 QaB := ⟨by
  intro H enc w n cs x h hw
  obtain ⟨hl, hf⟩ := QdY Tryz.underlying105 h hw
  rw [show Tryz.prog.cellsOf 105 = 2 by kernel_rfl] at hl
  obtain ⟨q0, q1, rfl⟩ : ∃ q0 q1, cs = [q0, q1] := by
    match cs, hl with
    | [q0, q1], _ => exact ⟨_, _, rfl⟩
  obtain ⟨m0, y0, t0, u0⟩ := hf 0 _ rfl
  have t0 : DataW.trod enc Tryz.prog w 0 (fun _ => true) true m0 3 (([q0, q1].drop 0).take (Tryz.prog.cellsOf 3)) = some y0 := t0
  have u0 : (y0.1.weights Tryz.prog 3).all (· ≤ reachBytes) = true := u0
  rw [show Tryz.prog.cellsOf 3 = 1 by kernel_rfl] at t0
  have t0 : DataW.trod enc Tryz.prog w 0 (fun _ => true) true m0 3 [q0] = some y0 := t0
  obtain ⟨a0, r0⟩ := rt3.rd t0 u0
  obtain ⟨m1, y1, t1, u1⟩ := hf 1 _ rfl
  have t1 : DataW.trod enc Tryz.prog w 0 (fun _ => true) true m1 3 (([q0, q1].drop 1).take (Tryz.prog.cellsOf 3)) = some y1 := t1
  have u1 : (y1.1.weights Tryz.prog 3).all (· ≤ reachBytes) = true := u1
  rw [show Tryz.prog.cellsOf 3 = 1 by kernel_rfl] at t1
  have t1 : DataW.trod enc Tryz.prog w 0 (fun _ => true) true m1 3 [q1] = some y1 := t1
  obtain ⟨a1, r1⟩ := rt3.rd t1 u1
  obtain ⟨e, p1⟩ := r0
  cases e
  obtain ⟨e, p2⟩ := r1
  cases e
  exact ⟨⟨a0, a1⟩, rfl, p1, p2⟩⟩
theorem rt63 : RdT Tryz.prog 63 (List QaB) := Qhx rt105 Tryz.underlying63 (by kernel_rfl) (by kernel_rfl)
theorem rt65 : RdT Tryz.prog 65 Qad := ⟨by
  intro H enc w n cs x h hw
  obtain ⟨hl, hf⟩ := QdY Tryz.underlying65 h hw
  rw [show Tryz.prog.cellsOf 65 = 5 by kernel_rfl] at hl
  obtain ⟨q0, q1, q2, q3, q4, rfl⟩ : ∃ q0 q1 q2 q3 q4, cs = [q0, q1, q2, q3, q4] := by
    match cs, hl with
    | [q0, q1, q2, q3, q4], _ => exact ⟨_, _, _, _, _, rfl⟩
  obtain ⟨m0, y0, t0, u0⟩ := hf 0 _ rfl
  have t0 : DataW.trod enc Tryz.prog w 0 (fun _ => true) true m0 42 (([q0, q1, q2, q3, q4].drop 0).take (Tryz.prog.cellsOf 42)) = some y0 := t0
  have u0 : (y0.1.weights Tryz.prog 42).all (· ≤ reachBytes) = true := u0
  rw [show Tryz.prog.cellsOf 42 = 2 by kernel_rfl] at t0
  have t0 : DataW.trod enc Tryz.prog w 0 (fun _ => true) true m0 42 [q0, q1] = some y0 := t0
  obtain ⟨a0, r0⟩ := rt42.rd t0 u0
  obtain ⟨m1, y1, t1, u1⟩ := hf 1 _ rfl
  have t1 : DataW.trod enc Tryz.prog w 0 (fun _ => true) true m1 42 (([q0, q1, q2, q3, q4].drop 2).take (Tryz.prog.cellsOf 42)) = some y1 := t1
  have u1 : (y1.1.weights Tryz.prog 42).all (· ≤ reachBytes) = true := u1
  rw [show Tryz.prog.cellsOf 42 = 2 by kernel_rfl] at t1
  have t1 : DataW.trod enc Tryz.prog w 0 (fun _ => true) true m1 42 [q2, q3] = some y1 := t1
  obtain ⟨a1, r1⟩ := rt42.rd t1 u1
  obtain ⟨m2, y2, t2, u2⟩ := hf 2 _ rfl
  have t2 : DataW.trod enc Tryz.prog w 0 (fun _ => true) true m2 63 (([q0, q1, q2, q3, q4].drop 4).take (Tryz.prog.cellsOf 63)) = some y2 := t2
  have u2 : (y2.1.weights Tryz.prog 63).all (· ≤ reachBytes) = true := u2
  rw [show Tryz.prog.cellsOf 63 = 1 by kernel_rfl] at t2
  have t2 : DataW.trod enc Tryz.prog w 0 (fun _ => true) true m2 63 [q4] = some y2 := t2
  obtain ⟨a2, r2⟩ := rt63.rd t2 u2
  obtain ⟨c2, e, p1, p2⟩ := r0
  cases e
  obtain ⟨c4, e, p3, p4⟩ := r1
  cases e
  obtain ⟨c5, e, p5⟩ := r2
  cases e
  exact ⟨⟨a0, a1, a2⟩, _, _, _, rfl, p1, p2, p3, p4, p5⟩⟩
theorem rt24 : RdT Tryz.prog 24 (List Qad) := Qhx rt65 Tryz.underlying24 (by kernel_rfl) (by kernel_rfl)
theorem rt25 : RdT Tryz.prog 25 (List Qaf) := Qhx rt42 Tryz.underlying25 (by kernel_rfl) (by kernel_rfl)
theorem rt27 : RdT Tryz.prog 27 Qab := ⟨by
  intro H enc w n cs x h hw
  obtain ⟨hl, hf⟩ := QdY Tryz.underlying27 h hw
  rw [show Tryz.prog.cellsOf 27 = 4 by kernel_rfl] at hl
  obtain ⟨q0, q1, q2, q3, rfl⟩ : ∃ q0 q1 q2 q3, cs = [q0, q1, q2, q3] := by
    match cs, hl with
    | [q0, q1, q2, q3], _ => exact ⟨_, _, _, _, rfl⟩
  obtain ⟨m0, y0, t0, u0⟩ := hf 0 _ rfl
  have t0 : DataW.trod enc Tryz.prog w 0 (fun _ => true) true m0 3 (([q0, q1, q2, q3].drop 0).take (Tryz.prog.cellsOf 3)) = some y0 := t0
  have u0 : (y0.1.weights Tryz.prog 3).all (· ≤ reachBytes) = true := u0
  rw [show Tryz.prog.cellsOf 3 = 1 by kernel_rfl] at t0
  have t0 : DataW.trod enc Tryz.prog w 0 (fun _ => true) true m0 3 [q0] = some y0 := t0
  obtain ⟨a0, r0⟩ := rt3.rd t0 u0
  obtain ⟨m1, y1, t1, u1⟩ := hf 1 _ rfl
  have t1 : DataW.trod enc Tryz.prog w 0 (fun _ => true) true m1 23 (([q0, q1, q2, q3].drop 1).take (Tryz.prog.cellsOf 23)) = some y1 := t1
  have u1 : (y1.1.weights Tryz.prog 23).all (· ≤ reachBytes) = true := u1
  rw [show Tryz.prog.cellsOf 23 = 1 by kernel_rfl] at t1
  have t1 : DataW.trod enc Tryz.prog w 0 (fun _ => true) true m1 23 [q1] = some y1 := t1
  obtain ⟨a1, r1⟩ := rt23.rd t1 u1
  obtain ⟨m2, y2, t2, u2⟩ := hf 2 _ rfl
  have t2 : DataW.trod enc Tryz.prog w 0 (fun _ => true) true m2 24 (([q0, q1, q2, q3].drop 2).take (Tryz.prog.cellsOf 24)) = some y2 := t2
  have u2 : (y2.1.weights Tryz.prog 24).all (· ≤ reachBytes) = true := u2
  rw [show Tryz.prog.cellsOf 24 = 1 by kernel_rfl] at t2
  have t2 : DataW.trod enc Tryz.prog w 0 (fun _ => true) true m2 24 [q2] = some y2 := t2
  obtain ⟨a2, r2⟩ := rt24.rd t2 u2
  obtain ⟨m3, y3, t3, u3⟩ := hf 3 _ rfl
  have t3 : DataW.trod enc Tryz.prog w 0 (fun _ => true) true m3 25 (([q0, q1, q2, q3].drop 3).take (Tryz.prog.cellsOf 25)) = some y3 := t3
  have u3 : (y3.1.weights Tryz.prog 25).all (· ≤ reachBytes) = true := u3
  rw [show Tryz.prog.cellsOf 25 = 1 by kernel_rfl] at t3
  have t3 : DataW.trod enc Tryz.prog w 0 (fun _ => true) true m3 25 [q3] = some y3 := t3
  obtain ⟨a3, r3⟩ := rt25.rd t3 u3
  obtain ⟨e, p1⟩ := r0
  cases e
  obtain ⟨c2, e, p2⟩ := r1
  cases e
  obtain ⟨c3, e, p3⟩ := r2
  cases e
  obtain ⟨c4, e, p4⟩ := r3
  cases e
  exact ⟨⟨a0, a1, a2, a3⟩, _, _, _, rfl, p1, p2, p3, p4⟩⟩
set_option maxHeartbeats 4000000 in
set_option maxRecDepth 100000 in
theorem witnessFinds_holds : Rows.WitnessFindsSaid := by
  refine Qq1 5 Tryz.f5 (tb := 4) rfl rfl rfl rfl rfl rfl rfl ⟨rfl, rfl, rfl, rfl, rfl⟩ rfl rfl rfl rfl rfl rfl rfl rfl rfl c_fn Tryz.func5 c_all
    (of_decide_eq_true (by kernel_rfl)) (by unfold Func.isWrapper; first | (rw [if_pos (by decide +kernel)]; kernel_rfl) | (rw [if_neg (by decide +kernel)]; exact ⟨rfl, rfl⟩)) (by kernel_rfl) (by kernel_rfl)
    ⟨rfl, fun H ds hd => ?_⟩ c_laid (by kernel_rfl) rfl Tryz.underlying4 (fun os started H enc => ChangeSpec.witness6 (enc := enc) (C := Tryz.checked) false ⟨#[], #[.slice none 0 0, .agg #[vi 0, .slice none 0 0, .slice none 0 0, .slice none 0 0], vi 0, vi 0], []⟩ 30 (by kernel_rfl) (by kernel_rfl) (by kernel_rfl) (by kernel_rfl)) ?_
  · have hd : ds.length = 4 := hd
    match ds, hd with
    | [d0, d1, d2, d3], _ => rfl
  · intro H enc W base args ds ps hval hA hw
    rw [Tryz.params5] at hA hw hval
    obtain ⟨v0, vs0, d0, ds0, p0, z0, hargs0, rfl, rfl, t0, hA0⟩ := trodAll_cons hA
    obtain ⟨v1, vs1, d1, ds1, p1, z1, hargs1, rfl, rfl, t1, hA1⟩ := trodAll_cons hA0
    obtain ⟨v2, vs2, d2, ds2, p2, z2, hargs2, rfl, rfl, t2, hA2⟩ := trodAll_cons hA1
    obtain ⟨v3, vs3, d3, ds3, p3, z3, hargs3, rfl, rfl, t3, hA3⟩ := trodAll_cons hA2
    obtain ⟨e1, rfl, rfl⟩ := trodAll_nil hA3
    subst e1
    subst hargs3
    subst hargs2
    subst hargs1
    obtain rfl : args = #[v0, v1, v2, v3] := by cases args; simp_all
    simp only [DataW.weightsEach, List.all_append, Bool.and_eq_true] at hw
    obtain ⟨w0, w1, w2, w3, _⟩ := hw
    obtain ⟨x0, a0, k0, rfl, h0⟩ := Qr3 rt22 Tryz.underlying22 (hval 0 22 v0 rfl rfl) t0 w0
    obtain ⟨x1, cs1, rfl, r1⟩ := Qqs rt27 Tryz.underlying27 (hval 1 27 v1 rfl rfl) t1 w1
    obtain ⟨QCU, QCV, QCW, rfl, QCG, QCH, QCI, QCJ⟩ := r1
    obtain ⟨QCK, QCL, rfl, QCM⟩ := Qlv QCH
    obtain ⟨QCN, QCO, rfl, QCP⟩ := Qlv QCI
    obtain ⟨QCQ, QCR, rfl, QCS⟩ := Qlv QCJ
    obtain ⟨x2, rfl, h2⟩ := Qrv Tryz.underlying3 (hval 2 3 v2 rfl rfl) t2 w2
    obtain ⟨x3, rfl, h3⟩ := Qrv Tryz.underlying3 (hval 3 3 v3 rfl rfl) t3 w3
    exact ⟨_, Unit, _, _, (Qlh rfl h0 (Qlh rfl QCM (Qlh rfl QCP (Qlh rfl QCS Qtn)))), fn5 x0 a0 k0 x1 QCK QCL QCN QCO QCQ QCR x2 x3 QCG h2 h3 true (QkE x0 x1 x2 x3)⟩
end Go.Proofs.YtbccjgpbflaibaaGreat
