/- ResumeEncodes of flqlaw18 holds: for every input the law answers true and leaves its arguments as they were. Conditions: none beyond the given row's own. -/
import Derived.Test.YtodlobcpbdkjpaaGreatDoorW4
import Derived.Test.YtodlobcpbdkjpaaGreatDoorRows
import Derived.Test.YtodlobcpbdkjpaaGreatDoorTie
import Derived.Test.YtodlobcpbdkjpaaGreatDoorCards
import Derived.SevenTiedAt
import Derived.Test.YtodlobcpbdkjpaaGreatDoorC0
import Derived.Test.YtodlobcpbdkjpaaGreatDoorC1
import Derived.Test.YtodlobcpbdkjpaaGreatDoorC2
import Derived.Test.YtodlobcpbdkjpaaGreatDoorC3
import Derived.Test.YtodlobcpbdkjpaaGreatDoorC4
import Derived.Test.YtodlobcpbdkjpaaGreatDoorC5
set_option linter.unusedVariables false
namespace Go.Proofs.YtodlobcpbdkjpaaGreatDoor
open Go Go.SL Go.SL.G Go.WideShapes Go.ChangeShapes
set_option maxRecDepth 100000
set_option maxHeartbeats 4000000
theorem c_all : joinedFacts Tryz.pinned.checked.prog 3 Tryz.f3 Rows.resumeEncodesSpec Rows.resumeEncodesRow = true := joined_mk (by kernel_rfl) c_laid c_maps (by kernel_rfl) (by kernel_rfl) c_in c_unf c_rec c_named (by kernel_rfl) (by kernel_rfl) (by kernel_rfl) (by kernel_rfl) c_heard c_may c_lift c_make (by kernel_rfl)
theorem rt3 : RdT Tryz.prog 3 Int := rdT_int Tryz.underlying3
theorem rt22 : RdT Tryz.prog 22 (List Int) := rdT_slice rt3 Tryz.underlying22 (by kernel_rfl) (by kernel_rfl)
theorem rt4 : RdT Tryz.prog 4 Bool := rdT_bool Tryz.underlying4
theorem rt23 : RdT Tryz.prog 23 (List Bool) := rdT_slice rt4 Tryz.underlying23 (by kernel_rfl) (by kernel_rfl)
theorem rt68 : RdT Tryz.prog 68 (BitVec 64) := rdT_u64 Tryz.underlying68
theorem rt37 : RdT Tryz.prog 37 (List (BitVec 64)) := rdT_slice rt68 Tryz.underlying37 (by kernel_rfl) (by kernel_rfl)
theorem rt39 : RdT Tryz.prog 39 GSet := ⟨by
  intro H enc w n cs x h hw
  obtain ⟨hl, hf⟩ := trod_struct_fields Tryz.underlying39 h hw
  rw [show Tryz.prog.cellsOf 39 = 2 by kernel_rfl] at hl
  obtain ⟨q0, q1, rfl⟩ : ∃ q0 q1, cs = [q0, q1] := by
    match cs, hl with
    | [q0, q1], _ => exact ⟨_, _, rfl⟩
  obtain ⟨m0, y0, t0, u0⟩ := hf 0 _ rfl
  have t0 : DataW.trod enc Tryz.prog w 0 (fun _ => true) true m0 3 (([q0, q1].drop 0).take (Tryz.prog.cellsOf 3)) = some y0 := t0
  have u0 : (y0.1.weights Tryz.prog 3).all (· ≤ reachBytes) = true := u0
  rw [show Tryz.prog.cellsOf 3 = 1 by kernel_rfl] at t0
  have t0 : DataW.trod enc Tryz.prog w 0 (fun _ => true) true m0 3 [q0] = some y0 := t0
  obtain ⟨a0, r0⟩ := rt3.rd t0 u0
  obtain ⟨m1, y1, t1, u1⟩ := hf 1 _ rfl
  have t1 : DataW.trod enc Tryz.prog w 0 (fun _ => true) true m1 37 (([q0, q1].drop 1).take (Tryz.prog.cellsOf 37)) = some y1 := t1
  have u1 : (y1.1.weights Tryz.prog 37).all (· ≤ reachBytes) = true := u1
  rw [show Tryz.prog.cellsOf 37 = 1 by kernel_rfl] at t1
  have t1 : DataW.trod enc Tryz.prog w 0 (fun _ => true) true m1 37 [q1] = some y1 := t1
  obtain ⟨a1, r1⟩ := rt37.rd t1 u1
  obtain ⟨e, p1⟩ := r0
  cases e
  obtain ⟨c2, e, p2⟩ := r1
  cases e
  exact ⟨⟨a0, a1⟩, _, rfl, p1, p2⟩⟩
theorem rt24 : RdT Tryz.prog 24 (List GSet) := rdT_slice rt39 Tryz.underlying24 (by kernel_rfl) (by kernel_rfl)
theorem rt26 : RdT Tryz.prog 26 GState := ⟨by
  intro H enc w n cs x h hw
  obtain ⟨hl, hf⟩ := trod_struct_fields Tryz.underlying26 h hw
  rw [show Tryz.prog.cellsOf 26 = 8 by kernel_rfl] at hl
  obtain ⟨q0, q1, q2, q3, q4, q5, q6, q7, rfl⟩ : ∃ q0 q1 q2 q3 q4 q5 q6 q7, cs = [q0, q1, q2, q3, q4, q5, q6, q7] := by
    match cs, hl with
    | [q0, q1, q2, q3, q4, q5, q6, q7], _ => exact ⟨_, _, _, _, _, _, _, _, rfl⟩
  obtain ⟨m0, y0, t0, u0⟩ := hf 0 _ rfl
  have t0 : DataW.trod enc Tryz.prog w 0 (fun _ => true) true m0 3 (([q0, q1, q2, q3, q4, q5, q6, q7].drop 0).take (Tryz.prog.cellsOf 3)) = some y0 := t0
  have u0 : (y0.1.weights Tryz.prog 3).all (· ≤ reachBytes) = true := u0
  rw [show Tryz.prog.cellsOf 3 = 1 by kernel_rfl] at t0
  have t0 : DataW.trod enc Tryz.prog w 0 (fun _ => true) true m0 3 [q0] = some y0 := t0
  obtain ⟨a0, r0⟩ := rt3.rd t0 u0
  obtain ⟨m1, y1, t1, u1⟩ := hf 1 _ rfl
  have t1 : DataW.trod enc Tryz.prog w 0 (fun _ => true) true m1 22 (([q0, q1, q2, q3, q4, q5, q6, q7].drop 1).take (Tryz.prog.cellsOf 22)) = some y1 := t1
  have u1 : (y1.1.weights Tryz.prog 22).all (· ≤ reachBytes) = true := u1
  rw [show Tryz.prog.cellsOf 22 = 1 by kernel_rfl] at t1
  have t1 : DataW.trod enc Tryz.prog w 0 (fun _ => true) true m1 22 [q1] = some y1 := t1
  obtain ⟨a1, r1⟩ := rt22.rd t1 u1
  obtain ⟨m2, y2, t2, u2⟩ := hf 2 _ rfl
  have t2 : DataW.trod enc Tryz.prog w 0 (fun _ => true) true m2 23 (([q0, q1, q2, q3, q4, q5, q6, q7].drop 2).take (Tryz.prog.cellsOf 23)) = some y2 := t2
  have u2 : (y2.1.weights Tryz.prog 23).all (· ≤ reachBytes) = true := u2
  rw [show Tryz.prog.cellsOf 23 = 1 by kernel_rfl] at t2
  have t2 : DataW.trod enc Tryz.prog w 0 (fun _ => true) true m2 23 [q2] = some y2 := t2
  obtain ⟨a2, r2⟩ := rt23.rd t2 u2
  obtain ⟨m3, y3, t3, u3⟩ := hf 3 _ rfl
  have t3 : DataW.trod enc Tryz.prog w 0 (fun _ => true) true m3 3 (([q0, q1, q2, q3, q4, q5, q6, q7].drop 3).take (Tryz.prog.cellsOf 3)) = some y3 := t3
  have u3 : (y3.1.weights Tryz.prog 3).all (· ≤ reachBytes) = true := u3
  rw [show Tryz.prog.cellsOf 3 = 1 by kernel_rfl] at t3
  have t3 : DataW.trod enc Tryz.prog w 0 (fun _ => true) true m3 3 [q3] = some y3 := t3
  obtain ⟨a3, r3⟩ := rt3.rd t3 u3
  obtain ⟨m4, y4, t4, u4⟩ := hf 4 _ rfl
  have t4 : DataW.trod enc Tryz.prog w 0 (fun _ => true) true m4 3 (([q0, q1, q2, q3, q4, q5, q6, q7].drop 4).take (Tryz.prog.cellsOf 3)) = some y4 := t4
  have u4 : (y4.1.weights Tryz.prog 3).all (· ≤ reachBytes) = true := u4
  rw [show Tryz.prog.cellsOf 3 = 1 by kernel_rfl] at t4
  have t4 : DataW.trod enc Tryz.prog w 0 (fun _ => true) true m4 3 [q4] = some y4 := t4
  obtain ⟨a4, r4⟩ := rt3.rd t4 u4
  obtain ⟨m5, y5, t5, u5⟩ := hf 5 _ rfl
  have t5 : DataW.trod enc Tryz.prog w 0 (fun _ => true) true m5 24 (([q0, q1, q2, q3, q4, q5, q6, q7].drop 5).take (Tryz.prog.cellsOf 24)) = some y5 := t5
  have u5 : (y5.1.weights Tryz.prog 24).all (· ≤ reachBytes) = true := u5
  rw [show Tryz.prog.cellsOf 24 = 1 by kernel_rfl] at t5
  have t5 : DataW.trod enc Tryz.prog w 0 (fun _ => true) true m5 24 [q5] = some y5 := t5
  obtain ⟨a5, r5⟩ := rt24.rd t5 u5
  obtain ⟨m6, y6, t6, u6⟩ := hf 6 _ rfl
  have t6 : DataW.trod enc Tryz.prog w 0 (fun _ => true) true m6 22 (([q0, q1, q2, q3, q4, q5, q6, q7].drop 6).take (Tryz.prog.cellsOf 22)) = some y6 := t6
  have u6 : (y6.1.weights Tryz.prog 22).all (· ≤ reachBytes) = true := u6
  rw [show Tryz.prog.cellsOf 22 = 1 by kernel_rfl] at t6
  have t6 : DataW.trod enc Tryz.prog w 0 (fun _ => true) true m6 22 [q6] = some y6 := t6
  obtain ⟨a6, r6⟩ := rt22.rd t6 u6
  obtain ⟨m7, y7, t7, u7⟩ := hf 7 _ rfl
  have t7 : DataW.trod enc Tryz.prog w 0 (fun _ => true) true m7 3 (([q0, q1, q2, q3, q4, q5, q6, q7].drop 7).take (Tryz.prog.cellsOf 3)) = some y7 := t7
  have u7 : (y7.1.weights Tryz.prog 3).all (· ≤ reachBytes) = true := u7
  rw [show Tryz.prog.cellsOf 3 = 1 by kernel_rfl] at t7
  have t7 : DataW.trod enc Tryz.prog w 0 (fun _ => true) true m7 3 [q7] = some y7 := t7
  obtain ⟨a7, r7⟩ := rt3.rd t7 u7
  obtain ⟨e, p1⟩ := r0
  cases e
  obtain ⟨c2, e, p2⟩ := r1
  cases e
  obtain ⟨c3, e, p3⟩ := r2
  cases e
  obtain ⟨e, p4⟩ := r3
  cases e
  obtain ⟨e, p5⟩ := r4
  cases e
  obtain ⟨c6, e, p6⟩ := r5
  cases e
  obtain ⟨c7, e, p7⟩ := r6
  cases e
  obtain ⟨e, p8⟩ := r7
  cases e
  exact ⟨⟨a0, a1, a2, a3, a4, a5, a6, a7⟩, _, _, _, _, rfl, p1, p2, p3, p4, p5, p6, p7, p8⟩⟩
set_option maxHeartbeats 4000000 in
set_option maxRecDepth 100000 in
theorem resumeEncodes_holds : Rows.ResumeEncodesSaid := by
  refine law_holdsL 3 Tryz.f3 (tb := 4) rfl rfl rfl rfl rfl rfl rfl ⟨rfl, rfl, rfl, rfl, rfl⟩ rfl rfl rfl rfl rfl rfl rfl rfl rfl c_fn Tryz.func3 c_all
    (of_decide_eq_true (by kernel_rfl)) (by unfold Func.isWrapper; first | (rw [if_pos (by decide +kernel)]; kernel_rfl) | (rw [if_neg (by decide +kernel)]; exact ⟨rfl, rfl⟩)) (by kernel_rfl) (by kernel_rfl)
    ⟨rfl, fun H ds hd => ?_⟩ c_laid (by kernel_rfl) rfl Tryz.underlying4 (fun os started H enc => ChangeSpec.witness_shaped (enc := enc) (C := Tryz.checked) (os := os) (X := fun w _ => laidMetH Tryz.prog Rows.resumeEncodesRow.laid w) false (World.doorLaid Tryz.prog 400 os) #[.slice none 0 0, .agg #[vi 0, .slice none 0 0, .slice none 0 0, vi 0, vi 0, .slice none 0 0, .slice none 0 0, vi 0]] 30 rfl (World.shaped_of_RefB (by kernel_rfl) (by kernel_rfl)) (by kernel_rfl) (by kernel_rfl) (by kernel_rfl) (laidMetH_of_parts3 (fuel := 8) (laidMet_of_run' 8 (by kernel_rfl) (by kernel_rfl)) (by kernel_rfl) (by kernel_rfl))) ?_
  · have hd : ds.length = 2 := hd
    match ds, hd with
    | [d0, d1], _ => rfl
  · intro H enc W base args ds ps hval hA hw hL
    rw [Tryz.params3] at hA hw hval
    obtain ⟨v0, vs0, d0, ds0, p0, z0, hargs0, rfl, rfl, t0, hA0⟩ := trodAll_cons hA
    obtain ⟨v1, vs1, d1, ds1, p1, z1, hargs1, rfl, rfl, t1, hA1⟩ := trodAll_cons hA0
    obtain ⟨e1, rfl, rfl⟩ := trodAll_nil hA1
    subst e1
    subst hargs1
    obtain rfl : args = #[v0, v1] := by cases args; simp_all
    simp only [DataW.weightsEach, List.all_append, Bool.and_eq_true] at hw
    obtain ⟨w0, w1, _⟩ := hw
    obtain ⟨x0, a0, k0, rfl, h0⟩ := arg_slice rt22 Tryz.underlying22 (hval 0 22 v0 rfl rfl) t0 w0
    obtain ⟨x1, cs1, rfl, r1⟩ := arg_struct rt26 Tryz.underlying26 (hval 1 26 v1 rfl rfl) t1 w1
    obtain ⟨c1_1, c1_2, c1_5, c1_6, rfl, g1_0, g1_1, g1_2, g1_3, g1_4, g1_5, g1_6, g1_7⟩ := r1
    obtain ⟨a1_1, k1_1, rfl, s1_1⟩ := slrd_open g1_1
    obtain ⟨a1_2, k1_2, rfl, s1_2⟩ := slrd_open g1_2
    obtain ⟨a1_5, k1_5, rfl, s1_5⟩ := slrd_open g1_5
    obtain ⟨a1_6, k1_6, rfl, s1_6⟩ := slrd_open g1_6
    have hg0 := laid_tab (T := 183) (e := 5) (g := 0) (nm := "math/bits.deBruijn64tab") (k := .u8) (L := tzT) Tryz.underlying183 Tryz.underlying5 (by kernel_rfl) (by kernel_rfl) (by kernel_rfl) (by kernel_rfl) (by decide) (by kernel_rfl) (laid_tail (by kernel_rfl) hL)
    have hg1 := laid_tabX (T := 189) (e := 68) (g := 2) (nm := "internal/strconv.uint64pow10") (k := .u64) (L := pw10) Tryz.underlying189 Tryz.underlying68 (by kernel_rfl) (by kernel_rfl) (by kernel_rfl) (by kernel_rfl) (by kernel_rfl) (laid_tail (by kernel_rfl) (laid_tail (by kernel_rfl) hL))
    exact ⟨_, Unit, _, _, (sepAll_p rfl h0 (sepAll_p rfl s1_1 (sepAll_p rfl s1_2 (sepAll_p rfl s1_5 (sepAll_p rfl s1_6 (sepAll_app (hg0 _) (hg1 _))))))), fn3 x0 a0 k0 x1 a1_1 k1_1 a1_2 k1_2 a1_5 k1_5 a1_6 k1_6 g1_0 g1_3 g1_4 g1_7 true (ResumeEncodes_true x0 x1 g1_7)⟩
set_option maxRecDepth 100000 in
theorem resumeEncodesCard_holds : Rows.ResumeEncodesCardSaid :=
  Claim7.holds_tied_plain_at .later [] [.data, .data, .data] true (true, "fa2a9040bb6362e76e5292935a38906bb452508d4bfb3eefdf45c05414f7ed95") false
    resumeEncodes_holds (fun _ h => by cases h) (by kernel_rfl) (fun _ h => by cases h) resumeEncodes_row_tie rfl ⟨rfl, rfl⟩ (by kernel_rfl) rfl
    (fun f fn hf hfn => by
      obtain rfl : f = 3 := Option.some.inj ((show Tryz.prog.funcNamed "flowquery/flqlaw18.ResumeEncodes" = some 3 by kernel_rfl).symm.trans hf) |>.symm
      obtain rfl : fn = Tryz.f3 := (Option.some.inj (Tryz.func3.symm.trans hfn)).symm
      exact ⟨by kernel_rfl, fun j t ht => by
        rw [Tryz.params3] at ht
        rcases j with _ | _ | j
        · obtain rfl : 22 = t := by simpa using ht
          exact (show Tryz.prog.wantsStandIn 22 = false by kernel_rfl)
        · obtain rfl : 26 = t := by simpa using ht
          exact (show Tryz.prog.wantsStandIn 26 = false by kernel_rfl)
        · simp at ht⟩)
    (by kernel_rfl)
end Go.Proofs.YtodlobcpbdkjpaaGreatDoor
