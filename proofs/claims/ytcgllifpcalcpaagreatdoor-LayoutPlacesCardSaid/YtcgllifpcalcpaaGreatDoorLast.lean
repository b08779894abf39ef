/- LayoutPlaces of flqlaw33 holds: for every input the law answers true and leaves its arguments as they were. Conditions: none beyond the given row's own. -/
import Derived.Test.YtcgllifpcalcpaaGreatDoorW3
import Derived.Test.YtcgllifpcalcpaaGreatDoorRows
import Derived.Test.YtcgllifpcalcpaaGreatDoorTie
import Derived.Test.YtcgllifpcalcpaaGreatDoorCards
import Derived.SevenTiedAt
import Derived.Test.YtcgllifpcalcpaaGreatDoorC0
import Derived.Test.YtcgllifpcalcpaaGreatDoorC1
import Derived.Test.YtcgllifpcalcpaaGreatDoorC2
import Derived.Test.YtcgllifpcalcpaaGreatDoorC3
import Derived.Test.YtcgllifpcalcpaaGreatDoorC4
import Derived.Test.YtcgllifpcalcpaaGreatDoorC5
set_option linter.unusedVariables false
namespace Go.Proofs.YtcgllifpcalcpaaGreatDoor
open Go Go.SL Go.SL.G Go.WideShapes Go.ChangeShapes
set_option maxRecDepth 100000
set_option maxHeartbeats 4000000
theorem c_all : joinedFacts Tryz.pinned.checked.prog 3 Tryz.f3 Rows.layoutPlacesSpec Rows.layoutPlacesRow = true := joined_mk (by kernel_rfl) c_laid c_maps (by kernel_rfl) (by kernel_rfl) c_in c_unf c_rec c_named (by kernel_rfl) (by kernel_rfl) (by kernel_rfl) (by kernel_rfl) c_heard c_may c_lift c_make (by kernel_rfl)
theorem rt3 : RdT Tryz.prog 3 Int := rdT_int Tryz.underlying3
theorem rt22 : RdT Tryz.prog 22 (List Int) := rdT_slice rt3 Tryz.underlying22 (by kernel_rfl) (by kernel_rfl)
theorem rt162 : RdT Tryz.prog 162 GNode := ⟨by
  intro H enc w n cs x h hw
  obtain ⟨hl, hf⟩ := trod_struct_fields Tryz.underlying162 h hw
  rw [show Tryz.prog.cellsOf 162 = 4 by kernel_rfl] at hl
  obtain ⟨q0, q1, q2, q3, rfl⟩ : ∃ q0 q1 q2 q3, cs = [q0, q1, q2, q3] := by
    match cs, hl with
    | [q0, q1, q2, q3], _ => exact ⟨_, _, _, _, rfl⟩
  obtain ⟨m0, y0, t0, u0⟩ := hf 0 _ rfl
  have t0 : DataW.trod enc Tryz.prog w 0 (fun _ => true) true m0 3 (([q0, q1, q2, q3].drop 0).take (Tryz.prog.cellsOf 3)) = some y0 := t0
  have u0 : (y0.1.weights Tryz.prog 3).all (· ≤ reachBytes) = true := u0
  rw [show Tryz.prog.cellsOf 3 = 1 by kernel_rfl] at t0
  have t0 : DataW.trod enc Tryz.prog w 0 (fun _ => true) true m0 3 [q0] = some y0 := t0
  obtain ⟨a0, r0⟩ := rt3.rd t0 u0
  obtain ⟨m1, y1, t1, u1⟩ := hf 1 _ rfl
  have t1 : DataW.trod enc Tryz.prog w 0 (fun _ => true) true m1 3 (([q0, q1, q2, q3].drop 1).take (Tryz.prog.cellsOf 3)) = some y1 := t1
  have u1 : (y1.1.weights Tryz.prog 3).all (· ≤ reachBytes) = true := u1
  rw [show Tryz.prog.cellsOf 3 = 1 by kernel_rfl] at t1
  have t1 : DataW.trod enc Tryz.prog w 0 (fun _ => true) true m1 3 [q1] = some y1 := t1
  obtain ⟨a1, r1⟩ := rt3.rd t1 u1
  obtain ⟨m2, y2, t2, u2⟩ := hf 2 _ rfl
  have t2 : DataW.trod enc Tryz.prog w 0 (fun _ => true) true m2 3 (([q0, q1, q2, q3].drop 2).take (Tryz.prog.cellsOf 3)) = some y2 := t2
  have u2 : (y2.1.weights Tryz.prog 3).all (· ≤ reachBytes) = true := u2
  rw [show Tryz.prog.cellsOf 3 = 1 by kernel_rfl] at t2
  have t2 : DataW.trod enc Tryz.prog w 0 (fun _ => true) true m2 3 [q2] = some y2 := t2
  obtain ⟨a2, r2⟩ := rt3.rd t2 u2
  obtain ⟨m3, y3, t3, u3⟩ := hf 3 _ rfl
  have t3 : DataW.trod enc Tryz.prog w 0 (fun _ => true) true m3 3 (([q0, q1, q2, q3].drop 3).take (Tryz.prog.cellsOf 3)) = some y3 := t3
  have u3 : (y3.1.weights Tryz.prog 3).all (· ≤ reachBytes) = true := u3
  rw [show Tryz.prog.cellsOf 3 = 1 by kernel_rfl] at t3
  have t3 : DataW.trod enc Tryz.prog w 0 (fun _ => true) true m3 3 [q3] = some y3 := t3
  obtain ⟨a3, r3⟩ := rt3.rd t3 u3
  obtain ⟨e, p1⟩ := r0
  cases e
  obtain ⟨e, p2⟩ := r1
  cases e
  obtain ⟨e, p3⟩ := r2
  cases e
  obtain ⟨e, p4⟩ := r3
  cases e
  exact ⟨⟨a0, a1, a2, a3⟩, rfl, p1, p2, p3, p4⟩⟩
theorem rt23 : RdT Tryz.prog 23 (List GNode) := rdT_slice rt162 Tryz.underlying23 (by kernel_rfl) (by kernel_rfl)
theorem rt24 : RdT Tryz.prog 24 (List (List Int)) := rdT_slice rt22 Tryz.underlying24 (by kernel_rfl) (by kernel_rfl)
theorem rt26 : RdT Tryz.prog 26 GGraph := ⟨by
  intro H enc w n cs x h hw
  obtain ⟨hl, hf⟩ := trod_struct_fields Tryz.underlying26 h hw
  rw [show Tryz.prog.cellsOf 26 = 3 by kernel_rfl] at hl
  obtain ⟨q0, q1, q2, rfl⟩ : ∃ q0 q1 q2, cs = [q0, q1, q2] := by
    match cs, hl with
    | [q0, q1, q2], _ => exact ⟨_, _, _, rfl⟩
  obtain ⟨m0, y0, t0, u0⟩ := hf 0 _ rfl
  have t0 : DataW.trod enc Tryz.prog w 0 (fun _ => true) true m0 23 (([q0, q1, q2].drop 0).take (Tryz.prog.cellsOf 23)) = some y0 := t0
  have u0 : (y0.1.weights Tryz.prog 23).all (· ≤ reachBytes) = true := u0
  rw [show Tryz.prog.cellsOf 23 = 1 by kernel_rfl] at t0
  have t0 : DataW.trod enc Tryz.prog w 0 (fun _ => true) true m0 23 [q0] = some y0 := t0
  obtain ⟨a0, r0⟩ := rt23.rd t0 u0
  obtain ⟨m1, y1, t1, u1⟩ := hf 1 _ rfl
  have t1 : DataW.trod enc Tryz.prog w 0 (fun _ => true) true m1 24 (([q0, q1, q2].drop 1).take (Tryz.prog.cellsOf 24)) = some y1 := t1
  have u1 : (y1.1.weights Tryz.prog 24).all (· ≤ reachBytes) = true := u1
  rw [show Tryz.prog.cellsOf 24 = 1 by kernel_rfl] at t1
  have t1 : DataW.trod enc Tryz.prog w 0 (fun _ => true) true m1 24 [q1] = some y1 := t1
  obtain ⟨a1, r1⟩ := rt24.rd t1 u1
  obtain ⟨m2, y2, t2, u2⟩ := hf 2 _ rfl
  have t2 : DataW.trod enc Tryz.prog w 0 (fun _ => true) true m2 24 (([q0, q1, q2].drop 2).take (Tryz.prog.cellsOf 24)) = some y2 := t2
  have u2 : (y2.1.weights Tryz.prog 24).all (· ≤ reachBytes) = true := u2
  rw [show Tryz.prog.cellsOf 24 = 1 by kernel_rfl] at t2
  have t2 : DataW.trod enc Tryz.prog w 0 (fun _ => true) true m2 24 [q2] = some y2 := t2
  obtain ⟨a2, r2⟩ := rt24.rd t2 u2
  obtain ⟨c1, e, p1⟩ := r0
  cases e
  obtain ⟨c2, e, p2⟩ := r1
  cases e
  obtain ⟨c3, e, p3⟩ := r2
  cases e
  exact ⟨⟨a0, a1, a2⟩, _, _, _, rfl, p1, p2, p3⟩⟩
set_option maxHeartbeats 4000000 in
set_option maxRecDepth 100000 in
theorem layoutPlaces_holds : Rows.LayoutPlacesSaid := by
  refine law_holdsL 3 Tryz.f3 (tb := 4) rfl rfl rfl rfl rfl rfl rfl ⟨rfl, rfl, rfl, rfl, rfl⟩ rfl rfl rfl rfl rfl rfl rfl rfl rfl c_fn Tryz.func3 c_all
    (of_decide_eq_true (by kernel_rfl)) (by unfold Func.isWrapper; first | (rw [if_pos (by decide +kernel)]; kernel_rfl) | (rw [if_neg (by decide +kernel)]; exact ⟨rfl, rfl⟩)) (by kernel_rfl) (by kernel_rfl)
    ⟨rfl, fun H ds hd => ?_⟩ c_laid (by kernel_rfl) rfl Tryz.underlying4 (fun os started H enc => ChangeSpec.witness_shaped (enc := enc) (C := Tryz.checked) (os := os) (X := fun w _ => laidMetH Tryz.prog Rows.layoutPlacesRow.laid w) false (World.doorLaid Tryz.prog 400 os) #[.slice none 0 0, .agg #[.slice none 0 0, .slice none 0 0, .slice none 0 0], vi 0] 30 rfl (World.shaped_of_RefB (by kernel_rfl) (by kernel_rfl)) (by kernel_rfl) (by kernel_rfl) (by kernel_rfl) (laidMetH_of_parts3 (fuel := 8) (laidMet_of_run' 8 (by kernel_rfl) (by kernel_rfl)) (by kernel_rfl) (by kernel_rfl))) ?_
  · have hd : ds.length = 3 := hd
    match ds, hd with
    | [d0, d1, d2], _ => rfl
  · intro H enc W base args ds ps hval hA hw hL
    rw [Tryz.params3] at hA hw hval
    obtain ⟨v0, vs0, d0, ds0, p0, z0, hargs0, rfl, rfl, t0, hA0⟩ := trodAll_cons hA
    obtain ⟨v1, vs1, d1, ds1, p1, z1, hargs1, rfl, rfl, t1, hA1⟩ := trodAll_cons hA0
    obtain ⟨v2, vs2, d2, ds2, p2, z2, hargs2, rfl, rfl, t2, hA2⟩ := trodAll_cons hA1
    obtain ⟨e1, rfl, rfl⟩ := trodAll_nil hA2
    subst e1
    subst hargs2
    subst hargs1
    obtain rfl : args = #[v0, v1, v2] := by cases args; simp_all
    simp only [DataW.weightsEach, List.all_append, Bool.and_eq_true] at hw
    obtain ⟨w0, w1, w2, _⟩ := hw
    obtain ⟨x0, a0, k0, rfl, h0⟩ := arg_slice rt22 Tryz.underlying22 (hval 0 22 v0 rfl rfl) t0 w0
    obtain ⟨x1, cs1, rfl, r1⟩ := arg_struct rt26 Tryz.underlying26 (hval 1 26 v1 rfl rfl) t1 w1
    obtain ⟨c1_0, c1_1, c1_2, rfl, g1_0, g1_1, g1_2⟩ := r1
    obtain ⟨a1_0, k1_0, rfl, s1_0⟩ := slrd_open g1_0
    obtain ⟨a1_1, k1_1, rfl, s1_1⟩ := slrd_open g1_1
    obtain ⟨a1_2, k1_2, rfl, s1_2⟩ := slrd_open g1_2
    obtain ⟨x2, rfl, h2⟩ := arg_int Tryz.underlying3 (hval 2 3 v2 rfl rfl) t2 w2
    exact ⟨_, Unit, _, _, (sepAll_p rfl h0 (sepAll_p rfl s1_0 (sepAll_p rfl s1_1 (sepAll_p rfl s1_2 sepAll_n)))), fn3 x0 a0 k0 x1 a1_0 k1_0 a1_1 k1_1 a1_2 k1_2 x2 h2 true (LayoutPlaces_true x0 x1 x2)⟩
set_option maxRecDepth 100000 in
theorem layoutPlacesCard_holds : Rows.LayoutPlacesCardSaid :=
  Claim7.holds_tied_plain_at .later [] [.data, .data, .data] true (true, "f211851a55966a886ab0a6cb6392cb06a03bccf484de987193d6c796132b45ef") false
    layoutPlaces_holds (fun _ h => by cases h) (by kernel_rfl) (fun _ h => by cases h) layoutPlaces_row_tie rfl ⟨rfl, rfl⟩ (by kernel_rfl) rfl
    (fun f fn hf hfn => by
      obtain rfl : f = 3 := Option.some.inj ((show Tryz.prog.funcNamed "flowquery/flqlaw33.LayoutPlaces" = some 3 by kernel_rfl).symm.trans hf) |>.symm
      obtain rfl : fn = Tryz.f3 := (Option.some.inj (Tryz.func3.symm.trans hfn)).symm
      exact ⟨by kernel_rfl, fun j t ht => by
        rw [Tryz.params3] at ht
        rcases j with _ | _ | _ | j
        · obtain rfl : 22 = t := by simpa using ht
          exact (show Tryz.prog.wantsStandIn 22 = false by kernel_rfl)
        · obtain rfl : 26 = t := by simpa using ht
          exact (show Tryz.prog.wantsStandIn 26 = false by kernel_rfl)
        · obtain rfl : 3 = t := by simpa using ht
          exact (show Tryz.prog.wantsStandIn 3 = false by kernel_rfl)
        · simp at ht⟩)
    (by kernel_rfl)
end Go.Proofs.YtcgllifpcalcpaaGreatDoor
