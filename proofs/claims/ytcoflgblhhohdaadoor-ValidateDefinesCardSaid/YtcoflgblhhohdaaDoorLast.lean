/- ValidateDefines of flqlaw6 holds: for every input the law answers true and leaves its arguments as they were. Conditions: none beyond the given row's own. -/
import Derived.Test.YtcoflgblhhohdaaDoorW4
import Derived.Test.YtcoflgblhhohdaaDoorRows
import Derived.Test.YtcoflgblhhohdaaDoorTie
import Derived.Test.YtcoflgblhhohdaaDoorCards
import Derived.SevenTiedAt
import Derived.Test.YtcoflgblhhohdaaDoorC0
import Derived.Test.YtcoflgblhhohdaaDoorC1
import Derived.Test.YtcoflgblhhohdaaDoorC2
import Derived.Test.YtcoflgblhhohdaaDoorC3
import Derived.Test.YtcoflgblhhohdaaDoorC4
import Derived.Test.YtcoflgblhhohdaaDoorC5
set_option linter.unusedVariables false
namespace Go.Proofs.YtcoflgblhhohdaaDoor
open Go Go.SL Go.SL.G Go.WideShapes Go.ChangeShapes
set_option maxRecDepth 100000
set_option maxHeartbeats 4000000
theorem c_all : joinedFacts Tryd.pinned.checked.prog 5 Tryd.f5 Rows.validateDefinesSpec Rows.validateDefinesRow = true := joined_mk (by kernel_rfl) c_laid c_maps (by kernel_rfl) (by kernel_rfl) c_in c_unf c_rec c_named (by kernel_rfl) (by kernel_rfl) (by kernel_rfl) (by kernel_rfl) c_heard c_may c_lift c_make (by kernel_rfl)
theorem rt3 : RdT Tryd.prog 3 Int := rdT_int Tryd.underlying3
theorem rt9 : RdT Tryd.prog 9 Str := rdT_string Tryd.underlying9
theorem rt40 : RdT Tryd.prog 40 (List Str) := rdT_slice rt9 Tryd.underlying40 (by kernel_rfl) (by kernel_rfl)
theorem rt51 : RdT Tryd.prog 51 GStmt := ⟨by
  intro H enc w n cs x h hw
  obtain ⟨hl, hf⟩ := trod_struct_fields Tryd.underlying51 h hw
  rw [show Tryd.prog.cellsOf 51 = 4 by kernel_rfl] at hl
  obtain ⟨q0, q1, q2, q3, rfl⟩ : ∃ q0 q1 q2 q3, cs = [q0, q1, q2, q3] := by
    match cs, hl with
    | [q0, q1, q2, q3], _ => exact ⟨_, _, _, _, rfl⟩
  obtain ⟨m0, y0, t0, u0⟩ := hf 0 _ rfl
  have t0 : DataW.trod enc Tryd.prog w 0 (fun _ => true) true m0 3 (([q0, q1, q2, q3].drop 0).take (Tryd.prog.cellsOf 3)) = some y0 := t0
  have u0 : (y0.1.weights Tryd.prog 3).all (· ≤ reachBytes) = true := u0
  rw [show Tryd.prog.cellsOf 3 = 1 by kernel_rfl] at t0
  have t0 : DataW.trod enc Tryd.prog w 0 (fun _ => true) true m0 3 [q0] = some y0 := t0
  obtain ⟨a0, r0⟩ := rt3.rd t0 u0
  obtain ⟨m1, y1, t1, u1⟩ := hf 1 _ rfl
  have t1 : DataW.trod enc Tryd.prog w 0 (fun _ => true) true m1 9 (([q0, q1, q2, q3].drop 1).take (Tryd.prog.cellsOf 9)) = some y1 := t1
  have u1 : (y1.1.weights Tryd.prog 9).all (· ≤ reachBytes) = true := u1
  rw [show Tryd.prog.cellsOf 9 = 1 by kernel_rfl] at t1
  have t1 : DataW.trod enc Tryd.prog w 0 (fun _ => true) true m1 9 [q1] = some y1 := t1
  obtain ⟨a1, r1⟩ := rt9.rd t1 u1
  obtain ⟨m2, y2, t2, u2⟩ := hf 2 _ rfl
  have t2 : DataW.trod enc Tryd.prog w 0 (fun _ => true) true m2 40 (([q0, q1, q2, q3].drop 2).take (Tryd.prog.cellsOf 40)) = some y2 := t2
  have u2 : (y2.1.weights Tryd.prog 40).all (· ≤ reachBytes) = true := u2
  rw [show Tryd.prog.cellsOf 40 = 1 by kernel_rfl] at t2
  have t2 : DataW.trod enc Tryd.prog w 0 (fun _ => true) true m2 40 [q2] = some y2 := t2
  obtain ⟨a2, r2⟩ := rt40.rd t2 u2
  obtain ⟨m3, y3, t3, u3⟩ := hf 3 _ rfl
  have t3 : DataW.trod enc Tryd.prog w 0 (fun _ => true) true m3 40 (([q0, q1, q2, q3].drop 3).take (Tryd.prog.cellsOf 40)) = some y3 := t3
  have u3 : (y3.1.weights Tryd.prog 40).all (· ≤ reachBytes) = true := u3
  rw [show Tryd.prog.cellsOf 40 = 1 by kernel_rfl] at t3
  have t3 : DataW.trod enc Tryd.prog w 0 (fun _ => true) true m3 40 [q3] = some y3 := t3
  obtain ⟨a3, r3⟩ := rt40.rd t3 u3
  obtain ⟨e, p1⟩ := r0
  cases e
  obtain ⟨e, p2⟩ := r1
  cases e
  obtain ⟨c3, e, p3⟩ := r2
  cases e
  obtain ⟨c4, e, p4⟩ := r3
  cases e
  exact ⟨⟨a0, a1, a2, a3⟩, _, _, rfl, p1, p2, p3, p4⟩⟩
set_option maxHeartbeats 4000000 in
set_option maxRecDepth 100000 in
theorem validateDefines_holds : Rows.ValidateDefinesSaid := by
  refine law_holdsL 5 Tryd.f5 (tb := 4) rfl rfl rfl rfl rfl rfl rfl ⟨rfl, rfl, rfl, rfl, rfl⟩ rfl rfl rfl rfl rfl rfl rfl rfl rfl c_fn Tryd.func5 c_all
    (of_decide_eq_true (by kernel_rfl)) (by unfold Func.isWrapper; first | (rw [if_pos (by decide +kernel)]; kernel_rfl) | (rw [if_neg (by decide +kernel)]; exact ⟨rfl, rfl⟩)) (by kernel_rfl) (by kernel_rfl)
    ⟨rfl, fun H ds hd => ?_⟩ c_laid (by kernel_rfl) rfl Tryd.underlying4 (fun os started H enc => ChangeSpec.witness_shaped (enc := enc) (C := Tryd.checked) (os := os) (X := fun w _ => laidMetH Tryd.prog Rows.validateDefinesRow.laid w) false (World.doorLaid Tryd.prog 400 os) #[.agg #[vi 0, .string (bs (Str.mk [])), .slice none 0 0, .slice none 0 0]] 30 rfl (World.shaped_of_RefB (by kernel_rfl) (by kernel_rfl)) (by kernel_rfl) (by kernel_rfl) (by kernel_rfl) (laidMetH_of_parts3 (fuel := 8) (laidMet_of_run' 8 (by kernel_rfl) (by kernel_rfl)) (by kernel_rfl) (by kernel_rfl))) ?_
  · have hd : ds.length = 1 := hd
    match ds, hd with
    | [d0], _ => rfl
  · intro H enc W base args ds ps hval hA hw hL
    rw [Tryd.params5] at hA hw hval
    obtain ⟨v0, vs0, d0, ds0, p0, z0, hargs0, rfl, rfl, t0, hA0⟩ := trodAll_cons hA
    obtain ⟨e1, rfl, rfl⟩ := trodAll_nil hA0
    subst e1
    obtain rfl : args = #[v0] := by cases args; simp_all
    simp only [DataW.weightsEach, List.all_append, Bool.and_eq_true] at hw
    obtain ⟨w0, _⟩ := hw
    obtain ⟨x0, cs0, rfl, r0⟩ := arg_struct rt51 Tryd.underlying51 (hval 0 51 v0 rfl rfl) t0 w0
    obtain ⟨c0_2, c0_3, rfl, g0_0, g0_1, g0_2, g0_3⟩ := r0
    obtain ⟨a0_2, k0_2, rfl, s0_2⟩ := slrd_open g0_2
    obtain ⟨a0_3, k0_3, rfl, s0_3⟩ := slrd_open g0_3
    obtain ⟨ga, gk, hg⟩ := laid_strs (T := 40) (e := 9) (g := 0) (nm := "flowquery/lexer.keywords") (L := kwL) Tryd.underlying40 Tryd.underlying9 (by kernel_rfl) (by kernel_rfl) (by kernel_rfl) (by unfold kwL; simp) (by decide) (by decide) hL
    exact ⟨_, Unit, _, _, (sepAll_p rfl s0_2 (sepAll_p rfl s0_3 (hg _))), fn5 x0 a0_2 k0_2 a0_3 k0_3 ga gk g0_0 g0_1 true (ValidateDefines_true x0)⟩
set_option maxRecDepth 100000 in
theorem validateDefinesCard_holds : Rows.ValidateDefinesCardSaid :=
  Claim7.holds_tied_plain_at .later [] [.widerDeep] true (true, "9e3443660ab1c19d7793cdb9f1bb59061bb2531f4fc5828aeb13dfc196976795") false
    validateDefines_holds (fun _ h => by cases h) (by kernel_rfl) (fun _ h => by cases h) validateDefines_row_tie rfl ⟨rfl, rfl⟩ (by kernel_rfl) rfl
    (fun f fn hf hfn => by
      obtain rfl : f = 5 := Option.some.inj ((show Tryd.prog.funcNamed "flowquery/flqlaw6.ValidateDefines" = some 5 by kernel_rfl).symm.trans hf) |>.symm
      obtain rfl : fn = Tryd.f5 := (Option.some.inj (Tryd.func5.symm.trans hfn)).symm
      exact ⟨by kernel_rfl, fun j t ht => by
        rw [Tryd.params5] at ht
        rcases j with _ | j
        · obtain rfl : 51 = t := by simpa using ht
          exact (show Tryd.prog.wantsStandIn 51 = false by kernel_rfl)
        · simp at ht⟩)
    (by kernel_rfl)
end Go.Proofs.YtcoflgblhhohdaaDoor
