/- GraphBuilds of flqlaw8 holds: for every input the law answers true and leaves its arguments as they were. Conditions: what the law reads is of bulk at most 1048576 (the row own condition); none beyond the given row's own. -/
import Derived.Test.YtaecnbagiemkbaaGreatDoorW5
import Derived.Test.YtaecnbagiemkbaaGreatDoorRows
import Derived.Test.YtaecnbagiemkbaaGreatDoorTie
import Derived.Test.YtaecnbagiemkbaaGreatDoorCards
import Derived.SevenTiedAt
import Derived.Test.YtaecnbagiemkbaaGreatDoorC0
import Derived.Test.YtaecnbagiemkbaaGreatDoorC1
import Derived.Test.YtaecnbagiemkbaaGreatDoorC2
import Derived.Test.YtaecnbagiemkbaaGreatDoorC3
import Derived.Test.YtaecnbagiemkbaaGreatDoorC4
import Derived.Test.YtaecnbagiemkbaaGreatDoorC5
set_option linter.unusedVariables false
namespace Go.Proofs.YtaecnbagiemkbaaGreatDoor
open Go Go.SL Go.SL.G Go.WideShapes Go.ChangeShapes
set_option maxRecDepth 100000
set_option maxHeartbeats 4000000
theorem c_all : joinedFacts Tryz.pinned.checked.prog 3 Tryz.f3 Rows.graphBuildsSpec Rows.graphBuildsUptoRow = true := joined_mk (by kernel_rfl) c_laid c_maps (by kernel_rfl) (by kernel_rfl) c_in c_unf c_rec c_named (by kernel_rfl) (by kernel_rfl) (by kernel_rfl) (by kernel_rfl) c_heard c_may c_lift c_make (by kernel_rfl)
theorem rt3 : RdL Tryz.prog 3 8589934592 Int := rdL_int (by decide) Tryz.underlying3
theorem rt22 : RdL Tryz.prog 22 8589934592 (List Int) := rdL_slice (by decide) rt3 Tryz.underlying22 (by kernel_rfl) (by kernel_rfl)
theorem rt9 : RdL Tryz.prog 9 8589934592 Str := rdL_string (by decide) Tryz.underlying9
theorem rt36 : RdL Tryz.prog 36 8589934592 (List Str) := rdL_slice (by decide) rt9 Tryz.underlying36 (by kernel_rfl) (by kernel_rfl)
instance : Lim GStmt := ⟨fun L x => Lim.lim L x.Op ∧ Lim.lim L x.Def ∧ Lim.lim L x.Uses ∧ Lim.lim L x.Targets ∧ True⟩
theorem rt44 : RdL Tryz.prog 44 8589934592 GStmt := ⟨by
  intro H enc w n cs x h hw
  obtain ⟨hl, hf⟩ := trodL_struct_fields Tryz.underlying44 h hw
  rw [show Tryz.prog.cellsOf 44 = 4 by kernel_rfl] at hl
  obtain ⟨q0, q1, q2, q3, rfl⟩ : ∃ q0 q1 q2 q3, cs = [q0, q1, q2, q3] := by
    match cs, hl with
    | [q0, q1, q2, q3], _ => exact ⟨_, _, _, _, rfl⟩
  obtain ⟨m0, y0, t0, u0⟩ := hf 0 _ rfl
  have t0 : DataW.trod enc Tryz.prog w 0 (fun _ => true) true m0 3 (([q0, q1, q2, q3].drop 0).take (Tryz.prog.cellsOf 3)) = some y0 := t0
  have u0 : (y0.1.weights Tryz.prog 3).all (· ≤ 8589934592) = true := u0
  rw [show Tryz.prog.cellsOf 3 = 1 by kernel_rfl] at t0
  have t0 : DataW.trod enc Tryz.prog w 0 (fun _ => true) true m0 3 [q0] = some y0 := t0
  obtain ⟨a0, r0, l0⟩ := rt3.rd t0 u0
  obtain ⟨m1, y1, t1, u1⟩ := hf 1 _ rfl
  have t1 : DataW.trod enc Tryz.prog w 0 (fun _ => true) true m1 9 (([q0, q1, q2, q3].drop 1).take (Tryz.prog.cellsOf 9)) = some y1 := t1
  have u1 : (y1.1.weights Tryz.prog 9).all (· ≤ 8589934592) = true := u1
  rw [show Tryz.prog.cellsOf 9 = 1 by kernel_rfl] at t1
  have t1 : DataW.trod enc Tryz.prog w 0 (fun _ => true) true m1 9 [q1] = some y1 := t1
  obtain ⟨a1, r1, l1⟩ := rt9.rd t1 u1
  obtain ⟨m2, y2, t2, u2⟩ := hf 2 _ rfl
  have t2 : DataW.trod enc Tryz.prog w 0 (fun _ => true) true m2 36 (([q0, q1, q2, q3].drop 2).take (Tryz.prog.cellsOf 36)) = some y2 := t2
  have u2 : (y2.1.weights Tryz.prog 36).all (· ≤ 8589934592) = true := u2
  rw [show Tryz.prog.cellsOf 36 = 1 by kernel_rfl] at t2
  have t2 : DataW.trod enc Tryz.prog w 0 (fun _ => true) true m2 36 [q2] = some y2 := t2
  obtain ⟨a2, r2, l2⟩ := rt36.rd t2 u2
  obtain ⟨m3, y3, t3, u3⟩ := hf 3 _ rfl
  have t3 : DataW.trod enc Tryz.prog w 0 (fun _ => true) true m3 36 (([q0, q1, q2, q3].drop 3).take (Tryz.prog.cellsOf 36)) = some y3 := t3
  have u3 : (y3.1.weights Tryz.prog 36).all (· ≤ 8589934592) = true := u3
  rw [show Tryz.prog.cellsOf 36 = 1 by kernel_rfl] at t3
  have t3 : DataW.trod enc Tryz.prog w 0 (fun _ => true) true m3 36 [q3] = some y3 := t3
  obtain ⟨a3, r3, l3⟩ := rt36.rd t3 u3
  obtain ⟨e, p1⟩ := r0
  cases e
  obtain ⟨e, p2⟩ := r1
  cases e
  obtain ⟨c3, e, p3⟩ := r2
  cases e
  obtain ⟨c4, e, p4⟩ := r3
  cases e
  exact ⟨⟨a0, a1, a2, a3⟩, ⟨_, _, rfl, p1, p2, p3, p4⟩, l0, l1, l2, l3, trivial⟩⟩
theorem rt40 : RdL Tryz.prog 40 8589934592 (List GStmt) := rdL_slice (by decide) rt44 Tryz.underlying40 (by kernel_rfl) (by kernel_rfl)
instance : Lim GBlock := ⟨fun L x => Lim.lim L x.Name ∧ Lim.lim L x.Stmts ∧ True⟩
theorem rt42 : RdL Tryz.prog 42 8589934592 GBlock := ⟨by
  intro H enc w n cs x h hw
  obtain ⟨hl, hf⟩ := trodL_struct_fields Tryz.underlying42 h hw
  rw [show Tryz.prog.cellsOf 42 = 2 by kernel_rfl] at hl
  obtain ⟨q0, q1, rfl⟩ : ∃ q0 q1, cs = [q0, q1] := by
    match cs, hl with
    | [q0, q1], _ => exact ⟨_, _, rfl⟩
  obtain ⟨m0, y0, t0, u0⟩ := hf 0 _ rfl
  have t0 : DataW.trod enc Tryz.prog w 0 (fun _ => true) true m0 9 (([q0, q1].drop 0).take (Tryz.prog.cellsOf 9)) = some y0 := t0
  have u0 : (y0.1.weights Tryz.prog 9).all (· ≤ 8589934592) = true := u0
  rw [show Tryz.prog.cellsOf 9 = 1 by kernel_rfl] at t0
  have t0 : DataW.trod enc Tryz.prog w 0 (fun _ => true) true m0 9 [q0] = some y0 := t0
  obtain ⟨a0, r0, l0⟩ := rt9.rd t0 u0
  obtain ⟨m1, y1, t1, u1⟩ := hf 1 _ rfl
  have t1 : DataW.trod enc Tryz.prog w 0 (fun _ => true) true m1 40 (([q0, q1].drop 1).take (Tryz.prog.cellsOf 40)) = some y1 := t1
  have u1 : (y1.1.weights Tryz.prog 40).all (· ≤ 8589934592) = true := u1
  rw [show Tryz.prog.cellsOf 40 = 1 by kernel_rfl] at t1
  have t1 : DataW.trod enc Tryz.prog w 0 (fun _ => true) true m1 40 [q1] = some y1 := t1
  obtain ⟨a1, r1, l1⟩ := rt40.rd t1 u1
  obtain ⟨e, p1⟩ := r0
  cases e
  obtain ⟨c2, e, p2⟩ := r1
  cases e
  exact ⟨⟨a0, a1⟩, ⟨_, rfl, p1, p2⟩, l0, l1, trivial⟩⟩
theorem rt37 : RdL Tryz.prog 37 8589934592 (List GBlock) := rdL_slice (by decide) rt42 Tryz.underlying37 (by kernel_rfl) (by kernel_rfl)
instance : Lim GFunc := ⟨fun L x => Lim.lim L x.Name ∧ Lim.lim L x.Blocks ∧ True⟩
theorem rt39 : RdL Tryz.prog 39 8589934592 GFunc := ⟨by
  intro H enc w n cs x h hw
  obtain ⟨hl, hf⟩ := trodL_struct_fields Tryz.underlying39 h hw
  rw [show Tryz.prog.cellsOf 39 = 2 by kernel_rfl] at hl
  obtain ⟨q0, q1, rfl⟩ : ∃ q0 q1, cs = [q0, q1] := by
    match cs, hl with
    | [q0, q1], _ => exact ⟨_, _, rfl⟩
  obtain ⟨m0, y0, t0, u0⟩ := hf 0 _ rfl
  have t0 : DataW.trod enc Tryz.prog w 0 (fun _ => true) true m0 9 (([q0, q1].drop 0).take (Tryz.prog.cellsOf 9)) = some y0 := t0
  have u0 : (y0.1.weights Tryz.prog 9).all (· ≤ 8589934592) = true := u0
  rw [show Tryz.prog.cellsOf 9 = 1 by kernel_rfl] at t0
  have t0 : DataW.trod enc Tryz.prog w 0 (fun _ => true) true m0 9 [q0] = some y0 := t0
  obtain ⟨a0, r0, l0⟩ := rt9.rd t0 u0
  obtain ⟨m1, y1, t1, u1⟩ := hf 1 _ rfl
  have t1 : DataW.trod enc Tryz.prog w 0 (fun _ => true) true m1 37 (([q0, q1].drop 1).take (Tryz.prog.cellsOf 37)) = some y1 := t1
  have u1 : (y1.1.weights Tryz.prog 37).all (· ≤ 8589934592) = true := u1
  rw [show Tryz.prog.cellsOf 37 = 1 by kernel_rfl] at t1
  have t1 : DataW.trod enc Tryz.prog w 0 (fun _ => true) true m1 37 [q1] = some y1 := t1
  obtain ⟨a1, r1, l1⟩ := rt37.rd t1 u1
  obtain ⟨e, p1⟩ := r0
  cases e
  obtain ⟨c2, e, p2⟩ := r1
  cases e
  exact ⟨⟨a0, a1⟩, ⟨_, rfl, p1, p2⟩, l0, l1, trivial⟩⟩
theorem rt23 : RdL Tryz.prog 23 8589934592 (List GFunc) := rdL_slice (by decide) rt39 Tryz.underlying23 (by kernel_rfl) (by kernel_rfl)
instance : Lim GProgram := ⟨fun L x => Lim.lim L x.Funcs ∧ True⟩
theorem rt25 : RdL Tryz.prog 25 8589934592 GProgram := ⟨by
  intro H enc w n cs x h hw
  obtain ⟨hl, hf⟩ := trodL_struct_fields Tryz.underlying25 h hw
  rw [show Tryz.prog.cellsOf 25 = 1 by kernel_rfl] at hl
  obtain ⟨q0, rfl⟩ : ∃ q0, cs = [q0] := by
    match cs, hl with
    | [q0], _ => exact ⟨_, rfl⟩
  obtain ⟨m0, y0, t0, u0⟩ := hf 0 _ rfl
  have t0 : DataW.trod enc Tryz.prog w 0 (fun _ => true) true m0 23 (([q0].drop 0).take (Tryz.prog.cellsOf 23)) = some y0 := t0
  have u0 : (y0.1.weights Tryz.prog 23).all (· ≤ 8589934592) = true := u0
  rw [show Tryz.prog.cellsOf 23 = 1 by kernel_rfl] at t0
  have t0 : DataW.trod enc Tryz.prog w 0 (fun _ => true) true m0 23 [q0] = some y0 := t0
  obtain ⟨a0, r0, l0⟩ := rt23.rd t0 u0
  obtain ⟨c1, e, p1⟩ := r0
  cases e
  exact ⟨⟨a0⟩, ⟨_, rfl, p1⟩, l0, trivial⟩⟩
theorem PSm_lim {p : GProgram} (h : Lim.lim 8589934592 p) : PSm p = true := by
  unfold PSm
  refine List.all_eq_true.2 fun f hf => ?_
  have hf' := (h.1.2 f hf).2.1.2
  unfold FSm
  refine List.all_eq_true.2 fun b hb => ?_
  have hb' := (hf' b hb).2.1.2
  unfold BSm
  refine List.all_eq_true.2 fun s hs => ?_
  have hs' := hb' s hs
  have h1 := hs'.2.2.1.1
  have h2 := hs'.2.2.2.1.1
  change s.Uses.length * 16 ≤ 8589934592 at h1
  change s.Targets.length * 16 ≤ 8589934592 at h2
  unfold SSm
  simp only [Bool.and_eq_true, decide_eq_true_eq]
  omega
theorem bkR (H : Type) : Bulk H Rows.uptoBulk Rows.uptoBulkAll Rows.uptoBulkEntries Rows.uptoBulkEntry where
  str b := by simp only [Rows.uptoBulk]
  one d := by cases d with
    | lit l => cases l <;> simp [Rows.uptoBulk]
    | _ => simp [Rows.uptoBulk]
  ptr d := by simp only [Rows.uptoBulk]
  sl e r := by simp only [Rows.uptoBulk]
  agg l := by simp only [Rows.uptoBulk]
  map l := by simp only [Rows.uptoBulk]
  nil := by simp only [Rows.uptoBulkAll]
  cons d r := by simp only [Rows.uptoBulkAll]
  enil := by simp only [Rows.uptoBulkEntries]
  econs x r := by simp only [Rows.uptoBulkEntries]
  estr b d := by simp only [Rows.uptoBulkEntry]
  eone l d := by cases l <;> simp only [Rows.uptoBulkEntry] <;> omega
theorem up_ok : upOk Tryz.prog 176 = true := by kernel_rfl
set_option maxHeartbeats 4000000 in
set_option maxRecDepth 100000 in
theorem graphBuilds_holds : Rows.GraphBuildsUptoSaid := by
  refine law_holdsLU 3 Tryz.f3 (tb := 4) rfl rfl rfl rfl rfl rfl rfl ⟨rfl, rfl, rfl, rfl, rfl⟩ rfl rfl rfl rfl rfl rfl rfl rfl rfl c_fn Tryz.func3 c_all
    (of_decide_eq_true (by kernel_rfl)) (by unfold Func.isWrapper; first | (rw [if_pos (by decide +kernel)]; kernel_rfl) | (rw [if_neg (by decide +kernel)]; exact ⟨rfl, rfl⟩)) (by kernel_rfl) (by kernel_rfl)
    ⟨rfl, fun H ds hd => ?_⟩ c_laid (by kernel_rfl) rfl Tryz.underlying4 (fun os started H enc => wt_shapedU (enc := enc) (C := Tryz.checked) (os := os) (k := Rows.uptoSmall) (X := fun w _ => laidMetH Tryz.prog Rows.graphBuildsUptoRow.laid w) (World.doorLaid Tryz.prog 400 os) #[.slice none 0 0, .agg #[.slice none 0 0]] 30 rfl (World.shaped_of_RefB (by kernel_rfl) (by kernel_rfl)) (by kernel_rfl) (by kernel_rfl) (by kernel_rfl) (laidMetH_of_parts3 (fuel := 8) (laidMet_of_run' 8 (by kernel_rfl) (by kernel_rfl)) (by kernel_rfl) (by kernel_rfl))) ?_
  · have hd : ds.length = 2 := hd
    match ds, hd with
    | [d0, d1], _ => rfl
  · intro H enc W base args ds ps hval hA hw hk hL
    have hw : (DataW.weightsEach Tryz.prog Tryz.f3.params.toList ds).all (· ≤ 8589934592) = true := bulk_we (bkR H) up_ok ds _ 1048576 (by rw [Tryz.params3]; decide) (of_decide_eq_true hk)
    rw [Tryz.params3] at hA hw hval
    obtain ⟨v0, vs0, d0, ds0, p0, z0, hargs0, rfl, rfl, t0, hA0⟩ := trodAll_cons hA
    obtain ⟨v1, vs1, d1, ds1, p1, z1, hargs1, rfl, rfl, t1, hA1⟩ := trodAll_cons hA0
    obtain ⟨e1, rfl, rfl⟩ := trodAll_nil hA1
    subst e1
    subst hargs1
    obtain rfl : args = #[v0, v1] := by cases args; simp_all
    simp only [DataW.weightsEach, List.all_append, Bool.and_eq_true] at hw
    obtain ⟨w0, w1, _⟩ := hw
    obtain ⟨x0, a0, k0, rfl, h0, lm0⟩ := argL_slice rt22 Tryz.underlying22 (hval 0 22 v0 rfl rfl) t0 w0
    obtain ⟨x1, cs1, rfl, r1, lm1⟩ := argL_struct rt25 Tryz.underlying25 (hval 1 25 v1 rfl rfl) t1 w1
    obtain ⟨c1_0, rfl, g1_0⟩ := r1
    obtain ⟨a1_0, k1_0, rfl, s1_0⟩ := slrd_open g1_0
    obtain ⟨ga, gk, hg⟩ := laid_strs (T := 36) (e := 9) (g := 0) (nm := "flowquery/lexer.keywords") (L := kwL) Tryz.underlying36 Tryz.underlying9 (by kernel_rfl) (by kernel_rfl) (by kernel_rfl) (by unfold kwL; simp) (by decide) (by decide) hL
    exact ⟨_, Unit, _, _, (sepAll_p rfl h0 (sepAll_p rfl s1_0 (hg _))), fn3 x0 a0 k0 x1 a1_0 k1_0 ga gk (PSm_lim lm1) true (GraphBuilds_true x0 x1)⟩
set_option maxRecDepth 100000 in
theorem graphBuildsUptoCard_holds : Rows.GraphBuildsUptoCardSaid :=
  Claim7.holds_tied_plain_at .later [] [.widerDeep] true (true, "aaf594274f96ed957c847a03ebfa204947848b6f213705372b746777477b58fb") false
    graphBuilds_holds (fun _ h => by cases h) (by kernel_rfl) (fun _ h => by cases h) graphBuildsUpto_row_tie rfl ⟨rfl, rfl⟩ (by kernel_rfl) rfl
    (fun f fn hf hfn => by
      obtain rfl : f = 3 := Option.some.inj ((show Tryz.prog.funcNamed "flowquery/flqlaw8.GraphBuilds" = some 3 by kernel_rfl).symm.trans hf) |>.symm
      obtain rfl : fn = Tryz.f3 := (Option.some.inj (Tryz.func3.symm.trans hfn)).symm
      exact ⟨by kernel_rfl, fun j t ht => by
        rw [Tryz.params3] at ht
        rcases j with _ | _ | j
        · obtain rfl : 22 = t := by simpa using ht
          exact (show Tryz.prog.wantsStandIn 22 = false by kernel_rfl)
        · obtain rfl : 25 = t := by simpa using ht
          exact (show Tryz.prog.wantsStandIn 25 = false by kernel_rfl)
        · simp at ht⟩)
    (by kernel_rfl)
end Go.Proofs.YtaecnbagiemkbaaGreatDoor
