/- FactsAgree of flqlaw9 holds: for every input the law answers true and leaves its arguments as they were. Conditions: what the law reads is of bulk at most 1048576 (the row own condition); none beyond the given row's own. -/
import Derived.Test.YtipcbmgelahkfaaGreatDoorW5
import Derived.Test.YtipcbmgelahkfaaGreatDoorRows
import Derived.Test.YtipcbmgelahkfaaGreatDoorTie
import Derived.Test.YtipcbmgelahkfaaGreatDoorCards
import Derived.SevenTiedAt
import Derived.Test.YtipcbmgelahkfaaGreatDoorC0
import Derived.Test.YtipcbmgelahkfaaGreatDoorC1
import Derived.Test.YtipcbmgelahkfaaGreatDoorC2
import Derived.Test.YtipcbmgelahkfaaGreatDoorC3
import Derived.Test.YtipcbmgelahkfaaGreatDoorC4
import Derived.Test.YtipcbmgelahkfaaGreatDoorC5
set_option linter.unusedVariables false
namespace Go.Proofs.YtipcbmgelahkfaaGreatDoor
open Go Go.SL Go.SL.G Go.WideShapes Go.ChangeShapes
set_option maxRecDepth 100000
set_option maxHeartbeats 4000000
theorem c_all : joinedFacts Tryz.pinned.checked.prog 4 Tryz.f4 Rows.factsAgreeSpec Rows.factsAgreeUptoRow = true := joined_mk (by kernel_rfl) c_laid c_maps (by kernel_rfl) (by kernel_rfl) c_in c_unf c_rec c_named (by kernel_rfl) (by kernel_rfl) (by kernel_rfl) (by kernel_rfl) c_heard c_may c_lift c_make (by kernel_rfl)
theorem rt3 : RdL Tryz.prog 3 8589934592 Int := rdL_int (by decide) Tryz.underlying3
theorem rt22 : RdL Tryz.prog 22 8589934592 (List Int) := rdL_slice (by decide) rt3 Tryz.underlying22 (by kernel_rfl) (by kernel_rfl)
theorem rt9 : RdL Tryz.prog 9 8589934592 Str := rdL_string (by decide) Tryz.underlying9
theorem rt35 : RdL Tryz.prog 35 8589934592 (List Str) := rdL_slice (by decide) rt9 Tryz.underlying35 (by kernel_rfl) (by kernel_rfl)
instance : Lim GStmt := ⟨fun L x => Lim.lim L x.Op ∧ Lim.lim L x.Def ∧ Lim.lim L x.Uses ∧ Lim.lim L x.Targets ∧ True⟩
theorem rt37 : RdL Tryz.prog 37 8589934592 GStmt := ⟨by
  intro H enc w n cs x h hw
  obtain ⟨hl, hf⟩ := trodL_struct_fields Tryz.underlying37 h hw
  rw [show Tryz.prog.cellsOf 37 = 4 by kernel_rfl] at hl
  obtain ⟨q0, q1, q2, q3, rfl⟩ : ∃ q0 q1 q2 q3, cs = [q0, q1, q2, q3] := by
    match cs, hl with
    | [q0, q1, q2, q3], _ => exact ⟨_, _, _, _, rfl⟩
  obtain ⟨m0, y0, t0, u0⟩ := hf 0 _ rfl
  have t0 : DataW.trod enc Tryz.prog w 0 (fun _ => true) true m0 3 (([q0, q1, q2, q3].drop 0).take (Tryz.prog.cellsOf 3)) = some y0 := t0
  have u0 : (y0.1.weights Tryz.prog 3).all (· ≤ 8589934592) = true := u0
  rw [show Tryz.prog.cellsOf 3 = 1 by kernel_rfl] at t0
  have t0 : DataW.trod enc Tryz.prog w 0 (fun _ => true) true m0 3 [q0] = some y0 := t0
  obtain ⟨a0, r0, l0⟩ := rt3.rd t0 u0
  obtain ⟨m1, y1, t1, u1⟩ := hf 1 _ rfl
  have t1 : DataW.trod enc Tryz.prog w 0 (fun _ => true) true m1 9 (([q0, q1, q2, q3].drop 1).take (Tryz.prog.cellsOf 9)) = some y1 := t1
  have u1 : (y1.1.weights Tryz.prog 9).all (· ≤ 8589934592) = true := u1
  rw [show Tryz.prog.cellsOf 9 = 1 by kernel_rfl] at t1
  have t1 : DataW.trod enc Tryz.prog w 0 (fun _ => true) true m1 9 [q1] = some y1 := t1
  obtain ⟨a1, r1, l1⟩ := rt9.rd t1 u1
  obtain ⟨m2, y2, t2, u2⟩ := hf 2 _ rfl
  have t2 : DataW.trod enc Tryz.prog w 0 (fun _ => true) true m2 35 (([q0, q1, q2, q3].drop 2).take (Tryz.prog.cellsOf 35)) = some y2 := t2
  have u2 : (y2.1.weights Tryz.prog 35).all (· ≤ 8589934592) = true := u2
  rw [show Tryz.prog.cellsOf 35 = 1 by kernel_rfl] at t2
  have t2 : DataW.trod enc Tryz.prog w 0 (fun _ => true) true m2 35 [q2] = some y2 := t2
  obtain ⟨a2, r2, l2⟩ := rt35.rd t2 u2
  obtain ⟨m3, y3, t3, u3⟩ := hf 3 _ rfl
  have t3 : DataW.trod enc Tryz.prog w 0 (fun _ => true) true m3 35 (([q0, q1, q2, q3].drop 3).take (Tryz.prog.cellsOf 35)) = some y3 := t3
  have u3 : (y3.1.weights Tryz.prog 35).all (· ≤ 8589934592) = true := u3
  rw [show Tryz.prog.cellsOf 35 = 1 by kernel_rfl] at t3
  have t3 : DataW.trod enc Tryz.prog w 0 (fun _ => true) true m3 35 [q3] = some y3 := t3
  obtain ⟨a3, r3, l3⟩ := rt35.rd t3 u3
  obtain ⟨e, p1⟩ := r0
  cases e
  obtain ⟨e, p2⟩ := r1
  cases e
  obtain ⟨c3, e, p3⟩ := r2
  cases e
  obtain ⟨c4, e, p4⟩ := r3
  cases e
  exact ⟨⟨a0, a1, a2, a3⟩, ⟨_, _, rfl, p1, p2, p3, p4⟩, l0, l1, l2, l3, trivial⟩⟩
theorem rt32 : RdL Tryz.prog 32 8589934592 (List GStmt) := rdL_slice (by decide) rt37 Tryz.underlying32 (by kernel_rfl) (by kernel_rfl)
instance : Lim GBlock := ⟨fun L x => Lim.lim L x.Name ∧ Lim.lim L x.Stmts ∧ True⟩
theorem rt34 : RdL Tryz.prog 34 8589934592 GBlock := ⟨by
  intro H enc w n cs x h hw
  obtain ⟨hl, hf⟩ := trodL_struct_fields Tryz.underlying34 h hw
  rw [show Tryz.prog.cellsOf 34 = 2 by kernel_rfl] at hl
  obtain ⟨q0, q1, rfl⟩ : ∃ q0 q1, cs = [q0, q1] := by
    match cs, hl with
    | [q0, q1], _ => exact ⟨_, _, rfl⟩
  obtain ⟨m0, y0, t0, u0⟩ := hf 0 _ rfl
  have t0 : DataW.trod enc Tryz.prog w 0 (fun _ => true) true m0 9 (([q0, q1].drop 0).take (Tryz.prog.cellsOf 9)) = some y0 := t0
  have u0 : (y0.1.weights Tryz.prog 9).all (· ≤ 8589934592) = true := u0
  rw [show Tryz.prog.cellsOf 9 = 1 by kernel_rfl] at t0
  have t0 : DataW.trod enc Tryz.prog w 0 (fun _ => true) true m0 9 [q0] = some y0 := t0
  obtain ⟨a0, r0, l0⟩ := rt9.rd t0 u0
  obtain ⟨m1, y1, t1, u1⟩ := hf 1 _ rfl
  have t1 : DataW.trod enc Tryz.prog w 0 (fun _ => true) true m1 32 (([q0, q1].drop 1).take (Tryz.prog.cellsOf 32)) = some y1 := t1
  have u1 : (y1.1.weights Tryz.prog 32).all (· ≤ 8589934592) = true := u1
  rw [show Tryz.prog.cellsOf 32 = 1 by kernel_rfl] at t1
  have t1 : DataW.trod enc Tryz.prog w 0 (fun _ => true) true m1 32 [q1] = some y1 := t1
  obtain ⟨a1, r1, l1⟩ := rt32.rd t1 u1
  obtain ⟨e, p1⟩ := r0
  cases e
  obtain ⟨c2, e, p2⟩ := r1
  cases e
  exact ⟨⟨a0, a1⟩, ⟨_, rfl, p1, p2⟩, l0, l1, trivial⟩⟩
theorem rt29 : RdL Tryz.prog 29 8589934592 (List GBlock) := rdL_slice (by decide) rt34 Tryz.underlying29 (by kernel_rfl) (by kernel_rfl)
instance : Lim GFunc := ⟨fun L x => Lim.lim L x.Name ∧ Lim.lim L x.Blocks ∧ True⟩
theorem rt31 : RdL Tryz.prog 31 8589934592 GFunc := ⟨by
  intro H enc w n cs x h hw
  obtain ⟨hl, hf⟩ := trodL_struct_fields Tryz.underlying31 h hw
  rw [show Tryz.prog.cellsOf 31 = 2 by kernel_rfl] at hl
  obtain ⟨q0, q1, rfl⟩ : ∃ q0 q1, cs = [q0, q1] := by
    match cs, hl with
    | [q0, q1], _ => exact ⟨_, _, rfl⟩
  obtain ⟨m0, y0, t0, u0⟩ := hf 0 _ rfl
  have t0 : DataW.trod enc Tryz.prog w 0 (fun _ => true) true m0 9 (([q0, q1].drop 0).take (Tryz.prog.cellsOf 9)) = some y0 := t0
  have u0 : (y0.1.weights Tryz.prog 9).all (· ≤ 8589934592) = true := u0
  rw [show Tryz.prog.cellsOf 9 = 1 by kernel_rfl] at t0
  have t0 : DataW.trod enc Tryz.prog w 0 (fun _ => true) true m0 9 [q0] = some y0 := t0
  obtain ⟨a0, r0, l0⟩ := rt9.rd t0 u0
  obtain ⟨m1, y1, t1, u1⟩ := hf 1 _ rfl
  have t1 : DataW.trod enc Tryz.prog w 0 (fun _ => true) true m1 29 (([q0, q1].drop 1).take (Tryz.prog.cellsOf 29)) = some y1 := t1
  have u1 : (y1.1.weights Tryz.prog 29).all (· ≤ 8589934592) = true := u1
  rw [show Tryz.prog.cellsOf 29 = 1 by kernel_rfl] at t1
  have t1 : DataW.trod enc Tryz.prog w 0 (fun _ => true) true m1 29 [q1] = some y1 := t1
  obtain ⟨a1, r1, l1⟩ := rt29.rd t1 u1
  obtain ⟨e, p1⟩ := r0
  cases e
  obtain ⟨c2, e, p2⟩ := r1
  cases e
  exact ⟨⟨a0, a1⟩, ⟨_, rfl, p1, p2⟩, l0, l1, trivial⟩⟩
theorem rt23 : RdL Tryz.prog 23 8589934592 (List GFunc) := rdL_slice (by decide) rt31 Tryz.underlying23 (by kernel_rfl) (by kernel_rfl)
instance : Lim GProgram := ⟨fun L x => Lim.lim L x.Funcs ∧ True⟩
theorem rt25 : RdL Tryz.prog 25 8589934592 GProgram := ⟨by
  intro H enc w n cs x h hw
  obtain ⟨hl, hf⟩ := trodL_struct_fields Tryz.underlying25 h hw
  rw [show Tryz.prog.cellsOf 25 = 1 by kernel_rfl] at hl
  obtain ⟨q0, rfl⟩ : ∃ q0, cs = [q0] := by
    match cs, hl with
    | [q0], _ => exact ⟨_, rfl⟩
  obtain ⟨m0, y0, t0, u0⟩ := hf 0 _ rfl
  have t0 : DataW.trod enc Tryz.prog w 0 (fun _ => true) true m0 23 (([q0].drop 0).take (Tryz.prog.cellsOf 23)) = some y0 := t0
  have u0 : (y0.1.weights Tryz.prog 23).all (· ≤ 8589934592) = true := u0
  rw [show Tryz.prog.cellsOf 23 = 1 by kernel_rfl] at t0
  have t0 : DataW.trod enc Tryz.prog w 0 (fun _ => true) true m0 23 [q0] = some y0 := t0
  obtain ⟨a0, r0, l0⟩ := rt23.rd t0 u0
  obtain ⟨c1, e, p1⟩ := r0
  cases e
  exact ⟨⟨a0⟩, ⟨_, rfl, p1⟩, l0, trivial⟩⟩
theorem rt78 : RdL Tryz.prog 78 8589934592 (BitVec 64) := rdL_u64 (by decide) Tryz.underlying78
theorem rt45 : RdL Tryz.prog 45 8589934592 (List (BitVec 64)) := rdL_slice (by decide) rt78 Tryz.underlying45 (by kernel_rfl) (by kernel_rfl)
instance : Lim GSet := ⟨fun L x => Lim.lim L x.Width ∧ Lim.lim L x.Words ∧ True⟩
theorem rt47 : RdL Tryz.prog 47 8589934592 GSet := ⟨by
  intro H enc w n cs x h hw
  obtain ⟨hl, hf⟩ := trodL_struct_fields Tryz.underlying47 h hw
  rw [show Tryz.prog.cellsOf 47 = 2 by kernel_rfl] at hl
  obtain ⟨q0, q1, rfl⟩ : ∃ q0 q1, cs = [q0, q1] := by
    match cs, hl with
    | [q0, q1], _ => exact ⟨_, _, rfl⟩
  obtain ⟨m0, y0, t0, u0⟩ := hf 0 _ rfl
  have t0 : DataW.trod enc Tryz.prog w 0 (fun _ => true) true m0 3 (([q0, q1].drop 0).take (Tryz.prog.cellsOf 3)) = some y0 := t0
  have u0 : (y0.1.weights Tryz.prog 3).all (· ≤ 8589934592) = true := u0
  rw [show Tryz.prog.cellsOf 3 = 1 by kernel_rfl] at t0
  have t0 : DataW.trod enc Tryz.prog w 0 (fun _ => true) true m0 3 [q0] = some y0 := t0
  obtain ⟨a0, r0, l0⟩ := rt3.rd t0 u0
  obtain ⟨m1, y1, t1, u1⟩ := hf 1 _ rfl
  have t1 : DataW.trod enc Tryz.prog w 0 (fun _ => true) true m1 45 (([q0, q1].drop 1).take (Tryz.prog.cellsOf 45)) = some y1 := t1
  have u1 : (y1.1.weights Tryz.prog 45).all (· ≤ 8589934592) = true := u1
  rw [show Tryz.prog.cellsOf 45 = 1 by kernel_rfl] at t1
  have t1 : DataW.trod enc Tryz.prog w 0 (fun _ => true) true m1 45 [q1] = some y1 := t1
  obtain ⟨a1, r1, l1⟩ := rt45.rd t1 u1
  obtain ⟨e, p1⟩ := r0
  cases e
  obtain ⟨c2, e, p2⟩ := r1
  cases e
  exact ⟨⟨a0, a1⟩, ⟨_, rfl, p1, p2⟩, l0, l1, trivial⟩⟩
instance : Lim GFact := ⟨fun L x => Lim.lim L x.Node ∧ Lim.lim L x.Var ∧ True⟩
theorem rt49 : RdL Tryz.prog 49 8589934592 GFact := ⟨by
  intro H enc w n cs x h hw
  obtain ⟨hl, hf⟩ := trodL_struct_fields Tryz.underlying49 h hw
  rw [show Tryz.prog.cellsOf 49 = 2 by kernel_rfl] at hl
  obtain ⟨q0, q1, rfl⟩ : ∃ q0 q1, cs = [q0, q1] := by
    match cs, hl with
    | [q0, q1], _ => exact ⟨_, _, rfl⟩
  obtain ⟨m0, y0, t0, u0⟩ := hf 0 _ rfl
  have t0 : DataW.trod enc Tryz.prog w 0 (fun _ => true) true m0 3 (([q0, q1].drop 0).take (Tryz.prog.cellsOf 3)) = some y0 := t0
  have u0 : (y0.1.weights Tryz.prog 3).all (· ≤ 8589934592) = true := u0
  rw [show Tryz.prog.cellsOf 3 = 1 by kernel_rfl] at t0
  have t0 : DataW.trod enc Tryz.prog w 0 (fun _ => true) true m0 3 [q0] = some y0 := t0
  obtain ⟨a0, r0, l0⟩ := rt3.rd t0 u0
  obtain ⟨m1, y1, t1, u1⟩ := hf 1 _ rfl
  have t1 : DataW.trod enc Tryz.prog w 0 (fun _ => true) true m1 3 (([q0, q1].drop 1).take (Tryz.prog.cellsOf 3)) = some y1 := t1
  have u1 : (y1.1.weights Tryz.prog 3).all (· ≤ 8589934592) = true := u1
  rw [show Tryz.prog.cellsOf 3 = 1 by kernel_rfl] at t1
  have t1 : DataW.trod enc Tryz.prog w 0 (fun _ => true) true m1 3 [q1] = some y1 := t1
  obtain ⟨a1, r1, l1⟩ := rt3.rd t1 u1
  obtain ⟨e, p1⟩ := r0
  cases e
  obtain ⟨e, p2⟩ := r1
  cases e
  exact ⟨⟨a0, a1⟩, ⟨rfl, p1, p2⟩, l0, l1, trivial⟩⟩
theorem PSm_lim {p : GProgram} (h : Lim.lim 8589934592 p) : PSm p = true := by
  unfold PSm
  refine List.all_eq_true.2 fun f hf => ?_
  have hf' := (h.1.2 f hf).2.1.2
  unfold FSm
  refine List.all_eq_true.2 fun b hb => ?_
  have hb' := (hf' b hb).2.1.2
  unfold BSm
  refine List.all_eq_true.2 fun s hs => ?_
  have hs' := hb' s hs
  have h1 := hs'.2.2.1.1
  have h2 := hs'.2.2.2.1.1
  change s.Uses.length * 16 ≤ 8589934592 at h1
  change s.Targets.length * 16 ≤ 8589934592 at h2
  unfold SSm
  simp only [Bool.and_eq_true, decide_eq_true_eq]
  omega
theorem bkR (H : Type) : Bulk H Rows.uptoBulk Rows.uptoBulkAll Rows.uptoBulkEntries Rows.uptoBulkEntry where
  str b := by simp only [Rows.uptoBulk]
  one d := by cases d with
    | lit l => cases l <;> simp [Rows.uptoBulk]
    | _ => simp [Rows.uptoBulk]
  ptr d := by simp only [Rows.uptoBulk]
  sl e r := by simp only [Rows.uptoBulk]
  agg l := by simp only [Rows.uptoBulk]
  map l := by simp only [Rows.uptoBulk]
  nil := by simp only [Rows.uptoBulkAll]
  cons d r := by simp only [Rows.uptoBulkAll]
  enil := by simp only [Rows.uptoBulkEntries]
  econs x r := by simp only [Rows.uptoBulkEntries]
  estr b d := by simp only [Rows.uptoBulkEntry]
  eone l d := by cases l <;> simp only [Rows.uptoBulkEntry] <;> omega
theorem up_ok : upOk Tryz.prog 178 = true := by kernel_rfl
set_option maxHeartbeats 4000000 in
set_option maxRecDepth 100000 in
theorem factsAgree_holds : Rows.FactsAgreeUptoSaid := by
  refine law_holdsLU 4 Tryz.f4 (tb := 4) rfl rfl rfl rfl rfl rfl rfl ⟨rfl, rfl, rfl, rfl, rfl⟩ rfl rfl rfl rfl rfl rfl rfl rfl rfl c_fn Tryz.func4 c_all
    (of_decide_eq_true (by kernel_rfl)) (by unfold Func.isWrapper; first | (rw [if_pos (by decide +kernel)]; kernel_rfl) | (rw [if_neg (by decide +kernel)]; exact ⟨rfl, rfl⟩)) (by kernel_rfl) (by kernel_rfl)
    ⟨rfl, fun H ds hd => ?_⟩ c_laid (by kernel_rfl) rfl Tryz.underlying4 (fun os started H enc => wt_shapedU (enc := enc) (C := Tryz.checked) (os := os) (k := Rows.uptoSmall) (X := fun w _ => laidMetH Tryz.prog Rows.factsAgreeUptoRow.laid w) (World.doorLaid Tryz.prog 400 os) #[.slice none 0 0, .agg #[.slice none 0 0], vi 0, .agg #[vi 0, .slice none 0 0], .agg #[vi 0, vi 0]] 30 rfl (World.shaped_of_RefB (by kernel_rfl) (by kernel_rfl)) (by kernel_rfl) (by kernel_rfl) (by kernel_rfl) (laidMetH_of_parts3 (fuel := 8) (laidMet_of_run' 8 (by kernel_rfl) (by kernel_rfl)) (by kernel_rfl) (by kernel_rfl))) ?_
  · have hd : ds.length = 5 := hd
    match ds, hd with
    | [d0, d1, d2, d3, d4], _ => rfl
  · intro H enc W base args ds ps hval hA hw hk hL
    have hw : (DataW.weightsEach Tryz.prog Tryz.f4.params.toList ds).all (· ≤ 8589934592) = true := bulk_we (bkR H) up_ok ds _ 1048576 (by rw [Tryz.params4]; decide) (of_decide_eq_true hk)
    rw [Tryz.params4] at hA hw hval
    obtain ⟨v0, vs0, d0, ds0, p0, z0, hargs0, rfl, rfl, t0, hA0⟩ := trodAll_cons hA
    obtain ⟨v1, vs1, d1, ds1, p1, z1, hargs1, rfl, rfl, t1, hA1⟩ := trodAll_cons hA0
    obtain ⟨v2, vs2, d2, ds2, p2, z2, hargs2, rfl, rfl, t2, hA2⟩ := trodAll_cons hA1
    obtain ⟨v3, vs3, d3, ds3, p3, z3, hargs3, rfl, rfl, t3, hA3⟩ := trodAll_cons hA2
    obtain ⟨v4, vs4, d4, ds4, p4, z4, hargs4, rfl, rfl, t4, hA4⟩ := trodAll_cons hA3
    obtain ⟨e1, rfl, rfl⟩ := trodAll_nil hA4
    subst e1
    subst hargs4
    subst hargs3
    subst hargs2
    subst hargs1
    obtain rfl : args = #[v0, v1, v2, v3, v4] := by cases args; simp_all
    simp only [DataW.weightsEach, List.all_append, Bool.and_eq_true] at hw
    obtain ⟨w0, w1, w2, w3, w4, _⟩ := hw
    obtain ⟨x0, a0, k0, rfl, h0, lm0⟩ := argL_slice rt22 Tryz.underlying22 (hval 0 22 v0 rfl rfl) t0 w0
    obtain ⟨x1, cs1, rfl, r1, lm1⟩ := argL_struct rt25 Tryz.underlying25 (hval 1 25 v1 rfl rfl) t1 w1
    obtain ⟨c1_0, rfl, g1_0⟩ := r1
    obtain ⟨a1_0, k1_0, rfl, s1_0⟩ := slrd_open g1_0
    obtain ⟨x2, rfl, h2⟩ := arg_int Tryz.underlying3 (hval 2 3 v2 rfl rfl) t2 (all_mono (by decide) w2)
    obtain ⟨x3, cs3, rfl, r3, lm3⟩ := argL_struct rt47 Tryz.underlying47 (hval 3 47 v3 rfl rfl) t3 w3
    obtain ⟨c3_1, rfl, g3_0, g3_1⟩ := r3
    obtain ⟨a3_1, k3_1, rfl, s3_1⟩ := slrd_open g3_1
    obtain ⟨x4, cs4, rfl, r4, lm4⟩ := argL_struct rt49 Tryz.underlying49 (hval 4 49 v4 rfl rfl) t4 w4
    obtain ⟨rfl, g4_0, g4_1⟩ := r4
    obtain ⟨ga0, gk0, hg0⟩ := laid_strs (T := 35) (e := 9) (g := 0) (nm := "flowquery/lexer.keywords") (L := kwL) Tryz.underlying35 Tryz.underlying9 (by kernel_rfl) (by kernel_rfl) (by kernel_rfl) (by unfold kwL; simp) (by decide) (by decide) (laid_tail (by kernel_rfl) (laid_tail (by kernel_rfl) (laid_tail (by kernel_rfl) hL)))
    have hg1 := laid_tab (T := 145) (e := 5) (g := 1) (nm := "math/bits.deBruijn64tab") (k := .u8) (L := tzT) Tryz.underlying145 Tryz.underlying5 (by kernel_rfl) (by kernel_rfl) (by kernel_rfl) (by kernel_rfl) (by decide) (by kernel_rfl) (laid_tail (by kernel_rfl) hL)
    exact ⟨_, Unit, _, _, (sepAll_p rfl h0 (sepAll_p rfl s1_0 (sepAll_p rfl s3_1 (sepAll_app (hg0 _) (hg1 _))))), fn4 x0 a0 k0 x1 a1_0 k1_0 x2 x3 a3_1 k3_1 x4 ga0 gk0 h2 g3_0 g4_0 g4_1 (PSm_lim lm1) true (FactsAgree_true x0 x1 x2 x3 x4)⟩
set_option maxRecDepth 100000 in
theorem factsAgreeUptoCard_holds : Rows.FactsAgreeUptoCardSaid :=
  Claim7.holds_tied_plain_at .later [] [.data, .data, .data, .widerDeep] true (true, "daad291f870143bc87433f0be2cc71348f826bb7ce088e65cae2e8106c745251") false
    factsAgree_holds (fun _ h => by cases h) (by kernel_rfl) (fun _ h => by cases h) factsAgreeUpto_row_tie rfl ⟨rfl, rfl⟩ (by kernel_rfl) rfl
    (fun f fn hf hfn => by
      obtain rfl : f = 4 := Option.some.inj ((show Tryz.prog.funcNamed "flowquery/flqlaw9.FactsAgree" = some 4 by kernel_rfl).symm.trans hf) |>.symm
      obtain rfl : fn = Tryz.f4 := (Option.some.inj (Tryz.func4.symm.trans hfn)).symm
      exact ⟨by kernel_rfl, fun j t ht => by
        rw [Tryz.params4] at ht
        rcases j with _ | _ | _ | _ | _ | j
        · obtain rfl : 22 = t := by simpa using ht
          exact (show Tryz.prog.wantsStandIn 22 = false by kernel_rfl)
        · obtain rfl : 25 = t := by simpa using ht
          exact (show Tryz.prog.wantsStandIn 25 = false by kernel_rfl)
        · obtain rfl : 3 = t := by simpa using ht
          exact (show Tryz.prog.wantsStandIn 3 = false by kernel_rfl)
        · obtain rfl : 47 = t := by simpa using ht
          exact (show Tryz.prog.wantsStandIn 47 = false by kernel_rfl)
        · obtain rfl : 49 = t := by simpa using ht
          exact (show Tryz.prog.wantsStandIn 49 = false by kernel_rfl)
        · simp at ht⟩)
    (by kernel_rfl)
end Go.Proofs.YtipcbmgelahkfaaGreatDoor
