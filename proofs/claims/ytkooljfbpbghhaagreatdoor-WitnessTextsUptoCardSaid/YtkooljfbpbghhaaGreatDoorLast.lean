/- WitnessTexts of flqlaw16 holds: for every input the law answers true and leaves its arguments as they were. Conditions: what the law reads is of bulk at most 1048576 (the row own condition); none beyond the given row's own. -/
import Derived.Test.YtkooljfbpbghhaaGreatDoorW6
import Derived.Test.YtkooljfbpbghhaaGreatDoorRows
import Derived.Test.YtkooljfbpbghhaaGreatDoorTie
import Derived.Test.YtkooljfbpbghhaaGreatDoorCards
import Derived.SevenTiedAt
import Derived.Test.YtkooljfbpbghhaaGreatDoorC0
import Derived.Test.YtkooljfbpbghhaaGreatDoorC1
import Derived.Test.YtkooljfbpbghhaaGreatDoorC2
import Derived.Test.YtkooljfbpbghhaaGreatDoorC3
import Derived.Test.YtkooljfbpbghhaaGreatDoorC4
import Derived.Test.YtkooljfbpbghhaaGreatDoorC5
set_option linter.unusedVariables false
namespace Go.Proofs.YtkooljfbpbghhaaGreatDoor
open Go Go.SL Go.SL.G Go.WideShapes Go.ChangeShapes
set_option maxRecDepth 100000
set_option maxHeartbeats 4000000
theorem c_all : joinedFacts Tryz.pinned.checked.prog 3 Tryz.f3 Rows.witnessTextsSpec Rows.witnessTextsUptoRow = true := mA (by kernel_rfl) c_laid c_maps (by kernel_rfl) (by kernel_rfl) c_in c_unf c_rec c_named (by kernel_rfl) (by kernel_rfl) (by kernel_rfl) (by kernel_rfl) c_heard c_may c_lift c_make (by kernel_rfl)
theorem rt3 : RdL Tryz.prog 3 8589934592 Int := fE (by decide) Tryz.underlying3
theorem rt22 : RdL Tryz.prog 22 8589934592 (List Int) := Pm (by decide) rt3 Tryz.underlying22 (by kernel_rfl) (by kernel_rfl)
theorem rt9 : RdL Tryz.prog 9 8589934592 Aa := lV (by decide) Tryz.underlying9
theorem rt52 : RdL Tryz.prog 52 8589934592 (List Aa) := Pm (by decide) rt9 Tryz.underlying52 (by kernel_rfl) (by kernel_rfl)
instance : Lim Az := ⟨fun L x => Lim.lim L x.Op ∧ Lim.lim L x.Def ∧ Lim.lim L x.Uses ∧ Lim.lim L x.Targets ∧ True⟩
theorem rt60 : RdL Tryz.prog 60 8589934592 Az := ⟨by
  intro H enc w n cs x h hw
  obtain ⟨hl, hf⟩ := PY Tryz.underlying60 h hw
  rw [show Tryz.prog.cellsOf 60 = 4 by kernel_rfl] at hl
  obtain ⟨q0, q1, q2, q3, rfl⟩ : ∃ q0 q1 q2 q3, cs = [q0, q1, q2, q3] := by
    match cs, hl with
    | [q0, q1, q2, q3], _ => exact ⟨_, _, _, _, rfl⟩
  obtain ⟨m0, y0, t0, u0⟩ := hf 0 _ rfl
  have t0 : DataW.trod enc Tryz.prog w 0 (fun _ => true) true m0 3 (([q0, q1, q2, q3].drop 0).take (Tryz.prog.cellsOf 3)) = some y0 := t0
  have u0 : (y0.1.weights Tryz.prog 3).all (· ≤ 8589934592) = true := u0
  rw [show Tryz.prog.cellsOf 3 = 1 by kernel_rfl] at t0
  have t0 : DataW.trod enc Tryz.prog w 0 (fun _ => true) true m0 3 [q0] = some y0 := t0
  obtain ⟨a0, r0, l0⟩ := rt3.rd t0 u0
  obtain ⟨m1, y1, t1, u1⟩ := hf 1 _ rfl
  have t1 : DataW.trod enc Tryz.prog w 0 (fun _ => true) true m1 9 (([q0, q1, q2, q3].drop 1).take (Tryz.prog.cellsOf 9)) = some y1 := t1
  have u1 : (y1.1.weights Tryz.prog 9).all (· ≤ 8589934592) = true := u1
  rw [show Tryz.prog.cellsOf 9 = 1 by kernel_rfl] at t1
  have t1 : DataW.trod enc Tryz.prog w 0 (fun _ => true) true m1 9 [q1] = some y1 := t1
  obtain ⟨a1, r1, l1⟩ := rt9.rd t1 u1
  obtain ⟨m2, y2, t2, u2⟩ := hf 2 _ rfl
  have t2 : DataW.trod enc Tryz.prog w 0 (fun _ => true) true m2 52 (([q0, q1, q2, q3].drop 2).take (Tryz.prog.cellsOf 52)) = some y2 := t2
  have u2 : (y2.1.weights Tryz.prog 52).all (· ≤ 8589934592) = true := u2
  rw [show Tryz.prog.cellsOf 52 = 1 by kernel_rfl] at t2
  have t2 : DataW.trod enc Tryz.prog w 0 (fun _ => true) true m2 52 [q2] = some y2 := t2
  obtain ⟨a2, r2, l2⟩ := rt52.rd t2 u2
  obtain ⟨m3, y3, t3, u3⟩ := hf 3 _ rfl
  have t3 : DataW.trod enc Tryz.prog w 0 (fun _ => true) true m3 52 (([q0, q1, q2, q3].drop 3).take (Tryz.prog.cellsOf 52)) = some y3 := t3
  have u3 : (y3.1.weights Tryz.prog 52).all (· ≤ 8589934592) = true := u3
  rw [show Tryz.prog.cellsOf 52 = 1 by kernel_rfl] at t3
  have t3 : DataW.trod enc Tryz.prog w 0 (fun _ => true) true m3 52 [q3] = some y3 := t3
  obtain ⟨a3, r3, l3⟩ := rt52.rd t3 u3
  obtain ⟨e, p1⟩ := r0
  cases e
  obtain ⟨e, p2⟩ := r1
  cases e
  obtain ⟨c3, e, p3⟩ := r2
  cases e
  obtain ⟨c4, e, p4⟩ := r3
  cases e
  exact ⟨⟨a0, a1, a2, a3⟩, ⟨_, _, rfl, p1, p2, p3, p4⟩, l0, l1, l2, l3, trivial⟩⟩
theorem rt56 : RdL Tryz.prog 56 8589934592 (List Az) := Pm (by decide) rt60 Tryz.underlying56 (by kernel_rfl) (by kernel_rfl)
instance : Lim A3 := ⟨fun L x => Lim.lim L x.Name ∧ Lim.lim L x.Stmts ∧ True⟩
theorem rt58 : RdL Tryz.prog 58 8589934592 A3 := ⟨by
  intro H enc w n cs x h hw
  obtain ⟨hl, hf⟩ := PY Tryz.underlying58 h hw
  rw [show Tryz.prog.cellsOf 58 = 2 by kernel_rfl] at hl
  obtain ⟨q0, q1, rfl⟩ : ∃ q0 q1, cs = [q0, q1] := by
    match cs, hl with
    | [q0, q1], _ => exact ⟨_, _, rfl⟩
  obtain ⟨m0, y0, t0, u0⟩ := hf 0 _ rfl
  have t0 : DataW.trod enc Tryz.prog w 0 (fun _ => true) true m0 9 (([q0, q1].drop 0).take (Tryz.prog.cellsOf 9)) = some y0 := t0
  have u0 : (y0.1.weights Tryz.prog 9).all (· ≤ 8589934592) = true := u0
  rw [show Tryz.prog.cellsOf 9 = 1 by kernel_rfl] at t0
  have t0 : DataW.trod enc Tryz.prog w 0 (fun _ => true) true m0 9 [q0] = some y0 := t0
  obtain ⟨a0, r0, l0⟩ := rt9.rd t0 u0
  obtain ⟨m1, y1, t1, u1⟩ := hf 1 _ rfl
  have t1 : DataW.trod enc Tryz.prog w 0 (fun _ => true) true m1 56 (([q0, q1].drop 1).take (Tryz.prog.cellsOf 56)) = some y1 := t1
  have u1 : (y1.1.weights Tryz.prog 56).all (· ≤ 8589934592) = true := u1
  rw [show Tryz.prog.cellsOf 56 = 1 by kernel_rfl] at t1
  have t1 : DataW.trod enc Tryz.prog w 0 (fun _ => true) true m1 56 [q1] = some y1 := t1
  obtain ⟨a1, r1, l1⟩ := rt56.rd t1 u1
  obtain ⟨e, p1⟩ := r0
  cases e
  obtain ⟨c2, e, p2⟩ := r1
  cases e
  exact ⟨⟨a0, a1⟩, ⟨_, rfl, p1, p2⟩, l0, l1, trivial⟩⟩
theorem rt53 : RdL Tryz.prog 53 8589934592 (List A3) := Pm (by decide) rt58 Tryz.underlying53 (by kernel_rfl) (by kernel_rfl)
instance : Lim A7 := ⟨fun L x => Lim.lim L x.Name ∧ Lim.lim L x.Blocks ∧ True⟩
theorem rt55 : RdL Tryz.prog 55 8589934592 A7 := ⟨by
  intro H enc w n cs x h hw
  obtain ⟨hl, hf⟩ := PY Tryz.underlying55 h hw
  rw [show Tryz.prog.cellsOf 55 = 2 by kernel_rfl] at hl
  obtain ⟨q0, q1, rfl⟩ : ∃ q0 q1, cs = [q0, q1] := by
    match cs, hl with
    | [q0, q1], _ => exact ⟨_, _, rfl⟩
  obtain ⟨m0, y0, t0, u0⟩ := hf 0 _ rfl
  have t0 : DataW.trod enc Tryz.prog w 0 (fun _ => true) true m0 9 (([q0, q1].drop 0).take (Tryz.prog.cellsOf 9)) = some y0 := t0
  have u0 : (y0.1.weights Tryz.prog 9).all (· ≤ 8589934592) = true := u0
  rw [show Tryz.prog.cellsOf 9 = 1 by kernel_rfl] at t0
  have t0 : DataW.trod enc Tryz.prog w 0 (fun _ => true) true m0 9 [q0] = some y0 := t0
  obtain ⟨a0, r0, l0⟩ := rt9.rd t0 u0
  obtain ⟨m1, y1, t1, u1⟩ := hf 1 _ rfl
  have t1 : DataW.trod enc Tryz.prog w 0 (fun _ => true) true m1 53 (([q0, q1].drop 1).take (Tryz.prog.cellsOf 53)) = some y1 := t1
  have u1 : (y1.1.weights Tryz.prog 53).all (· ≤ 8589934592) = true := u1
  rw [show Tryz.prog.cellsOf 53 = 1 by kernel_rfl] at t1
  have t1 : DataW.trod enc Tryz.prog w 0 (fun _ => true) true m1 53 [q1] = some y1 := t1
  obtain ⟨a1, r1, l1⟩ := rt53.rd t1 u1
  obtain ⟨e, p1⟩ := r0
  cases e
  obtain ⟨c2, e, p2⟩ := r1
  cases e
  exact ⟨⟨a0, a1⟩, ⟨_, rfl, p1, p2⟩, l0, l1, trivial⟩⟩
theorem rt23 : RdL Tryz.prog 23 8589934592 (List A7) := Pm (by decide) rt55 Tryz.underlying23 (by kernel_rfl) (by kernel_rfl)
instance : Lim Aw := ⟨fun L x => Lim.lim L x.Funcs ∧ True⟩
theorem rt25 : RdL Tryz.prog 25 8589934592 Aw := ⟨by
  intro H enc w n cs x h hw
  obtain ⟨hl, hf⟩ := PY Tryz.underlying25 h hw
  rw [show Tryz.prog.cellsOf 25 = 1 by kernel_rfl] at hl
  obtain ⟨q0, rfl⟩ : ∃ q0, cs = [q0] := by
    match cs, hl with
    | [q0], _ => exact ⟨_, rfl⟩
  obtain ⟨m0, y0, t0, u0⟩ := hf 0 _ rfl
  have t0 : DataW.trod enc Tryz.prog w 0 (fun _ => true) true m0 23 (([q0].drop 0).take (Tryz.prog.cellsOf 23)) = some y0 := t0
  have u0 : (y0.1.weights Tryz.prog 23).all (· ≤ 8589934592) = true := u0
  rw [show Tryz.prog.cellsOf 23 = 1 by kernel_rfl] at t0
  have t0 : DataW.trod enc Tryz.prog w 0 (fun _ => true) true m0 23 [q0] = some y0 := t0
  obtain ⟨a0, r0, l0⟩ := rt23.rd t0 u0
  obtain ⟨c1, e, p1⟩ := r0
  cases e
  exact ⟨⟨a0⟩, ⟨_, rfl, p1⟩, l0, trivial⟩⟩
instance : Lim Ao := ⟨fun L x => Lim.lim L x.Node ∧ Lim.lim L x.Bit ∧ True⟩
theorem rt42 : RdL Tryz.prog 42 8589934592 Ao := ⟨by
  intro H enc w n cs x h hw
  obtain ⟨hl, hf⟩ := PY Tryz.underlying42 h hw
  rw [show Tryz.prog.cellsOf 42 = 2 by kernel_rfl] at hl
  obtain ⟨q0, q1, rfl⟩ : ∃ q0 q1, cs = [q0, q1] := by
    match cs, hl with
    | [q0, q1], _ => exact ⟨_, _, rfl⟩
  obtain ⟨m0, y0, t0, u0⟩ := hf 0 _ rfl
  have t0 : DataW.trod enc Tryz.prog w 0 (fun _ => true) true m0 3 (([q0, q1].drop 0).take (Tryz.prog.cellsOf 3)) = some y0 := t0
  have u0 : (y0.1.weights Tryz.prog 3).all (· ≤ 8589934592) = true := u0
  rw [show Tryz.prog.cellsOf 3 = 1 by kernel_rfl] at t0
  have t0 : DataW.trod enc Tryz.prog w 0 (fun _ => true) true m0 3 [q0] = some y0 := t0
  obtain ⟨a0, r0, l0⟩ := rt3.rd t0 u0
  obtain ⟨m1, y1, t1, u1⟩ := hf 1 _ rfl
  have t1 : DataW.trod enc Tryz.prog w 0 (fun _ => true) true m1 3 (([q0, q1].drop 1).take (Tryz.prog.cellsOf 3)) = some y1 := t1
  have u1 : (y1.1.weights Tryz.prog 3).all (· ≤ 8589934592) = true := u1
  rw [show Tryz.prog.cellsOf 3 = 1 by kernel_rfl] at t1
  have t1 : DataW.trod enc Tryz.prog w 0 (fun _ => true) true m1 3 [q1] = some y1 := t1
  obtain ⟨a1, r1, l1⟩ := rt3.rd t1 u1
  obtain ⟨e, p1⟩ := r0
  cases e
  obtain ⟨e, p2⟩ := r1
  cases e
  exact ⟨⟨a0, a1⟩, ⟨rfl, p1, p2⟩, l0, l1, trivial⟩⟩
theorem rt26 : RdL Tryz.prog 26 8589934592 (List Ao) := Pm (by decide) rt42 Tryz.underlying26 (by kernel_rfl) (by kernel_rfl)
theorem PSm_lim {p : Aw} (h : Lim.lim 8589934592 p) : Ez p = true := by
  unfold Ez
  refine List.all_eq_true.2 fun f hf => ?_
  have hf' := (h.1.2 f hf).2.1.2
  unfold Qj
  refine List.all_eq_true.2 fun b hb => ?_
  have hb' := (hf' b hb).2.1.2
  unfold PT
  refine List.all_eq_true.2 fun s hs => ?_
  have hs' := hb' s hs
  have h1 := hs'.2.2.1.1
  have h2 := hs'.2.2.2.1.1
  change s.Uses.length * 16 ≤ 8589934592 at h1
  change s.Targets.length * 16 ≤ 8589934592 at h2
  unfold K3
  simp only [Bool.and_eq_true, decide_eq_true_eq]
  omega
theorem bkR (H : Type) : Np H Rows.uptoBulk Rows.uptoBulkAll Rows.uptoBulkEntries Rows.uptoBulkEntry where
  str b := by simp only [Rows.uptoBulk]
  one d := by cases d with
    | lit l => cases l <;> simp [Rows.uptoBulk]
    | _ => simp [Rows.uptoBulk]
  ptr d := by simp only [Rows.uptoBulk]
  sl e r := by simp only [Rows.uptoBulk]
  agg l := by simp only [Rows.uptoBulk]
  map l := by simp only [Rows.uptoBulk]
  nil := by simp only [Rows.uptoBulkAll]
  cons d r := by simp only [Rows.uptoBulkAll]
  enil := by simp only [Rows.uptoBulkEntries]
  econs x r := by simp only [Rows.uptoBulkEntries]
  estr b d := by simp only [Rows.uptoBulkEntry]
  eone l d := by cases l <;> simp only [Rows.uptoBulkEntry] <;> omega
theorem up_ok : NJ Tryz.prog 251 = true := by kernel_rfl
set_option maxHeartbeats 4000000 in
set_option maxRecDepth 100000 in
theorem witnessTexts_holds : Rows.WitnessTextsUptoSaid := by
  refine kC 3 Tryz.f3 (tb := 4) rfl rfl rfl rfl rfl rfl rfl ⟨rfl, rfl, rfl, rfl, rfl⟩ rfl rfl rfl rfl rfl rfl rfl rfl rfl c_fn Tryz.func3 c_all
    (of_decide_eq_true (by kernel_rfl)) (by unfold Func.isWrapper; first | (rw [if_pos (by decide +kernel)]; kernel_rfl) | (rw [if_neg (by decide +kernel)]; exact ⟨rfl, rfl⟩)) (by kernel_rfl) (by kernel_rfl)
    ⟨rfl, fun H ds hd => ?_⟩ c_laid (by kernel_rfl) rfl Tryz.underlying4 (fun os started H enc => qF (enc := enc) (C := Tryz.checked) (os := os) (k := Rows.uptoSmall) (X := fun w _ => laidMetH Tryz.prog Rows.witnessTextsUptoRow.laid w) (World.doorLaid Tryz.prog 400 os) #[.slice none 0 0, .agg #[.slice none 0 0], vi 0, .slice none 0 0] 30 rfl (World.shaped_of_RefB (by kernel_rfl) (by kernel_rfl)) (by kernel_rfl) (by kernel_rfl) (by kernel_rfl) (laidMetH_of_parts3 (fuel := 8) (laidMet_of_run' 8 (by kernel_rfl) (by kernel_rfl)) (by kernel_rfl) (by kernel_rfl))) ?_
  · have hd : ds.length = 4 := hd
    match ds, hd with
    | [d0, d1, d2, d3], _ => rfl
  · intro H enc W base args ds ps hval hA hw hk hL
    have hw : (DataW.weightsEach Tryz.prog Tryz.f3.params.toList ds).all (· ≤ 8589934592) = true := Up (bkR H) up_ok ds _ 1048576 (by rw [Tryz.params3]; decide) (of_decide_eq_true hk)
    rw [Tryz.params3] at hA hw hval
    obtain ⟨v0, vs0, d0, ds0, p0, z0, hargs0, rfl, rfl, t0, hA0⟩ := trodAll_cons hA
    obtain ⟨v1, vs1, d1, ds1, p1, z1, hargs1, rfl, rfl, t1, hA1⟩ := trodAll_cons hA0
    obtain ⟨v2, vs2, d2, ds2, p2, z2, hargs2, rfl, rfl, t2, hA2⟩ := trodAll_cons hA1
    obtain ⟨v3, vs3, d3, ds3, p3, z3, hargs3, rfl, rfl, t3, hA3⟩ := trodAll_cons hA2
    obtain ⟨e1, rfl, rfl⟩ := trodAll_nil hA3
    subst e1
    subst hargs3
    subst hargs2
    subst hargs1
    obtain rfl : args = #[v0, v1, v2, v3] := by cases args; simp_all
    simp only [DataW.weightsEach, List.all_append, Bool.and_eq_true] at hw
    obtain ⟨w0, w1, w2, w3, _⟩ := hw
    obtain ⟨x0, a0, k0, rfl, h0, lm0⟩ := Y0 rt22 Tryz.underlying22 (hval 0 22 v0 rfl rfl) t0 w0
    obtain ⟨x1, cs1, rfl, r1, lm1⟩ := m6 rt25 Tryz.underlying25 (hval 1 25 v1 rfl rfl) t1 w1
    obtain ⟨xU, rfl, wU⟩ := r1
    obtain ⟨wV, wW, rfl, wX⟩ := iN wU
    obtain ⟨x2, rfl, h2⟩ := nO Tryz.underlying3 (hval 2 3 v2 rfl rfl) t2 (YJ (by decide) w2)
    obtain ⟨x3, a3, k3, rfl, h3, lm3⟩ := Y0 rt26 Tryz.underlying26 (hval 3 26 v3 rfl rfl) t3 w3
    have hg0 := lL (T := 199) (e := 5) (g := 0) (nm := "math/bits.deBruijn64tab") (k := .u8) (L := Gs) Tryz.underlying199 Tryz.underlying5 (by kernel_rfl) (by kernel_rfl) (by kernel_rfl) (by kernel_rfl) (by decide) (by kernel_rfl) (Rf (by kernel_rfl) hL)
    obtain ⟨ga1, gk1, hg1⟩ := kO (T := 52) (e := 9) (g := 1) (nm := "flowquery/lexer.keywords") (L := AQ) Tryz.underlying52 Tryz.underlying9 (by kernel_rfl) (by kernel_rfl) (by kernel_rfl) (by unfold AQ; simp) (by decide) (by decide) (Rf (by kernel_rfl) (Rf (by kernel_rfl) (Rf (by kernel_rfl) hL)))
    exact ⟨_, Unit, _, _, (Ox rfl h0 (Ox rfl wX (Ox rfl h3 (ZH (hg0 _) (hg1 _))))), oK x0 a0 k0 x1 wV wW x2 x3 a3 k3 ga1 gk1 h2 (PSm_lim lm1) true (iF x0 x1 x2 x3)⟩
set_option maxRecDepth 100000 in
theorem witnessTextsUptoCard_holds : Rows.WitnessTextsUptoCardSaid :=
  Claim7.holds_tied_plain_at .later [] [.data, .data, .data, .widerDeep] true (true, "260ce826d0c7bde95eedc3417db547538238d394cea8801b19f73e85f28ebbcc") false
    witnessTexts_holds (fun _ h => by cases h) (by kernel_rfl) (fun _ h => by cases h) witnessTextsUpto_row_tie rfl ⟨rfl, rfl⟩ (by kernel_rfl) rfl
    (fun f fn hf hfn => by
      obtain rfl : f = 3 := Option.some.inj ((show Tryz.prog.funcNamed "flowquery/flqlaw16.WitnessTexts" = some 3 by kernel_rfl).symm.trans hf) |>.symm
      obtain rfl : fn = Tryz.f3 := (Option.some.inj (Tryz.func3.symm.trans hfn)).symm
      exact ⟨by kernel_rfl, fun j t ht => by
        rw [Tryz.params3] at ht
        rcases j with _ | _ | _ | _ | j
        · obtain rfl : 22 = t := by simpa using ht
          exact (show Tryz.prog.wantsStandIn 22 = false by kernel_rfl)
        · obtain rfl : 25 = t := by simpa using ht
          exact (show Tryz.prog.wantsStandIn 25 = false by kernel_rfl)
        · obtain rfl : 3 = t := by simpa using ht
          exact (show Tryz.prog.wantsStandIn 3 = false by kernel_rfl)
        · obtain rfl : 26 = t := by simpa using ht
          exact (show Tryz.prog.wantsStandIn 26 = false by kernel_rfl)
        · simp at ht⟩)
    (by kernel_rfl)
end Go.Proofs.YtkooljfbpbghhaaGreatDoor
