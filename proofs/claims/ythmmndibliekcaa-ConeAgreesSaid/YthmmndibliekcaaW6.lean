/- Part 6 of the walks: mirrors, plain laws and walks used by the last text of this claim. -/
import Derived.Test.YthmmndibliekcaaW5
import Derived.Test.YthmmndibliekcaaProg
set_option linter.unusedVariables false
set_option linter.unusedSimpArgs false
namespace Go.SL.G
open Go Go.SL Go.Proofs
set_option maxHeartbeats 20000000 in
set_option maxRecDepth 100000 in
/- flowquery/flqgen.Huge -/
theorem fn12 (s : GSystem) (sa1 : Option Addr) (sk1 : Nat) (sa2 : Option Addr) (sk2 : Nat) (sa3 : Option Addr) (sk3 : Nat) (hs_0 : i64ok s.Width) (rr : Bool) (hrr : flqgen_Huge s = rr) :
    FT Try.prog 12 #[.agg #[.int .i64 s.Width, .slice sa1 s.Deps.length sk1, .slice sa2 s.Transfers.length sk2, .slice sa3 s.Boundary.length sk3]] [sl (.slice sa1 s.Deps.length sk1) (s.Deps : List (List Int)), sl (.slice sa2 s.Transfers.length sk2) (s.Transfers : List GTransfer), sl (.slice sa3 s.Boundary.length sk3) (s.Boundary : List GSet)]
      (fun g : Unit => True)
      (fun g => .bool rr)
      (fun g => []) := by
  refine FT_intro (args := [.agg #[.int .i64 s.Width, .slice sa1 s.Deps.length sk1, .slice sa2 s.Transfers.length sk2, .slice sa3 s.Boundary.length sk3]]) Try.func12 rfl rfl ?_
  intro w0 M0 F0
  have hs_0 : -9223372036854775808 ≤ s.Width ∧ s.Width ≤ 9223372036854775807 := hs_0
  refine JJ_fact 0 rfl sl_bytes ?_
  intro hl1
  have hl1 : s.Deps.length * 24 ≤ 140737488355328 := hl1
  refine JJ_fact 1 rfl sl_bytes ?_
  intro hl2
  have hl2 : s.Transfers.length * 88 ≤ 140737488355328 := hl2
  refine JJ_fact 2 rfl sl_bytes ?_
  intro hl3
  have hl3 : s.Boundary.length * 32 ≤ 140737488355328 := hl3
  refine JK_seq ?_
  refine JK_region ?_
  refine JO_act rfl rfl rfl (OpA.box rfl rfl) ?_
  intro p4
  refine JO_q rfl rfl rfl (OpV.assign rfl rfl) ?_
  refine JO_nil ?_
  refine JK_seq ?_
  refine JK_seq ?_
  refine JK_region ?_
  refine JO_q rfl rfl rfl (OpV.fieldAddr rfl rfl fo27_1 (i := 0) rfl (isPtr_pv _ _)) ?_
  refine JO_q rfl rfl rfl (OpV.loadF rfl rfl sh23 (i := 0) rfl (reads_pv _ _) rfl) ?_
  refine JO_q rfl rfl rfl (OpV.len rfl rfl sl23) ?_
  refine JO_q rfl rfl rfl (OpV.gtr rfl rfl rfl) ?_
  refine JO_q rfl rfl rfl (OpV.move rfl rfl) ?_
  refine JJ_split 9 rfl (fun (h5 : decide (6 < ((s.Deps.length : Nat) : Int)) = true) => ?_) (fun (h5 : decide (6 < ((s.Deps.length : Nat) : Int)) = false) => ?_)
  · skip
    have g6 : (6 < ((s.Deps.length : Nat) : Int)) := of_decide_eq_true h5
    refine JO_skip rfl rfl rfl rfl rfl rfl ?_
    refine JO_skip rfl rfl rfl rfl rfl rfl ?_
    refine JO_skip rfl rfl rfl rfl rfl rfl ?_
    refine JO_skip rfl rfl rfl rfl rfl rfl ?_
    refine JO_q rfl rfl rfl (OpV.pickT rfl rfl rfl) ?_
    refine JO_q rfl rfl rfl (OpV.move rfl rfl) ?_
    refine JO_skip rfl rfl rfl rfl rfl rfl ?_
    refine JO_skip rfl rfl rfl rfl rfl rfl ?_
    refine JO_skip rfl rfl rfl rfl rfl rfl ?_
    refine JO_skip rfl rfl rfl rfl rfl rfl ?_
    refine JO_q rfl rfl rfl (OpV.pickT rfl rfl rfl) ?_
    refine JO_q rfl rfl rfl (OpV.move rfl rfl) ?_
    refine JO_skip rfl rfl rfl rfl rfl rfl ?_
    refine JO_skip rfl rfl rfl rfl rfl rfl ?_
    refine JO_skip rfl rfl rfl rfl rfl rfl ?_
    refine JO_q rfl rfl rfl (OpV.pickT rfl rfl rfl) ?_
    refine JO_nil ?_
    refine JK_condT rfl ?_
    refine JK_seq ?_
    refine JK_region ?_
    refine JO_q rfl rfl rfl (OpV.assign rfl rfl) ?_
    refine JO_nil ?_
    have hq : rr = true := hrr.symm.trans (by simp only [flqgen_Huge, h5, cs4])
    replace hrr := hrr.trans hq
    subst rr
    refine JK_return (()) rfl (.tmp rfl .nil) rfl trivial (Ent.take (is := []) rfl)
  · skip
    have g7 : ¬ (6 < ((s.Deps.length : Nat) : Int)) := of_decide_eq_false h5
    refine JO_taken rfl rfl rfl rfl ?_
    refine JO_q rfl rfl rfl (OpV.fieldAddr rfl rfl fo27_2 (i := 0) rfl (isPtr_pv _ _)) ?_
    refine JO_taken rfl rfl rfl rfl ?_
    refine JO_q rfl rfl rfl (OpV.loadF rfl rfl sh24 (i := 0) rfl (reads_pv _ _) rfl) ?_
    refine JO_taken rfl rfl rfl rfl ?_
    refine JO_q rfl rfl rfl (OpV.len rfl rfl sl24) ?_
    refine JO_taken rfl rfl rfl rfl ?_
    refine JO_q rfl rfl rfl (OpV.gtr rfl rfl rfl) ?_
    refine JO_q rfl rfl rfl (OpV.pickF rfl rfl rfl) ?_
    refine JO_q rfl rfl rfl (OpV.move rfl rfl) ?_
    refine JJ_split 15 rfl (fun (h8 : decide (6 < ((s.Transfers.length : Nat) : Int)) = true) => ?_) (fun (h8 : decide (6 < ((s.Transfers.length : Nat) : Int)) = false) => ?_)
    · skip
      have g9 : (6 < ((s.Transfers.length : Nat) : Int)) := of_decide_eq_true h8
      refine JO_skip rfl rfl rfl rfl rfl rfl ?_
      refine JO_skip rfl rfl rfl rfl rfl rfl ?_
      refine JO_skip rfl rfl rfl rfl rfl rfl ?_
      refine JO_skip rfl rfl rfl rfl rfl rfl ?_
      refine JO_q rfl rfl rfl (OpV.pickT rfl rfl rfl) ?_
      refine JO_q rfl rfl rfl (OpV.move rfl rfl) ?_
      refine JO_skip rfl rfl rfl rfl rfl rfl ?_
      refine JO_skip rfl rfl rfl rfl rfl rfl ?_
      refine JO_skip rfl rfl rfl rfl rfl rfl ?_
      refine JO_q rfl rfl rfl (OpV.pickT rfl rfl rfl) ?_
      refine JO_nil ?_
      refine JK_condT rfl ?_
      refine JK_seq ?_
      refine JK_region ?_
      refine JO_q rfl rfl rfl (OpV.assign rfl rfl) ?_
      refine JO_nil ?_
      have hq : rr = true := hrr.symm.trans (by simp only [flqgen_Huge, h5, h8, cs4])
      replace hrr := hrr.trans hq
      subst rr
      refine JK_return (()) rfl (.tmp rfl .nil) rfl trivial (Ent.take (is := []) rfl)
    · skip
      have g10 : ¬ (6 < ((s.Transfers.length : Nat) : Int)) := of_decide_eq_false h8
      refine JO_taken rfl rfl rfl rfl ?_
      refine JO_q rfl rfl rfl (OpV.fieldAddr rfl rfl fo27_3 (i := 0) rfl (isPtr_pv _ _)) ?_
      refine JO_taken rfl rfl rfl rfl ?_
      refine JO_q rfl rfl rfl (OpV.loadF rfl rfl sh25 (i := 0) rfl (reads_pv _ _) rfl) ?_
      refine JO_taken rfl rfl rfl rfl ?_
      refine JO_q rfl rfl rfl (OpV.len rfl rfl sl25) ?_
      refine JO_taken rfl rfl rfl rfl ?_
      refine JO_q rfl rfl rfl (OpV.gtr rfl rfl rfl) ?_
      refine JO_q rfl rfl rfl (OpV.pickF rfl rfl rfl) ?_
      refine JO_q rfl rfl rfl (OpV.move rfl rfl) ?_
      refine JJ_split 21 rfl (fun (h11 : decide (6 < ((s.Boundary.length : Nat) : Int)) = true) => ?_) (fun (h11 : decide (6 < ((s.Boundary.length : Nat) : Int)) = false) => ?_)
      · skip
        have g12 : (6 < ((s.Boundary.length : Nat) : Int)) := of_decide_eq_true h11
        refine JO_skip rfl rfl rfl rfl rfl rfl ?_
        refine JO_skip rfl rfl rfl rfl rfl rfl ?_
        refine JO_skip rfl rfl rfl rfl rfl rfl ?_
        refine JO_q rfl rfl rfl (OpV.pickT rfl rfl rfl) ?_
        refine JO_nil ?_
        refine JK_condT rfl ?_
        refine JK_seq ?_
        refine JK_region ?_
        refine JO_q rfl rfl rfl (OpV.assign rfl rfl) ?_
        refine JO_nil ?_
        have hq : rr = true := hrr.symm.trans (by simp only [flqgen_Huge, h5, h8, h11, cs4])
        replace hrr := hrr.trans hq
        subst rr
        refine JK_return (()) rfl (.tmp rfl .nil) rfl trivial (Ent.take (is := []) rfl)
      · skip
        have g13 : ¬ (6 < ((s.Boundary.length : Nat) : Int)) := of_decide_eq_false h11
        refine JO_taken rfl rfl rfl rfl ?_
        refine JO_q rfl rfl rfl (OpV.fieldAddr rfl rfl fo27_0 (i := 0) rfl (isPtr_pv _ _)) ?_
        refine JO_taken rfl rfl rfl rfl ?_
        refine JO_q rfl rfl rfl (OpV.loadF rfl rfl sh3 (i := 0) rfl (reads_pv _ _) rfl) ?_
        refine JO_taken rfl rfl rfl rfl ?_
        refine JO_q rfl rfl rfl (OpV.gtr rfl rfl rfl) ?_
        refine JO_q rfl rfl rfl (OpV.pickF rfl rfl rfl) ?_
        refine JO_nil ?_
        refine JK_cond (b := decide (8 < s.Width)) rfl (fun (h14 : decide (8 < s.Width) = true) => ?_) (fun (h14 : decide (8 < s.Width) = false) => ?_)
        · skip
          have g15 : (8 < s.Width) := of_decide_eq_true h14
          refine JK_seq ?_
          refine JK_region ?_
          refine JO_q rfl rfl rfl (OpV.assign rfl rfl) ?_
          refine JO_nil ?_
          have hq : rr = true := hrr.symm.trans (by simp only [flqgen_Huge, h5, h8, h11, h14, cs4])
          replace hrr := hrr.trans hq
          subst rr
          refine JK_return (()) rfl (.tmp rfl .nil) rfl trivial (Ent.take (is := []) rfl)
        · skip
          have g16 : ¬ (8 < s.Width) := of_decide_eq_false h14
          refine JK_skip ?_
          refine JK_seq ?_
          refine JK_seq ?_
          refine JK_region ?_
          refine JO_q rfl rfl rfl (OpV.assign rfl rfl) ?_
          refine JO_nil ?_
          refine JK_block ?_
          refine JK_loop (γ := Nat × Int) (fun (r17, i_18) => [(1, p4), (3, .int .i64 i_18)]) (fun (r17, i_18) => [pv p4 [.int .i64 s.Width, .slice sa1 s.Deps.length sk1, .slice sa2 s.Transfers.length sk2, .slice sa3 s.Boundary.length sk3], sl (.slice sa1 s.Deps.length sk1) (s.Deps : List (List Int)), sl (.slice sa2 s.Transfers.length sk2) (s.Transfers : List GTransfer), sl (.slice sa3 s.Boundary.length sk3) (s.Boundary : List GSet)]) (fun (r17, i_18) => flqgen_Huge_L0 s r17 i_18 = flqgen_Huge_L0 s (((((s.Deps.length : Nat) : Int) : Int) - 0).toNat) 0 ∧ r17 = ((((s.Deps.length : Nat) : Int) : Int) - i_18).toNat ∧ (0 : Int) ≤ i_18 ∧ (i_18 ≤ ((s.Deps.length : Nat) : Int) ∨ i_18 = 0) ∧ (-9223372036854775808 ≤ i_18 ∧ i_18 ≤ 9223372036854775807)) (fun (r17, i_18) => r17) (((((s.Deps.length : Nat) : Int) : Int) - 0).toNat, 0) ⟨rfl, rfl, (by omega), (.inr rfl), (by omega)⟩ (Env.sub_all rfl) (Ent.take (is := [0, 1, 2, 3]) rfl) ?_
          rintro ⟨r17, i_18⟩ ⟨hM19, hr20, hi21, hi22, hk23⟩
          refine JJ_norm (L := [(1, p4), (3, .int .i64 i_18)]) (A := [pv p4 [.int .i64 s.Width, .slice sa1 s.Deps.length sk1, .slice sa2 s.Transfers.length sk2, .slice sa3 s.Boundary.length sk3], sl (.slice sa1 s.Deps.length sk1) (s.Deps : List (List Int)), sl (.slice sa2 s.Transfers.length sk2) (s.Transfers : List GTransfer), sl (.slice sa3 s.Boundary.length sk3) (s.Boundary : List GSet)]) rfl rfl ?_
          refine JJ_fact 1 rfl sl_bytes ?_
          intro hl24
          have hl24 : s.Deps.length * 24 ≤ 140737488355328 := hl24
          refine JJ_fact 2 rfl sl_bytes ?_
          intro hl25
          have hl25 : s.Transfers.length * 88 ≤ 140737488355328 := hl25
          refine JJ_fact 3 rfl sl_bytes ?_
          intro hl26
          have hl26 : s.Boundary.length * 32 ≤ 140737488355328 := hl26
          refine JK_seq ?_
          refine JK_seq ?_
          refine JK_region ?_
          refine JO_q rfl rfl rfl (OpV.move rfl rfl) ?_
          refine JO_q rfl rfl rfl (OpV.fieldAddr rfl rfl fo27_1 (i := 0) rfl (isPtr_pv _ _)) ?_
          refine JO_q rfl rfl rfl (OpV.loadF rfl rfl sh23 (i := 0) rfl (reads_pv _ _) rfl) ?_
          refine JO_q rfl rfl rfl (OpV.len rfl rfl sl23) ?_
          refine JO_q rfl rfl rfl (OpV.lss rfl rfl rfl) ?_
          refine JO_nil ?_
          refine JK_cond (b := decide (i_18 < ((s.Deps.length : Nat) : Int))) rfl (fun (h27 : decide (i_18 < ((s.Deps.length : Nat) : Int)) = true) => ?_) (fun (h27 : decide (i_18 < ((s.Deps.length : Nat) : Int)) = false) => ?_)
          · skip
            have g28 : (i_18 < ((s.Deps.length : Nat) : Int)) := of_decide_eq_true h27
            obtain ⟨r29, rfl⟩ : ∃ q, r17 = q + 1 := ⟨r17 - 1, by omega⟩
            refine JK_skip ?_
            refine JK_seq ?_
            refine JK_block ?_
            refine JK_seq ?_
            refine JK_region ?_
            refine JO_q rfl rfl rfl (OpV.fieldAddr rfl rfl fo27_1 (i := 0) rfl (isPtr_pv _ _)) ?_
            refine JO_q rfl rfl rfl (OpV.loadF rfl rfl sh23 (i := 0) rfl (reads_pv _ _) rfl) ?_
            refine JO_q rfl rfl rfl (OpV.move rfl rfl) ?_
            refine JO_q rfl rfl rfl (OpV.indexAddr (m := 1) rfl rfl rfl sl23 rfl (isSl_sl _ _) (by first | omega | (simp only [lens]; omega) | (simp only [lens] at *; omega))) ?_
            refine JJ_peekL (i_18 : Int).toNat 1 rfl (by omega) ?_
            intro a30 k31
            refine JJ_fact 1 rfl sl_bytes ?_
            intro hl32
            have hl32 : (s.Deps.getD (i_18 : Int).toNat []).length * 8 ≤ 140737488355328 := hl32
            refine JJ_fact 1 rfl sl_ok ?_
            intro ho33
            refine JO_q rfl rfl rfl (OpV.load rfl rfl sh22 (i := 0) rfl (reads_pv _ _) rfl) ?_
            refine JO_q rfl rfl rfl (OpV.len rfl rfl sl22) ?_
            refine JO_q rfl rfl rfl (OpV.gtr rfl rfl rfl) ?_
            refine JO_nil ?_
            refine JK_cond (b := decide (8 < (((s.Deps.getD (i_18 : Int).toNat []).length : Nat) : Int))) rfl (fun (h34 : decide (8 < (((s.Deps.getD (i_18 : Int).toNat []).length : Nat) : Int)) = true) => ?_) (fun (h34 : decide (8 < (((s.Deps.getD (i_18 : Int).toNat []).length : Nat) : Int)) = false) => ?_)
            · skip
              have g35 : (8 < (((s.Deps.getD (i_18 : Int).toNat []).length : Nat) : Int)) := of_decide_eq_true h34
              refine JK_seq ?_
              refine JK_region ?_
              refine JO_q rfl rfl rfl (OpV.assign rfl rfl) ?_
              refine JO_nil ?_
              have hR36 : flqgen_Huge_L0 s (((((s.Deps.length : Nat) : Int) : Int) - 0).toNat) 0 = LR.ret true := by
                rw [← hM19]; simp only [flqgen_Huge_L0, h5, h8, h11, h14, h27, h34, cs4]
              have hq : rr = true := hrr.symm.trans (by simp only [flqgen_Huge, h5, h8, h11, h14, h27, h34, hR36, cs4])
              replace hrr := hrr.trans hq
              subst rr
              refine JK_return (()) rfl (.tmp rfl .nil) rfl trivial (Ent.take (is := []) rfl)
            · skip
              have g37 : ¬ (8 < (((s.Deps.getD (i_18 : Int).toNat []).length : Nat) : Int)) := of_decide_eq_false h34
              refine JK_skip ?_
              refine JK_blk ?_
              refine JK_region ?_
              refine JO_q rfl rfl rfl (OpV.move rfl rfl) ?_
              refine JO_q rfl rfl rfl (OpV.add rfl rfl rfl (by unfold i64ok; omega)) ?_
              refine JO_q rfl rfl rfl (OpV.assign rfl rfl) ?_
              refine JO_nil ?_
              refine JK_goal (r29, (i_18 + 1)) ⟨(by rw [← hM19]; simp only [flqgen_Huge_L0, h5, h8, h11, h14, h27, h34, cs4]), (by omega), (by omega), (by omega), (by omega)⟩ (by show r29 < r29 + 1; omega) (Env.sub_all rfl) (Ent.take (is := [2, 3, 4, 5]) rfl)
          · skip
            have g38 : ¬ (i_18 < ((s.Deps.length : Nat) : Int)) := of_decide_eq_false h27
            obtain rfl : r17 = 0 := by omega
            refine JK_exit rfl ?_
            have hR39 : flqgen_Huge_L0 s (((((s.Deps.length : Nat) : Int) : Int) - 0).toNat) 0 = LR.brk () := by
              rw [← hM19]; simp only [flqgen_Huge_L0, h5, h8, h11, h14, h27, cs4]
            refine JK_seq ?_
            refine JK_seq ?_
            refine JK_region ?_
            refine JO_q rfl rfl rfl (OpV.assign rfl rfl) ?_
            refine JO_nil ?_
            refine JK_block ?_
            refine JK_loop (γ := Nat × Int) (fun (r40, i_41) => [(1, p4), (4, .int .i64 i_41)]) (fun (r40, i_41) => [pv p4 [.int .i64 s.Width, .slice sa1 s.Deps.length sk1, .slice sa2 s.Transfers.length sk2, .slice sa3 s.Boundary.length sk3], sl (.slice sa1 s.Deps.length sk1) (s.Deps : List (List Int)), sl (.slice sa2 s.Transfers.length sk2) (s.Transfers : List GTransfer), sl (.slice sa3 s.Boundary.length sk3) (s.Boundary : List GSet)]) (fun (r40, i_41) => flqgen_Huge_L1 s r40 i_41 = flqgen_Huge_L1 s (((((s.Transfers.length : Nat) : Int) : Int) - 0).toNat) 0 ∧ r40 = ((((s.Transfers.length : Nat) : Int) : Int) - i_41).toNat ∧ (0 : Int) ≤ i_41 ∧ (i_41 ≤ ((s.Transfers.length : Nat) : Int) ∨ i_41 = 0) ∧ (-9223372036854775808 ≤ i_41 ∧ i_41 ≤ 9223372036854775807)) (fun (r40, i_41) => r40) (((((s.Transfers.length : Nat) : Int) : Int) - 0).toNat, 0) ⟨rfl, rfl, (by omega), (.inr rfl), (by omega)⟩ (Env.sub_all rfl) (Ent.take (is := [0, 1, 2, 3]) rfl) ?_
            rintro ⟨r40, i_41⟩ ⟨hM42, hr43, hi44, hi45, hk46⟩
            refine JJ_norm (L := [(1, p4), (4, .int .i64 i_41)]) (A := [pv p4 [.int .i64 s.Width, .slice sa1 s.Deps.length sk1, .slice sa2 s.Transfers.length sk2, .slice sa3 s.Boundary.length sk3], sl (.slice sa1 s.Deps.length sk1) (s.Deps : List (List Int)), sl (.slice sa2 s.Transfers.length sk2) (s.Transfers : List GTransfer), sl (.slice sa3 s.Boundary.length sk3) (s.Boundary : List GSet)]) rfl rfl ?_
            refine JJ_fact 1 rfl sl_bytes ?_
            intro hl47
            have hl47 : s.Deps.length * 24 ≤ 140737488355328 := hl47
            refine JJ_fact 2 rfl sl_bytes ?_
            intro hl48
            have hl48 : s.Transfers.length * 88 ≤ 140737488355328 := hl48
            refine JJ_fact 3 rfl sl_bytes ?_
            intro hl49
            have hl49 : s.Boundary.length * 32 ≤ 140737488355328 := hl49
            refine JK_seq ?_
            refine JK_seq ?_
            refine JK_region ?_
            refine JO_q rfl rfl rfl (OpV.move rfl rfl) ?_
            refine JO_q rfl rfl rfl (OpV.fieldAddr rfl rfl fo27_2 (i := 0) rfl (isPtr_pv _ _)) ?_
            refine JO_q rfl rfl rfl (OpV.loadF rfl rfl sh24 (i := 0) rfl (reads_pv _ _) rfl) ?_
            refine JO_q rfl rfl rfl (OpV.len rfl rfl sl24) ?_
            refine JO_q rfl rfl rfl (OpV.lss rfl rfl rfl) ?_
            refine JO_nil ?_
            refine JK_cond (b := decide (i_41 < ((s.Transfers.length : Nat) : Int))) rfl (fun (h50 : decide (i_41 < ((s.Transfers.length : Nat) : Int)) = true) => ?_) (fun (h50 : decide (i_41 < ((s.Transfers.length : Nat) : Int)) = false) => ?_)
            · skip
              have g51 : (i_41 < ((s.Transfers.length : Nat) : Int)) := of_decide_eq_true h50
              obtain ⟨r52, rfl⟩ : ∃ q, r40 = q + 1 := ⟨r40 - 1, by omega⟩
              refine JK_skip ?_
              refine JK_seq ?_
              refine JK_block ?_
              refine JK_seq ?_
              refine JK_region ?_
              refine JO_q rfl rfl rfl (OpV.fieldAddr rfl rfl fo27_2 (i := 0) rfl (isPtr_pv _ _)) ?_
              refine JO_q rfl rfl rfl (OpV.loadF rfl rfl sh24 (i := 0) rfl (reads_pv _ _) rfl) ?_
              refine JO_q rfl rfl rfl (OpV.move rfl rfl) ?_
              refine JO_q rfl rfl rfl (OpV.indexAddr (m := 2) rfl rfl rfl sl24 rfl (isSl_sl _ _) (by first | omega | (simp only [lens]; omega) | (simp only [lens] at *; omega))) ?_
              refine JJ_peek_GTransfer (i_41 : Int).toNat 2 rfl (by omega) ?_
              intro a53 k54 a55 k56 a57 k58 hb59 hb60
              have hb59 : -9223372036854775808 ≤ ((s.Transfers.getD (i_41 : Int).toNat default).Gen).Width ∧ ((s.Transfers.getD (i_41 : Int).toNat default).Gen).Width ≤ 9223372036854775807 := hb59
              have hb60 : -9223372036854775808 ≤ ((s.Transfers.getD (i_41 : Int).toNat default).Kill).Width ∧ ((s.Transfers.getD (i_41 : Int).toNat default).Kill).Width ≤ 9223372036854775807 := hb60
              refine JJ_fact 1 rfl sl_bytes ?_
              intro hl61
              have hl61 : (((s.Transfers.getD (i_41 : Int).toNat default).Gen).Words).length * 8 ≤ 140737488355328 := hl61
              refine JJ_fact 2 rfl sl_bytes ?_
              intro hl62
              have hl62 : (((s.Transfers.getD (i_41 : Int).toNat default).Kill).Words).length * 8 ≤ 140737488355328 := hl62
              refine JJ_fact 3 rfl sl_bytes ?_
              intro hl63
              have hl63 : ((s.Transfers.getD (i_41 : Int).toNat default).Copies).length * 16 ≤ 140737488355328 := hl63
              refine JO_q rfl rfl rfl (OpV.fieldAddr rfl rfl fo54_2 (i := 0) rfl (isPtr_pv _ _)) ?_
              refine JO_q rfl rfl rfl (OpV.loadF rfl rfl sh52 (i := 0) rfl (reads_pv _ _) rfl) ?_
              refine JO_q rfl rfl rfl (OpV.len rfl rfl sl52) ?_
              refine JO_q rfl rfl rfl (OpV.gtr rfl rfl rfl) ?_
              refine JO_nil ?_
              refine JK_cond (b := decide (12 < ((((s.Transfers.getD (i_41 : Int).toNat default).Copies).length : Nat) : Int))) rfl (fun (h64 : decide (12 < ((((s.Transfers.getD (i_41 : Int).toNat default).Copies).length : Nat) : Int)) = true) => ?_) (fun (h64 : decide (12 < ((((s.Transfers.getD (i_41 : Int).toNat default).Copies).length : Nat) : Int)) = false) => ?_)
              · skip
                have g65 : (12 < ((((s.Transfers.getD (i_41 : Int).toNat default).Copies).length : Nat) : Int)) := of_decide_eq_true h64
                refine JK_seq ?_
                refine JK_region ?_
                refine JO_q rfl rfl rfl (OpV.assign rfl rfl) ?_
                refine JO_nil ?_
                have hR66 : flqgen_Huge_L1 s (((((s.Transfers.length : Nat) : Int) : Int) - 0).toNat) 0 = LR.ret true := by
                  rw [← hM42]; simp only [flqgen_Huge_L1, h5, h8, h11, h14, h27, h50, h64, hR39, cs4]
                have hq : rr = true := hrr.symm.trans (by simp only [flqgen_Huge, h5, h8, h11, h14, h27, h50, h64, hR39, hR66, cs4])
                replace hrr := hrr.trans hq
                subst rr
                refine JK_return (()) rfl (.tmp rfl .nil) rfl trivial (Ent.take (is := []) rfl)
              · skip
                have g67 : ¬ (12 < ((((s.Transfers.getD (i_41 : Int).toNat default).Copies).length : Nat) : Int)) := of_decide_eq_false h64
                refine JK_skip ?_
                refine JK_blk ?_
                refine JK_region ?_
                refine JO_q rfl rfl rfl (OpV.move rfl rfl) ?_
                refine JO_q rfl rfl rfl (OpV.add rfl rfl rfl (by unfold i64ok; omega)) ?_
                refine JO_q rfl rfl rfl (OpV.assign rfl rfl) ?_
                refine JO_nil ?_
                refine JK_goal (r52, (i_41 + 1)) ⟨(by rw [← hM42]; simp only [flqgen_Huge_L1, h5, h8, h11, h14, h27, h50, h64, hR39, cs4]), (by omega), (by omega), (by omega), (by omega)⟩ (by show r52 < r52 + 1; omega) (Env.sub_all rfl) (Ent.take (is := [4, 5, 6, 7]) rfl)
            · skip
              have g68 : ¬ (i_41 < ((s.Transfers.length : Nat) : Int)) := of_decide_eq_false h50
              obtain rfl : r40 = 0 := by omega
              refine JK_exit rfl ?_
              have hR69 : flqgen_Huge_L1 s (((((s.Transfers.length : Nat) : Int) : Int) - 0).toNat) 0 = LR.brk () := by
                rw [← hM42]; simp only [flqgen_Huge_L1, h5, h8, h11, h14, h27, h50, hR39, cs4]
              refine JK_seq ?_
              refine JK_region ?_
              refine JO_q rfl rfl rfl (OpV.assign rfl rfl) ?_
              refine JO_nil ?_
              have hq : rr = false := hrr.symm.trans (by simp only [flqgen_Huge, h5, h8, h11, h14, h27, h50, hR39, hR69, cs4])
              replace hrr := hrr.trans hq
              subst rr
              refine JK_return (()) rfl (.tmp rfl .nil) rfl trivial (Ent.take (is := []) rfl)
set_option maxHeartbeats 20000000 in
set_option maxRecDepth 100000 in
/- flowquery/flqref1.Identity -/
theorem fn41 (width : Int) (hwidth_0 : i64ok width) (hw0 : 0 ≤ width ∧ width ≤ 1000000) (rr : GTransfer) (hrr : flqref1_Identity width = rr) :
    FT Try.prog 41 #[.int .i64 width] []
      (fun g : Value × Value × Value => i64ok rr.Gen.Width ∧ i64ok rr.Kill.Width)
      (fun g => .agg #[.int .i64 rr.Gen.Width, g.1, .int .i64 rr.Kill.Width, g.2.1, g.2.2])
      (fun g => [sl (g.1) (rr.Gen.Words : List (BitVec 64)), sl (g.2.1) (rr.Kill.Words : List (BitVec 64)), sl (g.2.2) (rr.Copies : List GCopy)]) := by
  refine FT_intro (args := [.int .i64 width]) Try.func41 rfl rfl ?_
  intro w0 M0 F0
  have hwidth_0 : -9223372036854775808 ≤ width ∧ width ≤ 9223372036854775807 := hwidth_0
  refine JK_seq ?_
  refine JK_region ?_
  refine JO_act rfl rfl rfl (OpA.alloc rfl ze54) ?_
  intro p1
  refine JO_nil ?_
  refine JK_seq ?_
  refine JK_region ?_
  refine JO_q rfl rfl rfl (OpV.move rfl rfl) ?_
  refine letv (flqref1_Empty width) fun rv3 hg4 => ?_
  have hc5 := fn19 width (by (try dsimp only) <;> first | (unfold i64ok; omega) | omega | assumption) (by (try dsimp only) <;> first | (unfold i64ok; omega) | omega | assumption) rv3 hg4
  refine JO_call [] rfl rfl rfl (OpC.fn rfl ca19 rfl) (hc5) rfl ?_
  rintro c2 ⟨he6, he7, he8⟩
  have he6 : -9223372036854775808 ≤ rv3.Width ∧ rv3.Width ≤ 9223372036854775807 := he6
  refine JJ_slice 0 rfl os_slice ?_
  rintro a9 k10 rfl
  refine JJ_fact 0 rfl os_bytes ?_
  intro hl11
  have hl11 : rv3.Words.length * 8 ≤ 140737488355328 := hl11
  refine JO_q rfl rfl rfl (OpV.move rfl rfl) ?_
  have hc13 := fn19 width (by (try dsimp only) <;> first | (unfold i64ok; omega) | omega | assumption) (by (try dsimp only) <;> first | (unfold i64ok; omega) | omega | assumption) rv3 hg4
  refine JO_call [] rfl rfl rfl (OpC.fn rfl ca19 rfl) (hc13) rfl ?_
  rintro c12 ⟨he14, he15, he16⟩
  have he14 : -9223372036854775808 ≤ rv3.Width ∧ rv3.Width ≤ 9223372036854775807 := he14
  refine JJ_slice 0 rfl os_slice ?_
  rintro a17 k18 rfl
  refine JO_q rfl rfl rfl (OpV.build (rs := #[.int .i64 rv3.Width, .slice a9 rv3.Words.length k10, .int .i64 rv3.Width, .slice a17 rv3.Words.length k18, .slice none 0 0]) rfl st54 (Env.evp_map rfl) rfl) ?_
  refine JO_store rfl rfl (OpS.frame [2] rfl (OpS.storeCl [.int .i64 rv3.Width, .slice a9 rv3.Words.length k10, .int .i64 rv3.Width, .slice a17 rv3.Words.length k18, .slice none 0 0] [.int .i64 rv3.Width, .slice a9 rv3.Words.length k10, .int .i64 rv3.Width, .slice a17 rv3.Words.length k18, .slice none 0 0] rfl rfl rfl sh54 rfl rfl rfl (Nat.le_of_ble_eq_true rfl) rfl)) ?_
  refine JO_nil ?_
  refine JJ_loc [2] rfl (Ent.freeze _ _) ?_
  refine JJ_loc [2] rfl (Ent.freeze _ _) ?_
  refine JJ_loc [] rfl (Ent.slNil (α := GCopy)) ?_
  have hq : rr = (GTransfer.mk rv3 rv3 []) := hrr.symm.trans (by simp only [flqref1_Identity, hg4, cs4])
  replace hrr := hrr.trans hq
  subst rr
  refine JK_return ((.slice a9 rv3.Words.length k10, .slice a17 rv3.Words.length k18, .slice none 0 0)) rfl (.cellN 3 rfl sh54 rfl (reads_Cl _ _) rfl .nil) rfl (by refine ⟨?_, ?_⟩ <;> (try dsimp only) <;> first | omega | (unfold i64ok; omega) | (simp only [lens]; omega) | assumption | trivial) (Ent.take (is := [2, 1, 0]) rfl)
set_option maxHeartbeats 20000000 in
set_option maxRecDepth 100000 in
/- flowquery/flqlaw14.line -/
theorem fn29 (n : Int) (hn_0 : i64ok n) (hn0 : 0 ≤ n ∧ n ≤ 1000) (rr : GSystem) (hrr : flqlaw14_line n = rr) :
    FT Try.prog 29 #[.int .i64 n] []
      (fun g : Value × Value × Value => i64ok rr.Width)
      (fun g => .agg #[.int .i64 rr.Width, g.1, g.2.1, g.2.2])
      (fun g => [sl (g.1) (rr.Deps : List (List Int)), sl (g.2.1) (rr.Transfers : List GTransfer), sl (g.2.2) (rr.Boundary : List GSet)]) := by
  refine FT_intro (args := [.int .i64 n]) Try.func29 rfl rfl ?_
  intro w0 M0 F0
  have hn_0 : -9223372036854775808 ≤ n ∧ n ≤ 9223372036854775807 := hn_0
  refine JK_seq ?_
  refine JK_region ?_
  refine JO_act rfl rfl rfl (OpA.alloc rfl ze27) ?_
  intro p1
  refine JO_nil ?_
  refine JK_seq ?_
  refine JK_region ?_
  refine JO_act rfl rfl rfl (OpA.alloc rfl ze27) ?_
  intro p2
  refine JO_nil ?_
  refine JK_seq ?_
  refine JK_seq ?_
  refine JK_region ?_
  refine JO_q rfl rfl rfl (OpV.assign rfl rfl) ?_
  refine JO_nil ?_
  refine JK_block ?_
  refine JJ_loc [] rfl (Ent.osNil (α := (List Int))) ?_
  refine JJ_loc [] rfl (Ent.osNil (α := GTransfer)) ?_
  refine JJ_loc [] rfl (Ent.osNil (α := GSet)) ?_
  refine JK_loop (γ := Nat × List (List Int) × List GTransfer × List GSet × Int × Option Addr × Nat × Option Addr × Nat × Option Addr × Nat) (fun (r3, s1_4, s2_5, s3_6, i_7, a8, k9, a10, k11, a12, k13) => [(0, .int .i64 n), (2, p1), (3, p2), (4, .int .i64 i_7)]) (fun (r3, s1_4, s2_5, s3_6, i_7, a8, k9, a10, k11, a12, k13) => [os (.slice a12 s3_6.length k13) (s3_6 : List GSet), os (.slice a10 s2_5.length k11) (s2_5 : List GTransfer), os (.slice a8 s1_4.length k9) (s1_4 : List (List Int)), Cl p2 [.int .i64 0, .slice a8 s1_4.length k9, .slice a10 s2_5.length k11, .slice a12 s3_6.length k13], Cl p1 [.int .i64 0, .slice none 0 0, .slice none 0 0, .slice none 0 0]]) (fun (r3, s1_4, s2_5, s3_6, i_7, a8, k9, a10, k11, a12, k13) => flqlaw14_line_L0 r3 s1_4 s2_5 s3_6 i_7 = flqlaw14_line_L0 (((n : Int) - 0).toNat) [] [] [] 0 ∧ r3 = ((n : Int) - i_7).toNat ∧ (0 : Int) ≤ i_7 ∧ (i_7 ≤ n ∨ i_7 = 0) ∧ (-9223372036854775808 ≤ i_7 ∧ i_7 ≤ 9223372036854775807) ∧ (s1_4.length : Int) = i_7 ∧ (s2_5.length : Int) = i_7 ∧ (s3_6.length : Int) = i_7) (fun (r3, s1_4, s2_5, s3_6, i_7, a8, k9, a10, k11, a12, k13) => r3) (((n : Int) - 0).toNat, [], [], [], 0, none, 0, none, 0, none, 0) ⟨rfl, rfl, (by omega), (.inr rfl), (by omega), (by first | omega | (simp only [lens]; omega) | simp), (by first | omega | (simp only [lens]; omega) | simp), (by first | omega | (simp only [lens]; omega) | simp)⟩ (Env.sub_all rfl) (Ent.take (is := [0, 0, 0, 0, 0]) rfl) ?_
  rintro ⟨r3, s1_4, s2_5, s3_6, i_7, a8, k9, a10, k11, a12, k13⟩ ⟨hM14, hr15, hi16, hi17, hk18, hv19, hv20, hv21⟩
  refine JJ_norm (L := [(0, .int .i64 n), (2, p1), (3, p2), (4, .int .i64 i_7)]) (A := [os (.slice a12 s3_6.length k13) (s3_6 : List GSet), os (.slice a10 s2_5.length k11) (s2_5 : List GTransfer), os (.slice a8 s1_4.length k9) (s1_4 : List (List Int)), Cl p2 [.int .i64 0, .slice a8 s1_4.length k9, .slice a10 s2_5.length k11, .slice a12 s3_6.length k13], Cl p1 [.int .i64 0, .slice none 0 0, .slice none 0 0, .slice none 0 0]]) rfl rfl ?_
  refine JJ_fact 0 rfl os_bytes ?_
  intro hl22
  have hl22 : s3_6.length * 32 ≤ 140737488355328 := hl22
  refine JJ_fact 1 rfl os_bytes ?_
  intro hl23
  have hl23 : s2_5.length * 88 ≤ 140737488355328 := hl23
  refine JJ_fact 2 rfl os_bytes ?_
  intro hl24
  have hl24 : s1_4.length * 24 ≤ 140737488355328 := hl24
  refine JK_seq ?_
  refine JK_seq ?_
  refine JK_region ?_
  refine JO_q rfl rfl rfl (OpV.move rfl rfl) ?_
  refine JO_q rfl rfl rfl (OpV.move rfl rfl) ?_
  refine JO_q rfl rfl rfl (OpV.lss rfl rfl rfl) ?_
  refine JO_nil ?_
  refine JK_cond (b := decide (i_7 < n)) rfl (fun (h25 : decide (i_7 < n) = true) => ?_) (fun (h25 : decide (i_7 < n) = false) => ?_)
  · skip
    have g26 : (i_7 < n) := of_decide_eq_true h25
    obtain ⟨r27, rfl⟩ : ∃ q, r3 = q + 1 := ⟨r3 - 1, by omega⟩
    refine JK_skip ?_
    refine JK_seq ?_
    refine JK_block ?_
    refine JK_seq ?_
    refine JK_region ?_
    refine JO_q rfl rfl rfl (OpV.assign rfl rfl) ?_
    refine JO_nil ?_
    refine JK_seq ?_
    refine JK_seq ?_
    refine JK_region ?_
    refine JO_q rfl rfl rfl (OpV.move rfl rfl) ?_
    refine JO_q rfl rfl rfl (OpV.gtr rfl rfl rfl) ?_
    refine JO_nil ?_
    refine JK_cond (b := decide (0 < i_7)) rfl (fun (h28 : decide (0 < i_7) = true) => ?_) (fun (h28 : decide (0 < i_7) = false) => ?_)
    · skip
      have g29 : (0 < i_7) := of_decide_eq_true h28
      refine JK_region ?_
      refine JO_q rfl rfl rfl (OpV.move rfl rfl) ?_
      refine JO_q rfl rfl rfl (OpV.sub rfl rfl rfl (by unfold i64ok; omega)) ?_
      refine JO_act rfl rfl rfl (OpA.buildSliceV [.int .i64 (i_7 - 1)] [.int .i64 (i_7 - 1)] rfl sl22 sz22 rfl (Env.evp_map rfl) rfl rfl rfl rfl) ?_
      intro c30
      refine JJ_slice 0 rfl Cr_slice ?_
      rintro a31 k32 rfl
      refine JO_q rfl rfl rfl (OpV.assign rfl rfl) ?_
      refine JO_nil ?_
      refine JJ_fact 4 rfl isP_Cl ?_
      intro hp33
      refine JJ_addFact hp33 ?_
      refine letv (flqref1_Identity 0) fun rv40 hg41 => ?_
      refine letv (flqref1_Empty 0) fun rv46 hg47 => ?_
      have hn36 : ((s1_4 ++ [[(i_7 - 1)]]) : List (List Int)).length = (s1_4 : List (List Int)).length + ([[(i_7 - 1)]] : List (List Int)).length := List.length_append
      have hn44 : ((s2_5 ++ [rv40]) : List GTransfer).length = (s2_5 : List GTransfer).length + ([rv40] : List GTransfer).length := List.length_append
      have hn50 : ((s3_6 ++ [rv46]) : List GSet).length = (s3_6 : List GSet).length + ([rv46] : List GSet).length := List.length_append
      refine JK_drawJ [0, 1, 0, 4, 15, 0, 32, 31, 159, 511, 0, 1024, 1023, 5119, 16383, 3199, 65535, 131071, 262143, 524287, 1048575] [none, some 4, some 14, some 9, some 4, some 16] fmix ?_
      refine JD_v [0] (wn rfl) rfl rfl (OpV.fieldAddr rfl rfl fo27_1 (i := 0) rfl (isPtr_fact _)) ?_
      refine JD_v [5] (wn rfl) rfl rfl (OpV.loadF rfl rfl sh23 (i := 0) rfl (reads_Cl _ _) rfl) ?_
      refine JD_v [] (wn rfl) rfl rfl (OpV.move rfl rfl) ?_
      refine JD_x [] [3] (fun lG => ((lG.getD 0 []).getD 0 undef)) [⟨some 3, some 4, [3], fun lG => Cr ((lG.getD 0 []).getD 0 undef) 1 [.slice a31 1 k32]⟩] (wn rfl) rfl rfl rfl (fun G => by refine OpX.n3 (A' := []) (V' := fun g => (g.getD 0 undef)) (B' := fun g => [Cr (g.getD 0 undef) 1 [.slice a31 1 k32]]) (by kernel_rfl) (by kernel_rfl) (by kernel_rfl) ?_; refine OpX.postR (OpX.ofA (by intro _ _ h; cases h) (OpA.buildSliceV [.slice a31 1 k32] [.slice a31 1 k32] rfl sl23 sz23 rfl (Env.evp_map rfl) rfl rfl rfl rfl)) (fun g => ?_); exact Ent.take (is := [0]) rfl) ?_
      refine JD_x [1, 4, 7] [4] (fun lG => ((lG.getD 0 []).getD 0 undef)) [⟨some 4, none, [], fun lG => sl (.slice a31 1 k32) ([(i_7 - 1)] : List Int)⟩, ⟨some 4, none, [4], fun lG => os (((lG.getD 0 []).getD 0 undef)) ((s1_4 ++ [[(i_7 - 1)]]) : List (List Int))⟩] (wn rfl) rfl rfl rfl (fun G => by refine OpX.n3 (A' := [Cr (.slice a31 1 k32) 1 [.int .i64 (i_7 - 1)], os (.slice a8 s1_4.length k9) (s1_4 : List (List Int)), Cr ((G 3).getD 0 undef) 1 [.slice a31 1 k32]]) (V' := fun g => (g.getD 0 undef)) (B' := fun g => [sl (.slice a31 1 k32) ([(i_7 - 1)] : List Int), os ((g.getD 0 undef)) ((s1_4 ++ [[(i_7 - 1)]]) : List (List Int))]) (by kernel_rfl) (by kernel_rfl) (by kernel_rfl) ?_; refine OpX.pre [0] rfl (Ent.crInt _ [(i_7 - 1)] _ _ rfl rfl (by intro x hx; rw [List.mem_singleton] at hx; subst hx; unfold i64ok; omega) (Nat.le_of_ble_eq_true rfl)) ?_; refine OpX.pre [0] rfl (Ent.freeze _ _) ?_; refine OpX.pre [2, 0] rfl (Ent.cr1 (α := List Int) (A := [sl (.slice a31 1 k32) ([(i_7 - 1)] : List Int)]) _ [(i_7 - 1)] _ (Nat.le_of_ble_eq_true rfl) (fun h => ⟨_, rfl, sepAll_get (i := 0) rfl h⟩)) ?_; refine OpX.seeL (L' := [(17, .slice a8 s1_4.length k9), (19, ((G 3).getD 0 undef))]) (Env.sub_all (by kernel_rfl)) ?_; refine OpX.postR (OpX.ofA (by intro _ _ h; cases h) (OpA.frame [3, 0] rfl (OpA.appO (α := List Int) (xs := s1_4) (ys := [[(i_7 - 1)]]) rfl rfl rfl sl23 sl23 sz23 rfl rfl rfl (by show (_ + _) * 24 ≤ 140737488355328; first | omega | (simp only [lens]; omega) | (simp only [lens] at *; omega))))) (fun g => ?_); exact Ent.take (is := [1, 0]) rfl) ?_
      refine JD_v [0] (wn rfl) rfl rfl (OpV.fieldAddr rfl rfl fo27_2 (i := 0) rfl (isPtr_fact _)) ?_
      refine JD_v [5] (wn rfl) rfl rfl (OpV.loadF rfl rfl sh24 (i := 0) rfl (reads_Cl _ _) rfl) ?_
      refine JD_x [] [7] (fun lG => .agg #[.int .i64 rv40.Gen.Width, ((lG.getD 0 []).getD 0 undef), .int .i64 rv40.Kill.Width, ((lG.getD 0 []).getD 1 undef), ((lG.getD 0 []).getD 2 undef)]) [⟨some 7, none, [], fun lG => SP.fact (i64ok rv40.Gen.Width ∧ i64ok rv40.Kill.Width)⟩, ⟨some 7, none, [7], fun lG => sl (((lG.getD 0 []).getD 0 undef)) (rv40.Gen.Words : List (BitVec 64))⟩, ⟨some 7, none, [7], fun lG => sl (((lG.getD 0 []).getD 1 undef)) (rv40.Kill.Words : List (BitVec 64))⟩, ⟨some 7, none, [7], fun lG => sl (((lG.getD 0 []).getD 2 undef)) (rv40.Copies : List GCopy)⟩] (wn rfl) rfl rfl rfl (fun G => by refine OpX.n3 (A' := []) (V' := fun g => .agg #[.int .i64 rv40.Gen.Width, (g.getD 0 undef), .int .i64 rv40.Kill.Width, (g.getD 1 undef), (g.getD 2 undef)]) (B' := fun g => [SP.fact (i64ok rv40.Gen.Width ∧ i64ok rv40.Kill.Width), sl ((g.getD 0 undef)) (rv40.Gen.Words : List (BitVec 64)), sl ((g.getD 1 undef)) (rv40.Kill.Words : List (BitVec 64)), sl ((g.getD 2 undef)) (rv40.Copies : List GCopy)]) (by kernel_rfl) (by kernel_rfl) (by kernel_rfl) ?_; refine OpX.postR (OpX.frame [] rfl (OpX.ofC (fun g => [g.1, g.2.1, g.2.2]) (fun l => (l.getD 0 undef, l.getD 1 undef, l.getD 2 undef)) (fun _ => rfl) (by intro _ _ h; cases h) (OpC.fn rfl ca41 rfl) (fn41 0 (by (try dsimp only) <;> first | (unfold i64ok; omega) | omega | assumption) (by (try dsimp only) <;> first | (unfold i64ok; omega) | omega | assumption) rv40 hg41))) (fun g => ?_); exact Ent.take (is := [0, 1, 2, 3]) rfl) ?_
      refine JD_x [] [8] (fun lG => ((lG.getD 0 []).getD 0 undef)) [⟨some 8, some 9, [7, 8], fun lG => Cr ((lG.getD 1 []).getD 0 undef) 1 [.int .i64 rv40.Gen.Width, ((lG.getD 0 []).getD 0 undef), .int .i64 rv40.Kill.Width, ((lG.getD 0 []).getD 1 undef), ((lG.getD 0 []).getD 2 undef)]⟩] (wn rfl) rfl rfl rfl (fun G => by refine OpX.n3 (A' := []) (V' := fun g => (g.getD 0 undef)) (B' := fun g => [Cr (g.getD 0 undef) 1 [.int .i64 rv40.Gen.Width, ((G 7).getD 0 undef), .int .i64 rv40.Kill.Width, ((G 7).getD 1 undef), ((G 7).getD 2 undef)]]) (by kernel_rfl) (by kernel_rfl) (by kernel_rfl) ?_; refine OpX.seeL (L' := [(23, .agg #[.int .i64 rv40.Gen.Width, ((G 7).getD 0 undef), .int .i64 rv40.Kill.Width, ((G 7).getD 1 undef), ((G 7).getD 2 undef)])]) (Env.sub_all (by kernel_rfl)) ?_; refine OpX.postR (OpX.ofA (by intro _ _ h; cases h) (OpA.buildSliceV [.agg #[.int .i64 rv40.Gen.Width, ((G 7).getD 0 undef), .int .i64 rv40.Kill.Width, ((G 7).getD 1 undef), ((G 7).getD 2 undef)]] [.int .i64 rv40.Gen.Width, ((G 7).getD 0 undef), .int .i64 rv40.Kill.Width, ((G 7).getD 1 undef), ((G 7).getD 2 undef)] rfl sl24 sz24 rfl (Env.evp_map rfl) rfl rfl rfl rfl)) (fun g => ?_); exact Ent.take (is := [0]) rfl) ?_
      refine JD_x [3, 10, 11, 12, 13, 14] [9] (fun lG => ((lG.getD 0 []).getD 0 undef)) [⟨some 9, none, [9], fun lG => os (((lG.getD 0 []).getD 0 undef)) ((s2_5 ++ [rv40]) : List GTransfer)⟩] (wn rfl) rfl rfl rfl (fun G => by refine OpX.n3 (A' := [os (.slice a10 s2_5.length k11) (s2_5 : List GTransfer), SP.fact (i64ok rv40.Gen.Width ∧ i64ok rv40.Kill.Width), sl (((G 7).getD 0 undef)) (rv40.Gen.Words : List (BitVec 64)), sl (((G 7).getD 1 undef)) (rv40.Kill.Words : List (BitVec 64)), sl (((G 7).getD 2 undef)) (rv40.Copies : List GCopy), Cr ((G 8).getD 0 undef) 1 [.int .i64 rv40.Gen.Width, ((G 7).getD 0 undef), .int .i64 rv40.Kill.Width, ((G 7).getD 1 undef), ((G 7).getD 2 undef)]]) (V' := fun g => (g.getD 0 undef)) (B' := fun g => [SP.fact (i64ok rv40.Gen.Width ∧ i64ok rv40.Kill.Width), sl (((G 7).getD 0 undef)) (rv40.Gen.Words : List (BitVec 64)), sl (((G 7).getD 1 undef)) (rv40.Kill.Words : List (BitVec 64)), sl (((G 7).getD 2 undef)) (rv40.Copies : List GCopy), os ((g.getD 0 undef)) ((s2_5 ++ [rv40]) : List GTransfer)]) (by kernel_rfl) (by kernel_rfl) (by kernel_rfl) ?_; refine OpX.fact 1 rfl (fun h => h) ?_; rintro ⟨he51, he52⟩; have he51 : -9223372036854775808 ≤ rv40.Gen.Width ∧ rv40.Gen.Width ≤ 9223372036854775807 := he51; have he52 : -9223372036854775808 ≤ rv40.Kill.Width ∧ rv40.Kill.Width ≤ 9223372036854775807 := he52; refine OpX.pre [5, 2, 3, 4] rfl (Ent.cr1 (α := GTransfer) (A := [sl (((G 7).getD 0 undef)) (rv40.Gen.Words : List (BitVec 64)), sl (((G 7).getD 1 undef)) (rv40.Kill.Words : List (BitVec 64)), sl (((G 7).getD 2 undef)) (rv40.Copies : List GCopy)]) _ rv40 _ (Nat.le_of_ble_eq_true rfl) (fun h => ⟨_, _, _, rfl, (by unfold i64ok; first | omega | (dsimp only; omega)), sepAll_get (i := 0) rfl h, (by unfold i64ok; first | omega | (dsimp only; omega)), sepAll_get (i := 1) rfl h, sepAll_get (i := 2) rfl h⟩)) ?_; refine OpX.seeL (L' := [(22, .slice a10 s2_5.length k11), (24, ((G 8).getD 0 undef))]) (Env.sub_all (by kernel_rfl)) ?_; refine OpX.postR (OpX.ofA (by intro _ _ h; cases h) (OpA.frame [4, 0] rfl (OpA.appO (α := GTransfer) (xs := s2_5) (ys := [rv40]) rfl rfl rfl sl24 sl24 sz24 rfl rfl rfl (by show (_ + _) * 88 ≤ 140737488355328; first | omega | (simp only [lens]; omega) | (simp only [lens] at *; omega))))) (fun g => ?_); exact Ent.take (is := [4, 1, 2, 3, 0]) rfl) ?_
      refine JD_v [0] (wn rfl) rfl rfl (OpV.fieldAddr rfl rfl fo27_3 (i := 0) rfl (isPtr_fact _)) ?_
      refine JD_v [5] (wn rfl) rfl rfl (OpV.loadF rfl rfl sh25 (i := 0) rfl (reads_Cl _ _) rfl) ?_
      refine JD_x [10] [12] (fun lG => .agg #[.int .i64 rv46.Width, ((lG.getD 0 []).getD 0 undef)]) [⟨some 12, none, [], fun lG => SP.fact (i64ok rv46.Width ∧ (rv46.Width = 0) ∧ (rv46.Words.length = (((0 : Int) + 63) / 64).toNat))⟩, ⟨some 12, some 14, [12], fun lG => os (((lG.getD 0 []).getD 0 undef)) (rv46.Words : List (BitVec 64))⟩] (wn rfl) rfl rfl rfl (fun G => by refine OpX.n3 (A' := [SP.fact (i64ok rv40.Gen.Width ∧ i64ok rv40.Kill.Width)]) (V' := fun g => .agg #[.int .i64 rv46.Width, (g.getD 0 undef)]) (B' := fun g => [SP.fact (i64ok rv40.Gen.Width ∧ i64ok rv40.Kill.Width), SP.fact (i64ok rv46.Width ∧ (rv46.Width = 0) ∧ (rv46.Words.length = (((0 : Int) + 63) / 64).toNat)), os ((g.getD 0 undef)) (rv46.Words : List (BitVec 64))]) (by kernel_rfl) (by kernel_rfl) (by kernel_rfl) ?_; refine OpX.fact 0 rfl (fun h => h) ?_; rintro ⟨he53, he54⟩; have he53 : -9223372036854775808 ≤ rv40.Gen.Width ∧ rv40.Gen.Width ≤ 9223372036854775807 := he53; have he54 : -9223372036854775808 ≤ rv40.Kill.Width ∧ rv40.Kill.Width ≤ 9223372036854775807 := he54; refine OpX.postR (OpX.frame [] rfl (OpX.ofC (fun g => [g]) (fun l => l.getD 0 undef) (fun _ => rfl) (by intro _ _ h; cases h) (OpC.fn rfl ca19 rfl) (fn19 0 (by (try dsimp only) <;> first | (unfold i64ok; omega) | omega | assumption) (by (try dsimp only) <;> first | (unfold i64ok; omega) | omega | assumption) rv46 hg47))) (fun g => ?_); exact Ent.take (is := [2, 0, 1]) rfl) ?_
      refine JD_x [] [13] (fun lG => ((lG.getD 0 []).getD 0 undef)) [⟨some 13, some 14, [12, 13], fun lG => Cr ((lG.getD 1 []).getD 0 undef) 1 [.int .i64 rv46.Width, ((lG.getD 0 []).getD 0 undef)]⟩] (wn rfl) rfl rfl rfl (fun G => by refine OpX.n3 (A' := []) (V' := fun g => (g.getD 0 undef)) (B' := fun g => [Cr (g.getD 0 undef) 1 [.int .i64 rv46.Width, ((G 12).getD 0 undef)]]) (by kernel_rfl) (by kernel_rfl) (by kernel_rfl) ?_; refine OpX.seeL (L' := [(28, .agg #[.int .i64 rv46.Width, ((G 12).getD 0 undef)])]) (Env.sub_all (by kernel_rfl)) ?_; refine OpX.postR (OpX.ofA (by intro _ _ h; cases h) (OpA.buildSliceV [.agg #[.int .i64 rv46.Width, ((G 12).getD 0 undef)]] [.int .i64 rv46.Width, ((G 12).getD 0 undef)] rfl sl25 sz25 rfl (Env.evp_map rfl) rfl rfl rfl rfl)) (fun g => ?_); exact Ent.take (is := [0]) rfl) ?_
      refine JD_x [2, 10, 16, 17, 18] [14] (fun lG => ((lG.getD 0 []).getD 0 undef)) [⟨some 14, none, [12], fun lG => sl (((lG.getD 0 []).getD 0 undef)) (rv46.Words : List (BitVec 64))⟩, ⟨some 14, none, [14], fun lG => os (((lG.getD 0 []).getD 0 undef)) ((s3_6 ++ [rv46]) : List GSet)⟩] (wn rfl) rfl rfl rfl (fun G => by refine OpX.n3 (A' := [os (.slice a12 s3_6.length k13) (s3_6 : List GSet), SP.fact (i64ok rv40.Gen.Width ∧ i64ok rv40.Kill.Width), SP.fact (i64ok rv46.Width ∧ (rv46.Width = 0) ∧ (rv46.Words.length = (((0 : Int) + 63) / 64).toNat)), os (((G 12).getD 0 undef)) (rv46.Words : List (BitVec 64)), Cr ((G 13).getD 0 undef) 1 [.int .i64 rv46.Width, ((G 12).getD 0 undef)]]) (V' := fun g => (g.getD 0 undef)) (B' := fun g => [SP.fact (i64ok rv40.Gen.Width ∧ i64ok rv40.Kill.Width), SP.fact (i64ok rv46.Width ∧ (rv46.Width = 0) ∧ (rv46.Words.length = (((0 : Int) + 63) / 64).toNat)), sl (((G 12).getD 0 undef)) (rv46.Words : List (BitVec 64)), os ((g.getD 0 undef)) ((s3_6 ++ [rv46]) : List GSet)]) (by kernel_rfl) (by kernel_rfl) (by kernel_rfl) ?_; refine OpX.fact 1 rfl (fun h => h) ?_; rintro ⟨he55, he56⟩; have he55 : -9223372036854775808 ≤ rv40.Gen.Width ∧ rv40.Gen.Width ≤ 9223372036854775807 := he55; have he56 : -9223372036854775808 ≤ rv40.Kill.Width ∧ rv40.Kill.Width ≤ 9223372036854775807 := he56; refine OpX.fact 2 rfl (fun h => h) ?_; rintro ⟨he57, he58, he59⟩; have he57 : -9223372036854775808 ≤ rv46.Width ∧ rv46.Width ≤ 9223372036854775807 := he57; refine OpX.pre [3] rfl (Ent.freeze _ _) ?_; refine OpX.pre [4, 0] rfl (Ent.cr1 (α := GSet) (A := [sl (((G 12).getD 0 undef)) (rv46.Words : List (BitVec 64))]) _ rv46 _ (Nat.le_of_ble_eq_true rfl) (fun h => ⟨_, rfl, (by unfold i64ok; first | omega | (dsimp only; omega)), sepAll_get (i := 0) rfl h⟩)) ?_; refine OpX.seeL (L' := [(27, .slice a12 s3_6.length k13), (29, ((G 13).getD 0 undef))]) (Env.sub_all (by kernel_rfl)) ?_; refine OpX.postR (OpX.ofA (by intro _ _ h; cases h) (OpA.frame [3, 0] rfl (OpA.appO (α := GSet) (xs := s3_6) (ys := [rv46]) rfl rfl rfl sl25 sl25 sz25 rfl rfl rfl (by show (_ + _) * 32 ≤ 140737488355328; first | omega | (simp only [lens]; omega) | (simp only [lens] at *; omega))))) (fun g => ?_); exact Ent.take (is := [3, 4, 1, 0]) rfl) ?_
      refine JD_v [0] (wn rfl) rfl rfl (OpV.fieldAddr rfl rfl fo27_1 (i := 0) rfl (isPtr_fact _)) ?_
      refine JD_x0 [5, 9] [⟨some 16, some 18, [4], fun lG => Cl p2 [.int .i64 0, ((lG.getD 0 []).getD 0 undef), .slice a10 s2_5.length k11, .slice a12 s3_6.length k13]⟩] (wn rfl) rfl rfl rfl (fun G => by refine OpX.n3 (A' := [Cl p2 [.int .i64 0, .slice a8 s1_4.length k9, .slice a10 s2_5.length k11, .slice a12 s3_6.length k13], os (((G 4).getD 0 undef)) ((s1_4 ++ [[(i_7 - 1)]]) : List (List Int))]) (V' := fun g => undef) (B' := fun g => [os (((G 4).getD 0 undef)) ((s1_4 ++ [[(i_7 - 1)]]) : List (List Int)), Cl p2 [.int .i64 0, ((G 4).getD 0 undef), .slice a10 s2_5.length k11, .slice a12 s3_6.length k13]]) (by kernel_rfl) (by kernel_rfl) (by kernel_rfl) ?_; refine OpX.fact 1 rfl os_one ?_; intro ho60; refine OpX.seeL (L' := [(20, ((G 4).getD 0 undef)), (31, fptr p2 1)]) (Env.sub_all (by kernel_rfl)) ?_; refine OpX.postR (OpX.ofS (by intro _ _ h; cases h) rfl (OpS.frame [0] rfl (OpS.storeClF [((G 4).getD 0 undef)] [.int .i64 0, ((G 4).getD 0 undef), .slice a10 s2_5.length k11, .slice a12 s3_6.length k13] rfl rfl rfl sh23 (cells_of_one ho60) rfl (by simp only [List.all_cons, List.all_nil, ho60, Bool.and_true, Bool.true_and] <;> rfl) (Nat.le_of_ble_eq_true rfl) rfl))) (fun g => ?_); exact Ent.take (is := [1, 0]) rfl) ?_
      refine JD_v [0] (wn rfl) rfl rfl (OpV.fieldAddr rfl rfl fo27_2 (i := 0) rfl (isPtr_fact _)) ?_
      refine JD_x0 [15, 21] [⟨some 18, some 20, [4, 9], fun lG => Cl p2 [.int .i64 0, ((lG.getD 0 []).getD 0 undef), ((lG.getD 1 []).getD 0 undef), .slice a12 s3_6.length k13]⟩] (wn rfl) rfl rfl rfl (fun G => by refine OpX.n3 (A' := [os (((G 9).getD 0 undef)) ((s2_5 ++ [rv40]) : List GTransfer), Cl p2 [.int .i64 0, ((G 4).getD 0 undef), .slice a10 s2_5.length k11, .slice a12 s3_6.length k13]]) (V' := fun g => undef) (B' := fun g => [os (((G 9).getD 0 undef)) ((s2_5 ++ [rv40]) : List GTransfer), Cl p2 [.int .i64 0, ((G 4).getD 0 undef), ((G 9).getD 0 undef), .slice a12 s3_6.length k13]]) (by kernel_rfl) (by kernel_rfl) (by kernel_rfl) ?_; refine OpX.fact 0 rfl os_one ?_; intro ho61; refine OpX.seeL (L' := [(25, ((G 9).getD 0 undef)), (32, fptr p2 2)]) (Env.sub_all (by kernel_rfl)) ?_; refine OpX.postR (OpX.ofS (by intro _ _ h; cases h) rfl (OpS.frame [1] rfl (OpS.storeClF [((G 9).getD 0 undef)] [.int .i64 0, ((G 4).getD 0 undef), ((G 9).getD 0 undef), .slice a12 s3_6.length k13] rfl rfl rfl sh24 (cells_of_one ho61) rfl (by simp only [List.all_cons, List.all_nil, ho61, Bool.and_true, Bool.true_and] <;> rfl) (Nat.le_of_ble_eq_true rfl) rfl))) (fun g => ?_); exact Ent.take (is := [1, 0]) rfl) ?_
      refine JD_v [0] (wn rfl) rfl rfl (OpV.fieldAddr rfl rfl fo27_3 (i := 0) rfl (isPtr_fact _)) ?_
      refine JD_x0 [20, 22] [⟨some 20, none, [4, 9, 14], fun lG => Cl p2 [.int .i64 0, ((lG.getD 0 []).getD 0 undef), ((lG.getD 1 []).getD 0 undef), ((lG.getD 2 []).getD 0 undef)]⟩] (wn rfl) rfl rfl rfl (fun G => by refine OpX.n3 (A' := [os (((G 14).getD 0 undef)) ((s3_6 ++ [rv46]) : List GSet), Cl p2 [.int .i64 0, ((G 4).getD 0 undef), ((G 9).getD 0 undef), .slice a12 s3_6.length k13]]) (V' := fun g => undef) (B' := fun g => [os (((G 14).getD 0 undef)) ((s3_6 ++ [rv46]) : List GSet), Cl p2 [.int .i64 0, ((G 4).getD 0 undef), ((G 9).getD 0 undef), ((G 14).getD 0 undef)]]) (by kernel_rfl) (by kernel_rfl) (by kernel_rfl) ?_; refine OpX.fact 0 rfl os_one ?_; intro ho62; refine OpX.seeL (L' := [(30, ((G 14).getD 0 undef)), (33, fptr p2 3)]) (Env.sub_all (by kernel_rfl)) ?_; refine OpX.postR (OpX.ofS (by intro _ _ h; cases h) rfl (OpS.frame [1] rfl (OpS.storeClF [((G 14).getD 0 undef)] [.int .i64 0, ((G 4).getD 0 undef), ((G 9).getD 0 undef), ((G 14).getD 0 undef)] rfl rfl rfl sh25 (cells_of_one ho62) rfl (by simp only [List.all_cons, List.all_nil, ho62, Bool.and_true, Bool.true_and] <;> rfl) (Nat.le_of_ble_eq_true rfl) rfl))) (fun g => ?_); exact Ent.take (is := [1, 0]) rfl) ?_
      refine JD_nil ⟨by kernel_rfl, fun G => ?_⟩
      refine JJ_weaken (L' := [(0, .int .i64 n), (2, p1), (3, p2), (4, .int .i64 i_7)]) (A' := [SP.fact (isP p2), Cl p1 [.int .i64 0, .slice none 0 0, .slice none 0 0, .slice none 0 0], sl (.slice a31 1 k32) ([(i_7 - 1)] : List Int), os (((G 4).getD 0 undef)) ((s1_4 ++ [[(i_7 - 1)]]) : List (List Int)), SP.fact (i64ok rv40.Gen.Width ∧ i64ok rv40.Kill.Width), sl (((G 7).getD 0 undef)) (rv40.Gen.Words : List (BitVec 64)), sl (((G 7).getD 1 undef)) (rv40.Kill.Words : List (BitVec 64)), sl (((G 7).getD 2 undef)) (rv40.Copies : List GCopy), os (((G 9).getD 0 undef)) ((s2_5 ++ [rv40]) : List GTransfer), SP.fact (i64ok rv46.Width ∧ (rv46.Width = 0) ∧ (rv46.Words.length = (((0 : Int) + 63) / 64).toNat)), sl (((G 12).getD 0 undef)) (rv46.Words : List (BitVec 64)), os (((G 14).getD 0 undef)) ((s3_6 ++ [rv46]) : List GSet), Cl p2 [.int .i64 0, ((G 4).getD 0 undef), ((G 9).getD 0 undef), ((G 14).getD 0 undef)]]) (Env.sub_all (by kernel_rfl)) (Ent.of_eq (by kernel_rfl)) ?_
      generalize ((G 4).getD 0 undef) = c35
      generalize ((G 7).getD 0 undef) = c37
      generalize ((G 7).getD 1 undef) = c38
      generalize ((G 7).getD 2 undef) = c39
      generalize ((G 9).getD 0 undef) = c43
      generalize ((G 12).getD 0 undef) = c45
      generalize ((G 14).getD 0 undef) = c49
      refine JJ_fact 4 rfl (fun h => h) ?_
      rintro ⟨he63, he64⟩
      have he63 : -9223372036854775808 ≤ rv40.Gen.Width ∧ rv40.Gen.Width ≤ 9223372036854775807 := he63
      have he64 : -9223372036854775808 ≤ rv40.Kill.Width ∧ rv40.Kill.Width ≤ 9223372036854775807 := he64
      refine JJ_fact 9 rfl (fun h => h) ?_
      rintro ⟨he65, he66, he67⟩
      have he65 : -9223372036854775808 ≤ rv46.Width ∧ rv46.Width ≤ 9223372036854775807 := he65
      refine JJ_keep [1, 1, 2, 3, 4, 5, 6, 7, 8, 8] rfl ?_
      refine JJ_slice 2 rfl os_slice ?_
      rintro a68 k69 rfl
      refine JJ_fact 2 rfl os_bytes ?_
      intro hl70
      have hl70 : (s1_4 ++ [[(i_7 - 1)]]).length * 24 ≤ 140737488355328 := hl70
      refine JJ_slice 3 rfl sl_slice ?_
      rintro a71 k72 rfl
      refine JJ_fact 3 rfl sl_bytes ?_
      intro hl73
      have hl73 : rv40.Gen.Words.length * 8 ≤ 140737488355328 := hl73
      refine JJ_slice 4 rfl sl_slice ?_
      rintro a74 k75 rfl
      refine JJ_fact 4 rfl sl_bytes ?_
      intro hl76
      have hl76 : rv40.Kill.Words.length * 8 ≤ 140737488355328 := hl76
      refine JJ_slice 5 rfl sl_slice ?_
      rintro a77 k78 rfl
      refine JJ_fact 5 rfl sl_bytes ?_
      intro hl79
      have hl79 : rv40.Copies.length * 16 ≤ 140737488355328 := hl79
      refine JJ_slice 6 rfl os_slice ?_
      rintro a80 k81 rfl
      refine JJ_fact 6 rfl os_bytes ?_
      intro hl82
      have hl82 : (s2_5 ++ [rv40]).length * 88 ≤ 140737488355328 := hl82
      refine JJ_slice 7 rfl sl_slice ?_
      rintro a83 k84 rfl
      refine JJ_fact 7 rfl sl_bytes ?_
      intro hl85
      have hl85 : rv46.Words.length * 8 ≤ 140737488355328 := hl85
      refine JJ_slice 8 rfl os_slice ?_
      rintro a86 k87 rfl
      refine JJ_fact 8 rfl os_bytes ?_
      intro hl88
      have hl88 : (s3_6 ++ [rv46]).length * 32 ≤ 140737488355328 := hl88
      refine JK_blk ?_
      refine JK_region ?_
      refine JO_q rfl rfl rfl (OpV.move rfl rfl) ?_
      refine JO_q rfl rfl rfl (OpV.add rfl rfl rfl (by unfold i64ok; omega)) ?_
      refine JO_q rfl rfl rfl (OpV.assign rfl rfl) ?_
      refine JO_nil ?_
      refine JK_goal (r27, (s1_4 ++ [[(i_7 - 1)]]), (s2_5 ++ [rv40]), (s3_6 ++ [rv46]), (i_7 + 1), a68, k69, a80, k81, a86, k87) ⟨(by rw [← hM14]; simp only [flqlaw14_line_L0, h25, h28, hg41, hg47, cs4]), (by omega), (by omega), (by omega), (by omega), (by first | omega | (simp only [lens]; omega) | assumption), (by first | omega | (simp only [lens]; omega) | assumption), (by first | omega | (simp only [lens]; omega) | assumption)⟩ (by show r27 < r27 + 1; omega) (Env.sub_all rfl) (Ent.take (is := [8, 6, 2, 6, 0]) rfl)
    · skip
      have g89 : ¬ (0 < i_7) := of_decide_eq_false h28
      refine JK_skip ?_
      refine JJ_fact 3 rfl isP_Cl ?_
      intro hp90
      refine JJ_addFact hp90 ?_
      refine letv (flqref1_Identity 0) fun rv97 hg98 => ?_
      refine letv (flqref1_Empty 0) fun rv103 hg104 => ?_
      have hn93 : ((s1_4 ++ [[]]) : List (List Int)).length = (s1_4 : List (List Int)).length + ([[]] : List (List Int)).length := List.length_append
      have hn101 : ((s2_5 ++ [rv97]) : List GTransfer).length = (s2_5 : List GTransfer).length + ([rv97] : List GTransfer).length := List.length_append
      have hn107 : ((s3_6 ++ [rv103]) : List GSet).length = (s3_6 : List GSet).length + ([rv103] : List GSet).length := List.length_append
      refine JK_drawJ [0, 1, 0, 4, 15, 0, 32, 31, 159, 511, 0, 1024, 1023, 5119, 16383, 3199, 65535, 131071, 262143, 524287, 1048575] [none, some 14, some 9, some 4, some 16] fmix ?_
      refine JD_v [0] (wn rfl) rfl rfl (OpV.fieldAddr rfl rfl fo27_1 (i := 0) rfl (isPtr_fact _)) ?_
      refine JD_v [4] (wn rfl) rfl rfl (OpV.loadF rfl rfl sh23 (i := 0) rfl (reads_Cl _ _) rfl) ?_
      refine JD_v [] (wn rfl) rfl rfl (OpV.move rfl rfl) ?_
      refine JD_x [] [3] (fun lG => ((lG.getD 0 []).getD 0 undef)) [⟨some 3, some 4, [3], fun lG => Cr ((lG.getD 0 []).getD 0 undef) 1 [.slice none 0 0]⟩] (wn rfl) rfl rfl rfl (fun G => by refine OpX.n3 (A' := []) (V' := fun g => (g.getD 0 undef)) (B' := fun g => [Cr (g.getD 0 undef) 1 [.slice none 0 0]]) (by kernel_rfl) (by kernel_rfl) (by kernel_rfl) ?_; refine OpX.postR (OpX.ofA (by intro _ _ h; cases h) (OpA.buildSliceV [.slice none 0 0] [.slice none 0 0] rfl sl23 sz23 rfl (Env.evp_map rfl) rfl rfl rfl rfl)) (fun g => ?_); exact Ent.take (is := [0]) rfl) ?_
      refine JD_x [3, 6] [4] (fun lG => ((lG.getD 0 []).getD 0 undef)) [⟨some 4, none, [4], fun lG => os (((lG.getD 0 []).getD 0 undef)) ((s1_4 ++ [[]]) : List (List Int))⟩] (wn rfl) rfl rfl rfl (fun G => by refine OpX.n3 (A' := [os (.slice a8 s1_4.length k9) (s1_4 : List (List Int)), Cr ((G 3).getD 0 undef) 1 [.slice none 0 0]]) (V' := fun g => (g.getD 0 undef)) (B' := fun g => [os ((g.getD 0 undef)) ((s1_4 ++ [[]]) : List (List Int))]) (by kernel_rfl) (by kernel_rfl) (by kernel_rfl) ?_; refine OpX.pre [1] rfl (Ent.cr1 (α := List Int) (A := []) _ [] _ (Nat.le_of_ble_eq_true rfl) (fun _ => ⟨_, rfl, slrd_nil⟩)) ?_; refine OpX.seeL (L' := [(17, .slice a8 s1_4.length k9), (19, ((G 3).getD 0 undef))]) (Env.sub_all (by kernel_rfl)) ?_; refine OpX.postR (OpX.ofA (by intro _ _ h; cases h) (OpA.frame [1, 0] rfl (OpA.appO (α := List Int) (xs := s1_4) (ys := [[]]) rfl rfl rfl sl23 sl23 sz23 rfl rfl rfl (by show (_ + _) * 24 ≤ 140737488355328; first | omega | (simp only [lens]; omega) | (simp only [lens] at *; omega))))) (fun g => ?_); exact Ent.take (is := [0]) rfl) ?_
      refine JD_v [0] (wn rfl) rfl rfl (OpV.fieldAddr rfl rfl fo27_2 (i := 0) rfl (isPtr_fact _)) ?_
      refine JD_v [4] (wn rfl) rfl rfl (OpV.loadF rfl rfl sh24 (i := 0) rfl (reads_Cl _ _) rfl) ?_
      refine JD_x [] [7] (fun lG => .agg #[.int .i64 rv97.Gen.Width, ((lG.getD 0 []).getD 0 undef), .int .i64 rv97.Kill.Width, ((lG.getD 0 []).getD 1 undef), ((lG.getD 0 []).getD 2 undef)]) [⟨some 7, none, [], fun lG => SP.fact (i64ok rv97.Gen.Width ∧ i64ok rv97.Kill.Width)⟩, ⟨some 7, none, [7], fun lG => sl (((lG.getD 0 []).getD 0 undef)) (rv97.Gen.Words : List (BitVec 64))⟩, ⟨some 7, none, [7], fun lG => sl (((lG.getD 0 []).getD 1 undef)) (rv97.Kill.Words : List (BitVec 64))⟩, ⟨some 7, none, [7], fun lG => sl (((lG.getD 0 []).getD 2 undef)) (rv97.Copies : List GCopy)⟩] (wn rfl) rfl rfl rfl (fun G => by refine OpX.n3 (A' := []) (V' := fun g => .agg #[.int .i64 rv97.Gen.Width, (g.getD 0 undef), .int .i64 rv97.Kill.Width, (g.getD 1 undef), (g.getD 2 undef)]) (B' := fun g => [SP.fact (i64ok rv97.Gen.Width ∧ i64ok rv97.Kill.Width), sl ((g.getD 0 undef)) (rv97.Gen.Words : List (BitVec 64)), sl ((g.getD 1 undef)) (rv97.Kill.Words : List (BitVec 64)), sl ((g.getD 2 undef)) (rv97.Copies : List GCopy)]) (by kernel_rfl) (by kernel_rfl) (by kernel_rfl) ?_; refine OpX.postR (OpX.frame [] rfl (OpX.ofC (fun g => [g.1, g.2.1, g.2.2]) (fun l => (l.getD 0 undef, l.getD 1 undef, l.getD 2 undef)) (fun _ => rfl) (by intro _ _ h; cases h) (OpC.fn rfl ca41 rfl) (fn41 0 (by (try dsimp only) <;> first | (unfold i64ok; omega) | omega | assumption) (by (try dsimp only) <;> first | (unfold i64ok; omega) | omega | assumption) rv97 hg98))) (fun g => ?_); exact Ent.take (is := [0, 1, 2, 3]) rfl) ?_
      refine JD_x [] [8] (fun lG => ((lG.getD 0 []).getD 0 undef)) [⟨some 8, some 9, [7, 8], fun lG => Cr ((lG.getD 1 []).getD 0 undef) 1 [.int .i64 rv97.Gen.Width, ((lG.getD 0 []).getD 0 undef), .int .i64 rv97.Kill.Width, ((lG.getD 0 []).getD 1 undef), ((lG.getD 0 []).getD 2 undef)]⟩] (wn rfl) rfl rfl rfl (fun G => by refine OpX.n3 (A' := []) (V' := fun g => (g.getD 0 undef)) (B' := fun g => [Cr (g.getD 0 undef) 1 [.int .i64 rv97.Gen.Width, ((G 7).getD 0 undef), .int .i64 rv97.Kill.Width, ((G 7).getD 1 undef), ((G 7).getD 2 undef)]]) (by kernel_rfl) (by kernel_rfl) (by kernel_rfl) ?_; refine OpX.seeL (L' := [(23, .agg #[.int .i64 rv97.Gen.Width, ((G 7).getD 0 undef), .int .i64 rv97.Kill.Width, ((G 7).getD 1 undef), ((G 7).getD 2 undef)])]) (Env.sub_all (by kernel_rfl)) ?_; refine OpX.postR (OpX.ofA (by intro _ _ h; cases h) (OpA.buildSliceV [.agg #[.int .i64 rv97.Gen.Width, ((G 7).getD 0 undef), .int .i64 rv97.Kill.Width, ((G 7).getD 1 undef), ((G 7).getD 2 undef)]] [.int .i64 rv97.Gen.Width, ((G 7).getD 0 undef), .int .i64 rv97.Kill.Width, ((G 7).getD 1 undef), ((G 7).getD 2 undef)] rfl sl24 sz24 rfl (Env.evp_map rfl) rfl rfl rfl rfl)) (fun g => ?_); exact Ent.take (is := [0]) rfl) ?_
      refine JD_x [2, 8, 9, 10, 11, 12] [9] (fun lG => ((lG.getD 0 []).getD 0 undef)) [⟨some 9, none, [9], fun lG => os (((lG.getD 0 []).getD 0 undef)) ((s2_5 ++ [rv97]) : List GTransfer)⟩] (wn rfl) rfl rfl rfl (fun G => by refine OpX.n3 (A' := [os (.slice a10 s2_5.length k11) (s2_5 : List GTransfer), SP.fact (i64ok rv97.Gen.Width ∧ i64ok rv97.Kill.Width), sl (((G 7).getD 0 undef)) (rv97.Gen.Words : List (BitVec 64)), sl (((G 7).getD 1 undef)) (rv97.Kill.Words : List (BitVec 64)), sl (((G 7).getD 2 undef)) (rv97.Copies : List GCopy), Cr ((G 8).getD 0 undef) 1 [.int .i64 rv97.Gen.Width, ((G 7).getD 0 undef), .int .i64 rv97.Kill.Width, ((G 7).getD 1 undef), ((G 7).getD 2 undef)]]) (V' := fun g => (g.getD 0 undef)) (B' := fun g => [SP.fact (i64ok rv97.Gen.Width ∧ i64ok rv97.Kill.Width), sl (((G 7).getD 0 undef)) (rv97.Gen.Words : List (BitVec 64)), sl (((G 7).getD 1 undef)) (rv97.Kill.Words : List (BitVec 64)), sl (((G 7).getD 2 undef)) (rv97.Copies : List GCopy), os ((g.getD 0 undef)) ((s2_5 ++ [rv97]) : List GTransfer)]) (by kernel_rfl) (by kernel_rfl) (by kernel_rfl) ?_; refine OpX.fact 1 rfl (fun h => h) ?_; rintro ⟨he108, he109⟩; have he108 : -9223372036854775808 ≤ rv97.Gen.Width ∧ rv97.Gen.Width ≤ 9223372036854775807 := he108; have he109 : -9223372036854775808 ≤ rv97.Kill.Width ∧ rv97.Kill.Width ≤ 9223372036854775807 := he109; refine OpX.pre [5, 2, 3, 4] rfl (Ent.cr1 (α := GTransfer) (A := [sl (((G 7).getD 0 undef)) (rv97.Gen.Words : List (BitVec 64)), sl (((G 7).getD 1 undef)) (rv97.Kill.Words : List (BitVec 64)), sl (((G 7).getD 2 undef)) (rv97.Copies : List GCopy)]) _ rv97 _ (Nat.le_of_ble_eq_true rfl) (fun h => ⟨_, _, _, rfl, (by unfold i64ok; first | omega | (dsimp only; omega)), sepAll_get (i := 0) rfl h, (by unfold i64ok; first | omega | (dsimp only; omega)), sepAll_get (i := 1) rfl h, sepAll_get (i := 2) rfl h⟩)) ?_; refine OpX.seeL (L' := [(22, .slice a10 s2_5.length k11), (24, ((G 8).getD 0 undef))]) (Env.sub_all (by kernel_rfl)) ?_; refine OpX.postR (OpX.ofA (by intro _ _ h; cases h) (OpA.frame [4, 0] rfl (OpA.appO (α := GTransfer) (xs := s2_5) (ys := [rv97]) rfl rfl rfl sl24 sl24 sz24 rfl rfl rfl (by show (_ + _) * 88 ≤ 140737488355328; first | omega | (simp only [lens]; omega) | (simp only [lens] at *; omega))))) (fun g => ?_); exact Ent.take (is := [4, 1, 2, 3, 0]) rfl) ?_
      refine JD_v [0] (wn rfl) rfl rfl (OpV.fieldAddr rfl rfl fo27_3 (i := 0) rfl (isPtr_fact _)) ?_
      refine JD_v [4] (wn rfl) rfl rfl (OpV.loadF rfl rfl sh25 (i := 0) rfl (reads_Cl _ _) rfl) ?_
      refine JD_x [8] [12] (fun lG => .agg #[.int .i64 rv103.Width, ((lG.getD 0 []).getD 0 undef)]) [⟨some 12, none, [], fun lG => SP.fact (i64ok rv103.Width ∧ (rv103.Width = 0) ∧ (rv103.Words.length = (((0 : Int) + 63) / 64).toNat))⟩, ⟨some 12, some 14, [12], fun lG => os (((lG.getD 0 []).getD 0 undef)) (rv103.Words : List (BitVec 64))⟩] (wn rfl) rfl rfl rfl (fun G => by refine OpX.n3 (A' := [SP.fact (i64ok rv97.Gen.Width ∧ i64ok rv97.Kill.Width)]) (V' := fun g => .agg #[.int .i64 rv103.Width, (g.getD 0 undef)]) (B' := fun g => [SP.fact (i64ok rv97.Gen.Width ∧ i64ok rv97.Kill.Width), SP.fact (i64ok rv103.Width ∧ (rv103.Width = 0) ∧ (rv103.Words.length = (((0 : Int) + 63) / 64).toNat)), os ((g.getD 0 undef)) (rv103.Words : List (BitVec 64))]) (by kernel_rfl) (by kernel_rfl) (by kernel_rfl) ?_; refine OpX.fact 0 rfl (fun h => h) ?_; rintro ⟨he110, he111⟩; have he110 : -9223372036854775808 ≤ rv97.Gen.Width ∧ rv97.Gen.Width ≤ 9223372036854775807 := he110; have he111 : -9223372036854775808 ≤ rv97.Kill.Width ∧ rv97.Kill.Width ≤ 9223372036854775807 := he111; refine OpX.postR (OpX.frame [] rfl (OpX.ofC (fun g => [g]) (fun l => l.getD 0 undef) (fun _ => rfl) (by intro _ _ h; cases h) (OpC.fn rfl ca19 rfl) (fn19 0 (by (try dsimp only) <;> first | (unfold i64ok; omega) | omega | assumption) (by (try dsimp only) <;> first | (unfold i64ok; omega) | omega | assumption) rv103 hg104))) (fun g => ?_); exact Ent.take (is := [2, 0, 1]) rfl) ?_
      refine JD_x [] [13] (fun lG => ((lG.getD 0 []).getD 0 undef)) [⟨some 13, some 14, [12, 13], fun lG => Cr ((lG.getD 1 []).getD 0 undef) 1 [.int .i64 rv103.Width, ((lG.getD 0 []).getD 0 undef)]⟩] (wn rfl) rfl rfl rfl (fun G => by refine OpX.n3 (A' := []) (V' := fun g => (g.getD 0 undef)) (B' := fun g => [Cr (g.getD 0 undef) 1 [.int .i64 rv103.Width, ((G 12).getD 0 undef)]]) (by kernel_rfl) (by kernel_rfl) (by kernel_rfl) ?_; refine OpX.seeL (L' := [(28, .agg #[.int .i64 rv103.Width, ((G 12).getD 0 undef)])]) (Env.sub_all (by kernel_rfl)) ?_; refine OpX.postR (OpX.ofA (by intro _ _ h; cases h) (OpA.buildSliceV [.agg #[.int .i64 rv103.Width, ((G 12).getD 0 undef)]] [.int .i64 rv103.Width, ((G 12).getD 0 undef)] rfl sl25 sz25 rfl (Env.evp_map rfl) rfl rfl rfl rfl)) (fun g => ?_); exact Ent.take (is := [0]) rfl) ?_
      refine JD_x [1, 8, 14, 15, 16] [14] (fun lG => ((lG.getD 0 []).getD 0 undef)) [⟨some 14, none, [12], fun lG => sl (((lG.getD 0 []).getD 0 undef)) (rv103.Words : List (BitVec 64))⟩, ⟨some 14, none, [14], fun lG => os (((lG.getD 0 []).getD 0 undef)) ((s3_6 ++ [rv103]) : List GSet)⟩] (wn rfl) rfl rfl rfl (fun G => by refine OpX.n3 (A' := [os (.slice a12 s3_6.length k13) (s3_6 : List GSet), SP.fact (i64ok rv97.Gen.Width ∧ i64ok rv97.Kill.Width), SP.fact (i64ok rv103.Width ∧ (rv103.Width = 0) ∧ (rv103.Words.length = (((0 : Int) + 63) / 64).toNat)), os (((G 12).getD 0 undef)) (rv103.Words : List (BitVec 64)), Cr ((G 13).getD 0 undef) 1 [.int .i64 rv103.Width, ((G 12).getD 0 undef)]]) (V' := fun g => (g.getD 0 undef)) (B' := fun g => [SP.fact (i64ok rv97.Gen.Width ∧ i64ok rv97.Kill.Width), SP.fact (i64ok rv103.Width ∧ (rv103.Width = 0) ∧ (rv103.Words.length = (((0 : Int) + 63) / 64).toNat)), sl (((G 12).getD 0 undef)) (rv103.Words : List (BitVec 64)), os ((g.getD 0 undef)) ((s3_6 ++ [rv103]) : List GSet)]) (by kernel_rfl) (by kernel_rfl) (by kernel_rfl) ?_; refine OpX.fact 1 rfl (fun h => h) ?_; rintro ⟨he112, he113⟩; have he112 : -9223372036854775808 ≤ rv97.Gen.Width ∧ rv97.Gen.Width ≤ 9223372036854775807 := he112; have he113 : -9223372036854775808 ≤ rv97.Kill.Width ∧ rv97.Kill.Width ≤ 9223372036854775807 := he113; refine OpX.fact 2 rfl (fun h => h) ?_; rintro ⟨he114, he115, he116⟩; have he114 : -9223372036854775808 ≤ rv103.Width ∧ rv103.Width ≤ 9223372036854775807 := he114; refine OpX.pre [3] rfl (Ent.freeze _ _) ?_; refine OpX.pre [4, 0] rfl (Ent.cr1 (α := GSet) (A := [sl (((G 12).getD 0 undef)) (rv103.Words : List (BitVec 64))]) _ rv103 _ (Nat.le_of_ble_eq_true rfl) (fun h => ⟨_, rfl, (by unfold i64ok; first | omega | (dsimp only; omega)), sepAll_get (i := 0) rfl h⟩)) ?_; refine OpX.seeL (L' := [(27, .slice a12 s3_6.length k13), (29, ((G 13).getD 0 undef))]) (Env.sub_all (by kernel_rfl)) ?_; refine OpX.postR (OpX.ofA (by intro _ _ h; cases h) (OpA.frame [3, 0] rfl (OpA.appO (α := GSet) (xs := s3_6) (ys := [rv103]) rfl rfl rfl sl25 sl25 sz25 rfl rfl rfl (by show (_ + _) * 32 ≤ 140737488355328; first | omega | (simp only [lens]; omega) | (simp only [lens] at *; omega))))) (fun g => ?_); exact Ent.take (is := [3, 4, 1, 0]) rfl) ?_
      refine JD_v [0] (wn rfl) rfl rfl (OpV.fieldAddr rfl rfl fo27_1 (i := 0) rfl (isPtr_fact _)) ?_
      refine JD_x0 [4, 7] [⟨some 16, some 18, [4], fun lG => Cl p2 [.int .i64 0, ((lG.getD 0 []).getD 0 undef), .slice a10 s2_5.length k11, .slice a12 s3_6.length k13]⟩] (wn rfl) rfl rfl rfl (fun G => by refine OpX.n3 (A' := [Cl p2 [.int .i64 0, .slice a8 s1_4.length k9, .slice a10 s2_5.length k11, .slice a12 s3_6.length k13], os (((G 4).getD 0 undef)) ((s1_4 ++ [[]]) : List (List Int))]) (V' := fun g => undef) (B' := fun g => [os (((G 4).getD 0 undef)) ((s1_4 ++ [[]]) : List (List Int)), Cl p2 [.int .i64 0, ((G 4).getD 0 undef), .slice a10 s2_5.length k11, .slice a12 s3_6.length k13]]) (by kernel_rfl) (by kernel_rfl) (by kernel_rfl) ?_; refine OpX.fact 1 rfl os_one ?_; intro ho117; refine OpX.seeL (L' := [(20, ((G 4).getD 0 undef)), (31, fptr p2 1)]) (Env.sub_all (by kernel_rfl)) ?_; refine OpX.postR (OpX.ofS (by intro _ _ h; cases h) rfl (OpS.frame [0] rfl (OpS.storeClF [((G 4).getD 0 undef)] [.int .i64 0, ((G 4).getD 0 undef), .slice a10 s2_5.length k11, .slice a12 s3_6.length k13] rfl rfl rfl sh23 (cells_of_one ho117) rfl (by simp only [List.all_cons, List.all_nil, ho117, Bool.and_true, Bool.true_and] <;> rfl) (Nat.le_of_ble_eq_true rfl) rfl))) (fun g => ?_); exact Ent.take (is := [1, 0]) rfl) ?_
      refine JD_v [0] (wn rfl) rfl rfl (OpV.fieldAddr rfl rfl fo27_2 (i := 0) rfl (isPtr_fact _)) ?_
      refine JD_x0 [13, 19] [⟨some 18, some 20, [4, 9], fun lG => Cl p2 [.int .i64 0, ((lG.getD 0 []).getD 0 undef), ((lG.getD 1 []).getD 0 undef), .slice a12 s3_6.length k13]⟩] (wn rfl) rfl rfl rfl (fun G => by refine OpX.n3 (A' := [os (((G 9).getD 0 undef)) ((s2_5 ++ [rv97]) : List GTransfer), Cl p2 [.int .i64 0, ((G 4).getD 0 undef), .slice a10 s2_5.length k11, .slice a12 s3_6.length k13]]) (V' := fun g => undef) (B' := fun g => [os (((G 9).getD 0 undef)) ((s2_5 ++ [rv97]) : List GTransfer), Cl p2 [.int .i64 0, ((G 4).getD 0 undef), ((G 9).getD 0 undef), .slice a12 s3_6.length k13]]) (by kernel_rfl) (by kernel_rfl) (by kernel_rfl) ?_; refine OpX.fact 0 rfl os_one ?_; intro ho118; refine OpX.seeL (L' := [(25, ((G 9).getD 0 undef)), (32, fptr p2 2)]) (Env.sub_all (by kernel_rfl)) ?_; refine OpX.postR (OpX.ofS (by intro _ _ h; cases h) rfl (OpS.frame [1] rfl (OpS.storeClF [((G 9).getD 0 undef)] [.int .i64 0, ((G 4).getD 0 undef), ((G 9).getD 0 undef), .slice a12 s3_6.length k13] rfl rfl rfl sh24 (cells_of_one ho118) rfl (by simp only [List.all_cons, List.all_nil, ho118, Bool.and_true, Bool.true_and] <;> rfl) (Nat.le_of_ble_eq_true rfl) rfl))) (fun g => ?_); exact Ent.take (is := [1, 0]) rfl) ?_
      refine JD_v [0] (wn rfl) rfl rfl (OpV.fieldAddr rfl rfl fo27_3 (i := 0) rfl (isPtr_fact _)) ?_
      refine JD_x0 [18, 20] [⟨some 20, none, [4, 9, 14], fun lG => Cl p2 [.int .i64 0, ((lG.getD 0 []).getD 0 undef), ((lG.getD 1 []).getD 0 undef), ((lG.getD 2 []).getD 0 undef)]⟩] (wn rfl) rfl rfl rfl (fun G => by refine OpX.n3 (A' := [os (((G 14).getD 0 undef)) ((s3_6 ++ [rv103]) : List GSet), Cl p2 [.int .i64 0, ((G 4).getD 0 undef), ((G 9).getD 0 undef), .slice a12 s3_6.length k13]]) (V' := fun g => undef) (B' := fun g => [os (((G 14).getD 0 undef)) ((s3_6 ++ [rv103]) : List GSet), Cl p2 [.int .i64 0, ((G 4).getD 0 undef), ((G 9).getD 0 undef), ((G 14).getD 0 undef)]]) (by kernel_rfl) (by kernel_rfl) (by kernel_rfl) ?_; refine OpX.fact 0 rfl os_one ?_; intro ho119; refine OpX.seeL (L' := [(30, ((G 14).getD 0 undef)), (33, fptr p2 3)]) (Env.sub_all (by kernel_rfl)) ?_; refine OpX.postR (OpX.ofS (by intro _ _ h; cases h) rfl (OpS.frame [1] rfl (OpS.storeClF [((G 14).getD 0 undef)] [.int .i64 0, ((G 4).getD 0 undef), ((G 9).getD 0 undef), ((G 14).getD 0 undef)] rfl rfl rfl sh25 (cells_of_one ho119) rfl (by simp only [List.all_cons, List.all_nil, ho119, Bool.and_true, Bool.true_and] <;> rfl) (Nat.le_of_ble_eq_true rfl) rfl))) (fun g => ?_); exact Ent.take (is := [1, 0]) rfl) ?_
      refine JD_nil ⟨by kernel_rfl, fun G => ?_⟩
      refine JJ_weaken (L' := [(0, .int .i64 n), (2, p1), (3, p2), (4, .int .i64 i_7)]) (A' := [SP.fact (isP p2), Cl p1 [.int .i64 0, .slice none 0 0, .slice none 0 0, .slice none 0 0], os (((G 4).getD 0 undef)) ((s1_4 ++ [[]]) : List (List Int)), SP.fact (i64ok rv97.Gen.Width ∧ i64ok rv97.Kill.Width), sl (((G 7).getD 0 undef)) (rv97.Gen.Words : List (BitVec 64)), sl (((G 7).getD 1 undef)) (rv97.Kill.Words : List (BitVec 64)), sl (((G 7).getD 2 undef)) (rv97.Copies : List GCopy), os (((G 9).getD 0 undef)) ((s2_5 ++ [rv97]) : List GTransfer), SP.fact (i64ok rv103.Width ∧ (rv103.Width = 0) ∧ (rv103.Words.length = (((0 : Int) + 63) / 64).toNat)), sl (((G 12).getD 0 undef)) (rv103.Words : List (BitVec 64)), os (((G 14).getD 0 undef)) ((s3_6 ++ [rv103]) : List GSet), Cl p2 [.int .i64 0, ((G 4).getD 0 undef), ((G 9).getD 0 undef), ((G 14).getD 0 undef)]]) (Env.sub_all (by kernel_rfl)) (Ent.of_eq (by kernel_rfl)) ?_
      generalize ((G 4).getD 0 undef) = c92
      generalize ((G 7).getD 0 undef) = c94
      generalize ((G 7).getD 1 undef) = c95
      generalize ((G 7).getD 2 undef) = c96
      generalize ((G 9).getD 0 undef) = c100
      generalize ((G 12).getD 0 undef) = c102
      generalize ((G 14).getD 0 undef) = c106
      refine JJ_fact 3 rfl (fun h => h) ?_
      rintro ⟨he120, he121⟩
      have he120 : -9223372036854775808 ≤ rv97.Gen.Width ∧ rv97.Gen.Width ≤ 9223372036854775807 := he120
      have he121 : -9223372036854775808 ≤ rv97.Kill.Width ∧ rv97.Kill.Width ≤ 9223372036854775807 := he121
      refine JJ_fact 8 rfl (fun h => h) ?_
      rintro ⟨he122, he123, he124⟩
      have he122 : -9223372036854775808 ≤ rv103.Width ∧ rv103.Width ≤ 9223372036854775807 := he122
      refine JJ_keep [1, 1, 2, 3, 4, 5, 6, 7, 7] rfl ?_
      refine JJ_slice 1 rfl os_slice ?_
      rintro a125 k126 rfl
      refine JJ_fact 1 rfl os_bytes ?_
      intro hl127
      have hl127 : (s1_4 ++ [[]]).length * 24 ≤ 140737488355328 := hl127
      refine JJ_slice 2 rfl sl_slice ?_
      rintro a128 k129 rfl
      refine JJ_fact 2 rfl sl_bytes ?_
      intro hl130
      have hl130 : rv97.Gen.Words.length * 8 ≤ 140737488355328 := hl130
      refine JJ_slice 3 rfl sl_slice ?_
      rintro a131 k132 rfl
      refine JJ_fact 3 rfl sl_bytes ?_
      intro hl133
      have hl133 : rv97.Kill.Words.length * 8 ≤ 140737488355328 := hl133
      refine JJ_slice 4 rfl sl_slice ?_
      rintro a134 k135 rfl
      refine JJ_fact 4 rfl sl_bytes ?_
      intro hl136
      have hl136 : rv97.Copies.length * 16 ≤ 140737488355328 := hl136
      refine JJ_slice 5 rfl os_slice ?_
      rintro a137 k138 rfl
      refine JJ_fact 5 rfl os_bytes ?_
      intro hl139
      have hl139 : (s2_5 ++ [rv97]).length * 88 ≤ 140737488355328 := hl139
      refine JJ_slice 6 rfl sl_slice ?_
      rintro a140 k141 rfl
      refine JJ_fact 6 rfl sl_bytes ?_
      intro hl142
      have hl142 : rv103.Words.length * 8 ≤ 140737488355328 := hl142
      refine JJ_slice 7 rfl os_slice ?_
      rintro a143 k144 rfl
      refine JJ_fact 7 rfl os_bytes ?_
      intro hl145
      have hl145 : (s3_6 ++ [rv103]).length * 32 ≤ 140737488355328 := hl145
      refine JK_blk ?_
      refine JK_region ?_
      refine JO_q rfl rfl rfl (OpV.move rfl rfl) ?_
      refine JO_q rfl rfl rfl (OpV.add rfl rfl rfl (by unfold i64ok; omega)) ?_
      refine JO_q rfl rfl rfl (OpV.assign rfl rfl) ?_
      refine JO_nil ?_
      refine JK_goal (r27, (s1_4 ++ [[]]), (s2_5 ++ [rv97]), (s3_6 ++ [rv103]), (i_7 + 1), a125, k126, a137, k138, a143, k144) ⟨(by rw [← hM14]; simp only [flqlaw14_line_L0, h25, h28, hg98, hg104, cs4]), (by omega), (by omega), (by omega), (by omega), (by first | omega | (simp only [lens]; omega) | assumption), (by first | omega | (simp only [lens]; omega) | assumption), (by first | omega | (simp only [lens]; omega) | assumption)⟩ (by show r27 < r27 + 1; omega) (Env.sub_all rfl) (Ent.take (is := [7, 5, 1, 5, 0]) rfl)
  · skip
    have g146 : ¬ (i_7 < n) := of_decide_eq_false h25
    obtain rfl : r3 = 0 := by omega
    refine JK_exit rfl ?_
    have hR147 : flqlaw14_line_L0 (((n : Int) - 0).toNat) [] [] [] 0 = (s1_4, s2_5, s3_6) := by
      rw [← hM14]; simp only [flqlaw14_line_L0, h25, cs4]
    refine JK_seq ?_
    refine JK_region ?_
    refine JO_q rfl rfl rfl (OpV.loadA rfl rfl sh27 (i := 3) rfl (reads_Cl _ _) rfl) ?_
    refine JO_store rfl rfl (OpS.frame [4] rfl (OpS.storeCl [.int .i64 0, .slice a8 s1_4.length k9, .slice a10 s2_5.length k11, .slice a12 s3_6.length k13] [.int .i64 0, .slice a8 s1_4.length k9, .slice a10 s2_5.length k11, .slice a12 s3_6.length k13] rfl rfl rfl sh27 rfl rfl rfl (Nat.le_of_ble_eq_true rfl) rfl)) ?_
    refine JO_nil ?_
    refine JJ_loc [3] rfl (Ent.freeze _ _) ?_
    refine JJ_loc [3] rfl (Ent.freeze _ _) ?_
    refine JJ_loc [3] rfl (Ent.freeze _ _) ?_
    have hq : rr = (GSystem.mk 0 s1_4 s2_5 s3_6) := hrr.symm.trans (by simp only [flqlaw14_line, h25, hR147, cs4])
    replace hrr := hrr.trans hq
    subst rr
    refine JK_return ((.slice a8 s1_4.length k9, .slice a10 s2_5.length k11, .slice a12 s3_6.length k13)) rfl (.cellN 3 rfl sh27 rfl (reads_Cl _ _) rfl .nil) rfl (by (try dsimp only) <;> first | omega | (unfold i64ok; omega) | (simp only [lens]; omega) | assumption | trivial) (Ent.take (is := [2, 1, 0]) rfl)
set_option maxHeartbeats 20000000 in
set_option maxRecDepth 100000 in
/- flowquery/flqlaw14.sane -/
theorem fn13  (rr : Bool) (hrr : flqlaw14_sane = rr) :
    FT Try.prog 13 #[] []
      (fun g : Unit => True)
      (fun g => .bool rr)
      (fun g => []) := by
  refine FT_intro (args := []) Try.func13 rfl rfl ?_
  intro w0 M0 F0
  refine JK_seq ?_
  refine JK_region ?_
  refine JO_q rfl rfl rfl (OpV.assign rfl rfl) ?_
  refine JO_nil ?_
  refine JK_seq ?_
  refine JK_region ?_
  refine letv (flqlaw14_line 4) fun rv4 hg5 => ?_
  have hc6 := fn29 4 (by (try dsimp only) <;> first | (unfold i64ok; omega) | omega | assumption) (by (try dsimp only) <;> first | (unfold i64ok; omega) | omega | assumption) rv4 hg5
  refine JO_call [] rfl rfl rfl (OpC.fn rfl ca29 rfl) (hc6) rfl ?_
  rintro ⟨c1, c2, c3⟩ he7
  have he7 : -9223372036854775808 ≤ rv4.Width ∧ rv4.Width ≤ 9223372036854775807 := he7
  refine JJ_slice 0 rfl sl_slice ?_
  rintro a8 k9 rfl
  refine JJ_fact 0 rfl sl_bytes ?_
  intro hl10
  have hl10 : rv4.Deps.length * 24 ≤ 140737488355328 := hl10
  refine JJ_slice 1 rfl sl_slice ?_
  rintro a11 k12 rfl
  refine JJ_fact 1 rfl sl_bytes ?_
  intro hl13
  have hl13 : rv4.Transfers.length * 88 ≤ 140737488355328 := hl13
  refine JJ_slice 2 rfl sl_slice ?_
  rintro a14 k15 rfl
  refine JJ_fact 2 rfl sl_bytes ?_
  intro hl16
  have hl16 : rv4.Boundary.length * 32 ≤ 140737488355328 := hl16
  refine JJ_loc [] rfl (Ent.slNil (α := Int)) ?_
  refine letv (cone_Of rv4 2 []) fun rv18 hg19 => ?_
  have hc20 := fn14 rv4 a8 k9 a11 k12 a14 k15 2 ([]) none 0 (by (try dsimp only) <;> first | (unfold i64ok; omega) | omega | assumption) (by (try dsimp only) <;> first | (unfold i64ok; omega) | omega | assumption) rv18 hg19
  refine JO_call [1, 2, 3, 0] rfl rfl rfl (OpC.fn rfl ca14 rfl) (hc20) rfl ?_
  rintro c17 ⟨he21, he22⟩
  have he21 : -9223372036854775808 ≤ rv18.2.1 ∧ rv18.2.1 ≤ 9223372036854775807 := he21
  have he22 : -9223372036854775808 ≤ rv18.2.2 ∧ rv18.2.2 ≤ 9223372036854775807 := he22
  refine JJ_slice 0 rfl sl_slice ?_
  rintro a23 k24 rfl
  refine JJ_fact 0 rfl sl_bytes ?_
  intro hl25
  have hl25 : rv18.1.length * 8 ≤ 140737488355328 := hl25
  refine JJ_fact 0 rfl sl_ok ?_
  intro ho26
  refine JO_q rfl rfl rfl (OpV.move rfl rfl) ?_
  refine JO_q rfl rfl rfl (OpV.extract rfl rfl rfl) ?_
  refine JO_q rfl rfl rfl (OpV.extract rfl rfl rfl) ?_
  refine JO_q rfl rfl rfl (OpV.extract rfl rfl rfl) ?_
  refine JO_q rfl rfl rfl (OpV.assign rfl rfl) ?_
  refine JO_q rfl rfl rfl (OpV.assign rfl rfl) ?_
  refine JO_q rfl rfl rfl (OpV.assign rfl rfl) ?_
  refine JO_nil ?_
  refine JK_seq ?_
  refine JK_region ?_
  have hc30 := fn29 4 (by (try dsimp only) <;> first | (unfold i64ok; omega) | omega | assumption) (by (try dsimp only) <;> first | (unfold i64ok; omega) | omega | assumption) rv4 hg5
  refine JO_call [] rfl rfl rfl (OpC.fn rfl ca29 rfl) (hc30) rfl ?_
  rintro ⟨c27, c28, c29⟩ he31
  have he31 : -9223372036854775808 ≤ rv4.Width ∧ rv4.Width ≤ 9223372036854775807 := he31
  refine JJ_slice 0 rfl sl_slice ?_
  rintro a32 k33 rfl
  refine JJ_slice 1 rfl sl_slice ?_
  rintro a34 k35 rfl
  refine JJ_slice 2 rfl sl_slice ?_
  rintro a36 k37 rfl
  refine JO_act rfl rfl rfl (OpA.buildSliceV [.int .i64 1] [.int .i64 1] rfl sl22 sz22 rfl (Env.evp_map rfl) rfl rfl rfl rfl) ?_
  intro c38
  refine JJ_slice 0 rfl Cr_slice ?_
  rintro a39 k40 rfl
  refine JJ_loc [0] rfl (Ent.crInt _ [1] _ _ rfl rfl (by intro x hx; rw [List.mem_singleton] at hx; subst hx; unfold i64ok; omega) (Nat.le_of_ble_eq_true rfl)) ?_
  refine JJ_loc [0] rfl (Ent.freeze _ _) ?_
  refine letv (cone_Of rv4 2 [1]) fun rv42 hg43 => ?_
  have hc44 := fn14 rv4 a32 k33 a34 k35 a36 k37 2 ([1]) a39 k40 (by (try dsimp only) <;> first | (unfold i64ok; omega) | omega | assumption) (by (try dsimp only) <;> first | (unfold i64ok; omega) | omega | assumption) rv42 hg43
  refine JO_call [1, 2, 3, 0] rfl rfl rfl (OpC.fn rfl ca14 rfl) (hc44) rfl ?_
  rintro c41 ⟨he45, he46⟩
  have he45 : -9223372036854775808 ≤ rv42.2.1 ∧ rv42.2.1 ≤ 9223372036854775807 := he45
  have he46 : -9223372036854775808 ≤ rv42.2.2 ∧ rv42.2.2 ≤ 9223372036854775807 := he46
  refine JJ_slice 0 rfl sl_slice ?_
  rintro a47 k48 rfl
  refine JJ_fact 0 rfl sl_bytes ?_
  intro hl49
  have hl49 : rv42.1.length * 8 ≤ 140737488355328 := hl49
  refine JJ_fact 0 rfl sl_ok ?_
  intro ho50
  refine JO_q rfl rfl rfl (OpV.move rfl rfl) ?_
  refine JO_q rfl rfl rfl (OpV.extract rfl rfl rfl) ?_
  refine JO_q rfl rfl rfl (OpV.extract rfl rfl rfl) ?_
  refine JO_q rfl rfl rfl (OpV.extract rfl rfl rfl) ?_
  refine JO_q rfl rfl rfl (OpV.assign rfl rfl) ?_
  refine JO_q rfl rfl rfl (OpV.assign rfl rfl) ?_
  refine JO_q rfl rfl rfl (OpV.assign rfl rfl) ?_
  refine JO_nil ?_
  refine JK_seq ?_
  refine JK_region ?_
  have hc54 := fn29 4 (by (try dsimp only) <;> first | (unfold i64ok; omega) | omega | assumption) (by (try dsimp only) <;> first | (unfold i64ok; omega) | omega | assumption) rv4 hg5
  refine JO_call [] rfl rfl rfl (OpC.fn rfl ca29 rfl) (hc54) rfl ?_
  rintro ⟨c51, c52, c53⟩ he55
  have he55 : -9223372036854775808 ≤ rv4.Width ∧ rv4.Width ≤ 9223372036854775807 := he55
  refine JJ_slice 0 rfl sl_slice ?_
  rintro a56 k57 rfl
  refine JJ_slice 1 rfl sl_slice ?_
  rintro a58 k59 rfl
  refine JJ_slice 2 rfl sl_slice ?_
  rintro a60 k61 rfl
  refine JO_act rfl rfl rfl (OpA.buildSliceV [.int .i64 2] [.int .i64 2] rfl sl22 sz22 rfl (Env.evp_map rfl) rfl rfl rfl rfl) ?_
  intro c62
  refine JJ_slice 0 rfl Cr_slice ?_
  rintro a63 k64 rfl
  refine JJ_loc [0] rfl (Ent.crInt _ [2] _ _ rfl rfl (by intro x hx; rw [List.mem_singleton] at hx; subst hx; unfold i64ok; omega) (Nat.le_of_ble_eq_true rfl)) ?_
  refine JJ_loc [0] rfl (Ent.freeze _ _) ?_
  refine letv (cone_Of rv4 2 [2]) fun rv66 hg67 => ?_
  have hc68 := fn14 rv4 a56 k57 a58 k59 a60 k61 2 ([2]) a63 k64 (by (try dsimp only) <;> first | (unfold i64ok; omega) | omega | assumption) (by (try dsimp only) <;> first | (unfold i64ok; omega) | omega | assumption) rv66 hg67
  refine JO_call [1, 2, 3, 0] rfl rfl rfl (OpC.fn rfl ca14 rfl) (hc68) rfl ?_
  rintro c65 ⟨he69, he70⟩
  have he69 : -9223372036854775808 ≤ rv66.2.1 ∧ rv66.2.1 ≤ 9223372036854775807 := he69
  have he70 : -9223372036854775808 ≤ rv66.2.2 ∧ rv66.2.2 ≤ 9223372036854775807 := he70
  refine JJ_slice 0 rfl sl_slice ?_
  rintro a71 k72 rfl
  refine JJ_fact 0 rfl sl_bytes ?_
  intro hl73
  have hl73 : rv66.1.length * 8 ≤ 140737488355328 := hl73
  refine JJ_fact 0 rfl sl_ok ?_
  intro ho74
  refine JO_q rfl rfl rfl (OpV.move rfl rfl) ?_
  refine JO_q rfl rfl rfl (OpV.extract rfl rfl rfl) ?_
  refine JO_q rfl rfl rfl (OpV.extract rfl rfl rfl) ?_
  refine JO_q rfl rfl rfl (OpV.extract rfl rfl rfl) ?_
  refine JO_q rfl rfl rfl (OpV.assign rfl rfl) ?_
  refine JO_q rfl rfl rfl (OpV.assign rfl rfl) ?_
  refine JO_q rfl rfl rfl (OpV.assign rfl rfl) ?_
  refine JO_nil ?_
  refine JK_seq ?_
  refine JK_region ?_
  refine JO_q rfl rfl rfl (OpV.move rfl rfl) ?_
  refine JO_q rfl rfl rfl (OpV.eql rfl rfl rfl) ?_
  refine JO_q rfl rfl rfl (OpV.move rfl rfl) ?_
  refine JJ_split 32 rfl (fun (h75 : (rv18.2.2 == 0) = true) => ?_) (fun (h75 : (rv18.2.2 == 0) = false) => ?_)
  · skip
    have g76 : rv18.2.2 = 0 := eq_of_beq h75
    refine JO_taken rfl rfl rfl rfl ?_
    refine JO_q rfl rfl rfl (OpV.move rfl rfl) ?_
    refine JO_taken rfl rfl rfl rfl ?_
    refine JO_q rfl rfl rfl (OpV.eql rfl rfl rfl) ?_
    refine JO_q rfl rfl rfl (OpV.pickT rfl rfl rfl) ?_
    refine JO_q rfl rfl rfl (OpV.move rfl rfl) ?_
    refine JJ_split 36 rfl (fun (h77 : (rv42.2.2 == 0) = true) => ?_) (fun (h77 : (rv42.2.2 == 0) = false) => ?_)
    · skip
      have g78 : rv42.2.2 = 0 := eq_of_beq h77
      refine JO_taken rfl rfl rfl rfl ?_
      refine JO_q rfl rfl rfl (OpV.move rfl rfl) ?_
      refine JO_taken rfl rfl rfl rfl ?_
      refine JO_q rfl rfl rfl (OpV.eql rfl rfl rfl) ?_
      refine JO_q rfl rfl rfl (OpV.pickT rfl rfl rfl) ?_
      refine JO_q rfl rfl rfl (OpV.move rfl rfl) ?_
      refine JJ_split 40 rfl (fun (h79 : (rv66.2.2 == 0) = true) => ?_) (fun (h79 : (rv66.2.2 == 0) = false) => ?_)
      · skip
        have g80 : rv66.2.2 = 0 := eq_of_beq h79
        refine JO_taken rfl rfl rfl rfl ?_
        refine JO_q rfl rfl rfl (OpV.move rfl rfl) ?_
        refine JO_taken rfl rfl rfl rfl ?_
        refine JO_act rfl rfl rfl (OpA.buildSliceV [.int .i64 2, .int .i64 1, .int .i64 0] [.int .i64 2, .int .i64 1, .int .i64 0] rfl sl22 sz22 rfl (Env.evp_map rfl) rfl rfl rfl rfl) ?_
        intro c81
        refine JJ_slice 0 rfl Cr_slice ?_
        rintro a82 k83 rfl
        refine JO_taken rfl rfl rfl rfl ?_
        refine JJ_loc [0] rfl (Ent.crInt _ [2, 1, 0] _ _ rfl rfl (by intro x hx; simp only [List.mem_cons, List.not_mem_nil, or_false] at hx; rcases hx with rfl | rfl | rfl <;> (unfold i64ok; omega)) (Nat.le_of_ble_eq_true rfl)) ?_
        refine letv (flqref7_Ints rv18.1 [2, 1, 0]) fun rv84 hg85 => ?_
        refine JO_call [0, 10] rfl rfl rfl (OpC.fn rfl ca25 rfl) (FT_borrow (A := _) (fun _ _ h => by cases h) (FT_ent (Ent.take (is := [1, 0]) rfl) (fn25 rv18.1 a23 k24 ([2, 1, 0]) a82 k83 rv84 hg85))) rfl ?_
        rintro - -
        refine JO_q rfl rfl rfl (OpV.pickT rfl rfl rfl) ?_
        refine JO_q rfl rfl rfl (OpV.move rfl rfl) ?_
        refine JJ_split 45 rfl (fun (h86 : rv84 = true) => ?_) (fun (h86 : rv84 = false) => ?_)
        · skip
          refine JO_taken rfl rfl rfl rfl ?_
          refine JO_q rfl rfl rfl (OpV.move rfl rfl) ?_
          refine JO_taken rfl rfl rfl rfl ?_
          refine JO_q rfl rfl rfl (OpV.eql rfl rfl rfl) ?_
          refine JO_q rfl rfl rfl (OpV.pickT rfl rfl rfl) ?_
          refine JO_q rfl rfl rfl (OpV.move rfl rfl) ?_
          refine JJ_split 49 rfl (fun (h88 : (rv18.2.1 == 5) = true) => ?_) (fun (h88 : (rv18.2.1 == 5) = false) => ?_)
          · skip
            have g89 : rv18.2.1 = 5 := eq_of_beq h88
            refine JO_taken rfl rfl rfl rfl ?_
            refine JO_q rfl rfl rfl (OpV.move rfl rfl) ?_
            refine JO_taken rfl rfl rfl rfl ?_
            refine JO_act rfl rfl rfl (OpA.buildSliceV [.int .i64 2, .int .i64 1] [.int .i64 2, .int .i64 1] rfl sl22 sz22 rfl (Env.evp_map rfl) rfl rfl rfl rfl) ?_
            intro c90
            refine JJ_slice 0 rfl Cr_slice ?_
            rintro a91 k92 rfl
            refine JO_taken rfl rfl rfl rfl ?_
            refine JJ_loc [0] rfl (Ent.crInt _ [2, 1] _ _ rfl rfl (by intro x hx; simp only [List.mem_cons, List.not_mem_nil, or_false] at hx; rcases hx with rfl | rfl <;> (unfold i64ok; omega)) (Nat.le_of_ble_eq_true rfl)) ?_
            refine letv (flqref7_Ints rv42.1 [2, 1]) fun rv93 hg94 => ?_
            refine JO_call [0, 6] rfl rfl rfl (OpC.fn rfl ca25 rfl) (FT_borrow (A := _) (fun _ _ h => by cases h) (FT_ent (Ent.take (is := [1, 0]) rfl) (fn25 rv42.1 a47 k48 ([2, 1]) a91 k92 rv93 hg94))) rfl ?_
            rintro - -
            refine JO_q rfl rfl rfl (OpV.pickT rfl rfl rfl) ?_
            refine JO_q rfl rfl rfl (OpV.move rfl rfl) ?_
            refine JJ_split 54 rfl (fun (h95 : rv93 = true) => ?_) (fun (h95 : rv93 = false) => ?_)
            · skip
              refine JO_taken rfl rfl rfl rfl ?_
              refine JO_q rfl rfl rfl (OpV.move rfl rfl) ?_
              refine JO_taken rfl rfl rfl rfl ?_
              refine JO_q rfl rfl rfl (OpV.eql rfl rfl rfl) ?_
              refine JO_q rfl rfl rfl (OpV.pickT rfl rfl rfl) ?_
              refine JO_q rfl rfl rfl (OpV.move rfl rfl) ?_
              refine JJ_split 58 rfl (fun (h97 : (rv42.2.1 == 3) = true) => ?_) (fun (h97 : (rv42.2.1 == 3) = false) => ?_)
              · skip
                have g98 : rv42.2.1 = 3 := eq_of_beq h97
                refine JO_taken rfl rfl rfl rfl ?_
                refine JO_q rfl rfl rfl (OpV.move rfl rfl) ?_
                refine JO_taken rfl rfl rfl rfl ?_
                refine JO_act rfl rfl rfl (OpA.buildSliceV [.int .i64 2] [.int .i64 2] rfl sl22 sz22 rfl (Env.evp_map rfl) rfl rfl rfl rfl) ?_
                intro c99
                refine JJ_slice 0 rfl Cr_slice ?_
                rintro a100 k101 rfl
                refine JO_taken rfl rfl rfl rfl ?_
                refine JJ_loc [0] rfl (Ent.crInt _ [2] _ _ rfl rfl (by intro x hx; rw [List.mem_singleton] at hx; subst hx; unfold i64ok; omega) (Nat.le_of_ble_eq_true rfl)) ?_
                refine letv (flqref7_Ints rv66.1 [2]) fun rv102 hg103 => ?_
                refine JO_call [0, 2] rfl rfl rfl (OpC.fn rfl ca25 rfl) (FT_borrow (A := _) (fun _ _ h => by cases h) (FT_ent (Ent.take (is := [1, 0]) rfl) (fn25 rv66.1 a71 k72 ([2]) a100 k101 rv102 hg103))) rfl ?_
                rintro - -
                refine JO_q rfl rfl rfl (OpV.pickT rfl rfl rfl) ?_
                refine JO_q rfl rfl rfl (OpV.move rfl rfl) ?_
                refine JJ_split 63 rfl (fun (h104 : rv102 = true) => ?_) (fun (h104 : rv102 = false) => ?_)
                · skip
                  refine JO_taken rfl rfl rfl rfl ?_
                  refine JO_q rfl rfl rfl (OpV.move rfl rfl) ?_
                  refine JO_taken rfl rfl rfl rfl ?_
                  refine JO_q rfl rfl rfl (OpV.eql rfl rfl rfl) ?_
                  refine JO_q rfl rfl rfl (OpV.pickT rfl rfl rfl) ?_
                  refine JO_q rfl rfl rfl (OpV.assign rfl rfl) ?_
                  refine JO_nil ?_
                  have hq : rr = (rv66.2.1 == 1) := hrr.symm.trans (by simp only [flqlaw14_sane, h75, h77, h79, h86, h88, h95, h97, h104, hg5, hg19, hg43, hg67, hg85, hg94, hg103, cs4])
                  replace hrr := hrr.trans hq
                  subst rr
                  refine JK_return (()) rfl (.tmp rfl .nil) rfl trivial (Ent.take (is := []) rfl)
                · skip
                  refine JO_skip rfl rfl rfl rfl rfl rfl ?_
                  refine JO_skip rfl rfl rfl rfl rfl rfl ?_
                  refine JO_q rfl rfl rfl (OpV.pickF rfl rfl rfl) ?_
                  refine JO_q rfl rfl rfl (OpV.assign rfl rfl) ?_
                  refine JO_nil ?_
                  have hq : rr = false := hrr.symm.trans (by simp only [flqlaw14_sane, h75, h77, h79, h86, h88, h95, h97, h104, hg5, hg19, hg43, hg67, hg85, hg94, hg103, cs4])
                  replace hrr := hrr.trans hq
                  subst rr
                  refine JK_return (()) rfl (.tmp rfl .nil) rfl trivial (Ent.take (is := []) rfl)
              · skip
                have g107 : rv42.2.1 ≠ 3 := ne_of_beq_false h97
                refine JO_skip rfl rfl rfl rfl rfl rfl ?_
                refine JO_skip rfl rfl rfl rfl rfl rfl ?_
                refine JO_skip rfl rfl rfl rfl rfl rfl ?_
                refine JO_q rfl rfl rfl (OpV.pickF rfl rfl rfl) ?_
                refine JO_q rfl rfl rfl (OpV.move rfl rfl) ?_
                refine JO_skip rfl rfl rfl rfl rfl rfl ?_
                refine JO_skip rfl rfl rfl rfl rfl rfl ?_
                refine JO_q rfl rfl rfl (OpV.pickF rfl rfl rfl) ?_
                refine JO_q rfl rfl rfl (OpV.assign rfl rfl) ?_
                refine JO_nil ?_
                have hq : rr = false := hrr.symm.trans (by simp only [flqlaw14_sane, h75, h77, h79, h86, h88, h95, h97, hg5, hg19, hg43, hg67, hg85, hg94, cs4])
                replace hrr := hrr.trans hq
                subst rr
                refine JK_return (()) rfl (.tmp rfl .nil) rfl trivial (Ent.take (is := []) rfl)
            · skip
              refine JO_skip rfl rfl rfl rfl rfl rfl ?_
              refine JO_skip rfl rfl rfl rfl rfl rfl ?_
              refine JO_q rfl rfl rfl (OpV.pickF rfl rfl rfl) ?_
              refine JO_q rfl rfl rfl (OpV.move rfl rfl) ?_
              refine JO_skip rfl rfl rfl rfl rfl rfl ?_
              refine JO_skip rfl rfl rfl rfl rfl rfl ?_
              refine JO_skip rfl rfl rfl rfl rfl rfl ?_
              refine JO_q rfl rfl rfl (OpV.pickF rfl rfl rfl) ?_
              refine JO_q rfl rfl rfl (OpV.move rfl rfl) ?_
              refine JO_skip rfl rfl rfl rfl rfl rfl ?_
              refine JO_skip rfl rfl rfl rfl rfl rfl ?_
              refine JO_q rfl rfl rfl (OpV.pickF rfl rfl rfl) ?_
              refine JO_q rfl rfl rfl (OpV.assign rfl rfl) ?_
              refine JO_nil ?_
              have hq : rr = false := hrr.symm.trans (by simp only [flqlaw14_sane, h75, h77, h79, h86, h88, h95, hg5, hg19, hg43, hg67, hg85, hg94, cs4])
              replace hrr := hrr.trans hq
              subst rr
              refine JK_return (()) rfl (.tmp rfl .nil) rfl trivial (Ent.take (is := []) rfl)
          · skip
            have g109 : rv18.2.1 ≠ 5 := ne_of_beq_false h88
            refine JO_skip rfl rfl rfl rfl rfl rfl ?_
            refine JO_skip rfl rfl rfl rfl rfl rfl ?_
            refine JO_skip rfl rfl rfl rfl rfl rfl ?_
            refine JO_q rfl rfl rfl (OpV.pickF rfl rfl rfl) ?_
            refine JO_q rfl rfl rfl (OpV.move rfl rfl) ?_
            refine JO_skip rfl rfl rfl rfl rfl rfl ?_
            refine JO_skip rfl rfl rfl rfl rfl rfl ?_
            refine JO_q rfl rfl rfl (OpV.pickF rfl rfl rfl) ?_
            refine JO_q rfl rfl rfl (OpV.move rfl rfl) ?_
            refine JO_skip rfl rfl rfl rfl rfl rfl ?_
            refine JO_skip rfl rfl rfl rfl rfl rfl ?_
            refine JO_skip rfl rfl rfl rfl rfl rfl ?_
            refine JO_q rfl rfl rfl (OpV.pickF rfl rfl rfl) ?_
            refine JO_q rfl rfl rfl (OpV.move rfl rfl) ?_
            refine JO_skip rfl rfl rfl rfl rfl rfl ?_
            refine JO_skip rfl rfl rfl rfl rfl rfl ?_
            refine JO_q rfl rfl rfl (OpV.pickF rfl rfl rfl) ?_
            refine JO_q rfl rfl rfl (OpV.assign rfl rfl) ?_
            refine JO_nil ?_
            have hq : rr = false := hrr.symm.trans (by simp only [flqlaw14_sane, h75, h77, h79, h86, h88, hg5, hg19, hg43, hg67, hg85, cs4])
            replace hrr := hrr.trans hq
            subst rr
            refine JK_return (()) rfl (.tmp rfl .nil) rfl trivial (Ent.take (is := []) rfl)
        · skip
          refine JO_skip rfl rfl rfl rfl rfl rfl ?_
          refine JO_skip rfl rfl rfl rfl rfl rfl ?_
          refine JO_q rfl rfl rfl (OpV.pickF rfl rfl rfl) ?_
          refine JO_q rfl rfl rfl (OpV.move rfl rfl) ?_
          refine JO_skip rfl rfl rfl rfl rfl rfl ?_
          refine JO_skip rfl rfl rfl rfl rfl rfl ?_
          refine JO_skip rfl rfl rfl rfl rfl rfl ?_
          refine JO_q rfl rfl rfl (OpV.pickF rfl rfl rfl) ?_
          refine JO_q rfl rfl rfl (OpV.move rfl rfl) ?_
          refine JO_skip rfl rfl rfl rfl rfl rfl ?_
          refine JO_skip rfl rfl rfl rfl rfl rfl ?_
          refine JO_q rfl rfl rfl (OpV.pickF rfl rfl rfl) ?_
          refine JO_q rfl rfl rfl (OpV.move rfl rfl) ?_
          refine JO_skip rfl rfl rfl rfl rfl rfl ?_
          refine JO_skip rfl rfl rfl rfl rfl rfl ?_
          refine JO_skip rfl rfl rfl rfl rfl rfl ?_
          refine JO_q rfl rfl rfl (OpV.pickF rfl rfl rfl) ?_
          refine JO_q rfl rfl rfl (OpV.move rfl rfl) ?_
          refine JO_skip rfl rfl rfl rfl rfl rfl ?_
          refine JO_skip rfl rfl rfl rfl rfl rfl ?_
          refine JO_q rfl rfl rfl (OpV.pickF rfl rfl rfl) ?_
          refine JO_q rfl rfl rfl (OpV.assign rfl rfl) ?_
          refine JO_nil ?_
          have hq : rr = false := hrr.symm.trans (by simp only [flqlaw14_sane, h75, h77, h79, h86, hg5, hg19, hg43, hg67, hg85, cs4])
          replace hrr := hrr.trans hq
          subst rr
          refine JK_return (()) rfl (.tmp rfl .nil) rfl trivial (Ent.take (is := []) rfl)
      · skip
        have g111 : rv66.2.2 ≠ 0 := ne_of_beq_false h79
        refine JO_skip rfl rfl rfl rfl rfl rfl ?_
        refine JO_skip rfl rfl rfl rfl rfl rfl ?_
        refine JO_skip rfl rfl rfl rfl rfl rfl ?_
        refine JO_q rfl rfl rfl (OpV.pickF rfl rfl rfl) ?_
        refine JO_q rfl rfl rfl (OpV.move rfl rfl) ?_
        refine JO_skip rfl rfl rfl rfl rfl rfl ?_
        refine JO_skip rfl rfl rfl rfl rfl rfl ?_
        refine JO_q rfl rfl rfl (OpV.pickF rfl rfl rfl) ?_
        refine JO_q rfl rfl rfl (OpV.move rfl rfl) ?_
        refine JO_skip rfl rfl rfl rfl rfl rfl ?_
        refine JO_skip rfl rfl rfl rfl rfl rfl ?_
        refine JO_skip rfl rfl rfl rfl rfl rfl ?_
        refine JO_q rfl rfl rfl (OpV.pickF rfl rfl rfl) ?_
        refine JO_q rfl rfl rfl (OpV.move rfl rfl) ?_
        refine JO_skip rfl rfl rfl rfl rfl rfl ?_
        refine JO_skip rfl rfl rfl rfl rfl rfl ?_
        refine JO_q rfl rfl rfl (OpV.pickF rfl rfl rfl) ?_
        refine JO_q rfl rfl rfl (OpV.move rfl rfl) ?_
        refine JO_skip rfl rfl rfl rfl rfl rfl ?_
        refine JO_skip rfl rfl rfl rfl rfl rfl ?_
        refine JO_skip rfl rfl rfl rfl rfl rfl ?_
        refine JO_q rfl rfl rfl (OpV.pickF rfl rfl rfl) ?_
        refine JO_q rfl rfl rfl (OpV.move rfl rfl) ?_
        refine JO_skip rfl rfl rfl rfl rfl rfl ?_
        refine JO_skip rfl rfl rfl rfl rfl rfl ?_
        refine JO_q rfl rfl rfl (OpV.pickF rfl rfl rfl) ?_
        refine JO_q rfl rfl rfl (OpV.assign rfl rfl) ?_
        refine JO_nil ?_
        have hq : rr = false := hrr.symm.trans (by simp only [flqlaw14_sane, h75, h77, h79, hg5, hg19, hg43, hg67, cs4])
        replace hrr := hrr.trans hq
        subst rr
        refine JK_return (()) rfl (.tmp rfl .nil) rfl trivial (Ent.take (is := []) rfl)
    · skip
      have g112 : rv42.2.2 ≠ 0 := ne_of_beq_false h77
      refine JO_skip rfl rfl rfl rfl rfl rfl ?_
      refine JO_skip rfl rfl rfl rfl rfl rfl ?_
      refine JO_q rfl rfl rfl (OpV.pickF rfl rfl rfl) ?_
      refine JO_q rfl rfl rfl (OpV.move rfl rfl) ?_
      refine JO_skip rfl rfl rfl rfl rfl rfl ?_
      refine JO_skip rfl rfl rfl rfl rfl rfl ?_
      refine JO_skip rfl rfl rfl rfl rfl rfl ?_
      refine JO_q rfl rfl rfl (OpV.pickF rfl rfl rfl) ?_
      refine JO_q rfl rfl rfl (OpV.move rfl rfl) ?_
      refine JO_skip rfl rfl rfl rfl rfl rfl ?_
      refine JO_skip rfl rfl rfl rfl rfl rfl ?_
      refine JO_q rfl rfl rfl (OpV.pickF rfl rfl rfl) ?_
      refine JO_q rfl rfl rfl (OpV.move rfl rfl) ?_
      refine JO_skip rfl rfl rfl rfl rfl rfl ?_
      refine JO_skip rfl rfl rfl rfl rfl rfl ?_
      refine JO_skip rfl rfl rfl rfl rfl rfl ?_
      refine JO_q rfl rfl rfl (OpV.pickF rfl rfl rfl) ?_
      refine JO_q rfl rfl rfl (OpV.move rfl rfl) ?_
      refine JO_skip rfl rfl rfl rfl rfl rfl ?_
      refine JO_skip rfl rfl rfl rfl rfl rfl ?_
      refine JO_q rfl rfl rfl (OpV.pickF rfl rfl rfl) ?_
      refine JO_q rfl rfl rfl (OpV.move rfl rfl) ?_
      refine JO_skip rfl rfl rfl rfl rfl rfl ?_
      refine JO_skip rfl rfl rfl rfl rfl rfl ?_
      refine JO_skip rfl rfl rfl rfl rfl rfl ?_
      refine JO_q rfl rfl rfl (OpV.pickF rfl rfl rfl) ?_
      refine JO_q rfl rfl rfl (OpV.move rfl rfl) ?_
      refine JO_skip rfl rfl rfl rfl rfl rfl ?_
      refine JO_skip rfl rfl rfl rfl rfl rfl ?_
      refine JO_q rfl rfl rfl (OpV.pickF rfl rfl rfl) ?_
      refine JO_q rfl rfl rfl (OpV.assign rfl rfl) ?_
      refine JO_nil ?_
      have hq : rr = false := hrr.symm.trans (by simp only [flqlaw14_sane, h75, h77, hg5, hg19, hg43, hg67, cs4])
      replace hrr := hrr.trans hq
      subst rr
      refine JK_return (()) rfl (.tmp rfl .nil) rfl trivial (Ent.take (is := []) rfl)
  · skip
    have g113 : rv18.2.2 ≠ 0 := ne_of_beq_false h75
    refine JO_skip rfl rfl rfl rfl rfl rfl ?_
    refine JO_skip rfl rfl rfl rfl rfl rfl ?_
    refine JO_q rfl rfl rfl (OpV.pickF rfl rfl rfl) ?_
    refine JO_q rfl rfl rfl (OpV.move rfl rfl) ?_
    refine JO_skip rfl rfl rfl rfl rfl rfl ?_
    refine JO_skip rfl rfl rfl rfl rfl rfl ?_
    refine JO_q rfl rfl rfl (OpV.pickF rfl rfl rfl) ?_
    refine JO_q rfl rfl rfl (OpV.move rfl rfl) ?_
    refine JO_skip rfl rfl rfl rfl rfl rfl ?_
    refine JO_skip rfl rfl rfl rfl rfl rfl ?_
    refine JO_skip rfl rfl rfl rfl rfl rfl ?_
    refine JO_q rfl rfl rfl (OpV.pickF rfl rfl rfl) ?_
    refine JO_q rfl rfl rfl (OpV.move rfl rfl) ?_
    refine JO_skip rfl rfl rfl rfl rfl rfl ?_
    refine JO_skip rfl rfl rfl rfl rfl rfl ?_
    refine JO_q rfl rfl rfl (OpV.pickF rfl rfl rfl) ?_
    refine JO_q rfl rfl rfl (OpV.move rfl rfl) ?_
    refine JO_skip rfl rfl rfl rfl rfl rfl ?_
    refine JO_skip rfl rfl rfl rfl rfl rfl ?_
    refine JO_skip rfl rfl rfl rfl rfl rfl ?_
    refine JO_q rfl rfl rfl (OpV.pickF rfl rfl rfl) ?_
    refine JO_q rfl rfl rfl (OpV.move rfl rfl) ?_
    refine JO_skip rfl rfl rfl rfl rfl rfl ?_
    refine JO_skip rfl rfl rfl rfl rfl rfl ?_
    refine JO_q rfl rfl rfl (OpV.pickF rfl rfl rfl) ?_
    refine JO_q rfl rfl rfl (OpV.move rfl rfl) ?_
    refine JO_skip rfl rfl rfl rfl rfl rfl ?_
    refine JO_skip rfl rfl rfl rfl rfl rfl ?_
    refine JO_skip rfl rfl rfl rfl rfl rfl ?_
    refine JO_q rfl rfl rfl (OpV.pickF rfl rfl rfl) ?_
    refine JO_q rfl rfl rfl (OpV.move rfl rfl) ?_
    refine JO_skip rfl rfl rfl rfl rfl rfl ?_
    refine JO_skip rfl rfl rfl rfl rfl rfl ?_
    refine JO_q rfl rfl rfl (OpV.pickF rfl rfl rfl) ?_
    refine JO_q rfl rfl rfl (OpV.assign rfl rfl) ?_
    refine JO_nil ?_
    have hq : rr = false := hrr.symm.trans (by simp only [flqlaw14_sane, h75, hg5, hg19, hg43, hg67, cs4])
    replace hrr := hrr.trans hq
    subst rr
    refine JK_return (()) rfl (.tmp rfl .nil) rfl trivial (Ent.take (is := []) rfl)
set_option maxHeartbeats 20000000 in
set_option maxRecDepth 100000 in
/- flowquery/flqlaw14.ConeAgrees -/
theorem fn3 (t : List Int) (ta0 : Option Addr) (tk0 : Nat) (s : GSystem) (sa1 : Option Addr) (sk1 : Nat) (sa2 : Option Addr) (sk2 : Nat) (sa3 : Option Addr) (sk3 : Nat) (root : Int) (leaves : List Int) (leavesa0 : Option Addr) (leavesk0 : Nat) (set_ : List Int) (set_a0 : Option Addr) (set_k0 : Nat) (hs_0 : i64ok s.Width) (hroot_0 : i64ok root) (rr : Bool) (hrr : flqlaw14_ConeAgrees t s root leaves set_ = rr) :
    FT Try.prog 3 #[.slice ta0 t.length tk0, .agg #[.int .i64 s.Width, .slice sa1 s.Deps.length sk1, .slice sa2 s.Transfers.length sk2, .slice sa3 s.Boundary.length sk3], .int .i64 root, .slice leavesa0 leaves.length leavesk0, .slice set_a0 set_.length set_k0] [sl (.slice ta0 t.length tk0) (t : List Int), sl (.slice sa1 s.Deps.length sk1) (s.Deps : List (List Int)), sl (.slice sa2 s.Transfers.length sk2) (s.Transfers : List GTransfer), sl (.slice sa3 s.Boundary.length sk3) (s.Boundary : List GSet), sl (.slice leavesa0 leaves.length leavesk0) (leaves : List Int), sl (.slice set_a0 set_.length set_k0) (set_ : List Int)]
      (fun g : Unit => True)
      (fun g => .bool rr)
      (fun g => []) := by
  refine FT_intro (args := [.slice ta0 t.length tk0, .agg #[.int .i64 s.Width, .slice sa1 s.Deps.length sk1, .slice sa2 s.Transfers.length sk2, .slice sa3 s.Boundary.length sk3], .int .i64 root, .slice leavesa0 leaves.length leavesk0, .slice set_a0 set_.length set_k0]) Try.func3 rfl rfl ?_
  intro w0 M0 F0
  have hs_0 : -9223372036854775808 ≤ s.Width ∧ s.Width ≤ 9223372036854775807 := hs_0
  have hroot_0 : -9223372036854775808 ≤ root ∧ root ≤ 9223372036854775807 := hroot_0
  refine JJ_fact 0 rfl sl_bytes ?_
  intro hl1
  have hl1 : t.length * 8 ≤ 140737488355328 := hl1
  refine JJ_fact 0 rfl sl_ok ?_
  intro ho2
  refine JJ_fact 1 rfl sl_bytes ?_
  intro hl3
  have hl3 : s.Deps.length * 24 ≤ 140737488355328 := hl3
  refine JJ_fact 2 rfl sl_bytes ?_
  intro hl4
  have hl4 : s.Transfers.length * 88 ≤ 140737488355328 := hl4
  refine JJ_fact 3 rfl sl_bytes ?_
  intro hl5
  have hl5 : s.Boundary.length * 32 ≤ 140737488355328 := hl5
  refine JJ_fact 4 rfl sl_bytes ?_
  intro hl6
  have hl6 : leaves.length * 8 ≤ 140737488355328 := hl6
  refine JJ_fact 4 rfl sl_ok ?_
  intro ho7
  refine JJ_fact 5 rfl sl_bytes ?_
  intro hl8
  have hl8 : set_.length * 8 ≤ 140737488355328 := hl8
  refine JJ_fact 5 rfl sl_ok ?_
  intro ho9
  refine JK_seq ?_
  refine JK_region ?_
  refine JO_act rfl rfl rfl (OpA.box rfl rfl) ?_
  intro p10
  refine JO_q rfl rfl rfl (OpV.assign rfl rfl) ?_
  refine JO_nil ?_
  refine JK_seq ?_
  refine JK_region ?_
  refine JO_q rfl rfl rfl (OpV.move rfl rfl) ?_
  refine letv (flqgen_New t) fun rv12 hg13 => ?_
  have hc14 := fn5 t ta0 tk0 rv12 hg13
  refine JO_call [1] rfl rfl rfl (OpC.fn rfl ca5 rfl) (hc14) rfl ?_
  rintro c11 -
  refine JO_q rfl rfl rfl (OpV.assign rfl rfl) ?_
  refine JO_nil ?_
  refine JK_seq ?_
  refine JK_seq ?_
  refine JK_region ?_
  refine JO_q rfl rfl rfl (OpV.assign rfl rfl) ?_
  refine JO_nil ?_
  refine JK_block ?_
  refine JK_loop (γ := Nat × Int × Int) (fun (r15, k1_16, i_17) => [(2, .int .i64 root), (3, .slice leavesa0 leaves.length leavesk0), (4, .slice set_a0 set_.length set_k0), (6, p10), (11, c11), (12, .int .i64 i_17)]) (fun (r15, k1_16, i_17) => [Cl c11 [.slice ta0 t.length tk0, .int .i64 k1_16], pv p10 [.int .i64 s.Width, .slice sa1 s.Deps.length sk1, .slice sa2 s.Transfers.length sk2, .slice sa3 s.Boundary.length sk3], sl (.slice ta0 t.length tk0) (t : List Int), sl (.slice sa1 s.Deps.length sk1) (s.Deps : List (List Int)), sl (.slice sa2 s.Transfers.length sk2) (s.Transfers : List GTransfer), sl (.slice sa3 s.Boundary.length sk3) (s.Boundary : List GSet), sl (.slice leavesa0 leaves.length leavesk0) (leaves : List Int), sl (.slice set_a0 set_.length set_k0) (set_ : List Int)]) (fun (r15, k1_16, i_17) => flqlaw14_ConeAgrees_L0 t r15 k1_16 i_17 = flqlaw14_ConeAgrees_L0 t 5 0 0 ∧ r15 = ((5 : Int) - i_17).toNat ∧ (0 : Int) ≤ i_17 ∧ (i_17 ≤ 5 ∨ i_17 = 0) ∧ (-9223372036854775808 ≤ k1_16 ∧ k1_16 ≤ 9223372036854775807) ∧ (0 ≤ k1_16 ∧ k1_16 ≤ (t.length : Int)) ∧ (-9223372036854775808 ≤ i_17 ∧ i_17 ≤ 9223372036854775807)) (fun (r15, k1_16, i_17) => r15) (5, 0, 0) ⟨rfl, rfl, (by omega), (.inr rfl), (by omega), (by omega), (by omega)⟩ (Env.sub_all rfl) (Ent.take (is := [0, 0, 1, 2, 3, 4, 5, 6]) rfl) ?_
  rintro ⟨r15, k1_16, i_17⟩ ⟨hM18, hr19, hi20, hi21, hk22, ht23, hk24⟩
  refine JJ_norm (L := [(2, .int .i64 root), (3, .slice leavesa0 leaves.length leavesk0), (4, .slice set_a0 set_.length set_k0), (6, p10), (11, c11), (12, .int .i64 i_17)]) (A := [Cl c11 [.slice ta0 t.length tk0, .int .i64 k1_16], pv p10 [.int .i64 s.Width, .slice sa1 s.Deps.length sk1, .slice sa2 s.Transfers.length sk2, .slice sa3 s.Boundary.length sk3], sl (.slice ta0 t.length tk0) (t : List Int), sl (.slice sa1 s.Deps.length sk1) (s.Deps : List (List Int)), sl (.slice sa2 s.Transfers.length sk2) (s.Transfers : List GTransfer), sl (.slice sa3 s.Boundary.length sk3) (s.Boundary : List GSet), sl (.slice leavesa0 leaves.length leavesk0) (leaves : List Int), sl (.slice set_a0 set_.length set_k0) (set_ : List Int)]) rfl rfl ?_
  refine JJ_fact 2 rfl sl_bytes ?_
  intro hl25
  have hl25 : t.length * 8 ≤ 140737488355328 := hl25
  refine JJ_fact 2 rfl sl_ok ?_
  intro ho26
  refine JJ_fact 3 rfl sl_bytes ?_
  intro hl27
  have hl27 : s.Deps.length * 24 ≤ 140737488355328 := hl27
  refine JJ_fact 4 rfl sl_bytes ?_
  intro hl28
  have hl28 : s.Transfers.length * 88 ≤ 140737488355328 := hl28
  refine JJ_fact 5 rfl sl_bytes ?_
  intro hl29
  have hl29 : s.Boundary.length * 32 ≤ 140737488355328 := hl29
  refine JJ_fact 6 rfl sl_bytes ?_
  intro hl30
  have hl30 : leaves.length * 8 ≤ 140737488355328 := hl30
  refine JJ_fact 6 rfl sl_ok ?_
  intro ho31
  refine JJ_fact 7 rfl sl_bytes ?_
  intro hl32
  have hl32 : set_.length * 8 ≤ 140737488355328 := hl32
  refine JJ_fact 7 rfl sl_ok ?_
  intro ho33
  refine JK_seq ?_
  refine JK_seq ?_
  refine JK_region ?_
  refine JO_q rfl rfl rfl (OpV.move rfl rfl) ?_
  refine JO_q rfl rfl rfl (OpV.lss rfl rfl rfl) ?_
  refine JO_nil ?_
  refine JK_cond (b := decide (i_17 < 5)) rfl (fun (h34 : decide (i_17 < 5) = true) => ?_) (fun (h34 : decide (i_17 < 5) = false) => ?_)
  · skip
    have g35 : (i_17 < 5) := of_decide_eq_true h34
    obtain ⟨r36, rfl⟩ : ∃ q, r15 = q + 1 := ⟨r15 - 1, by omega⟩
    refine JK_skip ?_
    refine JK_seq ?_
    refine JK_block ?_
    refine JK_seq ?_
    refine JK_region ?_
    refine JO_q rfl rfl rfl (OpV.move rfl rfl) ?_
    refine letv (Tape_System t k1_16 7) fun rv40 hg41 => ?_
    have hc42 := fn6 c11 ta0 tk0 t k1_16 7 (by (try dsimp only) <;> first | (unfold i64ok; omega) | omega | assumption) (by (try dsimp only) <;> first | (unfold i64ok; omega) | omega | assumption) (by (try dsimp only) <;> first | (unfold i64ok; omega) | omega | assumption) rv40 hg41
    refine JO_call [0, 1] rfl rfl rfl (OpC.fn rfl ca6 rfl) (hc42) rfl ?_
    rintro ⟨c37, c38, c39⟩ ⟨he43, he44, he45⟩
    have he43 : -9223372036854775808 ≤ rv40.1.Width ∧ rv40.1.Width ≤ 9223372036854775807 := he43
    refine JJ_slice 0 rfl sl_slice ?_
    rintro a46 k47 rfl
    refine JJ_fact 0 rfl sl_bytes ?_
    intro hl48
    have hl48 : rv40.1.Deps.length * 24 ≤ 140737488355328 := hl48
    refine JJ_slice 1 rfl sl_slice ?_
    rintro a49 k50 rfl
    refine JJ_fact 1 rfl sl_bytes ?_
    intro hl51
    have hl51 : rv40.1.Transfers.length * 88 ≤ 140737488355328 := hl51
    refine JJ_slice 2 rfl sl_slice ?_
    rintro a52 k53 rfl
    refine JJ_fact 2 rfl sl_bytes ?_
    intro hl54
    have hl54 : rv40.1.Boundary.length * 32 ≤ 140737488355328 := hl54
    refine JO_act rfl rfl rfl (OpA.alloc rfl ze27) ?_
    intro p55
    refine JO_store rfl rfl (OpS.frame [0] rfl (OpS.storeCl [.int .i64 rv40.1.Width, .slice a46 rv40.1.Deps.length k47, .slice a49 rv40.1.Transfers.length k50, .slice a52 rv40.1.Boundary.length k53] [.int .i64 rv40.1.Width, .slice a46 rv40.1.Deps.length k47, .slice a49 rv40.1.Transfers.length k50, .slice a52 rv40.1.Boundary.length k53] rfl rfl rfl sh27 rfl rfl rfl (Nat.le_of_ble_eq_true rfl) rfl)) ?_
    refine JO_nil ?_
    refine JK_seq ?_
    refine JK_region ?_
    refine JO_q rfl rfl rfl (OpV.fieldAddr rfl rfl fo27_1 (i := 0) rfl (isPtr_Cl _ _)) ?_
    refine JO_q rfl rfl rfl (OpV.loadF rfl rfl sh23 (i := 0) rfl (reads_Cl _ _) rfl) ?_
    refine JO_q rfl rfl rfl (OpV.len rfl rfl sl23) ?_
    refine JO_q rfl rfl rfl (OpV.assign rfl rfl) ?_
    refine JO_nil ?_
    refine JK_seq ?_
    refine letv (Tape_Next t rv40.2 ((rv40.1.Deps.length : Nat) : Int)) fun rv56 hg57 => ?_
    refine letv (flqref14_Cone rv40.1 rv56.1 []) fun rv59 hg60 => ?_
    refine JK_drawJ [0, 0, 0, 6, 15, 31, 63, 63, 63, 127, 767, 2047] [none, none, none, none, some 3] fmix ?_
    refine JD_v [0] (wn rfl) rfl rfl (OpV.loadA rfl rfl sh27 (i := 0) rfl (reads_Cl _ _) rfl) ?_
    refine JD_v [] (wn rfl) rfl rfl (OpV.move rfl rfl) ?_
    refine JD_v [] (wn rfl) rfl rfl (OpV.move rfl rfl) ?_
    refine JD_x [4, 6] [] (fun lG => .int .i64 rv56.1) [⟨some 3, none, [], fun lG => SP.fact (i64ok rv56.1 ∧ (0 ≤ rv56.2 ∧ rv56.2 ≤ (t.length : Int)) ∧ (0 ≤ rv56.1 ∧ (rv56.1 < ((rv40.1.Deps.length : Nat) : Int) ∨ rv56.1 = 0)))⟩, ⟨some 3, none, [], fun lG => Cl c11 [.slice ta0 t.length tk0, .int .i64 rv56.2]⟩] (wn rfl) rfl rfl rfl (fun G => by refine OpX.n3 (A' := [Cl c11 [.slice ta0 t.length tk0, .int .i64 rv40.2], sl (.slice ta0 t.length tk0) (t : List Int)]) (V' := fun g => .int .i64 rv56.1) (B' := fun g => [sl (.slice ta0 t.length tk0) (t : List Int), SP.fact (i64ok rv56.1 ∧ (0 ≤ rv56.2 ∧ rv56.2 ≤ (t.length : Int)) ∧ (0 ≤ rv56.1 ∧ (rv56.1 < ((rv40.1.Deps.length : Nat) : Int) ∨ rv56.1 = 0))), Cl c11 [.slice ta0 t.length tk0, .int .i64 rv56.2]]) (by kernel_rfl) (by kernel_rfl) (by kernel_rfl) ?_; refine OpX.postR (OpX.frame [0, 0] rfl (OpX.ofC (fun _ => []) (fun _ => ()) (fun _ => rfl) (by intro _ _ h; cases h) (OpC.fn rfl ca8 rfl) (fn8 c11 ta0 tk0 t rv40.2 (((rv40.1.Deps.length : Nat) : Int)) (by (try dsimp only) <;> first | (unfold i64ok; omega) | omega | assumption) (by (try dsimp only) <;> first | (unfold i64ok; omega) | omega | assumption) rv56 hg57))) (fun g => ?_); exact Ent.take (is := [2, 0, 1]) rfl) ?_
    refine JD_x [1, 2, 3, 12] [4] (fun lG => .tuple #[((lG.getD 0 []).getD 0 undef), .int .i64 rv59.2.1, .int .i64 rv59.2.2]) [⟨some 4, none, [], fun lG => sl (.slice none 0 0) ([] : List Int)⟩, ⟨some 4, none, [], fun lG => SP.fact (i64ok rv59.2.1 ∧ i64ok rv59.2.2)⟩, ⟨some 4, none, [4], fun lG => sl (((lG.getD 0 []).getD 0 undef)) (rv59.1 : List Int)⟩] (wn rfl) rfl rfl rfl (fun G => by refine OpX.n3 (A' := [sl (.slice a46 rv40.1.Deps.length k47) (rv40.1.Deps : List (List Int)), sl (.slice a49 rv40.1.Transfers.length k50) (rv40.1.Transfers : List GTransfer), sl (.slice a52 rv40.1.Boundary.length k53) (rv40.1.Boundary : List GSet), SP.fact (i64ok rv56.1 ∧ (0 ≤ rv56.2 ∧ rv56.2 ≤ (t.length : Int)) ∧ (0 ≤ rv56.1 ∧ (rv56.1 < ((rv40.1.Deps.length : Nat) : Int) ∨ rv56.1 = 0)))]) (V' := fun g => .tuple #[(g.getD 0 undef), .int .i64 rv59.2.1, .int .i64 rv59.2.2]) (B' := fun g => [sl (.slice a46 rv40.1.Deps.length k47) (rv40.1.Deps : List (List Int)), sl (.slice a49 rv40.1.Transfers.length k50) (rv40.1.Transfers : List GTransfer), sl (.slice a52 rv40.1.Boundary.length k53) (rv40.1.Boundary : List GSet), SP.fact (i64ok rv56.1 ∧ (0 ≤ rv56.2 ∧ rv56.2 ≤ (t.length : Int)) ∧ (0 ≤ rv56.1 ∧ (rv56.1 < ((rv40.1.Deps.length : Nat) : Int) ∨ rv56.1 = 0))), sl (.slice none 0 0) ([] : List Int), SP.fact (i64ok rv59.2.1 ∧ i64ok rv59.2.2), sl ((g.getD 0 undef)) (rv59.1 : List Int)]) (by kernel_rfl) (by kernel_rfl) (by kernel_rfl) ?_; refine OpX.fact 3 rfl (fun h => h) ?_; rintro ⟨he61, he62, he63⟩; have he61 : -9223372036854775808 ≤ rv56.1 ∧ rv56.1 ≤ 9223372036854775807 := he61; refine OpX.pre [] rfl (Ent.slNil (α := Int)) ?_; refine OpX.postR (OpX.frame [1, 2, 3, 0] rfl (OpX.ofC (fun g => [g]) (fun l => l.getD 0 undef) (fun _ => rfl) (by intro _ _ h; cases h) (OpC.fn rfl ca7 rfl) (fn7 rv40.1 a46 k47 a49 k50 a52 k53 rv56.1 ([]) none 0 (by (try dsimp only) <;> first | (unfold i64ok; omega) | omega | assumption) (by (try dsimp only) <;> first | (unfold i64ok; omega) | omega | assumption) rv59 hg60))) (fun g => ?_); exact Ent.take (is := [3, 4, 5, 6, 2, 0, 1]) rfl) ?_
    refine JD_vg [] [4] (fun lG => .tuple #[((lG.getD 0 []).getD 0 undef), .int .i64 rv59.2.1, .int .i64 rv59.2.2]) (wn rfl) rfl rfl (OpV.move rfl rfl) rfl ?_
    refine JD_vg [] [4] (fun lG => ((lG.getD 0 []).getD 0 undef)) (wn rfl) rfl rfl (OpV.extract rfl rfl rfl) rfl ?_
    refine JD_v [] (wn rfl) rfl rfl (OpV.extract rfl rfl rfl) ?_
    refine JD_v [] (wn rfl) rfl rfl (OpV.extract rfl rfl rfl) ?_
    refine JD_vg [] [4] (fun lG => ((lG.getD 0 []).getD 0 undef)) (wn rfl) rfl rfl (OpV.assign rfl rfl) rfl ?_
    refine JD_v [] (wn rfl) rfl rfl (OpV.assign rfl rfl) ?_
    refine JD_v [] (wn rfl) rfl rfl (OpV.assign rfl rfl) ?_
    refine JD_nil ⟨by kernel_rfl, fun G => ?_⟩
    refine JJ_weaken (L' := [(2, .int .i64 root), (3, .slice leavesa0 leaves.length leavesk0), (4, .slice set_a0 set_.length set_k0), (6, p10), (11, c11), (12, .int .i64 i_17), (13, p55), (14, .int .i64 ((rv40.1.Deps.length : Nat) : Int)), (15, ((G 4).getD 0 undef))]) (A' := [Cl p55 [.int .i64 rv40.1.Width, .slice a46 rv40.1.Deps.length k47, .slice a49 rv40.1.Transfers.length k50, .slice a52 rv40.1.Boundary.length k53], sl (.slice a46 rv40.1.Deps.length k47) (rv40.1.Deps : List (List Int)), sl (.slice a49 rv40.1.Transfers.length k50) (rv40.1.Transfers : List GTransfer), sl (.slice a52 rv40.1.Boundary.length k53) (rv40.1.Boundary : List GSet), pv p10 [.int .i64 s.Width, .slice sa1 s.Deps.length sk1, .slice sa2 s.Transfers.length sk2, .slice sa3 s.Boundary.length sk3], sl (.slice ta0 t.length tk0) (t : List Int), sl (.slice sa1 s.Deps.length sk1) (s.Deps : List (List Int)), sl (.slice sa2 s.Transfers.length sk2) (s.Transfers : List GTransfer), sl (.slice sa3 s.Boundary.length sk3) (s.Boundary : List GSet), sl (.slice leavesa0 leaves.length leavesk0) (leaves : List Int), sl (.slice set_a0 set_.length set_k0) (set_ : List Int), SP.fact (i64ok rv56.1 ∧ (0 ≤ rv56.2 ∧ rv56.2 ≤ (t.length : Int)) ∧ (0 ≤ rv56.1 ∧ (rv56.1 < ((rv40.1.Deps.length : Nat) : Int) ∨ rv56.1 = 0))), Cl c11 [.slice ta0 t.length tk0, .int .i64 rv56.2], sl (.slice none 0 0) ([] : List Int), SP.fact (i64ok rv59.2.1 ∧ i64ok rv59.2.2), sl (((G 4).getD 0 undef)) (rv59.1 : List Int)]) (Env.sub_all (by kernel_rfl)) (Ent.of_eq (by kernel_rfl)) ?_
    generalize ((G 4).getD 0 undef) = c58
    refine JJ_fact 11 rfl (fun h => h) ?_
    rintro ⟨he64, he65, he66⟩
    have he64 : -9223372036854775808 ≤ rv56.1 ∧ rv56.1 ≤ 9223372036854775807 := he64
    refine JJ_fact 14 rfl (fun h => h) ?_
    rintro ⟨he67, he68⟩
    have he67 : -9223372036854775808 ≤ rv59.2.1 ∧ rv59.2.1 ≤ 9223372036854775807 := he67
    have he68 : -9223372036854775808 ≤ rv59.2.2 ∧ rv59.2.2 ≤ 9223372036854775807 := he68
    refine JJ_keep [0, 0, 1, 2, 3, 4, 5, 6, 7, 8, 9, 11, 11, 13] rfl ?_
    refine JJ_slice 13 rfl sl_slice ?_
    rintro a69 k70 rfl
    refine JJ_fact 13 rfl sl_bytes ?_
    intro hl71
    have hl71 : rv59.1.length * 8 ≤ 140737488355328 := hl71
    refine JJ_fact 13 rfl sl_ok ?_
    intro ho72
    refine JK_seq ?_
    refine letv (Tape_Next t rv56.2 ((rv40.1.Deps.length : Nat) : Int)) fun rv73 hg74 => ?_
    refine letv (flqlaw14_list t rv73.2 ((rv40.1.Deps.length : Nat) : Int)) fun rv76 hg77 => ?_
    refine letv (flqlaw14_agrees rv40.1 rv73.1 rv76.1 rv59.1) fun rv81 hg82 => ?_
    refine bool_split ((!rv81)) (fun (h83 : (!rv81) = true) => ?_) (fun (h83 : (!rv81) = false) => ?_)
    · skip
      have h85 : rv81 = false := not_true h83
      refine JK_drawJ [0, 0, 0, 6, 0, 0, 62, 0, 255, 511, 1023, 2047, 2047, 2047, 10239, 30719, 63487, 2047, 2047, 456703, 1048575, 2097151, 4194303, 8388607, 16777215, 16777215, 67108863, 16777215, 268435455, 536870911, 1073741823] [none, none, none, none, none, none, none, none, none, none, none, some 3] fmix ?_
      refine JD_v [0] (wn rfl) rfl rfl (OpV.loadA rfl rfl sh27 (i := 0) rfl (reads_Cl _ _) rfl) ?_
      refine JD_v [] (wn rfl) rfl rfl (OpV.move rfl rfl) ?_
      refine JD_v [] (wn rfl) rfl rfl (OpV.move rfl rfl) ?_
      refine JD_x [5, 11] [] (fun lG => .int .i64 rv73.1) [⟨some 3, none, [], fun lG => SP.fact (i64ok rv73.1 ∧ (0 ≤ rv73.2 ∧ rv73.2 ≤ (t.length : Int)) ∧ (0 ≤ rv73.1 ∧ (rv73.1 < ((rv40.1.Deps.length : Nat) : Int) ∨ rv73.1 = 0)))⟩, ⟨some 3, some 6, [], fun lG => Cl c11 [.slice ta0 t.length tk0, .int .i64 rv73.2]⟩] (wn rfl) rfl rfl rfl (fun G => by refine OpX.n3 (A' := [sl (.slice ta0 t.length tk0) (t : List Int), Cl c11 [.slice ta0 t.length tk0, .int .i64 rv56.2]]) (V' := fun g => .int .i64 rv73.1) (B' := fun g => [sl (.slice ta0 t.length tk0) (t : List Int), SP.fact (i64ok rv73.1 ∧ (0 ≤ rv73.2 ∧ rv73.2 ≤ (t.length : Int)) ∧ (0 ≤ rv73.1 ∧ (rv73.1 < ((rv40.1.Deps.length : Nat) : Int) ∨ rv73.1 = 0))), Cl c11 [.slice ta0 t.length tk0, .int .i64 rv73.2]]) (by kernel_rfl) (by kernel_rfl) (by kernel_rfl) ?_; refine OpX.postR (OpX.frame [1, 0] rfl (OpX.ofC (fun _ => []) (fun _ => ()) (fun _ => rfl) (by intro _ _ h; cases h) (OpC.fn rfl ca8 rfl) (fn8 c11 ta0 tk0 t rv56.2 (((rv40.1.Deps.length : Nat) : Int)) (by (try dsimp only) <;> first | (unfold i64ok; omega) | omega | assumption) (by (try dsimp only) <;> first | (unfold i64ok; omega) | omega | assumption) rv73 hg74))) (fun g => ?_); exact Ent.take (is := [2, 0, 1]) rfl) ?_
      refine JD_v [] (wn rfl) rfl rfl (OpV.move rfl rfl) ?_
      refine JD_v [] (wn rfl) rfl rfl (OpV.move rfl rfl) ?_
      refine JD_x [5, 14, 15] [6] (fun lG => ((lG.getD 0 []).getD 0 undef)) [⟨some 6, none, [], fun lG => SP.fact ((0 ≤ rv76.2 ∧ rv76.2 ≤ (t.length : Int)))⟩, ⟨some 6, none, [6], fun lG => sl (((lG.getD 0 []).getD 0 undef)) (rv76.1 : List Int)⟩, ⟨some 6, none, [], fun lG => Cl c11 [.slice ta0 t.length tk0, .int .i64 rv76.2]⟩] (wn rfl) rfl rfl rfl (fun G => by refine OpX.n3 (A' := [sl (.slice ta0 t.length tk0) (t : List Int), SP.fact (i64ok rv73.1 ∧ (0 ≤ rv73.2 ∧ rv73.2 ≤ (t.length : Int)) ∧ (0 ≤ rv73.1 ∧ (rv73.1 < ((rv40.1.Deps.length : Nat) : Int) ∨ rv73.1 = 0))), Cl c11 [.slice ta0 t.length tk0, .int .i64 rv73.2]]) (V' := fun g => (g.getD 0 undef)) (B' := fun g => [sl (.slice ta0 t.length tk0) (t : List Int), SP.fact (i64ok rv73.1 ∧ (0 ≤ rv73.2 ∧ rv73.2 ≤ (t.length : Int)) ∧ (0 ≤ rv73.1 ∧ (rv73.1 < ((rv40.1.Deps.length : Nat) : Int) ∨ rv73.1 = 0))), SP.fact ((0 ≤ rv76.2 ∧ rv76.2 ≤ (t.length : Int))), sl ((g.getD 0 undef)) (rv76.1 : List Int), Cl c11 [.slice ta0 t.length tk0, .int .i64 rv76.2]]) (by kernel_rfl) (by kernel_rfl) (by kernel_rfl) ?_; refine OpX.fact 1 rfl (fun h => h) ?_; rintro ⟨he91, he92, he93⟩; have he91 : -9223372036854775808 ≤ rv73.1 ∧ rv73.1 ≤ 9223372036854775807 := he91; refine OpX.postR (OpX.frame [2, 0] rfl (OpX.ofC (fun g => [g]) (fun l => l.getD 0 undef) (fun _ => rfl) (by intro _ _ h; cases h) (OpC.fn rfl ca10 rfl) (fn10 c11 ta0 tk0 t rv73.2 (((rv40.1.Deps.length : Nat) : Int)) (by (try dsimp only) <;> first | (unfold i64ok; omega) | omega | assumption) (by (try dsimp only) <;> first | (unfold i64ok; omega) | omega | assumption) rv76 hg77))) (fun g => ?_); exact Ent.take (is := [3, 4, 0, 1, 2]) rfl) ?_
      refine JD_v [] (wn rfl) rfl rfl (OpV.move rfl rfl) ?_
      refine JD_x [1, 2, 3, 13, 14, 16, 17] [] (fun lG => .bool rv81) [⟨some 8, none, [], fun lG => SP.fact (True)⟩] (wn rfl) rfl rfl rfl (fun G => by refine OpX.n3 (A' := [sl (.slice a46 rv40.1.Deps.length k47) (rv40.1.Deps : List (List Int)), sl (.slice a49 rv40.1.Transfers.length k50) (rv40.1.Transfers : List GTransfer), sl (.slice a52 rv40.1.Boundary.length k53) (rv40.1.Boundary : List GSet), sl (.slice a69 rv59.1.length k70) (rv59.1 : List Int), SP.fact (i64ok rv73.1 ∧ (0 ≤ rv73.2 ∧ rv73.2 ≤ (t.length : Int)) ∧ (0 ≤ rv73.1 ∧ (rv73.1 < ((rv40.1.Deps.length : Nat) : Int) ∨ rv73.1 = 0))), SP.fact ((0 ≤ rv76.2 ∧ rv76.2 ≤ (t.length : Int))), sl (((G 6).getD 0 undef)) (rv76.1 : List Int)]) (V' := fun g => .bool rv81) (B' := fun g => [sl (.slice a46 rv40.1.Deps.length k47) (rv40.1.Deps : List (List Int)), sl (.slice a49 rv40.1.Transfers.length k50) (rv40.1.Transfers : List GTransfer), sl (.slice a52 rv40.1.Boundary.length k53) (rv40.1.Boundary : List GSet), sl (.slice a69 rv59.1.length k70) (rv59.1 : List Int), SP.fact (i64ok rv73.1 ∧ (0 ≤ rv73.2 ∧ rv73.2 ≤ (t.length : Int)) ∧ (0 ≤ rv73.1 ∧ (rv73.1 < ((rv40.1.Deps.length : Nat) : Int) ∨ rv73.1 = 0))), SP.fact ((0 ≤ rv76.2 ∧ rv76.2 ≤ (t.length : Int))), sl (((G 6).getD 0 undef)) (rv76.1 : List Int), SP.fact (True)]) (by kernel_rfl) (by kernel_rfl) (by kernel_rfl) ?_; refine OpX.fact 4 rfl (fun h => h) ?_; rintro ⟨he94, he95, he96⟩; have he94 : -9223372036854775808 ≤ rv73.1 ∧ rv73.1 ≤ 9223372036854775807 := he94; refine OpX.fact 5 rfl (fun h => h) ?_; rintro he97; refine OpX.seeL (L' := [(38, .agg #[.int .i64 rv40.1.Width, .slice a46 rv40.1.Deps.length k47, .slice a49 rv40.1.Transfers.length k50, .slice a52 rv40.1.Boundary.length k53]), (41, .int .i64 rv73.1), (44, ((G 6).getD 0 undef)), (45, .slice a69 rv59.1.length k70)]) (Env.sub_all (by kernel_rfl)) ?_; refine OpX.postR (OpX.frame [6, 0, 1, 2, 3] rfl (OpX.ofC (fun _ => []) (fun _ => ()) (fun _ => rfl) (by intro _ _ h; cases h) (OpC.fn rfl ca9 rfl) (FT_open (γ := Unit) (I := fun g => True) (V := fun g => .bool rv81) (B := fun g => []) (R := sl (((G 6).getD 0 undef)) (rv76.1 : List Int)) sl_slice (fun aq88 kq89 eq90 => by rw [eq90]; exact FT_ent (Ent.take (is := [1, 2, 3, 0, 4]) rfl) (fn9 rv40.1 a46 k47 a49 k50 a52 k53 rv73.1 rv76.1 aq88 kq89 rv59.1 a69 k70 (by (try dsimp only) <;> first | (unfold i64ok; omega) | omega | assumption) (by (try dsimp only) <;> first | (unfold i64ok; omega) | omega | assumption) rv81 hg82))))) (fun g => ?_); exact Ent.take (is := [1, 2, 3, 4, 5, 6, 7, 0]) rfl) ?_
      refine JD_b h83 [] (wn rfl) rfl rfl (OpV.not rfl rfl) ?_
      refine JD_v [] (wn rfl) rfl rfl (OpV.move rfl rfl) ?_
      refine JD_skip (ws rfl rfl rfl _ rfl rfl) rfl ?_
      refine JD_skip (ws rfl rfl rfl _ rfl rfl) rfl ?_
      refine JD_skip (ws rfl rfl rfl _ rfl rfl) rfl ?_
      refine JD_skip (ws rfl rfl rfl _ rfl rfl) rfl ?_
      refine JD_skip (ws rfl rfl rfl _ rfl rfl) rfl ?_
      refine JD_skip (ws rfl rfl rfl _ rfl rfl) rfl ?_
      refine JD_skip (ws rfl rfl rfl _ rfl rfl) rfl ?_
      refine JD_skip (ws rfl rfl rfl _ rfl rfl) rfl ?_
      refine JD_skip (ws rfl rfl rfl _ rfl rfl) rfl ?_
      refine JD_skip (ws rfl rfl rfl _ rfl rfl) rfl ?_
      refine JD_skip (ws rfl rfl rfl _ rfl rfl) rfl ?_
      refine JD_v [] (wn rfl) rfl rfl (OpV.pickT rfl rfl rfl) ?_
      refine JD_v [] (wn rfl) rfl rfl (OpV.move rfl rfl) ?_
      refine JD_skip (ws rfl rfl rfl _ rfl rfl) rfl ?_
      refine JD_skip (ws rfl rfl rfl _ rfl rfl) rfl ?_
      refine JD_skip (ws rfl rfl rfl _ rfl rfl) rfl ?_
      refine JD_skip (ws rfl rfl rfl _ rfl rfl) rfl ?_
      refine JD_skip (ws rfl rfl rfl _ rfl rfl) rfl ?_
      refine JD_skip (ws rfl rfl rfl _ rfl rfl) rfl ?_
      refine JD_v [] (wn rfl) rfl rfl (OpV.pickT rfl rfl rfl) ?_
      refine JD_nil ⟨by kernel_rfl, fun G => ?_⟩
      refine JJ_weaken (L' := [(2, .int .i64 root), (3, .slice leavesa0 leaves.length leavesk0), (4, .slice set_a0 set_.length set_k0), (6, p10), (11, c11), (12, .int .i64 i_17), (68, .bool true)]) (A' := [Cl p55 [.int .i64 rv40.1.Width, .slice a46 rv40.1.Deps.length k47, .slice a49 rv40.1.Transfers.length k50, .slice a52 rv40.1.Boundary.length k53], sl (.slice a46 rv40.1.Deps.length k47) (rv40.1.Deps : List (List Int)), sl (.slice a49 rv40.1.Transfers.length k50) (rv40.1.Transfers : List GTransfer), sl (.slice a52 rv40.1.Boundary.length k53) (rv40.1.Boundary : List GSet), pv p10 [.int .i64 s.Width, .slice sa1 s.Deps.length sk1, .slice sa2 s.Transfers.length sk2, .slice sa3 s.Boundary.length sk3], sl (.slice ta0 t.length tk0) (t : List Int), sl (.slice sa1 s.Deps.length sk1) (s.Deps : List (List Int)), sl (.slice sa2 s.Transfers.length sk2) (s.Transfers : List GTransfer), sl (.slice sa3 s.Boundary.length sk3) (s.Boundary : List GSet), sl (.slice leavesa0 leaves.length leavesk0) (leaves : List Int), sl (.slice set_a0 set_.length set_k0) (set_ : List Int), sl (.slice none 0 0) ([] : List Int), sl (.slice a69 rv59.1.length k70) (rv59.1 : List Int), SP.fact (i64ok rv73.1 ∧ (0 ≤ rv73.2 ∧ rv73.2 ≤ (t.length : Int)) ∧ (0 ≤ rv73.1 ∧ (rv73.1 < ((rv40.1.Deps.length : Nat) : Int) ∨ rv73.1 = 0))), SP.fact ((0 ≤ rv76.2 ∧ rv76.2 ≤ (t.length : Int))), sl (((G 6).getD 0 undef)) (rv76.1 : List Int), Cl c11 [.slice ta0 t.length tk0, .int .i64 rv76.2], SP.fact (True)]) (Env.sub_all (by kernel_rfl)) (Ent.of_eq (by kernel_rfl)) ?_
      generalize ((G 6).getD 0 undef) = c87
      refine JJ_fact 13 rfl (fun h => h) ?_
      rintro ⟨he98, he99, he100⟩
      have he98 : -9223372036854775808 ≤ rv73.1 ∧ rv73.1 ≤ 9223372036854775807 := he98
      refine JJ_fact 14 rfl (fun h => h) ?_
      rintro he101
      refine JJ_keep [0, 0, 1, 2, 3, 4, 5, 6, 7, 8, 9, 10, 11, 14, 15] rfl ?_
      refine JJ_slice 13 rfl sl_slice ?_
      rintro a102 k103 rfl
      refine JJ_fact 13 rfl sl_bytes ?_
      intro hl104
      have hl104 : rv76.1.length * 8 ≤ 140737488355328 := hl104
      refine JJ_fact 13 rfl sl_ok ?_
      intro ho105
      refine JK_condT rfl ?_
      refine JK_seq ?_
      refine JK_region ?_
      refine JO_q rfl rfl rfl (OpV.assign rfl rfl) ?_
      refine JO_nil ?_
      have hR106 : flqlaw14_ConeAgrees_L0 t 5 0 0 = LR.ret false := by
        rw [← hM18]; simp only [flqlaw14_ConeAgrees_L0, h34, h83, h85, hg13, hg41, hg57, hg60, hg74, hg77, hg82, cs4]
      have hq : rr = false := hrr.symm.trans (by unfold flqlaw14_ConeAgrees; simp only [h34, h83, h85, hg13, hg41, hg57, hg60, hg74, hg77, hg82, hR106, cs4])
      replace hrr := hrr.trans hq
      subst rr
      refine JK_return (()) rfl (.tmp rfl .nil) rfl trivial (Ent.take (is := []) rfl)
    · skip
      have h108 : rv81 = true := not_false h83
      refine letv (Tape_Next t rv76.2 (((rv40.1.Deps.length : Nat) : Int) + 2)) fun rv114 hg115 => ?_
      refine letv (flqlaw14_list t rv114.2 ((rv40.1.Deps.length : Nat) : Int)) fun rv117 hg118 => ?_
      refine letv (flqlaw14_agrees rv40.1 (rv114.1 - 1) [] rv117.1) fun rv122 hg123 => ?_
      refine bool_split ((!rv122)) (fun (h124 : (!rv122) = true) => ?_) (fun (h124 : (!rv122) = false) => ?_)
      · skip
        have h126 : rv122 = false := not_true h124
        refine JK_drawJ [0, 0, 0, 6, 0, 0, 62, 0, 255, 511, 1023, 2047, 2047, 2047, 10239, 30719, 63487, 2047, 2047, 456703, 1048575, 2097151, 4194303, 8388607, 16777215, 16777215, 67108863, 16777215, 268435455, 536870911, 1073741823] [none, none, none, none, none, none, none, none, none, none, none, some 3] fmix ?_
        refine JD_v [0] (wn rfl) rfl rfl (OpV.loadA rfl rfl sh27 (i := 0) rfl (reads_Cl _ _) rfl) ?_
        refine JD_v [] (wn rfl) rfl rfl (OpV.move rfl rfl) ?_
        refine JD_v [] (wn rfl) rfl rfl (OpV.move rfl rfl) ?_
        refine JD_x [5, 11] [] (fun lG => .int .i64 rv73.1) [⟨some 3, none, [], fun lG => SP.fact (i64ok rv73.1 ∧ (0 ≤ rv73.2 ∧ rv73.2 ≤ (t.length : Int)) ∧ (0 ≤ rv73.1 ∧ (rv73.1 < ((rv40.1.Deps.length : Nat) : Int) ∨ rv73.1 = 0)))⟩, ⟨some 3, some 6, [], fun lG => Cl c11 [.slice ta0 t.length tk0, .int .i64 rv73.2]⟩] (wn rfl) rfl rfl rfl (fun G => by refine OpX.n3 (A' := [sl (.slice ta0 t.length tk0) (t : List Int), Cl c11 [.slice ta0 t.length tk0, .int .i64 rv56.2]]) (V' := fun g => .int .i64 rv73.1) (B' := fun g => [sl (.slice ta0 t.length tk0) (t : List Int), SP.fact (i64ok rv73.1 ∧ (0 ≤ rv73.2 ∧ rv73.2 ≤ (t.length : Int)) ∧ (0 ≤ rv73.1 ∧ (rv73.1 < ((rv40.1.Deps.length : Nat) : Int) ∨ rv73.1 = 0))), Cl c11 [.slice ta0 t.length tk0, .int .i64 rv73.2]]) (by kernel_rfl) (by kernel_rfl) (by kernel_rfl) ?_; refine OpX.postR (OpX.frame [1, 0] rfl (OpX.ofC (fun _ => []) (fun _ => ()) (fun _ => rfl) (by intro _ _ h; cases h) (OpC.fn rfl ca8 rfl) (fn8 c11 ta0 tk0 t rv56.2 (((rv40.1.Deps.length : Nat) : Int)) (by (try dsimp only) <;> first | (unfold i64ok; omega) | omega | assumption) (by (try dsimp only) <;> first | (unfold i64ok; omega) | omega | assumption) rv73 hg74))) (fun g => ?_); exact Ent.take (is := [2, 0, 1]) rfl) ?_
        refine JD_v [] (wn rfl) rfl rfl (OpV.move rfl rfl) ?_
        refine JD_v [] (wn rfl) rfl rfl (OpV.move rfl rfl) ?_
        refine JD_x [5, 14, 15] [6] (fun lG => ((lG.getD 0 []).getD 0 undef)) [⟨some 6, none, [], fun lG => SP.fact ((0 ≤ rv76.2 ∧ rv76.2 ≤ (t.length : Int)))⟩, ⟨some 6, none, [6], fun lG => sl (((lG.getD 0 []).getD 0 undef)) (rv76.1 : List Int)⟩, ⟨some 6, some 15, [], fun lG => Cl c11 [.slice ta0 t.length tk0, .int .i64 rv76.2]⟩] (wn rfl) rfl rfl rfl (fun G => by refine OpX.n3 (A' := [sl (.slice ta0 t.length tk0) (t : List Int), SP.fact (i64ok rv73.1 ∧ (0 ≤ rv73.2 ∧ rv73.2 ≤ (t.length : Int)) ∧ (0 ≤ rv73.1 ∧ (rv73.1 < ((rv40.1.Deps.length : Nat) : Int) ∨ rv73.1 = 0))), Cl c11 [.slice ta0 t.length tk0, .int .i64 rv73.2]]) (V' := fun g => (g.getD 0 undef)) (B' := fun g => [sl (.slice ta0 t.length tk0) (t : List Int), SP.fact (i64ok rv73.1 ∧ (0 ≤ rv73.2 ∧ rv73.2 ≤ (t.length : Int)) ∧ (0 ≤ rv73.1 ∧ (rv73.1 < ((rv40.1.Deps.length : Nat) : Int) ∨ rv73.1 = 0))), SP.fact ((0 ≤ rv76.2 ∧ rv76.2 ≤ (t.length : Int))), sl ((g.getD 0 undef)) (rv76.1 : List Int), Cl c11 [.slice ta0 t.length tk0, .int .i64 rv76.2]]) (by kernel_rfl) (by kernel_rfl) (by kernel_rfl) ?_; refine OpX.fact 1 rfl (fun h => h) ?_; rintro ⟨he136, he137, he138⟩; have he136 : -9223372036854775808 ≤ rv73.1 ∧ rv73.1 ≤ 9223372036854775807 := he136; refine OpX.postR (OpX.frame [2, 0] rfl (OpX.ofC (fun g => [g]) (fun l => l.getD 0 undef) (fun _ => rfl) (by intro _ _ h; cases h) (OpC.fn rfl ca10 rfl) (fn10 c11 ta0 tk0 t rv73.2 (((rv40.1.Deps.length : Nat) : Int)) (by (try dsimp only) <;> first | (unfold i64ok; omega) | omega | assumption) (by (try dsimp only) <;> first | (unfold i64ok; omega) | omega | assumption) rv76 hg77))) (fun g => ?_); exact Ent.take (is := [3, 4, 0, 1, 2]) rfl) ?_
        refine JD_v [] (wn rfl) rfl rfl (OpV.move rfl rfl) ?_
        refine JD_x [1, 2, 3, 13, 14, 16, 17] [] (fun lG => .bool rv81) [⟨some 8, none, [], fun lG => SP.fact (True)⟩] (wn rfl) rfl rfl rfl (fun G => by refine OpX.n3 (A' := [sl (.slice a46 rv40.1.Deps.length k47) (rv40.1.Deps : List (List Int)), sl (.slice a49 rv40.1.Transfers.length k50) (rv40.1.Transfers : List GTransfer), sl (.slice a52 rv40.1.Boundary.length k53) (rv40.1.Boundary : List GSet), sl (.slice a69 rv59.1.length k70) (rv59.1 : List Int), SP.fact (i64ok rv73.1 ∧ (0 ≤ rv73.2 ∧ rv73.2 ≤ (t.length : Int)) ∧ (0 ≤ rv73.1 ∧ (rv73.1 < ((rv40.1.Deps.length : Nat) : Int) ∨ rv73.1 = 0))), SP.fact ((0 ≤ rv76.2 ∧ rv76.2 ≤ (t.length : Int))), sl (((G 6).getD 0 undef)) (rv76.1 : List Int)]) (V' := fun g => .bool rv81) (B' := fun g => [sl (.slice a46 rv40.1.Deps.length k47) (rv40.1.Deps : List (List Int)), sl (.slice a49 rv40.1.Transfers.length k50) (rv40.1.Transfers : List GTransfer), sl (.slice a52 rv40.1.Boundary.length k53) (rv40.1.Boundary : List GSet), sl (.slice a69 rv59.1.length k70) (rv59.1 : List Int), SP.fact (i64ok rv73.1 ∧ (0 ≤ rv73.2 ∧ rv73.2 ≤ (t.length : Int)) ∧ (0 ≤ rv73.1 ∧ (rv73.1 < ((rv40.1.Deps.length : Nat) : Int) ∨ rv73.1 = 0))), SP.fact ((0 ≤ rv76.2 ∧ rv76.2 ≤ (t.length : Int))), sl (((G 6).getD 0 undef)) (rv76.1 : List Int), SP.fact (True)]) (by kernel_rfl) (by kernel_rfl) (by kernel_rfl) ?_; refine OpX.fact 4 rfl (fun h => h) ?_; rintro ⟨he139, he140, he141⟩; have he139 : -9223372036854775808 ≤ rv73.1 ∧ rv73.1 ≤ 9223372036854775807 := he139; refine OpX.fact 5 rfl (fun h => h) ?_; rintro he142; refine OpX.seeL (L' := [(38, .agg #[.int .i64 rv40.1.Width, .slice a46 rv40.1.Deps.length k47, .slice a49 rv40.1.Transfers.length k50, .slice a52 rv40.1.Boundary.length k53]), (41, .int .i64 rv73.1), (44, ((G 6).getD 0 undef)), (45, .slice a69 rv59.1.length k70)]) (Env.sub_all (by kernel_rfl)) ?_; refine OpX.postR (OpX.frame [6, 0, 1, 2, 3] rfl (OpX.ofC (fun _ => []) (fun _ => ()) (fun _ => rfl) (by intro _ _ h; cases h) (OpC.fn rfl ca9 rfl) (FT_open (γ := Unit) (I := fun g => True) (V := fun g => .bool rv81) (B := fun g => []) (R := sl (((G 6).getD 0 undef)) (rv76.1 : List Int)) sl_slice (fun aq129 kq130 eq131 => by rw [eq131]; exact FT_ent (Ent.take (is := [1, 2, 3, 0, 4]) rfl) (fn9 rv40.1 a46 k47 a49 k50 a52 k53 rv73.1 rv76.1 aq129 kq130 rv59.1 a69 k70 (by (try dsimp only) <;> first | (unfold i64ok; omega) | omega | assumption) (by (try dsimp only) <;> first | (unfold i64ok; omega) | omega | assumption) rv81 hg82))))) (fun g => ?_); exact Ent.take (is := [1, 2, 3, 4, 5, 6, 7, 0]) rfl) ?_
        refine JD_b h83 [] (wn rfl) rfl rfl (OpV.not rfl rfl) ?_
        refine JD_v [] (wn rfl) rfl rfl (OpV.move rfl rfl) ?_
        refine JD_v [0] (wt rfl rfl rfl rfl) rfl rfl (OpV.loadA rfl rfl sh27 (i := 0) rfl (reads_Cl _ _) rfl) ?_
        refine JD_v [] (wt rfl rfl rfl rfl) rfl rfl (OpV.move rfl rfl) ?_
        refine JD_v [] (wt rfl rfl rfl rfl) rfl rfl (OpV.move rfl rfl) ?_
        refine JD_x [14, 16] [] (fun lG => .int .i64 (((rv40.1.Deps.length : Nat) : Int) + 2)) [] (wt rfl rfl rfl rfl) rfl rfl rfl (fun G => by refine OpX.n3 (A' := [SP.fact (i64ok rv73.1 ∧ (0 ≤ rv73.2 ∧ rv73.2 ≤ (t.length : Int)) ∧ (0 ≤ rv73.1 ∧ (rv73.1 < ((rv40.1.Deps.length : Nat) : Int) ∨ rv73.1 = 0))), SP.fact ((0 ≤ rv76.2 ∧ rv76.2 ≤ (t.length : Int)))]) (V' := fun g => .int .i64 (((rv40.1.Deps.length : Nat) : Int) + 2)) (B' := fun g => [SP.fact (i64ok rv73.1 ∧ (0 ≤ rv73.2 ∧ rv73.2 ≤ (t.length : Int)) ∧ (0 ≤ rv73.1 ∧ (rv73.1 < ((rv40.1.Deps.length : Nat) : Int) ∨ rv73.1 = 0))), SP.fact ((0 ≤ rv76.2 ∧ rv76.2 ≤ (t.length : Int)))]) (by kernel_rfl) (by kernel_rfl) (by kernel_rfl) ?_; refine OpX.fact 0 rfl (fun h => h) ?_; rintro ⟨he143, he144, he145⟩; have he143 : -9223372036854775808 ≤ rv73.1 ∧ rv73.1 ≤ 9223372036854775807 := he143; refine OpX.fact 1 rfl (fun h => h) ?_; rintro he146; refine OpX.postR (OpX.ofV (by intro _ _ h; cases h) (OpV.add rfl rfl rfl (by unfold i64ok; omega))) (fun g => ?_); exact Ent.take (is := [0, 1]) rfl) ?_
        refine JD_x [5, 14, 16, 18] [] (fun lG => .int .i64 rv114.1) [⟨some 15, none, [], fun lG => SP.fact (i64ok rv114.1 ∧ (0 ≤ rv114.2 ∧ rv114.2 ≤ (t.length : Int)) ∧ (0 ≤ rv114.1 ∧ (rv114.1 < (((rv40.1.Deps.length : Nat) : Int) + 2) ∨ rv114.1 = 0)))⟩, ⟨some 15, some 19, [], fun lG => Cl c11 [.slice ta0 t.length tk0, .int .i64 rv114.2]⟩] (wt rfl rfl rfl rfl) rfl rfl rfl (fun G => by refine OpX.n3 (A' := [sl (.slice ta0 t.length tk0) (t : List Int), SP.fact (i64ok rv73.1 ∧ (0 ≤ rv73.2 ∧ rv73.2 ≤ (t.length : Int)) ∧ (0 ≤ rv73.1 ∧ (rv73.1 < ((rv40.1.Deps.length : Nat) : Int) ∨ rv73.1 = 0))), SP.fact ((0 ≤ rv76.2 ∧ rv76.2 ≤ (t.length : Int))), Cl c11 [.slice ta0 t.length tk0, .int .i64 rv76.2]]) (V' := fun g => .int .i64 rv114.1) (B' := fun g => [sl (.slice ta0 t.length tk0) (t : List Int), SP.fact (i64ok rv73.1 ∧ (0 ≤ rv73.2 ∧ rv73.2 ≤ (t.length : Int)) ∧ (0 ≤ rv73.1 ∧ (rv73.1 < ((rv40.1.Deps.length : Nat) : Int) ∨ rv73.1 = 0))), SP.fact ((0 ≤ rv76.2 ∧ rv76.2 ≤ (t.length : Int))), SP.fact (i64ok rv114.1 ∧ (0 ≤ rv114.2 ∧ rv114.2 ≤ (t.length : Int)) ∧ (0 ≤ rv114.1 ∧ (rv114.1 < (((rv40.1.Deps.length : Nat) : Int) + 2) ∨ rv114.1 = 0))), Cl c11 [.slice ta0 t.length tk0, .int .i64 rv114.2]]) (by kernel_rfl) (by kernel_rfl) (by kernel_rfl) ?_; refine OpX.fact 1 rfl (fun h => h) ?_; rintro ⟨he147, he148, he149⟩; have he147 : -9223372036854775808 ≤ rv73.1 ∧ rv73.1 ≤ 9223372036854775807 := he147; refine OpX.fact 2 rfl (fun h => h) ?_; rintro he150; refine OpX.postR (OpX.frame [3, 0] rfl (OpX.ofC (fun _ => []) (fun _ => ()) (fun _ => rfl) (by intro _ _ h; cases h) (OpC.fn rfl ca8 rfl) (fn8 c11 ta0 tk0 t rv76.2 ((((rv40.1.Deps.length : Nat) : Int) + 2)) (by (try dsimp only) <;> first | (unfold i64ok; omega) | omega | assumption) (by (try dsimp only) <;> first | (unfold i64ok; omega) | omega | assumption) rv114 hg115))) (fun g => ?_); exact Ent.take (is := [2, 3, 4, 0, 1]) rfl) ?_
        refine JD_x [14, 16, 20] [] (fun lG => .int .i64 (rv114.1 - 1)) [] (wt rfl rfl rfl rfl) rfl rfl rfl (fun G => by refine OpX.n3 (A' := [SP.fact (i64ok rv73.1 ∧ (0 ≤ rv73.2 ∧ rv73.2 ≤ (t.length : Int)) ∧ (0 ≤ rv73.1 ∧ (rv73.1 < ((rv40.1.Deps.length : Nat) : Int) ∨ rv73.1 = 0))), SP.fact ((0 ≤ rv76.2 ∧ rv76.2 ≤ (t.length : Int))), SP.fact (i64ok rv114.1 ∧ (0 ≤ rv114.2 ∧ rv114.2 ≤ (t.length : Int)) ∧ (0 ≤ rv114.1 ∧ (rv114.1 < (((rv40.1.Deps.length : Nat) : Int) + 2) ∨ rv114.1 = 0)))]) (V' := fun g => .int .i64 (rv114.1 - 1)) (B' := fun g => [SP.fact (i64ok rv73.1 ∧ (0 ≤ rv73.2 ∧ rv73.2 ≤ (t.length : Int)) ∧ (0 ≤ rv73.1 ∧ (rv73.1 < ((rv40.1.Deps.length : Nat) : Int) ∨ rv73.1 = 0))), SP.fact ((0 ≤ rv76.2 ∧ rv76.2 ≤ (t.length : Int))), SP.fact (i64ok rv114.1 ∧ (0 ≤ rv114.2 ∧ rv114.2 ≤ (t.length : Int)) ∧ (0 ≤ rv114.1 ∧ (rv114.1 < (((rv40.1.Deps.length : Nat) : Int) + 2) ∨ rv114.1 = 0)))]) (by kernel_rfl) (by kernel_rfl) (by kernel_rfl) ?_; refine OpX.fact 0 rfl (fun h => h) ?_; rintro ⟨he151, he152, he153⟩; have he151 : -9223372036854775808 ≤ rv73.1 ∧ rv73.1 ≤ 9223372036854775807 := he151; refine OpX.fact 1 rfl (fun h => h) ?_; rintro he154; refine OpX.fact 2 rfl (fun h => h) ?_; rintro ⟨he155, he156, he157⟩; have he155 : -9223372036854775808 ≤ rv114.1 ∧ rv114.1 ≤ 9223372036854775807 := he155; refine OpX.postR (OpX.ofV (by intro _ _ h; cases h) (OpV.sub rfl rfl rfl (by unfold i64ok; omega))) (fun g => ?_); exact Ent.take (is := [0, 1, 2]) rfl) ?_
        refine JD_v [] (wt rfl rfl rfl rfl) rfl rfl (OpV.move rfl rfl) ?_
        refine JD_v [] (wt rfl rfl rfl rfl) rfl rfl (OpV.move rfl rfl) ?_
        refine JD_x [5, 14, 16, 20, 21] [19] (fun lG => ((lG.getD 0 []).getD 0 undef)) [⟨some 19, none, [], fun lG => SP.fact ((0 ≤ rv117.2 ∧ rv117.2 ≤ (t.length : Int)))⟩, ⟨some 19, none, [19], fun lG => sl (((lG.getD 0 []).getD 0 undef)) (rv117.1 : List Int)⟩, ⟨some 19, none, [], fun lG => Cl c11 [.slice ta0 t.length tk0, .int .i64 rv117.2]⟩] (wt rfl rfl rfl rfl) rfl rfl rfl (fun G => by refine OpX.n3 (A' := [sl (.slice ta0 t.length tk0) (t : List Int), SP.fact (i64ok rv73.1 ∧ (0 ≤ rv73.2 ∧ rv73.2 ≤ (t.length : Int)) ∧ (0 ≤ rv73.1 ∧ (rv73.1 < ((rv40.1.Deps.length : Nat) : Int) ∨ rv73.1 = 0))), SP.fact ((0 ≤ rv76.2 ∧ rv76.2 ≤ (t.length : Int))), SP.fact (i64ok rv114.1 ∧ (0 ≤ rv114.2 ∧ rv114.2 ≤ (t.length : Int)) ∧ (0 ≤ rv114.1 ∧ (rv114.1 < (((rv40.1.Deps.length : Nat) : Int) + 2) ∨ rv114.1 = 0))), Cl c11 [.slice ta0 t.length tk0, .int .i64 rv114.2]]) (V' := fun g => (g.getD 0 undef)) (B' := fun g => [sl (.slice ta0 t.length tk0) (t : List Int), SP.fact (i64ok rv73.1 ∧ (0 ≤ rv73.2 ∧ rv73.2 ≤ (t.length : Int)) ∧ (0 ≤ rv73.1 ∧ (rv73.1 < ((rv40.1.Deps.length : Nat) : Int) ∨ rv73.1 = 0))), SP.fact ((0 ≤ rv76.2 ∧ rv76.2 ≤ (t.length : Int))), SP.fact (i64ok rv114.1 ∧ (0 ≤ rv114.2 ∧ rv114.2 ≤ (t.length : Int)) ∧ (0 ≤ rv114.1 ∧ (rv114.1 < (((rv40.1.Deps.length : Nat) : Int) + 2) ∨ rv114.1 = 0))), SP.fact ((0 ≤ rv117.2 ∧ rv117.2 ≤ (t.length : Int))), sl ((g.getD 0 undef)) (rv117.1 : List Int), Cl c11 [.slice ta0 t.length tk0, .int .i64 rv117.2]]) (by kernel_rfl) (by kernel_rfl) (by kernel_rfl) ?_; refine OpX.fact 1 rfl (fun h => h) ?_; rintro ⟨he158, he159, he160⟩; have he158 : -9223372036854775808 ≤ rv73.1 ∧ rv73.1 ≤ 9223372036854775807 := he158; refine OpX.fact 2 rfl (fun h => h) ?_; rintro he161; refine OpX.fact 3 rfl (fun h => h) ?_; rintro ⟨he162, he163, he164⟩; have he162 : -9223372036854775808 ≤ rv114.1 ∧ rv114.1 ≤ 9223372036854775807 := he162; refine OpX.postR (OpX.frame [4, 0] rfl (OpX.ofC (fun g => [g]) (fun l => l.getD 0 undef) (fun _ => rfl) (by intro _ _ h; cases h) (OpC.fn rfl ca10 rfl) (fn10 c11 ta0 tk0 t rv114.2 (((rv40.1.Deps.length : Nat) : Int)) (by (try dsimp only) <;> first | (unfold i64ok; omega) | omega | assumption) (by (try dsimp only) <;> first | (unfold i64ok; omega) | omega | assumption) rv117 hg118))) (fun g => ?_); exact Ent.take (is := [3, 4, 5, 6, 0, 1, 2]) rfl) ?_
        refine JD_x [1, 2, 3, 12, 14, 16, 20, 22, 23] [] (fun lG => .bool rv122) [⟨some 20, none, [], fun lG => SP.fact (True)⟩] (wt rfl rfl rfl rfl) rfl rfl rfl (fun G => by refine OpX.n3 (A' := [sl (.slice a46 rv40.1.Deps.length k47) (rv40.1.Deps : List (List Int)), sl (.slice a49 rv40.1.Transfers.length k50) (rv40.1.Transfers : List GTransfer), sl (.slice a52 rv40.1.Boundary.length k53) (rv40.1.Boundary : List GSet), sl (.slice none 0 0) ([] : List Int), SP.fact (i64ok rv73.1 ∧ (0 ≤ rv73.2 ∧ rv73.2 ≤ (t.length : Int)) ∧ (0 ≤ rv73.1 ∧ (rv73.1 < ((rv40.1.Deps.length : Nat) : Int) ∨ rv73.1 = 0))), SP.fact ((0 ≤ rv76.2 ∧ rv76.2 ≤ (t.length : Int))), SP.fact (i64ok rv114.1 ∧ (0 ≤ rv114.2 ∧ rv114.2 ≤ (t.length : Int)) ∧ (0 ≤ rv114.1 ∧ (rv114.1 < (((rv40.1.Deps.length : Nat) : Int) + 2) ∨ rv114.1 = 0))), SP.fact ((0 ≤ rv117.2 ∧ rv117.2 ≤ (t.length : Int))), sl (((G 19).getD 0 undef)) (rv117.1 : List Int)]) (V' := fun g => .bool rv122) (B' := fun g => [sl (.slice a46 rv40.1.Deps.length k47) (rv40.1.Deps : List (List Int)), sl (.slice a49 rv40.1.Transfers.length k50) (rv40.1.Transfers : List GTransfer), sl (.slice a52 rv40.1.Boundary.length k53) (rv40.1.Boundary : List GSet), sl (.slice none 0 0) ([] : List Int), SP.fact (i64ok rv73.1 ∧ (0 ≤ rv73.2 ∧ rv73.2 ≤ (t.length : Int)) ∧ (0 ≤ rv73.1 ∧ (rv73.1 < ((rv40.1.Deps.length : Nat) : Int) ∨ rv73.1 = 0))), SP.fact ((0 ≤ rv76.2 ∧ rv76.2 ≤ (t.length : Int))), SP.fact (i64ok rv114.1 ∧ (0 ≤ rv114.2 ∧ rv114.2 ≤ (t.length : Int)) ∧ (0 ≤ rv114.1 ∧ (rv114.1 < (((rv40.1.Deps.length : Nat) : Int) + 2) ∨ rv114.1 = 0))), SP.fact ((0 ≤ rv117.2 ∧ rv117.2 ≤ (t.length : Int))), sl (((G 19).getD 0 undef)) (rv117.1 : List Int), SP.fact (True)]) (by kernel_rfl) (by kernel_rfl) (by kernel_rfl) ?_; refine OpX.fact 4 rfl (fun h => h) ?_; rintro ⟨he165, he166, he167⟩; have he165 : -9223372036854775808 ≤ rv73.1 ∧ rv73.1 ≤ 9223372036854775807 := he165; refine OpX.fact 5 rfl (fun h => h) ?_; rintro he168; refine OpX.fact 6 rfl (fun h => h) ?_; rintro ⟨he169, he170, he171⟩; have he169 : -9223372036854775808 ≤ rv114.1 ∧ rv114.1 ≤ 9223372036854775807 := he169; refine OpX.fact 7 rfl (fun h => h) ?_; rintro he172; refine OpX.seeL (L' := [(49, .agg #[.int .i64 rv40.1.Width, .slice a46 rv40.1.Deps.length k47, .slice a49 rv40.1.Transfers.length k50, .slice a52 rv40.1.Boundary.length k53]), (54, .int .i64 (rv114.1 - 1)), (57, ((G 19).getD 0 undef))]) (Env.sub_all (by kernel_rfl)) ?_; refine OpX.postR (OpX.frame [8, 0, 1, 2, 3] rfl (OpX.ofC (fun _ => []) (fun _ => ()) (fun _ => rfl) (by intro _ _ h; cases h) (OpC.fn rfl ca9 rfl) (FT_open (γ := Unit) (I := fun g => True) (V := fun g => .bool rv122) (B := fun g => []) (R := sl (((G 19).getD 0 undef)) (rv117.1 : List Int)) sl_slice (fun aq133 kq134 eq135 => by rw [eq135]; exact FT_ent (Ent.take (is := [1, 2, 3, 4, 0]) rfl) (fn9 rv40.1 a46 k47 a49 k50 a52 k53 ((rv114.1 - 1)) ([]) none 0 rv117.1 aq133 kq134 (by (try dsimp only) <;> first | (unfold i64ok; omega) | omega | assumption) (by (try dsimp only) <;> first | (unfold i64ok; omega) | omega | assumption) rv122 hg123))))) (fun g => ?_); exact Ent.take (is := [1, 2, 3, 4, 5, 6, 7, 8, 9, 0]) rfl) ?_
        refine JD_b h124 [] (wt rfl rfl rfl rfl) rfl rfl (OpV.not rfl rfl) ?_
        refine JD_v [] (wn rfl) rfl rfl (OpV.pickF rfl rfl rfl) ?_
        refine JD_v [] (wn rfl) rfl rfl (OpV.move rfl rfl) ?_
        refine JD_skip (ws rfl rfl rfl _ rfl rfl) rfl ?_
        refine JD_skip (ws rfl rfl rfl _ rfl rfl) rfl ?_
        refine JD_skip (ws rfl rfl rfl _ rfl rfl) rfl ?_
        refine JD_skip (ws rfl rfl rfl _ rfl rfl) rfl ?_
        refine JD_skip (ws rfl rfl rfl _ rfl rfl) rfl ?_
        refine JD_skip (ws rfl rfl rfl _ rfl rfl) rfl ?_
        refine JD_v [] (wn rfl) rfl rfl (OpV.pickT rfl rfl rfl) ?_
        refine JD_nil ⟨by kernel_rfl, fun G => ?_⟩
        refine JJ_weaken (L' := [(2, .int .i64 root), (3, .slice leavesa0 leaves.length leavesk0), (4, .slice set_a0 set_.length set_k0), (6, p10), (11, c11), (12, .int .i64 i_17), (68, .bool true)]) (A' := [Cl p55 [.int .i64 rv40.1.Width, .slice a46 rv40.1.Deps.length k47, .slice a49 rv40.1.Transfers.length k50, .slice a52 rv40.1.Boundary.length k53], sl (.slice a46 rv40.1.Deps.length k47) (rv40.1.Deps : List (List Int)), sl (.slice a49 rv40.1.Transfers.length k50) (rv40.1.Transfers : List GTransfer), sl (.slice a52 rv40.1.Boundary.length k53) (rv40.1.Boundary : List GSet), pv p10 [.int .i64 s.Width, .slice sa1 s.Deps.length sk1, .slice sa2 s.Transfers.length sk2, .slice sa3 s.Boundary.length sk3], sl (.slice ta0 t.length tk0) (t : List Int), sl (.slice sa1 s.Deps.length sk1) (s.Deps : List (List Int)), sl (.slice sa2 s.Transfers.length sk2) (s.Transfers : List GTransfer), sl (.slice sa3 s.Boundary.length sk3) (s.Boundary : List GSet), sl (.slice leavesa0 leaves.length leavesk0) (leaves : List Int), sl (.slice set_a0 set_.length set_k0) (set_ : List Int), sl (.slice none 0 0) ([] : List Int), sl (.slice a69 rv59.1.length k70) (rv59.1 : List Int), SP.fact (i64ok rv73.1 ∧ (0 ≤ rv73.2 ∧ rv73.2 ≤ (t.length : Int)) ∧ (0 ≤ rv73.1 ∧ (rv73.1 < ((rv40.1.Deps.length : Nat) : Int) ∨ rv73.1 = 0))), SP.fact ((0 ≤ rv76.2 ∧ rv76.2 ≤ (t.length : Int))), sl (((G 6).getD 0 undef)) (rv76.1 : List Int), SP.fact (True), SP.fact (i64ok rv114.1 ∧ (0 ≤ rv114.2 ∧ rv114.2 ≤ (t.length : Int)) ∧ (0 ≤ rv114.1 ∧ (rv114.1 < (((rv40.1.Deps.length : Nat) : Int) + 2) ∨ rv114.1 = 0))), SP.fact ((0 ≤ rv117.2 ∧ rv117.2 ≤ (t.length : Int))), sl (((G 19).getD 0 undef)) (rv117.1 : List Int), Cl c11 [.slice ta0 t.length tk0, .int .i64 rv117.2], SP.fact (True)]) (Env.sub_all (by kernel_rfl)) (Ent.of_eq (by kernel_rfl)) ?_
        generalize ((G 6).getD 0 undef) = c128
        generalize ((G 19).getD 0 undef) = c132
        refine JJ_fact 13 rfl (fun h => h) ?_
        rintro ⟨he173, he174, he175⟩
        have he173 : -9223372036854775808 ≤ rv73.1 ∧ rv73.1 ≤ 9223372036854775807 := he173
        refine JJ_fact 14 rfl (fun h => h) ?_
        rintro he176
        refine JJ_fact 17 rfl (fun h => h) ?_
        rintro ⟨he177, he178, he179⟩
        have he177 : -9223372036854775808 ≤ rv114.1 ∧ rv114.1 ≤ 9223372036854775807 := he177
        refine JJ_fact 18 rfl (fun h => h) ?_
        rintro he180
        refine JJ_keep [0, 0, 1, 2, 3, 4, 5, 6, 7, 8, 9, 10, 11, 14, 18, 19] rfl ?_
        refine JJ_slice 13 rfl sl_slice ?_
        rintro a181 k182 rfl
        refine JJ_fact 13 rfl sl_bytes ?_
        intro hl183
        have hl183 : rv76.1.length * 8 ≤ 140737488355328 := hl183
        refine JJ_fact 13 rfl sl_ok ?_
        intro ho184
        refine JJ_slice 14 rfl sl_slice ?_
        rintro a185 k186 rfl
        refine JJ_fact 14 rfl sl_bytes ?_
        intro hl187
        have hl187 : rv117.1.length * 8 ≤ 140737488355328 := hl187
        refine JJ_fact 14 rfl sl_ok ?_
        intro ho188
        refine JK_condT rfl ?_
        refine JK_seq ?_
        refine JK_region ?_
        refine JO_q rfl rfl rfl (OpV.assign rfl rfl) ?_
        refine JO_nil ?_
        have hR189 : flqlaw14_ConeAgrees_L0 t 5 0 0 = LR.ret false := by
          rw [← hM18]; simp only [flqlaw14_ConeAgrees_L0, h34, h83, h108, h124, h126, hg13, hg41, hg57, hg60, hg74, hg77, hg82, hg115, hg118, hg123, cs4]
        have hq : rr = false := hrr.symm.trans (by unfold flqlaw14_ConeAgrees; simp only [h34, h83, h108, h124, h126, hg13, hg41, hg57, hg60, hg74, hg77, hg82, hg115, hg118, hg123, hR189, cs4])
        replace hrr := hrr.trans hq
        subst rr
        refine JK_return (()) rfl (.tmp rfl .nil) rfl trivial (Ent.take (is := []) rfl)
      · skip
        have h191 : rv122 = true := not_false h124
        refine letv (Tape_SpoilSystem t rv117.2 rv40.1) fun rv204 hg205 => ?_
        refine letv (flqlaw14_agrees rv204.1 0 [] rv59.1) fun rv215 hg216 => ?_
        refine JK_drawJ [0, 0, 0, 6, 0, 0, 62, 0, 255, 511, 1023, 2047, 2047, 2047, 10239, 30719, 63487, 2047, 2047, 456703, 1048575, 2097151, 4194303, 8388607, 16777215, 16777215, 67108863, 16777215, 268435455, 536870911, 1073741823] [none, none, none, none, none, none, none, none, none, none, none, some 3] fmix ?_
        refine JD_v [0] (wn rfl) rfl rfl (OpV.loadA rfl rfl sh27 (i := 0) rfl (reads_Cl _ _) rfl) ?_
        refine JD_v [] (wn rfl) rfl rfl (OpV.move rfl rfl) ?_
        refine JD_v [] (wn rfl) rfl rfl (OpV.move rfl rfl) ?_
        refine JD_x [5, 11] [] (fun lG => .int .i64 rv73.1) [⟨some 3, none, [], fun lG => SP.fact (i64ok rv73.1 ∧ (0 ≤ rv73.2 ∧ rv73.2 ≤ (t.length : Int)) ∧ (0 ≤ rv73.1 ∧ (rv73.1 < ((rv40.1.Deps.length : Nat) : Int) ∨ rv73.1 = 0)))⟩, ⟨some 3, some 6, [], fun lG => Cl c11 [.slice ta0 t.length tk0, .int .i64 rv73.2]⟩] (wn rfl) rfl rfl rfl (fun G => by refine OpX.n3 (A' := [sl (.slice ta0 t.length tk0) (t : List Int), Cl c11 [.slice ta0 t.length tk0, .int .i64 rv56.2]]) (V' := fun g => .int .i64 rv73.1) (B' := fun g => [sl (.slice ta0 t.length tk0) (t : List Int), SP.fact (i64ok rv73.1 ∧ (0 ≤ rv73.2 ∧ rv73.2 ≤ (t.length : Int)) ∧ (0 ≤ rv73.1 ∧ (rv73.1 < ((rv40.1.Deps.length : Nat) : Int) ∨ rv73.1 = 0))), Cl c11 [.slice ta0 t.length tk0, .int .i64 rv73.2]]) (by kernel_rfl) (by kernel_rfl) (by kernel_rfl) ?_; refine OpX.postR (OpX.frame [1, 0] rfl (OpX.ofC (fun _ => []) (fun _ => ()) (fun _ => rfl) (by intro _ _ h; cases h) (OpC.fn rfl ca8 rfl) (fn8 c11 ta0 tk0 t rv56.2 (((rv40.1.Deps.length : Nat) : Int)) (by (try dsimp only) <;> first | (unfold i64ok; omega) | omega | assumption) (by (try dsimp only) <;> first | (unfold i64ok; omega) | omega | assumption) rv73 hg74))) (fun g => ?_); exact Ent.take (is := [2, 0, 1]) rfl) ?_
        refine JD_v [] (wn rfl) rfl rfl (OpV.move rfl rfl) ?_
        refine JD_v [] (wn rfl) rfl rfl (OpV.move rfl rfl) ?_
        refine JD_x [5, 14, 15] [6] (fun lG => ((lG.getD 0 []).getD 0 undef)) [⟨some 6, none, [], fun lG => SP.fact ((0 ≤ rv76.2 ∧ rv76.2 ≤ (t.length : Int)))⟩, ⟨some 6, none, [6], fun lG => sl (((lG.getD 0 []).getD 0 undef)) (rv76.1 : List Int)⟩, ⟨some 6, some 15, [], fun lG => Cl c11 [.slice ta0 t.length tk0, .int .i64 rv76.2]⟩] (wn rfl) rfl rfl rfl (fun G => by refine OpX.n3 (A' := [sl (.slice ta0 t.length tk0) (t : List Int), SP.fact (i64ok rv73.1 ∧ (0 ≤ rv73.2 ∧ rv73.2 ≤ (t.length : Int)) ∧ (0 ≤ rv73.1 ∧ (rv73.1 < ((rv40.1.Deps.length : Nat) : Int) ∨ rv73.1 = 0))), Cl c11 [.slice ta0 t.length tk0, .int .i64 rv73.2]]) (V' := fun g => (g.getD 0 undef)) (B' := fun g => [sl (.slice ta0 t.length tk0) (t : List Int), SP.fact (i64ok rv73.1 ∧ (0 ≤ rv73.2 ∧ rv73.2 ≤ (t.length : Int)) ∧ (0 ≤ rv73.1 ∧ (rv73.1 < ((rv40.1.Deps.length : Nat) : Int) ∨ rv73.1 = 0))), SP.fact ((0 ≤ rv76.2 ∧ rv76.2 ≤ (t.length : Int))), sl ((g.getD 0 undef)) (rv76.1 : List Int), Cl c11 [.slice ta0 t.length tk0, .int .i64 rv76.2]]) (by kernel_rfl) (by kernel_rfl) (by kernel_rfl) ?_; refine OpX.fact 1 rfl (fun h => h) ?_; rintro ⟨he217, he218, he219⟩; have he217 : -9223372036854775808 ≤ rv73.1 ∧ rv73.1 ≤ 9223372036854775807 := he217; refine OpX.postR (OpX.frame [2, 0] rfl (OpX.ofC (fun g => [g]) (fun l => l.getD 0 undef) (fun _ => rfl) (by intro _ _ h; cases h) (OpC.fn rfl ca10 rfl) (fn10 c11 ta0 tk0 t rv73.2 (((rv40.1.Deps.length : Nat) : Int)) (by (try dsimp only) <;> first | (unfold i64ok; omega) | omega | assumption) (by (try dsimp only) <;> first | (unfold i64ok; omega) | omega | assumption) rv76 hg77))) (fun g => ?_); exact Ent.take (is := [3, 4, 0, 1, 2]) rfl) ?_
        refine JD_v [] (wn rfl) rfl rfl (OpV.move rfl rfl) ?_
        refine JD_x [1, 2, 3, 13, 14, 16, 17] [] (fun lG => .bool rv81) [⟨some 8, none, [], fun lG => SP.fact (True)⟩] (wn rfl) rfl rfl rfl (fun G => by refine OpX.n3 (A' := [sl (.slice a46 rv40.1.Deps.length k47) (rv40.1.Deps : List (List Int)), sl (.slice a49 rv40.1.Transfers.length k50) (rv40.1.Transfers : List GTransfer), sl (.slice a52 rv40.1.Boundary.length k53) (rv40.1.Boundary : List GSet), sl (.slice a69 rv59.1.length k70) (rv59.1 : List Int), SP.fact (i64ok rv73.1 ∧ (0 ≤ rv73.2 ∧ rv73.2 ≤ (t.length : Int)) ∧ (0 ≤ rv73.1 ∧ (rv73.1 < ((rv40.1.Deps.length : Nat) : Int) ∨ rv73.1 = 0))), SP.fact ((0 ≤ rv76.2 ∧ rv76.2 ≤ (t.length : Int))), sl (((G 6).getD 0 undef)) (rv76.1 : List Int)]) (V' := fun g => .bool rv81) (B' := fun g => [sl (.slice a46 rv40.1.Deps.length k47) (rv40.1.Deps : List (List Int)), sl (.slice a49 rv40.1.Transfers.length k50) (rv40.1.Transfers : List GTransfer), sl (.slice a52 rv40.1.Boundary.length k53) (rv40.1.Boundary : List GSet), sl (.slice a69 rv59.1.length k70) (rv59.1 : List Int), SP.fact (i64ok rv73.1 ∧ (0 ≤ rv73.2 ∧ rv73.2 ≤ (t.length : Int)) ∧ (0 ≤ rv73.1 ∧ (rv73.1 < ((rv40.1.Deps.length : Nat) : Int) ∨ rv73.1 = 0))), SP.fact ((0 ≤ rv76.2 ∧ rv76.2 ≤ (t.length : Int))), sl (((G 6).getD 0 undef)) (rv76.1 : List Int), SP.fact (True)]) (by kernel_rfl) (by kernel_rfl) (by kernel_rfl) ?_; refine OpX.fact 4 rfl (fun h => h) ?_; rintro ⟨he220, he221, he222⟩; have he220 : -9223372036854775808 ≤ rv73.1 ∧ rv73.1 ≤ 9223372036854775807 := he220; refine OpX.fact 5 rfl (fun h => h) ?_; rintro he223; refine OpX.seeL (L' := [(38, .agg #[.int .i64 rv40.1.Width, .slice a46 rv40.1.Deps.length k47, .slice a49 rv40.1.Transfers.length k50, .slice a52 rv40.1.Boundary.length k53]), (41, .int .i64 rv73.1), (44, ((G 6).getD 0 undef)), (45, .slice a69 rv59.1.length k70)]) (Env.sub_all (by kernel_rfl)) ?_; refine OpX.postR (OpX.frame [6, 0, 1, 2, 3] rfl (OpX.ofC (fun _ => []) (fun _ => ()) (fun _ => rfl) (by intro _ _ h; cases h) (OpC.fn rfl ca9 rfl) (FT_open (γ := Unit) (I := fun g => True) (V := fun g => .bool rv81) (B := fun g => []) (R := sl (((G 6).getD 0 undef)) (rv76.1 : List Int)) sl_slice (fun aq194 kq195 eq196 => by rw [eq196]; exact FT_ent (Ent.take (is := [1, 2, 3, 0, 4]) rfl) (fn9 rv40.1 a46 k47 a49 k50 a52 k53 rv73.1 rv76.1 aq194 kq195 rv59.1 a69 k70 (by (try dsimp only) <;> first | (unfold i64ok; omega) | omega | assumption) (by (try dsimp only) <;> first | (unfold i64ok; omega) | omega | assumption) rv81 hg82))))) (fun g => ?_); exact Ent.take (is := [1, 2, 3, 4, 5, 6, 7, 0]) rfl) ?_
        refine JD_b h83 [] (wn rfl) rfl rfl (OpV.not rfl rfl) ?_
        refine JD_v [] (wn rfl) rfl rfl (OpV.move rfl rfl) ?_
        refine JD_v [0] (wt rfl rfl rfl rfl) rfl rfl (OpV.loadA rfl rfl sh27 (i := 0) rfl (reads_Cl _ _) rfl) ?_
        refine JD_v [] (wt rfl rfl rfl rfl) rfl rfl (OpV.move rfl rfl) ?_
        refine JD_v [] (wt rfl rfl rfl rfl) rfl rfl (OpV.move rfl rfl) ?_
        refine JD_x [14, 16] [] (fun lG => .int .i64 (((rv40.1.Deps.length : Nat) : Int) + 2)) [] (wt rfl rfl rfl rfl) rfl rfl rfl (fun G => by refine OpX.n3 (A' := [SP.fact (i64ok rv73.1 ∧ (0 ≤ rv73.2 ∧ rv73.2 ≤ (t.length : Int)) ∧ (0 ≤ rv73.1 ∧ (rv73.1 < ((rv40.1.Deps.length : Nat) : Int) ∨ rv73.1 = 0))), SP.fact ((0 ≤ rv76.2 ∧ rv76.2 ≤ (t.length : Int)))]) (V' := fun g => .int .i64 (((rv40.1.Deps.length : Nat) : Int) + 2)) (B' := fun g => [SP.fact (i64ok rv73.1 ∧ (0 ≤ rv73.2 ∧ rv73.2 ≤ (t.length : Int)) ∧ (0 ≤ rv73.1 ∧ (rv73.1 < ((rv40.1.Deps.length : Nat) : Int) ∨ rv73.1 = 0))), SP.fact ((0 ≤ rv76.2 ∧ rv76.2 ≤ (t.length : Int)))]) (by kernel_rfl) (by kernel_rfl) (by kernel_rfl) ?_; refine OpX.fact 0 rfl (fun h => h) ?_; rintro ⟨he224, he225, he226⟩; have he224 : -9223372036854775808 ≤ rv73.1 ∧ rv73.1 ≤ 9223372036854775807 := he224; refine OpX.fact 1 rfl (fun h => h) ?_; rintro he227; refine OpX.postR (OpX.ofV (by intro _ _ h; cases h) (OpV.add rfl rfl rfl (by unfold i64ok; omega))) (fun g => ?_); exact Ent.take (is := [0, 1]) rfl) ?_
        refine JD_x [5, 14, 16, 18] [] (fun lG => .int .i64 rv114.1) [⟨some 15, none, [], fun lG => SP.fact (i64ok rv114.1 ∧ (0 ≤ rv114.2 ∧ rv114.2 ≤ (t.length : Int)) ∧ (0 ≤ rv114.1 ∧ (rv114.1 < (((rv40.1.Deps.length : Nat) : Int) + 2) ∨ rv114.1 = 0)))⟩, ⟨some 15, some 19, [], fun lG => Cl c11 [.slice ta0 t.length tk0, .int .i64 rv114.2]⟩] (wt rfl rfl rfl rfl) rfl rfl rfl (fun G => by refine OpX.n3 (A' := [sl (.slice ta0 t.length tk0) (t : List Int), SP.fact (i64ok rv73.1 ∧ (0 ≤ rv73.2 ∧ rv73.2 ≤ (t.length : Int)) ∧ (0 ≤ rv73.1 ∧ (rv73.1 < ((rv40.1.Deps.length : Nat) : Int) ∨ rv73.1 = 0))), SP.fact ((0 ≤ rv76.2 ∧ rv76.2 ≤ (t.length : Int))), Cl c11 [.slice ta0 t.length tk0, .int .i64 rv76.2]]) (V' := fun g => .int .i64 rv114.1) (B' := fun g => [sl (.slice ta0 t.length tk0) (t : List Int), SP.fact (i64ok rv73.1 ∧ (0 ≤ rv73.2 ∧ rv73.2 ≤ (t.length : Int)) ∧ (0 ≤ rv73.1 ∧ (rv73.1 < ((rv40.1.Deps.length : Nat) : Int) ∨ rv73.1 = 0))), SP.fact ((0 ≤ rv76.2 ∧ rv76.2 ≤ (t.length : Int))), SP.fact (i64ok rv114.1 ∧ (0 ≤ rv114.2 ∧ rv114.2 ≤ (t.length : Int)) ∧ (0 ≤ rv114.1 ∧ (rv114.1 < (((rv40.1.Deps.length : Nat) : Int) + 2) ∨ rv114.1 = 0))), Cl c11 [.slice ta0 t.length tk0, .int .i64 rv114.2]]) (by kernel_rfl) (by kernel_rfl) (by kernel_rfl) ?_; refine OpX.fact 1 rfl (fun h => h) ?_; rintro ⟨he228, he229, he230⟩; have he228 : -9223372036854775808 ≤ rv73.1 ∧ rv73.1 ≤ 9223372036854775807 := he228; refine OpX.fact 2 rfl (fun h => h) ?_; rintro he231; refine OpX.postR (OpX.frame [3, 0] rfl (OpX.ofC (fun _ => []) (fun _ => ()) (fun _ => rfl) (by intro _ _ h; cases h) (OpC.fn rfl ca8 rfl) (fn8 c11 ta0 tk0 t rv76.2 ((((rv40.1.Deps.length : Nat) : Int) + 2)) (by (try dsimp only) <;> first | (unfold i64ok; omega) | omega | assumption) (by (try dsimp only) <;> first | (unfold i64ok; omega) | omega | assumption) rv114 hg115))) (fun g => ?_); exact Ent.take (is := [2, 3, 4, 0, 1]) rfl) ?_
        refine JD_x [14, 16, 20] [] (fun lG => .int .i64 (rv114.1 - 1)) [] (wt rfl rfl rfl rfl) rfl rfl rfl (fun G => by refine OpX.n3 (A' := [SP.fact (i64ok rv73.1 ∧ (0 ≤ rv73.2 ∧ rv73.2 ≤ (t.length : Int)) ∧ (0 ≤ rv73.1 ∧ (rv73.1 < ((rv40.1.Deps.length : Nat) : Int) ∨ rv73.1 = 0))), SP.fact ((0 ≤ rv76.2 ∧ rv76.2 ≤ (t.length : Int))), SP.fact (i64ok rv114.1 ∧ (0 ≤ rv114.2 ∧ rv114.2 ≤ (t.length : Int)) ∧ (0 ≤ rv114.1 ∧ (rv114.1 < (((rv40.1.Deps.length : Nat) : Int) + 2) ∨ rv114.1 = 0)))]) (V' := fun g => .int .i64 (rv114.1 - 1)) (B' := fun g => [SP.fact (i64ok rv73.1 ∧ (0 ≤ rv73.2 ∧ rv73.2 ≤ (t.length : Int)) ∧ (0 ≤ rv73.1 ∧ (rv73.1 < ((rv40.1.Deps.length : Nat) : Int) ∨ rv73.1 = 0))), SP.fact ((0 ≤ rv76.2 ∧ rv76.2 ≤ (t.length : Int))), SP.fact (i64ok rv114.1 ∧ (0 ≤ rv114.2 ∧ rv114.2 ≤ (t.length : Int)) ∧ (0 ≤ rv114.1 ∧ (rv114.1 < (((rv40.1.Deps.length : Nat) : Int) + 2) ∨ rv114.1 = 0)))]) (by kernel_rfl) (by kernel_rfl) (by kernel_rfl) ?_; refine OpX.fact 0 rfl (fun h => h) ?_; rintro ⟨he232, he233, he234⟩; have he232 : -9223372036854775808 ≤ rv73.1 ∧ rv73.1 ≤ 9223372036854775807 := he232; refine OpX.fact 1 rfl (fun h => h) ?_; rintro he235; refine OpX.fact 2 rfl (fun h => h) ?_; rintro ⟨he236, he237, he238⟩; have he236 : -9223372036854775808 ≤ rv114.1 ∧ rv114.1 ≤ 9223372036854775807 := he236; refine OpX.postR (OpX.ofV (by intro _ _ h; cases h) (OpV.sub rfl rfl rfl (by unfold i64ok; omega))) (fun g => ?_); exact Ent.take (is := [0, 1, 2]) rfl) ?_
        refine JD_v [] (wt rfl rfl rfl rfl) rfl rfl (OpV.move rfl rfl) ?_
        refine JD_v [] (wt rfl rfl rfl rfl) rfl rfl (OpV.move rfl rfl) ?_
        refine JD_x [5, 14, 16, 20, 21] [19] (fun lG => ((lG.getD 0 []).getD 0 undef)) [⟨some 19, none, [], fun lG => SP.fact ((0 ≤ rv117.2 ∧ rv117.2 ≤ (t.length : Int)))⟩, ⟨some 19, none, [19], fun lG => sl (((lG.getD 0 []).getD 0 undef)) (rv117.1 : List Int)⟩, ⟨some 19, some 26, [], fun lG => Cl c11 [.slice ta0 t.length tk0, .int .i64 rv117.2]⟩] (wt rfl rfl rfl rfl) rfl rfl rfl (fun G => by refine OpX.n3 (A' := [sl (.slice ta0 t.length tk0) (t : List Int), SP.fact (i64ok rv73.1 ∧ (0 ≤ rv73.2 ∧ rv73.2 ≤ (t.length : Int)) ∧ (0 ≤ rv73.1 ∧ (rv73.1 < ((rv40.1.Deps.length : Nat) : Int) ∨ rv73.1 = 0))), SP.fact ((0 ≤ rv76.2 ∧ rv76.2 ≤ (t.length : Int))), SP.fact (i64ok rv114.1 ∧ (0 ≤ rv114.2 ∧ rv114.2 ≤ (t.length : Int)) ∧ (0 ≤ rv114.1 ∧ (rv114.1 < (((rv40.1.Deps.length : Nat) : Int) + 2) ∨ rv114.1 = 0))), Cl c11 [.slice ta0 t.length tk0, .int .i64 rv114.2]]) (V' := fun g => (g.getD 0 undef)) (B' := fun g => [sl (.slice ta0 t.length tk0) (t : List Int), SP.fact (i64ok rv73.1 ∧ (0 ≤ rv73.2 ∧ rv73.2 ≤ (t.length : Int)) ∧ (0 ≤ rv73.1 ∧ (rv73.1 < ((rv40.1.Deps.length : Nat) : Int) ∨ rv73.1 = 0))), SP.fact ((0 ≤ rv76.2 ∧ rv76.2 ≤ (t.length : Int))), SP.fact (i64ok rv114.1 ∧ (0 ≤ rv114.2 ∧ rv114.2 ≤ (t.length : Int)) ∧ (0 ≤ rv114.1 ∧ (rv114.1 < (((rv40.1.Deps.length : Nat) : Int) + 2) ∨ rv114.1 = 0))), SP.fact ((0 ≤ rv117.2 ∧ rv117.2 ≤ (t.length : Int))), sl ((g.getD 0 undef)) (rv117.1 : List Int), Cl c11 [.slice ta0 t.length tk0, .int .i64 rv117.2]]) (by kernel_rfl) (by kernel_rfl) (by kernel_rfl) ?_; refine OpX.fact 1 rfl (fun h => h) ?_; rintro ⟨he239, he240, he241⟩; have he239 : -9223372036854775808 ≤ rv73.1 ∧ rv73.1 ≤ 9223372036854775807 := he239; refine OpX.fact 2 rfl (fun h => h) ?_; rintro he242; refine OpX.fact 3 rfl (fun h => h) ?_; rintro ⟨he243, he244, he245⟩; have he243 : -9223372036854775808 ≤ rv114.1 ∧ rv114.1 ≤ 9223372036854775807 := he243; refine OpX.postR (OpX.frame [4, 0] rfl (OpX.ofC (fun g => [g]) (fun l => l.getD 0 undef) (fun _ => rfl) (by intro _ _ h; cases h) (OpC.fn rfl ca10 rfl) (fn10 c11 ta0 tk0 t rv114.2 (((rv40.1.Deps.length : Nat) : Int)) (by (try dsimp only) <;> first | (unfold i64ok; omega) | omega | assumption) (by (try dsimp only) <;> first | (unfold i64ok; omega) | omega | assumption) rv117 hg118))) (fun g => ?_); exact Ent.take (is := [3, 4, 5, 6, 0, 1, 2]) rfl) ?_
        refine JD_x [1, 2, 3, 12, 14, 16, 20, 22, 23] [] (fun lG => .bool rv122) [⟨some 20, none, [], fun lG => SP.fact (True)⟩] (wt rfl rfl rfl rfl) rfl rfl rfl (fun G => by refine OpX.n3 (A' := [sl (.slice a46 rv40.1.Deps.length k47) (rv40.1.Deps : List (List Int)), sl (.slice a49 rv40.1.Transfers.length k50) (rv40.1.Transfers : List GTransfer), sl (.slice a52 rv40.1.Boundary.length k53) (rv40.1.Boundary : List GSet), sl (.slice none 0 0) ([] : List Int), SP.fact (i64ok rv73.1 ∧ (0 ≤ rv73.2 ∧ rv73.2 ≤ (t.length : Int)) ∧ (0 ≤ rv73.1 ∧ (rv73.1 < ((rv40.1.Deps.length : Nat) : Int) ∨ rv73.1 = 0))), SP.fact ((0 ≤ rv76.2 ∧ rv76.2 ≤ (t.length : Int))), SP.fact (i64ok rv114.1 ∧ (0 ≤ rv114.2 ∧ rv114.2 ≤ (t.length : Int)) ∧ (0 ≤ rv114.1 ∧ (rv114.1 < (((rv40.1.Deps.length : Nat) : Int) + 2) ∨ rv114.1 = 0))), SP.fact ((0 ≤ rv117.2 ∧ rv117.2 ≤ (t.length : Int))), sl (((G 19).getD 0 undef)) (rv117.1 : List Int)]) (V' := fun g => .bool rv122) (B' := fun g => [sl (.slice a46 rv40.1.Deps.length k47) (rv40.1.Deps : List (List Int)), sl (.slice a49 rv40.1.Transfers.length k50) (rv40.1.Transfers : List GTransfer), sl (.slice a52 rv40.1.Boundary.length k53) (rv40.1.Boundary : List GSet), sl (.slice none 0 0) ([] : List Int), SP.fact (i64ok rv73.1 ∧ (0 ≤ rv73.2 ∧ rv73.2 ≤ (t.length : Int)) ∧ (0 ≤ rv73.1 ∧ (rv73.1 < ((rv40.1.Deps.length : Nat) : Int) ∨ rv73.1 = 0))), SP.fact ((0 ≤ rv76.2 ∧ rv76.2 ≤ (t.length : Int))), SP.fact (i64ok rv114.1 ∧ (0 ≤ rv114.2 ∧ rv114.2 ≤ (t.length : Int)) ∧ (0 ≤ rv114.1 ∧ (rv114.1 < (((rv40.1.Deps.length : Nat) : Int) + 2) ∨ rv114.1 = 0))), SP.fact ((0 ≤ rv117.2 ∧ rv117.2 ≤ (t.length : Int))), sl (((G 19).getD 0 undef)) (rv117.1 : List Int), SP.fact (True)]) (by kernel_rfl) (by kernel_rfl) (by kernel_rfl) ?_; refine OpX.fact 4 rfl (fun h => h) ?_; rintro ⟨he246, he247, he248⟩; have he246 : -9223372036854775808 ≤ rv73.1 ∧ rv73.1 ≤ 9223372036854775807 := he246; refine OpX.fact 5 rfl (fun h => h) ?_; rintro he249; refine OpX.fact 6 rfl (fun h => h) ?_; rintro ⟨he250, he251, he252⟩; have he250 : -9223372036854775808 ≤ rv114.1 ∧ rv114.1 ≤ 9223372036854775807 := he250; refine OpX.fact 7 rfl (fun h => h) ?_; rintro he253; refine OpX.seeL (L' := [(49, .agg #[.int .i64 rv40.1.Width, .slice a46 rv40.1.Deps.length k47, .slice a49 rv40.1.Transfers.length k50, .slice a52 rv40.1.Boundary.length k53]), (54, .int .i64 (rv114.1 - 1)), (57, ((G 19).getD 0 undef))]) (Env.sub_all (by kernel_rfl)) ?_; refine OpX.postR (OpX.frame [8, 0, 1, 2, 3] rfl (OpX.ofC (fun _ => []) (fun _ => ()) (fun _ => rfl) (by intro _ _ h; cases h) (OpC.fn rfl ca9 rfl) (FT_open (γ := Unit) (I := fun g => True) (V := fun g => .bool rv122) (B := fun g => []) (R := sl (((G 19).getD 0 undef)) (rv117.1 : List Int)) sl_slice (fun aq198 kq199 eq200 => by rw [eq200]; exact FT_ent (Ent.take (is := [1, 2, 3, 4, 0]) rfl) (fn9 rv40.1 a46 k47 a49 k50 a52 k53 ((rv114.1 - 1)) ([]) none 0 rv117.1 aq198 kq199 (by (try dsimp only) <;> first | (unfold i64ok; omega) | omega | assumption) (by (try dsimp only) <;> first | (unfold i64ok; omega) | omega | assumption) rv122 hg123))))) (fun g => ?_); exact Ent.take (is := [1, 2, 3, 4, 5, 6, 7, 8, 9, 0]) rfl) ?_
        refine JD_b h124 [] (wt rfl rfl rfl rfl) rfl rfl (OpV.not rfl rfl) ?_
        refine JD_v [] (wn rfl) rfl rfl (OpV.pickF rfl rfl rfl) ?_
        refine JD_v [] (wn rfl) rfl rfl (OpV.move rfl rfl) ?_
        refine JD_v [] (wt rfl rfl rfl rfl) rfl rfl (OpV.move rfl rfl) ?_
        refine JD_v [0] (wt rfl rfl rfl rfl) rfl rfl (OpV.loadA rfl rfl sh27 (i := 0) rfl (reads_Cl _ _) rfl) ?_
        refine JD_x [1, 2, 3, 5, 14, 16, 20, 22, 24] [26] (fun lG => .agg #[.int .i64 rv204.1.Width, ((lG.getD 0 []).getD 0 undef), ((lG.getD 0 []).getD 1 undef), ((lG.getD 0 []).getD 2 undef)]) [⟨some 26, none, [], fun lG => SP.fact (i64ok rv204.1.Width ∧ (0 ≤ rv204.2 ∧ rv204.2 ≤ (t.length : Int)))⟩, ⟨some 26, none, [26], fun lG => sl (((lG.getD 0 []).getD 0 undef)) (rv204.1.Deps : List (List Int))⟩, ⟨some 26, none, [26], fun lG => sl (((lG.getD 0 []).getD 1 undef)) (rv204.1.Transfers : List GTransfer)⟩, ⟨some 26, none, [26], fun lG => sl (((lG.getD 0 []).getD 2 undef)) (rv204.1.Boundary : List GSet)⟩, ⟨some 26, none, [], fun lG => Cl c11 [.slice ta0 t.length tk0, .int .i64 rv204.2]⟩] (wt rfl rfl rfl rfl) rfl rfl rfl (fun G => by refine OpX.n3 (A' := [sl (.slice a46 rv40.1.Deps.length k47) (rv40.1.Deps : List (List Int)), sl (.slice a49 rv40.1.Transfers.length k50) (rv40.1.Transfers : List GTransfer), sl (.slice a52 rv40.1.Boundary.length k53) (rv40.1.Boundary : List GSet), sl (.slice ta0 t.length tk0) (t : List Int), SP.fact (i64ok rv73.1 ∧ (0 ≤ rv73.2 ∧ rv73.2 ≤ (t.length : Int)) ∧ (0 ≤ rv73.1 ∧ (rv73.1 < ((rv40.1.Deps.length : Nat) : Int) ∨ rv73.1 = 0))), SP.fact ((0 ≤ rv76.2 ∧ rv76.2 ≤ (t.length : Int))), SP.fact (i64ok rv114.1 ∧ (0 ≤ rv114.2 ∧ rv114.2 ≤ (t.length : Int)) ∧ (0 ≤ rv114.1 ∧ (rv114.1 < (((rv40.1.Deps.length : Nat) : Int) + 2) ∨ rv114.1 = 0))), SP.fact ((0 ≤ rv117.2 ∧ rv117.2 ≤ (t.length : Int))), Cl c11 [.slice ta0 t.length tk0, .int .i64 rv117.2]]) (V' := fun g => .agg #[.int .i64 rv204.1.Width, (g.getD 0 undef), (g.getD 1 undef), (g.getD 2 undef)]) (B' := fun g => [sl (.slice a46 rv40.1.Deps.length k47) (rv40.1.Deps : List (List Int)), sl (.slice a49 rv40.1.Transfers.length k50) (rv40.1.Transfers : List GTransfer), sl (.slice a52 rv40.1.Boundary.length k53) (rv40.1.Boundary : List GSet), sl (.slice ta0 t.length tk0) (t : List Int), SP.fact (i64ok rv73.1 ∧ (0 ≤ rv73.2 ∧ rv73.2 ≤ (t.length : Int)) ∧ (0 ≤ rv73.1 ∧ (rv73.1 < ((rv40.1.Deps.length : Nat) : Int) ∨ rv73.1 = 0))), SP.fact ((0 ≤ rv76.2 ∧ rv76.2 ≤ (t.length : Int))), SP.fact (i64ok rv114.1 ∧ (0 ≤ rv114.2 ∧ rv114.2 ≤ (t.length : Int)) ∧ (0 ≤ rv114.1 ∧ (rv114.1 < (((rv40.1.Deps.length : Nat) : Int) + 2) ∨ rv114.1 = 0))), SP.fact ((0 ≤ rv117.2 ∧ rv117.2 ≤ (t.length : Int))), SP.fact (i64ok rv204.1.Width ∧ (0 ≤ rv204.2 ∧ rv204.2 ≤ (t.length : Int))), sl ((g.getD 0 undef)) (rv204.1.Deps : List (List Int)), sl ((g.getD 1 undef)) (rv204.1.Transfers : List GTransfer), sl ((g.getD 2 undef)) (rv204.1.Boundary : List GSet), Cl c11 [.slice ta0 t.length tk0, .int .i64 rv204.2]]) (by kernel_rfl) (by kernel_rfl) (by kernel_rfl) ?_; refine OpX.fact 4 rfl (fun h => h) ?_; rintro ⟨he254, he255, he256⟩; have he254 : -9223372036854775808 ≤ rv73.1 ∧ rv73.1 ≤ 9223372036854775807 := he254; refine OpX.fact 5 rfl (fun h => h) ?_; rintro he257; refine OpX.fact 6 rfl (fun h => h) ?_; rintro ⟨he258, he259, he260⟩; have he258 : -9223372036854775808 ≤ rv114.1 ∧ rv114.1 ≤ 9223372036854775807 := he258; refine OpX.fact 7 rfl (fun h => h) ?_; rintro he261; refine OpX.postR (OpX.frame [8, 3, 0, 1, 2] rfl (OpX.ofC (fun g => [g.1, g.2.1, g.2.2]) (fun l => (l.getD 0 undef, l.getD 1 undef, l.getD 2 undef)) (fun _ => rfl) (by intro _ _ h; cases h) (OpC.fn rfl ca11 rfl) (fn11 c11 ta0 tk0 t rv117.2 rv40.1 a46 k47 a49 k50 a52 k53 (by (try dsimp only) <;> first | (unfold i64ok; omega) | omega | assumption) (by (try dsimp only) <;> first | (unfold i64ok; omega) | omega | assumption) (System_V' (by assumption) (by omega)) rv204 hg205))) (fun g => ?_); exact Ent.take (is := [5, 6, 7, 8, 9, 10, 11, 12, 0, 1, 2, 3, 4]) rfl) ?_
        refine JD_v [] (wt rfl rfl rfl rfl) rfl rfl (OpV.move rfl rfl) ?_
        refine JD_x [12, 13, 14, 16, 20, 22, 26, 27, 28, 29] [] (fun lG => .bool rv215) [⟨some 28, none, [], fun lG => SP.fact (True)⟩] (wt rfl rfl rfl rfl) rfl rfl rfl (fun G => by refine OpX.n3 (A' := [sl (.slice none 0 0) ([] : List Int), sl (.slice a69 rv59.1.length k70) (rv59.1 : List Int), SP.fact (i64ok rv73.1 ∧ (0 ≤ rv73.2 ∧ rv73.2 ≤ (t.length : Int)) ∧ (0 ≤ rv73.1 ∧ (rv73.1 < ((rv40.1.Deps.length : Nat) : Int) ∨ rv73.1 = 0))), SP.fact ((0 ≤ rv76.2 ∧ rv76.2 ≤ (t.length : Int))), SP.fact (i64ok rv114.1 ∧ (0 ≤ rv114.2 ∧ rv114.2 ≤ (t.length : Int)) ∧ (0 ≤ rv114.1 ∧ (rv114.1 < (((rv40.1.Deps.length : Nat) : Int) + 2) ∨ rv114.1 = 0))), SP.fact ((0 ≤ rv117.2 ∧ rv117.2 ≤ (t.length : Int))), SP.fact (i64ok rv204.1.Width ∧ (0 ≤ rv204.2 ∧ rv204.2 ≤ (t.length : Int))), sl (((G 26).getD 0 undef)) (rv204.1.Deps : List (List Int)), sl (((G 26).getD 1 undef)) (rv204.1.Transfers : List GTransfer), sl (((G 26).getD 2 undef)) (rv204.1.Boundary : List GSet)]) (V' := fun g => .bool rv215) (B' := fun g => [sl (.slice none 0 0) ([] : List Int), sl (.slice a69 rv59.1.length k70) (rv59.1 : List Int), SP.fact (i64ok rv73.1 ∧ (0 ≤ rv73.2 ∧ rv73.2 ≤ (t.length : Int)) ∧ (0 ≤ rv73.1 ∧ (rv73.1 < ((rv40.1.Deps.length : Nat) : Int) ∨ rv73.1 = 0))), SP.fact ((0 ≤ rv76.2 ∧ rv76.2 ≤ (t.length : Int))), SP.fact (i64ok rv114.1 ∧ (0 ≤ rv114.2 ∧ rv114.2 ≤ (t.length : Int)) ∧ (0 ≤ rv114.1 ∧ (rv114.1 < (((rv40.1.Deps.length : Nat) : Int) + 2) ∨ rv114.1 = 0))), SP.fact ((0 ≤ rv117.2 ∧ rv117.2 ≤ (t.length : Int))), SP.fact (i64ok rv204.1.Width ∧ (0 ≤ rv204.2 ∧ rv204.2 ≤ (t.length : Int))), sl (((G 26).getD 0 undef)) (rv204.1.Deps : List (List Int)), sl (((G 26).getD 1 undef)) (rv204.1.Transfers : List GTransfer), sl (((G 26).getD 2 undef)) (rv204.1.Boundary : List GSet), SP.fact (True)]) (by kernel_rfl) (by kernel_rfl) (by kernel_rfl) ?_; refine OpX.fact 2 rfl (fun h => h) ?_; rintro ⟨he262, he263, he264⟩; have he262 : -9223372036854775808 ≤ rv73.1 ∧ rv73.1 ≤ 9223372036854775807 := he262; refine OpX.fact 3 rfl (fun h => h) ?_; rintro he265; refine OpX.fact 4 rfl (fun h => h) ?_; rintro ⟨he266, he267, he268⟩; have he266 : -9223372036854775808 ≤ rv114.1 ∧ rv114.1 ≤ 9223372036854775807 := he266; refine OpX.fact 5 rfl (fun h => h) ?_; rintro he269; refine OpX.fact 6 rfl (fun h => h) ?_; rintro ⟨he270, he271⟩; have he270 : -9223372036854775808 ≤ rv204.1.Width ∧ rv204.1.Width ≤ 9223372036854775807 := he270; refine OpX.seeL (L' := [(64, .agg #[.int .i64 rv204.1.Width, ((G 26).getD 0 undef), ((G 26).getD 1 undef), ((G 26).getD 2 undef)]), (65, .slice a69 rv59.1.length k70)]) (Env.sub_all (by kernel_rfl)) ?_; refine OpX.postR (OpX.frame [9, 8, 7, 0, 1] rfl (OpX.ofC (fun _ => []) (fun _ => ()) (fun _ => rfl) (by intro _ _ h; cases h) (OpC.fn rfl ca9 rfl) (FT_open (γ := Unit) (I := fun g => True) (V := fun g => .bool rv215) (B := fun g => []) (R := sl (((G 26).getD 2 undef)) (rv204.1.Boundary : List GSet)) sl_slice (fun aq212 kq213 eq214 => by rw [eq214]; exact FT_ent (Ent.take (is := [1, 2, 0, 3, 4]) rfl) (FT_open (γ := Unit) (I := fun g => True) (V := fun g => .bool rv215) (B := fun g => []) (R := sl (((G 26).getD 1 undef)) (rv204.1.Transfers : List GTransfer)) sl_slice (fun aq209 kq210 eq211 => by rw [eq211]; exact FT_ent (Ent.take (is := [1, 0, 2, 3, 4]) rfl) (FT_open (γ := Unit) (I := fun g => True) (V := fun g => .bool rv215) (B := fun g => []) (R := sl (((G 26).getD 0 undef)) (rv204.1.Deps : List (List Int))) sl_slice (fun aq206 kq207 eq208 => by rw [eq208]; exact FT_ent (Ent.take (is := [0, 1, 2, 3, 4]) rfl) (fn9 rv204.1 aq206 kq207 aq209 kq210 aq212 kq213 0 ([]) none 0 rv59.1 a69 k70 (by (try dsimp only) <;> first | (unfold i64ok; omega) | omega | assumption) (by (try dsimp only) <;> first | (unfold i64ok; omega) | omega | assumption) rv215 hg216))))))))) (fun g => ?_); exact Ent.take (is := [1, 2, 3, 4, 5, 6, 7, 8, 9, 10, 0]) rfl) ?_
        refine JD_v [] (wt rfl rfl rfl rfl) rfl rfl (OpV.not rfl rfl) ?_
        refine JD_v [] (wn rfl) rfl rfl (OpV.pickF rfl rfl rfl) ?_
        refine JD_nil ⟨by kernel_rfl, fun G => ?_⟩
        refine JJ_weaken (L' := [(2, .int .i64 root), (3, .slice leavesa0 leaves.length leavesk0), (4, .slice set_a0 set_.length set_k0), (6, p10), (11, c11), (12, .int .i64 i_17), (68, .bool (!rv215))]) (A' := [Cl p55 [.int .i64 rv40.1.Width, .slice a46 rv40.1.Deps.length k47, .slice a49 rv40.1.Transfers.length k50, .slice a52 rv40.1.Boundary.length k53], sl (.slice a46 rv40.1.Deps.length k47) (rv40.1.Deps : List (List Int)), sl (.slice a49 rv40.1.Transfers.length k50) (rv40.1.Transfers : List GTransfer), sl (.slice a52 rv40.1.Boundary.length k53) (rv40.1.Boundary : List GSet), pv p10 [.int .i64 s.Width, .slice sa1 s.Deps.length sk1, .slice sa2 s.Transfers.length sk2, .slice sa3 s.Boundary.length sk3], sl (.slice ta0 t.length tk0) (t : List Int), sl (.slice sa1 s.Deps.length sk1) (s.Deps : List (List Int)), sl (.slice sa2 s.Transfers.length sk2) (s.Transfers : List GTransfer), sl (.slice sa3 s.Boundary.length sk3) (s.Boundary : List GSet), sl (.slice leavesa0 leaves.length leavesk0) (leaves : List Int), sl (.slice set_a0 set_.length set_k0) (set_ : List Int), sl (.slice none 0 0) ([] : List Int), sl (.slice a69 rv59.1.length k70) (rv59.1 : List Int), SP.fact (i64ok rv73.1 ∧ (0 ≤ rv73.2 ∧ rv73.2 ≤ (t.length : Int)) ∧ (0 ≤ rv73.1 ∧ (rv73.1 < ((rv40.1.Deps.length : Nat) : Int) ∨ rv73.1 = 0))), SP.fact ((0 ≤ rv76.2 ∧ rv76.2 ≤ (t.length : Int))), sl (((G 6).getD 0 undef)) (rv76.1 : List Int), SP.fact (True), SP.fact (i64ok rv114.1 ∧ (0 ≤ rv114.2 ∧ rv114.2 ≤ (t.length : Int)) ∧ (0 ≤ rv114.1 ∧ (rv114.1 < (((rv40.1.Deps.length : Nat) : Int) + 2) ∨ rv114.1 = 0))), SP.fact ((0 ≤ rv117.2 ∧ rv117.2 ≤ (t.length : Int))), sl (((G 19).getD 0 undef)) (rv117.1 : List Int), SP.fact (True), SP.fact (i64ok rv204.1.Width ∧ (0 ≤ rv204.2 ∧ rv204.2 ≤ (t.length : Int))), sl (((G 26).getD 0 undef)) (rv204.1.Deps : List (List Int)), sl (((G 26).getD 1 undef)) (rv204.1.Transfers : List GTransfer), sl (((G 26).getD 2 undef)) (rv204.1.Boundary : List GSet), Cl c11 [.slice ta0 t.length tk0, .int .i64 rv204.2], SP.fact (True)]) (Env.sub_all (by kernel_rfl)) (Ent.of_eq (by kernel_rfl)) ?_
        generalize ((G 6).getD 0 undef) = c193
        generalize ((G 19).getD 0 undef) = c197
        generalize ((G 26).getD 0 undef) = c201
        generalize ((G 26).getD 1 undef) = c202
        generalize ((G 26).getD 2 undef) = c203
        refine JJ_fact 13 rfl (fun h => h) ?_
        rintro ⟨he272, he273, he274⟩
        have he272 : -9223372036854775808 ≤ rv73.1 ∧ rv73.1 ≤ 9223372036854775807 := he272
        refine JJ_fact 14 rfl (fun h => h) ?_
        rintro he275
        refine JJ_fact 17 rfl (fun h => h) ?_
        rintro ⟨he276, he277, he278⟩
        have he276 : -9223372036854775808 ≤ rv114.1 ∧ rv114.1 ≤ 9223372036854775807 := he276
        refine JJ_fact 18 rfl (fun h => h) ?_
        rintro he279
        refine JJ_fact 21 rfl (fun h => h) ?_
        rintro ⟨he280, he281⟩
        have he280 : -9223372036854775808 ≤ rv204.1.Width ∧ rv204.1.Width ≤ 9223372036854775807 := he280
        refine JJ_keep [0, 0, 1, 2, 3, 4, 5, 6, 7, 8, 9, 10, 11, 14, 18, 21, 22, 23, 24] rfl ?_
        refine JJ_slice 13 rfl sl_slice ?_
        rintro a282 k283 rfl
        refine JJ_fact 13 rfl sl_bytes ?_
        intro hl284
        have hl284 : rv76.1.length * 8 ≤ 140737488355328 := hl284
        refine JJ_fact 13 rfl sl_ok ?_
        intro ho285
        refine JJ_slice 14 rfl sl_slice ?_
        rintro a286 k287 rfl
        refine JJ_fact 14 rfl sl_bytes ?_
        intro hl288
        have hl288 : rv117.1.length * 8 ≤ 140737488355328 := hl288
        refine JJ_fact 14 rfl sl_ok ?_
        intro ho289
        refine JJ_slice 15 rfl sl_slice ?_
        rintro a290 k291 rfl
        refine JJ_fact 15 rfl sl_bytes ?_
        intro hl292
        have hl292 : rv204.1.Deps.length * 24 ≤ 140737488355328 := hl292
        refine JJ_slice 16 rfl sl_slice ?_
        rintro a293 k294 rfl
        refine JJ_fact 16 rfl sl_bytes ?_
        intro hl295
        have hl295 : rv204.1.Transfers.length * 88 ≤ 140737488355328 := hl295
        refine JJ_slice 17 rfl sl_slice ?_
        rintro a296 k297 rfl
        refine JJ_fact 17 rfl sl_bytes ?_
        intro hl298
        have hl298 : rv204.1.Boundary.length * 32 ≤ 140737488355328 := hl298
        refine JK_cond (b := (!rv215)) rfl (fun (h299 : (!rv215) = true) => ?_) (fun (h299 : (!rv215) = false) => ?_)
        · skip
          have h301 : rv215 = false := not_true h299
          refine JK_seq ?_
          refine JK_region ?_
          refine JO_q rfl rfl rfl (OpV.assign rfl rfl) ?_
          refine JO_nil ?_
          have hR303 : flqlaw14_ConeAgrees_L0 t 5 0 0 = LR.ret false := by
            rw [← hM18]; simp only [flqlaw14_ConeAgrees_L0, h34, h83, h108, h124, h191, h299, h301, hg13, hg41, hg57, hg60, hg74, hg77, hg82, hg115, hg118, hg123, hg205, hg216, cs4]
          have hq : rr = false := hrr.symm.trans (by unfold flqlaw14_ConeAgrees; simp only [h34, h83, h108, h124, h191, h299, h301, hg13, hg41, hg57, hg60, hg74, hg77, hg82, hg115, hg118, hg123, hg205, hg216, hR303, cs4])
          replace hrr := hrr.trans hq
          subst rr
          refine JK_return (()) rfl (.tmp rfl .nil) rfl trivial (Ent.take (is := []) rfl)
        · skip
          have h305 : rv215 = true := not_false h299
          refine JK_skip ?_
          refine JK_blk ?_
          refine JK_region ?_
          refine JO_q rfl rfl rfl (OpV.move rfl rfl) ?_
          refine JO_q rfl rfl rfl (OpV.add rfl rfl rfl (by unfold i64ok; omega)) ?_
          refine JO_q rfl rfl rfl (OpV.assign rfl rfl) ?_
          refine JO_nil ?_
          refine JK_goal (r36, rv204.2, (i_17 + 1)) ⟨(by rw [← hM18]; simp only [flqlaw14_ConeAgrees_L0, h34, h83, h108, h124, h191, h299, h305, hg13, hg41, hg57, hg60, hg74, hg77, hg82, hg115, hg118, hg123, hg205, hg216, cs4]), (by omega), (by omega), (by omega), (by omega), (by omega), (by omega)⟩ (by show r36 < r36 + 1; omega) (Env.sub_all rfl) (Ent.take (is := [18, 4, 5, 6, 7, 8, 9, 10]) rfl)
  · skip
    have g307 : ¬ (i_17 < 5) := of_decide_eq_false h34
    obtain rfl : r15 = 0 := by omega
    refine JK_exit rfl ?_
    have hR308 : flqlaw14_ConeAgrees_L0 t 5 0 0 = LR.brk () := by
      rw [← hM18]; simp only [flqlaw14_ConeAgrees_L0, h34, hg13, cs4]
    refine JK_seq ?_
    refine JK_region ?_
    refine JO_q rfl rfl rfl (OpV.loadA rfl rfl sh27 (i := 1) rfl (reads_pv _ _) rfl) ?_
    refine letv (flqgen_Huge s) fun rv309 hg310 => ?_
    have hc311 := fn12 s sa1 sk1 sa2 sk2 sa3 sk3 (by (try dsimp only) <;> first | (unfold i64ok; omega) | omega | assumption) rv309 hg310
    refine JO_call [3, 4, 5] rfl rfl rfl (OpC.fn rfl ca12 rfl) (hc311) rfl ?_
    rintro - -
    refine JO_q rfl rfl rfl (OpV.move rfl rfl) ?_
    refine JJ_split 71 rfl (fun (h312 : rv309 = true) => ?_) (fun (h312 : rv309 = false) => ?_)
    · skip
      refine JO_skip rfl rfl rfl rfl rfl rfl ?_
      refine JO_skip rfl rfl rfl rfl rfl rfl ?_
      refine JO_skip rfl rfl rfl rfl rfl rfl ?_
      refine JO_q rfl rfl rfl (OpV.pickT rfl rfl rfl) ?_
      refine JO_q rfl rfl rfl (OpV.move rfl rfl) ?_
      refine JO_skip rfl rfl rfl rfl rfl rfl ?_
      refine JO_skip rfl rfl rfl rfl rfl rfl ?_
      refine JO_skip rfl rfl rfl rfl rfl rfl ?_
      refine JO_q rfl rfl rfl (OpV.pickT rfl rfl rfl) ?_
      refine JO_q rfl rfl rfl (OpV.move rfl rfl) ?_
      refine JO_skip rfl rfl rfl rfl rfl rfl ?_
      refine JO_skip rfl rfl rfl rfl rfl rfl ?_
      refine JO_skip rfl rfl rfl rfl rfl rfl ?_
      refine JO_skip rfl rfl rfl rfl rfl rfl ?_
      refine JO_skip rfl rfl rfl rfl rfl rfl ?_
      refine JO_skip rfl rfl rfl rfl rfl rfl ?_
      refine JO_skipU rfl rfl rfl rfl rfl rfl ?_
      refine JO_skip rfl rfl rfl rfl rfl rfl ?_
      refine JO_q rfl rfl rfl (OpV.pickT rfl rfl rfl) ?_
      refine JO_q rfl rfl rfl (OpV.assign rfl rfl) ?_
      refine JO_nil ?_
      have hq : rr = true := hrr.symm.trans (by unfold flqlaw14_ConeAgrees; simp only [h34, h312, hg13, hR308, hg310, cs4])
      replace hrr := hrr.trans hq
      subst rr
      refine JK_return (()) rfl (.tmp rfl .nil) rfl trivial (Ent.take (is := []) rfl)
    · skip
      refine JO_taken rfl rfl rfl rfl ?_
      refine JO_q rfl rfl rfl (OpV.move rfl rfl) ?_
      refine JO_taken rfl rfl rfl rfl ?_
      refine JO_q rfl rfl rfl (OpV.len rfl rfl sl22) ?_
      refine JO_taken rfl rfl rfl rfl ?_
      refine JO_q rfl rfl rfl (OpV.gtr rfl rfl rfl) ?_
      refine JO_q rfl rfl rfl (OpV.pickF rfl rfl rfl) ?_
      refine JO_q rfl rfl rfl (OpV.move rfl rfl) ?_
      refine JJ_split 76 rfl (fun (h315 : decide (30 < ((leaves.length : Nat) : Int)) = true) => ?_) (fun (h315 : decide (30 < ((leaves.length : Nat) : Int)) = false) => ?_)
      · skip
        have g316 : (30 < ((leaves.length : Nat) : Int)) := of_decide_eq_true h315
        refine JO_skip rfl rfl rfl rfl rfl rfl ?_
        refine JO_skip rfl rfl rfl rfl rfl rfl ?_
        refine JO_skip rfl rfl rfl rfl rfl rfl ?_
        refine JO_q rfl rfl rfl (OpV.pickT rfl rfl rfl) ?_
        refine JO_q rfl rfl rfl (OpV.move rfl rfl) ?_
        refine JO_skip rfl rfl rfl rfl rfl rfl ?_
        refine JO_skip rfl rfl rfl rfl rfl rfl ?_
        refine JO_skip rfl rfl rfl rfl rfl rfl ?_
        refine JO_skip rfl rfl rfl rfl rfl rfl ?_
        refine JO_skip rfl rfl rfl rfl rfl rfl ?_
        refine JO_skip rfl rfl rfl rfl rfl rfl ?_
        refine JO_skipU rfl rfl rfl rfl rfl rfl ?_
        refine JO_skip rfl rfl rfl rfl rfl rfl ?_
        refine JO_q rfl rfl rfl (OpV.pickT rfl rfl rfl) ?_
        refine JO_q rfl rfl rfl (OpV.assign rfl rfl) ?_
        refine JO_nil ?_
        have hq : rr = true := hrr.symm.trans (by unfold flqlaw14_ConeAgrees; simp only [h34, h312, h315, hg13, hR308, hg310, cs4])
        replace hrr := hrr.trans hq
        subst rr
        refine JK_return (()) rfl (.tmp rfl .nil) rfl trivial (Ent.take (is := []) rfl)
      · skip
        have g317 : ¬ (30 < ((leaves.length : Nat) : Int)) := of_decide_eq_false h315
        refine JO_taken rfl rfl rfl rfl ?_
        refine JO_q rfl rfl rfl (OpV.move rfl rfl) ?_
        refine JO_taken rfl rfl rfl rfl ?_
        refine JO_q rfl rfl rfl (OpV.len rfl rfl sl22) ?_
        refine JO_taken rfl rfl rfl rfl ?_
        refine JO_q rfl rfl rfl (OpV.gtr rfl rfl rfl) ?_
        refine JO_q rfl rfl rfl (OpV.pickF rfl rfl rfl) ?_
        refine JO_q rfl rfl rfl (OpV.move rfl rfl) ?_
        refine JJ_split 81 rfl (fun (h318 : decide (30 < ((set_.length : Nat) : Int)) = true) => ?_) (fun (h318 : decide (30 < ((set_.length : Nat) : Int)) = false) => ?_)
        · skip
          have g319 : (30 < ((set_.length : Nat) : Int)) := of_decide_eq_true h318
          refine JO_skip rfl rfl rfl rfl rfl rfl ?_
          refine JO_skip rfl rfl rfl rfl rfl rfl ?_
          refine JO_skip rfl rfl rfl rfl rfl rfl ?_
          refine JO_skip rfl rfl rfl rfl rfl rfl ?_
          refine JO_skip rfl rfl rfl rfl rfl rfl ?_
          refine JO_skip rfl rfl rfl rfl rfl rfl ?_
          refine JO_skipU rfl rfl rfl rfl rfl rfl ?_
          refine JO_skip rfl rfl rfl rfl rfl rfl ?_
          refine JO_q rfl rfl rfl (OpV.pickT rfl rfl rfl) ?_
          refine JO_q rfl rfl rfl (OpV.assign rfl rfl) ?_
          refine JO_nil ?_
          have hq : rr = true := hrr.symm.trans (by unfold flqlaw14_ConeAgrees; simp only [h34, h312, h315, h318, hg13, hR308, hg310, cs4])
          replace hrr := hrr.trans hq
          subst rr
          refine JK_return (()) rfl (.tmp rfl .nil) rfl trivial (Ent.take (is := []) rfl)
        · skip
          have g320 : ¬ (30 < ((set_.length : Nat) : Int)) := of_decide_eq_false h318
          refine JO_taken rfl rfl rfl rfl ?_
          refine JO_q rfl rfl rfl (OpV.loadA rfl rfl sh27 (i := 1) rfl (reads_pv _ _) rfl) ?_
          refine JO_taken rfl rfl rfl rfl ?_
          refine JO_q rfl rfl rfl (OpV.move rfl rfl) ?_
          refine JO_taken rfl rfl rfl rfl ?_
          refine JO_q rfl rfl rfl (OpV.move rfl rfl) ?_
          refine JO_taken rfl rfl rfl rfl ?_
          refine JO_q rfl rfl rfl (OpV.move rfl rfl) ?_
          refine JO_taken rfl rfl rfl rfl ?_
          refine letv (flqlaw14_agrees s root leaves set_) fun rv321 hg322 => ?_
          have hc323 := fn9 s sa1 sk1 sa2 sk2 sa3 sk3 root leaves leavesa0 leavesk0 set_ set_a0 set_k0 (by (try dsimp only) <;> first | (unfold i64ok; omega) | omega | assumption) (by (try dsimp only) <;> first | (unfold i64ok; omega) | omega | assumption) rv321 hg322
          refine JO_call [3, 4, 5, 6, 7] rfl rfl rfl (OpC.fn rfl ca9 rfl) (hc323) rfl ?_
          rintro - -
          refine JO_taken rfl rfl rfl rfl ?_
          refine JO_q rfl rfl rfl (OpV.move rfl rfl) ?_
          refine JJ_split 87 rfl (fun (h324 : rv321 = true) => ?_) (fun (h324 : rv321 = false) => ?_)
          · skip
            refine JO_taken rfl rfl rfl rfl ?_
            have hc326 := fn13  flqlaw14_sane rfl
            refine JO_call [] rfl rfl rfl (OpC.fn rfl ca13 rfl) (hc326) rfl ?_
            rintro - -
            refine JO_taken rfl rfl rfl rfl ?_
            refine JO_q rfl rfl rfl (OpV.pickT rfl rfl rfl) ?_
            refine JO_q rfl rfl rfl (OpV.pickF rfl rfl rfl) ?_
            refine JO_q rfl rfl rfl (OpV.assign rfl rfl) ?_
            refine JO_nil ?_
            have hq : rr = flqlaw14_sane := hrr.symm.trans (by unfold flqlaw14_ConeAgrees; simp only [h34, h312, h315, h318, h324, hg13, hR308, hg310, hg322, cs4])
            replace hrr := hrr.trans hq
            subst rr
            refine JK_return (()) rfl (.tmp rfl .nil) rfl trivial (Ent.take (is := []) rfl)
          · skip
            refine JO_skip rfl rfl rfl rfl rfl rfl ?_
            refine JO_taken rfl rfl rfl rfl ?_
            refine JO_q rfl rfl rfl (OpV.pickF rfl rfl rfl) ?_
            refine JO_q rfl rfl rfl (OpV.pickF rfl rfl rfl) ?_
            refine JO_q rfl rfl rfl (OpV.assign rfl rfl) ?_
            refine JO_nil ?_
            have hq : rr = false := hrr.symm.trans (by unfold flqlaw14_ConeAgrees; simp only [h34, h312, h315, h318, h324, hg13, hR308, hg310, hg322, cs4])
            replace hrr := hrr.trans hq
            subst rr
            refine JK_return (()) rfl (.tmp rfl .nil) rfl trivial (Ent.take (is := []) rfl)
end Go.SL.G
