/- Part 3 of the walks: mirrors, plain laws and walks used by the last text of this claim. -/
import Derived.Test.YthmmndibliekcaaW2
import Derived.Test.YthmmndibliekcaaProg
set_option linter.unusedVariables false
set_option linter.unusedSimpArgs false
namespace Go.SL.G
open Go Go.SL Go.Proofs
set_option maxHeartbeats 20000000 in
set_option maxRecDepth 100000 in
/- (*flowquery/flqgen.Tape).System -/
theorem fn6 (tP : Value) (ta : Option Addr) (tk : Nat) (tT : List Int) (tI : Int) (n : Int) (htI : 0 ≤ tI ∧ tI ≤ (tT.length : Int)) (hn_0 : i64ok n) (hn0 : 0 ≤ n ∧ n ≤ 1000) (rr : GSystem × Int) (hrr : Tape_System tT tI n = rr) :
    FT Try.prog 6 #[tP, .int .i64 n] [Cl tP [.slice ta tT.length tk, .int .i64 tI], sl (.slice ta tT.length tk) (tT : List Int)]
      (fun g : Value × Value × Value => i64ok rr.1.Width ∧ (0 ≤ rr.2 ∧ rr.2 ≤ (tT.length : Int)) ∧ (rr.1.Deps.length ≤ 1001))
      (fun g => .agg #[.int .i64 rr.1.Width, g.1, g.2.1, g.2.2])
      (fun g => [sl (g.1) (rr.1.Deps : List (List Int)), sl (g.2.1) (rr.1.Transfers : List GTransfer), sl (g.2.2) (rr.1.Boundary : List GSet), Cl tP [.slice ta tT.length tk, .int .i64 rr.2]]) := by
  refine FT_intro (args := [tP, .int .i64 n]) Try.func6 rfl rfl ?_
  intro w0 M0 F0
  have hn_0 : -9223372036854775808 ≤ n ∧ n ≤ 9223372036854775807 := hn_0
  refine JJ_fact 1 rfl sl_bytes ?_
  intro hl1
  have hl1 : tT.length * 8 ≤ 140737488355328 := hl1
  refine JJ_fact 1 rfl sl_ok ?_
  intro ho2
  refine JK_seq ?_
  refine JK_region ?_
  refine JO_act rfl rfl rfl (OpA.alloc rfl ze27) ?_
  intro p3
  refine JO_nil ?_
  refine JK_seq ?_
  refine JK_region ?_
  refine JO_q rfl rfl rfl (OpV.move rfl rfl) ?_
  refine letv (Tape_Width tT tI) fun rv4 hg5 => ?_
  have hc6 := fn18 tP ta tk tT tI (by (try dsimp only) <;> first | (unfold i64ok; omega) | omega | assumption) rv4 hg5
  refine JO_call [1, 1] rfl rfl rfl (OpC.fn rfl ca18 rfl) (hc6) rfl ?_
  rintro - ⟨he7, he8, he9⟩
  have he7 : -9223372036854775808 ≤ rv4.1 ∧ rv4.1 ≤ 9223372036854775807 := he7
  refine JO_q rfl rfl rfl (OpV.rem rfl rfl rfl (by omega)) ?_
  refine JO_q rfl rfl rfl (OpV.build (rs := #[.int .i64 (rv4.1 % 5), .slice none 0 0, .slice none 0 0, .slice none 0 0]) rfl st27 (Env.evp_map rfl) rfl) ?_
  refine JO_act rfl rfl rfl (OpA.alloc rfl ze27) ?_
  intro p10
  refine JO_store rfl rfl (OpS.frame [0] rfl (OpS.storeCl [.int .i64 (rv4.1 % 5), .slice none 0 0, .slice none 0 0, .slice none 0 0] [.int .i64 (rv4.1 % 5), .slice none 0 0, .slice none 0 0, .slice none 0 0] rfl rfl rfl sh27 rfl rfl rfl (Nat.le_of_ble_eq_true rfl) rfl)) ?_
  refine JO_nil ?_
  refine JK_seq ?_
  refine JK_region ?_
  refine JO_q rfl rfl rfl (OpV.move rfl rfl) ?_
  refine JO_q rfl rfl rfl (OpV.move rfl rfl) ?_
  refine letv (Tape_Next tT rv4.2 n) fun rv11 hg12 => ?_
  have hc13 := fn8 tP ta tk tT rv4.2 n (by (try dsimp only) <;> first | (unfold i64ok; omega) | omega | assumption) (by (try dsimp only) <;> first | (unfold i64ok; omega) | omega | assumption) rv11 hg12
  refine JO_call [1, 2] rfl rfl rfl (OpC.fn rfl ca8 rfl) (hc13) rfl ?_
  rintro - ⟨he14, he15, he16⟩
  have he14 : -9223372036854775808 ≤ rv11.1 ∧ rv11.1 ≤ 9223372036854775807 := he14
  refine JO_q rfl rfl rfl (OpV.add rfl rfl rfl (by unfold i64ok; omega)) ?_
  refine JO_q rfl rfl rfl (OpV.assign rfl rfl) ?_
  refine JO_nil ?_
  refine JK_seq ?_
  refine JK_seq ?_
  refine JK_region ?_
  refine JO_q rfl rfl rfl (OpV.assign rfl rfl) ?_
  refine JO_nil ?_
  refine JK_block ?_
  refine JJ_loc [] rfl (Ent.osNil (α := (List Int))) ?_
  refine JJ_loc [] rfl (Ent.osNil (α := GTransfer)) ?_
  refine JJ_loc [] rfl (Ent.osNil (α := GSet)) ?_
  refine JK_loop (γ := Nat × Int × List (List Int) × List GTransfer × List GSet × Int × Option Addr × Nat × Option Addr × Nat × Option Addr × Nat) (fun (r17, ti_18, s1_19, s2_20, s3_21, i_22, a23, k24, a25, k26, a27, k28) => [(0, tP), (4, p3), (5, p10), (1, .int .i64 (1 + rv11.1)), (6, .int .i64 i_22)]) (fun (r17, ti_18, s1_19, s2_20, s3_21, i_22, a23, k24, a25, k26, a27, k28) => [os (.slice a27 s3_21.length k28) (s3_21 : List GSet), os (.slice a25 s2_20.length k26) (s2_20 : List GTransfer), os (.slice a23 s1_19.length k24) (s1_19 : List (List Int)), Cl tP [.slice ta tT.length tk, .int .i64 ti_18], Cl p10 [.int .i64 (rv4.1 % 5), .slice a23 s1_19.length k24, .slice a25 s2_20.length k26, .slice a27 s3_21.length k28], Cl p3 [.int .i64 0, .slice none 0 0, .slice none 0 0, .slice none 0 0], sl (.slice ta tT.length tk) (tT : List Int)]) (fun (r17, ti_18, s1_19, s2_20, s3_21, i_22, a23, k24, a25, k26, a27, k28) => Tape_System_L0 tT (1 + rv11.1) (rv4.1 % 5) r17 ti_18 s1_19 s2_20 s3_21 i_22 = Tape_System_L0 tT (1 + rv11.1) (rv4.1 % 5) ((((1 + rv11.1) : Int) - 0).toNat) rv11.2 [] [] [] 0 ∧ r17 = (((1 + rv11.1) : Int) - i_22).toNat ∧ (0 : Int) ≤ i_22 ∧ (i_22 ≤ (1 + rv11.1) ∨ i_22 = 0) ∧ (-9223372036854775808 ≤ ti_18 ∧ ti_18 ≤ 9223372036854775807) ∧ (0 ≤ ti_18 ∧ ti_18 ≤ (tT.length : Int)) ∧ (-9223372036854775808 ≤ i_22 ∧ i_22 ≤ 9223372036854775807) ∧ (s1_19.length : Int) = i_22 ∧ (s2_20.length : Int) = i_22 ∧ (s3_21.length : Int) = i_22) (fun (r17, ti_18, s1_19, s2_20, s3_21, i_22, a23, k24, a25, k26, a27, k28) => r17) ((((1 + rv11.1) : Int) - 0).toNat, rv11.2, [], [], [], 0, none, 0, none, 0, none, 0) ⟨rfl, rfl, (by omega), (.inr rfl), (by omega), (by omega), (by omega), (by first | omega | (simp only [lens]; omega) | simp), (by first | omega | (simp only [lens]; omega) | simp), (by first | omega | (simp only [lens]; omega) | simp)⟩ (Env.sub_all rfl) (Ent.take (is := [0, 0, 0, 0, 0, 0, 0]) rfl) ?_
  rintro ⟨r17, ti_18, s1_19, s2_20, s3_21, i_22, a23, k24, a25, k26, a27, k28⟩ ⟨hM29, hr30, hi31, hi32, hk33, ht34, hk35, hv36, hv37, hv38⟩
  refine JJ_norm (L := [(0, tP), (4, p3), (5, p10), (1, .int .i64 (1 + rv11.1)), (6, .int .i64 i_22)]) (A := [os (.slice a27 s3_21.length k28) (s3_21 : List GSet), os (.slice a25 s2_20.length k26) (s2_20 : List GTransfer), os (.slice a23 s1_19.length k24) (s1_19 : List (List Int)), Cl tP [.slice ta tT.length tk, .int .i64 ti_18], Cl p10 [.int .i64 (rv4.1 % 5), .slice a23 s1_19.length k24, .slice a25 s2_20.length k26, .slice a27 s3_21.length k28], Cl p3 [.int .i64 0, .slice none 0 0, .slice none 0 0, .slice none 0 0], sl (.slice ta tT.length tk) (tT : List Int)]) rfl rfl ?_
  refine JJ_fact 0 rfl os_bytes ?_
  intro hl39
  have hl39 : s3_21.length * 32 ≤ 140737488355328 := hl39
  refine JJ_fact 1 rfl os_bytes ?_
  intro hl40
  have hl40 : s2_20.length * 88 ≤ 140737488355328 := hl40
  refine JJ_fact 2 rfl os_bytes ?_
  intro hl41
  have hl41 : s1_19.length * 24 ≤ 140737488355328 := hl41
  refine JJ_fact 6 rfl sl_bytes ?_
  intro hl42
  have hl42 : tT.length * 8 ≤ 140737488355328 := hl42
  refine JJ_fact 6 rfl sl_ok ?_
  intro ho43
  refine JK_seq ?_
  refine JK_seq ?_
  refine JK_region ?_
  refine JO_q rfl rfl rfl (OpV.move rfl rfl) ?_
  refine JO_q rfl rfl rfl (OpV.move rfl rfl) ?_
  refine JO_q rfl rfl rfl (OpV.lss rfl rfl rfl) ?_
  refine JO_nil ?_
  refine JK_cond (b := decide (i_22 < (1 + rv11.1))) rfl (fun (h44 : decide (i_22 < (1 + rv11.1)) = true) => ?_) (fun (h44 : decide (i_22 < (1 + rv11.1)) = false) => ?_)
  · skip
    have g45 : (i_22 < (1 + rv11.1)) := of_decide_eq_true h44
    obtain ⟨r46, rfl⟩ : ∃ q, r17 = q + 1 := ⟨r17 - 1, by omega⟩
    refine JK_skip ?_
    refine JK_seq ?_
    refine JK_block ?_
    refine JK_seq ?_
    refine JK_region ?_
    refine JO_q rfl rfl rfl (OpV.assign rfl rfl) ?_
    refine JO_nil ?_
    refine JK_seq ?_
    refine JK_seq ?_
    refine JK_region ?_
    refine JO_q rfl rfl rfl (OpV.move rfl rfl) ?_
    refine letv (Tape_Next tT ti_18 4) fun rv47 hg48 => ?_
    have hc49 := fn8 tP ta tk tT ti_18 4 (by (try dsimp only) <;> first | (unfold i64ok; omega) | omega | assumption) (by (try dsimp only) <;> first | (unfold i64ok; omega) | omega | assumption) rv47 hg48
    refine JO_call [3, 5] rfl rfl rfl (OpC.fn rfl ca8 rfl) (hc49) rfl ?_
    rintro - ⟨he50, he51, he52⟩
    have he50 : -9223372036854775808 ≤ rv47.1 ∧ rv47.1 ≤ 9223372036854775807 := he50
    refine JO_q rfl rfl rfl (OpV.assign rfl rfl) ?_
    refine JO_nil ?_
    refine JK_block ?_
    refine JJ_loc [] rfl (Ent.slNil (α := Int)) ?_
    refine JK_loop (γ := Nat × Int × List Int × Int × Option Addr × Nat) (fun (r53, ti_54, d_55, k_56, a57, k58) => [(0, tP), (4, p3), (5, p10), (1, .int .i64 (1 + rv11.1)), (6, .int .i64 i_22), (7, .slice a57 d_55.length k58), (8, .int .i64 k_56)]) (fun (r53, ti_54, d_55, k_56, a57, k58) => [sl (.slice a57 d_55.length k58) (d_55 : List Int), Cl tP [.slice ta tT.length tk, .int .i64 ti_54], os (.slice a27 s3_21.length k28) (s3_21 : List GSet), os (.slice a25 s2_20.length k26) (s2_20 : List GTransfer), os (.slice a23 s1_19.length k24) (s1_19 : List (List Int)), Cl p10 [.int .i64 (rv4.1 % 5), .slice a23 s1_19.length k24, .slice a25 s2_20.length k26, .slice a27 s3_21.length k28], Cl p3 [.int .i64 0, .slice none 0 0, .slice none 0 0, .slice none 0 0], sl (.slice ta tT.length tk) (tT : List Int)]) (fun (r53, ti_54, d_55, k_56, a57, k58) => Tape_System_L1 tT (1 + rv11.1) r53 ti_54 d_55 k_56 = Tape_System_L1 tT (1 + rv11.1) ((rv47.1 : Int).toNat) rv47.2 [] rv47.1 ∧ r53 = (k_56 : Int).toNat ∧ k_56 ≤ (rv47.1 : Int) ∧ (-9223372036854775808 ≤ ti_54 ∧ ti_54 ≤ 9223372036854775807) ∧ (0 ≤ ti_54 ∧ ti_54 ≤ (tT.length : Int)) ∧ (-9223372036854775808 ≤ k_56 ∧ k_56 ≤ 9223372036854775807) ∧ (d_55.length : Int) + k_56 ≤ 4) (fun (r53, ti_54, d_55, k_56, a57, k58) => r53) ((rv47.1 : Int).toNat, rv47.2, [], rv47.1, none, 0) ⟨rfl, rfl, (by omega), (by omega), (by omega), (by omega), (by first | omega | (simp only [lens]; omega) | simp)⟩ (Env.sub_all rfl) (Ent.take (is := [0, 1, 1, 1, 1, 1, 1, 1]) rfl) ?_
    rintro ⟨r53, ti_54, d_55, k_56, a57, k58⟩ ⟨hM59, hr60, hi61, hk62, ht63, hk64, hv65⟩
    refine JJ_norm (L := [(0, tP), (4, p3), (5, p10), (1, .int .i64 (1 + rv11.1)), (6, .int .i64 i_22), (7, .slice a57 d_55.length k58), (8, .int .i64 k_56)]) (A := [sl (.slice a57 d_55.length k58) (d_55 : List Int), Cl tP [.slice ta tT.length tk, .int .i64 ti_54], os (.slice a27 s3_21.length k28) (s3_21 : List GSet), os (.slice a25 s2_20.length k26) (s2_20 : List GTransfer), os (.slice a23 s1_19.length k24) (s1_19 : List (List Int)), Cl p10 [.int .i64 (rv4.1 % 5), .slice a23 s1_19.length k24, .slice a25 s2_20.length k26, .slice a27 s3_21.length k28], Cl p3 [.int .i64 0, .slice none 0 0, .slice none 0 0, .slice none 0 0], sl (.slice ta tT.length tk) (tT : List Int)]) rfl rfl ?_
    refine JJ_fact 0 rfl sl_bytes ?_
    intro hl66
    have hl66 : d_55.length * 8 ≤ 140737488355328 := hl66
    refine JJ_fact 0 rfl sl_ok ?_
    intro ho67
    refine JJ_fact 2 rfl os_bytes ?_
    intro hl68
    have hl68 : s3_21.length * 32 ≤ 140737488355328 := hl68
    refine JJ_fact 3 rfl os_bytes ?_
    intro hl69
    have hl69 : s2_20.length * 88 ≤ 140737488355328 := hl69
    refine JJ_fact 4 rfl os_bytes ?_
    intro hl70
    have hl70 : s1_19.length * 24 ≤ 140737488355328 := hl70
    refine JJ_fact 7 rfl sl_bytes ?_
    intro hl71
    have hl71 : tT.length * 8 ≤ 140737488355328 := hl71
    refine JJ_fact 7 rfl sl_ok ?_
    intro ho72
    refine JK_seq ?_
    refine JK_seq ?_
    refine JK_region ?_
    refine JO_q rfl rfl rfl (OpV.move rfl rfl) ?_
    refine JO_q rfl rfl rfl (OpV.gtr rfl rfl rfl) ?_
    refine JO_nil ?_
    refine JK_cond (b := decide (0 < k_56)) rfl (fun (h73 : decide (0 < k_56) = true) => ?_) (fun (h73 : decide (0 < k_56) = false) => ?_)
    · skip
      have g74 : (0 < k_56) := of_decide_eq_true h73
      obtain ⟨r75, rfl⟩ : ∃ q, r53 = q + 1 := ⟨r53 - 1, by omega⟩
      refine JK_skip ?_
      refine JK_seq ?_
      refine JK_block ?_
      refine JK_region ?_
      refine JO_q rfl rfl rfl (OpV.move rfl rfl) ?_
      refine JO_q rfl rfl rfl (OpV.move rfl rfl) ?_
      refine JO_q rfl rfl rfl (OpV.move rfl rfl) ?_
      refine letv (Tape_Next tT ti_54 (1 + rv11.1)) fun rv76 hg77 => ?_
      have hc78 := fn8 tP ta tk tT ti_54 ((1 + rv11.1)) (by (try dsimp only) <;> first | (unfold i64ok; omega) | omega | assumption) (by (try dsimp only) <;> first | (unfold i64ok; omega) | omega | assumption) rv76 hg77
      refine JO_call [1, 6] rfl rfl rfl (OpC.fn rfl ca8 rfl) (hc78) rfl ?_
      rintro - ⟨he79, he80, he81⟩
      have he79 : -9223372036854775808 ≤ rv76.1 ∧ rv76.1 ≤ 9223372036854775807 := he79
      refine letv (flqref7_Insert d_55 rv76.1) fun rv83 hg84 => ?_
      have hc85 := fn17 d_55 a57 k58 rv76.1 (by (try dsimp only) <;> first | (unfold i64ok; omega) | omega | assumption) (by (try dsimp only) <;> first | (unfold i64ok; omega) | omega | assumption) rv83 hg84
      refine JO_call [1] rfl rfl rfl (OpC.fn rfl ca17 rfl) (hc85) rfl ?_
      rintro c82 he86
      refine JJ_slice 0 rfl sl_slice ?_
      rintro a87 k88 rfl
      refine JJ_fact 0 rfl sl_bytes ?_
      intro hl89
      have hl89 : rv83.length * 8 ≤ 140737488355328 := hl89
      refine JJ_fact 0 rfl sl_ok ?_
      intro ho90
      refine JO_q rfl rfl rfl (OpV.assign rfl rfl) ?_
      refine JO_nil ?_
      refine JK_blk ?_
      refine JK_region ?_
      refine JO_q rfl rfl rfl (OpV.move rfl rfl) ?_
      refine JO_q rfl rfl rfl (OpV.sub rfl rfl rfl (by unfold i64ok; omega)) ?_
      refine JO_q rfl rfl rfl (OpV.assign rfl rfl) ?_
      refine JO_nil ?_
      refine JK_goal (r75, rv76.2, rv83, (k_56 - 1), a87, k88) ⟨(by rw [← hM59]; simp only [Tape_System_L1, h44, h73, hg5, hg12, hg48, hg77, hg84, cs4]), (by omega), (by omega), (by omega), (by omega), (by omega), (by first | omega | (simp only [lens]; omega) | assumption)⟩ (by show r75 < r75 + 1; omega) (Env.sub_all rfl) (Ent.take (is := [0, 1, 2, 2, 2, 2, 2, 2]) rfl)
    · skip
      have g91 : ¬ (0 < k_56) := of_decide_eq_false h73
      obtain rfl : r53 = 0 := by omega
      refine JK_exit rfl ?_
      have hR92 : Tape_System_L1 tT (1 + rv11.1) ((rv47.1 : Int).toNat) rv47.2 [] rv47.1 = (ti_54, d_55) := by
        rw [← hM59]; simp only [Tape_System_L1, h44, h73, hg5, hg12, hg48, cs4]
      refine JK_seq ?_
      refine JK_region ?_
      refine JO_q rfl rfl rfl (OpV.fieldAddr rfl rfl fo27_0 (i := 5) rfl (isPtr_Cl _ _)) ?_
      refine JO_q rfl rfl rfl (OpV.loadF rfl rfl sh3 (i := 5) rfl (reads_Cl _ _) rfl) ?_
      refine letv (flqref1_Empty (rv4.1 % 5)) fun rv94 hg95 => ?_
      have hc96 := fn19 ((rv4.1 % 5)) (by (try dsimp only) <;> first | (unfold i64ok; omega) | omega | assumption) (by (try dsimp only) <;> first | (unfold i64ok; omega) | omega | assumption) rv94 hg95
      refine JO_call [] rfl rfl rfl (OpC.fn rfl ca19 rfl) (hc96) rfl ?_
      rintro c93 ⟨he97, he98, he99⟩
      have he97 : -9223372036854775808 ≤ rv94.Width ∧ rv94.Width ≤ 9223372036854775807 := he97
      refine JJ_slice 0 rfl os_slice ?_
      rintro a100 k101 rfl
      refine JJ_fact 0 rfl os_bytes ?_
      intro hl102
      have hl102 : rv94.Words.length * 8 ≤ 140737488355328 := hl102
      refine JO_act rfl rfl rfl (OpA.alloc rfl ze50) ?_
      intro p103
      refine JO_store rfl rfl (OpS.frame [0] rfl (OpS.storeCl [.int .i64 rv94.Width, .slice a100 rv94.Words.length k101] [.int .i64 rv94.Width, .slice a100 rv94.Words.length k101] rfl rfl rfl sh50 rfl rfl rfl (Nat.le_of_ble_eq_true rfl) rfl)) ?_
      refine JO_nil ?_
      refine JK_seq ?_
      refine JK_seq ?_
      refine JK_region ?_
      refine JO_q rfl rfl rfl (OpV.move rfl rfl) ?_
      refine letv (Tape_Next tT ti_54 3) fun rv104 hg105 => ?_
      have hc106 := fn8 tP ta tk tT ti_54 3 (by (try dsimp only) <;> first | (unfold i64ok; omega) | omega | assumption) (by (try dsimp only) <;> first | (unfold i64ok; omega) | omega | assumption) rv104 hg105
      refine JO_call [3, 8] rfl rfl rfl (OpC.fn rfl ca8 rfl) (hc106) rfl ?_
      rintro - ⟨he107, he108, he109⟩
      have he107 : -9223372036854775808 ≤ rv104.1 ∧ rv104.1 ≤ 9223372036854775807 := he107
      refine JO_q rfl rfl rfl (OpV.eql rfl rfl rfl) ?_
      refine JO_nil ?_
      refine JK_cond (b := (rv104.1 == 1)) rfl (fun (h110 : (rv104.1 == 1) = true) => ?_) (fun (h110 : (rv104.1 == 1) = false) => ?_)
      · skip
        have g111 : rv104.1 = 1 := eq_of_beq h110
        refine JK_region ?_
        refine JO_q rfl rfl rfl (OpV.move rfl rfl) ?_
        refine JO_q rfl rfl rfl (OpV.fieldAddr rfl rfl fo27_0 (i := 7) rfl (isPtr_Cl _ _)) ?_
        refine JO_q rfl rfl rfl (OpV.loadF rfl rfl sh3 (i := 7) rfl (reads_Cl _ _) rfl) ?_
        refine letv (Tape_Set tT rv104.2 (rv4.1 % 5)) fun rv113 hg114 => ?_
        have hc115 := fn20 tP ta tk tT rv104.2 ((rv4.1 % 5)) (by (try dsimp only) <;> first | (unfold i64ok; omega) | omega | assumption) (by (try dsimp only) <;> first | (unfold i64ok; omega) | omega | assumption) (by (try dsimp only) <;> first | (unfold i64ok; omega) | omega | assumption) rv113 hg114
        refine JO_call [0, 8] rfl rfl rfl (OpC.fn rfl ca20 rfl) (hc115) rfl ?_
        rintro c112 ⟨he116, he117, he118, he119⟩
        have he116 : -9223372036854775808 ≤ rv113.1.Width ∧ rv113.1.Width ≤ 9223372036854775807 := he116
        refine JJ_slice 0 rfl os_slice ?_
        rintro a120 k121 rfl
        refine JJ_fact 0 rfl os_bytes ?_
        intro hl122
        have hl122 : rv113.1.Words.length * 8 ≤ 140737488355328 := hl122
        refine JO_store rfl rfl (OpS.frame [2] rfl (OpS.storeCl [.int .i64 rv113.1.Width, .slice a120 rv113.1.Words.length k121] [.int .i64 rv113.1.Width, .slice a120 rv113.1.Words.length k121] rfl rfl rfl sh50 rfl rfl rfl (Nat.le_of_ble_eq_true rfl) rfl)) ?_
        refine JO_nil ?_
        refine JJ_fact 8 rfl isP_Cl ?_
        intro hp123
        refine JJ_addFact hp123 ?_
        refine letv (Tape_Transfer tT rv113.2 (rv4.1 % 5)) fun rv133 hg134 => ?_
        have hn126 : ((s1_19 ++ [d_55]) : List (List Int)).length = (s1_19 : List (List Int)).length + ([d_55] : List (List Int)).length := List.length_append
        have hn129 : ((s3_21 ++ [rv113.1]) : List GSet).length = (s3_21 : List GSet).length + ([rv113.1] : List GSet).length := List.length_append
        have hn137 : ((s2_20 ++ [rv133.1]) : List GTransfer).length = (s2_20 : List GTransfer).length + ([rv133.1] : List GTransfer).length := List.length_append
        refine JK_drawJ [0, 1, 0, 4, 15, 0, 32, 0, 128, 511, 0, 1024, 0, 0, 8192, 29695, 62463, 131071, 27775, 524287, 1048575, 2097151, 4194303, 8388607] [none, none, some 9, some 15, none, none, some 9, some 17, some 4, some 19] fmix ?_
        refine JD_v [0] (wn rfl) rfl rfl (OpV.fieldAddr rfl rfl fo27_1 (i := 0) rfl (isPtr_fact _)) ?_
        refine JD_v [9] (wn rfl) rfl rfl (OpV.loadF rfl rfl sh23 (i := 0) rfl (reads_Cl _ _) rfl) ?_
        refine JD_v [] (wn rfl) rfl rfl (OpV.move rfl rfl) ?_
        refine JD_x [] [3] (fun lG => ((lG.getD 0 []).getD 0 undef)) [⟨some 3, some 4, [3], fun lG => Cr ((lG.getD 0 []).getD 0 undef) 1 [.slice a57 d_55.length k58]⟩] (wn rfl) rfl rfl rfl (fun G => by refine OpX.n3 (A' := []) (V' := fun g => (g.getD 0 undef)) (B' := fun g => [Cr (g.getD 0 undef) 1 [.slice a57 d_55.length k58]]) (by kernel_rfl) (by kernel_rfl) (by kernel_rfl) ?_; refine OpX.postR (OpX.ofA (by intro _ _ h; cases h) (OpA.buildSliceV [.slice a57 d_55.length k58] [.slice a57 d_55.length k58] rfl sl23 sz23 rfl (Env.evp_map rfl) rfl rfl rfl rfl)) (fun g => ?_); exact Ent.take (is := [0]) rfl) ?_
        refine JD_x [5, 8, 12] [4] (fun lG => ((lG.getD 0 []).getD 0 undef)) [⟨some 4, none, [4], fun lG => os (((lG.getD 0 []).getD 0 undef)) ((s1_19 ++ [d_55]) : List (List Int))⟩] (wn rfl) rfl rfl rfl (fun G => by refine OpX.n3 (A' := [sl (.slice a57 d_55.length k58) (d_55 : List Int), os (.slice a23 s1_19.length k24) (s1_19 : List (List Int)), Cr ((G 3).getD 0 undef) 1 [.slice a57 d_55.length k58]]) (V' := fun g => (g.getD 0 undef)) (B' := fun g => [sl (.slice a57 d_55.length k58) (d_55 : List Int), os ((g.getD 0 undef)) ((s1_19 ++ [d_55]) : List (List Int))]) (by kernel_rfl) (by kernel_rfl) (by kernel_rfl) ?_; refine OpX.pre [2, 0] rfl (Ent.cr1 (α := List Int) (A := [sl (.slice a57 d_55.length k58) (d_55 : List Int)]) _ d_55 _ (Nat.le_of_ble_eq_true rfl) (fun h => ⟨_, rfl, sepAll_get (i := 0) rfl h⟩)) ?_; refine OpX.seeL (L' := [(45, .slice a23 s1_19.length k24), (47, ((G 3).getD 0 undef))]) (Env.sub_all (by kernel_rfl)) ?_; refine OpX.postR (OpX.ofA (by intro _ _ h; cases h) (OpA.frame [3, 0] rfl (OpA.appO (α := List Int) (xs := s1_19) (ys := [d_55]) rfl rfl rfl sl23 sl23 sz23 rfl rfl rfl (by show (_ + _) * 24 ≤ 140737488355328; first | omega | (simp only [lens]; omega) | (simp only [lens] at *; omega))))) (fun g => ?_); exact Ent.take (is := [1, 0]) rfl) ?_
        refine JD_v [0] (wn rfl) rfl rfl (OpV.fieldAddr rfl rfl fo27_3 (i := 0) rfl (isPtr_fact _)) ?_
        refine JD_v [9] (wn rfl) rfl rfl (OpV.loadF rfl rfl sh25 (i := 0) rfl (reads_Cl _ _) rfl) ?_
        refine JD_v [1] (wn rfl) rfl rfl (OpV.loadA rfl rfl sh50 (i := 0) rfl (reads_Cl _ _) rfl) ?_
        refine JD_x [] [8] (fun lG => ((lG.getD 0 []).getD 0 undef)) [⟨some 8, some 9, [8], fun lG => Cr ((lG.getD 0 []).getD 0 undef) 1 [.int .i64 rv113.1.Width, .slice a120 rv113.1.Words.length k121]⟩] (wn rfl) rfl rfl rfl (fun G => by refine OpX.n3 (A' := []) (V' := fun g => (g.getD 0 undef)) (B' := fun g => [Cr (g.getD 0 undef) 1 [.int .i64 rv113.1.Width, .slice a120 rv113.1.Words.length k121]]) (by kernel_rfl) (by kernel_rfl) (by kernel_rfl) ?_; refine OpX.postR (OpX.ofA (by intro _ _ h; cases h) (OpA.buildSliceV [.agg #[.int .i64 rv113.1.Width, .slice a120 rv113.1.Words.length k121]] [.int .i64 rv113.1.Width, .slice a120 rv113.1.Words.length k121] rfl sl25 sz25 rfl (Env.evp_map rfl) rfl rfl rfl rfl)) (fun g => ?_); exact Ent.take (is := [0]) rfl) ?_
        refine JD_x [2, 6, 14] [9] (fun lG => ((lG.getD 0 []).getD 0 undef)) [⟨some 9, none, [], fun lG => sl (.slice a120 rv113.1.Words.length k121) (rv113.1.Words : List (BitVec 64))⟩, ⟨some 9, none, [9], fun lG => os (((lG.getD 0 []).getD 0 undef)) ((s3_21 ++ [rv113.1]) : List GSet)⟩] (wn rfl) rfl rfl rfl (fun G => by refine OpX.n3 (A' := [os (.slice a120 rv113.1.Words.length k121) (rv113.1.Words : List (BitVec 64)), os (.slice a27 s3_21.length k28) (s3_21 : List GSet), Cr ((G 8).getD 0 undef) 1 [.int .i64 rv113.1.Width, .slice a120 rv113.1.Words.length k121]]) (V' := fun g => (g.getD 0 undef)) (B' := fun g => [sl (.slice a120 rv113.1.Words.length k121) (rv113.1.Words : List (BitVec 64)), os ((g.getD 0 undef)) ((s3_21 ++ [rv113.1]) : List GSet)]) (by kernel_rfl) (by kernel_rfl) (by kernel_rfl) ?_; refine OpX.pre [0] rfl (Ent.freeze _ _) ?_; refine OpX.pre [2, 0] rfl (Ent.cr1 (α := GSet) (A := [sl (.slice a120 rv113.1.Words.length k121) (rv113.1.Words : List (BitVec 64))]) _ rv113.1 _ (Nat.le_of_ble_eq_true rfl) (fun h => ⟨_, rfl, (by unfold i64ok; first | omega | (dsimp only; omega)), sepAll_get (i := 0) rfl h⟩)) ?_; refine OpX.seeL (L' := [(50, .slice a27 s3_21.length k28), (52, ((G 8).getD 0 undef))]) (Env.sub_all (by kernel_rfl)) ?_; refine OpX.postR (OpX.ofA (by intro _ _ h; cases h) (OpA.frame [3, 0] rfl (OpA.appO (α := GSet) (xs := s3_21) (ys := [rv113.1]) rfl rfl rfl sl25 sl25 sz25 rfl rfl rfl (by show (_ + _) * 32 ≤ 140737488355328; first | omega | (simp only [lens]; omega) | (simp only [lens] at *; omega))))) (fun g => ?_); exact Ent.take (is := [1, 0]) rfl) ?_
        refine JD_v [0] (wn rfl) rfl rfl (OpV.fieldAddr rfl rfl fo27_2 (i := 0) rfl (isPtr_fact _)) ?_
        refine JD_v [9] (wn rfl) rfl rfl (OpV.loadF rfl rfl sh24 (i := 0) rfl (reads_Cl _ _) rfl) ?_
        refine JD_v [] (wn rfl) rfl rfl (OpV.move rfl rfl) ?_
        refine JD_v [0] (wn rfl) rfl rfl (OpV.fieldAddr rfl rfl fo27_0 (i := 0) rfl (isPtr_fact _)) ?_
        refine JD_v [9] (wn rfl) rfl rfl (OpV.loadF rfl rfl sh3 (i := 0) rfl (reads_Cl _ _) rfl) ?_
        refine JD_x [3, 11] [15] (fun lG => .agg #[.int .i64 rv133.1.Gen.Width, ((lG.getD 0 []).getD 0 undef), .int .i64 rv133.1.Kill.Width, ((lG.getD 0 []).getD 1 undef), ((lG.getD 0 []).getD 2 undef)]) [⟨some 15, none, [], fun lG => SP.fact (i64ok rv133.1.Gen.Width ∧ i64ok rv133.1.Kill.Width ∧ (0 ≤ rv133.2 ∧ rv133.2 ≤ (tT.length : Int)) ∧ (rv133.1.Gen.Width = (rv4.1 % 5)) ∧ (rv133.1.Kill.Width = (rv4.1 % 5)) ∧ (rv133.1.Copies.length ≤ 12))⟩, ⟨some 15, none, [15], fun lG => sl (((lG.getD 0 []).getD 0 undef)) (rv133.1.Gen.Words : List (BitVec 64))⟩, ⟨some 15, none, [15], fun lG => sl (((lG.getD 0 []).getD 1 undef)) (rv133.1.Kill.Words : List (BitVec 64))⟩, ⟨some 15, none, [15], fun lG => sl (((lG.getD 0 []).getD 2 undef)) (rv133.1.Copies : List GCopy)⟩, ⟨some 15, none, [], fun lG => Cl tP [.slice ta tT.length tk, .int .i64 rv133.2]⟩] (wn rfl) rfl rfl rfl (fun G => by refine OpX.n3 (A' := [Cl tP [.slice ta tT.length tk, .int .i64 rv113.2], sl (.slice ta tT.length tk) (tT : List Int)]) (V' := fun g => .agg #[.int .i64 rv133.1.Gen.Width, (g.getD 0 undef), .int .i64 rv133.1.Kill.Width, (g.getD 1 undef), (g.getD 2 undef)]) (B' := fun g => [sl (.slice ta tT.length tk) (tT : List Int), SP.fact (i64ok rv133.1.Gen.Width ∧ i64ok rv133.1.Kill.Width ∧ (0 ≤ rv133.2 ∧ rv133.2 ≤ (tT.length : Int)) ∧ (rv133.1.Gen.Width = (rv4.1 % 5)) ∧ (rv133.1.Kill.Width = (rv4.1 % 5)) ∧ (rv133.1.Copies.length ≤ 12)), sl ((g.getD 0 undef)) (rv133.1.Gen.Words : List (BitVec 64)), sl ((g.getD 1 undef)) (rv133.1.Kill.Words : List (BitVec 64)), sl ((g.getD 2 undef)) (rv133.1.Copies : List GCopy), Cl tP [.slice ta tT.length tk, .int .i64 rv133.2]]) (by kernel_rfl) (by kernel_rfl) (by kernel_rfl) ?_; refine OpX.postR (OpX.frame [0, 0] rfl (OpX.ofC (fun g => [g.1, g.2.1, g.2.2]) (fun l => (l.getD 0 undef, l.getD 1 undef, l.getD 2 undef)) (fun _ => rfl) (by intro _ _ h; cases h) (OpC.fn rfl ca21 rfl) (fn21 tP ta tk tT rv113.2 ((rv4.1 % 5)) (by (try dsimp only) <;> first | (unfold i64ok; omega) | omega | assumption) (by (try dsimp only) <;> first | (unfold i64ok; omega) | omega | assumption) (by (try dsimp only) <;> first | (unfold i64ok; omega) | omega | assumption) rv133 hg134))) (fun g => ?_); exact Ent.take (is := [5, 0, 1, 2, 3, 4]) rfl) ?_
        refine JD_x [] [16] (fun lG => ((lG.getD 0 []).getD 0 undef)) [⟨some 16, some 17, [15, 16], fun lG => Cr ((lG.getD 1 []).getD 0 undef) 1 [.int .i64 rv133.1.Gen.Width, ((lG.getD 0 []).getD 0 undef), .int .i64 rv133.1.Kill.Width, ((lG.getD 0 []).getD 1 undef), ((lG.getD 0 []).getD 2 undef)]⟩] (wn rfl) rfl rfl rfl (fun G => by refine OpX.n3 (A' := []) (V' := fun g => (g.getD 0 undef)) (B' := fun g => [Cr (g.getD 0 undef) 1 [.int .i64 rv133.1.Gen.Width, ((G 15).getD 0 undef), .int .i64 rv133.1.Kill.Width, ((G 15).getD 1 undef), ((G 15).getD 2 undef)]]) (by kernel_rfl) (by kernel_rfl) (by kernel_rfl) ?_; refine OpX.seeL (L' := [(59, .agg #[.int .i64 rv133.1.Gen.Width, ((G 15).getD 0 undef), .int .i64 rv133.1.Kill.Width, ((G 15).getD 1 undef), ((G 15).getD 2 undef)])]) (Env.sub_all (by kernel_rfl)) ?_; refine OpX.postR (OpX.ofA (by intro _ _ h; cases h) (OpA.buildSliceV [.agg #[.int .i64 rv133.1.Gen.Width, ((G 15).getD 0 undef), .int .i64 rv133.1.Kill.Width, ((G 15).getD 1 undef), ((G 15).getD 2 undef)]] [.int .i64 rv133.1.Gen.Width, ((G 15).getD 0 undef), .int .i64 rv133.1.Kill.Width, ((G 15).getD 1 undef), ((G 15).getD 2 undef)] rfl sl24 sz24 rfl (Env.evp_map rfl) rfl rfl rfl rfl)) (fun g => ?_); exact Ent.take (is := [0]) rfl) ?_
        refine JD_x [7, 17, 18, 19, 20, 22] [17] (fun lG => ((lG.getD 0 []).getD 0 undef)) [⟨some 17, none, [17], fun lG => os (((lG.getD 0 []).getD 0 undef)) ((s2_20 ++ [rv133.1]) : List GTransfer)⟩] (wn rfl) rfl rfl rfl (fun G => by refine OpX.n3 (A' := [os (.slice a25 s2_20.length k26) (s2_20 : List GTransfer), SP.fact (i64ok rv133.1.Gen.Width ∧ i64ok rv133.1.Kill.Width ∧ (0 ≤ rv133.2 ∧ rv133.2 ≤ (tT.length : Int)) ∧ (rv133.1.Gen.Width = (rv4.1 % 5)) ∧ (rv133.1.Kill.Width = (rv4.1 % 5)) ∧ (rv133.1.Copies.length ≤ 12)), sl (((G 15).getD 0 undef)) (rv133.1.Gen.Words : List (BitVec 64)), sl (((G 15).getD 1 undef)) (rv133.1.Kill.Words : List (BitVec 64)), sl (((G 15).getD 2 undef)) (rv133.1.Copies : List GCopy), Cr ((G 16).getD 0 undef) 1 [.int .i64 rv133.1.Gen.Width, ((G 15).getD 0 undef), .int .i64 rv133.1.Kill.Width, ((G 15).getD 1 undef), ((G 15).getD 2 undef)]]) (V' := fun g => (g.getD 0 undef)) (B' := fun g => [SP.fact (i64ok rv133.1.Gen.Width ∧ i64ok rv133.1.Kill.Width ∧ (0 ≤ rv133.2 ∧ rv133.2 ≤ (tT.length : Int)) ∧ (rv133.1.Gen.Width = (rv4.1 % 5)) ∧ (rv133.1.Kill.Width = (rv4.1 % 5)) ∧ (rv133.1.Copies.length ≤ 12)), sl (((G 15).getD 0 undef)) (rv133.1.Gen.Words : List (BitVec 64)), sl (((G 15).getD 1 undef)) (rv133.1.Kill.Words : List (BitVec 64)), sl (((G 15).getD 2 undef)) (rv133.1.Copies : List GCopy), os ((g.getD 0 undef)) ((s2_20 ++ [rv133.1]) : List GTransfer)]) (by kernel_rfl) (by kernel_rfl) (by kernel_rfl) ?_; refine OpX.fact 1 rfl (fun h => h) ?_; rintro ⟨he138, he139, he140, he141, he142, he143⟩; have he138 : -9223372036854775808 ≤ rv133.1.Gen.Width ∧ rv133.1.Gen.Width ≤ 9223372036854775807 := he138; have he139 : -9223372036854775808 ≤ rv133.1.Kill.Width ∧ rv133.1.Kill.Width ≤ 9223372036854775807 := he139; refine OpX.pre [5, 2, 3, 4] rfl (Ent.cr1 (α := GTransfer) (A := [sl (((G 15).getD 0 undef)) (rv133.1.Gen.Words : List (BitVec 64)), sl (((G 15).getD 1 undef)) (rv133.1.Kill.Words : List (BitVec 64)), sl (((G 15).getD 2 undef)) (rv133.1.Copies : List GCopy)]) _ rv133.1 _ (Nat.le_of_ble_eq_true rfl) (fun h => ⟨_, _, _, rfl, (by unfold i64ok; first | omega | (dsimp only; omega)), sepAll_get (i := 0) rfl h, (by unfold i64ok; first | omega | (dsimp only; omega)), sepAll_get (i := 1) rfl h, sepAll_get (i := 2) rfl h⟩)) ?_; refine OpX.seeL (L' := [(55, .slice a25 s2_20.length k26), (60, ((G 16).getD 0 undef))]) (Env.sub_all (by kernel_rfl)) ?_; refine OpX.postR (OpX.ofA (by intro _ _ h; cases h) (OpA.frame [4, 0] rfl (OpA.appO (α := GTransfer) (xs := s2_20) (ys := [rv133.1]) rfl rfl rfl sl24 sl24 sz24 rfl rfl rfl (by show (_ + _) * 88 ≤ 140737488355328; first | omega | (simp only [lens]; omega) | (simp only [lens] at *; omega))))) (fun g => ?_); exact Ent.take (is := [4, 1, 2, 3, 0]) rfl) ?_
        refine JD_v [0] (wn rfl) rfl rfl (OpV.fieldAddr rfl rfl fo27_1 (i := 0) rfl (isPtr_fact _)) ?_
        refine JD_x0 [9, 13] [⟨some 19, some 21, [4], fun lG => Cl p10 [.int .i64 (rv4.1 % 5), ((lG.getD 0 []).getD 0 undef), .slice a25 s2_20.length k26, .slice a27 s3_21.length k28]⟩] (wn rfl) rfl rfl rfl (fun G => by refine OpX.n3 (A' := [Cl p10 [.int .i64 (rv4.1 % 5), .slice a23 s1_19.length k24, .slice a25 s2_20.length k26, .slice a27 s3_21.length k28], os (((G 4).getD 0 undef)) ((s1_19 ++ [d_55]) : List (List Int))]) (V' := fun g => undef) (B' := fun g => [os (((G 4).getD 0 undef)) ((s1_19 ++ [d_55]) : List (List Int)), Cl p10 [.int .i64 (rv4.1 % 5), ((G 4).getD 0 undef), .slice a25 s2_20.length k26, .slice a27 s3_21.length k28]]) (by kernel_rfl) (by kernel_rfl) (by kernel_rfl) ?_; refine OpX.fact 1 rfl os_one ?_; intro ho144; refine OpX.seeL (L' := [(48, ((G 4).getD 0 undef)), (62, fptr p10 1)]) (Env.sub_all (by kernel_rfl)) ?_; refine OpX.postR (OpX.ofS (by intro _ _ h; cases h) rfl (OpS.frame [0] rfl (OpS.storeClF [((G 4).getD 0 undef)] [.int .i64 (rv4.1 % 5), ((G 4).getD 0 undef), .slice a25 s2_20.length k26, .slice a27 s3_21.length k28] rfl rfl rfl sh23 (cells_of_one ho144) rfl (by simp only [List.all_cons, List.all_nil, ho144, Bool.and_true, Bool.true_and] <;> rfl) (Nat.le_of_ble_eq_true rfl) rfl))) (fun g => ?_); exact Ent.take (is := [1, 0]) rfl) ?_
        refine JD_v [0] (wn rfl) rfl rfl (OpV.fieldAddr rfl rfl fo27_3 (i := 0) rfl (isPtr_fact _)) ?_
        refine JD_x0 [16, 24] [⟨some 21, some 23, [4, 9], fun lG => Cl p10 [.int .i64 (rv4.1 % 5), ((lG.getD 0 []).getD 0 undef), .slice a25 s2_20.length k26, ((lG.getD 1 []).getD 0 undef)]⟩] (wn rfl) rfl rfl rfl (fun G => by refine OpX.n3 (A' := [os (((G 9).getD 0 undef)) ((s3_21 ++ [rv113.1]) : List GSet), Cl p10 [.int .i64 (rv4.1 % 5), ((G 4).getD 0 undef), .slice a25 s2_20.length k26, .slice a27 s3_21.length k28]]) (V' := fun g => undef) (B' := fun g => [os (((G 9).getD 0 undef)) ((s3_21 ++ [rv113.1]) : List GSet), Cl p10 [.int .i64 (rv4.1 % 5), ((G 4).getD 0 undef), .slice a25 s2_20.length k26, ((G 9).getD 0 undef)]]) (by kernel_rfl) (by kernel_rfl) (by kernel_rfl) ?_; refine OpX.fact 0 rfl os_one ?_; intro ho145; refine OpX.seeL (L' := [(53, ((G 9).getD 0 undef)), (63, fptr p10 3)]) (Env.sub_all (by kernel_rfl)) ?_; refine OpX.postR (OpX.ofS (by intro _ _ h; cases h) rfl (OpS.frame [1] rfl (OpS.storeClF [((G 9).getD 0 undef)] [.int .i64 (rv4.1 % 5), ((G 4).getD 0 undef), .slice a25 s2_20.length k26, ((G 9).getD 0 undef)] rfl rfl rfl sh25 (cells_of_one ho145) rfl (by simp only [List.all_cons, List.all_nil, ho145, Bool.and_true, Bool.true_and] <;> rfl) (Nat.le_of_ble_eq_true rfl) rfl))) (fun g => ?_); exact Ent.take (is := [1, 0]) rfl) ?_
        refine JD_v [0] (wn rfl) rfl rfl (OpV.fieldAddr rfl rfl fo27_2 (i := 0) rfl (isPtr_fact _)) ?_
        refine JD_x0 [23, 25] [⟨some 23, none, [4, 9, 17], fun lG => Cl p10 [.int .i64 (rv4.1 % 5), ((lG.getD 0 []).getD 0 undef), ((lG.getD 2 []).getD 0 undef), ((lG.getD 1 []).getD 0 undef)]⟩] (wn rfl) rfl rfl rfl (fun G => by refine OpX.n3 (A' := [os (((G 17).getD 0 undef)) ((s2_20 ++ [rv133.1]) : List GTransfer), Cl p10 [.int .i64 (rv4.1 % 5), ((G 4).getD 0 undef), .slice a25 s2_20.length k26, ((G 9).getD 0 undef)]]) (V' := fun g => undef) (B' := fun g => [os (((G 17).getD 0 undef)) ((s2_20 ++ [rv133.1]) : List GTransfer), Cl p10 [.int .i64 (rv4.1 % 5), ((G 4).getD 0 undef), ((G 17).getD 0 undef), ((G 9).getD 0 undef)]]) (by kernel_rfl) (by kernel_rfl) (by kernel_rfl) ?_; refine OpX.fact 0 rfl os_one ?_; intro ho146; refine OpX.seeL (L' := [(61, ((G 17).getD 0 undef)), (64, fptr p10 2)]) (Env.sub_all (by kernel_rfl)) ?_; refine OpX.postR (OpX.ofS (by intro _ _ h; cases h) rfl (OpS.frame [1] rfl (OpS.storeClF [((G 17).getD 0 undef)] [.int .i64 (rv4.1 % 5), ((G 4).getD 0 undef), ((G 17).getD 0 undef), ((G 9).getD 0 undef)] rfl rfl rfl sh24 (cells_of_one ho146) rfl (by simp only [List.all_cons, List.all_nil, ho146, Bool.and_true, Bool.true_and] <;> rfl) (Nat.le_of_ble_eq_true rfl) rfl))) (fun g => ?_); exact Ent.take (is := [1, 0]) rfl) ?_
        refine JD_nil ⟨by kernel_rfl, fun G => ?_⟩
        refine JJ_weaken (L' := [(0, tP), (4, p3), (5, p10), (1, .int .i64 (1 + rv11.1)), (6, .int .i64 i_22)]) (A' := [SP.fact (isP p10), Cl p103 [.int .i64 rv113.1.Width, .slice a120 rv113.1.Words.length k121], os (.slice a100 rv94.Words.length k101) (rv94.Words : List (BitVec 64)), sl (.slice a57 d_55.length k58) (d_55 : List Int), Cl p3 [.int .i64 0, .slice none 0 0, .slice none 0 0, .slice none 0 0], sl (.slice ta tT.length tk) (tT : List Int), os (((G 4).getD 0 undef)) ((s1_19 ++ [d_55]) : List (List Int)), sl (.slice a120 rv113.1.Words.length k121) (rv113.1.Words : List (BitVec 64)), os (((G 9).getD 0 undef)) ((s3_21 ++ [rv113.1]) : List GSet), SP.fact (i64ok rv133.1.Gen.Width ∧ i64ok rv133.1.Kill.Width ∧ (0 ≤ rv133.2 ∧ rv133.2 ≤ (tT.length : Int)) ∧ (rv133.1.Gen.Width = (rv4.1 % 5)) ∧ (rv133.1.Kill.Width = (rv4.1 % 5)) ∧ (rv133.1.Copies.length ≤ 12)), sl (((G 15).getD 0 undef)) (rv133.1.Gen.Words : List (BitVec 64)), sl (((G 15).getD 1 undef)) (rv133.1.Kill.Words : List (BitVec 64)), sl (((G 15).getD 2 undef)) (rv133.1.Copies : List GCopy), Cl tP [.slice ta tT.length tk, .int .i64 rv133.2], os (((G 17).getD 0 undef)) ((s2_20 ++ [rv133.1]) : List GTransfer), Cl p10 [.int .i64 (rv4.1 % 5), ((G 4).getD 0 undef), ((G 17).getD 0 undef), ((G 9).getD 0 undef)]]) (Env.sub_all (by kernel_rfl)) (Ent.of_eq (by kernel_rfl)) ?_
        generalize ((G 4).getD 0 undef) = c125
        generalize ((G 9).getD 0 undef) = c128
        generalize ((G 15).getD 0 undef) = c130
        generalize ((G 15).getD 1 undef) = c131
        generalize ((G 15).getD 2 undef) = c132
        generalize ((G 17).getD 0 undef) = c136
        refine JJ_fact 9 rfl (fun h => h) ?_
        rintro ⟨he147, he148, he149, he150, he151, he152⟩
        have he147 : -9223372036854775808 ≤ rv133.1.Gen.Width ∧ rv133.1.Gen.Width ≤ 9223372036854775807 := he147
        have he148 : -9223372036854775808 ≤ rv133.1.Kill.Width ∧ rv133.1.Kill.Width ≤ 9223372036854775807 := he148
        refine JJ_keep [1, 1, 1, 2, 2, 3, 3, 4, 5, 6, 7, 8, 8, 8] rfl ?_
        refine JJ_slice 5 rfl os_slice ?_
        rintro a153 k154 rfl
        refine JJ_fact 5 rfl os_bytes ?_
        intro hl155
        have hl155 : (s1_19 ++ [d_55]).length * 24 ≤ 140737488355328 := hl155
        refine JJ_slice 7 rfl os_slice ?_
        rintro a156 k157 rfl
        refine JJ_fact 7 rfl os_bytes ?_
        intro hl158
        have hl158 : (s3_21 ++ [rv113.1]).length * 32 ≤ 140737488355328 := hl158
        refine JJ_slice 8 rfl sl_slice ?_
        rintro a159 k160 rfl
        refine JJ_fact 8 rfl sl_bytes ?_
        intro hl161
        have hl161 : rv133.1.Gen.Words.length * 8 ≤ 140737488355328 := hl161
        refine JJ_slice 9 rfl sl_slice ?_
        rintro a162 k163 rfl
        refine JJ_fact 9 rfl sl_bytes ?_
        intro hl164
        have hl164 : rv133.1.Kill.Words.length * 8 ≤ 140737488355328 := hl164
        refine JJ_slice 10 rfl sl_slice ?_
        rintro a165 k166 rfl
        refine JJ_fact 10 rfl sl_bytes ?_
        intro hl167
        have hl167 : rv133.1.Copies.length * 16 ≤ 140737488355328 := hl167
        refine JJ_slice 12 rfl os_slice ?_
        rintro a168 k169 rfl
        refine JJ_fact 12 rfl os_bytes ?_
        intro hl170
        have hl170 : (s2_20 ++ [rv133.1]).length * 88 ≤ 140737488355328 := hl170
        refine JK_blk ?_
        refine JK_region ?_
        refine JO_q rfl rfl rfl (OpV.move rfl rfl) ?_
        refine JO_q rfl rfl rfl (OpV.add rfl rfl rfl (by unfold i64ok; omega)) ?_
        refine JO_q rfl rfl rfl (OpV.assign rfl rfl) ?_
        refine JO_nil ?_
        refine JK_goal (r46, rv133.2, (s1_19 ++ [d_55]), (s2_20 ++ [rv133.1]), (s3_21 ++ [rv113.1]), (i_22 + 1), a153, k154, a168, k169, a156, k157) ⟨(by rw [← hM29]; simp only [Tape_System_L0, h44, h73, h110, hg5, hg12, hg48, hR92, hg95, hg105, hg114, hg134, cs4]), (by omega), (by omega), (by omega), (by omega), (by omega), (by omega), (by first | omega | (simp only [lens]; omega) | assumption), (by first | omega | (simp only [lens]; omega) | assumption), (by first | omega | (simp only [lens]; omega) | assumption)⟩ (by show r46 < r46 + 1; omega) (Env.sub_all rfl) (Ent.take (is := [7, 11, 5, 9, 9, 3, 3]) rfl)
      · skip
        have g171 : rv104.1 ≠ 1 := ne_of_beq_false h110
        refine JK_skip ?_
        refine JJ_fact 7 rfl isP_Cl ?_
        intro hp172
        refine JJ_addFact hp172 ?_
        refine letv (Tape_Transfer tT rv104.2 (rv4.1 % 5)) fun rv182 hg183 => ?_
        have hn175 : ((s1_19 ++ [d_55]) : List (List Int)).length = (s1_19 : List (List Int)).length + ([d_55] : List (List Int)).length := List.length_append
        have hn178 : ((s3_21 ++ [rv94]) : List GSet).length = (s3_21 : List GSet).length + ([rv94] : List GSet).length := List.length_append
        have hn186 : ((s2_20 ++ [rv182.1]) : List GTransfer).length = (s2_20 : List GTransfer).length + ([rv182.1] : List GTransfer).length := List.length_append
        refine JK_drawJ [0, 1, 0, 4, 15, 0, 32, 0, 128, 511, 0, 1024, 0, 0, 8192, 29695, 62463, 131071, 27775, 524287, 1048575, 2097151, 4194303, 8388607] [none, some 15, none, some 9, none, some 9, some 17, some 4, some 19] fmix ?_
        refine JD_v [0] (wn rfl) rfl rfl (OpV.fieldAddr rfl rfl fo27_1 (i := 0) rfl (isPtr_fact _)) ?_
        refine JD_v [8] (wn rfl) rfl rfl (OpV.loadF rfl rfl sh23 (i := 0) rfl (reads_Cl _ _) rfl) ?_
        refine JD_v [] (wn rfl) rfl rfl (OpV.move rfl rfl) ?_
        refine JD_x [] [3] (fun lG => ((lG.getD 0 []).getD 0 undef)) [⟨some 3, some 4, [3], fun lG => Cr ((lG.getD 0 []).getD 0 undef) 1 [.slice a57 d_55.length k58]⟩] (wn rfl) rfl rfl rfl (fun G => by refine OpX.n3 (A' := []) (V' := fun g => (g.getD 0 undef)) (B' := fun g => [Cr (g.getD 0 undef) 1 [.slice a57 d_55.length k58]]) (by kernel_rfl) (by kernel_rfl) (by kernel_rfl) ?_; refine OpX.postR (OpX.ofA (by intro _ _ h; cases h) (OpA.buildSliceV [.slice a57 d_55.length k58] [.slice a57 d_55.length k58] rfl sl23 sz23 rfl (Env.evp_map rfl) rfl rfl rfl rfl)) (fun g => ?_); exact Ent.take (is := [0]) rfl) ?_
        refine JD_x [4, 7, 11] [4] (fun lG => ((lG.getD 0 []).getD 0 undef)) [⟨some 4, none, [4], fun lG => os (((lG.getD 0 []).getD 0 undef)) ((s1_19 ++ [d_55]) : List (List Int))⟩] (wn rfl) rfl rfl rfl (fun G => by refine OpX.n3 (A' := [sl (.slice a57 d_55.length k58) (d_55 : List Int), os (.slice a23 s1_19.length k24) (s1_19 : List (List Int)), Cr ((G 3).getD 0 undef) 1 [.slice a57 d_55.length k58]]) (V' := fun g => (g.getD 0 undef)) (B' := fun g => [sl (.slice a57 d_55.length k58) (d_55 : List Int), os ((g.getD 0 undef)) ((s1_19 ++ [d_55]) : List (List Int))]) (by kernel_rfl) (by kernel_rfl) (by kernel_rfl) ?_; refine OpX.pre [2, 0] rfl (Ent.cr1 (α := List Int) (A := [sl (.slice a57 d_55.length k58) (d_55 : List Int)]) _ d_55 _ (Nat.le_of_ble_eq_true rfl) (fun h => ⟨_, rfl, sepAll_get (i := 0) rfl h⟩)) ?_; refine OpX.seeL (L' := [(45, .slice a23 s1_19.length k24), (47, ((G 3).getD 0 undef))]) (Env.sub_all (by kernel_rfl)) ?_; refine OpX.postR (OpX.ofA (by intro _ _ h; cases h) (OpA.frame [3, 0] rfl (OpA.appO (α := List Int) (xs := s1_19) (ys := [d_55]) rfl rfl rfl sl23 sl23 sz23 rfl rfl rfl (by show (_ + _) * 24 ≤ 140737488355328; first | omega | (simp only [lens]; omega) | (simp only [lens] at *; omega))))) (fun g => ?_); exact Ent.take (is := [1, 0]) rfl) ?_
        refine JD_v [0] (wn rfl) rfl rfl (OpV.fieldAddr rfl rfl fo27_3 (i := 0) rfl (isPtr_fact _)) ?_
        refine JD_v [8] (wn rfl) rfl rfl (OpV.loadF rfl rfl sh25 (i := 0) rfl (reads_Cl _ _) rfl) ?_
        refine JD_v [2] (wn rfl) rfl rfl (OpV.loadA rfl rfl sh50 (i := 0) rfl (reads_Cl _ _) rfl) ?_
        refine JD_x [] [8] (fun lG => ((lG.getD 0 []).getD 0 undef)) [⟨some 8, some 9, [8], fun lG => Cr ((lG.getD 0 []).getD 0 undef) 1 [.int .i64 rv94.Width, .slice a100 rv94.Words.length k101]⟩] (wn rfl) rfl rfl rfl (fun G => by refine OpX.n3 (A' := []) (V' := fun g => (g.getD 0 undef)) (B' := fun g => [Cr (g.getD 0 undef) 1 [.int .i64 rv94.Width, .slice a100 rv94.Words.length k101]]) (by kernel_rfl) (by kernel_rfl) (by kernel_rfl) ?_; refine OpX.postR (OpX.ofA (by intro _ _ h; cases h) (OpA.buildSliceV [.agg #[.int .i64 rv94.Width, .slice a100 rv94.Words.length k101]] [.int .i64 rv94.Width, .slice a100 rv94.Words.length k101] rfl sl25 sz25 rfl (Env.evp_map rfl) rfl rfl rfl rfl)) (fun g => ?_); exact Ent.take (is := [0]) rfl) ?_
        refine JD_x [3, 5, 13] [9] (fun lG => ((lG.getD 0 []).getD 0 undef)) [⟨some 9, none, [], fun lG => sl (.slice a100 rv94.Words.length k101) (rv94.Words : List (BitVec 64))⟩, ⟨some 9, none, [9], fun lG => os (((lG.getD 0 []).getD 0 undef)) ((s3_21 ++ [rv94]) : List GSet)⟩] (wn rfl) rfl rfl rfl (fun G => by refine OpX.n3 (A' := [os (.slice a100 rv94.Words.length k101) (rv94.Words : List (BitVec 64)), os (.slice a27 s3_21.length k28) (s3_21 : List GSet), Cr ((G 8).getD 0 undef) 1 [.int .i64 rv94.Width, .slice a100 rv94.Words.length k101]]) (V' := fun g => (g.getD 0 undef)) (B' := fun g => [sl (.slice a100 rv94.Words.length k101) (rv94.Words : List (BitVec 64)), os ((g.getD 0 undef)) ((s3_21 ++ [rv94]) : List GSet)]) (by kernel_rfl) (by kernel_rfl) (by kernel_rfl) ?_; refine OpX.pre [0] rfl (Ent.freeze _ _) ?_; refine OpX.pre [2, 0] rfl (Ent.cr1 (α := GSet) (A := [sl (.slice a100 rv94.Words.length k101) (rv94.Words : List (BitVec 64))]) _ rv94 _ (Nat.le_of_ble_eq_true rfl) (fun h => ⟨_, rfl, (by unfold i64ok; first | omega | (dsimp only; omega)), sepAll_get (i := 0) rfl h⟩)) ?_; refine OpX.seeL (L' := [(50, .slice a27 s3_21.length k28), (52, ((G 8).getD 0 undef))]) (Env.sub_all (by kernel_rfl)) ?_; refine OpX.postR (OpX.ofA (by intro _ _ h; cases h) (OpA.frame [3, 0] rfl (OpA.appO (α := GSet) (xs := s3_21) (ys := [rv94]) rfl rfl rfl sl25 sl25 sz25 rfl rfl rfl (by show (_ + _) * 32 ≤ 140737488355328; first | omega | (simp only [lens]; omega) | (simp only [lens] at *; omega))))) (fun g => ?_); exact Ent.take (is := [1, 0]) rfl) ?_
        refine JD_v [0] (wn rfl) rfl rfl (OpV.fieldAddr rfl rfl fo27_2 (i := 0) rfl (isPtr_fact _)) ?_
        refine JD_v [8] (wn rfl) rfl rfl (OpV.loadF rfl rfl sh24 (i := 0) rfl (reads_Cl _ _) rfl) ?_
        refine JD_v [] (wn rfl) rfl rfl (OpV.move rfl rfl) ?_
        refine JD_v [0] (wn rfl) rfl rfl (OpV.fieldAddr rfl rfl fo27_0 (i := 0) rfl (isPtr_fact _)) ?_
        refine JD_v [8] (wn rfl) rfl rfl (OpV.loadF rfl rfl sh3 (i := 0) rfl (reads_Cl _ _) rfl) ?_
        refine JD_x [1, 10] [15] (fun lG => .agg #[.int .i64 rv182.1.Gen.Width, ((lG.getD 0 []).getD 0 undef), .int .i64 rv182.1.Kill.Width, ((lG.getD 0 []).getD 1 undef), ((lG.getD 0 []).getD 2 undef)]) [⟨some 15, none, [], fun lG => SP.fact (i64ok rv182.1.Gen.Width ∧ i64ok rv182.1.Kill.Width ∧ (0 ≤ rv182.2 ∧ rv182.2 ≤ (tT.length : Int)) ∧ (rv182.1.Gen.Width = (rv4.1 % 5)) ∧ (rv182.1.Kill.Width = (rv4.1 % 5)) ∧ (rv182.1.Copies.length ≤ 12))⟩, ⟨some 15, none, [15], fun lG => sl (((lG.getD 0 []).getD 0 undef)) (rv182.1.Gen.Words : List (BitVec 64))⟩, ⟨some 15, none, [15], fun lG => sl (((lG.getD 0 []).getD 1 undef)) (rv182.1.Kill.Words : List (BitVec 64))⟩, ⟨some 15, none, [15], fun lG => sl (((lG.getD 0 []).getD 2 undef)) (rv182.1.Copies : List GCopy)⟩, ⟨some 15, none, [], fun lG => Cl tP [.slice ta tT.length tk, .int .i64 rv182.2]⟩] (wn rfl) rfl rfl rfl (fun G => by refine OpX.n3 (A' := [Cl tP [.slice ta tT.length tk, .int .i64 rv104.2], sl (.slice ta tT.length tk) (tT : List Int)]) (V' := fun g => .agg #[.int .i64 rv182.1.Gen.Width, (g.getD 0 undef), .int .i64 rv182.1.Kill.Width, (g.getD 1 undef), (g.getD 2 undef)]) (B' := fun g => [sl (.slice ta tT.length tk) (tT : List Int), SP.fact (i64ok rv182.1.Gen.Width ∧ i64ok rv182.1.Kill.Width ∧ (0 ≤ rv182.2 ∧ rv182.2 ≤ (tT.length : Int)) ∧ (rv182.1.Gen.Width = (rv4.1 % 5)) ∧ (rv182.1.Kill.Width = (rv4.1 % 5)) ∧ (rv182.1.Copies.length ≤ 12)), sl ((g.getD 0 undef)) (rv182.1.Gen.Words : List (BitVec 64)), sl ((g.getD 1 undef)) (rv182.1.Kill.Words : List (BitVec 64)), sl ((g.getD 2 undef)) (rv182.1.Copies : List GCopy), Cl tP [.slice ta tT.length tk, .int .i64 rv182.2]]) (by kernel_rfl) (by kernel_rfl) (by kernel_rfl) ?_; refine OpX.postR (OpX.frame [0, 0] rfl (OpX.ofC (fun g => [g.1, g.2.1, g.2.2]) (fun l => (l.getD 0 undef, l.getD 1 undef, l.getD 2 undef)) (fun _ => rfl) (by intro _ _ h; cases h) (OpC.fn rfl ca21 rfl) (fn21 tP ta tk tT rv104.2 ((rv4.1 % 5)) (by (try dsimp only) <;> first | (unfold i64ok; omega) | omega | assumption) (by (try dsimp only) <;> first | (unfold i64ok; omega) | omega | assumption) (by (try dsimp only) <;> first | (unfold i64ok; omega) | omega | assumption) rv182 hg183))) (fun g => ?_); exact Ent.take (is := [5, 0, 1, 2, 3, 4]) rfl) ?_
        refine JD_x [] [16] (fun lG => ((lG.getD 0 []).getD 0 undef)) [⟨some 16, some 17, [15, 16], fun lG => Cr ((lG.getD 1 []).getD 0 undef) 1 [.int .i64 rv182.1.Gen.Width, ((lG.getD 0 []).getD 0 undef), .int .i64 rv182.1.Kill.Width, ((lG.getD 0 []).getD 1 undef), ((lG.getD 0 []).getD 2 undef)]⟩] (wn rfl) rfl rfl rfl (fun G => by refine OpX.n3 (A' := []) (V' := fun g => (g.getD 0 undef)) (B' := fun g => [Cr (g.getD 0 undef) 1 [.int .i64 rv182.1.Gen.Width, ((G 15).getD 0 undef), .int .i64 rv182.1.Kill.Width, ((G 15).getD 1 undef), ((G 15).getD 2 undef)]]) (by kernel_rfl) (by kernel_rfl) (by kernel_rfl) ?_; refine OpX.seeL (L' := [(59, .agg #[.int .i64 rv182.1.Gen.Width, ((G 15).getD 0 undef), .int .i64 rv182.1.Kill.Width, ((G 15).getD 1 undef), ((G 15).getD 2 undef)])]) (Env.sub_all (by kernel_rfl)) ?_; refine OpX.postR (OpX.ofA (by intro _ _ h; cases h) (OpA.buildSliceV [.agg #[.int .i64 rv182.1.Gen.Width, ((G 15).getD 0 undef), .int .i64 rv182.1.Kill.Width, ((G 15).getD 1 undef), ((G 15).getD 2 undef)]] [.int .i64 rv182.1.Gen.Width, ((G 15).getD 0 undef), .int .i64 rv182.1.Kill.Width, ((G 15).getD 1 undef), ((G 15).getD 2 undef)] rfl sl24 sz24 rfl (Env.evp_map rfl) rfl rfl rfl rfl)) (fun g => ?_); exact Ent.take (is := [0]) rfl) ?_
        refine JD_x [6, 16, 17, 18, 19, 21] [17] (fun lG => ((lG.getD 0 []).getD 0 undef)) [⟨some 17, none, [17], fun lG => os (((lG.getD 0 []).getD 0 undef)) ((s2_20 ++ [rv182.1]) : List GTransfer)⟩] (wn rfl) rfl rfl rfl (fun G => by refine OpX.n3 (A' := [os (.slice a25 s2_20.length k26) (s2_20 : List GTransfer), SP.fact (i64ok rv182.1.Gen.Width ∧ i64ok rv182.1.Kill.Width ∧ (0 ≤ rv182.2 ∧ rv182.2 ≤ (tT.length : Int)) ∧ (rv182.1.Gen.Width = (rv4.1 % 5)) ∧ (rv182.1.Kill.Width = (rv4.1 % 5)) ∧ (rv182.1.Copies.length ≤ 12)), sl (((G 15).getD 0 undef)) (rv182.1.Gen.Words : List (BitVec 64)), sl (((G 15).getD 1 undef)) (rv182.1.Kill.Words : List (BitVec 64)), sl (((G 15).getD 2 undef)) (rv182.1.Copies : List GCopy), Cr ((G 16).getD 0 undef) 1 [.int .i64 rv182.1.Gen.Width, ((G 15).getD 0 undef), .int .i64 rv182.1.Kill.Width, ((G 15).getD 1 undef), ((G 15).getD 2 undef)]]) (V' := fun g => (g.getD 0 undef)) (B' := fun g => [SP.fact (i64ok rv182.1.Gen.Width ∧ i64ok rv182.1.Kill.Width ∧ (0 ≤ rv182.2 ∧ rv182.2 ≤ (tT.length : Int)) ∧ (rv182.1.Gen.Width = (rv4.1 % 5)) ∧ (rv182.1.Kill.Width = (rv4.1 % 5)) ∧ (rv182.1.Copies.length ≤ 12)), sl (((G 15).getD 0 undef)) (rv182.1.Gen.Words : List (BitVec 64)), sl (((G 15).getD 1 undef)) (rv182.1.Kill.Words : List (BitVec 64)), sl (((G 15).getD 2 undef)) (rv182.1.Copies : List GCopy), os ((g.getD 0 undef)) ((s2_20 ++ [rv182.1]) : List GTransfer)]) (by kernel_rfl) (by kernel_rfl) (by kernel_rfl) ?_; refine OpX.fact 1 rfl (fun h => h) ?_; rintro ⟨he187, he188, he189, he190, he191, he192⟩; have he187 : -9223372036854775808 ≤ rv182.1.Gen.Width ∧ rv182.1.Gen.Width ≤ 9223372036854775807 := he187; have he188 : -9223372036854775808 ≤ rv182.1.Kill.Width ∧ rv182.1.Kill.Width ≤ 9223372036854775807 := he188; refine OpX.pre [5, 2, 3, 4] rfl (Ent.cr1 (α := GTransfer) (A := [sl (((G 15).getD 0 undef)) (rv182.1.Gen.Words : List (BitVec 64)), sl (((G 15).getD 1 undef)) (rv182.1.Kill.Words : List (BitVec 64)), sl (((G 15).getD 2 undef)) (rv182.1.Copies : List GCopy)]) _ rv182.1 _ (Nat.le_of_ble_eq_true rfl) (fun h => ⟨_, _, _, rfl, (by unfold i64ok; first | omega | (dsimp only; omega)), sepAll_get (i := 0) rfl h, (by unfold i64ok; first | omega | (dsimp only; omega)), sepAll_get (i := 1) rfl h, sepAll_get (i := 2) rfl h⟩)) ?_; refine OpX.seeL (L' := [(55, .slice a25 s2_20.length k26), (60, ((G 16).getD 0 undef))]) (Env.sub_all (by kernel_rfl)) ?_; refine OpX.postR (OpX.ofA (by intro _ _ h; cases h) (OpA.frame [4, 0] rfl (OpA.appO (α := GTransfer) (xs := s2_20) (ys := [rv182.1]) rfl rfl rfl sl24 sl24 sz24 rfl rfl rfl (by show (_ + _) * 88 ≤ 140737488355328; first | omega | (simp only [lens]; omega) | (simp only [lens] at *; omega))))) (fun g => ?_); exact Ent.take (is := [4, 1, 2, 3, 0]) rfl) ?_
        refine JD_v [0] (wn rfl) rfl rfl (OpV.fieldAddr rfl rfl fo27_1 (i := 0) rfl (isPtr_fact _)) ?_
        refine JD_x0 [8, 12] [⟨some 19, some 21, [4], fun lG => Cl p10 [.int .i64 (rv4.1 % 5), ((lG.getD 0 []).getD 0 undef), .slice a25 s2_20.length k26, .slice a27 s3_21.length k28]⟩] (wn rfl) rfl rfl rfl (fun G => by refine OpX.n3 (A' := [Cl p10 [.int .i64 (rv4.1 % 5), .slice a23 s1_19.length k24, .slice a25 s2_20.length k26, .slice a27 s3_21.length k28], os (((G 4).getD 0 undef)) ((s1_19 ++ [d_55]) : List (List Int))]) (V' := fun g => undef) (B' := fun g => [os (((G 4).getD 0 undef)) ((s1_19 ++ [d_55]) : List (List Int)), Cl p10 [.int .i64 (rv4.1 % 5), ((G 4).getD 0 undef), .slice a25 s2_20.length k26, .slice a27 s3_21.length k28]]) (by kernel_rfl) (by kernel_rfl) (by kernel_rfl) ?_; refine OpX.fact 1 rfl os_one ?_; intro ho193; refine OpX.seeL (L' := [(48, ((G 4).getD 0 undef)), (62, fptr p10 1)]) (Env.sub_all (by kernel_rfl)) ?_; refine OpX.postR (OpX.ofS (by intro _ _ h; cases h) rfl (OpS.frame [0] rfl (OpS.storeClF [((G 4).getD 0 undef)] [.int .i64 (rv4.1 % 5), ((G 4).getD 0 undef), .slice a25 s2_20.length k26, .slice a27 s3_21.length k28] rfl rfl rfl sh23 (cells_of_one ho193) rfl (by simp only [List.all_cons, List.all_nil, ho193, Bool.and_true, Bool.true_and] <;> rfl) (Nat.le_of_ble_eq_true rfl) rfl))) (fun g => ?_); exact Ent.take (is := [1, 0]) rfl) ?_
        refine JD_v [0] (wn rfl) rfl rfl (OpV.fieldAddr rfl rfl fo27_3 (i := 0) rfl (isPtr_fact _)) ?_
        refine JD_x0 [15, 23] [⟨some 21, some 23, [4, 9], fun lG => Cl p10 [.int .i64 (rv4.1 % 5), ((lG.getD 0 []).getD 0 undef), .slice a25 s2_20.length k26, ((lG.getD 1 []).getD 0 undef)]⟩] (wn rfl) rfl rfl rfl (fun G => by refine OpX.n3 (A' := [os (((G 9).getD 0 undef)) ((s3_21 ++ [rv94]) : List GSet), Cl p10 [.int .i64 (rv4.1 % 5), ((G 4).getD 0 undef), .slice a25 s2_20.length k26, .slice a27 s3_21.length k28]]) (V' := fun g => undef) (B' := fun g => [os (((G 9).getD 0 undef)) ((s3_21 ++ [rv94]) : List GSet), Cl p10 [.int .i64 (rv4.1 % 5), ((G 4).getD 0 undef), .slice a25 s2_20.length k26, ((G 9).getD 0 undef)]]) (by kernel_rfl) (by kernel_rfl) (by kernel_rfl) ?_; refine OpX.fact 0 rfl os_one ?_; intro ho194; refine OpX.seeL (L' := [(53, ((G 9).getD 0 undef)), (63, fptr p10 3)]) (Env.sub_all (by kernel_rfl)) ?_; refine OpX.postR (OpX.ofS (by intro _ _ h; cases h) rfl (OpS.frame [1] rfl (OpS.storeClF [((G 9).getD 0 undef)] [.int .i64 (rv4.1 % 5), ((G 4).getD 0 undef), .slice a25 s2_20.length k26, ((G 9).getD 0 undef)] rfl rfl rfl sh25 (cells_of_one ho194) rfl (by simp only [List.all_cons, List.all_nil, ho194, Bool.and_true, Bool.true_and] <;> rfl) (Nat.le_of_ble_eq_true rfl) rfl))) (fun g => ?_); exact Ent.take (is := [1, 0]) rfl) ?_
        refine JD_v [0] (wn rfl) rfl rfl (OpV.fieldAddr rfl rfl fo27_2 (i := 0) rfl (isPtr_fact _)) ?_
        refine JD_x0 [22, 24] [⟨some 23, none, [4, 9, 17], fun lG => Cl p10 [.int .i64 (rv4.1 % 5), ((lG.getD 0 []).getD 0 undef), ((lG.getD 2 []).getD 0 undef), ((lG.getD 1 []).getD 0 undef)]⟩] (wn rfl) rfl rfl rfl (fun G => by refine OpX.n3 (A' := [os (((G 17).getD 0 undef)) ((s2_20 ++ [rv182.1]) : List GTransfer), Cl p10 [.int .i64 (rv4.1 % 5), ((G 4).getD 0 undef), .slice a25 s2_20.length k26, ((G 9).getD 0 undef)]]) (V' := fun g => undef) (B' := fun g => [os (((G 17).getD 0 undef)) ((s2_20 ++ [rv182.1]) : List GTransfer), Cl p10 [.int .i64 (rv4.1 % 5), ((G 4).getD 0 undef), ((G 17).getD 0 undef), ((G 9).getD 0 undef)]]) (by kernel_rfl) (by kernel_rfl) (by kernel_rfl) ?_; refine OpX.fact 0 rfl os_one ?_; intro ho195; refine OpX.seeL (L' := [(61, ((G 17).getD 0 undef)), (64, fptr p10 2)]) (Env.sub_all (by kernel_rfl)) ?_; refine OpX.postR (OpX.ofS (by intro _ _ h; cases h) rfl (OpS.frame [1] rfl (OpS.storeClF [((G 17).getD 0 undef)] [.int .i64 (rv4.1 % 5), ((G 4).getD 0 undef), ((G 17).getD 0 undef), ((G 9).getD 0 undef)] rfl rfl rfl sh24 (cells_of_one ho195) rfl (by simp only [List.all_cons, List.all_nil, ho195, Bool.and_true, Bool.true_and] <;> rfl) (Nat.le_of_ble_eq_true rfl) rfl))) (fun g => ?_); exact Ent.take (is := [1, 0]) rfl) ?_
        refine JD_nil ⟨by kernel_rfl, fun G => ?_⟩
        refine JJ_weaken (L' := [(0, tP), (4, p3), (5, p10), (1, .int .i64 (1 + rv11.1)), (6, .int .i64 i_22)]) (A' := [SP.fact (isP p10), Cl p103 [.int .i64 rv94.Width, .slice a100 rv94.Words.length k101], sl (.slice a57 d_55.length k58) (d_55 : List Int), Cl p3 [.int .i64 0, .slice none 0 0, .slice none 0 0, .slice none 0 0], sl (.slice ta tT.length tk) (tT : List Int), os (((G 4).getD 0 undef)) ((s1_19 ++ [d_55]) : List (List Int)), sl (.slice a100 rv94.Words.length k101) (rv94.Words : List (BitVec 64)), os (((G 9).getD 0 undef)) ((s3_21 ++ [rv94]) : List GSet), SP.fact (i64ok rv182.1.Gen.Width ∧ i64ok rv182.1.Kill.Width ∧ (0 ≤ rv182.2 ∧ rv182.2 ≤ (tT.length : Int)) ∧ (rv182.1.Gen.Width = (rv4.1 % 5)) ∧ (rv182.1.Kill.Width = (rv4.1 % 5)) ∧ (rv182.1.Copies.length ≤ 12)), sl (((G 15).getD 0 undef)) (rv182.1.Gen.Words : List (BitVec 64)), sl (((G 15).getD 1 undef)) (rv182.1.Kill.Words : List (BitVec 64)), sl (((G 15).getD 2 undef)) (rv182.1.Copies : List GCopy), Cl tP [.slice ta tT.length tk, .int .i64 rv182.2], os (((G 17).getD 0 undef)) ((s2_20 ++ [rv182.1]) : List GTransfer), Cl p10 [.int .i64 (rv4.1 % 5), ((G 4).getD 0 undef), ((G 17).getD 0 undef), ((G 9).getD 0 undef)]]) (Env.sub_all (by kernel_rfl)) (Ent.of_eq (by kernel_rfl)) ?_
        generalize ((G 4).getD 0 undef) = c174
        generalize ((G 9).getD 0 undef) = c177
        generalize ((G 15).getD 0 undef) = c179
        generalize ((G 15).getD 1 undef) = c180
        generalize ((G 15).getD 2 undef) = c181
        generalize ((G 17).getD 0 undef) = c185
        refine JJ_fact 8 rfl (fun h => h) ?_
        rintro ⟨he196, he197, he198, he199, he200, he201⟩
        have he196 : -9223372036854775808 ≤ rv182.1.Gen.Width ∧ rv182.1.Gen.Width ≤ 9223372036854775807 := he196
        have he197 : -9223372036854775808 ≤ rv182.1.Kill.Width ∧ rv182.1.Kill.Width ≤ 9223372036854775807 := he197
        refine JJ_keep [1, 1, 2, 2, 3, 3, 4, 5, 6, 7, 8, 8, 8] rfl ?_
        refine JJ_slice 4 rfl os_slice ?_
        rintro a202 k203 rfl
        refine JJ_fact 4 rfl os_bytes ?_
        intro hl204
        have hl204 : (s1_19 ++ [d_55]).length * 24 ≤ 140737488355328 := hl204
        refine JJ_slice 6 rfl os_slice ?_
        rintro a205 k206 rfl
        refine JJ_fact 6 rfl os_bytes ?_
        intro hl207
        have hl207 : (s3_21 ++ [rv94]).length * 32 ≤ 140737488355328 := hl207
        refine JJ_slice 7 rfl sl_slice ?_
        rintro a208 k209 rfl
        refine JJ_fact 7 rfl sl_bytes ?_
        intro hl210
        have hl210 : rv182.1.Gen.Words.length * 8 ≤ 140737488355328 := hl210
        refine JJ_slice 8 rfl sl_slice ?_
        rintro a211 k212 rfl
        refine JJ_fact 8 rfl sl_bytes ?_
        intro hl213
        have hl213 : rv182.1.Kill.Words.length * 8 ≤ 140737488355328 := hl213
        refine JJ_slice 9 rfl sl_slice ?_
        rintro a214 k215 rfl
        refine JJ_fact 9 rfl sl_bytes ?_
        intro hl216
        have hl216 : rv182.1.Copies.length * 16 ≤ 140737488355328 := hl216
        refine JJ_slice 11 rfl os_slice ?_
        rintro a217 k218 rfl
        refine JJ_fact 11 rfl os_bytes ?_
        intro hl219
        have hl219 : (s2_20 ++ [rv182.1]).length * 88 ≤ 140737488355328 := hl219
        refine JK_blk ?_
        refine JK_region ?_
        refine JO_q rfl rfl rfl (OpV.move rfl rfl) ?_
        refine JO_q rfl rfl rfl (OpV.add rfl rfl rfl (by unfold i64ok; omega)) ?_
        refine JO_q rfl rfl rfl (OpV.assign rfl rfl) ?_
        refine JO_nil ?_
        refine JK_goal (r46, rv182.2, (s1_19 ++ [d_55]), (s2_20 ++ [rv182.1]), (s3_21 ++ [rv94]), (i_22 + 1), a202, k203, a217, k218, a205, k206) ⟨(by rw [← hM29]; simp only [Tape_System_L0, h44, h73, h110, hg5, hg12, hg48, hR92, hg95, hg105, hg183, cs4]), (by omega), (by omega), (by omega), (by omega), (by omega), (by omega), (by first | omega | (simp only [lens]; omega) | assumption), (by first | omega | (simp only [lens]; omega) | assumption), (by first | omega | (simp only [lens]; omega) | assumption)⟩ (by show r46 < r46 + 1; omega) (Env.sub_all rfl) (Ent.take (is := [6, 10, 4, 8, 8, 2, 2]) rfl)
  · skip
    have g220 : ¬ (i_22 < (1 + rv11.1)) := of_decide_eq_false h44
    obtain rfl : r17 = 0 := by omega
    refine JK_exit rfl ?_
    have hR221 : Tape_System_L0 tT (1 + rv11.1) (rv4.1 % 5) ((((1 + rv11.1) : Int) - 0).toNat) rv11.2 [] [] [] 0 = (ti_18, s1_19, s2_20, s3_21) := by
      rw [← hM29]; simp only [Tape_System_L0, h44, hg5, hg12, cs4]
    refine JK_seq ?_
    refine JK_region ?_
    refine JO_q rfl rfl rfl (OpV.loadA rfl rfl sh27 (i := 4) rfl (reads_Cl _ _) rfl) ?_
    refine JO_store rfl rfl (OpS.frame [5] rfl (OpS.storeCl [.int .i64 (rv4.1 % 5), .slice a23 s1_19.length k24, .slice a25 s2_20.length k26, .slice a27 s3_21.length k28] [.int .i64 (rv4.1 % 5), .slice a23 s1_19.length k24, .slice a25 s2_20.length k26, .slice a27 s3_21.length k28] rfl rfl rfl sh27 rfl rfl rfl (Nat.le_of_ble_eq_true rfl) rfl)) ?_
    refine JO_nil ?_
    refine JJ_loc [3] rfl (Ent.freeze _ _) ?_
    refine JJ_loc [3] rfl (Ent.freeze _ _) ?_
    refine JJ_loc [3] rfl (Ent.freeze _ _) ?_
    have hq : rr = ((GSystem.mk (rv4.1 % 5) s1_19 s2_20 s3_21), ti_18) := hrr.symm.trans (by simp only [Tape_System, h44, hg5, hg12, hR221, cs4])
    replace hrr := hrr.trans hq
    subst rr
    refine JK_return ((.slice a23 s1_19.length k24, .slice a25 s2_20.length k26, .slice a27 s3_21.length k28)) rfl (.cellN 3 rfl sh27 rfl (reads_Cl _ _) rfl .nil) rfl (by refine ⟨?_, ?_, ?_⟩ <;> (try dsimp only) <;> first | omega | (unfold i64ok; omega) | (simp only [lens]; omega) | assumption | trivial) (Ent.take (is := [2, 1, 0, 4]) rfl)
set_option maxHeartbeats 20000000 in
set_option maxRecDepth 100000 in
/- flowquery/flqref7.Has -/
theorem fn16 (l : List Int) (la0 : Option Addr) (lk0 : Nat) (n : Int) (hn_0 : i64ok n) (rr : Bool) (hrr : flqref7_Has l n = rr) :
    FT Try.prog 16 #[.slice la0 l.length lk0, .int .i64 n] [sl (.slice la0 l.length lk0) (l : List Int)]
      (fun g : Unit => True)
      (fun g => .bool rr)
      (fun g => []) := by
  refine FT_intro (args := [.slice la0 l.length lk0, .int .i64 n]) Try.func16 rfl rfl ?_
  intro w0 M0 F0
  have hn_0 : -9223372036854775808 ≤ n ∧ n ≤ 9223372036854775807 := hn_0
  refine JJ_fact 0 rfl sl_bytes ?_
  intro hl1
  have hl1 : l.length * 8 ≤ 140737488355328 := hl1
  refine JJ_fact 0 rfl sl_ok ?_
  intro ho2
  refine JK_seq ?_
  refine JK_region ?_
  refine JO_q rfl rfl rfl (OpV.assign rfl rfl) ?_
  refine JO_nil ?_
  refine JK_seq ?_
  refine JK_seq ?_
  refine JK_region ?_
  refine JO_q rfl rfl rfl (OpV.assign rfl rfl) ?_
  refine JO_nil ?_
  refine JK_block ?_
  refine JK_loop (γ := Nat × Int) (fun (r3, i_4) => [(0, .slice la0 l.length lk0), (1, .int .i64 n), (5, .int .i64 i_4)]) (fun (r3, i_4) => [sl (.slice la0 l.length lk0) (l : List Int)]) (fun (r3, i_4) => flqref7_Has_L0 l n r3 i_4 = flqref7_Has_L0 l n (((((l.length : Nat) : Int) : Int) - 0).toNat) 0 ∧ r3 = ((((l.length : Nat) : Int) : Int) - i_4).toNat ∧ (0 : Int) ≤ i_4 ∧ (i_4 ≤ ((l.length : Nat) : Int) ∨ i_4 = 0) ∧ (-9223372036854775808 ≤ i_4 ∧ i_4 ≤ 9223372036854775807)) (fun (r3, i_4) => r3) (((((l.length : Nat) : Int) : Int) - 0).toNat, 0) ⟨rfl, rfl, (by omega), (.inr rfl), (by omega)⟩ (Env.sub_all rfl) (Ent.take (is := [0]) rfl) ?_
  rintro ⟨r3, i_4⟩ ⟨hM5, hr6, hi7, hi8, hk9⟩
  refine JJ_norm (L := [(0, .slice la0 l.length lk0), (1, .int .i64 n), (5, .int .i64 i_4)]) (A := [sl (.slice la0 l.length lk0) (l : List Int)]) rfl rfl ?_
  refine JJ_fact 0 rfl sl_bytes ?_
  intro hl10
  have hl10 : l.length * 8 ≤ 140737488355328 := hl10
  refine JJ_fact 0 rfl sl_ok ?_
  intro ho11
  refine JK_seq ?_
  refine JK_seq ?_
  refine JK_region ?_
  refine JO_q rfl rfl rfl (OpV.move rfl rfl) ?_
  refine JO_q rfl rfl rfl (OpV.move rfl rfl) ?_
  refine JO_q rfl rfl rfl (OpV.len rfl rfl sl22) ?_
  refine JO_q rfl rfl rfl (OpV.lss rfl rfl rfl) ?_
  refine JO_nil ?_
  refine JK_cond (b := decide (i_4 < ((l.length : Nat) : Int))) rfl (fun (h12 : decide (i_4 < ((l.length : Nat) : Int)) = true) => ?_) (fun (h12 : decide (i_4 < ((l.length : Nat) : Int)) = false) => ?_)
  · skip
    have g13 : (i_4 < ((l.length : Nat) : Int)) := of_decide_eq_true h12
    obtain ⟨r14, rfl⟩ : ∃ q, r3 = q + 1 := ⟨r3 - 1, by omega⟩
    refine JK_skip ?_
    refine JK_seq ?_
    refine JK_block ?_
    refine JK_seq ?_
    refine JK_region ?_
    refine JO_q rfl rfl rfl (OpV.move rfl rfl) ?_
    refine JO_q rfl rfl rfl (OpV.move rfl rfl) ?_
    refine JO_q rfl rfl rfl (OpV.indexAddr (m := 0) rfl rfl rfl sl22 rfl (isSl_sl _ _) (by first | omega | (simp only [lens]; omega) | (simp only [lens] at *; omega))) ?_
    have hb15 : -9223372036854775808 ≤ (l.getD (i_4 : Int).toNat 0) ∧ (l.getD (i_4 : Int).toNat 0) ≤ 9223372036854775807 := getD_ok ho11 (by first | omega | (simp only [lens]; omega) | (simp only [lens] at *; omega))
    refine JO_q rfl rfl rfl (OpV.load rfl rfl sh3 (i := 0) rfl (reads_sl _ _ _ 0 (by first | omega | (simp only [lens]; omega) | (simp only [lens] at *; omega))) rfl) ?_
    refine JO_q rfl rfl rfl (OpV.move rfl rfl) ?_
    refine JO_q rfl rfl rfl (OpV.eql rfl rfl rfl) ?_
    refine JO_nil ?_
    refine JK_cond (b := ((l.getD (i_4 : Int).toNat 0) == n)) rfl (fun (h16 : ((l.getD (i_4 : Int).toNat 0) == n) = true) => ?_) (fun (h16 : ((l.getD (i_4 : Int).toNat 0) == n) = false) => ?_)
    · skip
      have g17 : (l.getD (i_4 : Int).toNat 0) = n := eq_of_beq h16
      refine JK_seq ?_
      refine JK_region ?_
      refine JO_q rfl rfl rfl (OpV.assign rfl rfl) ?_
      refine JO_nil ?_
      have hR18 : flqref7_Has_L0 l n (((((l.length : Nat) : Int) : Int) - 0).toNat) 0 = LR.ret true := by
        rw [← hM5]; simp only [flqref7_Has_L0, h12, h16, cs4]
      have hq : rr = true := hrr.symm.trans (by simp only [flqref7_Has, h12, h16, hR18, cs4])
      replace hrr := hrr.trans hq
      subst rr
      refine JK_return (()) rfl (.tmp rfl .nil) rfl trivial (Ent.take (is := []) rfl)
    · skip
      have g19 : (l.getD (i_4 : Int).toNat 0) ≠ n := ne_of_beq_false h16
      refine JK_skip ?_
      refine JK_blk ?_
      refine JK_region ?_
      refine JO_q rfl rfl rfl (OpV.move rfl rfl) ?_
      refine JO_q rfl rfl rfl (OpV.add rfl rfl rfl (by unfold i64ok; omega)) ?_
      refine JO_q rfl rfl rfl (OpV.assign rfl rfl) ?_
      refine JO_nil ?_
      refine JK_goal (r14, (i_4 + 1)) ⟨(by rw [← hM5]; simp only [flqref7_Has_L0, h12, h16, cs4]), (by omega), (by omega), (by omega), (by omega)⟩ (by show r14 < r14 + 1; omega) (Env.sub_all rfl) (Ent.take (is := [0]) rfl)
  · skip
    have g20 : ¬ (i_4 < ((l.length : Nat) : Int)) := of_decide_eq_false h12
    obtain rfl : r3 = 0 := by omega
    refine JK_exit rfl ?_
    have hR21 : flqref7_Has_L0 l n (((((l.length : Nat) : Int) : Int) - 0).toNat) 0 = LR.brk () := by
      rw [← hM5]; simp only [flqref7_Has_L0, h12, cs4]
    refine JK_seq ?_
    refine JK_region ?_
    refine JO_q rfl rfl rfl (OpV.assign rfl rfl) ?_
    refine JO_nil ?_
    have hq : rr = false := hrr.symm.trans (by simp only [flqref7_Has, h12, hR21, cs4])
    replace hrr := hrr.trans hq
    subst rr
    refine JK_return (()) rfl (.tmp rfl .nil) rfl trivial (Ent.take (is := []) rfl)
set_option maxHeartbeats 20000000 in
set_option maxRecDepth 100000 in
/- flowquery/flqref7.Rising -/
theorem fn37 (l : List Int) (la0 : Option Addr) (lk0 : Nat) (n : Int) (hn_0 : i64ok n) (rr : Bool) (hrr : flqref7_Rising l n = rr) :
    FT Try.prog 37 #[.slice la0 l.length lk0, .int .i64 n] [sl (.slice la0 l.length lk0) (l : List Int)]
      (fun g : Unit => True)
      (fun g => .bool rr)
      (fun g => []) := by
  refine FT_intro (args := [.slice la0 l.length lk0, .int .i64 n]) Try.func37 rfl rfl ?_
  intro w0 M0 F0
  have hn_0 : -9223372036854775808 ≤ n ∧ n ≤ 9223372036854775807 := hn_0
  refine JJ_fact 0 rfl sl_bytes ?_
  intro hl1
  have hl1 : l.length * 8 ≤ 140737488355328 := hl1
  refine JJ_fact 0 rfl sl_ok ?_
  intro ho2
  refine JK_seq ?_
  refine JK_region ?_
  refine JO_q rfl rfl rfl (OpV.assign rfl rfl) ?_
  refine JO_nil ?_
  refine JK_seq ?_
  refine JK_seq ?_
  refine JK_region ?_
  refine JO_q rfl rfl rfl (OpV.assign rfl rfl) ?_
  refine JO_nil ?_
  refine JK_block ?_
  refine JK_loop (γ := Nat × Int) (fun (r3, i_4) => [(0, .slice la0 l.length lk0), (1, .int .i64 n), (5, .int .i64 i_4)]) (fun (r3, i_4) => [sl (.slice la0 l.length lk0) (l : List Int)]) (fun (r3, i_4) => flqref7_Rising_L0 l n r3 i_4 = flqref7_Rising_L0 l n (((((l.length : Nat) : Int) : Int) - 0).toNat) 0 ∧ r3 = ((((l.length : Nat) : Int) : Int) - i_4).toNat ∧ (0 : Int) ≤ i_4 ∧ (i_4 ≤ ((l.length : Nat) : Int) ∨ i_4 = 0) ∧ (-9223372036854775808 ≤ i_4 ∧ i_4 ≤ 9223372036854775807)) (fun (r3, i_4) => r3) (((((l.length : Nat) : Int) : Int) - 0).toNat, 0) ⟨rfl, rfl, (by omega), (.inr rfl), (by omega)⟩ (Env.sub_all rfl) (Ent.take (is := [0]) rfl) ?_
  rintro ⟨r3, i_4⟩ ⟨hM5, hr6, hi7, hi8, hk9⟩
  refine JJ_norm (L := [(0, .slice la0 l.length lk0), (1, .int .i64 n), (5, .int .i64 i_4)]) (A := [sl (.slice la0 l.length lk0) (l : List Int)]) rfl rfl ?_
  refine JJ_fact 0 rfl sl_bytes ?_
  intro hl10
  have hl10 : l.length * 8 ≤ 140737488355328 := hl10
  refine JJ_fact 0 rfl sl_ok ?_
  intro ho11
  refine JK_seq ?_
  refine JK_seq ?_
  refine JK_region ?_
  refine JO_q rfl rfl rfl (OpV.move rfl rfl) ?_
  refine JO_q rfl rfl rfl (OpV.move rfl rfl) ?_
  refine JO_q rfl rfl rfl (OpV.len rfl rfl sl22) ?_
  refine JO_q rfl rfl rfl (OpV.lss rfl rfl rfl) ?_
  refine JO_nil ?_
  refine JK_cond (b := decide (i_4 < ((l.length : Nat) : Int))) rfl (fun (h12 : decide (i_4 < ((l.length : Nat) : Int)) = true) => ?_) (fun (h12 : decide (i_4 < ((l.length : Nat) : Int)) = false) => ?_)
  · skip
    have g13 : (i_4 < ((l.length : Nat) : Int)) := of_decide_eq_true h12
    obtain ⟨r14, rfl⟩ : ∃ q, r3 = q + 1 := ⟨r3 - 1, by omega⟩
    refine JK_skip ?_
    refine JK_seq ?_
    refine JK_block ?_
    refine JK_seq ?_
    refine bool_split (decide ((l.getD (i_4 : Int).toNat 0) < 0)) (fun (h16 : decide ((l.getD (i_4 : Int).toNat 0) < 0) = true) => ?_) (fun (h16 : decide ((l.getD (i_4 : Int).toNat 0) < 0) = false) => ?_)
    · skip
      have g17 : ((l.getD (i_4 : Int).toNat 0) < 0) := of_decide_eq_true h16
      have hb18 : -9223372036854775808 ≤ (l.getD (i_4 : Int).toNat 0) ∧ (l.getD (i_4 : Int).toNat 0) ≤ 9223372036854775807 := getD_ok ho11 (by first | omega | (simp only [lens]; omega) | (simp only [lens] at *; omega))
      refine JK_drawQ [0, 0, 3, 7, 15, 31, 63, 63, 255, 511, 63, 2047, 4095, 8191, 16383, 32767, 65535, 131071, 131071, 393215, 1048575, 2097151, 131071, 131071, 12713983, 29491199, 67108863, 134217727, 268435455] fmix ?_
      refine JQ_v [] (qn rfl) rfl rfl (OpV.move rfl rfl) ?_
      refine JQ_v [] (qn rfl) rfl rfl (OpV.move rfl rfl) ?_
      refine JQ_v [0] (qn rfl) rfl rfl (OpV.indexAddr (m := 0) rfl rfl rfl sl22 rfl (isSl_sl _ _) (by first | omega | (simp only [lens]; omega) | (simp only [lens] at *; omega))) ?_
      refine JQ_v [0] (qn rfl) rfl rfl (OpV.load rfl rfl sh3 (i := 0) rfl (reads_sl _ _ _ 0 (by first | omega | (simp only [lens]; omega) | (simp only [lens] at *; omega))) rfl) ?_
      refine JQ_b h16 [] (qn rfl) rfl rfl (OpV.lss rfl rfl rfl) ?_
      refine JQ_v [] (qn rfl) rfl rfl (OpV.move rfl rfl) ?_
      refine JQ_skip (qs rfl rfl rfl _ rfl rfl) rfl ?_
      refine JQ_skip (qs rfl rfl rfl _ rfl rfl) rfl ?_
      refine JQ_skip (qs rfl rfl rfl _ rfl rfl) rfl ?_
      refine JQ_skip (qs rfl rfl rfl _ rfl rfl) rfl ?_
      refine JQ_skip (qs rfl rfl rfl _ rfl rfl) rfl ?_
      refine JQ_skip (qs rfl rfl rfl _ rfl rfl) rfl ?_
      refine JQ_v [] (qn rfl) rfl rfl (OpV.pickT rfl rfl rfl) ?_
      refine JQ_v [] (qn rfl) rfl rfl (OpV.move rfl rfl) ?_
      refine JQ_skip (qs rfl rfl rfl _ rfl rfl) rfl ?_
      refine JQ_skip (qs rfl rfl rfl _ rfl rfl) rfl ?_
      refine JQ_skip (qs rfl rfl rfl _ rfl rfl) rfl ?_
      refine JQ_skip (qs rfl rfl rfl _ rfl rfl) rfl ?_
      refine JQ_skip (qs rfl rfl rfl _ rfl rfl) rfl ?_
      refine JQ_skip (qs rfl rfl rfl _ rfl rfl) rfl ?_
      refine JQ_skip (qs rfl rfl rfl _ rfl rfl) rfl ?_
      refine JQ_skip (qs rfl rfl rfl _ rfl rfl) rfl ?_
      refine JQ_skip (qs rfl rfl rfl _ rfl rfl) rfl ?_
      refine JQ_skip (qs rfl rfl rfl _ rfl rfl) rfl ?_
      refine JQ_skip (qs rfl rfl rfl _ rfl rfl) rfl ?_
      refine JQ_skip (qs rfl rfl rfl _ rfl rfl) rfl ?_
      refine JQ_skip (qs rfl rfl rfl _ rfl rfl) rfl ?_
      refine JQ_skip (qs rfl rfl rfl _ rfl rfl) rfl ?_
      refine JQ_v [] (qn rfl) rfl rfl (OpV.pickT rfl rfl rfl) ?_
      refine JQ_nil ⟨by kernel_rfl, ?_⟩
      refine JK_condT rfl ?_
      refine JK_seq ?_
      refine JK_region ?_
      refine JO_q rfl rfl rfl (OpV.assign rfl rfl) ?_
      refine JO_nil ?_
      have hR19 : flqref7_Rising_L0 l n (((((l.length : Nat) : Int) : Int) - 0).toNat) 0 = LR.ret false := by
        rw [← hM5]; simp only [flqref7_Rising_L0, h12, h16, cs4]
      have hq : rr = false := hrr.symm.trans (by simp only [flqref7_Rising, h12, h16, hR19, cs4])
      replace hrr := hrr.trans hq
      subst rr
      refine JK_return (()) rfl (.tmp rfl .nil) rfl trivial (Ent.take (is := []) rfl)
    · skip
      have g20 : ¬ ((l.getD (i_4 : Int).toNat 0) < 0) := of_decide_eq_false h16
      refine bool_split (decide (n ≤ (l.getD (i_4 : Int).toNat 0))) (fun (h23 : decide (n ≤ (l.getD (i_4 : Int).toNat 0)) = true) => ?_) (fun (h23 : decide (n ≤ (l.getD (i_4 : Int).toNat 0)) = false) => ?_)
      · skip
        have g24 : (n ≤ (l.getD (i_4 : Int).toNat 0)) := of_decide_eq_true h23
        have hb25 : -9223372036854775808 ≤ (l.getD (i_4 : Int).toNat 0) ∧ (l.getD (i_4 : Int).toNat 0) ≤ 9223372036854775807 := getD_ok ho11 (by first | omega | (simp only [lens]; omega) | (simp only [lens] at *; omega))
        have hb26 : -9223372036854775808 ≤ (l.getD (i_4 : Int).toNat 0) ∧ (l.getD (i_4 : Int).toNat 0) ≤ 9223372036854775807 := getD_ok ho11 (by first | omega | (simp only [lens]; omega) | (simp only [lens] at *; omega))
        refine JK_drawQ [0, 0, 3, 7, 15, 31, 63, 63, 255, 511, 63, 2047, 4095, 8191, 16383, 32767, 65535, 131071, 131071, 393215, 1048575, 2097151, 131071, 131071, 12713983, 29491199, 67108863, 134217727, 268435455] fmix ?_
        refine JQ_v [] (qn rfl) rfl rfl (OpV.move rfl rfl) ?_
        refine JQ_v [] (qn rfl) rfl rfl (OpV.move rfl rfl) ?_
        refine JQ_v [0] (qn rfl) rfl rfl (OpV.indexAddr (m := 0) rfl rfl rfl sl22 rfl (isSl_sl _ _) (by first | omega | (simp only [lens]; omega) | (simp only [lens] at *; omega))) ?_
        refine JQ_v [0] (qn rfl) rfl rfl (OpV.load rfl rfl sh3 (i := 0) rfl (reads_sl _ _ _ 0 (by first | omega | (simp only [lens]; omega) | (simp only [lens] at *; omega))) rfl) ?_
        refine JQ_b h16 [] (qn rfl) rfl rfl (OpV.lss rfl rfl rfl) ?_
        refine JQ_v [] (qn rfl) rfl rfl (OpV.move rfl rfl) ?_
        refine JQ_v [] (qt rfl rfl rfl rfl) rfl rfl (OpV.move rfl rfl) ?_
        refine JQ_v [] (qt rfl rfl rfl rfl) rfl rfl (OpV.move rfl rfl) ?_
        refine JQ_v [0] (qt rfl rfl rfl rfl) rfl rfl (OpV.indexAddr (m := 0) rfl rfl rfl sl22 rfl (isSl_sl _ _) (by first | omega | (simp only [lens]; omega) | (simp only [lens] at *; omega))) ?_
        refine JQ_v [0] (qt rfl rfl rfl rfl) rfl rfl (OpV.load rfl rfl sh3 (i := 0) rfl (reads_sl _ _ _ 0 (by first | omega | (simp only [lens]; omega) | (simp only [lens] at *; omega))) rfl) ?_
        refine JQ_v [] (qt rfl rfl rfl rfl) rfl rfl (OpV.move rfl rfl) ?_
        refine JQ_b h23 [] (qt rfl rfl rfl rfl) rfl rfl (OpV.geq rfl rfl rfl) ?_
        refine JQ_v [] (qn rfl) rfl rfl (OpV.pickF rfl rfl rfl) ?_
        refine JQ_v [] (qn rfl) rfl rfl (OpV.move rfl rfl) ?_
        refine JQ_skip (qs rfl rfl rfl _ rfl rfl) rfl ?_
        refine JQ_skip (qs rfl rfl rfl _ rfl rfl) rfl ?_
        refine JQ_skip (qs rfl rfl rfl _ rfl rfl) rfl ?_
        refine JQ_skip (qs rfl rfl rfl _ rfl rfl) rfl ?_
        refine JQ_skip (qs rfl rfl rfl _ rfl rfl) rfl ?_
        refine JQ_skip (qs rfl rfl rfl _ rfl rfl) rfl ?_
        refine JQ_skip (qs rfl rfl rfl _ rfl rfl) rfl ?_
        refine JQ_skip (qs rfl rfl rfl _ rfl rfl) rfl ?_
        refine JQ_skip (qs rfl rfl rfl _ rfl rfl) rfl ?_
        refine JQ_skip (qs rfl rfl rfl _ rfl rfl) rfl ?_
        refine JQ_skip (qs rfl rfl rfl _ rfl rfl) rfl ?_
        refine JQ_skip (qs rfl rfl rfl _ rfl rfl) rfl ?_
        refine JQ_skip (qs rfl rfl rfl _ rfl rfl) rfl ?_
        refine JQ_skip (qs rfl rfl rfl _ rfl rfl) rfl ?_
        refine JQ_v [] (qn rfl) rfl rfl (OpV.pickT rfl rfl rfl) ?_
        refine JQ_nil ⟨by kernel_rfl, ?_⟩
        refine JK_condT rfl ?_
        refine JK_seq ?_
        refine JK_region ?_
        refine JO_q rfl rfl rfl (OpV.assign rfl rfl) ?_
        refine JO_nil ?_
        have hR27 : flqref7_Rising_L0 l n (((((l.length : Nat) : Int) : Int) - 0).toNat) 0 = LR.ret false := by
          rw [← hM5]; simp only [flqref7_Rising_L0, h12, h16, h23, cs4]
        have hq : rr = false := hrr.symm.trans (by simp only [flqref7_Rising, h12, h16, h23, hR27, cs4])
        replace hrr := hrr.trans hq
        subst rr
        refine JK_return (()) rfl (.tmp rfl .nil) rfl trivial (Ent.take (is := []) rfl)
      · skip
        have g28 : ¬ (n ≤ (l.getD (i_4 : Int).toNat 0)) := of_decide_eq_false h23
        refine bool_split (decide (0 < i_4)) (fun (h31 : decide (0 < i_4) = true) => ?_) (fun (h31 : decide (0 < i_4) = false) => ?_)
        · skip
          have g32 : (0 < i_4) := of_decide_eq_true h31
          have hb33 : -9223372036854775808 ≤ (l.getD (i_4 : Int).toNat 0) ∧ (l.getD (i_4 : Int).toNat 0) ≤ 9223372036854775807 := getD_ok ho11 (by first | omega | (simp only [lens]; omega) | (simp only [lens] at *; omega))
          have hb34 : -9223372036854775808 ≤ (l.getD (i_4 : Int).toNat 0) ∧ (l.getD (i_4 : Int).toNat 0) ≤ 9223372036854775807 := getD_ok ho11 (by first | omega | (simp only [lens]; omega) | (simp only [lens] at *; omega))
          have hb35 : -9223372036854775808 ≤ (l.getD ((i_4 - 1) : Int).toNat 0) ∧ (l.getD ((i_4 - 1) : Int).toNat 0) ≤ 9223372036854775807 := getD_ok ho11 (by first | omega | (simp only [lens]; omega) | (simp only [lens] at *; omega))
          have hb36 : -9223372036854775808 ≤ (l.getD (i_4 : Int).toNat 0) ∧ (l.getD (i_4 : Int).toNat 0) ≤ 9223372036854775807 := getD_ok ho11 (by first | omega | (simp only [lens]; omega) | (simp only [lens] at *; omega))
          refine JK_drawQ [0, 0, 3, 7, 15, 31, 63, 63, 255, 511, 63, 2047, 4095, 8191, 16383, 32767, 65535, 131071, 131071, 393215, 1048575, 2097151, 131071, 131071, 12713983, 29491199, 67108863, 134217727, 268435455] fmix ?_
          refine JQ_v [] (qn rfl) rfl rfl (OpV.move rfl rfl) ?_
          refine JQ_v [] (qn rfl) rfl rfl (OpV.move rfl rfl) ?_
          refine JQ_v [0] (qn rfl) rfl rfl (OpV.indexAddr (m := 0) rfl rfl rfl sl22 rfl (isSl_sl _ _) (by first | omega | (simp only [lens]; omega) | (simp only [lens] at *; omega))) ?_
          refine JQ_v [0] (qn rfl) rfl rfl (OpV.load rfl rfl sh3 (i := 0) rfl (reads_sl _ _ _ 0 (by first | omega | (simp only [lens]; omega) | (simp only [lens] at *; omega))) rfl) ?_
          refine JQ_b h16 [] (qn rfl) rfl rfl (OpV.lss rfl rfl rfl) ?_
          refine JQ_v [] (qn rfl) rfl rfl (OpV.move rfl rfl) ?_
          refine JQ_v [] (qt rfl rfl rfl rfl) rfl rfl (OpV.move rfl rfl) ?_
          refine JQ_v [] (qt rfl rfl rfl rfl) rfl rfl (OpV.move rfl rfl) ?_
          refine JQ_v [0] (qt rfl rfl rfl rfl) rfl rfl (OpV.indexAddr (m := 0) rfl rfl rfl sl22 rfl (isSl_sl _ _) (by first | omega | (simp only [lens]; omega) | (simp only [lens] at *; omega))) ?_
          refine JQ_v [0] (qt rfl rfl rfl rfl) rfl rfl (OpV.load rfl rfl sh3 (i := 0) rfl (reads_sl _ _ _ 0 (by first | omega | (simp only [lens]; omega) | (simp only [lens] at *; omega))) rfl) ?_
          refine JQ_v [] (qt rfl rfl rfl rfl) rfl rfl (OpV.move rfl rfl) ?_
          refine JQ_b h23 [] (qt rfl rfl rfl rfl) rfl rfl (OpV.geq rfl rfl rfl) ?_
          refine JQ_v [] (qn rfl) rfl rfl (OpV.pickF rfl rfl rfl) ?_
          refine JQ_v [] (qn rfl) rfl rfl (OpV.move rfl rfl) ?_
          refine JQ_v [] (qt rfl rfl rfl rfl) rfl rfl (OpV.move rfl rfl) ?_
          refine JQ_b h31 [] (qt rfl rfl rfl rfl) rfl rfl (OpV.gtr rfl rfl rfl) ?_
          refine JQ_v [] (qt rfl rfl rfl rfl) rfl rfl (OpV.move rfl rfl) ?_
          refine JQ_v [] (qt rfl rfl rfl rfl) rfl rfl (OpV.move rfl rfl) ?_
          refine JQ_v [] (qt rfl rfl rfl rfl) rfl rfl (OpV.move rfl rfl) ?_
          refine JQ_v [] (qt rfl rfl rfl rfl) rfl rfl (OpV.sub rfl rfl rfl (by unfold i64ok; omega)) ?_
          refine JQ_v [0] (qt rfl rfl rfl rfl) rfl rfl (OpV.indexAddr (m := 0) rfl rfl rfl sl22 rfl (isSl_sl _ _) (by first | omega | (simp only [lens]; omega) | (simp only [lens] at *; omega))) ?_
          refine JQ_v [0] (qt rfl rfl rfl rfl) rfl rfl (OpV.load rfl rfl sh3 (i := 0) rfl (reads_sl _ _ _ 0 (by first | omega | (simp only [lens]; omega) | (simp only [lens] at *; omega))) rfl) ?_
          refine JQ_v [] (qt rfl rfl rfl rfl) rfl rfl (OpV.move rfl rfl) ?_
          refine JQ_v [] (qt rfl rfl rfl rfl) rfl rfl (OpV.move rfl rfl) ?_
          refine JQ_v [0] (qt rfl rfl rfl rfl) rfl rfl (OpV.indexAddr (m := 0) rfl rfl rfl sl22 rfl (isSl_sl _ _) (by first | omega | (simp only [lens]; omega) | (simp only [lens] at *; omega))) ?_
          refine JQ_v [0] (qt rfl rfl rfl rfl) rfl rfl (OpV.load rfl rfl sh3 (i := 0) rfl (reads_sl _ _ _ 0 (by first | omega | (simp only [lens]; omega) | (simp only [lens] at *; omega))) rfl) ?_
          refine JQ_v [] (qt rfl rfl rfl rfl) rfl rfl (OpV.geq rfl rfl rfl) ?_
          refine JQ_v [] (qt rfl rfl rfl rfl) rfl rfl (OpV.pickT rfl rfl rfl) ?_
          refine JQ_v [] (qn rfl) rfl rfl (OpV.pickF rfl rfl rfl) ?_
          refine JQ_nil ⟨by kernel_rfl, ?_⟩
          refine JK_cond (b := decide ((l.getD (i_4 : Int).toNat 0) ≤ (l.getD ((i_4 - 1) : Int).toNat 0))) rfl (fun (h37 : decide ((l.getD (i_4 : Int).toNat 0) ≤ (l.getD ((i_4 - 1) : Int).toNat 0)) = true) => ?_) (fun (h37 : decide ((l.getD (i_4 : Int).toNat 0) ≤ (l.getD ((i_4 - 1) : Int).toNat 0)) = false) => ?_)
          · skip
            have g38 : ((l.getD (i_4 : Int).toNat 0) ≤ (l.getD ((i_4 - 1) : Int).toNat 0)) := of_decide_eq_true h37
            refine JK_seq ?_
            refine JK_region ?_
            refine JO_q rfl rfl rfl (OpV.assign rfl rfl) ?_
            refine JO_nil ?_
            have hR39 : flqref7_Rising_L0 l n (((((l.length : Nat) : Int) : Int) - 0).toNat) 0 = LR.ret false := by
              rw [← hM5]; simp only [flqref7_Rising_L0, h12, h16, h23, h31, h37, cs4]
            have hq : rr = false := hrr.symm.trans (by simp only [flqref7_Rising, h12, h16, h23, h31, h37, hR39, cs4])
            replace hrr := hrr.trans hq
            subst rr
            refine JK_return (()) rfl (.tmp rfl .nil) rfl trivial (Ent.take (is := []) rfl)
          · skip
            have g40 : ¬ ((l.getD (i_4 : Int).toNat 0) ≤ (l.getD ((i_4 - 1) : Int).toNat 0)) := of_decide_eq_false h37
            refine JK_skip ?_
            refine JK_blk ?_
            refine JK_region ?_
            refine JO_q rfl rfl rfl (OpV.move rfl rfl) ?_
            refine JO_q rfl rfl rfl (OpV.add rfl rfl rfl (by unfold i64ok; omega)) ?_
            refine JO_q rfl rfl rfl (OpV.assign rfl rfl) ?_
            refine JO_nil ?_
            refine JK_goal (r14, (i_4 + 1)) ⟨(by rw [← hM5]; simp only [flqref7_Rising_L0, h12, h16, h23, h31, h37, cs4]), (by omega), (by omega), (by omega), (by omega)⟩ (by show r14 < r14 + 1; omega) (Env.sub_all rfl) (Ent.take (is := [0]) rfl)
        · skip
          have g41 : ¬ (0 < i_4) := of_decide_eq_false h31
          have hb42 : -9223372036854775808 ≤ (l.getD (i_4 : Int).toNat 0) ∧ (l.getD (i_4 : Int).toNat 0) ≤ 9223372036854775807 := getD_ok ho11 (by first | omega | (simp only [lens]; omega) | (simp only [lens] at *; omega))
          have hb43 : -9223372036854775808 ≤ (l.getD (i_4 : Int).toNat 0) ∧ (l.getD (i_4 : Int).toNat 0) ≤ 9223372036854775807 := getD_ok ho11 (by first | omega | (simp only [lens]; omega) | (simp only [lens] at *; omega))
          refine JK_drawQ [0, 0, 3, 7, 15, 31, 63, 63, 255, 511, 63, 2047, 4095, 8191, 16383, 32767, 65535, 131071, 131071, 393215, 1048575, 2097151, 131071, 131071, 12713983, 29491199, 67108863, 134217727, 268435455] fmix ?_
          refine JQ_v [] (qn rfl) rfl rfl (OpV.move rfl rfl) ?_
          refine JQ_v [] (qn rfl) rfl rfl (OpV.move rfl rfl) ?_
          refine JQ_v [0] (qn rfl) rfl rfl (OpV.indexAddr (m := 0) rfl rfl rfl sl22 rfl (isSl_sl _ _) (by first | omega | (simp only [lens]; omega) | (simp only [lens] at *; omega))) ?_
          refine JQ_v [0] (qn rfl) rfl rfl (OpV.load rfl rfl sh3 (i := 0) rfl (reads_sl _ _ _ 0 (by first | omega | (simp only [lens]; omega) | (simp only [lens] at *; omega))) rfl) ?_
          refine JQ_b h16 [] (qn rfl) rfl rfl (OpV.lss rfl rfl rfl) ?_
          refine JQ_v [] (qn rfl) rfl rfl (OpV.move rfl rfl) ?_
          refine JQ_v [] (qt rfl rfl rfl rfl) rfl rfl (OpV.move rfl rfl) ?_
          refine JQ_v [] (qt rfl rfl rfl rfl) rfl rfl (OpV.move rfl rfl) ?_
          refine JQ_v [0] (qt rfl rfl rfl rfl) rfl rfl (OpV.indexAddr (m := 0) rfl rfl rfl sl22 rfl (isSl_sl _ _) (by first | omega | (simp only [lens]; omega) | (simp only [lens] at *; omega))) ?_
          refine JQ_v [0] (qt rfl rfl rfl rfl) rfl rfl (OpV.load rfl rfl sh3 (i := 0) rfl (reads_sl _ _ _ 0 (by first | omega | (simp only [lens]; omega) | (simp only [lens] at *; omega))) rfl) ?_
          refine JQ_v [] (qt rfl rfl rfl rfl) rfl rfl (OpV.move rfl rfl) ?_
          refine JQ_b h23 [] (qt rfl rfl rfl rfl) rfl rfl (OpV.geq rfl rfl rfl) ?_
          refine JQ_v [] (qn rfl) rfl rfl (OpV.pickF rfl rfl rfl) ?_
          refine JQ_v [] (qn rfl) rfl rfl (OpV.move rfl rfl) ?_
          refine JQ_v [] (qt rfl rfl rfl rfl) rfl rfl (OpV.move rfl rfl) ?_
          refine JQ_b h31 [] (qt rfl rfl rfl rfl) rfl rfl (OpV.gtr rfl rfl rfl) ?_
          refine JQ_v [] (qt rfl rfl rfl rfl) rfl rfl (OpV.move rfl rfl) ?_
          refine JQ_skip (qs rfl rfl rfl _ rfl rfl) rfl ?_
          refine JQ_skip (qs rfl rfl rfl _ rfl rfl) rfl ?_
          refine JQ_skip (qs rfl rfl rfl _ rfl rfl) rfl ?_
          refine JQ_skip (qs rfl rfl rfl _ rfl rfl) rfl ?_
          refine JQ_skip (qs rfl rfl rfl _ rfl rfl) rfl ?_
          refine JQ_skip (qs rfl rfl rfl _ rfl rfl) rfl ?_
          refine JQ_skip (qs rfl rfl rfl _ rfl rfl) rfl ?_
          refine JQ_skip (qs rfl rfl rfl _ rfl rfl) rfl ?_
          refine JQ_skip (qs rfl rfl rfl _ rfl rfl) rfl ?_
          refine JQ_skip (qs rfl rfl rfl _ rfl rfl) rfl ?_
          refine JQ_v [] (qt rfl rfl rfl rfl) rfl rfl (OpV.pickF rfl rfl rfl) ?_
          refine JQ_v [] (qn rfl) rfl rfl (OpV.pickF rfl rfl rfl) ?_
          refine JQ_nil ⟨by kernel_rfl, ?_⟩
          refine JK_condF rfl ?_
          refine JK_skip ?_
          refine JK_blk ?_
          refine JK_region ?_
          refine JO_q rfl rfl rfl (OpV.move rfl rfl) ?_
          refine JO_q rfl rfl rfl (OpV.add rfl rfl rfl (by unfold i64ok; omega)) ?_
          refine JO_q rfl rfl rfl (OpV.assign rfl rfl) ?_
          refine JO_nil ?_
          refine JK_goal (r14, (i_4 + 1)) ⟨(by rw [← hM5]; simp only [flqref7_Rising_L0, h12, h16, h23, h31, cs4]), (by omega), (by omega), (by omega), (by omega)⟩ (by show r14 < r14 + 1; omega) (Env.sub_all rfl) (Ent.take (is := [0]) rfl)
  · skip
    have g44 : ¬ (i_4 < ((l.length : Nat) : Int)) := of_decide_eq_false h12
    obtain rfl : r3 = 0 := by omega
    refine JK_exit rfl ?_
    have hR45 : flqref7_Rising_L0 l n (((((l.length : Nat) : Int) : Int) - 0).toNat) 0 = LR.brk () := by
      rw [← hM5]; simp only [flqref7_Rising_L0, h12, cs4]
    refine JK_seq ?_
    refine JK_region ?_
    refine JO_q rfl rfl rfl (OpV.assign rfl rfl) ?_
    refine JO_nil ?_
    have hq : rr = true := hrr.symm.trans (by simp only [flqref7_Rising, h12, hR45, cs4])
    replace hrr := hrr.trans hq
    subst rr
    refine JK_return (()) rfl (.tmp rfl .nil) rfl trivial (Ent.take (is := []) rfl)
set_option maxHeartbeats 20000000 in
set_option maxRecDepth 100000 in
/- flowquery/flqref1.Valid -/
theorem fn39 (s : GSet) (sa1 : Option Addr) (sk1 : Nat) (hs_0 : i64ok s.Width) (rr : Bool) (hrr : flqref1_Valid s = rr) :
    FT Try.prog 39 #[.agg #[.int .i64 s.Width, .slice sa1 s.Words.length sk1]] [sl (.slice sa1 s.Words.length sk1) (s.Words : List (BitVec 64))]
      (fun g : Unit => True)
      (fun g => .bool rr)
      (fun g => []) := by
  refine FT_intro (args := [.agg #[.int .i64 s.Width, .slice sa1 s.Words.length sk1]]) Try.func39 rfl rfl ?_
  intro w0 M0 F0
  have hs_0 : -9223372036854775808 ≤ s.Width ∧ s.Width ≤ 9223372036854775807 := hs_0
  refine JJ_fact 0 rfl sl_bytes ?_
  intro hl1
  have hl1 : s.Words.length * 8 ≤ 140737488355328 := hl1
  refine JK_seq ?_
  refine JK_region ?_
  refine JO_act rfl rfl rfl (OpA.box rfl rfl) ?_
  intro p2
  refine JO_q rfl rfl rfl (OpV.assign rfl rfl) ?_
  refine JO_nil ?_
  refine JK_seq ?_
  refine JK_seq ?_
  refine JK_region ?_
  refine JO_q rfl rfl rfl (OpV.fieldAddr rfl rfl fo50_0 (i := 0) rfl (isPtr_pv _ _)) ?_
  refine JO_q rfl rfl rfl (OpV.loadF rfl rfl sh3 (i := 0) rfl (reads_pv _ _) rfl) ?_
  refine JO_q rfl rfl rfl (OpV.lss rfl rfl rfl) ?_
  refine JO_q rfl rfl rfl (OpV.move rfl rfl) ?_
  refine JJ_split 7 rfl (fun (h3 : decide (s.Width < 0) = true) => ?_) (fun (h3 : decide (s.Width < 0) = false) => ?_)
  · skip
    have g4 : (s.Width < 0) := of_decide_eq_true h3
    refine JO_skip rfl rfl rfl rfl rfl rfl ?_
    refine JO_skip rfl rfl rfl rfl rfl rfl ?_
    refine JO_skip rfl rfl rfl rfl rfl rfl ?_
    refine JO_q rfl rfl rfl (OpV.pickT rfl rfl rfl) ?_
    refine JO_q rfl rfl rfl (OpV.move rfl rfl) ?_
    refine JO_skip rfl rfl rfl rfl rfl rfl ?_
    refine JO_skip rfl rfl rfl rfl rfl rfl ?_
    refine JO_skip rfl rfl rfl rfl rfl rfl ?_
    refine JO_skip rfl rfl rfl rfl rfl rfl ?_
    refine JO_skip rfl rfl rfl rfl rfl rfl ?_
    refine JO_skip rfl rfl rfl rfl rfl rfl ?_
    refine JO_skip rfl rfl rfl rfl rfl rfl ?_
    refine JO_skip rfl rfl rfl rfl rfl rfl ?_
    refine JO_q rfl rfl rfl (OpV.pickT rfl rfl rfl) ?_
    refine JO_nil ?_
    refine JK_condT rfl ?_
    refine JK_seq ?_
    refine JK_region ?_
    refine JO_q rfl rfl rfl (OpV.assign rfl rfl) ?_
    refine JO_nil ?_
    have hq : rr = false := hrr.symm.trans (by simp only [flqref1_Valid, h3, cs4])
    replace hrr := hrr.trans hq
    subst rr
    refine JK_return (()) rfl (.tmp rfl .nil) rfl trivial (Ent.take (is := []) rfl)
  · skip
    have g5 : ¬ (s.Width < 0) := of_decide_eq_false h3
    refine JO_taken rfl rfl rfl rfl ?_
    refine JO_q rfl rfl rfl (OpV.fieldAddr rfl rfl fo50_0 (i := 0) rfl (isPtr_pv _ _)) ?_
    refine JO_taken rfl rfl rfl rfl ?_
    refine JO_q rfl rfl rfl (OpV.loadF rfl rfl sh3 (i := 0) rfl (reads_pv _ _) rfl) ?_
    refine JO_taken rfl rfl rfl rfl ?_
    refine JO_q rfl rfl rfl (OpV.gtr rfl rfl rfl) ?_
    refine JO_q rfl rfl rfl (OpV.pickF rfl rfl rfl) ?_
    refine JO_q rfl rfl rfl (OpV.move rfl rfl) ?_
    refine JJ_split 12 rfl (fun (h6 : decide (256 < s.Width) = true) => ?_) (fun (h6 : decide (256 < s.Width) = false) => ?_)
    · skip
      have g7 : (256 < s.Width) := of_decide_eq_true h6
      refine JO_skip rfl rfl rfl rfl rfl rfl ?_
      refine JO_skip rfl rfl rfl rfl rfl rfl ?_
      refine JO_skip rfl rfl rfl rfl rfl rfl ?_
      refine JO_skip rfl rfl rfl rfl rfl rfl ?_
      refine JO_skip rfl rfl rfl rfl rfl rfl ?_
      refine JO_skip rfl rfl rfl rfl rfl rfl ?_
      refine JO_skip rfl rfl rfl rfl rfl rfl ?_
      refine JO_skip rfl rfl rfl rfl rfl rfl ?_
      refine JO_q rfl rfl rfl (OpV.pickT rfl rfl rfl) ?_
      refine JO_nil ?_
      refine JK_condT rfl ?_
      refine JK_seq ?_
      refine JK_region ?_
      refine JO_q rfl rfl rfl (OpV.assign rfl rfl) ?_
      refine JO_nil ?_
      have hq : rr = false := hrr.symm.trans (by simp only [flqref1_Valid, h3, h6, cs4])
      replace hrr := hrr.trans hq
      subst rr
      refine JK_return (()) rfl (.tmp rfl .nil) rfl trivial (Ent.take (is := []) rfl)
    · skip
      have g8 : ¬ (256 < s.Width) := of_decide_eq_false h6
      refine JO_taken rfl rfl rfl rfl ?_
      refine JO_q rfl rfl rfl (OpV.fieldAddr rfl rfl fo50_1 (i := 0) rfl (isPtr_pv _ _)) ?_
      refine JO_taken rfl rfl rfl rfl ?_
      refine JO_q rfl rfl rfl (OpV.loadF rfl rfl sh48 (i := 0) rfl (reads_pv _ _) rfl) ?_
      refine JO_taken rfl rfl rfl rfl ?_
      refine JO_q rfl rfl rfl (OpV.len rfl rfl sl48) ?_
      refine JO_taken rfl rfl rfl rfl ?_
      refine JO_q rfl rfl rfl (OpV.fieldAddr rfl rfl fo50_0 (i := 0) rfl (isPtr_pv _ _)) ?_
      refine JO_taken rfl rfl rfl rfl ?_
      refine JO_q rfl rfl rfl (OpV.loadF rfl rfl sh3 (i := 0) rfl (reads_pv _ _) rfl) ?_
      refine JO_taken rfl rfl rfl rfl ?_
      refine JO_q rfl rfl rfl (OpV.add rfl rfl rfl (by unfold i64ok; omega)) ?_
      refine JO_taken rfl rfl rfl rfl ?_
      refine JO_q rfl rfl rfl (OpV.quo rfl rfl rfl (by omega)) ?_
      refine JO_taken rfl rfl rfl rfl ?_
      refine JO_q rfl rfl rfl (OpV.neq rfl rfl rfl) ?_
      refine JO_q rfl rfl rfl (OpV.pickF rfl rfl rfl) ?_
      refine JO_nil ?_
      refine JK_cond (b := (((s.Words.length : Nat) : Int) != ((s.Width + 63) / 64))) rfl (fun (h9 : (((s.Words.length : Nat) : Int) != ((s.Width + 63) / 64)) = true) => ?_) (fun (h9 : (((s.Words.length : Nat) : Int) != ((s.Width + 63) / 64)) = false) => ?_)
      · skip
        have g10 : ((s.Words.length : Nat) : Int) ≠ ((s.Width + 63) / 64) := ne_of_bne h9
        refine JK_seq ?_
        refine JK_region ?_
        refine JO_q rfl rfl rfl (OpV.assign rfl rfl) ?_
        refine JO_nil ?_
        have hq : rr = false := hrr.symm.trans (by simp only [flqref1_Valid, h3, h6, h9, cs4])
        replace hrr := hrr.trans hq
        subst rr
        refine JK_return (()) rfl (.tmp rfl .nil) rfl trivial (Ent.take (is := []) rfl)
      · skip
        have g11 : ((s.Words.length : Nat) : Int) = ((s.Width + 63) / 64) := eq_of_bne_false h9
        refine JK_skip ?_
        refine JK_seq ?_
        refine JK_seq ?_
        refine JK_region ?_
        refine JO_q rfl rfl rfl (OpV.fieldAddr rfl rfl fo50_0 (i := 0) rfl (isPtr_pv _ _)) ?_
        refine JO_q rfl rfl rfl (OpV.loadF rfl rfl sh3 (i := 0) rfl (reads_pv _ _) rfl) ?_
        refine JO_q rfl rfl rfl (OpV.assign rfl rfl) ?_
        refine JO_nil ?_
        refine JK_block ?_
        refine JK_loop (γ := Nat × Int) (fun (r12, b_13) => [(1, p2), (3, .int .i64 b_13)]) (fun (r12, b_13) => [pv p2 [.int .i64 s.Width, .slice sa1 s.Words.length sk1], sl (.slice sa1 s.Words.length sk1) (s.Words : List (BitVec 64))]) (fun (r12, b_13) => flqref1_Valid_L0 s r12 b_13 = flqref1_Valid_L0 s ((((64 * ((s.Words.length : Nat) : Int)) : Int) - s.Width).toNat) s.Width ∧ r12 = (((64 * ((s.Words.length : Nat) : Int)) : Int) - b_13).toNat ∧ (s.Width : Int) ≤ b_13 ∧ (b_13 ≤ (64 * ((s.Words.length : Nat) : Int)) ∨ b_13 = s.Width) ∧ (-9223372036854775808 ≤ b_13 ∧ b_13 ≤ 9223372036854775807)) (fun (r12, b_13) => r12) ((((64 * ((s.Words.length : Nat) : Int)) : Int) - s.Width).toNat, s.Width) ⟨rfl, rfl, (by omega), (.inr rfl), (by omega)⟩ (Env.sub_all rfl) (Ent.take (is := [0, 1]) rfl) ?_
        rintro ⟨r12, b_13⟩ ⟨hM14, hr15, hi16, hi17, hk18⟩
        refine JJ_norm (L := [(1, p2), (3, .int .i64 b_13)]) (A := [pv p2 [.int .i64 s.Width, .slice sa1 s.Words.length sk1], sl (.slice sa1 s.Words.length sk1) (s.Words : List (BitVec 64))]) rfl rfl ?_
        refine JJ_fact 1 rfl sl_bytes ?_
        intro hl19
        have hl19 : s.Words.length * 8 ≤ 140737488355328 := hl19
        refine JK_seq ?_
        refine JK_seq ?_
        refine JK_region ?_
        refine JO_q rfl rfl rfl (OpV.move rfl rfl) ?_
        refine JO_q rfl rfl rfl (OpV.fieldAddr rfl rfl fo50_1 (i := 0) rfl (isPtr_pv _ _)) ?_
        refine JO_q rfl rfl rfl (OpV.loadF rfl rfl sh48 (i := 0) rfl (reads_pv _ _) rfl) ?_
        refine JO_q rfl rfl rfl (OpV.len rfl rfl sl48) ?_
        refine JO_q rfl rfl rfl (OpV.mul rfl rfl rfl (by unfold i64ok; omega)) ?_
        refine JO_q rfl rfl rfl (OpV.lss rfl rfl rfl) ?_
        refine JO_nil ?_
        refine JK_cond (b := decide (b_13 < (64 * ((s.Words.length : Nat) : Int)))) rfl (fun (h20 : decide (b_13 < (64 * ((s.Words.length : Nat) : Int))) = true) => ?_) (fun (h20 : decide (b_13 < (64 * ((s.Words.length : Nat) : Int))) = false) => ?_)
        · skip
          have g21 : (b_13 < (64 * ((s.Words.length : Nat) : Int))) := of_decide_eq_true h20
          obtain ⟨r22, rfl⟩ : ∃ q, r12 = q + 1 := ⟨r12 - 1, by omega⟩
          refine JK_skip ?_
          refine JK_seq ?_
          refine JK_block ?_
          refine JK_seq ?_
          refine JK_region ?_
          refine JO_q rfl rfl rfl (OpV.fieldAddr rfl rfl fo50_1 (i := 0) rfl (isPtr_pv _ _)) ?_
          refine JO_q rfl rfl rfl (OpV.loadF rfl rfl sh48 (i := 0) rfl (reads_pv _ _) rfl) ?_
          refine JO_q rfl rfl rfl (OpV.move rfl rfl) ?_
          refine JO_q rfl rfl rfl (OpV.quo rfl rfl rfl (by omega)) ?_
          refine JO_q rfl rfl rfl (OpV.indexAddr (m := 1) rfl rfl rfl sl48 rfl (isSl_sl _ _) (by first | omega | (simp only [lens]; omega) | (simp only [lens] at *; omega))) ?_
          refine JO_q rfl rfl rfl (OpV.load rfl rfl sh72 (i := 1) rfl (reads_sl _ _ _ 0#64 (by first | omega | (simp only [lens]; omega) | (simp only [lens] at *; omega))) rfl) ?_
          refine JO_q rfl rfl rfl (OpV.move rfl rfl) ?_
          refine JO_q rfl rfl rfl (OpV.rem rfl rfl rfl (by omega)) ?_
          refine JO_q rfl rfl rfl (OpV.convU rfl un3 un71 rfl) ?_
          refine JO_q rfl rfl rfl (OpV.shrU (a := (s.Words.getD ((b_13 / 64) : Int).toNat 0#64)) (n := ((BitVec.ofInt 64 (b_13 % 64)).toNat : Int)) rfl rfl rfl (by omega)) ?_
          refine JO_q rfl rfl rfl (OpV.andU (a := ((s.Words.getD ((b_13 / 64) : Int).toNat 0#64) >>> (((BitVec.ofInt 64 (b_13 % 64)).toNat : Int)).toNat)) (b := 1#64) rfl rfl rfl) ?_
          refine JO_q rfl rfl rfl (OpV.eqlU (a := (((s.Words.getD ((b_13 / 64) : Int).toNat 0#64) >>> (((BitVec.ofInt 64 (b_13 % 64)).toNat : Int)).toNat) &&& 1#64)) (b := 1#64) rfl rfl rfl) ?_
          refine JO_nil ?_
          refine JK_cond (b := ((((s.Words.getD ((b_13 / 64) : Int).toNat 0#64) >>> (((BitVec.ofInt 64 (b_13 % 64)).toNat : Int)).toNat) &&& 1#64) == 1#64)) rfl (fun (h23 : ((((s.Words.getD ((b_13 / 64) : Int).toNat 0#64) >>> (((BitVec.ofInt 64 (b_13 % 64)).toNat : Int)).toNat) &&& 1#64) == 1#64) = true) => ?_) (fun (h23 : ((((s.Words.getD ((b_13 / 64) : Int).toNat 0#64) >>> (((BitVec.ofInt 64 (b_13 % 64)).toNat : Int)).toNat) &&& 1#64) == 1#64) = false) => ?_)
          · skip
            have g24 : (((s.Words.getD ((b_13 / 64) : Int).toNat 0#64) >>> (((BitVec.ofInt 64 (b_13 % 64)).toNat : Int)).toNat) &&& 1#64) = 1#64 := eq_of_beq h23
            refine JK_seq ?_
            refine JK_region ?_
            refine JO_q rfl rfl rfl (OpV.assign rfl rfl) ?_
            refine JO_nil ?_
            have hR25 : flqref1_Valid_L0 s ((((64 * ((s.Words.length : Nat) : Int)) : Int) - s.Width).toNat) s.Width = LR.ret false := by
              rw [← hM14]; simp only [flqref1_Valid_L0, h3, h6, h9, h20, h23, cs4]
            have hq : rr = false := hrr.symm.trans (by simp only [flqref1_Valid, h3, h6, h9, h20, h23, hR25, cs4])
            replace hrr := hrr.trans hq
            subst rr
            refine JK_return (()) rfl (.tmp rfl .nil) rfl trivial (Ent.take (is := []) rfl)
          · skip
            have g26 : (((s.Words.getD ((b_13 / 64) : Int).toNat 0#64) >>> (((BitVec.ofInt 64 (b_13 % 64)).toNat : Int)).toNat) &&& 1#64) ≠ 1#64 := ne_of_beq_false h23
            refine JK_skip ?_
            refine JK_blk ?_
            refine JK_region ?_
            refine JO_q rfl rfl rfl (OpV.move rfl rfl) ?_
            refine JO_q rfl rfl rfl (OpV.add rfl rfl rfl (by unfold i64ok; omega)) ?_
            refine JO_q rfl rfl rfl (OpV.assign rfl rfl) ?_
            refine JO_nil ?_
            refine JK_goal (r22, (b_13 + 1)) ⟨(by rw [← hM14]; simp only [flqref1_Valid_L0, h3, h6, h9, h20, h23, cs4]), (by omega), (by omega), (by omega), (by omega)⟩ (by show r22 < r22 + 1; omega) (Env.sub_all rfl) (Ent.take (is := [0, 1]) rfl)
        · skip
          have g27 : ¬ (b_13 < (64 * ((s.Words.length : Nat) : Int))) := of_decide_eq_false h20
          obtain rfl : r12 = 0 := by omega
          refine JK_exit rfl ?_
          have hR28 : flqref1_Valid_L0 s ((((64 * ((s.Words.length : Nat) : Int)) : Int) - s.Width).toNat) s.Width = LR.brk () := by
            rw [← hM14]; simp only [flqref1_Valid_L0, h3, h6, h9, h20, cs4]
          refine JK_seq ?_
          refine JK_region ?_
          refine JO_q rfl rfl rfl (OpV.assign rfl rfl) ?_
          refine JO_nil ?_
          have hq : rr = true := hrr.symm.trans (by simp only [flqref1_Valid, h3, h6, h9, h20, hR28, cs4])
          replace hrr := hrr.trans hq
          subst rr
          refine JK_return (()) rfl (.tmp rfl .nil) rfl trivial (Ent.take (is := []) rfl)
set_option maxHeartbeats 20000000 in
set_option maxRecDepth 100000 in
/- flowquery/flqref1.Before -/
theorem fn51 (a : GCopy) (b : GCopy) (ha_0 : i64ok a.From) (ha_1 : i64ok a.To) (hb_0 : i64ok b.From) (hb_1 : i64ok b.To) (rr : Bool) (hrr : flqref1_Before a b = rr) :
    FT Try.prog 51 #[.agg #[.int .i64 a.From, .int .i64 a.To], .agg #[.int .i64 b.From, .int .i64 b.To]] []
      (fun g : Unit => True)
      (fun g => .bool rr)
      (fun g => []) := by
  refine FT_intro (args := [.agg #[.int .i64 a.From, .int .i64 a.To], .agg #[.int .i64 b.From, .int .i64 b.To]]) Try.func51 rfl rfl ?_
  intro w0 M0 F0
  have ha_0 : -9223372036854775808 ≤ a.From ∧ a.From ≤ 9223372036854775807 := ha_0
  have ha_1 : -9223372036854775808 ≤ a.To ∧ a.To ≤ 9223372036854775807 := ha_1
  have hb_0 : -9223372036854775808 ≤ b.From ∧ b.From ≤ 9223372036854775807 := hb_0
  have hb_1 : -9223372036854775808 ≤ b.To ∧ b.To ≤ 9223372036854775807 := hb_1
  refine JK_seq ?_
  refine JK_region ?_
  refine JO_act rfl rfl rfl (OpA.box rfl rfl) ?_
  intro p1
  refine JO_act rfl rfl rfl (OpA.box rfl rfl) ?_
  intro p2
  refine JO_q rfl rfl rfl (OpV.assign rfl rfl) ?_
  refine JO_nil ?_
  refine JK_seq ?_
  refine JK_region ?_
  refine JO_q rfl rfl rfl (OpV.fieldAddr rfl rfl fo68_0 (i := 1) rfl (isPtr_pv _ _)) ?_
  refine JO_q rfl rfl rfl (OpV.loadF rfl rfl sh3 (i := 1) rfl (reads_pv _ _) rfl) ?_
  refine JO_q rfl rfl rfl (OpV.fieldAddr rfl rfl fo68_0 (i := 0) rfl (isPtr_pv _ _)) ?_
  refine JO_q rfl rfl rfl (OpV.loadF rfl rfl sh3 (i := 0) rfl (reads_pv _ _) rfl) ?_
  refine JO_q rfl rfl rfl (OpV.lss rfl rfl rfl) ?_
  refine JO_q rfl rfl rfl (OpV.move rfl rfl) ?_
  refine JJ_split 10 rfl (fun (h3 : decide (a.From < b.From) = true) => ?_) (fun (h3 : decide (a.From < b.From) = false) => ?_)
  · skip
    have g4 : (a.From < b.From) := of_decide_eq_true h3
    refine JO_skip rfl rfl rfl rfl rfl rfl ?_
    refine JO_skip rfl rfl rfl rfl rfl rfl ?_
    refine JO_skip rfl rfl rfl rfl rfl rfl ?_
    refine JO_skip rfl rfl rfl rfl rfl rfl ?_
    refine JO_skip rfl rfl rfl rfl rfl rfl ?_
    refine JO_skip rfl rfl rfl rfl rfl rfl ?_
    refine JO_skipU rfl rfl rfl rfl rfl rfl ?_
    refine JO_skipU rfl rfl rfl rfl rfl rfl ?_
    refine JO_skipU rfl rfl rfl rfl rfl rfl ?_
    refine JO_skipU rfl rfl rfl rfl rfl rfl ?_
    refine JO_skipU rfl rfl rfl rfl rfl rfl ?_
    refine JO_skip rfl rfl rfl rfl rfl rfl ?_
    refine JO_q rfl rfl rfl (OpV.pickT rfl rfl rfl) ?_
    refine JO_q rfl rfl rfl (OpV.assign rfl rfl) ?_
    refine JO_nil ?_
    have hq : rr = true := hrr.symm.trans (by simp only [flqref1_Before, h3, cs4])
    replace hrr := hrr.trans hq
    subst rr
    refine JK_return (()) rfl (.tmp rfl .nil) rfl trivial (Ent.take (is := []) rfl)
  · skip
    have g5 : ¬ (a.From < b.From) := of_decide_eq_false h3
    refine JO_taken rfl rfl rfl rfl ?_
    refine JO_q rfl rfl rfl (OpV.fieldAddr rfl rfl fo68_0 (i := 1) rfl (isPtr_pv _ _)) ?_
    refine JO_taken rfl rfl rfl rfl ?_
    refine JO_q rfl rfl rfl (OpV.loadF rfl rfl sh3 (i := 1) rfl (reads_pv _ _) rfl) ?_
    refine JO_taken rfl rfl rfl rfl ?_
    refine JO_q rfl rfl rfl (OpV.fieldAddr rfl rfl fo68_0 (i := 0) rfl (isPtr_pv _ _)) ?_
    refine JO_taken rfl rfl rfl rfl ?_
    refine JO_q rfl rfl rfl (OpV.loadF rfl rfl sh3 (i := 0) rfl (reads_pv _ _) rfl) ?_
    refine JO_taken rfl rfl rfl rfl ?_
    refine JO_q rfl rfl rfl (OpV.eql rfl rfl rfl) ?_
    refine JO_taken rfl rfl rfl rfl ?_
    refine JO_q rfl rfl rfl (OpV.move rfl rfl) ?_
    refine JJ_split 16 rfl (fun (h6 : (a.From == b.From) = true) => ?_) (fun (h6 : (a.From == b.From) = false) => ?_)
    · skip
      have g7 : a.From = b.From := eq_of_beq h6
      refine JO_taken rfl rfl rfl rfl ?_
      refine JO_q rfl rfl rfl (OpV.fieldAddr rfl rfl fo68_1 (i := 1) rfl (isPtr_pv _ _)) ?_
      refine JO_taken rfl rfl rfl rfl ?_
      refine JO_q rfl rfl rfl (OpV.loadF rfl rfl sh3 (i := 1) rfl (reads_pv _ _) rfl) ?_
      refine JO_taken rfl rfl rfl rfl ?_
      refine JO_q rfl rfl rfl (OpV.fieldAddr rfl rfl fo68_1 (i := 0) rfl (isPtr_pv _ _)) ?_
      refine JO_taken rfl rfl rfl rfl ?_
      refine JO_q rfl rfl rfl (OpV.loadF rfl rfl sh3 (i := 0) rfl (reads_pv _ _) rfl) ?_
      refine JO_taken rfl rfl rfl rfl ?_
      refine JO_q rfl rfl rfl (OpV.lss rfl rfl rfl) ?_
      refine JO_taken rfl rfl rfl rfl ?_
      refine JO_q rfl rfl rfl (OpV.pickT rfl rfl rfl) ?_
      refine JO_q rfl rfl rfl (OpV.pickF rfl rfl rfl) ?_
      refine JO_q rfl rfl rfl (OpV.assign rfl rfl) ?_
      refine JO_nil ?_
      have hq : rr = decide (a.To < b.To) := hrr.symm.trans (by simp only [flqref1_Before, h3, h6, cs4])
      replace hrr := hrr.trans hq
      subst rr
      refine JK_return (()) rfl (.tmp rfl .nil) rfl trivial (Ent.take (is := []) rfl)
    · skip
      have g8 : a.From ≠ b.From := ne_of_beq_false h6
      refine JO_skip rfl rfl rfl rfl rfl rfl ?_
      refine JO_skip rfl rfl rfl rfl rfl rfl ?_
      refine JO_skip rfl rfl rfl rfl rfl rfl ?_
      refine JO_skip rfl rfl rfl rfl rfl rfl ?_
      refine JO_skip rfl rfl rfl rfl rfl rfl ?_
      refine JO_taken rfl rfl rfl rfl ?_
      refine JO_q rfl rfl rfl (OpV.pickF rfl rfl rfl) ?_
      refine JO_q rfl rfl rfl (OpV.pickF rfl rfl rfl) ?_
      refine JO_q rfl rfl rfl (OpV.assign rfl rfl) ?_
      refine JO_nil ?_
      have hq : rr = false := hrr.symm.trans (by simp only [flqref1_Before, h3, h6, cs4])
      replace hrr := hrr.trans hq
      subst rr
      refine JK_return (()) rfl (.tmp rfl .nil) rfl trivial (Ent.take (is := []) rfl)
set_option maxHeartbeats 20000000 in
set_option maxRecDepth 100000 in
/- flowquery/flqref1.ValidTransfer -/
theorem fn38 (t : GTransfer) (ta1 : Option Addr) (tk1 : Nat) (ta3 : Option Addr) (tk3 : Nat) (ta4 : Option Addr) (tk4 : Nat) (ht_0 : i64ok t.Gen.Width) (ht_2 : i64ok t.Kill.Width) (rr : Bool) (hrr : flqref1_ValidTransfer t = rr) :
    FT Try.prog 38 #[.agg #[.int .i64 t.Gen.Width, .slice ta1 t.Gen.Words.length tk1, .int .i64 t.Kill.Width, .slice ta3 t.Kill.Words.length tk3, .slice ta4 t.Copies.length tk4]] [sl (.slice ta1 t.Gen.Words.length tk1) (t.Gen.Words : List (BitVec 64)), sl (.slice ta3 t.Kill.Words.length tk3) (t.Kill.Words : List (BitVec 64)), sl (.slice ta4 t.Copies.length tk4) (t.Copies : List GCopy)]
      (fun g : Unit => True)
      (fun g => .bool rr)
      (fun g => []) := by
  refine FT_intro (args := [.agg #[.int .i64 t.Gen.Width, .slice ta1 t.Gen.Words.length tk1, .int .i64 t.Kill.Width, .slice ta3 t.Kill.Words.length tk3, .slice ta4 t.Copies.length tk4]]) Try.func38 rfl rfl ?_
  intro w0 M0 F0
  have ht_0 : -9223372036854775808 ≤ t.Gen.Width ∧ t.Gen.Width ≤ 9223372036854775807 := ht_0
  have ht_2 : -9223372036854775808 ≤ t.Kill.Width ∧ t.Kill.Width ≤ 9223372036854775807 := ht_2
  refine JJ_fact 0 rfl sl_bytes ?_
  intro hl1
  have hl1 : t.Gen.Words.length * 8 ≤ 140737488355328 := hl1
  refine JJ_fact 1 rfl sl_bytes ?_
  intro hl2
  have hl2 : t.Kill.Words.length * 8 ≤ 140737488355328 := hl2
  refine JJ_fact 2 rfl sl_bytes ?_
  intro hl3
  have hl3 : t.Copies.length * 16 ≤ 140737488355328 := hl3
  refine JK_seq ?_
  refine JK_region ?_
  refine JO_act rfl rfl rfl (OpA.box rfl rfl) ?_
  intro p4
  refine JO_q rfl rfl rfl (OpV.assign rfl rfl) ?_
  refine JO_nil ?_
  refine JK_seq ?_
  refine JK_seq ?_
  refine JK_region ?_
  refine JO_q rfl rfl rfl (OpV.fieldAddr rfl rfl fo54_0 (i := 0) rfl (isPtr_pv _ _)) ?_
  refine JO_q rfl rfl rfl (OpV.loadAF [.int .i64 t.Gen.Width, .slice ta1 t.Gen.Words.length tk1] rfl rfl sh50 (i := 0) rfl (reads_pv _ _) rfl rfl) ?_
  refine letv (flqref1_Valid t.Gen) fun rv5 hg6 => ?_
  have hc7 := fn39 t.Gen ta1 tk1 (by (try dsimp only) <;> first | (unfold i64ok; omega) | omega | assumption) rv5 hg6
  refine JO_call [1] rfl rfl rfl (OpC.fn rfl ca39 rfl) (hc7) rfl ?_
  rintro - -
  refine JO_q rfl rfl rfl (OpV.not rfl rfl) ?_
  refine JO_q rfl rfl rfl (OpV.move rfl rfl) ?_
  refine JJ_split 10 rfl (fun (h8 : (!rv5) = true) => ?_) (fun (h8 : (!rv5) = false) => ?_)
  · skip
    have h10 : rv5 = false := not_true h8
    refine JO_skip rfl rfl rfl rfl rfl rfl ?_
    refine JO_skip rfl rfl rfl rfl rfl rfl ?_
    refine JO_skip rfl rfl rfl rfl rfl rfl ?_
    refine JO_skip rfl rfl rfl rfl rfl rfl ?_
    refine JO_q rfl rfl rfl (OpV.pickT rfl rfl rfl) ?_
    refine JO_q rfl rfl rfl (OpV.move rfl rfl) ?_
    refine JO_skip rfl rfl rfl rfl rfl rfl ?_
    refine JO_skip rfl rfl rfl rfl rfl rfl ?_
    refine JO_skip rfl rfl rfl rfl rfl rfl ?_
    refine JO_skip rfl rfl rfl rfl rfl rfl ?_
    refine JO_skip rfl rfl rfl rfl rfl rfl ?_
    refine JO_skip rfl rfl rfl rfl rfl rfl ?_
    refine JO_skip rfl rfl rfl rfl rfl rfl ?_
    refine JO_q rfl rfl rfl (OpV.pickT rfl rfl rfl) ?_
    refine JO_q rfl rfl rfl (OpV.move rfl rfl) ?_
    refine JO_skip rfl rfl rfl rfl rfl rfl ?_
    refine JO_skip rfl rfl rfl rfl rfl rfl ?_
    refine JO_skip rfl rfl rfl rfl rfl rfl ?_
    refine JO_skip rfl rfl rfl rfl rfl rfl ?_
    refine JO_q rfl rfl rfl (OpV.pickT rfl rfl rfl) ?_
    refine JO_nil ?_
    refine JK_condT rfl ?_
    refine JK_seq ?_
    refine JK_region ?_
    refine JO_q rfl rfl rfl (OpV.assign rfl rfl) ?_
    refine JO_nil ?_
    have hq : rr = false := hrr.symm.trans (by simp only [flqref1_ValidTransfer, h8, h10, hg6, cs4])
    replace hrr := hrr.trans hq
    subst rr
    refine JK_return (()) rfl (.tmp rfl .nil) rfl trivial (Ent.take (is := []) rfl)
  · skip
    have h13 : rv5 = true := not_false h8
    refine JO_taken rfl rfl rfl rfl ?_
    refine JO_q rfl rfl rfl (OpV.fieldAddr rfl rfl fo54_1 (i := 0) rfl (isPtr_pv _ _)) ?_
    refine JO_taken rfl rfl rfl rfl ?_
    refine JO_q rfl rfl rfl (OpV.loadAF [.int .i64 t.Kill.Width, .slice ta3 t.Kill.Words.length tk3] rfl rfl sh50 (i := 0) rfl (reads_pv _ _) rfl rfl) ?_
    refine JO_taken rfl rfl rfl rfl ?_
    refine letv (flqref1_Valid t.Kill) fun rv15 hg16 => ?_
    have hc17 := fn39 t.Kill ta3 tk3 (by (try dsimp only) <;> first | (unfold i64ok; omega) | omega | assumption) rv15 hg16
    refine JO_call [2] rfl rfl rfl (OpC.fn rfl ca39 rfl) (hc17) rfl ?_
    rintro - -
    refine JO_taken rfl rfl rfl rfl ?_
    refine JO_q rfl rfl rfl (OpV.not rfl rfl) ?_
    refine JO_q rfl rfl rfl (OpV.pickF rfl rfl rfl) ?_
    refine JO_q rfl rfl rfl (OpV.move rfl rfl) ?_
    refine JJ_split 16 rfl (fun (h18 : (!rv15) = true) => ?_) (fun (h18 : (!rv15) = false) => ?_)
    · skip
      have h20 : rv15 = false := not_true h18
      refine JO_skip rfl rfl rfl rfl rfl rfl ?_
      refine JO_skip rfl rfl rfl rfl rfl rfl ?_
      refine JO_skip rfl rfl rfl rfl rfl rfl ?_
      refine JO_skip rfl rfl rfl rfl rfl rfl ?_
      refine JO_skip rfl rfl rfl rfl rfl rfl ?_
      refine JO_skip rfl rfl rfl rfl rfl rfl ?_
      refine JO_skip rfl rfl rfl rfl rfl rfl ?_
      refine JO_q rfl rfl rfl (OpV.pickT rfl rfl rfl) ?_
      refine JO_q rfl rfl rfl (OpV.move rfl rfl) ?_
      refine JO_skip rfl rfl rfl rfl rfl rfl ?_
      refine JO_skip rfl rfl rfl rfl rfl rfl ?_
      refine JO_skip rfl rfl rfl rfl rfl rfl ?_
      refine JO_skip rfl rfl rfl rfl rfl rfl ?_
      refine JO_q rfl rfl rfl (OpV.pickT rfl rfl rfl) ?_
      refine JO_nil ?_
      refine JK_condT rfl ?_
      refine JK_seq ?_
      refine JK_region ?_
      refine JO_q rfl rfl rfl (OpV.assign rfl rfl) ?_
      refine JO_nil ?_
      have hq : rr = false := hrr.symm.trans (by simp only [flqref1_ValidTransfer, h8, h13, h18, h20, hg6, hg16, cs4])
      replace hrr := hrr.trans hq
      subst rr
      refine JK_return (()) rfl (.tmp rfl .nil) rfl trivial (Ent.take (is := []) rfl)
    · skip
      have h23 : rv15 = true := not_false h18
      refine JO_taken rfl rfl rfl rfl ?_
      refine JO_q rfl rfl rfl (OpV.fieldAddr rfl rfl fo54_0 (i := 0) rfl (isPtr_pv _ _)) ?_
      refine JO_taken rfl rfl rfl rfl ?_
      refine JO_q rfl rfl rfl (OpV.fieldAddrF rfl rfl fo50_0 (i := 0) rfl (isPtr_pv _ _)) ?_
      refine JO_taken rfl rfl rfl rfl ?_
      refine JO_q rfl rfl rfl (OpV.loadF rfl rfl sh3 (i := 0) rfl (reads_pv _ _) rfl) ?_
      refine JO_taken rfl rfl rfl rfl ?_
      refine JO_q rfl rfl rfl (OpV.fieldAddr rfl rfl fo54_1 (i := 0) rfl (isPtr_pv _ _)) ?_
      refine JO_taken rfl rfl rfl rfl ?_
      refine JO_q rfl rfl rfl (OpV.fieldAddrF rfl rfl fo50_0 (i := 0) rfl (isPtr_pv _ _)) ?_
      refine JO_taken rfl rfl rfl rfl ?_
      refine JO_q rfl rfl rfl (OpV.loadF rfl rfl sh3 (i := 0) rfl (reads_pv _ _) rfl) ?_
      refine JO_taken rfl rfl rfl rfl ?_
      refine JO_q rfl rfl rfl (OpV.neq rfl rfl rfl) ?_
      refine JO_q rfl rfl rfl (OpV.pickF rfl rfl rfl) ?_
      refine JO_q rfl rfl rfl (OpV.move rfl rfl) ?_
      refine JJ_split 25 rfl (fun (h25 : (t.Gen.Width != t.Kill.Width) = true) => ?_) (fun (h25 : (t.Gen.Width != t.Kill.Width) = false) => ?_)
      · skip
        have g26 : t.Gen.Width ≠ t.Kill.Width := ne_of_bne h25
        refine JO_skip rfl rfl rfl rfl rfl rfl ?_
        refine JO_skip rfl rfl rfl rfl rfl rfl ?_
        refine JO_skip rfl rfl rfl rfl rfl rfl ?_
        refine JO_skip rfl rfl rfl rfl rfl rfl ?_
        refine JO_q rfl rfl rfl (OpV.pickT rfl rfl rfl) ?_
        refine JO_nil ?_
        refine JK_condT rfl ?_
        refine JK_seq ?_
        refine JK_region ?_
        refine JO_q rfl rfl rfl (OpV.assign rfl rfl) ?_
        refine JO_nil ?_
        have hq : rr = false := hrr.symm.trans (by simp only [flqref1_ValidTransfer, h8, h13, h18, h23, h25, hg6, hg16, cs4])
        replace hrr := hrr.trans hq
        subst rr
        refine JK_return (()) rfl (.tmp rfl .nil) rfl trivial (Ent.take (is := []) rfl)
      · skip
        have g27 : t.Gen.Width = t.Kill.Width := eq_of_bne_false h25
        refine JO_taken rfl rfl rfl rfl ?_
        refine JO_q rfl rfl rfl (OpV.fieldAddr rfl rfl fo54_2 (i := 0) rfl (isPtr_pv _ _)) ?_
        refine JO_taken rfl rfl rfl rfl ?_
        refine JO_q rfl rfl rfl (OpV.loadF rfl rfl sh52 (i := 0) rfl (reads_pv _ _) rfl) ?_
        refine JO_taken rfl rfl rfl rfl ?_
        refine JO_q rfl rfl rfl (OpV.len rfl rfl sl52) ?_
        refine JO_taken rfl rfl rfl rfl ?_
        refine JO_q rfl rfl rfl (OpV.gtr rfl rfl rfl) ?_
        refine JO_q rfl rfl rfl (OpV.pickF rfl rfl rfl) ?_
        refine JO_nil ?_
        refine JK_cond (b := decide (64 < ((t.Copies.length : Nat) : Int))) rfl (fun (h28 : decide (64 < ((t.Copies.length : Nat) : Int)) = true) => ?_) (fun (h28 : decide (64 < ((t.Copies.length : Nat) : Int)) = false) => ?_)
        · skip
          have g29 : (64 < ((t.Copies.length : Nat) : Int)) := of_decide_eq_true h28
          refine JK_seq ?_
          refine JK_region ?_
          refine JO_q rfl rfl rfl (OpV.assign rfl rfl) ?_
          refine JO_nil ?_
          have hq : rr = false := hrr.symm.trans (by simp only [flqref1_ValidTransfer, h8, h13, h18, h23, h25, h28, hg6, hg16, cs4])
          replace hrr := hrr.trans hq
          subst rr
          refine JK_return (()) rfl (.tmp rfl .nil) rfl trivial (Ent.take (is := []) rfl)
        · skip
          have g30 : ¬ (64 < ((t.Copies.length : Nat) : Int)) := of_decide_eq_false h28
          refine JK_skip ?_
          refine JK_seq ?_
          refine JK_region ?_
          refine JO_q rfl rfl rfl (OpV.fieldAddr rfl rfl fo54_0 (i := 0) rfl (isPtr_pv _ _)) ?_
          refine JO_q rfl rfl rfl (OpV.fieldAddrF rfl rfl fo50_0 (i := 0) rfl (isPtr_pv _ _)) ?_
          refine JO_q rfl rfl rfl (OpV.loadF rfl rfl sh3 (i := 0) rfl (reads_pv _ _) rfl) ?_
          refine JO_q rfl rfl rfl (OpV.assign rfl rfl) ?_
          refine JO_nil ?_
          refine JK_seq ?_
          refine JK_seq ?_
          refine JK_region ?_
          refine JO_q rfl rfl rfl (OpV.assign rfl rfl) ?_
          refine JO_nil ?_
          refine JK_block ?_
          refine JK_loop (γ := Nat × Int) (fun (r31, i_32) => [(1, p4), (3, .int .i64 t.Gen.Width), (4, .int .i64 i_32)]) (fun (r31, i_32) => [pv p4 [.int .i64 t.Gen.Width, .slice ta1 t.Gen.Words.length tk1, .int .i64 t.Kill.Width, .slice ta3 t.Kill.Words.length tk3, .slice ta4 t.Copies.length tk4], sl (.slice ta1 t.Gen.Words.length tk1) (t.Gen.Words : List (BitVec 64)), sl (.slice ta3 t.Kill.Words.length tk3) (t.Kill.Words : List (BitVec 64)), sl (.slice ta4 t.Copies.length tk4) (t.Copies : List GCopy)]) (fun (r31, i_32) => flqref1_ValidTransfer_L0 t r31 i_32 = flqref1_ValidTransfer_L0 t (((((t.Copies.length : Nat) : Int) : Int) - 0).toNat) 0 ∧ r31 = ((((t.Copies.length : Nat) : Int) : Int) - i_32).toNat ∧ (0 : Int) ≤ i_32 ∧ (i_32 ≤ ((t.Copies.length : Nat) : Int) ∨ i_32 = 0) ∧ (-9223372036854775808 ≤ i_32 ∧ i_32 ≤ 9223372036854775807)) (fun (r31, i_32) => r31) (((((t.Copies.length : Nat) : Int) : Int) - 0).toNat, 0) ⟨rfl, rfl, (by omega), (.inr rfl), (by omega)⟩ (Env.sub_all rfl) (Ent.take (is := [0, 1, 2, 3]) rfl) ?_
          rintro ⟨r31, i_32⟩ ⟨hM33, hr34, hi35, hi36, hk37⟩
          refine JJ_norm (L := [(1, p4), (3, .int .i64 t.Gen.Width), (4, .int .i64 i_32)]) (A := [pv p4 [.int .i64 t.Gen.Width, .slice ta1 t.Gen.Words.length tk1, .int .i64 t.Kill.Width, .slice ta3 t.Kill.Words.length tk3, .slice ta4 t.Copies.length tk4], sl (.slice ta1 t.Gen.Words.length tk1) (t.Gen.Words : List (BitVec 64)), sl (.slice ta3 t.Kill.Words.length tk3) (t.Kill.Words : List (BitVec 64)), sl (.slice ta4 t.Copies.length tk4) (t.Copies : List GCopy)]) rfl rfl ?_
          refine JJ_fact 1 rfl sl_bytes ?_
          intro hl38
          have hl38 : t.Gen.Words.length * 8 ≤ 140737488355328 := hl38
          refine JJ_fact 2 rfl sl_bytes ?_
          intro hl39
          have hl39 : t.Kill.Words.length * 8 ≤ 140737488355328 := hl39
          refine JJ_fact 3 rfl sl_bytes ?_
          intro hl40
          have hl40 : t.Copies.length * 16 ≤ 140737488355328 := hl40
          refine JK_seq ?_
          refine JK_seq ?_
          refine JK_region ?_
          refine JO_q rfl rfl rfl (OpV.move rfl rfl) ?_
          refine JO_q rfl rfl rfl (OpV.fieldAddr rfl rfl fo54_2 (i := 0) rfl (isPtr_pv _ _)) ?_
          refine JO_q rfl rfl rfl (OpV.loadF rfl rfl sh52 (i := 0) rfl (reads_pv _ _) rfl) ?_
          refine JO_q rfl rfl rfl (OpV.len rfl rfl sl52) ?_
          refine JO_q rfl rfl rfl (OpV.lss rfl rfl rfl) ?_
          refine JO_nil ?_
          refine JK_cond (b := decide (i_32 < ((t.Copies.length : Nat) : Int))) rfl (fun (h41 : decide (i_32 < ((t.Copies.length : Nat) : Int)) = true) => ?_) (fun (h41 : decide (i_32 < ((t.Copies.length : Nat) : Int)) = false) => ?_)
          · skip
            have g42 : (i_32 < ((t.Copies.length : Nat) : Int)) := of_decide_eq_true h41
            obtain ⟨r43, rfl⟩ : ∃ q, r31 = q + 1 := ⟨r31 - 1, by omega⟩
            refine JK_skip ?_
            refine JK_seq ?_
            refine JK_block ?_
            refine JK_seq ?_
            refine JK_region ?_
            refine JO_q rfl rfl rfl (OpV.fieldAddr rfl rfl fo54_2 (i := 0) rfl (isPtr_pv _ _)) ?_
            refine JO_q rfl rfl rfl (OpV.loadF rfl rfl sh52 (i := 0) rfl (reads_pv _ _) rfl) ?_
            refine JO_q rfl rfl rfl (OpV.move rfl rfl) ?_
            refine JO_q rfl rfl rfl (OpV.indexAddr (m := 3) rfl rfl rfl sl52 rfl (isSl_sl _ _) (by first | omega | (simp only [lens]; omega) | (simp only [lens] at *; omega))) ?_
            refine JJ_peek_GCopy (i_32 : Int).toNat 3 rfl (by omega) ?_
            intro hb44 hb45
            have hb44 : -9223372036854775808 ≤ (t.Copies.getD (i_32 : Int).toNat default).From ∧ (t.Copies.getD (i_32 : Int).toNat default).From ≤ 9223372036854775807 := hb44
            have hb45 : -9223372036854775808 ≤ (t.Copies.getD (i_32 : Int).toNat default).To ∧ (t.Copies.getD (i_32 : Int).toNat default).To ≤ 9223372036854775807 := hb45
            refine JO_q rfl rfl rfl (OpV.loadA rfl rfl sh68 (i := 0) rfl (reads_pv _ _) rfl) ?_
            refine JO_act rfl rfl rfl (OpA.alloc rfl ze68) ?_
            intro p46
            refine JO_store rfl rfl (OpS.frame [0] rfl (OpS.storeCl [.int .i64 ((t.Copies.getD (i_32 : Int).toNat default).From), .int .i64 ((t.Copies.getD (i_32 : Int).toNat default).To)] [.int .i64 ((t.Copies.getD (i_32 : Int).toNat default).From), .int .i64 ((t.Copies.getD (i_32 : Int).toNat default).To)] rfl rfl rfl sh68 rfl rfl rfl (Nat.le_of_ble_eq_true rfl) rfl)) ?_
            refine JO_nil ?_
            refine JK_seq ?_
            refine JJ_fact 0 rfl isP_Cl ?_
            intro hp47
            refine JJ_addFact hp47 ?_
            refine bool_split (decide ((t.Copies.getD (i_32 : Int).toNat default).From < 0)) (fun (h48 : decide ((t.Copies.getD (i_32 : Int).toNat default).From < 0) = true) => ?_) (fun (h48 : decide ((t.Copies.getD (i_32 : Int).toNat default).From < 0) = false) => ?_)
            · skip
              have g49 : ((t.Copies.getD (i_32 : Int).toNat default).From < 0) := of_decide_eq_true h48
              refine JK_drawQ [0, 1, 3, 7, 15, 31, 15, 127, 255, 511, 1023, 2047, 4095, 8191, 16383, 32767, 65535, 32767, 262143, 524287, 1048575, 2097151, 4194303, 8388607, 16777215, 33554431, 16777215, 83886079, 268435455, 536870911, 16777215, 2147483647, 4294967295, 8589934591, 17179869183] fmix ?_
              refine JQ_v [0] (qn rfl) rfl rfl (OpV.fieldAddr rfl rfl fo68_0 (i := 0) rfl (isPtr_fact _)) ?_
              refine JQ_v [1] (qn rfl) rfl rfl (OpV.loadF rfl rfl sh3 (i := 0) rfl (reads_Cl _ _) rfl) ?_
              refine JQ_b h48 [] (qn rfl) rfl rfl (OpV.lss rfl rfl rfl) ?_
              refine JQ_v [] (qn rfl) rfl rfl (OpV.move rfl rfl) ?_
              refine JQ_skip (qs rfl rfl rfl _ rfl rfl) rfl ?_
              refine JQ_skip (qs rfl rfl rfl _ rfl rfl) rfl ?_
              refine JQ_skip (qs rfl rfl rfl _ rfl rfl) rfl ?_
              refine JQ_skip (qs rfl rfl rfl _ rfl rfl) rfl ?_
              refine JQ_v [] (qn rfl) rfl rfl (OpV.pickT rfl rfl rfl) ?_
              refine JQ_v [] (qn rfl) rfl rfl (OpV.move rfl rfl) ?_
              refine JQ_skip (qs rfl rfl rfl _ rfl rfl) rfl ?_
              refine JQ_skip (qs rfl rfl rfl _ rfl rfl) rfl ?_
              refine JQ_skip (qs rfl rfl rfl _ rfl rfl) rfl ?_
              refine JQ_v [] (qn rfl) rfl rfl (OpV.pickT rfl rfl rfl) ?_
              refine JQ_v [] (qn rfl) rfl rfl (OpV.move rfl rfl) ?_
              refine JQ_skip (qs rfl rfl rfl _ rfl rfl) rfl ?_
              refine JQ_skip (qs rfl rfl rfl _ rfl rfl) rfl ?_
              refine JQ_skip (qs rfl rfl rfl _ rfl rfl) rfl ?_
              refine JQ_skip (qs rfl rfl rfl _ rfl rfl) rfl ?_
              refine JQ_v [] (qn rfl) rfl rfl (OpV.pickT rfl rfl rfl) ?_
              refine JQ_v [] (qn rfl) rfl rfl (OpV.move rfl rfl) ?_
              refine JQ_skip (qs rfl rfl rfl _ rfl rfl) rfl ?_
              refine JQ_skip (qs rfl rfl rfl _ rfl rfl) rfl ?_
              refine JQ_skip (qs rfl rfl rfl _ rfl rfl) rfl ?_
              refine JQ_skip (qs rfl rfl rfl _ rfl rfl) rfl ?_
              refine JQ_skip (qs rfl rfl rfl _ rfl rfl) rfl ?_
              refine JQ_skip (qs rfl rfl rfl _ rfl rfl) rfl ?_
              refine JQ_skip (qs rfl rfl rfl _ rfl rfl) rfl ?_
              refine JQ_skip (qs rfl rfl rfl _ rfl rfl) rfl ?_
              refine JQ_skip (qs rfl rfl rfl _ rfl rfl) rfl ?_
              refine JQ_skip (qs rfl rfl rfl _ rfl rfl) rfl ?_
              refine JQ_skip (qs rfl rfl rfl _ rfl rfl) rfl ?_
              refine JQ_skip (qs rfl rfl rfl _ rfl rfl) rfl ?_
              refine JQ_skip (qs rfl rfl rfl _ rfl rfl) rfl ?_
              refine JQ_v [] (qn rfl) rfl rfl (OpV.pickT rfl rfl rfl) ?_
              refine JQ_nil ⟨by kernel_rfl, ?_⟩
              refine JK_condT rfl ?_
              refine JK_seq ?_
              refine JK_region ?_
              refine JO_q rfl rfl rfl (OpV.assign rfl rfl) ?_
              refine JO_nil ?_
              have hR50 : flqref1_ValidTransfer_L0 t (((((t.Copies.length : Nat) : Int) : Int) - 0).toNat) 0 = LR.ret false := by
                rw [← hM33]; simp only [flqref1_ValidTransfer_L0, h8, h13, h18, h23, h25, h28, h41, h48, hg6, hg16, cs4]
              have hq : rr = false := hrr.symm.trans (by simp only [flqref1_ValidTransfer, h8, h13, h18, h23, h25, h28, h41, h48, hg6, hg16, hR50, cs4])
              replace hrr := hrr.trans hq
              subst rr
              refine JK_return (()) rfl (.tmp rfl .nil) rfl trivial (Ent.take (is := []) rfl)
            · skip
              have g51 : ¬ ((t.Copies.getD (i_32 : Int).toNat default).From < 0) := of_decide_eq_false h48
              refine bool_split (decide (t.Gen.Width ≤ (t.Copies.getD (i_32 : Int).toNat default).From)) (fun (h52 : decide (t.Gen.Width ≤ (t.Copies.getD (i_32 : Int).toNat default).From) = true) => ?_) (fun (h52 : decide (t.Gen.Width ≤ (t.Copies.getD (i_32 : Int).toNat default).From) = false) => ?_)
              · skip
                have g53 : (t.Gen.Width ≤ (t.Copies.getD (i_32 : Int).toNat default).From) := of_decide_eq_true h52
                refine JK_drawQ [0, 1, 3, 7, 15, 31, 15, 127, 255, 511, 1023, 2047, 4095, 8191, 16383, 32767, 65535, 32767, 262143, 524287, 1048575, 2097151, 4194303, 8388607, 16777215, 33554431, 16777215, 83886079, 268435455, 536870911, 16777215, 2147483647, 4294967295, 8589934591, 17179869183] fmix ?_
                refine JQ_v [0] (qn rfl) rfl rfl (OpV.fieldAddr rfl rfl fo68_0 (i := 0) rfl (isPtr_fact _)) ?_
                refine JQ_v [1] (qn rfl) rfl rfl (OpV.loadF rfl rfl sh3 (i := 0) rfl (reads_Cl _ _) rfl) ?_
                refine JQ_b h48 [] (qn rfl) rfl rfl (OpV.lss rfl rfl rfl) ?_
                refine JQ_v [] (qn rfl) rfl rfl (OpV.move rfl rfl) ?_
                refine JQ_v [0] (qt rfl rfl rfl rfl) rfl rfl (OpV.fieldAddr rfl rfl fo68_0 (i := 0) rfl (isPtr_fact _)) ?_
                refine JQ_v [1] (qt rfl rfl rfl rfl) rfl rfl (OpV.loadF rfl rfl sh3 (i := 0) rfl (reads_Cl _ _) rfl) ?_
                refine JQ_v [] (qt rfl rfl rfl rfl) rfl rfl (OpV.move rfl rfl) ?_
                refine JQ_b h52 [] (qt rfl rfl rfl rfl) rfl rfl (OpV.geq rfl rfl rfl) ?_
                refine JQ_v [] (qn rfl) rfl rfl (OpV.pickF rfl rfl rfl) ?_
                refine JQ_v [] (qn rfl) rfl rfl (OpV.move rfl rfl) ?_
                refine JQ_skip (qs rfl rfl rfl _ rfl rfl) rfl ?_
                refine JQ_skip (qs rfl rfl rfl _ rfl rfl) rfl ?_
                refine JQ_skip (qs rfl rfl rfl _ rfl rfl) rfl ?_
                refine JQ_v [] (qn rfl) rfl rfl (OpV.pickT rfl rfl rfl) ?_
                refine JQ_v [] (qn rfl) rfl rfl (OpV.move rfl rfl) ?_
                refine JQ_skip (qs rfl rfl rfl _ rfl rfl) rfl ?_
                refine JQ_skip (qs rfl rfl rfl _ rfl rfl) rfl ?_
                refine JQ_skip (qs rfl rfl rfl _ rfl rfl) rfl ?_
                refine JQ_skip (qs rfl rfl rfl _ rfl rfl) rfl ?_
                refine JQ_v [] (qn rfl) rfl rfl (OpV.pickT rfl rfl rfl) ?_
                refine JQ_v [] (qn rfl) rfl rfl (OpV.move rfl rfl) ?_
                refine JQ_skip (qs rfl rfl rfl _ rfl rfl) rfl ?_
                refine JQ_skip (qs rfl rfl rfl _ rfl rfl) rfl ?_
                refine JQ_skip (qs rfl rfl rfl _ rfl rfl) rfl ?_
                refine JQ_skip (qs rfl rfl rfl _ rfl rfl) rfl ?_
                refine JQ_skip (qs rfl rfl rfl _ rfl rfl) rfl ?_
                refine JQ_skip (qs rfl rfl rfl _ rfl rfl) rfl ?_
                refine JQ_skip (qs rfl rfl rfl _ rfl rfl) rfl ?_
                refine JQ_skip (qs rfl rfl rfl _ rfl rfl) rfl ?_
                refine JQ_skip (qs rfl rfl rfl _ rfl rfl) rfl ?_
                refine JQ_skip (qs rfl rfl rfl _ rfl rfl) rfl ?_
                refine JQ_skip (qs rfl rfl rfl _ rfl rfl) rfl ?_
                refine JQ_skip (qs rfl rfl rfl _ rfl rfl) rfl ?_
                refine JQ_skip (qs rfl rfl rfl _ rfl rfl) rfl ?_
                refine JQ_v [] (qn rfl) rfl rfl (OpV.pickT rfl rfl rfl) ?_
                refine JQ_nil ⟨by kernel_rfl, ?_⟩
                refine JK_condT rfl ?_
                refine JK_seq ?_
                refine JK_region ?_
                refine JO_q rfl rfl rfl (OpV.assign rfl rfl) ?_
                refine JO_nil ?_
                have hR54 : flqref1_ValidTransfer_L0 t (((((t.Copies.length : Nat) : Int) : Int) - 0).toNat) 0 = LR.ret false := by
                  rw [← hM33]; simp only [flqref1_ValidTransfer_L0, h8, h13, h18, h23, h25, h28, h41, h48, h52, hg6, hg16, cs4]
                have hq : rr = false := hrr.symm.trans (by simp only [flqref1_ValidTransfer, h8, h13, h18, h23, h25, h28, h41, h48, h52, hg6, hg16, hR54, cs4])
                replace hrr := hrr.trans hq
                subst rr
                refine JK_return (()) rfl (.tmp rfl .nil) rfl trivial (Ent.take (is := []) rfl)
              · skip
                have g55 : ¬ (t.Gen.Width ≤ (t.Copies.getD (i_32 : Int).toNat default).From) := of_decide_eq_false h52
                refine bool_split (decide ((t.Copies.getD (i_32 : Int).toNat default).To < 0)) (fun (h56 : decide ((t.Copies.getD (i_32 : Int).toNat default).To < 0) = true) => ?_) (fun (h56 : decide ((t.Copies.getD (i_32 : Int).toNat default).To < 0) = false) => ?_)
                · skip
                  have g57 : ((t.Copies.getD (i_32 : Int).toNat default).To < 0) := of_decide_eq_true h56
                  refine JK_drawQ [0, 1, 3, 7, 15, 31, 15, 127, 255, 511, 1023, 2047, 4095, 8191, 16383, 32767, 65535, 32767, 262143, 524287, 1048575, 2097151, 4194303, 8388607, 16777215, 33554431, 16777215, 83886079, 268435455, 536870911, 16777215, 2147483647, 4294967295, 8589934591, 17179869183] fmix ?_
                  refine JQ_v [0] (qn rfl) rfl rfl (OpV.fieldAddr rfl rfl fo68_0 (i := 0) rfl (isPtr_fact _)) ?_
                  refine JQ_v [1] (qn rfl) rfl rfl (OpV.loadF rfl rfl sh3 (i := 0) rfl (reads_Cl _ _) rfl) ?_
                  refine JQ_b h48 [] (qn rfl) rfl rfl (OpV.lss rfl rfl rfl) ?_
                  refine JQ_v [] (qn rfl) rfl rfl (OpV.move rfl rfl) ?_
                  refine JQ_v [0] (qt rfl rfl rfl rfl) rfl rfl (OpV.fieldAddr rfl rfl fo68_0 (i := 0) rfl (isPtr_fact _)) ?_
                  refine JQ_v [1] (qt rfl rfl rfl rfl) rfl rfl (OpV.loadF rfl rfl sh3 (i := 0) rfl (reads_Cl _ _) rfl) ?_
                  refine JQ_v [] (qt rfl rfl rfl rfl) rfl rfl (OpV.move rfl rfl) ?_
                  refine JQ_b h52 [] (qt rfl rfl rfl rfl) rfl rfl (OpV.geq rfl rfl rfl) ?_
                  refine JQ_v [] (qn rfl) rfl rfl (OpV.pickF rfl rfl rfl) ?_
                  refine JQ_v [] (qn rfl) rfl rfl (OpV.move rfl rfl) ?_
                  refine JQ_v [0] (qt rfl rfl rfl rfl) rfl rfl (OpV.fieldAddr rfl rfl fo68_1 (i := 0) rfl (isPtr_fact _)) ?_
                  refine JQ_v [1] (qt rfl rfl rfl rfl) rfl rfl (OpV.loadF rfl rfl sh3 (i := 0) rfl (reads_Cl _ _) rfl) ?_
                  refine JQ_b h56 [] (qt rfl rfl rfl rfl) rfl rfl (OpV.lss rfl rfl rfl) ?_
                  refine JQ_v [] (qn rfl) rfl rfl (OpV.pickF rfl rfl rfl) ?_
                  refine JQ_v [] (qn rfl) rfl rfl (OpV.move rfl rfl) ?_
                  refine JQ_skip (qs rfl rfl rfl _ rfl rfl) rfl ?_
                  refine JQ_skip (qs rfl rfl rfl _ rfl rfl) rfl ?_
                  refine JQ_skip (qs rfl rfl rfl _ rfl rfl) rfl ?_
                  refine JQ_skip (qs rfl rfl rfl _ rfl rfl) rfl ?_
                  refine JQ_v [] (qn rfl) rfl rfl (OpV.pickT rfl rfl rfl) ?_
                  refine JQ_v [] (qn rfl) rfl rfl (OpV.move rfl rfl) ?_
                  refine JQ_skip (qs rfl rfl rfl _ rfl rfl) rfl ?_
                  refine JQ_skip (qs rfl rfl rfl _ rfl rfl) rfl ?_
                  refine JQ_skip (qs rfl rfl rfl _ rfl rfl) rfl ?_
                  refine JQ_skip (qs rfl rfl rfl _ rfl rfl) rfl ?_
                  refine JQ_skip (qs rfl rfl rfl _ rfl rfl) rfl ?_
                  refine JQ_skip (qs rfl rfl rfl _ rfl rfl) rfl ?_
                  refine JQ_skip (qs rfl rfl rfl _ rfl rfl) rfl ?_
                  refine JQ_skip (qs rfl rfl rfl _ rfl rfl) rfl ?_
                  refine JQ_skip (qs rfl rfl rfl _ rfl rfl) rfl ?_
                  refine JQ_skip (qs rfl rfl rfl _ rfl rfl) rfl ?_
                  refine JQ_skip (qs rfl rfl rfl _ rfl rfl) rfl ?_
                  refine JQ_skip (qs rfl rfl rfl _ rfl rfl) rfl ?_
                  refine JQ_skip (qs rfl rfl rfl _ rfl rfl) rfl ?_
                  refine JQ_v [] (qn rfl) rfl rfl (OpV.pickT rfl rfl rfl) ?_
                  refine JQ_nil ⟨by kernel_rfl, ?_⟩
                  refine JK_condT rfl ?_
                  refine JK_seq ?_
                  refine JK_region ?_
                  refine JO_q rfl rfl rfl (OpV.assign rfl rfl) ?_
                  refine JO_nil ?_
                  have hR58 : flqref1_ValidTransfer_L0 t (((((t.Copies.length : Nat) : Int) : Int) - 0).toNat) 0 = LR.ret false := by
                    rw [← hM33]; simp only [flqref1_ValidTransfer_L0, h8, h13, h18, h23, h25, h28, h41, h48, h52, h56, hg6, hg16, cs4]
                  have hq : rr = false := hrr.symm.trans (by simp only [flqref1_ValidTransfer, h8, h13, h18, h23, h25, h28, h41, h48, h52, h56, hg6, hg16, hR58, cs4])
                  replace hrr := hrr.trans hq
                  subst rr
                  refine JK_return (()) rfl (.tmp rfl .nil) rfl trivial (Ent.take (is := []) rfl)
                · skip
                  have g59 : ¬ ((t.Copies.getD (i_32 : Int).toNat default).To < 0) := of_decide_eq_false h56
                  refine bool_split (decide (t.Gen.Width ≤ (t.Copies.getD (i_32 : Int).toNat default).To)) (fun (h60 : decide (t.Gen.Width ≤ (t.Copies.getD (i_32 : Int).toNat default).To) = true) => ?_) (fun (h60 : decide (t.Gen.Width ≤ (t.Copies.getD (i_32 : Int).toNat default).To) = false) => ?_)
                  · skip
                    have g61 : (t.Gen.Width ≤ (t.Copies.getD (i_32 : Int).toNat default).To) := of_decide_eq_true h60
                    refine JK_drawQ [0, 1, 3, 7, 15, 31, 15, 127, 255, 511, 1023, 2047, 4095, 8191, 16383, 32767, 65535, 32767, 262143, 524287, 1048575, 2097151, 4194303, 8388607, 16777215, 33554431, 16777215, 83886079, 268435455, 536870911, 16777215, 2147483647, 4294967295, 8589934591, 17179869183] fmix ?_
                    refine JQ_v [0] (qn rfl) rfl rfl (OpV.fieldAddr rfl rfl fo68_0 (i := 0) rfl (isPtr_fact _)) ?_
                    refine JQ_v [1] (qn rfl) rfl rfl (OpV.loadF rfl rfl sh3 (i := 0) rfl (reads_Cl _ _) rfl) ?_
                    refine JQ_b h48 [] (qn rfl) rfl rfl (OpV.lss rfl rfl rfl) ?_
                    refine JQ_v [] (qn rfl) rfl rfl (OpV.move rfl rfl) ?_
                    refine JQ_v [0] (qt rfl rfl rfl rfl) rfl rfl (OpV.fieldAddr rfl rfl fo68_0 (i := 0) rfl (isPtr_fact _)) ?_
                    refine JQ_v [1] (qt rfl rfl rfl rfl) rfl rfl (OpV.loadF rfl rfl sh3 (i := 0) rfl (reads_Cl _ _) rfl) ?_
                    refine JQ_v [] (qt rfl rfl rfl rfl) rfl rfl (OpV.move rfl rfl) ?_
                    refine JQ_b h52 [] (qt rfl rfl rfl rfl) rfl rfl (OpV.geq rfl rfl rfl) ?_
                    refine JQ_v [] (qn rfl) rfl rfl (OpV.pickF rfl rfl rfl) ?_
                    refine JQ_v [] (qn rfl) rfl rfl (OpV.move rfl rfl) ?_
                    refine JQ_v [0] (qt rfl rfl rfl rfl) rfl rfl (OpV.fieldAddr rfl rfl fo68_1 (i := 0) rfl (isPtr_fact _)) ?_
                    refine JQ_v [1] (qt rfl rfl rfl rfl) rfl rfl (OpV.loadF rfl rfl sh3 (i := 0) rfl (reads_Cl _ _) rfl) ?_
                    refine JQ_b h56 [] (qt rfl rfl rfl rfl) rfl rfl (OpV.lss rfl rfl rfl) ?_
                    refine JQ_v [] (qn rfl) rfl rfl (OpV.pickF rfl rfl rfl) ?_
                    refine JQ_v [] (qn rfl) rfl rfl (OpV.move rfl rfl) ?_
                    refine JQ_v [0] (qt rfl rfl rfl rfl) rfl rfl (OpV.fieldAddr rfl rfl fo68_1 (i := 0) rfl (isPtr_fact _)) ?_
                    refine JQ_v [1] (qt rfl rfl rfl rfl) rfl rfl (OpV.loadF rfl rfl sh3 (i := 0) rfl (reads_Cl _ _) rfl) ?_
                    refine JQ_v [] (qt rfl rfl rfl rfl) rfl rfl (OpV.move rfl rfl) ?_
                    refine JQ_b h60 [] (qt rfl rfl rfl rfl) rfl rfl (OpV.geq rfl rfl rfl) ?_
                    refine JQ_v [] (qn rfl) rfl rfl (OpV.pickF rfl rfl rfl) ?_
                    refine JQ_v [] (qn rfl) rfl rfl (OpV.move rfl rfl) ?_
                    refine JQ_skip (qs rfl rfl rfl _ rfl rfl) rfl ?_
                    refine JQ_skip (qs rfl rfl rfl _ rfl rfl) rfl ?_
                    refine JQ_skip (qs rfl rfl rfl _ rfl rfl) rfl ?_
                    refine JQ_skip (qs rfl rfl rfl _ rfl rfl) rfl ?_
                    refine JQ_skip (qs rfl rfl rfl _ rfl rfl) rfl ?_
                    refine JQ_skip (qs rfl rfl rfl _ rfl rfl) rfl ?_
                    refine JQ_skip (qs rfl rfl rfl _ rfl rfl) rfl ?_
                    refine JQ_skip (qs rfl rfl rfl _ rfl rfl) rfl ?_
                    refine JQ_skip (qs rfl rfl rfl _ rfl rfl) rfl ?_
                    refine JQ_skip (qs rfl rfl rfl _ rfl rfl) rfl ?_
                    refine JQ_skip (qs rfl rfl rfl _ rfl rfl) rfl ?_
                    refine JQ_skip (qs rfl rfl rfl _ rfl rfl) rfl ?_
                    refine JQ_skip (qs rfl rfl rfl _ rfl rfl) rfl ?_
                    refine JQ_v [] (qn rfl) rfl rfl (OpV.pickT rfl rfl rfl) ?_
                    refine JQ_nil ⟨by kernel_rfl, ?_⟩
                    refine JK_condT rfl ?_
                    refine JK_seq ?_
                    refine JK_region ?_
                    refine JO_q rfl rfl rfl (OpV.assign rfl rfl) ?_
                    refine JO_nil ?_
                    have hR62 : flqref1_ValidTransfer_L0 t (((((t.Copies.length : Nat) : Int) : Int) - 0).toNat) 0 = LR.ret false := by
                      rw [← hM33]; simp only [flqref1_ValidTransfer_L0, h8, h13, h18, h23, h25, h28, h41, h48, h52, h56, h60, hg6, hg16, cs4]
                    have hq : rr = false := hrr.symm.trans (by simp only [flqref1_ValidTransfer, h8, h13, h18, h23, h25, h28, h41, h48, h52, h56, h60, hg6, hg16, hR62, cs4])
                    replace hrr := hrr.trans hq
                    subst rr
                    refine JK_return (()) rfl (.tmp rfl .nil) rfl trivial (Ent.take (is := []) rfl)
                  · skip
                    have g63 : ¬ (t.Gen.Width ≤ (t.Copies.getD (i_32 : Int).toNat default).To) := of_decide_eq_false h60
                    refine bool_split (decide (0 < i_32)) (fun (h64 : decide (0 < i_32) = true) => ?_) (fun (h64 : decide (0 < i_32) = false) => ?_)
                    · skip
                      have g65 : (0 < i_32) := of_decide_eq_true h64
                      refine JJ_peek_GCopy ((i_32 - 1) : Int).toNat 6 rfl (by omega) ?_
                      intro hb66 hb67
                      have hb66 : -9223372036854775808 ≤ (t.Copies.getD ((i_32 - 1) : Int).toNat default).From ∧ (t.Copies.getD ((i_32 - 1) : Int).toNat default).From ≤ 9223372036854775807 := hb66
                      have hb67 : -9223372036854775808 ≤ (t.Copies.getD ((i_32 - 1) : Int).toNat default).To ∧ (t.Copies.getD ((i_32 - 1) : Int).toNat default).To ≤ 9223372036854775807 := hb67
                      refine letv (flqref1_Before (t.Copies.getD ((i_32 - 1) : Int).toNat default) (t.Copies.getD (i_32 : Int).toNat default)) fun rv68 hg69 => ?_
                      refine JK_drawJ [0, 1, 3, 7, 15, 31, 15, 127, 255, 511, 1023, 2047, 4095, 8191, 16383, 32767, 65535, 32767, 262143, 524287, 1048575, 2097151, 4194303, 8388607, 16777215, 33554431, 16777215, 83886079, 268435455, 536870911, 16777215, 2147483647, 4294967295, 8589934591, 17179869183] [] fmix ?_
                      refine JD_v [1] (wn rfl) rfl rfl (OpV.fieldAddr rfl rfl fo68_0 (i := 0) rfl (isPtr_fact _)) ?_
                      refine JD_v [2] (wn rfl) rfl rfl (OpV.loadF rfl rfl sh3 (i := 0) rfl (reads_Cl _ _) rfl) ?_
                      refine JD_b h48 [] (wn rfl) rfl rfl (OpV.lss rfl rfl rfl) ?_
                      refine JD_v [] (wn rfl) rfl rfl (OpV.move rfl rfl) ?_
                      refine JD_v [1] (wt rfl rfl rfl rfl) rfl rfl (OpV.fieldAddr rfl rfl fo68_0 (i := 0) rfl (isPtr_fact _)) ?_
                      refine JD_v [2] (wt rfl rfl rfl rfl) rfl rfl (OpV.loadF rfl rfl sh3 (i := 0) rfl (reads_Cl _ _) rfl) ?_
                      refine JD_v [] (wt rfl rfl rfl rfl) rfl rfl (OpV.move rfl rfl) ?_
                      refine JD_b h52 [] (wt rfl rfl rfl rfl) rfl rfl (OpV.geq rfl rfl rfl) ?_
                      refine JD_v [] (wn rfl) rfl rfl (OpV.pickF rfl rfl rfl) ?_
                      refine JD_v [] (wn rfl) rfl rfl (OpV.move rfl rfl) ?_
                      refine JD_v [1] (wt rfl rfl rfl rfl) rfl rfl (OpV.fieldAddr rfl rfl fo68_1 (i := 0) rfl (isPtr_fact _)) ?_
                      refine JD_v [2] (wt rfl rfl rfl rfl) rfl rfl (OpV.loadF rfl rfl sh3 (i := 0) rfl (reads_Cl _ _) rfl) ?_
                      refine JD_b h56 [] (wt rfl rfl rfl rfl) rfl rfl (OpV.lss rfl rfl rfl) ?_
                      refine JD_v [] (wn rfl) rfl rfl (OpV.pickF rfl rfl rfl) ?_
                      refine JD_v [] (wn rfl) rfl rfl (OpV.move rfl rfl) ?_
                      refine JD_v [1] (wt rfl rfl rfl rfl) rfl rfl (OpV.fieldAddr rfl rfl fo68_1 (i := 0) rfl (isPtr_fact _)) ?_
                      refine JD_v [2] (wt rfl rfl rfl rfl) rfl rfl (OpV.loadF rfl rfl sh3 (i := 0) rfl (reads_Cl _ _) rfl) ?_
                      refine JD_v [] (wt rfl rfl rfl rfl) rfl rfl (OpV.move rfl rfl) ?_
                      refine JD_b h60 [] (wt rfl rfl rfl rfl) rfl rfl (OpV.geq rfl rfl rfl) ?_
                      refine JD_v [] (wn rfl) rfl rfl (OpV.pickF rfl rfl rfl) ?_
                      refine JD_v [] (wn rfl) rfl rfl (OpV.move rfl rfl) ?_
                      refine JD_v [] (wt rfl rfl rfl rfl) rfl rfl (OpV.move rfl rfl) ?_
                      refine JD_b h64 [] (wt rfl rfl rfl rfl) rfl rfl (OpV.gtr rfl rfl rfl) ?_
                      refine JD_v [] (wt rfl rfl rfl rfl) rfl rfl (OpV.move rfl rfl) ?_
                      refine JD_v [4] (wt rfl rfl rfl rfl) rfl rfl (OpV.fieldAddr rfl rfl fo54_2 (i := 0) rfl (isPtr_pv _ _)) ?_
                      refine JD_v [4] (wt rfl rfl rfl rfl) rfl rfl (OpV.loadF rfl rfl sh52 (i := 0) rfl (reads_pv _ _) rfl) ?_
                      refine JD_v [] (wt rfl rfl rfl rfl) rfl rfl (OpV.move rfl rfl) ?_
                      refine JD_v [] (wt rfl rfl rfl rfl) rfl rfl (OpV.sub rfl rfl rfl (by unfold i64ok; omega)) ?_
                      refine JD_v [7] (wt rfl rfl rfl rfl) rfl rfl (OpV.indexAddr (m := 0) rfl rfl rfl sl52 rfl (isSl_sl _ _) (by first | omega | (simp only [lens]; omega) | (simp only [lens] at *; omega))) ?_
                      refine JD_v [0] (wt rfl rfl rfl rfl) rfl rfl (OpV.loadA rfl rfl sh68 (i := 0) rfl (reads_pv _ _) rfl) ?_
                      refine JD_v [2] (wt rfl rfl rfl rfl) rfl rfl (OpV.loadA rfl rfl sh68 (i := 0) rfl (reads_Cl _ _) rfl) ?_
                      refine JD_x [] [] (fun lG => .bool rv68) [⟨some 31, none, [], fun lG => SP.fact (True)⟩] (wt rfl rfl rfl rfl) rfl rfl rfl (fun G => by refine OpX.n3 (A' := []) (V' := fun g => .bool rv68) (B' := fun g => [SP.fact (True)]) (by kernel_rfl) (by kernel_rfl) (by kernel_rfl) ?_; refine OpX.postR (OpX.frame [] rfl (OpX.ofC (fun _ => []) (fun _ => ()) (fun _ => rfl) (by intro _ _ h; cases h) (OpC.fn rfl ca51 rfl) (fn51 ((t.Copies.getD ((i_32 - 1) : Int).toNat default)) ((t.Copies.getD (i_32 : Int).toNat default)) (by (try dsimp only) <;> first | (unfold i64ok; omega) | omega | assumption) (by (try dsimp only) <;> first | (unfold i64ok; omega) | omega | assumption) (by (try dsimp only) <;> first | (unfold i64ok; omega) | omega | assumption) (by (try dsimp only) <;> first | (unfold i64ok; omega) | omega | assumption) rv68 hg69))) (fun g => ?_); exact Ent.take (is := [0]) rfl) ?_
                      refine JD_v [] (wt rfl rfl rfl rfl) rfl rfl (OpV.not rfl rfl) ?_
                      refine JD_v [] (wt rfl rfl rfl rfl) rfl rfl (OpV.pickT rfl rfl rfl) ?_
                      refine JD_v [] (wn rfl) rfl rfl (OpV.pickF rfl rfl rfl) ?_
                      refine JD_nil ⟨by kernel_rfl, fun G => ?_⟩
                      refine JJ_weaken (L' := [(1, p4), (3, .int .i64 t.Gen.Width), (4, .int .i64 i_32), (80, .bool (!rv68))]) (A' := [pv (eptr 2 (.slice ta4 t.Copies.length tk4) ((i_32 - 1) : Int).toNat) [.int .i64 ((t.Copies.getD ((i_32 - 1) : Int).toNat default).From), .int .i64 ((t.Copies.getD ((i_32 - 1) : Int).toNat default).To)], SP.fact (isP p46), Cl p46 [.int .i64 ((t.Copies.getD (i_32 : Int).toNat default).From), .int .i64 ((t.Copies.getD (i_32 : Int).toNat default).To)], pv (eptr 2 (.slice ta4 t.Copies.length tk4) (i_32 : Int).toNat) [.int .i64 ((t.Copies.getD (i_32 : Int).toNat default).From), .int .i64 ((t.Copies.getD (i_32 : Int).toNat default).To)], pv p4 [.int .i64 t.Gen.Width, .slice ta1 t.Gen.Words.length tk1, .int .i64 t.Kill.Width, .slice ta3 t.Kill.Words.length tk3, .slice ta4 t.Copies.length tk4], sl (.slice ta1 t.Gen.Words.length tk1) (t.Gen.Words : List (BitVec 64)), sl (.slice ta3 t.Kill.Words.length tk3) (t.Kill.Words : List (BitVec 64)), sl (.slice ta4 t.Copies.length tk4) (t.Copies : List GCopy), SP.fact (True)]) (Env.sub_all (by kernel_rfl)) (Ent.of_eq (by kernel_rfl)) ?_
                      refine JJ_keep [0, 2, 2, 3, 4, 5, 6] rfl ?_
                      refine JK_cond (b := (!rv68)) rfl (fun (h70 : (!rv68) = true) => ?_) (fun (h70 : (!rv68) = false) => ?_)
                      · skip
                        have h72 : rv68 = false := not_true h70
                        refine JK_seq ?_
                        refine JK_region ?_
                        refine JO_q rfl rfl rfl (OpV.assign rfl rfl) ?_
                        refine JO_nil ?_
                        have hR74 : flqref1_ValidTransfer_L0 t (((((t.Copies.length : Nat) : Int) : Int) - 0).toNat) 0 = LR.ret false := by
                          rw [← hM33]; simp only [flqref1_ValidTransfer_L0, h8, h13, h18, h23, h25, h28, h41, h48, h52, h56, h60, h64, h70, h72, hg6, hg16, hg69, cs4]
                        have hq : rr = false := hrr.symm.trans (by simp only [flqref1_ValidTransfer, h8, h13, h18, h23, h25, h28, h41, h48, h52, h56, h60, h64, h70, h72, hg6, hg16, hg69, hR74, cs4])
                        replace hrr := hrr.trans hq
                        subst rr
                        refine JK_return (()) rfl (.tmp rfl .nil) rfl trivial (Ent.take (is := []) rfl)
                      · skip
                        have h76 : rv68 = true := not_false h70
                        refine JK_skip ?_
                        refine JK_blk ?_
                        refine JK_region ?_
                        refine JO_q rfl rfl rfl (OpV.move rfl rfl) ?_
                        refine JO_q rfl rfl rfl (OpV.add rfl rfl rfl (by unfold i64ok; omega)) ?_
                        refine JO_q rfl rfl rfl (OpV.assign rfl rfl) ?_
                        refine JO_nil ?_
                        refine JK_goal (r43, (i_32 + 1)) ⟨(by rw [← hM33]; simp only [flqref1_ValidTransfer_L0, h8, h13, h18, h23, h25, h28, h41, h48, h52, h56, h60, h64, h70, h76, hg6, hg16, hg69, cs4]), (by omega), (by omega), (by omega), (by omega)⟩ (by show r43 < r43 + 1; omega) (Env.sub_all rfl) (Ent.take (is := [3, 4, 5, 6]) rfl)
                    · skip
                      have g78 : ¬ (0 < i_32) := of_decide_eq_false h64
                      refine JK_drawQ [0, 1, 3, 7, 15, 31, 15, 127, 255, 511, 1023, 2047, 4095, 8191, 16383, 32767, 65535, 32767, 262143, 524287, 1048575, 2097151, 4194303, 8388607, 16777215, 33554431, 16777215, 83886079, 268435455, 536870911, 16777215, 2147483647, 4294967295, 8589934591, 17179869183] fmix ?_
                      refine JQ_v [0] (qn rfl) rfl rfl (OpV.fieldAddr rfl rfl fo68_0 (i := 0) rfl (isPtr_fact _)) ?_
                      refine JQ_v [1] (qn rfl) rfl rfl (OpV.loadF rfl rfl sh3 (i := 0) rfl (reads_Cl _ _) rfl) ?_
                      refine JQ_b h48 [] (qn rfl) rfl rfl (OpV.lss rfl rfl rfl) ?_
                      refine JQ_v [] (qn rfl) rfl rfl (OpV.move rfl rfl) ?_
                      refine JQ_v [0] (qt rfl rfl rfl rfl) rfl rfl (OpV.fieldAddr rfl rfl fo68_0 (i := 0) rfl (isPtr_fact _)) ?_
                      refine JQ_v [1] (qt rfl rfl rfl rfl) rfl rfl (OpV.loadF rfl rfl sh3 (i := 0) rfl (reads_Cl _ _) rfl) ?_
                      refine JQ_v [] (qt rfl rfl rfl rfl) rfl rfl (OpV.move rfl rfl) ?_
                      refine JQ_b h52 [] (qt rfl rfl rfl rfl) rfl rfl (OpV.geq rfl rfl rfl) ?_
                      refine JQ_v [] (qn rfl) rfl rfl (OpV.pickF rfl rfl rfl) ?_
                      refine JQ_v [] (qn rfl) rfl rfl (OpV.move rfl rfl) ?_
                      refine JQ_v [0] (qt rfl rfl rfl rfl) rfl rfl (OpV.fieldAddr rfl rfl fo68_1 (i := 0) rfl (isPtr_fact _)) ?_
                      refine JQ_v [1] (qt rfl rfl rfl rfl) rfl rfl (OpV.loadF rfl rfl sh3 (i := 0) rfl (reads_Cl _ _) rfl) ?_
                      refine JQ_b h56 [] (qt rfl rfl rfl rfl) rfl rfl (OpV.lss rfl rfl rfl) ?_
                      refine JQ_v [] (qn rfl) rfl rfl (OpV.pickF rfl rfl rfl) ?_
                      refine JQ_v [] (qn rfl) rfl rfl (OpV.move rfl rfl) ?_
                      refine JQ_v [0] (qt rfl rfl rfl rfl) rfl rfl (OpV.fieldAddr rfl rfl fo68_1 (i := 0) rfl (isPtr_fact _)) ?_
                      refine JQ_v [1] (qt rfl rfl rfl rfl) rfl rfl (OpV.loadF rfl rfl sh3 (i := 0) rfl (reads_Cl _ _) rfl) ?_
                      refine JQ_v [] (qt rfl rfl rfl rfl) rfl rfl (OpV.move rfl rfl) ?_
                      refine JQ_b h60 [] (qt rfl rfl rfl rfl) rfl rfl (OpV.geq rfl rfl rfl) ?_
                      refine JQ_v [] (qn rfl) rfl rfl (OpV.pickF rfl rfl rfl) ?_
                      refine JQ_v [] (qn rfl) rfl rfl (OpV.move rfl rfl) ?_
                      refine JQ_v [] (qt rfl rfl rfl rfl) rfl rfl (OpV.move rfl rfl) ?_
                      refine JQ_b h64 [] (qt rfl rfl rfl rfl) rfl rfl (OpV.gtr rfl rfl rfl) ?_
                      refine JQ_v [] (qt rfl rfl rfl rfl) rfl rfl (OpV.move rfl rfl) ?_
                      refine JQ_skip (qs rfl rfl rfl _ rfl rfl) rfl ?_
                      refine JQ_skip (qs rfl rfl rfl _ rfl rfl) rfl ?_
                      refine JQ_skip (qs rfl rfl rfl _ rfl rfl) rfl ?_
                      refine JQ_skip (qs rfl rfl rfl _ rfl rfl) rfl ?_
                      refine JQ_skip (qs rfl rfl rfl _ rfl rfl) rfl ?_
                      refine JQ_skip (qs rfl rfl rfl _ rfl rfl) rfl ?_
                      refine JQ_skip (qs rfl rfl rfl _ rfl rfl) rfl ?_
                      refine JQ_skip (qs rfl rfl rfl _ rfl rfl) rfl ?_
                      refine JQ_skip (qs rfl rfl rfl _ rfl rfl) rfl ?_
                      refine JQ_v [] (qt rfl rfl rfl rfl) rfl rfl (OpV.pickF rfl rfl rfl) ?_
                      refine JQ_v [] (qn rfl) rfl rfl (OpV.pickF rfl rfl rfl) ?_
                      refine JQ_nil ⟨by kernel_rfl, ?_⟩
                      refine JK_condF rfl ?_
                      refine JK_skip ?_
                      refine JK_blk ?_
                      refine JK_region ?_
                      refine JO_q rfl rfl rfl (OpV.move rfl rfl) ?_
                      refine JO_q rfl rfl rfl (OpV.add rfl rfl rfl (by unfold i64ok; omega)) ?_
                      refine JO_q rfl rfl rfl (OpV.assign rfl rfl) ?_
                      refine JO_nil ?_
                      refine JK_goal (r43, (i_32 + 1)) ⟨(by rw [← hM33]; simp only [flqref1_ValidTransfer_L0, h8, h13, h18, h23, h25, h28, h41, h48, h52, h56, h60, h64, hg6, hg16, cs4]), (by omega), (by omega), (by omega), (by omega)⟩ (by show r43 < r43 + 1; omega) (Env.sub_all rfl) (Ent.take (is := [3, 4, 5, 6]) rfl)
          · skip
            have g79 : ¬ (i_32 < ((t.Copies.length : Nat) : Int)) := of_decide_eq_false h41
            obtain rfl : r31 = 0 := by omega
            refine JK_exit rfl ?_
            have hR80 : flqref1_ValidTransfer_L0 t (((((t.Copies.length : Nat) : Int) : Int) - 0).toNat) 0 = LR.brk () := by
              rw [← hM33]; simp only [flqref1_ValidTransfer_L0, h8, h13, h18, h23, h25, h28, h41, hg6, hg16, cs4]
            refine JK_seq ?_
            refine JK_region ?_
            refine JO_q rfl rfl rfl (OpV.assign rfl rfl) ?_
            refine JO_nil ?_
            have hq : rr = true := hrr.symm.trans (by simp only [flqref1_ValidTransfer, h8, h13, h18, h23, h25, h28, h41, hg6, hg16, hR80, cs4])
            replace hrr := hrr.trans hq
            subst rr
            refine JK_return (()) rfl (.tmp rfl .nil) rfl trivial (Ent.take (is := []) rfl)
set_option maxHeartbeats 20000000 in
set_option maxRecDepth 100000 in
/- flowquery/flqref10.Valid -/
theorem fn22 (s : GSystem) (sa1 : Option Addr) (sk1 : Nat) (sa2 : Option Addr) (sk2 : Nat) (sa3 : Option Addr) (sk3 : Nat) (hs_0 : i64ok s.Width) (rr : Bool) (hrr : flqref10_Valid s = rr) :
    FT Try.prog 22 #[.agg #[.int .i64 s.Width, .slice sa1 s.Deps.length sk1, .slice sa2 s.Transfers.length sk2, .slice sa3 s.Boundary.length sk3]] [sl (.slice sa1 s.Deps.length sk1) (s.Deps : List (List Int)), sl (.slice sa2 s.Transfers.length sk2) (s.Transfers : List GTransfer), sl (.slice sa3 s.Boundary.length sk3) (s.Boundary : List GSet)]
      (fun g : Unit => True)
      (fun g => .bool rr)
      (fun g => []) := by
  refine FT_intro (args := [.agg #[.int .i64 s.Width, .slice sa1 s.Deps.length sk1, .slice sa2 s.Transfers.length sk2, .slice sa3 s.Boundary.length sk3]]) Try.func22 rfl rfl ?_
  intro w0 M0 F0
  have hs_0 : -9223372036854775808 ≤ s.Width ∧ s.Width ≤ 9223372036854775807 := hs_0
  refine JJ_fact 0 rfl sl_bytes ?_
  intro hl1
  have hl1 : s.Deps.length * 24 ≤ 140737488355328 := hl1
  refine JJ_fact 1 rfl sl_bytes ?_
  intro hl2
  have hl2 : s.Transfers.length * 88 ≤ 140737488355328 := hl2
  refine JJ_fact 2 rfl sl_bytes ?_
  intro hl3
  have hl3 : s.Boundary.length * 32 ≤ 140737488355328 := hl3
  refine JK_seq ?_
  refine JK_region ?_
  refine JO_act rfl rfl rfl (OpA.box rfl rfl) ?_
  intro p4
  refine JO_q rfl rfl rfl (OpV.assign rfl rfl) ?_
  refine JO_nil ?_
  refine JK_seq ?_
  refine JK_region ?_
  refine JO_q rfl rfl rfl (OpV.fieldAddr rfl rfl fo27_3 (i := 0) rfl (isPtr_pv _ _)) ?_
  refine JO_q rfl rfl rfl (OpV.loadF rfl rfl sh25 (i := 0) rfl (reads_pv _ _) rfl) ?_
  refine JO_q rfl rfl rfl (OpV.len rfl rfl sl25) ?_
  refine JO_q rfl rfl rfl (OpV.assign rfl rfl) ?_
  refine JO_nil ?_
  refine JK_seq ?_
  refine JK_seq ?_
  refine JK_region ?_
  refine JO_q rfl rfl rfl (OpV.fieldAddr rfl rfl fo27_0 (i := 0) rfl (isPtr_pv _ _)) ?_
  refine JO_q rfl rfl rfl (OpV.loadF rfl rfl sh3 (i := 0) rfl (reads_pv _ _) rfl) ?_
  refine JO_q rfl rfl rfl (OpV.lss rfl rfl rfl) ?_
  refine JO_q rfl rfl rfl (OpV.move rfl rfl) ?_
  refine JJ_split 12 rfl (fun (h5 : decide (s.Width < 0) = true) => ?_) (fun (h5 : decide (s.Width < 0) = false) => ?_)
  · skip
    have g6 : (s.Width < 0) := of_decide_eq_true h5
    refine JO_skip rfl rfl rfl rfl rfl rfl ?_
    refine JO_skip rfl rfl rfl rfl rfl rfl ?_
    refine JO_skip rfl rfl rfl rfl rfl rfl ?_
    refine JO_q rfl rfl rfl (OpV.pickT rfl rfl rfl) ?_
    refine JO_q rfl rfl rfl (OpV.move rfl rfl) ?_
    refine JO_skip rfl rfl rfl rfl rfl rfl ?_
    refine JO_skip rfl rfl rfl rfl rfl rfl ?_
    refine JO_q rfl rfl rfl (OpV.pickT rfl rfl rfl) ?_
    refine JO_q rfl rfl rfl (OpV.move rfl rfl) ?_
    refine JO_skip rfl rfl rfl rfl rfl rfl ?_
    refine JO_skip rfl rfl rfl rfl rfl rfl ?_
    refine JO_q rfl rfl rfl (OpV.pickT rfl rfl rfl) ?_
    refine JO_q rfl rfl rfl (OpV.move rfl rfl) ?_
    refine JO_skip rfl rfl rfl rfl rfl rfl ?_
    refine JO_skip rfl rfl rfl rfl rfl rfl ?_
    refine JO_skip rfl rfl rfl rfl rfl rfl ?_
    refine JO_skip rfl rfl rfl rfl rfl rfl ?_
    refine JO_skip rfl rfl rfl rfl rfl rfl ?_
    refine JO_q rfl rfl rfl (OpV.pickT rfl rfl rfl) ?_
    refine JO_q rfl rfl rfl (OpV.move rfl rfl) ?_
    refine JO_skip rfl rfl rfl rfl rfl rfl ?_
    refine JO_skip rfl rfl rfl rfl rfl rfl ?_
    refine JO_skip rfl rfl rfl rfl rfl rfl ?_
    refine JO_skip rfl rfl rfl rfl rfl rfl ?_
    refine JO_skip rfl rfl rfl rfl rfl rfl ?_
    refine JO_q rfl rfl rfl (OpV.pickT rfl rfl rfl) ?_
    refine JO_nil ?_
    refine JK_condT rfl ?_
    refine JK_seq ?_
    refine JK_region ?_
    refine JO_q rfl rfl rfl (OpV.assign rfl rfl) ?_
    refine JO_nil ?_
    have hq : rr = false := hrr.symm.trans (by simp only [flqref10_Valid, h5, cs4])
    replace hrr := hrr.trans hq
    subst rr
    refine JK_return (()) rfl (.tmp rfl .nil) rfl trivial (Ent.take (is := []) rfl)
  · skip
    have g7 : ¬ (s.Width < 0) := of_decide_eq_false h5
    refine JO_taken rfl rfl rfl rfl ?_
    refine JO_q rfl rfl rfl (OpV.fieldAddr rfl rfl fo27_0 (i := 0) rfl (isPtr_pv _ _)) ?_
    refine JO_taken rfl rfl rfl rfl ?_
    refine JO_q rfl rfl rfl (OpV.loadF rfl rfl sh3 (i := 0) rfl (reads_pv _ _) rfl) ?_
    refine JO_taken rfl rfl rfl rfl ?_
    refine JO_q rfl rfl rfl (OpV.gtr rfl rfl rfl) ?_
    refine JO_q rfl rfl rfl (OpV.pickF rfl rfl rfl) ?_
    refine JO_q rfl rfl rfl (OpV.move rfl rfl) ?_
    refine JJ_split 17 rfl (fun (h8 : decide (256 < s.Width) = true) => ?_) (fun (h8 : decide (256 < s.Width) = false) => ?_)
    · skip
      have g9 : (256 < s.Width) := of_decide_eq_true h8
      refine JO_skip rfl rfl rfl rfl rfl rfl ?_
      refine JO_skip rfl rfl rfl rfl rfl rfl ?_
      refine JO_q rfl rfl rfl (OpV.pickT rfl rfl rfl) ?_
      refine JO_q rfl rfl rfl (OpV.move rfl rfl) ?_
      refine JO_skip rfl rfl rfl rfl rfl rfl ?_
      refine JO_skip rfl rfl rfl rfl rfl rfl ?_
      refine JO_q rfl rfl rfl (OpV.pickT rfl rfl rfl) ?_
      refine JO_q rfl rfl rfl (OpV.move rfl rfl) ?_
      refine JO_skip rfl rfl rfl rfl rfl rfl ?_
      refine JO_skip rfl rfl rfl rfl rfl rfl ?_
      refine JO_skip rfl rfl rfl rfl rfl rfl ?_
      refine JO_skip rfl rfl rfl rfl rfl rfl ?_
      refine JO_skip rfl rfl rfl rfl rfl rfl ?_
      refine JO_q rfl rfl rfl (OpV.pickT rfl rfl rfl) ?_
      refine JO_q rfl rfl rfl (OpV.move rfl rfl) ?_
      refine JO_skip rfl rfl rfl rfl rfl rfl ?_
      refine JO_skip rfl rfl rfl rfl rfl rfl ?_
      refine JO_skip rfl rfl rfl rfl rfl rfl ?_
      refine JO_skip rfl rfl rfl rfl rfl rfl ?_
      refine JO_skip rfl rfl rfl rfl rfl rfl ?_
      refine JO_q rfl rfl rfl (OpV.pickT rfl rfl rfl) ?_
      refine JO_nil ?_
      refine JK_condT rfl ?_
      refine JK_seq ?_
      refine JK_region ?_
      refine JO_q rfl rfl rfl (OpV.assign rfl rfl) ?_
      refine JO_nil ?_
      have hq : rr = false := hrr.symm.trans (by simp only [flqref10_Valid, h5, h8, cs4])
      replace hrr := hrr.trans hq
      subst rr
      refine JK_return (()) rfl (.tmp rfl .nil) rfl trivial (Ent.take (is := []) rfl)
    · skip
      have g10 : ¬ (256 < s.Width) := of_decide_eq_false h8
      refine JO_taken rfl rfl rfl rfl ?_
      refine JO_q rfl rfl rfl (OpV.move rfl rfl) ?_
      refine JO_taken rfl rfl rfl rfl ?_
      refine JO_q rfl rfl rfl (OpV.lss rfl rfl rfl) ?_
      refine JO_q rfl rfl rfl (OpV.pickF rfl rfl rfl) ?_
      refine JO_q rfl rfl rfl (OpV.move rfl rfl) ?_
      refine JJ_split 21 rfl (fun (h11 : decide (((s.Boundary.length : Nat) : Int) < 1) = true) => ?_) (fun (h11 : decide (((s.Boundary.length : Nat) : Int) < 1) = false) => ?_)
      · skip
        have g12 : (((s.Boundary.length : Nat) : Int) < 1) := of_decide_eq_true h11
        refine JO_skip rfl rfl rfl rfl rfl rfl ?_
        refine JO_skip rfl rfl rfl rfl rfl rfl ?_
        refine JO_q rfl rfl rfl (OpV.pickT rfl rfl rfl) ?_
        refine JO_q rfl rfl rfl (OpV.move rfl rfl) ?_
        refine JO_skip rfl rfl rfl rfl rfl rfl ?_
        refine JO_skip rfl rfl rfl rfl rfl rfl ?_
        refine JO_skip rfl rfl rfl rfl rfl rfl ?_
        refine JO_skip rfl rfl rfl rfl rfl rfl ?_
        refine JO_skip rfl rfl rfl rfl rfl rfl ?_
        refine JO_q rfl rfl rfl (OpV.pickT rfl rfl rfl) ?_
        refine JO_q rfl rfl rfl (OpV.move rfl rfl) ?_
        refine JO_skip rfl rfl rfl rfl rfl rfl ?_
        refine JO_skip rfl rfl rfl rfl rfl rfl ?_
        refine JO_skip rfl rfl rfl rfl rfl rfl ?_
        refine JO_skip rfl rfl rfl rfl rfl rfl ?_
        refine JO_skip rfl rfl rfl rfl rfl rfl ?_
        refine JO_q rfl rfl rfl (OpV.pickT rfl rfl rfl) ?_
        refine JO_nil ?_
        refine JK_condT rfl ?_
        refine JK_seq ?_
        refine JK_region ?_
        refine JO_q rfl rfl rfl (OpV.assign rfl rfl) ?_
        refine JO_nil ?_
        have hq : rr = false := hrr.symm.trans (by simp only [flqref10_Valid, h5, h8, h11, cs4])
        replace hrr := hrr.trans hq
        subst rr
        refine JK_return (()) rfl (.tmp rfl .nil) rfl trivial (Ent.take (is := []) rfl)
      · skip
        have g13 : ¬ (((s.Boundary.length : Nat) : Int) < 1) := of_decide_eq_false h11
        refine JO_taken rfl rfl rfl rfl ?_
        refine JO_q rfl rfl rfl (OpV.move rfl rfl) ?_
        refine JO_taken rfl rfl rfl rfl ?_
        refine JO_q rfl rfl rfl (OpV.gtr rfl rfl rfl) ?_
        refine JO_q rfl rfl rfl (OpV.pickF rfl rfl rfl) ?_
        refine JO_q rfl rfl rfl (OpV.move rfl rfl) ?_
        refine JJ_split 25 rfl (fun (h14 : decide (256 < ((s.Boundary.length : Nat) : Int)) = true) => ?_) (fun (h14 : decide (256 < ((s.Boundary.length : Nat) : Int)) = false) => ?_)
        · skip
          have g15 : (256 < ((s.Boundary.length : Nat) : Int)) := of_decide_eq_true h14
          refine JO_skip rfl rfl rfl rfl rfl rfl ?_
          refine JO_skip rfl rfl rfl rfl rfl rfl ?_
          refine JO_skip rfl rfl rfl rfl rfl rfl ?_
          refine JO_skip rfl rfl rfl rfl rfl rfl ?_
          refine JO_skip rfl rfl rfl rfl rfl rfl ?_
          refine JO_q rfl rfl rfl (OpV.pickT rfl rfl rfl) ?_
          refine JO_q rfl rfl rfl (OpV.move rfl rfl) ?_
          refine JO_skip rfl rfl rfl rfl rfl rfl ?_
          refine JO_skip rfl rfl rfl rfl rfl rfl ?_
          refine JO_skip rfl rfl rfl rfl rfl rfl ?_
          refine JO_skip rfl rfl rfl rfl rfl rfl ?_
          refine JO_skip rfl rfl rfl rfl rfl rfl ?_
          refine JO_q rfl rfl rfl (OpV.pickT rfl rfl rfl) ?_
          refine JO_nil ?_
          refine JK_condT rfl ?_
          refine JK_seq ?_
          refine JK_region ?_
          refine JO_q rfl rfl rfl (OpV.assign rfl rfl) ?_
          refine JO_nil ?_
          have hq : rr = false := hrr.symm.trans (by simp only [flqref10_Valid, h5, h8, h11, h14, cs4])
          replace hrr := hrr.trans hq
          subst rr
          refine JK_return (()) rfl (.tmp rfl .nil) rfl trivial (Ent.take (is := []) rfl)
        · skip
          have g16 : ¬ (256 < ((s.Boundary.length : Nat) : Int)) := of_decide_eq_false h14
          refine JO_taken rfl rfl rfl rfl ?_
          refine JO_q rfl rfl rfl (OpV.fieldAddr rfl rfl fo27_1 (i := 0) rfl (isPtr_pv _ _)) ?_
          refine JO_taken rfl rfl rfl rfl ?_
          refine JO_q rfl rfl rfl (OpV.loadF rfl rfl sh23 (i := 0) rfl (reads_pv _ _) rfl) ?_
          refine JO_taken rfl rfl rfl rfl ?_
          refine JO_q rfl rfl rfl (OpV.len rfl rfl sl23) ?_
          refine JO_taken rfl rfl rfl rfl ?_
          refine JO_q rfl rfl rfl (OpV.move rfl rfl) ?_
          refine JO_taken rfl rfl rfl rfl ?_
          refine JO_q rfl rfl rfl (OpV.neq rfl rfl rfl) ?_
          refine JO_q rfl rfl rfl (OpV.pickF rfl rfl rfl) ?_
          refine JO_q rfl rfl rfl (OpV.move rfl rfl) ?_
          refine JJ_split 32 rfl (fun (h17 : (((s.Deps.length : Nat) : Int) != ((s.Boundary.length : Nat) : Int)) = true) => ?_) (fun (h17 : (((s.Deps.length : Nat) : Int) != ((s.Boundary.length : Nat) : Int)) = false) => ?_)
          · skip
            have g18 : ((s.Deps.length : Nat) : Int) ≠ ((s.Boundary.length : Nat) : Int) := ne_of_bne h17
            refine JO_skip rfl rfl rfl rfl rfl rfl ?_
            refine JO_skip rfl rfl rfl rfl rfl rfl ?_
            refine JO_skip rfl rfl rfl rfl rfl rfl ?_
            refine JO_skip rfl rfl rfl rfl rfl rfl ?_
            refine JO_skip rfl rfl rfl rfl rfl rfl ?_
            refine JO_q rfl rfl rfl (OpV.pickT rfl rfl rfl) ?_
            refine JO_nil ?_
            refine JK_condT rfl ?_
            refine JK_seq ?_
            refine JK_region ?_
            refine JO_q rfl rfl rfl (OpV.assign rfl rfl) ?_
            refine JO_nil ?_
            have hq : rr = false := hrr.symm.trans (by simp only [flqref10_Valid, h5, h8, h11, h14, h17, cs4])
            replace hrr := hrr.trans hq
            subst rr
            refine JK_return (()) rfl (.tmp rfl .nil) rfl trivial (Ent.take (is := []) rfl)
          · skip
            have g19 : ((s.Deps.length : Nat) : Int) = ((s.Boundary.length : Nat) : Int) := eq_of_bne_false h17
            refine JO_taken rfl rfl rfl rfl ?_
            refine JO_q rfl rfl rfl (OpV.fieldAddr rfl rfl fo27_2 (i := 0) rfl (isPtr_pv _ _)) ?_
            refine JO_taken rfl rfl rfl rfl ?_
            refine JO_q rfl rfl rfl (OpV.loadF rfl rfl sh24 (i := 0) rfl (reads_pv _ _) rfl) ?_
            refine JO_taken rfl rfl rfl rfl ?_
            refine JO_q rfl rfl rfl (OpV.len rfl rfl sl24) ?_
            refine JO_taken rfl rfl rfl rfl ?_
            refine JO_q rfl rfl rfl (OpV.move rfl rfl) ?_
            refine JO_taken rfl rfl rfl rfl ?_
            refine JO_q rfl rfl rfl (OpV.neq rfl rfl rfl) ?_
            refine JO_q rfl rfl rfl (OpV.pickF rfl rfl rfl) ?_
            refine JO_nil ?_
            refine JK_cond (b := (((s.Transfers.length : Nat) : Int) != ((s.Boundary.length : Nat) : Int))) rfl (fun (h20 : (((s.Transfers.length : Nat) : Int) != ((s.Boundary.length : Nat) : Int)) = true) => ?_) (fun (h20 : (((s.Transfers.length : Nat) : Int) != ((s.Boundary.length : Nat) : Int)) = false) => ?_)
            · skip
              have g21 : ((s.Transfers.length : Nat) : Int) ≠ ((s.Boundary.length : Nat) : Int) := ne_of_bne h20
              refine JK_seq ?_
              refine JK_region ?_
              refine JO_q rfl rfl rfl (OpV.assign rfl rfl) ?_
              refine JO_nil ?_
              have hq : rr = false := hrr.symm.trans (by simp only [flqref10_Valid, h5, h8, h11, h14, h17, h20, cs4])
              replace hrr := hrr.trans hq
              subst rr
              refine JK_return (()) rfl (.tmp rfl .nil) rfl trivial (Ent.take (is := []) rfl)
            · skip
              have g22 : ((s.Transfers.length : Nat) : Int) = ((s.Boundary.length : Nat) : Int) := eq_of_bne_false h20
              refine JK_skip ?_
              refine JK_seq ?_
              refine JK_region ?_
              refine JO_q rfl rfl rfl (OpV.assign rfl rfl) ?_
              refine JO_nil ?_
              refine JK_seq ?_
              refine JK_seq ?_
              refine JK_region ?_
              refine JO_q rfl rfl rfl (OpV.assign rfl rfl) ?_
              refine JO_nil ?_
              refine JK_block ?_
              refine JK_loop (γ := Nat × Int × Int) (fun (r23, edges_24, i_25) => [(1, p4), (3, .int .i64 ((s.Boundary.length : Nat) : Int)), (4, .int .i64 edges_24), (5, .int .i64 i_25)]) (fun (r23, edges_24, i_25) => [pv p4 [.int .i64 s.Width, .slice sa1 s.Deps.length sk1, .slice sa2 s.Transfers.length sk2, .slice sa3 s.Boundary.length sk3], sl (.slice sa1 s.Deps.length sk1) (s.Deps : List (List Int)), sl (.slice sa2 s.Transfers.length sk2) (s.Transfers : List GTransfer), sl (.slice sa3 s.Boundary.length sk3) (s.Boundary : List GSet)]) (fun (r23, edges_24, i_25) => flqref10_Valid_L0 s r23 edges_24 i_25 = flqref10_Valid_L0 s (((((s.Boundary.length : Nat) : Int) : Int) - 0).toNat) 0 0 ∧ r23 = ((((s.Boundary.length : Nat) : Int) : Int) - i_25).toNat ∧ (0 : Int) ≤ i_25 ∧ (i_25 ≤ ((s.Boundary.length : Nat) : Int) ∨ i_25 = 0) ∧ (-9223372036854775808 ≤ edges_24 ∧ edges_24 ≤ 9223372036854775807) ∧ (-9223372036854775808 ≤ i_25 ∧ i_25 ≤ 9223372036854775807) ∧ 0 ≤ edges_24 ∧ edges_24 ≤ i_25 * 17592186044416) (fun (r23, edges_24, i_25) => r23) (((((s.Boundary.length : Nat) : Int) : Int) - 0).toNat, 0, 0) ⟨rfl, rfl, (by omega), (.inr rfl), (by omega), (by omega), (by first | omega | (simp only [lens]; omega) | simp)⟩ (Env.sub_all rfl) (Ent.take (is := [0, 1, 2, 3]) rfl) ?_
              rintro ⟨r23, edges_24, i_25⟩ ⟨hM26, hr27, hi28, hi29, hk30, hk31, hv32⟩
              refine JJ_norm (L := [(1, p4), (3, .int .i64 ((s.Boundary.length : Nat) : Int)), (4, .int .i64 edges_24), (5, .int .i64 i_25)]) (A := [pv p4 [.int .i64 s.Width, .slice sa1 s.Deps.length sk1, .slice sa2 s.Transfers.length sk2, .slice sa3 s.Boundary.length sk3], sl (.slice sa1 s.Deps.length sk1) (s.Deps : List (List Int)), sl (.slice sa2 s.Transfers.length sk2) (s.Transfers : List GTransfer), sl (.slice sa3 s.Boundary.length sk3) (s.Boundary : List GSet)]) rfl rfl ?_
              refine JJ_fact 1 rfl sl_bytes ?_
              intro hl33
              have hl33 : s.Deps.length * 24 ≤ 140737488355328 := hl33
              refine JJ_fact 2 rfl sl_bytes ?_
              intro hl34
              have hl34 : s.Transfers.length * 88 ≤ 140737488355328 := hl34
              refine JJ_fact 3 rfl sl_bytes ?_
              intro hl35
              have hl35 : s.Boundary.length * 32 ≤ 140737488355328 := hl35
              refine JK_seq ?_
              refine JK_seq ?_
              refine JK_region ?_
              refine JO_q rfl rfl rfl (OpV.move rfl rfl) ?_
              refine JO_q rfl rfl rfl (OpV.move rfl rfl) ?_
              refine JO_q rfl rfl rfl (OpV.lss rfl rfl rfl) ?_
              refine JO_nil ?_
              refine JK_cond (b := decide (i_25 < ((s.Boundary.length : Nat) : Int))) rfl (fun (h36 : decide (i_25 < ((s.Boundary.length : Nat) : Int)) = true) => ?_) (fun (h36 : decide (i_25 < ((s.Boundary.length : Nat) : Int)) = false) => ?_)
              · skip
                have g37 : (i_25 < ((s.Boundary.length : Nat) : Int)) := of_decide_eq_true h36
                obtain ⟨r38, rfl⟩ : ∃ q, r23 = q + 1 := ⟨r23 - 1, by omega⟩
                refine JK_skip ?_
                refine JK_seq ?_
                refine JK_block ?_
                refine JK_seq ?_
                refine JK_seq ?_
                refine JJ_peekL (i_25 : Int).toNat 1 rfl (by omega) ?_
                intro a39 k40
                refine JJ_fact 1 rfl sl_bytes ?_
                intro hl41
                have hl41 : (s.Deps.getD (i_25 : Int).toNat []).length * 8 ≤ 140737488355328 := hl41
                refine JJ_fact 1 rfl sl_ok ?_
                intro ho42
                refine letv (flqref7_Rising (s.Deps.getD (i_25 : Int).toNat []) ((s.Boundary.length : Nat) : Int)) fun rv43 hg44 => ?_
                refine bool_split ((!rv43)) (fun (h45 : (!rv43) = true) => ?_) (fun (h45 : (!rv43) = false) => ?_)
                · skip
                  have h47 : rv43 = false := not_true h45
                  refine JK_drawJ [0, 1, 0, 7, 15, 0, 63, 127, 255, 511, 1023, 511, 4095, 8191, 16383, 32767, 65535, 131071, 262143, 524287, 262143, 2097151, 4194303, 8388607, 16777215, 262143, 33816575, 134217727, 268435455, 536870911, 1073741823, 2147483647, 1073741823, 8589934591, 17179869183, 34359738367, 68719476735, 137438953471, 274877906943, 549755813887, 1099511627775, 549755813887, 4398046511103, 8796093022207, 17592186044415, 549755813887, 35734127902719, 140737488355327, 281474976710655] [] fmix ?_
                  refine JD_v [2] (wn rfl) rfl rfl (OpV.fieldAddr rfl rfl fo27_1 (i := 0) rfl (isPtr_pv _ _)) ?_
                  refine JD_v [2] (wn rfl) rfl rfl (OpV.loadF rfl rfl sh23 (i := 0) rfl (reads_pv _ _) rfl) ?_
                  refine JD_v [] (wn rfl) rfl rfl (OpV.move rfl rfl) ?_
                  refine JD_v [3] (wn rfl) rfl rfl (OpV.indexAddr (m := 0) rfl rfl rfl sl23 rfl (isSl_sl _ _) (by first | omega | (simp only [lens]; omega) | (simp only [lens] at *; omega))) ?_
                  refine JD_v [0] (wn rfl) rfl rfl (OpV.load rfl rfl sh22 (i := 0) rfl (reads_pv _ _) rfl) ?_
                  refine JD_v [] (wn rfl) rfl rfl (OpV.move rfl rfl) ?_
                  refine JD_x [1] [] (fun lG => .bool rv43) [⟨some 6, none, [], fun lG => SP.fact (True)⟩] (wn rfl) rfl rfl rfl (fun G => by refine OpX.n3 (A' := [sl (.slice a39 ((s.Deps.getD (i_25 : Int).toNat []).length) k40) ((s.Deps.getD (i_25 : Int).toNat []) : List Int)]) (V' := fun g => .bool rv43) (B' := fun g => [sl (.slice a39 ((s.Deps.getD (i_25 : Int).toNat []).length) k40) ((s.Deps.getD (i_25 : Int).toNat []) : List Int), SP.fact (True)]) (by kernel_rfl) (by kernel_rfl) (by kernel_rfl) ?_; refine OpX.postR (OpX.frame [0] rfl (OpX.ofC (fun _ => []) (fun _ => ()) (fun _ => rfl) (by intro _ _ h; cases h) (OpC.fn rfl ca37 rfl) (fn37 ((s.Deps.getD (i_25 : Int).toNat [])) a39 k40 (((s.Boundary.length : Nat) : Int)) (by (try dsimp only) <;> first | (unfold i64ok; omega) | omega | assumption) rv43 hg44))) (fun g => ?_); exact Ent.take (is := [1, 0]) rfl) ?_
                  refine JD_b h45 [] (wn rfl) rfl rfl (OpV.not rfl rfl) ?_
                  refine JD_v [] (wn rfl) rfl rfl (OpV.move rfl rfl) ?_
                  refine JD_skip (ws rfl rfl rfl _ rfl rfl) rfl ?_
                  refine JD_skip (ws rfl rfl rfl _ rfl rfl) rfl ?_
                  refine JD_skip (ws rfl rfl rfl _ rfl rfl) rfl ?_
                  refine JD_skip (ws rfl rfl rfl _ rfl rfl) rfl ?_
                  refine JD_skip (ws rfl rfl rfl _ rfl rfl) rfl ?_
                  refine JD_skip (ws rfl rfl rfl _ rfl rfl) rfl ?_
                  refine JD_skip (ws rfl rfl rfl _ rfl rfl) rfl ?_
                  refine JD_v [] (wn rfl) rfl rfl (OpV.pickT rfl rfl rfl) ?_
                  refine JD_v [] (wn rfl) rfl rfl (OpV.move rfl rfl) ?_
                  refine JD_skip (ws rfl rfl rfl _ rfl rfl) rfl ?_
                  refine JD_skip (ws rfl rfl rfl _ rfl rfl) rfl ?_
                  refine JD_skip (ws rfl rfl rfl _ rfl rfl) rfl ?_
                  refine JD_skip (ws rfl rfl rfl _ rfl rfl) rfl ?_
                  refine JD_skip (ws rfl rfl rfl _ rfl rfl) rfl ?_
                  refine JD_skip (ws rfl rfl rfl _ rfl rfl) rfl ?_
                  refine JD_skip (ws rfl rfl rfl _ rfl rfl) rfl ?_
                  refine JD_skip (ws rfl rfl rfl _ rfl rfl) rfl ?_
                  refine JD_skip (ws rfl rfl rfl _ rfl rfl) rfl ?_
                  refine JD_skip (ws rfl rfl rfl _ rfl rfl) rfl ?_
                  refine JD_v [] (wn rfl) rfl rfl (OpV.pickT rfl rfl rfl) ?_
                  refine JD_v [] (wn rfl) rfl rfl (OpV.move rfl rfl) ?_
                  refine JD_skip (ws rfl rfl rfl _ rfl rfl) rfl ?_
                  refine JD_skip (ws rfl rfl rfl _ rfl rfl) rfl ?_
                  refine JD_skip (ws rfl rfl rfl _ rfl rfl) rfl ?_
                  refine JD_skip (ws rfl rfl rfl _ rfl rfl) rfl ?_
                  refine JD_skip (ws rfl rfl rfl _ rfl rfl) rfl ?_
                  refine JD_skip (ws rfl rfl rfl _ rfl rfl) rfl ?_
                  refine JD_skip (ws rfl rfl rfl _ rfl rfl) rfl ?_
                  refine JD_v [] (wn rfl) rfl rfl (OpV.pickT rfl rfl rfl) ?_
                  refine JD_v [] (wn rfl) rfl rfl (OpV.move rfl rfl) ?_
                  refine JD_skip (ws rfl rfl rfl _ rfl rfl) rfl ?_
                  refine JD_skip (ws rfl rfl rfl _ rfl rfl) rfl ?_
                  refine JD_skip (ws rfl rfl rfl _ rfl rfl) rfl ?_
                  refine JD_skip (ws rfl rfl rfl _ rfl rfl) rfl ?_
                  refine JD_skip (ws rfl rfl rfl _ rfl rfl) rfl ?_
                  refine JD_skip (ws rfl rfl rfl _ rfl rfl) rfl ?_
                  refine JD_skip (ws rfl rfl rfl _ rfl rfl) rfl ?_
                  refine JD_skip (ws rfl rfl rfl _ rfl rfl) rfl ?_
                  refine JD_skip (ws rfl rfl rfl _ rfl rfl) rfl ?_
                  refine JD_v [] (wn rfl) rfl rfl (OpV.pickT rfl rfl rfl) ?_
                  refine JD_nil ⟨by kernel_rfl, fun G => ?_⟩
                  refine JJ_weaken (L' := [(1, p4), (3, .int .i64 ((s.Boundary.length : Nat) : Int)), (4, .int .i64 edges_24), (5, .int .i64 i_25), (92, .bool true)]) (A' := [pv (eptr 1 (.slice sa1 s.Deps.length sk1) (i_25 : Int).toNat) [.slice a39 ((s.Deps.getD (i_25 : Int).toNat []).length) k40], sl (.slice a39 ((s.Deps.getD (i_25 : Int).toNat []).length) k40) ((s.Deps.getD (i_25 : Int).toNat []) : List Int), pv p4 [.int .i64 s.Width, .slice sa1 s.Deps.length sk1, .slice sa2 s.Transfers.length sk2, .slice sa3 s.Boundary.length sk3], sl (.slice sa1 s.Deps.length sk1) (s.Deps : List (List Int)), sl (.slice sa2 s.Transfers.length sk2) (s.Transfers : List GTransfer), sl (.slice sa3 s.Boundary.length sk3) (s.Boundary : List GSet), SP.fact (True)]) (Env.sub_all (by kernel_rfl)) (Ent.of_eq (by kernel_rfl)) ?_
                  refine JJ_keep [0, 1, 2, 3, 4, 5] rfl ?_
                  refine JK_condT rfl ?_
                  refine JK_seq ?_
                  refine JK_region ?_
                  refine JO_q rfl rfl rfl (OpV.assign rfl rfl) ?_
                  refine JO_nil ?_
                  have hR49 : flqref10_Valid_L0 s (((((s.Boundary.length : Nat) : Int) : Int) - 0).toNat) 0 0 = LR.ret false := by
                    rw [← hM26]; simp only [flqref10_Valid_L0, h5, h8, h11, h14, h17, h20, h36, h45, h47, hg44, cs4]
                  have hq : rr = false := hrr.symm.trans (by simp only [flqref10_Valid, h5, h8, h11, h14, h17, h20, h36, h45, h47, hg44, hR49, cs4])
                  replace hrr := hrr.trans hq
                  subst rr
                  refine JK_return (()) rfl (.tmp rfl .nil) rfl trivial (Ent.take (is := []) rfl)
                · skip
                  have h51 : rv43 = true := not_false h45
                  refine JJ_peek_GTransfer (i_25 : Int).toNat 4 rfl (by omega) ?_
                  intro a53 k54 a55 k56 a57 k58 hb59 hb60
                  have hb59 : -9223372036854775808 ≤ ((s.Transfers.getD (i_25 : Int).toNat default).Gen).Width ∧ ((s.Transfers.getD (i_25 : Int).toNat default).Gen).Width ≤ 9223372036854775807 := hb59
                  have hb60 : -9223372036854775808 ≤ ((s.Transfers.getD (i_25 : Int).toNat default).Kill).Width ∧ ((s.Transfers.getD (i_25 : Int).toNat default).Kill).Width ≤ 9223372036854775807 := hb60
                  refine JJ_fact 1 rfl sl_bytes ?_
                  intro hl61
                  have hl61 : (((s.Transfers.getD (i_25 : Int).toNat default).Gen).Words).length * 8 ≤ 140737488355328 := hl61
                  refine JJ_fact 2 rfl sl_bytes ?_
                  intro hl62
                  have hl62 : (((s.Transfers.getD (i_25 : Int).toNat default).Kill).Words).length * 8 ≤ 140737488355328 := hl62
                  refine JJ_fact 3 rfl sl_bytes ?_
                  intro hl63
                  have hl63 : ((s.Transfers.getD (i_25 : Int).toNat default).Copies).length * 16 ≤ 140737488355328 := hl63
                  refine letv (flqref1_ValidTransfer (s.Transfers.getD (i_25 : Int).toNat default)) fun rv64 hg65 => ?_
                  refine bool_split ((!rv64)) (fun (h66 : (!rv64) = true) => ?_) (fun (h66 : (!rv64) = false) => ?_)
                  · skip
                    have h68 : rv64 = false := not_true h66
                    refine JK_drawJ [0, 1, 0, 7, 15, 0, 63, 127, 255, 511, 1023, 511, 4095, 8191, 16383, 32767, 65535, 131071, 262143, 524287, 262143, 2097151, 4194303, 8388607, 16777215, 262143, 33816575, 134217727, 268435455, 536870911, 1073741823, 2147483647, 1073741823, 8589934591, 17179869183, 34359738367, 68719476735, 137438953471, 274877906943, 549755813887, 1099511627775, 549755813887, 4398046511103, 8796093022207, 17592186044415, 549755813887, 35734127902719, 140737488355327, 281474976710655] [] fmix ?_
                    refine JD_v [6] (wn rfl) rfl rfl (OpV.fieldAddr rfl rfl fo27_1 (i := 0) rfl (isPtr_pv _ _)) ?_
                    refine JD_v [6] (wn rfl) rfl rfl (OpV.loadF rfl rfl sh23 (i := 0) rfl (reads_pv _ _) rfl) ?_
                    refine JD_v [] (wn rfl) rfl rfl (OpV.move rfl rfl) ?_
                    refine JD_v [7] (wn rfl) rfl rfl (OpV.indexAddr (m := 0) rfl rfl rfl sl23 rfl (isSl_sl _ _) (by first | omega | (simp only [lens]; omega) | (simp only [lens] at *; omega))) ?_
                    refine JD_v [4] (wn rfl) rfl rfl (OpV.load rfl rfl sh22 (i := 0) rfl (reads_pv _ _) rfl) ?_
                    refine JD_v [] (wn rfl) rfl rfl (OpV.move rfl rfl) ?_
                    refine JD_x [5] [] (fun lG => .bool rv43) [⟨some 6, none, [], fun lG => SP.fact (True)⟩] (wn rfl) rfl rfl rfl (fun G => by refine OpX.n3 (A' := [sl (.slice a39 ((s.Deps.getD (i_25 : Int).toNat []).length) k40) ((s.Deps.getD (i_25 : Int).toNat []) : List Int)]) (V' := fun g => .bool rv43) (B' := fun g => [sl (.slice a39 ((s.Deps.getD (i_25 : Int).toNat []).length) k40) ((s.Deps.getD (i_25 : Int).toNat []) : List Int), SP.fact (True)]) (by kernel_rfl) (by kernel_rfl) (by kernel_rfl) ?_; refine OpX.postR (OpX.frame [0] rfl (OpX.ofC (fun _ => []) (fun _ => ()) (fun _ => rfl) (by intro _ _ h; cases h) (OpC.fn rfl ca37 rfl) (fn37 ((s.Deps.getD (i_25 : Int).toNat [])) a39 k40 (((s.Boundary.length : Nat) : Int)) (by (try dsimp only) <;> first | (unfold i64ok; omega) | omega | assumption) rv43 hg44))) (fun g => ?_); exact Ent.take (is := [1, 0]) rfl) ?_
                    refine JD_b h45 [] (wn rfl) rfl rfl (OpV.not rfl rfl) ?_
                    refine JD_v [] (wn rfl) rfl rfl (OpV.move rfl rfl) ?_
                    refine JD_v [6] (wt rfl rfl rfl rfl) rfl rfl (OpV.fieldAddr rfl rfl fo27_2 (i := 0) rfl (isPtr_pv _ _)) ?_
                    refine JD_v [6] (wt rfl rfl rfl rfl) rfl rfl (OpV.loadF rfl rfl sh24 (i := 0) rfl (reads_pv _ _) rfl) ?_
                    refine JD_v [] (wt rfl rfl rfl rfl) rfl rfl (OpV.move rfl rfl) ?_
                    refine JD_v [8] (wt rfl rfl rfl rfl) rfl rfl (OpV.indexAddr (m := 0) rfl rfl rfl sl24 rfl (isSl_sl _ _) (by first | omega | (simp only [lens]; omega) | (simp only [lens] at *; omega))) ?_
                    refine JD_v [0] (wt rfl rfl rfl rfl) rfl rfl (OpV.loadA rfl rfl sh54 (i := 0) rfl (reads_pv _ _) rfl) ?_
                    refine JD_x [1, 2, 3] [] (fun lG => .bool rv64) [⟨some 14, none, [], fun lG => SP.fact (True)⟩] (wt rfl rfl rfl rfl) rfl rfl rfl (fun G => by refine OpX.n3 (A' := [sl (.slice a53 ((((s.Transfers.getD (i_25 : Int).toNat default).Gen).Words).length) k54) (((s.Transfers.getD (i_25 : Int).toNat default).Gen).Words : List (BitVec 64)), sl (.slice a55 ((((s.Transfers.getD (i_25 : Int).toNat default).Kill).Words).length) k56) (((s.Transfers.getD (i_25 : Int).toNat default).Kill).Words : List (BitVec 64)), sl (.slice a57 (((s.Transfers.getD (i_25 : Int).toNat default).Copies).length) k58) ((s.Transfers.getD (i_25 : Int).toNat default).Copies : List GCopy)]) (V' := fun g => .bool rv64) (B' := fun g => [sl (.slice a53 ((((s.Transfers.getD (i_25 : Int).toNat default).Gen).Words).length) k54) (((s.Transfers.getD (i_25 : Int).toNat default).Gen).Words : List (BitVec 64)), sl (.slice a55 ((((s.Transfers.getD (i_25 : Int).toNat default).Kill).Words).length) k56) (((s.Transfers.getD (i_25 : Int).toNat default).Kill).Words : List (BitVec 64)), sl (.slice a57 (((s.Transfers.getD (i_25 : Int).toNat default).Copies).length) k58) ((s.Transfers.getD (i_25 : Int).toNat default).Copies : List GCopy), SP.fact (True)]) (by kernel_rfl) (by kernel_rfl) (by kernel_rfl) ?_; refine OpX.postR (OpX.frame [0, 1, 2] rfl (OpX.ofC (fun _ => []) (fun _ => ()) (fun _ => rfl) (by intro _ _ h; cases h) (OpC.fn rfl ca38 rfl) (fn38 ((s.Transfers.getD (i_25 : Int).toNat default)) a53 k54 a55 k56 a57 k58 (by (try dsimp only) <;> first | (unfold i64ok; omega) | omega | assumption) (by (try dsimp only) <;> first | (unfold i64ok; omega) | omega | assumption) rv64 hg65))) (fun g => ?_); exact Ent.take (is := [1, 2, 3, 0]) rfl) ?_
                    refine JD_b h66 [] (wt rfl rfl rfl rfl) rfl rfl (OpV.not rfl rfl) ?_
                    refine JD_v [] (wn rfl) rfl rfl (OpV.pickF rfl rfl rfl) ?_
                    refine JD_v [] (wn rfl) rfl rfl (OpV.move rfl rfl) ?_
                    refine JD_skip (ws rfl rfl rfl _ rfl rfl) rfl ?_
                    refine JD_skip (ws rfl rfl rfl _ rfl rfl) rfl ?_
                    refine JD_skip (ws rfl rfl rfl _ rfl rfl) rfl ?_
                    refine JD_skip (ws rfl rfl rfl _ rfl rfl) rfl ?_
                    refine JD_skip (ws rfl rfl rfl _ rfl rfl) rfl ?_
                    refine JD_skip (ws rfl rfl rfl _ rfl rfl) rfl ?_
                    refine JD_skip (ws rfl rfl rfl _ rfl rfl) rfl ?_
                    refine JD_skip (ws rfl rfl rfl _ rfl rfl) rfl ?_
                    refine JD_skip (ws rfl rfl rfl _ rfl rfl) rfl ?_
                    refine JD_skip (ws rfl rfl rfl _ rfl rfl) rfl ?_
                    refine JD_v [] (wn rfl) rfl rfl (OpV.pickT rfl rfl rfl) ?_
                    refine JD_v [] (wn rfl) rfl rfl (OpV.move rfl rfl) ?_
                    refine JD_skip (ws rfl rfl rfl _ rfl rfl) rfl ?_
                    refine JD_skip (ws rfl rfl rfl _ rfl rfl) rfl ?_
                    refine JD_skip (ws rfl rfl rfl _ rfl rfl) rfl ?_
                    refine JD_skip (ws rfl rfl rfl _ rfl rfl) rfl ?_
                    refine JD_skip (ws rfl rfl rfl _ rfl rfl) rfl ?_
                    refine JD_skip (ws rfl rfl rfl _ rfl rfl) rfl ?_
                    refine JD_skip (ws rfl rfl rfl _ rfl rfl) rfl ?_
                    refine JD_v [] (wn rfl) rfl rfl (OpV.pickT rfl rfl rfl) ?_
                    refine JD_v [] (wn rfl) rfl rfl (OpV.move rfl rfl) ?_
                    refine JD_skip (ws rfl rfl rfl _ rfl rfl) rfl ?_
                    refine JD_skip (ws rfl rfl rfl _ rfl rfl) rfl ?_
                    refine JD_skip (ws rfl rfl rfl _ rfl rfl) rfl ?_
                    refine JD_skip (ws rfl rfl rfl _ rfl rfl) rfl ?_
                    refine JD_skip (ws rfl rfl rfl _ rfl rfl) rfl ?_
                    refine JD_skip (ws rfl rfl rfl _ rfl rfl) rfl ?_
                    refine JD_skip (ws rfl rfl rfl _ rfl rfl) rfl ?_
                    refine JD_skip (ws rfl rfl rfl _ rfl rfl) rfl ?_
                    refine JD_skip (ws rfl rfl rfl _ rfl rfl) rfl ?_
                    refine JD_v [] (wn rfl) rfl rfl (OpV.pickT rfl rfl rfl) ?_
                    refine JD_nil ⟨by kernel_rfl, fun G => ?_⟩
                    refine JJ_weaken (L' := [(1, p4), (3, .int .i64 ((s.Boundary.length : Nat) : Int)), (4, .int .i64 edges_24), (5, .int .i64 i_25), (92, .bool true)]) (A' := [pv (eptr 5 (.slice sa2 s.Transfers.length sk2) (i_25 : Int).toNat) [.int .i64 (((s.Transfers.getD (i_25 : Int).toNat default).Gen).Width), .slice a53 ((((s.Transfers.getD (i_25 : Int).toNat default).Gen).Words).length) k54, .int .i64 (((s.Transfers.getD (i_25 : Int).toNat default).Kill).Width), .slice a55 ((((s.Transfers.getD (i_25 : Int).toNat default).Kill).Words).length) k56, .slice a57 (((s.Transfers.getD (i_25 : Int).toNat default).Copies).length) k58], sl (.slice a53 ((((s.Transfers.getD (i_25 : Int).toNat default).Gen).Words).length) k54) (((s.Transfers.getD (i_25 : Int).toNat default).Gen).Words : List (BitVec 64)), sl (.slice a55 ((((s.Transfers.getD (i_25 : Int).toNat default).Kill).Words).length) k56) (((s.Transfers.getD (i_25 : Int).toNat default).Kill).Words : List (BitVec 64)), sl (.slice a57 (((s.Transfers.getD (i_25 : Int).toNat default).Copies).length) k58) ((s.Transfers.getD (i_25 : Int).toNat default).Copies : List GCopy), pv (eptr 1 (.slice sa1 s.Deps.length sk1) (i_25 : Int).toNat) [.slice a39 ((s.Deps.getD (i_25 : Int).toNat []).length) k40], sl (.slice a39 ((s.Deps.getD (i_25 : Int).toNat []).length) k40) ((s.Deps.getD (i_25 : Int).toNat []) : List Int), pv p4 [.int .i64 s.Width, .slice sa1 s.Deps.length sk1, .slice sa2 s.Transfers.length sk2, .slice sa3 s.Boundary.length sk3], sl (.slice sa1 s.Deps.length sk1) (s.Deps : List (List Int)), sl (.slice sa2 s.Transfers.length sk2) (s.Transfers : List GTransfer), sl (.slice sa3 s.Boundary.length sk3) (s.Boundary : List GSet), SP.fact (True), SP.fact (True)]) (Env.sub_all (by kernel_rfl)) (Ent.of_eq (by kernel_rfl)) ?_
                    refine JJ_keep [0, 1, 2, 3, 4, 5, 6, 7, 8, 9] rfl ?_
                    refine JK_condT rfl ?_
                    refine JK_seq ?_
                    refine JK_region ?_
                    refine JO_q rfl rfl rfl (OpV.assign rfl rfl) ?_
                    refine JO_nil ?_
                    have hR70 : flqref10_Valid_L0 s (((((s.Boundary.length : Nat) : Int) : Int) - 0).toNat) 0 0 = LR.ret false := by
                      rw [← hM26]; simp only [flqref10_Valid_L0, h5, h8, h11, h14, h17, h20, h36, h45, h51, h66, h68, hg44, hg65, cs4]
                    have hq : rr = false := hrr.symm.trans (by simp only [flqref10_Valid, h5, h8, h11, h14, h17, h20, h36, h45, h51, h66, h68, hg44, hg65, hR70, cs4])
                    replace hrr := hrr.trans hq
                    subst rr
                    refine JK_return (()) rfl (.tmp rfl .nil) rfl trivial (Ent.take (is := []) rfl)
                  · skip
                    have h72 : rv64 = true := not_false h66
                    refine bool_split ((((s.Transfers.getD (i_25 : Int).toNat default).Gen).Width != s.Width)) (fun (h74 : (((s.Transfers.getD (i_25 : Int).toNat default).Gen).Width != s.Width) = true) => ?_) (fun (h74 : (((s.Transfers.getD (i_25 : Int).toNat default).Gen).Width != s.Width) = false) => ?_)
                    · skip
                      have g75 : ((s.Transfers.getD (i_25 : Int).toNat default).Gen).Width ≠ s.Width := ne_of_bne h74
                      refine JK_drawJ [0, 1, 0, 7, 15, 0, 63, 127, 255, 511, 1023, 511, 4095, 8191, 16383, 32767, 65535, 131071, 262143, 524287, 262143, 2097151, 4194303, 8388607, 16777215, 262143, 33816575, 134217727, 268435455, 536870911, 1073741823, 2147483647, 1073741823, 8589934591, 17179869183, 34359738367, 68719476735, 137438953471, 274877906943, 549755813887, 1099511627775, 549755813887, 4398046511103, 8796093022207, 17592186044415, 549755813887, 35734127902719, 140737488355327, 281474976710655] [] fmix ?_
                      refine JD_v [6] (wn rfl) rfl rfl (OpV.fieldAddr rfl rfl fo27_1 (i := 0) rfl (isPtr_pv _ _)) ?_
                      refine JD_v [6] (wn rfl) rfl rfl (OpV.loadF rfl rfl sh23 (i := 0) rfl (reads_pv _ _) rfl) ?_
                      refine JD_v [] (wn rfl) rfl rfl (OpV.move rfl rfl) ?_
                      refine JD_v [7] (wn rfl) rfl rfl (OpV.indexAddr (m := 0) rfl rfl rfl sl23 rfl (isSl_sl _ _) (by first | omega | (simp only [lens]; omega) | (simp only [lens] at *; omega))) ?_
                      refine JD_v [4] (wn rfl) rfl rfl (OpV.load rfl rfl sh22 (i := 0) rfl (reads_pv _ _) rfl) ?_
                      refine JD_v [] (wn rfl) rfl rfl (OpV.move rfl rfl) ?_
                      refine JD_x [5] [] (fun lG => .bool rv43) [⟨some 6, none, [], fun lG => SP.fact (True)⟩] (wn rfl) rfl rfl rfl (fun G => by refine OpX.n3 (A' := [sl (.slice a39 ((s.Deps.getD (i_25 : Int).toNat []).length) k40) ((s.Deps.getD (i_25 : Int).toNat []) : List Int)]) (V' := fun g => .bool rv43) (B' := fun g => [sl (.slice a39 ((s.Deps.getD (i_25 : Int).toNat []).length) k40) ((s.Deps.getD (i_25 : Int).toNat []) : List Int), SP.fact (True)]) (by kernel_rfl) (by kernel_rfl) (by kernel_rfl) ?_; refine OpX.postR (OpX.frame [0] rfl (OpX.ofC (fun _ => []) (fun _ => ()) (fun _ => rfl) (by intro _ _ h; cases h) (OpC.fn rfl ca37 rfl) (fn37 ((s.Deps.getD (i_25 : Int).toNat [])) a39 k40 (((s.Boundary.length : Nat) : Int)) (by (try dsimp only) <;> first | (unfold i64ok; omega) | omega | assumption) rv43 hg44))) (fun g => ?_); exact Ent.take (is := [1, 0]) rfl) ?_
                      refine JD_b h45 [] (wn rfl) rfl rfl (OpV.not rfl rfl) ?_
                      refine JD_v [] (wn rfl) rfl rfl (OpV.move rfl rfl) ?_
                      refine JD_v [6] (wt rfl rfl rfl rfl) rfl rfl (OpV.fieldAddr rfl rfl fo27_2 (i := 0) rfl (isPtr_pv _ _)) ?_
                      refine JD_v [6] (wt rfl rfl rfl rfl) rfl rfl (OpV.loadF rfl rfl sh24 (i := 0) rfl (reads_pv _ _) rfl) ?_
                      refine JD_v [] (wt rfl rfl rfl rfl) rfl rfl (OpV.move rfl rfl) ?_
                      refine JD_v [8] (wt rfl rfl rfl rfl) rfl rfl (OpV.indexAddr (m := 0) rfl rfl rfl sl24 rfl (isSl_sl _ _) (by first | omega | (simp only [lens]; omega) | (simp only [lens] at *; omega))) ?_
                      refine JD_v [0] (wt rfl rfl rfl rfl) rfl rfl (OpV.loadA rfl rfl sh54 (i := 0) rfl (reads_pv _ _) rfl) ?_
                      refine JD_x [1, 2, 3] [] (fun lG => .bool rv64) [⟨some 14, none, [], fun lG => SP.fact (True)⟩] (wt rfl rfl rfl rfl) rfl rfl rfl (fun G => by refine OpX.n3 (A' := [sl (.slice a53 ((((s.Transfers.getD (i_25 : Int).toNat default).Gen).Words).length) k54) (((s.Transfers.getD (i_25 : Int).toNat default).Gen).Words : List (BitVec 64)), sl (.slice a55 ((((s.Transfers.getD (i_25 : Int).toNat default).Kill).Words).length) k56) (((s.Transfers.getD (i_25 : Int).toNat default).Kill).Words : List (BitVec 64)), sl (.slice a57 (((s.Transfers.getD (i_25 : Int).toNat default).Copies).length) k58) ((s.Transfers.getD (i_25 : Int).toNat default).Copies : List GCopy)]) (V' := fun g => .bool rv64) (B' := fun g => [sl (.slice a53 ((((s.Transfers.getD (i_25 : Int).toNat default).Gen).Words).length) k54) (((s.Transfers.getD (i_25 : Int).toNat default).Gen).Words : List (BitVec 64)), sl (.slice a55 ((((s.Transfers.getD (i_25 : Int).toNat default).Kill).Words).length) k56) (((s.Transfers.getD (i_25 : Int).toNat default).Kill).Words : List (BitVec 64)), sl (.slice a57 (((s.Transfers.getD (i_25 : Int).toNat default).Copies).length) k58) ((s.Transfers.getD (i_25 : Int).toNat default).Copies : List GCopy), SP.fact (True)]) (by kernel_rfl) (by kernel_rfl) (by kernel_rfl) ?_; refine OpX.postR (OpX.frame [0, 1, 2] rfl (OpX.ofC (fun _ => []) (fun _ => ()) (fun _ => rfl) (by intro _ _ h; cases h) (OpC.fn rfl ca38 rfl) (fn38 ((s.Transfers.getD (i_25 : Int).toNat default)) a53 k54 a55 k56 a57 k58 (by (try dsimp only) <;> first | (unfold i64ok; omega) | omega | assumption) (by (try dsimp only) <;> first | (unfold i64ok; omega) | omega | assumption) rv64 hg65))) (fun g => ?_); exact Ent.take (is := [1, 2, 3, 0]) rfl) ?_
                      refine JD_b h66 [] (wt rfl rfl rfl rfl) rfl rfl (OpV.not rfl rfl) ?_
                      refine JD_v [] (wn rfl) rfl rfl (OpV.pickF rfl rfl rfl) ?_
                      refine JD_v [] (wn rfl) rfl rfl (OpV.move rfl rfl) ?_
                      refine JD_v [6] (wt rfl rfl rfl rfl) rfl rfl (OpV.fieldAddr rfl rfl fo27_2 (i := 0) rfl (isPtr_pv _ _)) ?_
                      refine JD_v [6] (wt rfl rfl rfl rfl) rfl rfl (OpV.loadF rfl rfl sh24 (i := 0) rfl (reads_pv _ _) rfl) ?_
                      refine JD_v [] (wt rfl rfl rfl rfl) rfl rfl (OpV.move rfl rfl) ?_
                      refine JD_v [8] (wt rfl rfl rfl rfl) rfl rfl (OpV.indexAddr (m := 0) rfl rfl rfl sl24 rfl (isSl_sl _ _) (by first | omega | (simp only [lens]; omega) | (simp only [lens] at *; omega))) ?_
                      refine JD_v [0] (wt rfl rfl rfl rfl) rfl rfl (OpV.fieldAddr rfl rfl fo54_0 (i := 0) rfl (isPtr_pv _ _)) ?_
                      refine JD_v [0] (wt rfl rfl rfl rfl) rfl rfl (OpV.fieldAddrF rfl rfl fo50_0 (i := 0) rfl (isPtr_pv _ _)) ?_
                      refine JD_v [0] (wt rfl rfl rfl rfl) rfl rfl (OpV.loadF rfl rfl sh3 (i := 0) rfl (reads_pv _ _) rfl) ?_
                      refine JD_v [6] (wt rfl rfl rfl rfl) rfl rfl (OpV.fieldAddr rfl rfl fo27_0 (i := 0) rfl (isPtr_pv _ _)) ?_
                      refine JD_v [6] (wt rfl rfl rfl rfl) rfl rfl (OpV.loadF rfl rfl sh3 (i := 0) rfl (reads_pv _ _) rfl) ?_
                      refine JD_b h74 [] (wt rfl rfl rfl rfl) rfl rfl (OpV.neq rfl rfl rfl) ?_
                      refine JD_v [] (wn rfl) rfl rfl (OpV.pickF rfl rfl rfl) ?_
                      refine JD_v [] (wn rfl) rfl rfl (OpV.move rfl rfl) ?_
                      refine JD_skip (ws rfl rfl rfl _ rfl rfl) rfl ?_
                      refine JD_skip (ws rfl rfl rfl _ rfl rfl) rfl ?_
                      refine JD_skip (ws rfl rfl rfl _ rfl rfl) rfl ?_
                      refine JD_skip (ws rfl rfl rfl _ rfl rfl) rfl ?_
                      refine JD_skip (ws rfl rfl rfl _ rfl rfl) rfl ?_
                      refine JD_skip (ws rfl rfl rfl _ rfl rfl) rfl ?_
                      refine JD_skip (ws rfl rfl rfl _ rfl rfl) rfl ?_
                      refine JD_v [] (wn rfl) rfl rfl (OpV.pickT rfl rfl rfl) ?_
                      refine JD_v [] (wn rfl) rfl rfl (OpV.move rfl rfl) ?_
                      refine JD_skip (ws rfl rfl rfl _ rfl rfl) rfl ?_
                      refine JD_skip (ws rfl rfl rfl _ rfl rfl) rfl ?_
                      refine JD_skip (ws rfl rfl rfl _ rfl rfl) rfl ?_
                      refine JD_skip (ws rfl rfl rfl _ rfl rfl) rfl ?_
                      refine JD_skip (ws rfl rfl rfl _ rfl rfl) rfl ?_
                      refine JD_skip (ws rfl rfl rfl _ rfl rfl) rfl ?_
                      refine JD_skip (ws rfl rfl rfl _ rfl rfl) rfl ?_
                      refine JD_skip (ws rfl rfl rfl _ rfl rfl) rfl ?_
                      refine JD_skip (ws rfl rfl rfl _ rfl rfl) rfl ?_
                      refine JD_v [] (wn rfl) rfl rfl (OpV.pickT rfl rfl rfl) ?_
                      refine JD_nil ⟨by kernel_rfl, fun G => ?_⟩
                      refine JJ_weaken (L' := [(1, p4), (3, .int .i64 ((s.Boundary.length : Nat) : Int)), (4, .int .i64 edges_24), (5, .int .i64 i_25), (92, .bool true)]) (A' := [pv (eptr 5 (.slice sa2 s.Transfers.length sk2) (i_25 : Int).toNat) [.int .i64 (((s.Transfers.getD (i_25 : Int).toNat default).Gen).Width), .slice a53 ((((s.Transfers.getD (i_25 : Int).toNat default).Gen).Words).length) k54, .int .i64 (((s.Transfers.getD (i_25 : Int).toNat default).Kill).Width), .slice a55 ((((s.Transfers.getD (i_25 : Int).toNat default).Kill).Words).length) k56, .slice a57 (((s.Transfers.getD (i_25 : Int).toNat default).Copies).length) k58], sl (.slice a53 ((((s.Transfers.getD (i_25 : Int).toNat default).Gen).Words).length) k54) (((s.Transfers.getD (i_25 : Int).toNat default).Gen).Words : List (BitVec 64)), sl (.slice a55 ((((s.Transfers.getD (i_25 : Int).toNat default).Kill).Words).length) k56) (((s.Transfers.getD (i_25 : Int).toNat default).Kill).Words : List (BitVec 64)), sl (.slice a57 (((s.Transfers.getD (i_25 : Int).toNat default).Copies).length) k58) ((s.Transfers.getD (i_25 : Int).toNat default).Copies : List GCopy), pv (eptr 1 (.slice sa1 s.Deps.length sk1) (i_25 : Int).toNat) [.slice a39 ((s.Deps.getD (i_25 : Int).toNat []).length) k40], sl (.slice a39 ((s.Deps.getD (i_25 : Int).toNat []).length) k40) ((s.Deps.getD (i_25 : Int).toNat []) : List Int), pv p4 [.int .i64 s.Width, .slice sa1 s.Deps.length sk1, .slice sa2 s.Transfers.length sk2, .slice sa3 s.Boundary.length sk3], sl (.slice sa1 s.Deps.length sk1) (s.Deps : List (List Int)), sl (.slice sa2 s.Transfers.length sk2) (s.Transfers : List GTransfer), sl (.slice sa3 s.Boundary.length sk3) (s.Boundary : List GSet), SP.fact (True), SP.fact (True)]) (Env.sub_all (by kernel_rfl)) (Ent.of_eq (by kernel_rfl)) ?_
                      refine JJ_keep [0, 1, 2, 3, 4, 5, 6, 7, 8, 9] rfl ?_
                      refine JK_condT rfl ?_
                      refine JK_seq ?_
                      refine JK_region ?_
                      refine JO_q rfl rfl rfl (OpV.assign rfl rfl) ?_
                      refine JO_nil ?_
                      have hR76 : flqref10_Valid_L0 s (((((s.Boundary.length : Nat) : Int) : Int) - 0).toNat) 0 0 = LR.ret false := by
                        rw [← hM26]; simp only [flqref10_Valid_L0, h5, h8, h11, h14, h17, h20, h36, h45, h51, h66, h72, h74, hg44, hg65, cs4]
                      have hq : rr = false := hrr.symm.trans (by simp only [flqref10_Valid, h5, h8, h11, h14, h17, h20, h36, h45, h51, h66, h72, h74, hg44, hg65, hR76, cs4])
                      replace hrr := hrr.trans hq
                      subst rr
                      refine JK_return (()) rfl (.tmp rfl .nil) rfl trivial (Ent.take (is := []) rfl)
                    · skip
                      have g77 : ((s.Transfers.getD (i_25 : Int).toNat default).Gen).Width = s.Width := eq_of_bne_false h74
                      refine JJ_peek_GSet (i_25 : Int).toNat 9 rfl (by omega) ?_
                      intro a78 k79 hb80
                      have hb80 : -9223372036854775808 ≤ (s.Boundary.getD (i_25 : Int).toNat default).Width ∧ (s.Boundary.getD (i_25 : Int).toNat default).Width ≤ 9223372036854775807 := hb80
                      refine JJ_fact 1 rfl sl_bytes ?_
                      intro hl81
                      have hl81 : ((s.Boundary.getD (i_25 : Int).toNat default).Words).length * 8 ≤ 140737488355328 := hl81
                      refine letv (flqref1_Valid (s.Boundary.getD (i_25 : Int).toNat default)) fun rv82 hg83 => ?_
                      refine bool_split ((!rv82)) (fun (h84 : (!rv82) = true) => ?_) (fun (h84 : (!rv82) = false) => ?_)
                      · skip
                        have h86 : rv82 = false := not_true h84
                        refine JK_drawJ [0, 1, 0, 7, 15, 0, 63, 127, 255, 511, 1023, 511, 4095, 8191, 16383, 32767, 65535, 131071, 262143, 524287, 262143, 2097151, 4194303, 8388607, 16777215, 262143, 33816575, 134217727, 268435455, 536870911, 1073741823, 2147483647, 1073741823, 8589934591, 17179869183, 34359738367, 68719476735, 137438953471, 274877906943, 549755813887, 1099511627775, 549755813887, 4398046511103, 8796093022207, 17592186044415, 549755813887, 35734127902719, 140737488355327, 281474976710655] [] fmix ?_
                        refine JD_v [8] (wn rfl) rfl rfl (OpV.fieldAddr rfl rfl fo27_1 (i := 0) rfl (isPtr_pv _ _)) ?_
                        refine JD_v [8] (wn rfl) rfl rfl (OpV.loadF rfl rfl sh23 (i := 0) rfl (reads_pv _ _) rfl) ?_
                        refine JD_v [] (wn rfl) rfl rfl (OpV.move rfl rfl) ?_
                        refine JD_v [9] (wn rfl) rfl rfl (OpV.indexAddr (m := 0) rfl rfl rfl sl23 rfl (isSl_sl _ _) (by first | omega | (simp only [lens]; omega) | (simp only [lens] at *; omega))) ?_
                        refine JD_v [6] (wn rfl) rfl rfl (OpV.load rfl rfl sh22 (i := 0) rfl (reads_pv _ _) rfl) ?_
                        refine JD_v [] (wn rfl) rfl rfl (OpV.move rfl rfl) ?_
                        refine JD_x [7] [] (fun lG => .bool rv43) [⟨some 6, none, [], fun lG => SP.fact (True)⟩] (wn rfl) rfl rfl rfl (fun G => by refine OpX.n3 (A' := [sl (.slice a39 ((s.Deps.getD (i_25 : Int).toNat []).length) k40) ((s.Deps.getD (i_25 : Int).toNat []) : List Int)]) (V' := fun g => .bool rv43) (B' := fun g => [sl (.slice a39 ((s.Deps.getD (i_25 : Int).toNat []).length) k40) ((s.Deps.getD (i_25 : Int).toNat []) : List Int), SP.fact (True)]) (by kernel_rfl) (by kernel_rfl) (by kernel_rfl) ?_; refine OpX.postR (OpX.frame [0] rfl (OpX.ofC (fun _ => []) (fun _ => ()) (fun _ => rfl) (by intro _ _ h; cases h) (OpC.fn rfl ca37 rfl) (fn37 ((s.Deps.getD (i_25 : Int).toNat [])) a39 k40 (((s.Boundary.length : Nat) : Int)) (by (try dsimp only) <;> first | (unfold i64ok; omega) | omega | assumption) rv43 hg44))) (fun g => ?_); exact Ent.take (is := [1, 0]) rfl) ?_
                        refine JD_b h45 [] (wn rfl) rfl rfl (OpV.not rfl rfl) ?_
                        refine JD_v [] (wn rfl) rfl rfl (OpV.move rfl rfl) ?_
                        refine JD_v [8] (wt rfl rfl rfl rfl) rfl rfl (OpV.fieldAddr rfl rfl fo27_2 (i := 0) rfl (isPtr_pv _ _)) ?_
                        refine JD_v [8] (wt rfl rfl rfl rfl) rfl rfl (OpV.loadF rfl rfl sh24 (i := 0) rfl (reads_pv _ _) rfl) ?_
                        refine JD_v [] (wt rfl rfl rfl rfl) rfl rfl (OpV.move rfl rfl) ?_
                        refine JD_v [10] (wt rfl rfl rfl rfl) rfl rfl (OpV.indexAddr (m := 0) rfl rfl rfl sl24 rfl (isSl_sl _ _) (by first | omega | (simp only [lens]; omega) | (simp only [lens] at *; omega))) ?_
                        refine JD_v [2] (wt rfl rfl rfl rfl) rfl rfl (OpV.loadA rfl rfl sh54 (i := 0) rfl (reads_pv _ _) rfl) ?_
                        refine JD_x [3, 4, 5] [] (fun lG => .bool rv64) [⟨some 14, none, [], fun lG => SP.fact (True)⟩] (wt rfl rfl rfl rfl) rfl rfl rfl (fun G => by refine OpX.n3 (A' := [sl (.slice a53 ((((s.Transfers.getD (i_25 : Int).toNat default).Gen).Words).length) k54) (((s.Transfers.getD (i_25 : Int).toNat default).Gen).Words : List (BitVec 64)), sl (.slice a55 ((((s.Transfers.getD (i_25 : Int).toNat default).Kill).Words).length) k56) (((s.Transfers.getD (i_25 : Int).toNat default).Kill).Words : List (BitVec 64)), sl (.slice a57 (((s.Transfers.getD (i_25 : Int).toNat default).Copies).length) k58) ((s.Transfers.getD (i_25 : Int).toNat default).Copies : List GCopy)]) (V' := fun g => .bool rv64) (B' := fun g => [sl (.slice a53 ((((s.Transfers.getD (i_25 : Int).toNat default).Gen).Words).length) k54) (((s.Transfers.getD (i_25 : Int).toNat default).Gen).Words : List (BitVec 64)), sl (.slice a55 ((((s.Transfers.getD (i_25 : Int).toNat default).Kill).Words).length) k56) (((s.Transfers.getD (i_25 : Int).toNat default).Kill).Words : List (BitVec 64)), sl (.slice a57 (((s.Transfers.getD (i_25 : Int).toNat default).Copies).length) k58) ((s.Transfers.getD (i_25 : Int).toNat default).Copies : List GCopy), SP.fact (True)]) (by kernel_rfl) (by kernel_rfl) (by kernel_rfl) ?_; refine OpX.postR (OpX.frame [0, 1, 2] rfl (OpX.ofC (fun _ => []) (fun _ => ()) (fun _ => rfl) (by intro _ _ h; cases h) (OpC.fn rfl ca38 rfl) (fn38 ((s.Transfers.getD (i_25 : Int).toNat default)) a53 k54 a55 k56 a57 k58 (by (try dsimp only) <;> first | (unfold i64ok; omega) | omega | assumption) (by (try dsimp only) <;> first | (unfold i64ok; omega) | omega | assumption) rv64 hg65))) (fun g => ?_); exact Ent.take (is := [1, 2, 3, 0]) rfl) ?_
                        refine JD_b h66 [] (wt rfl rfl rfl rfl) rfl rfl (OpV.not rfl rfl) ?_
                        refine JD_v [] (wn rfl) rfl rfl (OpV.pickF rfl rfl rfl) ?_
                        refine JD_v [] (wn rfl) rfl rfl (OpV.move rfl rfl) ?_
                        refine JD_v [8] (wt rfl rfl rfl rfl) rfl rfl (OpV.fieldAddr rfl rfl fo27_2 (i := 0) rfl (isPtr_pv _ _)) ?_
                        refine JD_v [8] (wt rfl rfl rfl rfl) rfl rfl (OpV.loadF rfl rfl sh24 (i := 0) rfl (reads_pv _ _) rfl) ?_
                        refine JD_v [] (wt rfl rfl rfl rfl) rfl rfl (OpV.move rfl rfl) ?_
                        refine JD_v [10] (wt rfl rfl rfl rfl) rfl rfl (OpV.indexAddr (m := 0) rfl rfl rfl sl24 rfl (isSl_sl _ _) (by first | omega | (simp only [lens]; omega) | (simp only [lens] at *; omega))) ?_
                        refine JD_v [2] (wt rfl rfl rfl rfl) rfl rfl (OpV.fieldAddr rfl rfl fo54_0 (i := 0) rfl (isPtr_pv _ _)) ?_
                        refine JD_v [2] (wt rfl rfl rfl rfl) rfl rfl (OpV.fieldAddrF rfl rfl fo50_0 (i := 0) rfl (isPtr_pv _ _)) ?_
                        refine JD_v [2] (wt rfl rfl rfl rfl) rfl rfl (OpV.loadF rfl rfl sh3 (i := 0) rfl (reads_pv _ _) rfl) ?_
                        refine JD_v [8] (wt rfl rfl rfl rfl) rfl rfl (OpV.fieldAddr rfl rfl fo27_0 (i := 0) rfl (isPtr_pv _ _)) ?_
                        refine JD_v [8] (wt rfl rfl rfl rfl) rfl rfl (OpV.loadF rfl rfl sh3 (i := 0) rfl (reads_pv _ _) rfl) ?_
                        refine JD_b h74 [] (wt rfl rfl rfl rfl) rfl rfl (OpV.neq rfl rfl rfl) ?_
                        refine JD_v [] (wn rfl) rfl rfl (OpV.pickF rfl rfl rfl) ?_
                        refine JD_v [] (wn rfl) rfl rfl (OpV.move rfl rfl) ?_
                        refine JD_v [8] (wt rfl rfl rfl rfl) rfl rfl (OpV.fieldAddr rfl rfl fo27_3 (i := 0) rfl (isPtr_pv _ _)) ?_
                        refine JD_v [8] (wt rfl rfl rfl rfl) rfl rfl (OpV.loadF rfl rfl sh25 (i := 0) rfl (reads_pv _ _) rfl) ?_
                        refine JD_v [] (wt rfl rfl rfl rfl) rfl rfl (OpV.move rfl rfl) ?_
                        refine JD_v [11] (wt rfl rfl rfl rfl) rfl rfl (OpV.indexAddr (m := 0) rfl rfl rfl sl25 rfl (isSl_sl _ _) (by first | omega | (simp only [lens]; omega) | (simp only [lens] at *; omega))) ?_
                        refine JD_v [0] (wt rfl rfl rfl rfl) rfl rfl (OpV.loadA rfl rfl sh50 (i := 0) rfl (reads_pv _ _) rfl) ?_
                        refine JD_x [1] [] (fun lG => .bool rv82) [⟨some 35, none, [], fun lG => SP.fact (True)⟩] (wt rfl rfl rfl rfl) rfl rfl rfl (fun G => by refine OpX.n3 (A' := [sl (.slice a78 (((s.Boundary.getD (i_25 : Int).toNat default).Words).length) k79) ((s.Boundary.getD (i_25 : Int).toNat default).Words : List (BitVec 64))]) (V' := fun g => .bool rv82) (B' := fun g => [sl (.slice a78 (((s.Boundary.getD (i_25 : Int).toNat default).Words).length) k79) ((s.Boundary.getD (i_25 : Int).toNat default).Words : List (BitVec 64)), SP.fact (True)]) (by kernel_rfl) (by kernel_rfl) (by kernel_rfl) ?_; refine OpX.postR (OpX.frame [0] rfl (OpX.ofC (fun _ => []) (fun _ => ()) (fun _ => rfl) (by intro _ _ h; cases h) (OpC.fn rfl ca39 rfl) (fn39 ((s.Boundary.getD (i_25 : Int).toNat default)) a78 k79 (by (try dsimp only) <;> first | (unfold i64ok; omega) | omega | assumption) rv82 hg83))) (fun g => ?_); exact Ent.take (is := [1, 0]) rfl) ?_
                        refine JD_b h84 [] (wt rfl rfl rfl rfl) rfl rfl (OpV.not rfl rfl) ?_
                        refine JD_v [] (wn rfl) rfl rfl (OpV.pickF rfl rfl rfl) ?_
                        refine JD_v [] (wn rfl) rfl rfl (OpV.move rfl rfl) ?_
                        refine JD_skip (ws rfl rfl rfl _ rfl rfl) rfl ?_
                        refine JD_skip (ws rfl rfl rfl _ rfl rfl) rfl ?_
                        refine JD_skip (ws rfl rfl rfl _ rfl rfl) rfl ?_
                        refine JD_skip (ws rfl rfl rfl _ rfl rfl) rfl ?_
                        refine JD_skip (ws rfl rfl rfl _ rfl rfl) rfl ?_
                        refine JD_skip (ws rfl rfl rfl _ rfl rfl) rfl ?_
                        refine JD_skip (ws rfl rfl rfl _ rfl rfl) rfl ?_
                        refine JD_skip (ws rfl rfl rfl _ rfl rfl) rfl ?_
                        refine JD_skip (ws rfl rfl rfl _ rfl rfl) rfl ?_
                        refine JD_v [] (wn rfl) rfl rfl (OpV.pickT rfl rfl rfl) ?_
                        refine JD_nil ⟨by kernel_rfl, fun G => ?_⟩
                        refine JJ_weaken (L' := [(1, p4), (3, .int .i64 ((s.Boundary.length : Nat) : Int)), (4, .int .i64 edges_24), (5, .int .i64 i_25), (92, .bool true)]) (A' := [pv (eptr 2 (.slice sa3 s.Boundary.length sk3) (i_25 : Int).toNat) [.int .i64 ((s.Boundary.getD (i_25 : Int).toNat default).Width), .slice a78 (((s.Boundary.getD (i_25 : Int).toNat default).Words).length) k79], sl (.slice a78 (((s.Boundary.getD (i_25 : Int).toNat default).Words).length) k79) ((s.Boundary.getD (i_25 : Int).toNat default).Words : List (BitVec 64)), pv (eptr 5 (.slice sa2 s.Transfers.length sk2) (i_25 : Int).toNat) [.int .i64 (((s.Transfers.getD (i_25 : Int).toNat default).Gen).Width), .slice a53 ((((s.Transfers.getD (i_25 : Int).toNat default).Gen).Words).length) k54, .int .i64 (((s.Transfers.getD (i_25 : Int).toNat default).Kill).Width), .slice a55 ((((s.Transfers.getD (i_25 : Int).toNat default).Kill).Words).length) k56, .slice a57 (((s.Transfers.getD (i_25 : Int).toNat default).Copies).length) k58], sl (.slice a53 ((((s.Transfers.getD (i_25 : Int).toNat default).Gen).Words).length) k54) (((s.Transfers.getD (i_25 : Int).toNat default).Gen).Words : List (BitVec 64)), sl (.slice a55 ((((s.Transfers.getD (i_25 : Int).toNat default).Kill).Words).length) k56) (((s.Transfers.getD (i_25 : Int).toNat default).Kill).Words : List (BitVec 64)), sl (.slice a57 (((s.Transfers.getD (i_25 : Int).toNat default).Copies).length) k58) ((s.Transfers.getD (i_25 : Int).toNat default).Copies : List GCopy), pv (eptr 1 (.slice sa1 s.Deps.length sk1) (i_25 : Int).toNat) [.slice a39 ((s.Deps.getD (i_25 : Int).toNat []).length) k40], sl (.slice a39 ((s.Deps.getD (i_25 : Int).toNat []).length) k40) ((s.Deps.getD (i_25 : Int).toNat []) : List Int), pv p4 [.int .i64 s.Width, .slice sa1 s.Deps.length sk1, .slice sa2 s.Transfers.length sk2, .slice sa3 s.Boundary.length sk3], sl (.slice sa1 s.Deps.length sk1) (s.Deps : List (List Int)), sl (.slice sa2 s.Transfers.length sk2) (s.Transfers : List GTransfer), sl (.slice sa3 s.Boundary.length sk3) (s.Boundary : List GSet), SP.fact (True), SP.fact (True), SP.fact (True)]) (Env.sub_all (by kernel_rfl)) (Ent.of_eq (by kernel_rfl)) ?_
                        refine JJ_keep [0, 1, 2, 3, 4, 5, 6, 7, 8, 9, 10, 11] rfl ?_
                        refine JK_condT rfl ?_
                        refine JK_seq ?_
                        refine JK_region ?_
                        refine JO_q rfl rfl rfl (OpV.assign rfl rfl) ?_
                        refine JO_nil ?_
                        have hR88 : flqref10_Valid_L0 s (((((s.Boundary.length : Nat) : Int) : Int) - 0).toNat) 0 0 = LR.ret false := by
                          rw [← hM26]; simp only [flqref10_Valid_L0, h5, h8, h11, h14, h17, h20, h36, h45, h51, h66, h72, h74, h84, h86, hg44, hg65, hg83, cs4]
                        have hq : rr = false := hrr.symm.trans (by simp only [flqref10_Valid, h5, h8, h11, h14, h17, h20, h36, h45, h51, h66, h72, h74, h84, h86, hg44, hg65, hg83, hR88, cs4])
                        replace hrr := hrr.trans hq
                        subst rr
                        refine JK_return (()) rfl (.tmp rfl .nil) rfl trivial (Ent.take (is := []) rfl)
                      · skip
                        have h90 : rv82 = true := not_false h84
                        refine JK_drawJ [0, 1, 0, 7, 15, 0, 63, 127, 255, 511, 1023, 511, 4095, 8191, 16383, 32767, 65535, 131071, 262143, 524287, 262143, 2097151, 4194303, 8388607, 16777215, 262143, 33816575, 134217727, 268435455, 536870911, 1073741823, 2147483647, 1073741823, 8589934591, 17179869183, 34359738367, 68719476735, 137438953471, 274877906943, 549755813887, 1099511627775, 549755813887, 4398046511103, 8796093022207, 17592186044415, 549755813887, 35734127902719, 140737488355327, 281474976710655] [] fmix ?_
                        refine JD_v [8] (wn rfl) rfl rfl (OpV.fieldAddr rfl rfl fo27_1 (i := 0) rfl (isPtr_pv _ _)) ?_
                        refine JD_v [8] (wn rfl) rfl rfl (OpV.loadF rfl rfl sh23 (i := 0) rfl (reads_pv _ _) rfl) ?_
                        refine JD_v [] (wn rfl) rfl rfl (OpV.move rfl rfl) ?_
                        refine JD_v [9] (wn rfl) rfl rfl (OpV.indexAddr (m := 0) rfl rfl rfl sl23 rfl (isSl_sl _ _) (by first | omega | (simp only [lens]; omega) | (simp only [lens] at *; omega))) ?_
                        refine JD_v [6] (wn rfl) rfl rfl (OpV.load rfl rfl sh22 (i := 0) rfl (reads_pv _ _) rfl) ?_
                        refine JD_v [] (wn rfl) rfl rfl (OpV.move rfl rfl) ?_
                        refine JD_x [7] [] (fun lG => .bool rv43) [⟨some 6, none, [], fun lG => SP.fact (True)⟩] (wn rfl) rfl rfl rfl (fun G => by refine OpX.n3 (A' := [sl (.slice a39 ((s.Deps.getD (i_25 : Int).toNat []).length) k40) ((s.Deps.getD (i_25 : Int).toNat []) : List Int)]) (V' := fun g => .bool rv43) (B' := fun g => [sl (.slice a39 ((s.Deps.getD (i_25 : Int).toNat []).length) k40) ((s.Deps.getD (i_25 : Int).toNat []) : List Int), SP.fact (True)]) (by kernel_rfl) (by kernel_rfl) (by kernel_rfl) ?_; refine OpX.postR (OpX.frame [0] rfl (OpX.ofC (fun _ => []) (fun _ => ()) (fun _ => rfl) (by intro _ _ h; cases h) (OpC.fn rfl ca37 rfl) (fn37 ((s.Deps.getD (i_25 : Int).toNat [])) a39 k40 (((s.Boundary.length : Nat) : Int)) (by (try dsimp only) <;> first | (unfold i64ok; omega) | omega | assumption) rv43 hg44))) (fun g => ?_); exact Ent.take (is := [1, 0]) rfl) ?_
                        refine JD_b h45 [] (wn rfl) rfl rfl (OpV.not rfl rfl) ?_
                        refine JD_v [] (wn rfl) rfl rfl (OpV.move rfl rfl) ?_
                        refine JD_v [8] (wt rfl rfl rfl rfl) rfl rfl (OpV.fieldAddr rfl rfl fo27_2 (i := 0) rfl (isPtr_pv _ _)) ?_
                        refine JD_v [8] (wt rfl rfl rfl rfl) rfl rfl (OpV.loadF rfl rfl sh24 (i := 0) rfl (reads_pv _ _) rfl) ?_
                        refine JD_v [] (wt rfl rfl rfl rfl) rfl rfl (OpV.move rfl rfl) ?_
                        refine JD_v [10] (wt rfl rfl rfl rfl) rfl rfl (OpV.indexAddr (m := 0) rfl rfl rfl sl24 rfl (isSl_sl _ _) (by first | omega | (simp only [lens]; omega) | (simp only [lens] at *; omega))) ?_
                        refine JD_v [2] (wt rfl rfl rfl rfl) rfl rfl (OpV.loadA rfl rfl sh54 (i := 0) rfl (reads_pv _ _) rfl) ?_
                        refine JD_x [3, 4, 5] [] (fun lG => .bool rv64) [⟨some 14, none, [], fun lG => SP.fact (True)⟩] (wt rfl rfl rfl rfl) rfl rfl rfl (fun G => by refine OpX.n3 (A' := [sl (.slice a53 ((((s.Transfers.getD (i_25 : Int).toNat default).Gen).Words).length) k54) (((s.Transfers.getD (i_25 : Int).toNat default).Gen).Words : List (BitVec 64)), sl (.slice a55 ((((s.Transfers.getD (i_25 : Int).toNat default).Kill).Words).length) k56) (((s.Transfers.getD (i_25 : Int).toNat default).Kill).Words : List (BitVec 64)), sl (.slice a57 (((s.Transfers.getD (i_25 : Int).toNat default).Copies).length) k58) ((s.Transfers.getD (i_25 : Int).toNat default).Copies : List GCopy)]) (V' := fun g => .bool rv64) (B' := fun g => [sl (.slice a53 ((((s.Transfers.getD (i_25 : Int).toNat default).Gen).Words).length) k54) (((s.Transfers.getD (i_25 : Int).toNat default).Gen).Words : List (BitVec 64)), sl (.slice a55 ((((s.Transfers.getD (i_25 : Int).toNat default).Kill).Words).length) k56) (((s.Transfers.getD (i_25 : Int).toNat default).Kill).Words : List (BitVec 64)), sl (.slice a57 (((s.Transfers.getD (i_25 : Int).toNat default).Copies).length) k58) ((s.Transfers.getD (i_25 : Int).toNat default).Copies : List GCopy), SP.fact (True)]) (by kernel_rfl) (by kernel_rfl) (by kernel_rfl) ?_; refine OpX.postR (OpX.frame [0, 1, 2] rfl (OpX.ofC (fun _ => []) (fun _ => ()) (fun _ => rfl) (by intro _ _ h; cases h) (OpC.fn rfl ca38 rfl) (fn38 ((s.Transfers.getD (i_25 : Int).toNat default)) a53 k54 a55 k56 a57 k58 (by (try dsimp only) <;> first | (unfold i64ok; omega) | omega | assumption) (by (try dsimp only) <;> first | (unfold i64ok; omega) | omega | assumption) rv64 hg65))) (fun g => ?_); exact Ent.take (is := [1, 2, 3, 0]) rfl) ?_
                        refine JD_b h66 [] (wt rfl rfl rfl rfl) rfl rfl (OpV.not rfl rfl) ?_
                        refine JD_v [] (wn rfl) rfl rfl (OpV.pickF rfl rfl rfl) ?_
                        refine JD_v [] (wn rfl) rfl rfl (OpV.move rfl rfl) ?_
                        refine JD_v [8] (wt rfl rfl rfl rfl) rfl rfl (OpV.fieldAddr rfl rfl fo27_2 (i := 0) rfl (isPtr_pv _ _)) ?_
                        refine JD_v [8] (wt rfl rfl rfl rfl) rfl rfl (OpV.loadF rfl rfl sh24 (i := 0) rfl (reads_pv _ _) rfl) ?_
                        refine JD_v [] (wt rfl rfl rfl rfl) rfl rfl (OpV.move rfl rfl) ?_
                        refine JD_v [10] (wt rfl rfl rfl rfl) rfl rfl (OpV.indexAddr (m := 0) rfl rfl rfl sl24 rfl (isSl_sl _ _) (by first | omega | (simp only [lens]; omega) | (simp only [lens] at *; omega))) ?_
                        refine JD_v [2] (wt rfl rfl rfl rfl) rfl rfl (OpV.fieldAddr rfl rfl fo54_0 (i := 0) rfl (isPtr_pv _ _)) ?_
                        refine JD_v [2] (wt rfl rfl rfl rfl) rfl rfl (OpV.fieldAddrF rfl rfl fo50_0 (i := 0) rfl (isPtr_pv _ _)) ?_
                        refine JD_v [2] (wt rfl rfl rfl rfl) rfl rfl (OpV.loadF rfl rfl sh3 (i := 0) rfl (reads_pv _ _) rfl) ?_
                        refine JD_v [8] (wt rfl rfl rfl rfl) rfl rfl (OpV.fieldAddr rfl rfl fo27_0 (i := 0) rfl (isPtr_pv _ _)) ?_
                        refine JD_v [8] (wt rfl rfl rfl rfl) rfl rfl (OpV.loadF rfl rfl sh3 (i := 0) rfl (reads_pv _ _) rfl) ?_
                        refine JD_b h74 [] (wt rfl rfl rfl rfl) rfl rfl (OpV.neq rfl rfl rfl) ?_
                        refine JD_v [] (wn rfl) rfl rfl (OpV.pickF rfl rfl rfl) ?_
                        refine JD_v [] (wn rfl) rfl rfl (OpV.move rfl rfl) ?_
                        refine JD_v [8] (wt rfl rfl rfl rfl) rfl rfl (OpV.fieldAddr rfl rfl fo27_3 (i := 0) rfl (isPtr_pv _ _)) ?_
                        refine JD_v [8] (wt rfl rfl rfl rfl) rfl rfl (OpV.loadF rfl rfl sh25 (i := 0) rfl (reads_pv _ _) rfl) ?_
                        refine JD_v [] (wt rfl rfl rfl rfl) rfl rfl (OpV.move rfl rfl) ?_
                        refine JD_v [11] (wt rfl rfl rfl rfl) rfl rfl (OpV.indexAddr (m := 0) rfl rfl rfl sl25 rfl (isSl_sl _ _) (by first | omega | (simp only [lens]; omega) | (simp only [lens] at *; omega))) ?_
                        refine JD_v [0] (wt rfl rfl rfl rfl) rfl rfl (OpV.loadA rfl rfl sh50 (i := 0) rfl (reads_pv _ _) rfl) ?_
                        refine JD_x [1] [] (fun lG => .bool rv82) [⟨some 35, none, [], fun lG => SP.fact (True)⟩] (wt rfl rfl rfl rfl) rfl rfl rfl (fun G => by refine OpX.n3 (A' := [sl (.slice a78 (((s.Boundary.getD (i_25 : Int).toNat default).Words).length) k79) ((s.Boundary.getD (i_25 : Int).toNat default).Words : List (BitVec 64))]) (V' := fun g => .bool rv82) (B' := fun g => [sl (.slice a78 (((s.Boundary.getD (i_25 : Int).toNat default).Words).length) k79) ((s.Boundary.getD (i_25 : Int).toNat default).Words : List (BitVec 64)), SP.fact (True)]) (by kernel_rfl) (by kernel_rfl) (by kernel_rfl) ?_; refine OpX.postR (OpX.frame [0] rfl (OpX.ofC (fun _ => []) (fun _ => ()) (fun _ => rfl) (by intro _ _ h; cases h) (OpC.fn rfl ca39 rfl) (fn39 ((s.Boundary.getD (i_25 : Int).toNat default)) a78 k79 (by (try dsimp only) <;> first | (unfold i64ok; omega) | omega | assumption) rv82 hg83))) (fun g => ?_); exact Ent.take (is := [1, 0]) rfl) ?_
                        refine JD_b h84 [] (wt rfl rfl rfl rfl) rfl rfl (OpV.not rfl rfl) ?_
                        refine JD_v [] (wn rfl) rfl rfl (OpV.pickF rfl rfl rfl) ?_
                        refine JD_v [] (wn rfl) rfl rfl (OpV.move rfl rfl) ?_
                        refine JD_v [8] (wt rfl rfl rfl rfl) rfl rfl (OpV.fieldAddr rfl rfl fo27_3 (i := 0) rfl (isPtr_pv _ _)) ?_
                        refine JD_v [8] (wt rfl rfl rfl rfl) rfl rfl (OpV.loadF rfl rfl sh25 (i := 0) rfl (reads_pv _ _) rfl) ?_
                        refine JD_v [] (wt rfl rfl rfl rfl) rfl rfl (OpV.move rfl rfl) ?_
                        refine JD_v [11] (wt rfl rfl rfl rfl) rfl rfl (OpV.indexAddr (m := 0) rfl rfl rfl sl25 rfl (isSl_sl _ _) (by first | omega | (simp only [lens]; omega) | (simp only [lens] at *; omega))) ?_
                        refine JD_v [0] (wt rfl rfl rfl rfl) rfl rfl (OpV.fieldAddr rfl rfl fo50_0 (i := 0) rfl (isPtr_pv _ _)) ?_
                        refine JD_v [0] (wt rfl rfl rfl rfl) rfl rfl (OpV.loadF rfl rfl sh3 (i := 0) rfl (reads_pv _ _) rfl) ?_
                        refine JD_v [8] (wt rfl rfl rfl rfl) rfl rfl (OpV.fieldAddr rfl rfl fo27_0 (i := 0) rfl (isPtr_pv _ _)) ?_
                        refine JD_v [8] (wt rfl rfl rfl rfl) rfl rfl (OpV.loadF rfl rfl sh3 (i := 0) rfl (reads_pv _ _) rfl) ?_
                        refine JD_v [] (wt rfl rfl rfl rfl) rfl rfl (OpV.neq rfl rfl rfl) ?_
                        refine JD_v [] (wn rfl) rfl rfl (OpV.pickF rfl rfl rfl) ?_
                        refine JD_nil ⟨by kernel_rfl, fun G => ?_⟩
                        refine JJ_weaken (L' := [(1, p4), (3, .int .i64 ((s.Boundary.length : Nat) : Int)), (4, .int .i64 edges_24), (5, .int .i64 i_25), (92, .bool ((s.Boundary.getD (i_25 : Int).toNat default).Width != s.Width))]) (A' := [pv (eptr 2 (.slice sa3 s.Boundary.length sk3) (i_25 : Int).toNat) [.int .i64 ((s.Boundary.getD (i_25 : Int).toNat default).Width), .slice a78 (((s.Boundary.getD (i_25 : Int).toNat default).Words).length) k79], sl (.slice a78 (((s.Boundary.getD (i_25 : Int).toNat default).Words).length) k79) ((s.Boundary.getD (i_25 : Int).toNat default).Words : List (BitVec 64)), pv (eptr 5 (.slice sa2 s.Transfers.length sk2) (i_25 : Int).toNat) [.int .i64 (((s.Transfers.getD (i_25 : Int).toNat default).Gen).Width), .slice a53 ((((s.Transfers.getD (i_25 : Int).toNat default).Gen).Words).length) k54, .int .i64 (((s.Transfers.getD (i_25 : Int).toNat default).Kill).Width), .slice a55 ((((s.Transfers.getD (i_25 : Int).toNat default).Kill).Words).length) k56, .slice a57 (((s.Transfers.getD (i_25 : Int).toNat default).Copies).length) k58], sl (.slice a53 ((((s.Transfers.getD (i_25 : Int).toNat default).Gen).Words).length) k54) (((s.Transfers.getD (i_25 : Int).toNat default).Gen).Words : List (BitVec 64)), sl (.slice a55 ((((s.Transfers.getD (i_25 : Int).toNat default).Kill).Words).length) k56) (((s.Transfers.getD (i_25 : Int).toNat default).Kill).Words : List (BitVec 64)), sl (.slice a57 (((s.Transfers.getD (i_25 : Int).toNat default).Copies).length) k58) ((s.Transfers.getD (i_25 : Int).toNat default).Copies : List GCopy), pv (eptr 1 (.slice sa1 s.Deps.length sk1) (i_25 : Int).toNat) [.slice a39 ((s.Deps.getD (i_25 : Int).toNat []).length) k40], sl (.slice a39 ((s.Deps.getD (i_25 : Int).toNat []).length) k40) ((s.Deps.getD (i_25 : Int).toNat []) : List Int), pv p4 [.int .i64 s.Width, .slice sa1 s.Deps.length sk1, .slice sa2 s.Transfers.length sk2, .slice sa3 s.Boundary.length sk3], sl (.slice sa1 s.Deps.length sk1) (s.Deps : List (List Int)), sl (.slice sa2 s.Transfers.length sk2) (s.Transfers : List GTransfer), sl (.slice sa3 s.Boundary.length sk3) (s.Boundary : List GSet), SP.fact (True), SP.fact (True), SP.fact (True)]) (Env.sub_all (by kernel_rfl)) (Ent.of_eq (by kernel_rfl)) ?_
                        refine JJ_keep [0, 1, 2, 3, 4, 5, 6, 7, 8, 9, 10, 11] rfl ?_
                        refine JK_cond (b := ((s.Boundary.getD (i_25 : Int).toNat default).Width != s.Width)) rfl (fun (h92 : ((s.Boundary.getD (i_25 : Int).toNat default).Width != s.Width) = true) => ?_) (fun (h92 : ((s.Boundary.getD (i_25 : Int).toNat default).Width != s.Width) = false) => ?_)
                        · skip
                          have g93 : (s.Boundary.getD (i_25 : Int).toNat default).Width ≠ s.Width := ne_of_bne h92
                          refine JK_seq ?_
                          refine JK_region ?_
                          refine JO_q rfl rfl rfl (OpV.assign rfl rfl) ?_
                          refine JO_nil ?_
                          have hR94 : flqref10_Valid_L0 s (((((s.Boundary.length : Nat) : Int) : Int) - 0).toNat) 0 0 = LR.ret false := by
                            rw [← hM26]; simp only [flqref10_Valid_L0, h5, h8, h11, h14, h17, h20, h36, h45, h51, h66, h72, h74, h84, h90, h92, hg44, hg65, hg83, cs4]
                          have hq : rr = false := hrr.symm.trans (by simp only [flqref10_Valid, h5, h8, h11, h14, h17, h20, h36, h45, h51, h66, h72, h74, h84, h90, h92, hg44, hg65, hg83, hR94, cs4])
                          replace hrr := hrr.trans hq
                          subst rr
                          refine JK_return (()) rfl (.tmp rfl .nil) rfl trivial (Ent.take (is := []) rfl)
                        · skip
                          have g95 : (s.Boundary.getD (i_25 : Int).toNat default).Width = s.Width := eq_of_bne_false h92
                          refine JK_skip ?_
                          refine JK_region ?_
                          refine JO_q rfl rfl rfl (OpV.move rfl rfl) ?_
                          refine JO_q rfl rfl rfl (OpV.fieldAddr rfl rfl fo27_1 (i := 8) rfl (isPtr_pv _ _)) ?_
                          refine JO_q rfl rfl rfl (OpV.loadF rfl rfl sh23 (i := 8) rfl (reads_pv _ _) rfl) ?_
                          refine JO_q rfl rfl rfl (OpV.move rfl rfl) ?_
                          refine JO_q rfl rfl rfl (OpV.indexAddr (m := 9) rfl rfl rfl sl23 rfl (isSl_sl _ _) (by first | omega | (simp only [lens]; omega) | (simp only [lens] at *; omega))) ?_
                          refine JO_q rfl rfl rfl (OpV.load rfl rfl sh22 (i := 6) rfl (reads_pv _ _) rfl) ?_
                          refine JO_q rfl rfl rfl (OpV.len rfl rfl sl22) ?_
                          refine JO_q rfl rfl rfl (OpV.add rfl rfl rfl (by unfold i64ok; omega)) ?_
                          refine JO_q rfl rfl rfl (OpV.assign rfl rfl) ?_
                          refine JO_nil ?_
                          refine JK_blk ?_
                          refine JK_region ?_
                          refine JO_q rfl rfl rfl (OpV.move rfl rfl) ?_
                          refine JO_q rfl rfl rfl (OpV.add rfl rfl rfl (by unfold i64ok; omega)) ?_
                          refine JO_q rfl rfl rfl (OpV.assign rfl rfl) ?_
                          refine JO_nil ?_
                          refine JK_goal (r38, (edges_24 + (((s.Deps.getD (i_25 : Int).toNat []).length : Nat) : Int)), (i_25 + 1)) ⟨(by rw [← hM26]; simp only [flqref10_Valid_L0, h5, h8, h11, h14, h17, h20, h36, h45, h51, h66, h72, h74, h84, h90, h92, hg44, hg65, hg83, cs4]), (by omega), (by omega), (by omega), (by omega), (by omega), (by first | omega | (simp only [lens]; omega) | assumption)⟩ (by show r38 < r38 + 1; omega) (Env.sub_all rfl) (Ent.take (is := [8, 9, 10, 11]) rfl)
              · skip
                have g96 : ¬ (i_25 < ((s.Boundary.length : Nat) : Int)) := of_decide_eq_false h36
                obtain rfl : r23 = 0 := by omega
                refine JK_exit rfl ?_
                have hR97 : flqref10_Valid_L0 s (((((s.Boundary.length : Nat) : Int) : Int) - 0).toNat) 0 0 = LR.brk edges_24 := by
                  rw [← hM26]; simp only [flqref10_Valid_L0, h5, h8, h11, h14, h17, h20, h36, cs4]
                refine JK_seq ?_
                refine JK_region ?_
                refine JO_q rfl rfl rfl (OpV.move rfl rfl) ?_
                refine JO_q rfl rfl rfl (OpV.leq rfl rfl rfl) ?_
                refine JO_q rfl rfl rfl (OpV.assign rfl rfl) ?_
                refine JO_nil ?_
                have hq : rr = decide (edges_24 ≤ 1024) := hrr.symm.trans (by simp only [flqref10_Valid, h5, h8, h11, h14, h17, h20, h36, hR97, cs4])
                replace hrr := hrr.trans hq
                subst rr
                refine JK_return (()) rfl (.tmp rfl .nil) rfl trivial (Ent.take (is := []) rfl)
set_option maxHeartbeats 20000000 in
set_option maxRecDepth 100000 in
/- flowquery/flqref14.inside -/
theorem fn23 (s : GSystem) (sa1 : Option Addr) (sk1 : Nat) (sa2 : Option Addr) (sk2 : Nat) (sa3 : Option Addr) (sk3 : Nat) (l : List Int) (la0 : Option Addr) (lk0 : Nat) (hs_0 : i64ok s.Width) (rr : Bool) (hrr : flqref14_inside s l = rr) :
    FT Try.prog 23 #[.agg #[.int .i64 s.Width, .slice sa1 s.Deps.length sk1, .slice sa2 s.Transfers.length sk2, .slice sa3 s.Boundary.length sk3], .slice la0 l.length lk0] [sl (.slice sa1 s.Deps.length sk1) (s.Deps : List (List Int)), sl (.slice sa2 s.Transfers.length sk2) (s.Transfers : List GTransfer), sl (.slice sa3 s.Boundary.length sk3) (s.Boundary : List GSet), sl (.slice la0 l.length lk0) (l : List Int)]
      (fun g : Unit => True)
      (fun g => .bool rr)
      (fun g => []) := by
  refine FT_intro (args := [.agg #[.int .i64 s.Width, .slice sa1 s.Deps.length sk1, .slice sa2 s.Transfers.length sk2, .slice sa3 s.Boundary.length sk3], .slice la0 l.length lk0]) Try.func23 rfl rfl ?_
  intro w0 M0 F0
  have hs_0 : -9223372036854775808 ≤ s.Width ∧ s.Width ≤ 9223372036854775807 := hs_0
  refine JJ_fact 0 rfl sl_bytes ?_
  intro hl1
  have hl1 : s.Deps.length * 24 ≤ 140737488355328 := hl1
  refine JJ_fact 1 rfl sl_bytes ?_
  intro hl2
  have hl2 : s.Transfers.length * 88 ≤ 140737488355328 := hl2
  refine JJ_fact 2 rfl sl_bytes ?_
  intro hl3
  have hl3 : s.Boundary.length * 32 ≤ 140737488355328 := hl3
  refine JJ_fact 3 rfl sl_bytes ?_
  intro hl4
  have hl4 : l.length * 8 ≤ 140737488355328 := hl4
  refine JJ_fact 3 rfl sl_ok ?_
  intro ho5
  refine JK_seq ?_
  refine JK_region ?_
  refine JO_act rfl rfl rfl (OpA.box rfl rfl) ?_
  intro p6
  refine JO_q rfl rfl rfl (OpV.assign rfl rfl) ?_
  refine JO_nil ?_
  refine JK_seq ?_
  refine JK_seq ?_
  refine JK_region ?_
  refine JO_q rfl rfl rfl (OpV.assign rfl rfl) ?_
  refine JO_nil ?_
  refine JK_block ?_
  refine JK_loop (γ := Nat × Int) (fun (r7, i_8) => [(1, .slice la0 l.length lk0), (2, p6), (5, .int .i64 i_8)]) (fun (r7, i_8) => [pv p6 [.int .i64 s.Width, .slice sa1 s.Deps.length sk1, .slice sa2 s.Transfers.length sk2, .slice sa3 s.Boundary.length sk3], sl (.slice sa1 s.Deps.length sk1) (s.Deps : List (List Int)), sl (.slice sa2 s.Transfers.length sk2) (s.Transfers : List GTransfer), sl (.slice sa3 s.Boundary.length sk3) (s.Boundary : List GSet), sl (.slice la0 l.length lk0) (l : List Int)]) (fun (r7, i_8) => flqref14_inside_L0 s l r7 i_8 = flqref14_inside_L0 s l (((((l.length : Nat) : Int) : Int) - 0).toNat) 0 ∧ r7 = ((((l.length : Nat) : Int) : Int) - i_8).toNat ∧ (0 : Int) ≤ i_8 ∧ (i_8 ≤ ((l.length : Nat) : Int) ∨ i_8 = 0) ∧ (-9223372036854775808 ≤ i_8 ∧ i_8 ≤ 9223372036854775807)) (fun (r7, i_8) => r7) (((((l.length : Nat) : Int) : Int) - 0).toNat, 0) ⟨rfl, rfl, (by omega), (.inr rfl), (by omega)⟩ (Env.sub_all rfl) (Ent.take (is := [0, 1, 2, 3, 4]) rfl) ?_
  rintro ⟨r7, i_8⟩ ⟨hM9, hr10, hi11, hi12, hk13⟩
  refine JJ_norm (L := [(1, .slice la0 l.length lk0), (2, p6), (5, .int .i64 i_8)]) (A := [pv p6 [.int .i64 s.Width, .slice sa1 s.Deps.length sk1, .slice sa2 s.Transfers.length sk2, .slice sa3 s.Boundary.length sk3], sl (.slice sa1 s.Deps.length sk1) (s.Deps : List (List Int)), sl (.slice sa2 s.Transfers.length sk2) (s.Transfers : List GTransfer), sl (.slice sa3 s.Boundary.length sk3) (s.Boundary : List GSet), sl (.slice la0 l.length lk0) (l : List Int)]) rfl rfl ?_
  refine JJ_fact 1 rfl sl_bytes ?_
  intro hl14
  have hl14 : s.Deps.length * 24 ≤ 140737488355328 := hl14
  refine JJ_fact 2 rfl sl_bytes ?_
  intro hl15
  have hl15 : s.Transfers.length * 88 ≤ 140737488355328 := hl15
  refine JJ_fact 3 rfl sl_bytes ?_
  intro hl16
  have hl16 : s.Boundary.length * 32 ≤ 140737488355328 := hl16
  refine JJ_fact 4 rfl sl_bytes ?_
  intro hl17
  have hl17 : l.length * 8 ≤ 140737488355328 := hl17
  refine JJ_fact 4 rfl sl_ok ?_
  intro ho18
  refine JK_seq ?_
  refine JK_seq ?_
  refine JK_region ?_
  refine JO_q rfl rfl rfl (OpV.move rfl rfl) ?_
  refine JO_q rfl rfl rfl (OpV.move rfl rfl) ?_
  refine JO_q rfl rfl rfl (OpV.len rfl rfl sl22) ?_
  refine JO_q rfl rfl rfl (OpV.lss rfl rfl rfl) ?_
  refine JO_nil ?_
  refine JK_cond (b := decide (i_8 < ((l.length : Nat) : Int))) rfl (fun (h19 : decide (i_8 < ((l.length : Nat) : Int)) = true) => ?_) (fun (h19 : decide (i_8 < ((l.length : Nat) : Int)) = false) => ?_)
  · skip
    have g20 : (i_8 < ((l.length : Nat) : Int)) := of_decide_eq_true h19
    obtain ⟨r21, rfl⟩ : ∃ q, r7 = q + 1 := ⟨r7 - 1, by omega⟩
    refine JK_skip ?_
    refine JK_seq ?_
    refine JK_block ?_
    refine JK_seq ?_
    refine bool_split (decide ((l.getD (i_8 : Int).toNat 0) < 0)) (fun (h23 : decide ((l.getD (i_8 : Int).toNat 0) < 0) = true) => ?_) (fun (h23 : decide ((l.getD (i_8 : Int).toNat 0) < 0) = false) => ?_)
    · skip
      have g24 : ((l.getD (i_8 : Int).toNat 0) < 0) := of_decide_eq_true h23
      have hb25 : -9223372036854775808 ≤ (l.getD (i_8 : Int).toNat 0) ∧ (l.getD (i_8 : Int).toNat 0) ≤ 9223372036854775807 := getD_ok ho18 (by first | omega | (simp only [lens]; omega) | (simp only [lens] at *; omega))
      refine JK_drawQ [0, 0, 3, 7, 15, 31, 63, 63, 255, 511, 63, 1087, 3135, 8191, 16383] fmix ?_
      refine JQ_v [] (qn rfl) rfl rfl (OpV.move rfl rfl) ?_
      refine JQ_v [] (qn rfl) rfl rfl (OpV.move rfl rfl) ?_
      refine JQ_v [4] (qn rfl) rfl rfl (OpV.indexAddr (m := 0) rfl rfl rfl sl22 rfl (isSl_sl _ _) (by first | omega | (simp only [lens]; omega) | (simp only [lens] at *; omega))) ?_
      refine JQ_v [4] (qn rfl) rfl rfl (OpV.load rfl rfl sh3 (i := 0) rfl (reads_sl _ _ _ 0 (by first | omega | (simp only [lens]; omega) | (simp only [lens] at *; omega))) rfl) ?_
      refine JQ_b h23 [] (qn rfl) rfl rfl (OpV.lss rfl rfl rfl) ?_
      refine JQ_v [] (qn rfl) rfl rfl (OpV.move rfl rfl) ?_
      refine JQ_skip (qs rfl rfl rfl _ rfl rfl) rfl ?_
      refine JQ_skip (qs rfl rfl rfl _ rfl rfl) rfl ?_
      refine JQ_skip (qs rfl rfl rfl _ rfl rfl) rfl ?_
      refine JQ_skip (qs rfl rfl rfl _ rfl rfl) rfl ?_
      refine JQ_skip (qs rfl rfl rfl _ rfl rfl) rfl ?_
      refine JQ_skip (qs rfl rfl rfl _ rfl rfl) rfl ?_
      refine JQ_skip (qs rfl rfl rfl _ rfl rfl) rfl ?_
      refine JQ_skip (qs rfl rfl rfl _ rfl rfl) rfl ?_
      refine JQ_v [] (qn rfl) rfl rfl (OpV.pickT rfl rfl rfl) ?_
      refine JQ_nil ⟨by kernel_rfl, ?_⟩
      refine JK_condT rfl ?_
      refine JK_seq ?_
      refine JK_region ?_
      refine JO_q rfl rfl rfl (OpV.assign rfl rfl) ?_
      refine JO_nil ?_
      have hR26 : flqref14_inside_L0 s l (((((l.length : Nat) : Int) : Int) - 0).toNat) 0 = LR.ret false := by
        rw [← hM9]; simp only [flqref14_inside_L0, h19, h23, cs4]
      have hq : rr = false := hrr.symm.trans (by simp only [flqref14_inside, h19, h23, hR26, cs4])
      replace hrr := hrr.trans hq
      subst rr
      refine JK_return (()) rfl (.tmp rfl .nil) rfl trivial (Ent.take (is := []) rfl)
    · skip
      have g27 : ¬ ((l.getD (i_8 : Int).toNat 0) < 0) := of_decide_eq_false h23
      have hb28 : -9223372036854775808 ≤ (l.getD (i_8 : Int).toNat 0) ∧ (l.getD (i_8 : Int).toNat 0) ≤ 9223372036854775807 := getD_ok ho18 (by first | omega | (simp only [lens]; omega) | (simp only [lens] at *; omega))
      have hb29 : -9223372036854775808 ≤ (l.getD (i_8 : Int).toNat 0) ∧ (l.getD (i_8 : Int).toNat 0) ≤ 9223372036854775807 := getD_ok ho18 (by first | omega | (simp only [lens]; omega) | (simp only [lens] at *; omega))
      refine JK_drawQ [0, 0, 3, 7, 15, 31, 63, 63, 255, 511, 63, 1087, 3135, 8191, 16383] fmix ?_
      refine JQ_v [] (qn rfl) rfl rfl (OpV.move rfl rfl) ?_
      refine JQ_v [] (qn rfl) rfl rfl (OpV.move rfl rfl) ?_
      refine JQ_v [4] (qn rfl) rfl rfl (OpV.indexAddr (m := 0) rfl rfl rfl sl22 rfl (isSl_sl _ _) (by first | omega | (simp only [lens]; omega) | (simp only [lens] at *; omega))) ?_
      refine JQ_v [4] (qn rfl) rfl rfl (OpV.load rfl rfl sh3 (i := 0) rfl (reads_sl _ _ _ 0 (by first | omega | (simp only [lens]; omega) | (simp only [lens] at *; omega))) rfl) ?_
      refine JQ_b h23 [] (qn rfl) rfl rfl (OpV.lss rfl rfl rfl) ?_
      refine JQ_v [] (qn rfl) rfl rfl (OpV.move rfl rfl) ?_
      refine JQ_v [] (qt rfl rfl rfl rfl) rfl rfl (OpV.move rfl rfl) ?_
      refine JQ_v [] (qt rfl rfl rfl rfl) rfl rfl (OpV.move rfl rfl) ?_
      refine JQ_v [4] (qt rfl rfl rfl rfl) rfl rfl (OpV.indexAddr (m := 0) rfl rfl rfl sl22 rfl (isSl_sl _ _) (by first | omega | (simp only [lens]; omega) | (simp only [lens] at *; omega))) ?_
      refine JQ_v [4] (qt rfl rfl rfl rfl) rfl rfl (OpV.load rfl rfl sh3 (i := 0) rfl (reads_sl _ _ _ 0 (by first | omega | (simp only [lens]; omega) | (simp only [lens] at *; omega))) rfl) ?_
      refine JQ_v [0] (qt rfl rfl rfl rfl) rfl rfl (OpV.fieldAddr rfl rfl fo27_3 (i := 0) rfl (isPtr_pv _ _)) ?_
      refine JQ_v [0] (qt rfl rfl rfl rfl) rfl rfl (OpV.loadF rfl rfl sh25 (i := 0) rfl (reads_pv _ _) rfl) ?_
      refine JQ_v [] (qt rfl rfl rfl rfl) rfl rfl (OpV.len rfl rfl sl25) ?_
      refine JQ_v [] (qt rfl rfl rfl rfl) rfl rfl (OpV.geq rfl rfl rfl) ?_
      refine JQ_v [] (qn rfl) rfl rfl (OpV.pickF rfl rfl rfl) ?_
      refine JQ_nil ⟨by kernel_rfl, ?_⟩
      refine JK_cond (b := decide (((s.Boundary.length : Nat) : Int) ≤ (l.getD (i_8 : Int).toNat 0))) rfl (fun (h30 : decide (((s.Boundary.length : Nat) : Int) ≤ (l.getD (i_8 : Int).toNat 0)) = true) => ?_) (fun (h30 : decide (((s.Boundary.length : Nat) : Int) ≤ (l.getD (i_8 : Int).toNat 0)) = false) => ?_)
      · skip
        have g31 : (((s.Boundary.length : Nat) : Int) ≤ (l.getD (i_8 : Int).toNat 0)) := of_decide_eq_true h30
        refine JK_seq ?_
        refine JK_region ?_
        refine JO_q rfl rfl rfl (OpV.assign rfl rfl) ?_
        refine JO_nil ?_
        have hR32 : flqref14_inside_L0 s l (((((l.length : Nat) : Int) : Int) - 0).toNat) 0 = LR.ret false := by
          rw [← hM9]; simp only [flqref14_inside_L0, h19, h23, h30, cs4]
        have hq : rr = false := hrr.symm.trans (by simp only [flqref14_inside, h19, h23, h30, hR32, cs4])
        replace hrr := hrr.trans hq
        subst rr
        refine JK_return (()) rfl (.tmp rfl .nil) rfl trivial (Ent.take (is := []) rfl)
      · skip
        have g33 : ¬ (((s.Boundary.length : Nat) : Int) ≤ (l.getD (i_8 : Int).toNat 0)) := of_decide_eq_false h30
        refine JK_skip ?_
        refine JK_blk ?_
        refine JK_region ?_
        refine JO_q rfl rfl rfl (OpV.move rfl rfl) ?_
        refine JO_q rfl rfl rfl (OpV.add rfl rfl rfl (by unfold i64ok; omega)) ?_
        refine JO_q rfl rfl rfl (OpV.assign rfl rfl) ?_
        refine JO_nil ?_
        refine JK_goal (r21, (i_8 + 1)) ⟨(by rw [← hM9]; simp only [flqref14_inside_L0, h19, h23, h30, cs4]), (by omega), (by omega), (by omega), (by omega)⟩ (by show r21 < r21 + 1; omega) (Env.sub_all rfl) (Ent.take (is := [0, 1, 2, 3, 4]) rfl)
  · skip
    have g34 : ¬ (i_8 < ((l.length : Nat) : Int)) := of_decide_eq_false h19
    obtain rfl : r7 = 0 := by omega
    refine JK_exit rfl ?_
    have hR35 : flqref14_inside_L0 s l (((((l.length : Nat) : Int) : Int) - 0).toNat) 0 = LR.brk () := by
      rw [← hM9]; simp only [flqref14_inside_L0, h19, cs4]
    refine JK_seq ?_
    refine JK_region ?_
    refine JO_q rfl rfl rfl (OpV.assign rfl rfl) ?_
    refine JO_nil ?_
    have hq : rr = true := hrr.symm.trans (by simp only [flqref14_inside, h19, hR35, cs4])
    replace hrr := hrr.trans hq
    subst rr
    refine JK_return (()) rfl (.tmp rfl .nil) rfl trivial (Ent.take (is := []) rfl)
end Go.SL.G
