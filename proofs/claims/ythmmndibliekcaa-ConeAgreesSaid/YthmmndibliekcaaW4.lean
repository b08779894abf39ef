/- Part 4 of the walks: mirrors, plain laws and walks used by the last text of this claim. -/
import Derived.Test.YthmmndibliekcaaW3
import Derived.Test.YthmmndibliekcaaProg
set_option linter.unusedVariables false
set_option linter.unusedSimpArgs false
namespace Go.SL.G
open Go Go.SL Go.Proofs
set_option maxHeartbeats 20000000 in
set_option maxRecDepth 100000 in
/- flowquery/flqref14.Cone -/
theorem fn7 (s : GSystem) (sa1 : Option Addr) (sk1 : Nat) (sa2 : Option Addr) (sk2 : Nat) (sa3 : Option Addr) (sk3 : Nat) (root : Int) (leaves : List Int) (leavesa0 : Option Addr) (leavesk0 : Nat) (hs_0 : i64ok s.Width) (hroot_0 : i64ok root) (rr : List Int × Int × Int) (hrr : flqref14_Cone s root leaves = rr) :
    FT Try.prog 7 #[.agg #[.int .i64 s.Width, .slice sa1 s.Deps.length sk1, .slice sa2 s.Transfers.length sk2, .slice sa3 s.Boundary.length sk3], .int .i64 root, .slice leavesa0 leaves.length leavesk0] [sl (.slice sa1 s.Deps.length sk1) (s.Deps : List (List Int)), sl (.slice sa2 s.Transfers.length sk2) (s.Transfers : List GTransfer), sl (.slice sa3 s.Boundary.length sk3) (s.Boundary : List GSet), sl (.slice leavesa0 leaves.length leavesk0) (leaves : List Int)]
      (fun g : Value => i64ok rr.2.1 ∧ i64ok rr.2.2)
      (fun g => .tuple #[g, .int .i64 rr.2.1, .int .i64 rr.2.2])
      (fun g => [sl (g) (rr.1 : List Int)]) := by
  refine FT_intro (args := [.agg #[.int .i64 s.Width, .slice sa1 s.Deps.length sk1, .slice sa2 s.Transfers.length sk2, .slice sa3 s.Boundary.length sk3], .int .i64 root, .slice leavesa0 leaves.length leavesk0]) Try.func7 rfl rfl ?_
  intro w0 M0 F0
  have hs_0 : -9223372036854775808 ≤ s.Width ∧ s.Width ≤ 9223372036854775807 := hs_0
  have hroot_0 : -9223372036854775808 ≤ root ∧ root ≤ 9223372036854775807 := hroot_0
  refine JJ_fact 0 rfl sl_bytes ?_
  intro hl1
  have hl1 : s.Deps.length * 24 ≤ 140737488355328 := hl1
  refine JJ_fact 1 rfl sl_bytes ?_
  intro hl2
  have hl2 : s.Transfers.length * 88 ≤ 140737488355328 := hl2
  refine JJ_fact 2 rfl sl_bytes ?_
  intro hl3
  have hl3 : s.Boundary.length * 32 ≤ 140737488355328 := hl3
  refine JJ_fact 3 rfl sl_bytes ?_
  intro hl4
  have hl4 : leaves.length * 8 ≤ 140737488355328 := hl4
  refine JJ_fact 3 rfl sl_ok ?_
  intro ho5
  refine JK_seq ?_
  refine JK_region ?_
  refine JO_act rfl rfl rfl (OpA.box rfl rfl) ?_
  intro p6
  refine JO_q rfl rfl rfl (OpV.assign rfl rfl) ?_
  refine JO_q rfl rfl rfl (OpV.assign rfl rfl) ?_
  refine JO_q rfl rfl rfl (OpV.assign rfl rfl) ?_
  refine JO_nil ?_
  refine JK_seq ?_
  refine JK_seq ?_
  refine JK_region ?_
  refine JO_q rfl rfl rfl (OpV.loadA rfl rfl sh27 (i := 0) rfl (reads_pv _ _) rfl) ?_
  refine letv (flqref10_Valid s) fun rv7 hg8 => ?_
  have hc9 := fn22 s sa1 sk1 sa2 sk2 sa3 sk3 (by (try dsimp only) <;> first | (unfold i64ok; omega) | omega | assumption) rv7 hg8
  refine JO_call [1, 2, 3] rfl rfl rfl (OpC.fn rfl ca22 rfl) (hc9) rfl ?_
  rintro - -
  refine JO_q rfl rfl rfl (OpV.not rfl rfl) ?_
  refine JO_nil ?_
  refine JK_cond (b := (!rv7)) rfl (fun (h10 : (!rv7) = true) => ?_) (fun (h10 : (!rv7) = false) => ?_)
  · skip
    have h12 : rv7 = false := not_true h10
    refine JK_seq ?_
    refine JK_region ?_
    refine JO_q rfl rfl rfl (OpV.assign rfl rfl) ?_
    refine JO_q rfl rfl rfl (OpV.assign rfl rfl) ?_
    refine JO_q rfl rfl rfl (OpV.assign rfl rfl) ?_
    refine JO_nil ?_
    refine JJ_loc [] rfl (Ent.slNil (α := Int)) ?_
    have hq : rr = ([], 0, 1) := hrr.symm.trans (by simp only [flqref14_Cone, h10, h12, hg8, cs4])
    replace hrr := hrr.trans hq
    subst rr
    refine JK_return (.slice none 0 0) rfl (.tmp rfl (.tmp rfl (.tmp rfl .nil))) rfl (by refine ⟨?_, ?_⟩ <;> (try dsimp only) <;> first | omega | (unfold i64ok; omega) | (simp only [lens]; omega) | assumption | trivial) (Ent.take (is := [0]) rfl)
  · skip
    have h15 : rv7 = true := not_false h10
    refine JK_skip ?_
    refine JK_seq ?_
    refine JK_seq ?_
    refine JK_region ?_
    refine JO_q rfl rfl rfl (OpV.loadA rfl rfl sh27 (i := 0) rfl (reads_pv _ _) rfl) ?_
    refine JO_q rfl rfl rfl (OpV.move rfl rfl) ?_
    refine JO_act rfl rfl rfl (OpA.buildSliceV [.int .i64 root] [.int .i64 root] rfl sl22 sz22 rfl (Env.evp_map rfl) rfl rfl rfl rfl) ?_
    intro c17
    refine JJ_slice 0 rfl Cr_slice ?_
    rintro a18 k19 rfl
    refine JJ_loc [0] rfl (Ent.crInt _ [root] _ _ rfl rfl (by intro x hx; rw [List.mem_singleton] at hx; subst hx; unfold i64ok; omega) (Nat.le_of_ble_eq_true rfl)) ?_
    refine letv (flqref14_inside s [root]) fun rv20 hg21 => ?_
    refine JO_call [0, 1, 2, 3] rfl rfl rfl (OpC.fn rfl ca23 rfl) (FT_borrow (A := _) (fun _ _ h => by cases h) (FT_ent (Ent.take (is := [1, 2, 3, 0]) rfl) (fn23 s sa1 sk1 sa2 sk2 sa3 sk3 ([root]) a18 k19 (by (try dsimp only) <;> first | (unfold i64ok; omega) | omega | assumption) rv20 hg21))) rfl ?_
    rintro - -
    refine JO_q rfl rfl rfl (OpV.not rfl rfl) ?_
    refine JO_q rfl rfl rfl (OpV.move rfl rfl) ?_
    refine JJ_split 22 rfl (fun (h22 : (!rv20) = true) => ?_) (fun (h22 : (!rv20) = false) => ?_)
    · skip
      have h24 : rv20 = false := not_true h22
      refine JO_skip rfl rfl rfl rfl rfl rfl ?_
      refine JO_skip rfl rfl rfl rfl rfl rfl ?_
      refine JO_skip rfl rfl rfl rfl rfl rfl ?_
      refine JO_skip rfl rfl rfl rfl rfl rfl ?_
      refine JO_q rfl rfl rfl (OpV.pickT rfl rfl rfl) ?_
      refine JO_nil ?_
      refine JK_condT rfl ?_
      refine JK_seq ?_
      refine JK_region ?_
      refine JO_q rfl rfl rfl (OpV.assign rfl rfl) ?_
      refine JO_q rfl rfl rfl (OpV.assign rfl rfl) ?_
      refine JO_q rfl rfl rfl (OpV.assign rfl rfl) ?_
      refine JO_nil ?_
      refine JJ_loc [] rfl (Ent.slNil (α := Int)) ?_
      have hq : rr = ([], 0, 9) := hrr.symm.trans (by simp only [flqref14_Cone, h10, h15, h22, h24, hg8, hg21, cs4])
      replace hrr := hrr.trans hq
      subst rr
      refine JK_return (.slice none 0 0) rfl (.tmp rfl (.tmp rfl (.tmp rfl .nil))) rfl (by refine ⟨?_, ?_⟩ <;> (try dsimp only) <;> first | omega | (unfold i64ok; omega) | (simp only [lens]; omega) | assumption | trivial) (Ent.take (is := [0]) rfl)
    · skip
      have h27 : rv20 = true := not_false h22
      refine JO_taken rfl rfl rfl rfl ?_
      refine JO_q rfl rfl rfl (OpV.loadA rfl rfl sh27 (i := 1) rfl (reads_pv _ _) rfl) ?_
      refine JO_taken rfl rfl rfl rfl ?_
      refine JO_q rfl rfl rfl (OpV.move rfl rfl) ?_
      refine JO_taken rfl rfl rfl rfl ?_
      refine letv (flqref14_inside s leaves) fun rv29 hg30 => ?_
      have hc31 := fn23 s sa1 sk1 sa2 sk2 sa3 sk3 leaves leavesa0 leavesk0 (by (try dsimp only) <;> first | (unfold i64ok; omega) | omega | assumption) rv29 hg30
      refine JO_call [2, 3, 4, 5] rfl rfl rfl (OpC.fn rfl ca23 rfl) (hc31) rfl ?_
      rintro - -
      refine JO_taken rfl rfl rfl rfl ?_
      refine JO_q rfl rfl rfl (OpV.not rfl rfl) ?_
      refine JO_q rfl rfl rfl (OpV.pickF rfl rfl rfl) ?_
      refine JO_nil ?_
      refine JK_cond (b := (!rv29)) rfl (fun (h32 : (!rv29) = true) => ?_) (fun (h32 : (!rv29) = false) => ?_)
      · skip
        have h34 : rv29 = false := not_true h32
        refine JK_seq ?_
        refine JK_region ?_
        refine JO_q rfl rfl rfl (OpV.assign rfl rfl) ?_
        refine JO_q rfl rfl rfl (OpV.assign rfl rfl) ?_
        refine JO_q rfl rfl rfl (OpV.assign rfl rfl) ?_
        refine JO_nil ?_
        refine JJ_loc [] rfl (Ent.slNil (α := Int)) ?_
        have hq : rr = ([], 0, 9) := hrr.symm.trans (by simp only [flqref14_Cone, h10, h15, h22, h27, h32, h34, hg8, hg21, hg30, cs4])
        replace hrr := hrr.trans hq
        subst rr
        refine JK_return (.slice none 0 0) rfl (.tmp rfl (.tmp rfl (.tmp rfl .nil))) rfl (by refine ⟨?_, ?_⟩ <;> (try dsimp only) <;> first | omega | (unfold i64ok; omega) | (simp only [lens]; omega) | assumption | trivial) (Ent.take (is := [0]) rfl)
      · skip
        have h37 : rv29 = true := not_false h32
        refine JK_skip ?_
        refine JK_seq ?_
        refine JK_region ?_
        refine JO_q rfl rfl rfl (OpV.move rfl rfl) ?_
        refine JO_act rfl rfl rfl (OpA.buildSliceV [.int .i64 root] [.int .i64 root] rfl sl22 sz22 rfl (Env.evp_map rfl) rfl rfl rfl rfl) ?_
        intro c39
        refine JJ_slice 0 rfl Cr_slice ?_
        rintro a40 k41 rfl
        refine JO_q rfl rfl rfl (OpV.assign rfl rfl) ?_
        refine JO_nil ?_
        refine JK_seq ?_
        refine JK_region ?_
        refine JO_q rfl rfl rfl (OpV.assign rfl rfl) ?_
        refine JO_nil ?_
        refine JK_seq ?_
        refine JK_seq ?_
        refine JK_region ?_
        refine JO_q rfl rfl rfl (OpV.assign rfl rfl) ?_
        refine JO_nil ?_
        refine JK_block ?_
        refine JJ_loc [0] rfl (Ent.crInt _ [root] _ _ rfl rfl (by intro x hx; rw [List.mem_singleton] at hx; subst hx; unfold i64ok; omega) (Nat.le_of_ble_eq_true rfl)) ?_
        refine JJ_fact 0 rfl os_bytes ?_
        intro hl42
        have hl42 : [root].length * 8 ≤ 140737488355328 := hl42
        refine JJ_fact 0 rfl os_ok ?_
        intro ho43
        have hterm56 : flqref14_Cone_L0 s leaves (s.Deps.length + 1) [root] 0 0 ≠ LR.oof := (cone_term (by simp only [h10, h15, h22, h27, h32, h37, hg8, hg21, hg30]) (by simp only [h10, h15, h22, h27, h32, h37, hg8, hg21, hg30]))
        refine JK_loop (γ := Nat × List Int × Int × Int × Option Addr × Nat) (fun (r44, out_45, cost_46, i_47, a48, k49) => [(2, .slice leavesa0 leaves.length leavesk0), (3, p6), (9, .slice a48 out_45.length k49), (10, .int .i64 cost_46), (11, .int .i64 i_47)]) (fun (r44, out_45, cost_46, i_47, a48, k49) => [os (.slice a48 out_45.length k49) (out_45 : List Int), pv p6 [.int .i64 s.Width, .slice sa1 s.Deps.length sk1, .slice sa2 s.Transfers.length sk2, .slice sa3 s.Boundary.length sk3], sl (.slice sa1 s.Deps.length sk1) (s.Deps : List (List Int)), sl (.slice sa2 s.Transfers.length sk2) (s.Transfers : List GTransfer), sl (.slice sa3 s.Boundary.length sk3) (s.Boundary : List GSet), sl (.slice leavesa0 leaves.length leavesk0) (leaves : List Int)]) (fun (r44, out_45, cost_46, i_47, a48, k49) => flqref14_Cone_L0 s leaves r44 out_45 cost_46 i_47 = flqref14_Cone_L0 s leaves (s.Deps.length + 1) [root] 0 0 ∧ (-9223372036854775808 ≤ cost_46 ∧ cost_46 ≤ 9223372036854775807) ∧ (-9223372036854775808 ≤ i_47 ∧ i_47 ≤ 9223372036854775807) ∧ okOut (s.Boundary.length : Int) out_45 ∧ 0 ≤ cost_46 ∧ cost_46 ≤ i_47 * 17592186044417 ∧ i_47 ≤ (out_45.length : Int)) (fun (r44, out_45, cost_46, i_47, a48, k49) => r44) ((s.Deps.length + 1), [root], 0, 0, a40, k41) ⟨rfl, (by omega), (by omega), (okOut_one (by simp only [h10, h15, h22, h27, h32, h37, hg8, hg21, hg30])), (by first | omega | (simp only [lens]; omega) | simp), (by first | omega | (simp only [lens]; omega) | simp)⟩ (Env.sub_all rfl) (Ent.take (is := [0, 1, 2, 3, 4, 5]) rfl) ?_
        rintro ⟨r44, out_45, cost_46, i_47, a48, k49⟩ ⟨hM50, hk51, hk52, hv53, hv54, hv55⟩
        refine JJ_norm (L := [(2, .slice leavesa0 leaves.length leavesk0), (3, p6), (9, .slice a48 out_45.length k49), (10, .int .i64 cost_46), (11, .int .i64 i_47)]) (A := [os (.slice a48 out_45.length k49) (out_45 : List Int), pv p6 [.int .i64 s.Width, .slice sa1 s.Deps.length sk1, .slice sa2 s.Transfers.length sk2, .slice sa3 s.Boundary.length sk3], sl (.slice sa1 s.Deps.length sk1) (s.Deps : List (List Int)), sl (.slice sa2 s.Transfers.length sk2) (s.Transfers : List GTransfer), sl (.slice sa3 s.Boundary.length sk3) (s.Boundary : List GSet), sl (.slice leavesa0 leaves.length leavesk0) (leaves : List Int)]) rfl rfl ?_
        refine JJ_fact 0 rfl os_bytes ?_
        intro hl57
        have hl57 : out_45.length * 8 ≤ 140737488355328 := hl57
        refine JJ_fact 0 rfl os_ok ?_
        intro ho58
        refine JJ_fact 2 rfl sl_bytes ?_
        intro hl59
        have hl59 : s.Deps.length * 24 ≤ 140737488355328 := hl59
        refine JJ_fact 3 rfl sl_bytes ?_
        intro hl60
        have hl60 : s.Transfers.length * 88 ≤ 140737488355328 := hl60
        refine JJ_fact 4 rfl sl_bytes ?_
        intro hl61
        have hl61 : s.Boundary.length * 32 ≤ 140737488355328 := hl61
        refine JJ_fact 5 rfl sl_bytes ?_
        intro hl62
        have hl62 : leaves.length * 8 ≤ 140737488355328 := hl62
        refine JJ_fact 5 rfl sl_ok ?_
        intro ho63
        rcases r44 with _ | r44
        · exact absurd (hM50.symm.trans rfl) hterm56
        refine JK_seq ?_
        refine JK_seq ?_
        refine JK_region ?_
        refine JO_q rfl rfl rfl (OpV.move rfl rfl) ?_
        refine JO_q rfl rfl rfl (OpV.move rfl rfl) ?_
        refine JO_q rfl rfl rfl (OpV.len rfl rfl sl22) ?_
        refine JO_q rfl rfl rfl (OpV.lss rfl rfl rfl) ?_
        refine JO_nil ?_
        refine JK_cond (b := decide (i_47 < ((out_45.length : Nat) : Int))) rfl (fun (h64 : decide (i_47 < ((out_45.length : Nat) : Int)) = true) => ?_) (fun (h64 : decide (i_47 < ((out_45.length : Nat) : Int)) = false) => ?_)
        · skip
          have g65 : (i_47 < ((out_45.length : Nat) : Int)) := of_decide_eq_true h64
          have hv0 := Valid_deps (s := s) (by simp only [h10, h15, h22, h27, h32, h37, h64, hg8, hg21, hg30])
          have hq1 := okOut_len ‹okOut (s.Boundary.length : Int) out_45› (by omega)
          have hq2 := (‹okOut (s.Boundary.length : Int) out_45›).2 _ (getD_mem (xs := out_45) (i := (i_47 : Int).toNat) (d := 0) (by omega))
          refine JK_skip ?_
          refine JK_seq ?_
          refine JK_block ?_
          refine JK_seq ?_
          refine JK_region ?_
          refine JO_q rfl rfl rfl (OpV.move rfl rfl) ?_
          refine JO_q rfl rfl rfl (OpV.add rfl rfl rfl (by unfold i64ok; omega)) ?_
          refine JO_q rfl rfl rfl (OpV.assign rfl rfl) ?_
          refine JO_nil ?_
          refine JK_seq ?_
          refine JK_seq ?_
          refine JK_region ?_
          refine JO_q rfl rfl rfl (OpV.move rfl rfl) ?_
          refine JO_q rfl rfl rfl (OpV.move rfl rfl) ?_
          refine JO_q rfl rfl rfl (OpV.move rfl rfl) ?_
          refine JO_q rfl rfl rfl (OpV.indexAddr (m := 0) rfl rfl rfl sl22 rfl (isSl_os _ _) (by first | omega | (simp only [lens]; omega) | (simp only [lens] at *; omega))) ?_
          have hb66 : -9223372036854775808 ≤ (out_45.getD (i_47 : Int).toNat 0) ∧ (out_45.getD (i_47 : Int).toNat 0) ≤ 9223372036854775807 := getD_ok ho58 (by first | omega | (simp only [lens]; omega) | (simp only [lens] at *; omega))
          refine JO_q rfl rfl rfl (OpV.load rfl rfl sh3 (i := 0) rfl (reads_os _ _ _ 0 (by first | omega | (simp only [lens]; omega) | (simp only [lens] at *; omega))) rfl) ?_
          refine letv (flqref7_Has leaves (out_45.getD (i_47 : Int).toNat 0)) fun rv67 hg68 => ?_
          have hc69 := fn16 leaves leavesa0 leavesk0 ((out_45.getD (i_47 : Int).toNat 0)) (by (try dsimp only) <;> first | (unfold i64ok; omega) | omega | assumption) rv67 hg68
          refine JO_call [5] rfl rfl rfl (OpC.fn rfl ca16 rfl) (hc69) rfl ?_
          rintro - -
          refine JO_nil ?_
          refine JK_cond (b := rv67) rfl (fun (h70 : rv67 = true) => ?_) (fun (h70 : rv67 = false) => ?_)
          · skip
            refine JK_exit rfl ?_
            refine JK_region ?_
            refine JO_q rfl rfl rfl (OpV.move rfl rfl) ?_
            refine JO_q rfl rfl rfl (OpV.add rfl rfl rfl (by unfold i64ok; omega)) ?_
            refine JO_q rfl rfl rfl (OpV.assign rfl rfl) ?_
            refine JO_nil ?_
            refine JK_goal (r44, out_45, (cost_46 + 1), (i_47 + 1), a48, k49) ⟨(by rw [← hM50]; simp only [flqref14_Cone_L0, h10, h15, h22, h27, h32, h37, h64, h70, hg8, hg21, hg30, hg68, cs4]), (by omega), (by omega), (by assumption), (by first | omega | (simp only [lens]; omega) | assumption), (by first | omega | (simp only [lens]; omega) | assumption)⟩ (by show r44 < r44 + 1; omega) (Env.sub_all rfl) (Ent.take (is := [0, 0, 1, 2, 3, 4]) rfl)
          · skip
            refine JK_skip ?_
            refine JK_seq ?_
            refine JJ_peekL ((out_45.getD (i_47 : Int).toNat 0) : Int).toNat 2 rfl (by omega) ?_
            intro a74 k75
            refine JJ_fact 1 rfl sl_bytes ?_
            intro hl76
            have hl76 : (s.Deps.getD ((out_45.getD (i_47 : Int).toNat 0) : Int).toNat []).length * 8 ≤ 140737488355328 := hl76
            refine JJ_fact 1 rfl sl_ok ?_
            intro ho77
            have hb78 : -9223372036854775808 ≤ (out_45.getD (i_47 : Int).toNat 0) ∧ (out_45.getD (i_47 : Int).toNat 0) ≤ 9223372036854775807 := getD_ok ho58 (by first | omega | (simp only [lens]; omega) | (simp only [lens] at *; omega))
            refine JK_drawQ [0, 1, 0, 0, 12, 28, 63, 127, 255] fmix ?_
            refine JQ_v [3] (qn rfl) rfl rfl (OpV.fieldAddr rfl rfl fo27_1 (i := 0) rfl (isPtr_pv _ _)) ?_
            refine JQ_v [3] (qn rfl) rfl rfl (OpV.loadF rfl rfl sh23 (i := 0) rfl (reads_pv _ _) rfl) ?_
            refine JQ_v [] (qn rfl) rfl rfl (OpV.move rfl rfl) ?_
            refine JQ_v [] (qn rfl) rfl rfl (OpV.move rfl rfl) ?_
            refine JQ_v [2] (qn rfl) rfl rfl (OpV.indexAddr (m := 0) rfl rfl rfl sl22 rfl (isSl_os _ _) (by first | omega | (simp only [lens]; omega) | (simp only [lens] at *; omega))) ?_
            refine JQ_v [2] (qn rfl) rfl rfl (OpV.load rfl rfl sh3 (i := 0) rfl (reads_os _ _ _ 0 (by first | omega | (simp only [lens]; omega) | (simp only [lens] at *; omega))) rfl) ?_
            refine JQ_v [4] (qn rfl) rfl rfl (OpV.indexAddr (m := 0) rfl rfl rfl sl23 rfl (isSl_sl _ _) (by first | omega | (simp only [lens]; omega) | (simp only [lens] at *; omega))) ?_
            refine JQ_v [0] (qn rfl) rfl rfl (OpV.load rfl rfl sh22 (i := 0) rfl (reads_pv _ _) rfl) ?_
            refine JQ_v [] (qn rfl) rfl rfl (OpV.assign rfl rfl) ?_
            refine JQ_nil ⟨by kernel_rfl, ?_⟩
            refine JK_seq ?_
            refine JK_region ?_
            refine JO_q rfl rfl rfl (OpV.move rfl rfl) ?_
            refine JO_q rfl rfl rfl (OpV.move rfl rfl) ?_
            refine JO_q rfl rfl rfl (OpV.len rfl rfl sl22) ?_
            refine JO_q rfl rfl rfl (OpV.add rfl rfl rfl (by unfold i64ok; omega)) ?_
            refine JO_q rfl rfl rfl (OpV.assign rfl rfl) ?_
            refine JO_nil ?_
            refine JK_seq ?_
            refine JK_region ?_
            refine JO_q rfl rfl rfl (OpV.assign rfl rfl) ?_
            refine JO_nil ?_
            refine JK_block ?_
            refine JK_loop (γ := Nat × List Int × Int × Option Addr × Nat) (fun (r79, out_80, k_81, a82, k83) => [(2, .slice leavesa0 leaves.length leavesk0), (3, p6), (9, .slice a82 out_80.length k83), (11, .int .i64 i_47), (12, .slice a74 ((s.Deps.getD ((out_45.getD (i_47 : Int).toNat 0) : Int).toNat []).length) k75), (10, .int .i64 ((cost_46 + 1) + (((s.Deps.getD ((out_45.getD (i_47 : Int).toNat 0) : Int).toNat []).length : Nat) : Int))), (13, .int .i64 k_81)]) (fun (r79, out_80, k_81, a82, k83) => [os (.slice a82 out_80.length k83) (out_80 : List Int), sl (.slice a74 ((s.Deps.getD ((out_45.getD (i_47 : Int).toNat 0) : Int).toNat []).length) k75) ((s.Deps.getD ((out_45.getD (i_47 : Int).toNat 0) : Int).toNat []) : List Int), pv p6 [.int .i64 s.Width, .slice sa1 s.Deps.length sk1, .slice sa2 s.Transfers.length sk2, .slice sa3 s.Boundary.length sk3], sl (.slice sa1 s.Deps.length sk1) (s.Deps : List (List Int)), sl (.slice sa2 s.Transfers.length sk2) (s.Transfers : List GTransfer), sl (.slice sa3 s.Boundary.length sk3) (s.Boundary : List GSet), sl (.slice leavesa0 leaves.length leavesk0) (leaves : List Int)]) (fun (r79, out_80, k_81, a82, k83) => flqref14_Cone_L1 (s.Deps.getD ((out_45.getD (i_47 : Int).toNat 0) : Int).toNat []) r79 out_80 k_81 = flqref14_Cone_L1 (s.Deps.getD ((out_45.getD (i_47 : Int).toNat 0) : Int).toNat []) ((((((s.Deps.getD ((out_45.getD (i_47 : Int).toNat 0) : Int).toNat []).length : Nat) : Int) : Int) - 0).toNat) out_45 0 ∧ r79 = (((((s.Deps.getD ((out_45.getD (i_47 : Int).toNat 0) : Int).toNat []).length : Nat) : Int) : Int) - k_81).toNat ∧ (0 : Int) ≤ k_81 ∧ (k_81 ≤ (((s.Deps.getD ((out_45.getD (i_47 : Int).toNat 0) : Int).toNat []).length : Nat) : Int) ∨ k_81 = 0) ∧ (-9223372036854775808 ≤ k_81 ∧ k_81 ≤ 9223372036854775807) ∧ okOut (s.Boundary.length : Int) out_80 ∧ i_47 + 1 ≤ (out_80.length : Int)) (fun (r79, out_80, k_81, a82, k83) => r79) ((((((s.Deps.getD ((out_45.getD (i_47 : Int).toNat 0) : Int).toNat []).length : Nat) : Int) : Int) - 0).toNat, out_45, 0, a48, k49) ⟨rfl, rfl, (by omega), (.inr rfl), (by omega), (by assumption), (by first | omega | (simp only [lens]; omega) | simp)⟩ (Env.sub_all rfl) (Ent.take (is := [2, 1, 2, 3, 4, 5, 6]) rfl) ?_
            rintro ⟨r79, out_80, k_81, a82, k83⟩ ⟨hM84, hr85, hi86, hi87, hk88, hv89, hv90⟩
            refine JJ_norm (L := [(2, .slice leavesa0 leaves.length leavesk0), (3, p6), (9, .slice a82 out_80.length k83), (11, .int .i64 i_47), (12, .slice a74 ((s.Deps.getD ((out_45.getD (i_47 : Int).toNat 0) : Int).toNat []).length) k75), (10, .int .i64 ((cost_46 + 1) + (((s.Deps.getD ((out_45.getD (i_47 : Int).toNat 0) : Int).toNat []).length : Nat) : Int))), (13, .int .i64 k_81)]) (A := [os (.slice a82 out_80.length k83) (out_80 : List Int), sl (.slice a74 ((s.Deps.getD ((out_45.getD (i_47 : Int).toNat 0) : Int).toNat []).length) k75) ((s.Deps.getD ((out_45.getD (i_47 : Int).toNat 0) : Int).toNat []) : List Int), pv p6 [.int .i64 s.Width, .slice sa1 s.Deps.length sk1, .slice sa2 s.Transfers.length sk2, .slice sa3 s.Boundary.length sk3], sl (.slice sa1 s.Deps.length sk1) (s.Deps : List (List Int)), sl (.slice sa2 s.Transfers.length sk2) (s.Transfers : List GTransfer), sl (.slice sa3 s.Boundary.length sk3) (s.Boundary : List GSet), sl (.slice leavesa0 leaves.length leavesk0) (leaves : List Int)]) rfl rfl ?_
            refine JJ_fact 0 rfl os_bytes ?_
            intro hl91
            have hl91 : out_80.length * 8 ≤ 140737488355328 := hl91
            refine JJ_fact 0 rfl os_ok ?_
            intro ho92
            refine JJ_fact 1 rfl sl_bytes ?_
            intro hl93
            have hl93 : (s.Deps.getD ((out_45.getD (i_47 : Int).toNat 0) : Int).toNat []).length * 8 ≤ 140737488355328 := hl93
            refine JJ_fact 1 rfl sl_ok ?_
            intro ho94
            refine JJ_fact 3 rfl sl_bytes ?_
            intro hl95
            have hl95 : s.Deps.length * 24 ≤ 140737488355328 := hl95
            refine JJ_fact 4 rfl sl_bytes ?_
            intro hl96
            have hl96 : s.Transfers.length * 88 ≤ 140737488355328 := hl96
            refine JJ_fact 5 rfl sl_bytes ?_
            intro hl97
            have hl97 : s.Boundary.length * 32 ≤ 140737488355328 := hl97
            refine JJ_fact 6 rfl sl_bytes ?_
            intro hl98
            have hl98 : leaves.length * 8 ≤ 140737488355328 := hl98
            refine JJ_fact 6 rfl sl_ok ?_
            intro ho99
            refine JK_seq ?_
            refine JK_seq ?_
            refine JK_region ?_
            refine JO_q rfl rfl rfl (OpV.move rfl rfl) ?_
            refine JO_q rfl rfl rfl (OpV.move rfl rfl) ?_
            refine JO_q rfl rfl rfl (OpV.len rfl rfl sl22) ?_
            refine JO_q rfl rfl rfl (OpV.lss rfl rfl rfl) ?_
            refine JO_nil ?_
            refine JK_cond (b := decide (k_81 < (((s.Deps.getD ((out_45.getD (i_47 : Int).toNat 0) : Int).toNat []).length : Nat) : Int))) rfl (fun (h100 : decide (k_81 < (((s.Deps.getD ((out_45.getD (i_47 : Int).toNat 0) : Int).toNat []).length : Nat) : Int)) = true) => ?_) (fun (h100 : decide (k_81 < (((s.Deps.getD ((out_45.getD (i_47 : Int).toNat 0) : Int).toNat []).length : Nat) : Int)) = false) => ?_)
            · skip
              have g101 : (k_81 < (((s.Deps.getD ((out_45.getD (i_47 : Int).toNat 0) : Int).toNat []).length : Nat) : Int)) := of_decide_eq_true h100
              have hq4 := okOut_len ‹okOut (s.Boundary.length : Int) _› (by omega)
              have hq3 := Valid_dep_mem (s := s) (by simp only [h10, h15, h22, h27, h32, h37, h64, h70, h100, hg8, hg21, hg30, hg68]) (j := ((out_45.getD (i_47 : Int).toNat 0) : Int)) (by omega) (by omega) _ (getD_mem (xs := s.Deps.getD ((out_45.getD (i_47 : Int).toNat 0) : Int).toNat []) (i := (k_81 : Int).toNat) (d := 0) (by omega))
              obtain ⟨r102, rfl⟩ : ∃ q, r79 = q + 1 := ⟨r79 - 1, by omega⟩
              refine JK_skip ?_
              refine JK_seq ?_
              refine JK_block ?_
              refine JK_seq ?_
              refine JK_region ?_
              refine JO_q rfl rfl rfl (OpV.move rfl rfl) ?_
              refine JO_q rfl rfl rfl (OpV.move rfl rfl) ?_
              refine JO_q rfl rfl rfl (OpV.move rfl rfl) ?_
              refine JO_q rfl rfl rfl (OpV.indexAddr (m := 1) rfl rfl rfl sl22 rfl (isSl_sl _ _) (by first | omega | (simp only [lens]; omega) | (simp only [lens] at *; omega))) ?_
              have hb103 : -9223372036854775808 ≤ ((s.Deps.getD ((out_45.getD (i_47 : Int).toNat 0) : Int).toNat []).getD (k_81 : Int).toNat 0) ∧ ((s.Deps.getD ((out_45.getD (i_47 : Int).toNat 0) : Int).toNat []).getD (k_81 : Int).toNat 0) ≤ 9223372036854775807 := getD_ok ho94 (by first | omega | (simp only [lens]; omega) | (simp only [lens] at *; omega))
              refine JO_q rfl rfl rfl (OpV.load rfl rfl sh3 (i := 1) rfl (reads_sl _ _ _ 0 (by first | omega | (simp only [lens]; omega) | (simp only [lens] at *; omega))) rfl) ?_
              refine letv (flqref7_Has out_80 ((s.Deps.getD ((out_45.getD (i_47 : Int).toNat 0) : Int).toNat []).getD (k_81 : Int).toNat 0)) fun rv104 hg105 => ?_
              refine JO_call [0] rfl rfl rfl (OpC.fn rfl ca16 rfl) (FT_borrow (A := _) (fun _ _ h => by cases h) (FT_ent (Ent.take (is := [0]) rfl) (fn16 out_80 a82 k83 (((s.Deps.getD ((out_45.getD (i_47 : Int).toNat 0) : Int).toNat []).getD (k_81 : Int).toNat 0)) (by (try dsimp only) <;> first | (unfold i64ok; omega) | omega | assumption) rv104 hg105))) rfl ?_
              rintro - -
              refine JO_q rfl rfl rfl (OpV.not rfl rfl) ?_
              refine JO_nil ?_
              refine JK_cond (b := (!rv104)) rfl (fun (h106 : (!rv104) = true) => ?_) (fun (h106 : (!rv104) = false) => ?_)
              · skip
                have h108 : rv104 = false := not_true h106
                refine JK_region ?_
                refine JO_q rfl rfl rfl (OpV.move rfl rfl) ?_
                refine JO_q rfl rfl rfl (OpV.move rfl rfl) ?_
                refine JO_q rfl rfl rfl (OpV.move rfl rfl) ?_
                refine JO_q rfl rfl rfl (OpV.indexAddr (m := 1) rfl rfl rfl sl22 rfl (isSl_sl _ _) (by first | omega | (simp only [lens]; omega) | (simp only [lens] at *; omega))) ?_
                have hb110 : -9223372036854775808 ≤ ((s.Deps.getD ((out_45.getD (i_47 : Int).toNat 0) : Int).toNat []).getD (k_81 : Int).toNat 0) ∧ ((s.Deps.getD ((out_45.getD (i_47 : Int).toNat 0) : Int).toNat []).getD (k_81 : Int).toNat 0) ≤ 9223372036854775807 := getD_ok ho94 (by first | omega | (simp only [lens]; omega) | (simp only [lens] at *; omega))
                refine JO_q rfl rfl rfl (OpV.load rfl rfl sh3 (i := 1) rfl (reads_sl _ _ _ 0 (by first | omega | (simp only [lens]; omega) | (simp only [lens] at *; omega))) rfl) ?_
                refine JO_act rfl rfl rfl (OpA.buildSliceV [.int .i64 ((s.Deps.getD ((out_45.getD (i_47 : Int).toNat 0) : Int).toNat []).getD (k_81 : Int).toNat 0)] [.int .i64 ((s.Deps.getD ((out_45.getD (i_47 : Int).toNat 0) : Int).toNat []).getD (k_81 : Int).toNat 0)] rfl sl22 sz22 rfl (Env.evp_map rfl) rfl rfl rfl rfl) ?_
                intro c111
                refine JJ_slice 0 rfl Cr_slice ?_
                rintro a112 k113 rfl
                refine JJ_loc [0] rfl (Ent.crInt _ [((s.Deps.getD ((out_45.getD (i_47 : Int).toNat 0) : Int).toNat []).getD (k_81 : Int).toNat 0)] _ _ rfl rfl (by intro x hx; rw [List.mem_singleton] at hx; subst hx; unfold i64ok; omega) (Nat.le_of_ble_eq_true rfl)) ?_
                refine JO_act rfl rfl rfl (OpA.frame [1, 0] rfl (OpA.appO (α := Int) (xs := out_80) (ys := [((s.Deps.getD ((out_45.getD (i_47 : Int).toNat 0) : Int).toNat []).getD (k_81 : Int).toNat 0)]) rfl rfl rfl sl22 sl22 sz22 rfl rfl rfl (by show (_ + _) * 8 ≤ 140737488355328; first | omega | (simp only [lens]; omega) | (simp only [lens] at *; omega)))) ?_
                intro c114
                refine JJ_slice 0 rfl os_slice ?_
                rintro a115 k116 rfl
                refine JJ_fact 0 rfl os_bytes ?_
                intro hl117
                have hl117 : (out_80 ++ [((s.Deps.getD ((out_45.getD (i_47 : Int).toNat 0) : Int).toNat []).getD (k_81 : Int).toNat 0)]).length * 8 ≤ 140737488355328 := hl117
                refine JJ_fact 0 rfl os_ok ?_
                intro ho118
                have hn119 : ((out_80 ++ [((s.Deps.getD ((out_45.getD (i_47 : Int).toNat 0) : Int).toNat []).getD (k_81 : Int).toNat 0)]) : List Int).length = (out_80 : List Int).length + ([((s.Deps.getD ((out_45.getD (i_47 : Int).toNat 0) : Int).toNat []).getD (k_81 : Int).toNat 0)] : List Int).length := List.length_append
                refine JO_q rfl rfl rfl (OpV.assign rfl rfl) ?_
                refine JO_nil ?_
                refine JK_blk ?_
                refine JK_region ?_
                refine JO_q rfl rfl rfl (OpV.move rfl rfl) ?_
                refine JO_q rfl rfl rfl (OpV.add rfl rfl rfl (by unfold i64ok; omega)) ?_
                refine JO_q rfl rfl rfl (OpV.assign rfl rfl) ?_
                refine JO_nil ?_
                refine JK_goal (r102, (out_80 ++ [((s.Deps.getD ((out_45.getD (i_47 : Int).toNat 0) : Int).toNat []).getD (k_81 : Int).toNat 0)]), (k_81 + 1), a115, k116) ⟨(by rw [← hM84]; simp only [flqref14_Cone_L1, h10, h15, h22, h27, h32, h37, h64, h70, h100, h106, h108, hg8, hg21, hg30, hg68, hg105, cs4]), (by omega), (by omega), (by omega), (by omega), (by first | assumption | exact okOut_push (by assumption) (by simp only [h10, h15, h22, h27, h32, h37, h64, h70, h100, h106, h108, hg8, hg21, hg30, hg68, hg105]) (by omega) (by omega)), (by first | omega | (simp only [lens]; omega) | assumption)⟩ (by show r102 < r102 + 1; omega) (Env.sub_all rfl) (Ent.take (is := [0, 0, 1, 2, 3, 4, 5]) rfl)
              · skip
                have h121 : rv104 = true := not_false h106
                refine JK_skip ?_
                refine JK_blk ?_
                refine JK_region ?_
                refine JO_q rfl rfl rfl (OpV.move rfl rfl) ?_
                refine JO_q rfl rfl rfl (OpV.add rfl rfl rfl (by unfold i64ok; omega)) ?_
                refine JO_q rfl rfl rfl (OpV.assign rfl rfl) ?_
                refine JO_nil ?_
                refine JK_goal (r102, out_80, (k_81 + 1), a82, k83) ⟨(by rw [← hM84]; simp only [flqref14_Cone_L1, h10, h15, h22, h27, h32, h37, h64, h70, h100, h106, h121, hg8, hg21, hg30, hg68, hg105, cs4]), (by omega), (by omega), (by omega), (by omega), (by first | assumption | exact okOut_push (by assumption) (by simp only [h10, h15, h22, h27, h32, h37, h64, h70, h100, h106, h121, hg8, hg21, hg30, hg68, hg105]) (by omega) (by omega)), (by first | omega | (simp only [lens]; omega) | assumption)⟩ (by show r102 < r102 + 1; omega) (Env.sub_all rfl) (Ent.take (is := [0, 0, 1, 2, 3, 4, 5]) rfl)
            · skip
              have g123 : ¬ (k_81 < (((s.Deps.getD ((out_45.getD (i_47 : Int).toNat 0) : Int).toNat []).length : Nat) : Int)) := of_decide_eq_false h100
              obtain rfl : r79 = 0 := by omega
              refine JK_exit rfl ?_
              have hR124 : flqref14_Cone_L1 (s.Deps.getD ((out_45.getD (i_47 : Int).toNat 0) : Int).toNat []) ((((((s.Deps.getD ((out_45.getD (i_47 : Int).toNat 0) : Int).toNat []).length : Nat) : Int) : Int) - 0).toNat) out_45 0 = out_80 := by
                rw [← hM84]; simp only [flqref14_Cone_L1, h10, h15, h22, h27, h32, h37, h64, h70, h100, hg8, hg21, hg30, hg68, cs4]
              refine JK_blk ?_
              refine JK_region ?_
              refine JO_q rfl rfl rfl (OpV.move rfl rfl) ?_
              refine JO_q rfl rfl rfl (OpV.add rfl rfl rfl (by unfold i64ok; omega)) ?_
              refine JO_q rfl rfl rfl (OpV.assign rfl rfl) ?_
              refine JO_nil ?_
              refine JK_goal (r44, out_80, ((cost_46 + 1) + (((s.Deps.getD ((out_45.getD (i_47 : Int).toNat 0) : Int).toNat []).length : Nat) : Int)), (i_47 + 1), a82, k83) ⟨(by rw [← hM50]; simp only [flqref14_Cone_L0, h10, h15, h22, h27, h32, h37, h64, h70, h100, hg8, hg21, hg30, hg68, hR124, cs4]), (by omega), (by omega), (by assumption), (by first | omega | (simp only [lens]; omega) | assumption), (by first | omega | (simp only [lens]; omega) | assumption)⟩ (by show r44 < r44 + 1; omega) (Env.sub_all rfl) (Ent.take (is := [0, 1, 2, 3, 4, 5]) rfl)
        · skip
          have g125 : ¬ (i_47 < ((out_45.length : Nat) : Int)) := of_decide_eq_false h64
          refine JK_exit rfl ?_
          have hR126 : flqref14_Cone_L0 s leaves (s.Deps.length + 1) [root] 0 0 = LR.brk (out_45, cost_46) := by
            rw [← hM50]; simp only [flqref14_Cone_L0, h10, h15, h22, h27, h32, h37, h64, hg8, hg21, hg30, cs4]
          refine JK_seq ?_
          refine JK_region ?_
          refine JO_q rfl rfl rfl (OpV.move rfl rfl) ?_
          refine JO_q rfl rfl rfl (OpV.move rfl rfl) ?_
          refine JO_q rfl rfl rfl (OpV.assign rfl rfl) ?_
          refine JO_q rfl rfl rfl (OpV.assign rfl rfl) ?_
          refine JO_q rfl rfl rfl (OpV.assign rfl rfl) ?_
          refine JO_nil ?_
          refine JJ_loc [0] rfl (Ent.freeze _ _) ?_
          have hq : rr = (out_45, cost_46, 0) := hrr.symm.trans (by simp only [flqref14_Cone, h10, h15, h22, h27, h32, h37, h64, hg8, hg21, hg30, hR126, cs4])
          replace hrr := hrr.trans hq
          subst rr
          refine JK_return (.slice a48 out_45.length k49) rfl (.tmp rfl (.tmp rfl (.tmp rfl .nil))) rfl (by refine ⟨?_, ?_⟩ <;> (try dsimp only) <;> first | omega | (unfold i64ok; omega) | (simp only [lens]; omega) | assumption | trivial) (Ent.take (is := [0]) rfl)
set_option maxHeartbeats 20000000 in
set_option maxRecDepth 100000 in
/- flowquery/equations.sized -/
theorem fn42 (width : Int) (n : Int) (hwidth_0 : i64ok width) (hn_0 : i64ok n) (rr : Bool) (hrr : equations_sized width n = rr) :
    FT Try.prog 42 #[.int .i64 width, .int .i64 n] []
      (fun g : Unit => True)
      (fun g => .bool rr)
      (fun g => []) := by
  refine FT_intro (args := [.int .i64 width, .int .i64 n]) Try.func42 rfl rfl ?_
  intro w0 M0 F0
  have hwidth_0 : -9223372036854775808 ≤ width ∧ width ≤ 9223372036854775807 := hwidth_0
  have hn_0 : -9223372036854775808 ≤ n ∧ n ≤ 9223372036854775807 := hn_0
  refine JK_seq ?_
  refine JK_region ?_
  refine JO_q rfl rfl rfl (OpV.assign rfl rfl) ?_
  refine JO_nil ?_
  refine JK_seq ?_
  refine JK_region ?_
  refine JO_q rfl rfl rfl (OpV.move rfl rfl) ?_
  refine JO_q rfl rfl rfl (OpV.geq rfl rfl rfl) ?_
  refine JO_q rfl rfl rfl (OpV.move rfl rfl) ?_
  refine JJ_split 7 rfl (fun (h1 : decide (0 ≤ width) = true) => ?_) (fun (h1 : decide (0 ≤ width) = false) => ?_)
  · skip
    have g2 : (0 ≤ width) := of_decide_eq_true h1
    refine JO_taken rfl rfl rfl rfl ?_
    refine JO_q rfl rfl rfl (OpV.move rfl rfl) ?_
    refine JO_taken rfl rfl rfl rfl ?_
    refine JO_q rfl rfl rfl (OpV.leq rfl rfl rfl) ?_
    refine JO_q rfl rfl rfl (OpV.pickT rfl rfl rfl) ?_
    refine JO_q rfl rfl rfl (OpV.move rfl rfl) ?_
    refine JJ_split 11 rfl (fun (h3 : decide (width ≤ 256) = true) => ?_) (fun (h3 : decide (width ≤ 256) = false) => ?_)
    · skip
      have g4 : (width ≤ 256) := of_decide_eq_true h3
      refine JO_taken rfl rfl rfl rfl ?_
      refine JO_q rfl rfl rfl (OpV.move rfl rfl) ?_
      refine JO_taken rfl rfl rfl rfl ?_
      refine JO_q rfl rfl rfl (OpV.geq rfl rfl rfl) ?_
      refine JO_q rfl rfl rfl (OpV.pickT rfl rfl rfl) ?_
      refine JO_q rfl rfl rfl (OpV.move rfl rfl) ?_
      refine JJ_split 15 rfl (fun (h5 : decide (1 ≤ n) = true) => ?_) (fun (h5 : decide (1 ≤ n) = false) => ?_)
      · skip
        have g6 : (1 ≤ n) := of_decide_eq_true h5
        refine JO_taken rfl rfl rfl rfl ?_
        refine JO_q rfl rfl rfl (OpV.move rfl rfl) ?_
        refine JO_taken rfl rfl rfl rfl ?_
        refine JO_q rfl rfl rfl (OpV.leq rfl rfl rfl) ?_
        refine JO_q rfl rfl rfl (OpV.pickT rfl rfl rfl) ?_
        refine JO_q rfl rfl rfl (OpV.assign rfl rfl) ?_
        refine JO_nil ?_
        have hq : rr = decide (n ≤ 256) := hrr.symm.trans (by simp only [equations_sized, h1, h3, h5, cs4])
        replace hrr := hrr.trans hq
        subst rr
        refine JK_return (()) rfl (.tmp rfl .nil) rfl trivial (Ent.take (is := []) rfl)
      · skip
        have g7 : ¬ (1 ≤ n) := of_decide_eq_false h5
        refine JO_skip rfl rfl rfl rfl rfl rfl ?_
        refine JO_skip rfl rfl rfl rfl rfl rfl ?_
        refine JO_q rfl rfl rfl (OpV.pickF rfl rfl rfl) ?_
        refine JO_q rfl rfl rfl (OpV.assign rfl rfl) ?_
        refine JO_nil ?_
        have hq : rr = false := hrr.symm.trans (by simp only [equations_sized, h1, h3, h5, cs4])
        replace hrr := hrr.trans hq
        subst rr
        refine JK_return (()) rfl (.tmp rfl .nil) rfl trivial (Ent.take (is := []) rfl)
    · skip
      have g8 : ¬ (width ≤ 256) := of_decide_eq_false h3
      refine JO_skip rfl rfl rfl rfl rfl rfl ?_
      refine JO_skip rfl rfl rfl rfl rfl rfl ?_
      refine JO_q rfl rfl rfl (OpV.pickF rfl rfl rfl) ?_
      refine JO_q rfl rfl rfl (OpV.move rfl rfl) ?_
      refine JO_skip rfl rfl rfl rfl rfl rfl ?_
      refine JO_skip rfl rfl rfl rfl rfl rfl ?_
      refine JO_q rfl rfl rfl (OpV.pickF rfl rfl rfl) ?_
      refine JO_q rfl rfl rfl (OpV.assign rfl rfl) ?_
      refine JO_nil ?_
      have hq : rr = false := hrr.symm.trans (by simp only [equations_sized, h1, h3, cs4])
      replace hrr := hrr.trans hq
      subst rr
      refine JK_return (()) rfl (.tmp rfl .nil) rfl trivial (Ent.take (is := []) rfl)
  · skip
    have g9 : ¬ (0 ≤ width) := of_decide_eq_false h1
    refine JO_skip rfl rfl rfl rfl rfl rfl ?_
    refine JO_skip rfl rfl rfl rfl rfl rfl ?_
    refine JO_q rfl rfl rfl (OpV.pickF rfl rfl rfl) ?_
    refine JO_q rfl rfl rfl (OpV.move rfl rfl) ?_
    refine JO_skip rfl rfl rfl rfl rfl rfl ?_
    refine JO_skip rfl rfl rfl rfl rfl rfl ?_
    refine JO_q rfl rfl rfl (OpV.pickF rfl rfl rfl) ?_
    refine JO_q rfl rfl rfl (OpV.move rfl rfl) ?_
    refine JO_skip rfl rfl rfl rfl rfl rfl ?_
    refine JO_skip rfl rfl rfl rfl rfl rfl ?_
    refine JO_q rfl rfl rfl (OpV.pickF rfl rfl rfl) ?_
    refine JO_q rfl rfl rfl (OpV.assign rfl rfl) ?_
    refine JO_nil ?_
    have hq : rr = false := hrr.symm.trans (by simp only [equations_sized, h1, cs4])
    replace hrr := hrr.trans hq
    subst rr
    refine JK_return (()) rfl (.tmp rfl .nil) rfl trivial (Ent.take (is := []) rfl)
set_option maxHeartbeats 20000000 in
set_option maxRecDepth 100000 in
/- flowquery/equations.ascending -/
theorem fn43 (l : List Int) (la0 : Option Addr) (lk0 : Nat) (n : Int) (hn_0 : i64ok n) (rr : Bool) (hrr : equations_ascending l n = rr) :
    FT Try.prog 43 #[.slice la0 l.length lk0, .int .i64 n] [sl (.slice la0 l.length lk0) (l : List Int)]
      (fun g : Unit => True)
      (fun g => .bool rr)
      (fun g => []) := by
  refine FT_intro (args := [.slice la0 l.length lk0, .int .i64 n]) Try.func43 rfl rfl ?_
  intro w0 M0 F0
  have hn_0 : -9223372036854775808 ≤ n ∧ n ≤ 9223372036854775807 := hn_0
  refine JJ_fact 0 rfl sl_bytes ?_
  intro hl1
  have hl1 : l.length * 8 ≤ 140737488355328 := hl1
  refine JJ_fact 0 rfl sl_ok ?_
  intro ho2
  refine JK_seq ?_
  refine JK_region ?_
  refine JO_q rfl rfl rfl (OpV.assign rfl rfl) ?_
  refine JO_nil ?_
  refine JK_seq ?_
  refine JK_seq ?_
  refine JK_region ?_
  refine JO_q rfl rfl rfl (OpV.move rfl rfl) ?_
  refine JO_q rfl rfl rfl (OpV.len rfl rfl sl22) ?_
  refine JO_q rfl rfl rfl (OpV.move rfl rfl) ?_
  refine JO_nil ?_
  refine JK_block ?_
  refine JK_loop (γ := Nat × Int) (fun (r3, v9_4) => [(0, .slice la0 l.length lk0), (1, .int .i64 n), (7, .slice la0 l.length lk0), (8, .int .i64 ((l.length : Nat) : Int)), (9, .int .i64 v9_4)]) (fun (r3, v9_4) => [sl (.slice la0 l.length lk0) (l : List Int)]) (fun (r3, v9_4) => equations_ascending_L0 l n r3 v9_4 = equations_ascending_L0 l n (((((l.length : Nat) : Int) : Int) - 0).toNat) 0 ∧ r3 = ((((l.length : Nat) : Int) : Int) - v9_4).toNat ∧ (0 : Int) ≤ v9_4 ∧ (v9_4 ≤ ((l.length : Nat) : Int) ∨ v9_4 = 0) ∧ (-9223372036854775808 ≤ v9_4 ∧ v9_4 ≤ 9223372036854775807)) (fun (r3, v9_4) => r3) (((((l.length : Nat) : Int) : Int) - 0).toNat, 0) ⟨rfl, rfl, (by omega), (.inr rfl), (by omega)⟩ (Env.sub_all rfl) (Ent.take (is := [0]) rfl) ?_
  rintro ⟨r3, v9_4⟩ ⟨hM5, hr6, hi7, hi8, hk9⟩
  refine JJ_norm (L := [(0, .slice la0 l.length lk0), (1, .int .i64 n), (7, .slice la0 l.length lk0), (8, .int .i64 ((l.length : Nat) : Int)), (9, .int .i64 v9_4)]) (A := [sl (.slice la0 l.length lk0) (l : List Int)]) rfl rfl ?_
  refine JJ_fact 0 rfl sl_bytes ?_
  intro hl10
  have hl10 : l.length * 8 ≤ 140737488355328 := hl10
  refine JJ_fact 0 rfl sl_ok ?_
  intro ho11
  refine JK_seq ?_
  refine JK_region ?_
  refine JO_q rfl rfl rfl (OpV.lss rfl rfl rfl) ?_
  refine JO_nil ?_
  refine JK_seq ?_
  refine JK_cond (b := decide (v9_4 < ((l.length : Nat) : Int))) rfl (fun (h12 : decide (v9_4 < ((l.length : Nat) : Int)) = true) => ?_) (fun (h12 : decide (v9_4 < ((l.length : Nat) : Int)) = false) => ?_)
  · skip
    have g13 : (v9_4 < ((l.length : Nat) : Int)) := of_decide_eq_true h12
    obtain ⟨r14, rfl⟩ : ∃ q, r3 = q + 1 := ⟨r3 - 1, by omega⟩
    refine JK_skip ?_
    refine JK_seq ?_
    refine JK_block ?_
    refine JK_seq ?_
    refine JK_region ?_
    refine JO_q rfl rfl rfl (OpV.move rfl rfl) ?_
    refine JO_q rfl rfl rfl (OpV.indexAddr (m := 0) rfl rfl rfl sl22 rfl (isSl_sl _ _) (by first | omega | (simp only [lens]; omega) | (simp only [lens] at *; omega))) ?_
    have hb15 : -9223372036854775808 ≤ (l.getD (v9_4 : Int).toNat 0) ∧ (l.getD (v9_4 : Int).toNat 0) ≤ 9223372036854775807 := getD_ok ho11 (by first | omega | (simp only [lens]; omega) | (simp only [lens] at *; omega))
    refine JO_q rfl rfl rfl (OpV.load rfl rfl sh3 (i := 0) rfl (reads_sl _ _ _ 0 (by first | omega | (simp only [lens]; omega) | (simp only [lens] at *; omega))) rfl) ?_
    refine JO_q rfl rfl rfl (OpV.assign rfl rfl) ?_
    refine JO_q rfl rfl rfl (OpV.assign rfl rfl) ?_
    refine JO_nil ?_
    refine JK_seq ?_
    refine JK_region ?_
    refine JO_q rfl rfl rfl (OpV.move rfl rfl) ?_
    refine JO_q rfl rfl rfl (OpV.lss rfl rfl rfl) ?_
    refine JO_q rfl rfl rfl (OpV.move rfl rfl) ?_
    refine JJ_split 16 rfl (fun (h16 : decide ((l.getD (v9_4 : Int).toNat 0) < 0) = true) => ?_) (fun (h16 : decide ((l.getD (v9_4 : Int).toNat 0) < 0) = false) => ?_)
    · skip
      have g17 : ((l.getD (v9_4 : Int).toNat 0) < 0) := of_decide_eq_true h16
      refine JO_skip rfl rfl rfl rfl rfl rfl ?_
      refine JO_skip rfl rfl rfl rfl rfl rfl ?_
      refine JO_skip rfl rfl rfl rfl rfl rfl ?_
      refine JO_q rfl rfl rfl (OpV.pickT rfl rfl rfl) ?_
      refine JO_q rfl rfl rfl (OpV.move rfl rfl) ?_
      refine JO_skip rfl rfl rfl rfl rfl rfl ?_
      refine JO_skip rfl rfl rfl rfl rfl rfl ?_
      refine JO_skip rfl rfl rfl rfl rfl rfl ?_
      refine JO_skipU rfl rfl rfl rfl rfl rfl ?_
      refine JO_skipU rfl rfl rfl rfl rfl rfl ?_
      refine JO_skipU rfl rfl rfl rfl rfl rfl ?_
      refine JO_skipU rfl rfl rfl rfl rfl rfl ?_
      refine JO_skipU rfl rfl rfl rfl rfl rfl ?_
      refine JO_skipU rfl rfl rfl rfl rfl rfl ?_
      refine JO_skipU rfl rfl rfl rfl rfl rfl ?_
      refine JO_skip rfl rfl rfl rfl rfl rfl ?_
      refine JO_q rfl rfl rfl (OpV.pickT rfl rfl rfl) ?_
      refine JO_nil ?_
      refine JK_condT rfl ?_
      refine JK_seq ?_
      refine JK_region ?_
      refine JO_q rfl rfl rfl (OpV.assign rfl rfl) ?_
      refine JO_nil ?_
      have hR18 : equations_ascending_L0 l n (((((l.length : Nat) : Int) : Int) - 0).toNat) 0 = LR.ret false := by
        rw [← hM5]; simp only [equations_ascending_L0, h12, h16, cs4]
      have hq : rr = false := hrr.symm.trans (by simp only [equations_ascending, h12, h16, hR18, cs4])
      replace hrr := hrr.trans hq
      subst rr
      refine JK_return (()) rfl (.tmp rfl .nil) rfl trivial (Ent.take (is := []) rfl)
    · skip
      have g19 : ¬ ((l.getD (v9_4 : Int).toNat 0) < 0) := of_decide_eq_false h16
      refine JO_taken rfl rfl rfl rfl ?_
      refine JO_q rfl rfl rfl (OpV.move rfl rfl) ?_
      refine JO_taken rfl rfl rfl rfl ?_
      refine JO_q rfl rfl rfl (OpV.move rfl rfl) ?_
      refine JO_taken rfl rfl rfl rfl ?_
      refine JO_q rfl rfl rfl (OpV.geq rfl rfl rfl) ?_
      refine JO_q rfl rfl rfl (OpV.pickF rfl rfl rfl) ?_
      refine JO_q rfl rfl rfl (OpV.move rfl rfl) ?_
      refine JJ_split 21 rfl (fun (h20 : decide (n ≤ (l.getD (v9_4 : Int).toNat 0)) = true) => ?_) (fun (h20 : decide (n ≤ (l.getD (v9_4 : Int).toNat 0)) = false) => ?_)
      · skip
        have g21 : (n ≤ (l.getD (v9_4 : Int).toNat 0)) := of_decide_eq_true h20
        refine JO_skip rfl rfl rfl rfl rfl rfl ?_
        refine JO_skip rfl rfl rfl rfl rfl rfl ?_
        refine JO_skip rfl rfl rfl rfl rfl rfl ?_
        refine JO_skipU rfl rfl rfl rfl rfl rfl ?_
        refine JO_skipU rfl rfl rfl rfl rfl rfl ?_
        refine JO_skipU rfl rfl rfl rfl rfl rfl ?_
        refine JO_skipU rfl rfl rfl rfl rfl rfl ?_
        refine JO_skipU rfl rfl rfl rfl rfl rfl ?_
        refine JO_skipU rfl rfl rfl rfl rfl rfl ?_
        refine JO_skipU rfl rfl rfl rfl rfl rfl ?_
        refine JO_skip rfl rfl rfl rfl rfl rfl ?_
        refine JO_q rfl rfl rfl (OpV.pickT rfl rfl rfl) ?_
        refine JO_nil ?_
        refine JK_condT rfl ?_
        refine JK_seq ?_
        refine JK_region ?_
        refine JO_q rfl rfl rfl (OpV.assign rfl rfl) ?_
        refine JO_nil ?_
        have hR22 : equations_ascending_L0 l n (((((l.length : Nat) : Int) : Int) - 0).toNat) 0 = LR.ret false := by
          rw [← hM5]; simp only [equations_ascending_L0, h12, h16, h20, cs4]
        have hq : rr = false := hrr.symm.trans (by simp only [equations_ascending, h12, h16, h20, hR22, cs4])
        replace hrr := hrr.trans hq
        subst rr
        refine JK_return (()) rfl (.tmp rfl .nil) rfl trivial (Ent.take (is := []) rfl)
      · skip
        have g23 : ¬ (n ≤ (l.getD (v9_4 : Int).toNat 0)) := of_decide_eq_false h20
        refine JO_taken rfl rfl rfl rfl ?_
        refine JO_q rfl rfl rfl (OpV.move rfl rfl) ?_
        refine JO_taken rfl rfl rfl rfl ?_
        refine JO_q rfl rfl rfl (OpV.gtr rfl rfl rfl) ?_
        refine JO_taken rfl rfl rfl rfl ?_
        refine JO_q rfl rfl rfl (OpV.move rfl rfl) ?_
        refine JJ_split 24 rfl (fun (h24 : decide (0 < v9_4) = true) => ?_) (fun (h24 : decide (0 < v9_4) = false) => ?_)
        · skip
          have g25 : (0 < v9_4) := of_decide_eq_true h24
          refine JO_taken rfl rfl rfl rfl ?_
          refine JO_q rfl rfl rfl (OpV.move rfl rfl) ?_
          refine JO_taken rfl rfl rfl rfl ?_
          refine JO_q rfl rfl rfl (OpV.move rfl rfl) ?_
          refine JO_taken rfl rfl rfl rfl ?_
          refine JO_q rfl rfl rfl (OpV.move rfl rfl) ?_
          refine JO_taken rfl rfl rfl rfl ?_
          refine JO_q rfl rfl rfl (OpV.sub rfl rfl rfl (by unfold i64ok; omega)) ?_
          refine JO_taken rfl rfl rfl rfl ?_
          refine JO_q rfl rfl rfl (OpV.indexAddr (m := 0) rfl rfl rfl sl22 rfl (isSl_sl _ _) (by first | omega | (simp only [lens]; omega) | (simp only [lens] at *; omega))) ?_
          refine JO_taken rfl rfl rfl rfl ?_
          have hb26 : -9223372036854775808 ≤ (l.getD ((v9_4 - 1) : Int).toNat 0) ∧ (l.getD ((v9_4 - 1) : Int).toNat 0) ≤ 9223372036854775807 := getD_ok ho11 (by first | omega | (simp only [lens]; omega) | (simp only [lens] at *; omega))
          refine JO_q rfl rfl rfl (OpV.load rfl rfl sh3 (i := 0) rfl (reads_sl _ _ _ 0 (by first | omega | (simp only [lens]; omega) | (simp only [lens] at *; omega))) rfl) ?_
          refine JO_taken rfl rfl rfl rfl ?_
          refine JO_q rfl rfl rfl (OpV.leq rfl rfl rfl) ?_
          refine JO_taken rfl rfl rfl rfl ?_
          refine JO_q rfl rfl rfl (OpV.pickT rfl rfl rfl) ?_
          refine JO_q rfl rfl rfl (OpV.pickF rfl rfl rfl) ?_
          refine JO_nil ?_
          refine JK_cond (b := decide ((l.getD (v9_4 : Int).toNat 0) ≤ (l.getD ((v9_4 - 1) : Int).toNat 0))) rfl (fun (h27 : decide ((l.getD (v9_4 : Int).toNat 0) ≤ (l.getD ((v9_4 - 1) : Int).toNat 0)) = true) => ?_) (fun (h27 : decide ((l.getD (v9_4 : Int).toNat 0) ≤ (l.getD ((v9_4 - 1) : Int).toNat 0)) = false) => ?_)
          · skip
            have g28 : ((l.getD (v9_4 : Int).toNat 0) ≤ (l.getD ((v9_4 - 1) : Int).toNat 0)) := of_decide_eq_true h27
            refine JK_seq ?_
            refine JK_region ?_
            refine JO_q rfl rfl rfl (OpV.assign rfl rfl) ?_
            refine JO_nil ?_
            have hR29 : equations_ascending_L0 l n (((((l.length : Nat) : Int) : Int) - 0).toNat) 0 = LR.ret false := by
              rw [← hM5]; simp only [equations_ascending_L0, h12, h16, h20, h24, h27, cs4]
            have hq : rr = false := hrr.symm.trans (by simp only [equations_ascending, h12, h16, h20, h24, h27, hR29, cs4])
            replace hrr := hrr.trans hq
            subst rr
            refine JK_return (()) rfl (.tmp rfl .nil) rfl trivial (Ent.take (is := []) rfl)
          · skip
            have g30 : ¬ ((l.getD (v9_4 : Int).toNat 0) ≤ (l.getD ((v9_4 - 1) : Int).toNat 0)) := of_decide_eq_false h27
            refine JK_skip ?_
            refine JK_blk ?_
            refine JK_region ?_
            refine JO_q rfl rfl rfl (OpV.add rfl rfl rfl (by unfold i64ok; omega)) ?_
            refine JO_q rfl rfl rfl (OpV.move rfl rfl) ?_
            refine JO_nil ?_
            refine JK_goal (r14, (v9_4 + 1)) ⟨(by rw [← hM5]; simp only [equations_ascending_L0, h12, h16, h20, h24, h27, cs4]), (by omega), (by omega), (by omega), (by omega)⟩ (by show r14 < r14 + 1; omega) (Env.sub_all rfl) (Ent.take (is := [0]) rfl)
        · skip
          have g31 : ¬ (0 < v9_4) := of_decide_eq_false h24
          refine JO_skip rfl rfl rfl rfl rfl rfl ?_
          refine JO_skip rfl rfl rfl rfl rfl rfl ?_
          refine JO_skip rfl rfl rfl rfl rfl rfl ?_
          refine JO_skip rfl rfl rfl rfl rfl rfl ?_
          refine JO_skip rfl rfl rfl rfl rfl rfl ?_
          refine JO_skip rfl rfl rfl rfl rfl rfl ?_
          refine JO_skip rfl rfl rfl rfl rfl rfl ?_
          refine JO_taken rfl rfl rfl rfl ?_
          refine JO_q rfl rfl rfl (OpV.pickF rfl rfl rfl) ?_
          refine JO_q rfl rfl rfl (OpV.pickF rfl rfl rfl) ?_
          refine JO_nil ?_
          refine JK_condF rfl ?_
          refine JK_skip ?_
          refine JK_blk ?_
          refine JK_region ?_
          refine JO_q rfl rfl rfl (OpV.add rfl rfl rfl (by unfold i64ok; omega)) ?_
          refine JO_q rfl rfl rfl (OpV.move rfl rfl) ?_
          refine JO_nil ?_
          refine JK_goal (r14, (v9_4 + 1)) ⟨(by rw [← hM5]; simp only [equations_ascending_L0, h12, h16, h20, h24, cs4]), (by omega), (by omega), (by omega), (by omega)⟩ (by show r14 < r14 + 1; omega) (Env.sub_all rfl) (Ent.take (is := [0]) rfl)
  · skip
    have g32 : ¬ (v9_4 < ((l.length : Nat) : Int)) := of_decide_eq_false h12
    obtain rfl : r3 = 0 := by omega
    refine JK_exit rfl ?_
    have hR33 : equations_ascending_L0 l n (((((l.length : Nat) : Int) : Int) - 0).toNat) 0 = LR.brk () := by
      rw [← hM5]; simp only [equations_ascending_L0, h12, cs4]
    refine JK_seq ?_
    refine JK_region ?_
    refine JO_q rfl rfl rfl (OpV.assign rfl rfl) ?_
    refine JO_nil ?_
    have hq : rr = true := hrr.symm.trans (by simp only [equations_ascending, h12, hR33, cs4])
    replace hrr := hrr.trans hq
    subst rr
    refine JK_return (()) rfl (.tmp rfl .nil) rfl trivial (Ent.take (is := []) rfl)
set_option maxHeartbeats 20000000 in
set_option maxRecDepth 100000 in
/- slices.IndexFunc[[]flowquery/api.Set,flowquery/api.Set] -/
theorem fn57 (s : List GSet) (sa0 : Option Addr) (sk0 : Nat) (fF : FuncId) (fC : List Value) (fp : GSet → Bool) (fA : List SP) (hfc : callable Try.prog fF = true) (hfF : ∀ x ∈ s, ∀ (a1 : Option Addr) (k1 : Nat), i64ok x.Width → FT Try.prog fF ([(.agg #[.int .i64 x.Width, .slice a1 x.Words.length k1] : Value)] ++ fC).toArray ([sl (.slice a1 x.Words.length k1) (x.Words : List (BitVec 64))] ++ [pAll fA]) (fun _ : Unit => True) (fun _ => .bool (fp x)) (fun _ => [])) (rr : Int) (hrr : slices_IndexFunc_Set s fp = rr) :
    FT Try.prog 57 #[.slice sa0 s.length sk0, .func (.func fF) #[] fC.toArray] [sl (.slice sa0 s.length sk0) (s : List GSet), pAll fA]
      (fun g : Unit => i64ok rr)
      (fun g => .int .i64 rr)
      (fun g => []) := by
  refine FT_intro (args := [.slice sa0 s.length sk0, .func (.func fF) #[] fC.toArray]) Try.func57 rfl rfl ?_
  intro w0 M0 F0
  refine JJ_fact 0 rfl sl_bytes ?_
  intro hl1
  have hl1 : s.length * 32 ≤ 140737488355328 := hl1
  refine JK_seq ?_
  refine JK_region ?_
  refine JO_q rfl rfl rfl (OpV.assign rfl rfl) ?_
  refine JO_nil ?_
  refine JK_seq ?_
  refine JK_seq ?_
  refine JK_region ?_
  refine JO_q rfl rfl rfl (OpV.move rfl rfl) ?_
  refine JO_q rfl rfl rfl (OpV.len rfl rfl sl25) ?_
  refine JO_q rfl rfl rfl (OpV.move rfl rfl) ?_
  refine JO_nil ?_
  refine JK_block ?_
  refine JK_loop (γ := Nat × Int) (fun (r2, v8_3) => [(0, .slice sa0 s.length sk0), (1, .func (.func fF) #[] fC.toArray), (7, .int .i64 ((s.length : Nat) : Int)), (8, .int .i64 v8_3)]) (fun (r2, v8_3) => [sl (.slice sa0 s.length sk0) (s : List GSet), pAll fA]) (fun (r2, v8_3) => slices_IndexFunc_Set_L0 s fp r2 v8_3 = slices_IndexFunc_Set_L0 s fp (((((s.length : Nat) : Int) : Int) - 0).toNat) 0 ∧ r2 = ((((s.length : Nat) : Int) : Int) - v8_3).toNat ∧ (0 : Int) ≤ v8_3 ∧ (v8_3 ≤ ((s.length : Nat) : Int) ∨ v8_3 = 0) ∧ (-9223372036854775808 ≤ v8_3 ∧ v8_3 ≤ 9223372036854775807)) (fun (r2, v8_3) => r2) (((((s.length : Nat) : Int) : Int) - 0).toNat, 0) ⟨rfl, rfl, (by omega), (.inr rfl), (by omega)⟩ (Env.sub_all rfl) (Ent.take (is := [0, 1]) rfl) ?_
  rintro ⟨r2, v8_3⟩ ⟨hM4, hr5, hi6, hi7, hk8⟩
  refine JJ_norm (L := [(0, .slice sa0 s.length sk0), (1, .func (.func fF) #[] fC.toArray), (7, .int .i64 ((s.length : Nat) : Int)), (8, .int .i64 v8_3)]) (A := [sl (.slice sa0 s.length sk0) (s : List GSet), pAll fA]) rfl rfl ?_
  refine JJ_fact 0 rfl sl_bytes ?_
  intro hl9
  have hl9 : s.length * 32 ≤ 140737488355328 := hl9
  refine JK_seq ?_
  refine JK_region ?_
  refine JO_q rfl rfl rfl (OpV.lss rfl rfl rfl) ?_
  refine JO_nil ?_
  refine JK_seq ?_
  refine JK_cond (b := decide (v8_3 < ((s.length : Nat) : Int))) rfl (fun (h10 : decide (v8_3 < ((s.length : Nat) : Int)) = true) => ?_) (fun (h10 : decide (v8_3 < ((s.length : Nat) : Int)) = false) => ?_)
  · skip
    have g11 : (v8_3 < ((s.length : Nat) : Int)) := of_decide_eq_true h10
    obtain ⟨r12, rfl⟩ : ∃ q, r2 = q + 1 := ⟨r2 - 1, by omega⟩
    refine JK_skip ?_
    refine JK_seq ?_
    refine JK_block ?_
    refine JK_seq ?_
    refine JK_region ?_
    refine JO_q rfl rfl rfl (OpV.move rfl rfl) ?_
    refine JO_q rfl rfl rfl (OpV.assign rfl rfl) ?_
    refine JO_nil ?_
    refine JK_seq ?_
    refine JK_region ?_
    refine JO_q rfl rfl rfl (OpV.move rfl rfl) ?_
    refine JO_q rfl rfl rfl (OpV.move rfl rfl) ?_
    refine JO_q rfl rfl rfl (OpV.move rfl rfl) ?_
    refine JO_q rfl rfl rfl (OpV.indexAddr (m := 0) rfl rfl rfl sl25 rfl (isSl_sl _ _) (by first | omega | (simp only [lens]; omega) | (simp only [lens] at *; omega))) ?_
    refine JJ_peek_GSet (v8_3 : Int).toNat 0 rfl (by omega) ?_
    intro a13 k14 hb15
    have hb15 : -9223372036854775808 ≤ (s.getD (v8_3 : Int).toNat default).Width ∧ (s.getD (v8_3 : Int).toNat default).Width ≤ 9223372036854775807 := hb15
    refine JJ_fact 1 rfl sl_bytes ?_
    intro hl16
    have hl16 : ((s.getD (v8_3 : Int).toNat default).Words).length * 8 ≤ 140737488355328 := hl16
    refine JO_q rfl rfl rfl (OpV.loadA rfl rfl sh50 (i := 0) rfl (reads_pv _ _) rfl) ?_
    refine JO_call [1, 3] rfl rfl rfl (OpC.clo («as» := [(.agg #[.int .i64 ((s.getD (v8_3 : Int).toNat default).Width), .slice a13 (((s.getD (v8_3 : Int).toNat default).Words).length) k14] : Value)] ++ fC) rfl rfl hfc rfl (by simp)) (hfF (s.getD (v8_3 : Int).toNat default) (getD_mem (by first | omega | (simp only [lens]; omega) | (simp only [lens] at *; omega))) a13 k14 (by unfold i64ok; omega)) rfl ?_
    rintro - -
    refine JO_nil ?_
    refine JK_cond (b := (fp (s.getD (v8_3 : Int).toNat default))) rfl (fun (h17 : (fp (s.getD (v8_3 : Int).toNat default)) = true) => ?_) (fun (h17 : (fp (s.getD (v8_3 : Int).toNat default)) = false) => ?_)
    · skip
      refine JK_seq ?_
      refine JK_region ?_
      refine JO_q rfl rfl rfl (OpV.move rfl rfl) ?_
      refine JO_q rfl rfl rfl (OpV.assign rfl rfl) ?_
      refine JO_nil ?_
      have hR19 : slices_IndexFunc_Set_L0 s fp (((((s.length : Nat) : Int) : Int) - 0).toNat) 0 = LR.ret v8_3 := by
        rw [← hM4]; simp only [slices_IndexFunc_Set_L0, h10, h17, cs4]
      have hq : rr = v8_3 := hrr.symm.trans (by simp only [slices_IndexFunc_Set, h10, h17, hR19, cs4])
      replace hrr := hrr.trans hq
      subst rr
      refine JK_return (()) rfl (.tmp rfl .nil) rfl (by (try dsimp only) <;> first | omega | (unfold i64ok; omega) | (simp only [lens]; omega) | assumption | trivial) (Ent.take (is := []) rfl)
    · skip
      refine JK_skip ?_
      refine JK_blk ?_
      refine JK_region ?_
      refine JO_q rfl rfl rfl (OpV.add rfl rfl rfl (by unfold i64ok; omega)) ?_
      refine JO_q rfl rfl rfl (OpV.move rfl rfl) ?_
      refine JO_nil ?_
      refine JK_goal (r12, (v8_3 + 1)) ⟨(by rw [← hM4]; simp only [slices_IndexFunc_Set_L0, h10, h17, cs4]), (by omega), (by omega), (by omega), (by omega)⟩ (by show r12 < r12 + 1; omega) (Env.sub_all rfl) (Ent.take (is := [2, 3]) rfl)
  · skip
    have g21 : ¬ (v8_3 < ((s.length : Nat) : Int)) := of_decide_eq_false h10
    obtain rfl : r2 = 0 := by omega
    refine JK_exit rfl ?_
    have hR22 : slices_IndexFunc_Set_L0 s fp (((((s.length : Nat) : Int) : Int) - 0).toNat) 0 = LR.brk () := by
      rw [← hM4]; simp only [slices_IndexFunc_Set_L0, h10, cs4]
    refine JK_seq ?_
    refine JK_region ?_
    refine JO_q rfl rfl rfl (OpV.assign rfl rfl) ?_
    refine JO_nil ?_
    have hq : rr = -1 := hrr.symm.trans (by simp only [slices_IndexFunc_Set, h10, hR22, cs4])
    replace hrr := hrr.trans hq
    subst rr
    refine JK_return (()) rfl (.tmp rfl .nil) rfl (by (try dsimp only) <;> first | omega | (unfold i64ok; omega) | (simp only [lens]; omega) | assumption | trivial) (Ent.take (is := []) rfl)
set_option maxHeartbeats 20000000 in
set_option maxRecDepth 100000 in
/- slices.ContainsFunc[[]flowquery/api.Set,flowquery/api.Set] -/
theorem fn52 (s : List GSet) (sa0 : Option Addr) (sk0 : Nat) (fF : FuncId) (fC : List Value) (fp : GSet → Bool) (fA : List SP) (hfc : callable Try.prog fF = true) (hfF : ∀ x ∈ s, ∀ (a1 : Option Addr) (k1 : Nat), i64ok x.Width → FT Try.prog fF ([(.agg #[.int .i64 x.Width, .slice a1 x.Words.length k1] : Value)] ++ fC).toArray ([sl (.slice a1 x.Words.length k1) (x.Words : List (BitVec 64))] ++ [pAll fA]) (fun _ : Unit => True) (fun _ => .bool (fp x)) (fun _ => [])) (rr : Bool) (hrr : slices_ContainsFunc_Set s fp = rr) :
    FT Try.prog 52 #[.slice sa0 s.length sk0, .func (.func fF) #[] fC.toArray] [sl (.slice sa0 s.length sk0) (s : List GSet), pAll fA]
      (fun g : Unit => True)
      (fun g => .bool rr)
      (fun g => []) := by
  refine FT_intro (args := [.slice sa0 s.length sk0, .func (.func fF) #[] fC.toArray]) Try.func52 rfl rfl ?_
  intro w0 M0 F0
  refine JJ_fact 0 rfl sl_bytes ?_
  intro hl1
  have hl1 : s.length * 32 ≤ 140737488355328 := hl1
  refine JK_seq ?_
  refine JK_region ?_
  refine JO_q rfl rfl rfl (OpV.assign rfl rfl) ?_
  refine JO_nil ?_
  refine JK_seq ?_
  refine JK_region ?_
  refine JO_q rfl rfl rfl (OpV.move rfl rfl) ?_
  refine JO_q rfl rfl rfl (OpV.move rfl rfl) ?_
  refine letv (slices_IndexFunc_Set s fp) fun rv2 hg3 => ?_
  have hc4 := fn57 s sa0 sk0 fF fC fp fA hfc hfF rv2 hg3
  refine JO_call [0, 1] rfl rfl rfl (OpC.fn rfl ca57 rfl) (hc4) rfl ?_
  rintro - he5
  have he5 : -9223372036854775808 ≤ rv2 ∧ rv2 ≤ 9223372036854775807 := he5
  refine JO_q rfl rfl rfl (OpV.geq rfl rfl rfl) ?_
  refine JO_q rfl rfl rfl (OpV.assign rfl rfl) ?_
  refine JO_nil ?_
  have hq : rr = decide (0 ≤ rv2) := hrr.symm.trans (by simp only [slices_ContainsFunc_Set, hg3, cs4])
  replace hrr := hrr.trans hq
  subst rr
  refine JK_return (()) rfl (.tmp rfl .nil) rfl trivial (Ent.take (is := []) rfl)
set_option maxHeartbeats 20000000 in
set_option maxRecDepth 100000 in
/- flowquery/bitset.ranged -/
theorem fn58 (width : Int) (hwidth_0 : i64ok width) (rr : Bool) (hrr : bitset_ranged width = rr) :
    FT Try.prog 58 #[.int .i64 width] []
      (fun g : Unit => True)
      (fun g => .bool rr)
      (fun g => []) := by
  refine FT_intro (args := [.int .i64 width]) Try.func58 rfl rfl ?_
  intro w0 M0 F0
  have hwidth_0 : -9223372036854775808 ≤ width ∧ width ≤ 9223372036854775807 := hwidth_0
  refine JK_seq ?_
  refine JK_region ?_
  refine JO_q rfl rfl rfl (OpV.assign rfl rfl) ?_
  refine JO_nil ?_
  refine JK_seq ?_
  refine JK_region ?_
  refine JO_q rfl rfl rfl (OpV.move rfl rfl) ?_
  refine JO_q rfl rfl rfl (OpV.geq rfl rfl rfl) ?_
  refine JO_q rfl rfl rfl (OpV.move rfl rfl) ?_
  refine JJ_split 5 rfl (fun (h1 : decide (0 ≤ width) = true) => ?_) (fun (h1 : decide (0 ≤ width) = false) => ?_)
  · skip
    have g2 : (0 ≤ width) := of_decide_eq_true h1
    refine JO_taken rfl rfl rfl rfl ?_
    refine JO_q rfl rfl rfl (OpV.move rfl rfl) ?_
    refine JO_taken rfl rfl rfl rfl ?_
    refine JO_q rfl rfl rfl (OpV.leq rfl rfl rfl) ?_
    refine JO_q rfl rfl rfl (OpV.pickT rfl rfl rfl) ?_
    refine JO_q rfl rfl rfl (OpV.assign rfl rfl) ?_
    refine JO_nil ?_
    have hq : rr = decide (width ≤ 256) := hrr.symm.trans (by simp only [bitset_ranged, h1, cs4])
    replace hrr := hrr.trans hq
    subst rr
    refine JK_return (()) rfl (.tmp rfl .nil) rfl trivial (Ent.take (is := []) rfl)
  · skip
    have g3 : ¬ (0 ≤ width) := of_decide_eq_false h1
    refine JO_skip rfl rfl rfl rfl rfl rfl ?_
    refine JO_skip rfl rfl rfl rfl rfl rfl ?_
    refine JO_q rfl rfl rfl (OpV.pickF rfl rfl rfl) ?_
    refine JO_q rfl rfl rfl (OpV.assign rfl rfl) ?_
    refine JO_nil ?_
    have hq : rr = false := hrr.symm.trans (by simp only [bitset_ranged, h1, cs4])
    replace hrr := hrr.trans hq
    subst rr
    refine JK_return (()) rfl (.tmp rfl .nil) rfl trivial (Ent.take (is := []) rfl)
set_option maxHeartbeats 20000000 in
set_option maxRecDepth 100000 in
/- flowquery/bitset.words -/
theorem fn59 (width : Int) (hwidth_0 : i64ok width) (hw0 : 0 ≤ width ∧ width ≤ 1000000) (rr : Int) (hrr : bitset_words width = rr) :
    FT Try.prog 59 #[.int .i64 width] []
      (fun g : Unit => i64ok rr ∧ (rr = (width + 63) / 64))
      (fun g => .int .i64 rr)
      (fun g => []) := by
  refine FT_intro (args := [.int .i64 width]) Try.func59 rfl rfl ?_
  intro w0 M0 F0
  have hwidth_0 : -9223372036854775808 ≤ width ∧ width ≤ 9223372036854775807 := hwidth_0
  refine JK_seq ?_
  refine JK_region ?_
  refine JO_q rfl rfl rfl (OpV.assign rfl rfl) ?_
  refine JO_nil ?_
  refine JK_seq ?_
  refine JK_region ?_
  refine JO_q rfl rfl rfl (OpV.move rfl rfl) ?_
  refine JO_q rfl rfl rfl (OpV.add rfl rfl rfl (by unfold i64ok; omega)) ?_
  refine JO_q rfl rfl rfl (OpV.sub rfl rfl rfl (by unfold i64ok; omega)) ?_
  refine JO_q rfl rfl rfl (OpV.quo rfl rfl rfl (by omega)) ?_
  refine JO_q rfl rfl rfl (OpV.assign rfl rfl) ?_
  refine JO_nil ?_
  have hq : rr = (((width + 64) - 1) / 64) := hrr.symm.trans (by simp only [bitset_words, cs4])
  replace hrr := hrr.trans hq
  subst rr
  refine JK_return (()) rfl (.tmp rfl .nil) rfl (by refine ⟨?_, ?_⟩ <;> (try dsimp only) <;> first | omega | (unfold i64ok; omega) | (simp only [lens]; omega) | assumption | trivial) (Ent.take (is := []) rfl)
set_option maxHeartbeats 20000000 in
set_option maxRecDepth 100000 in
/- flowquery/bitset.spare -/
theorem fn60 (width : Int) (hwidth_0 : i64ok width) (rr : BitVec 64) (hrr : bitset_spare width = rr) :
    FT Try.prog 60 #[.int .i64 width] []
      (fun g : Unit => True)
      (fun g => u64 rr)
      (fun g => []) := by
  refine FT_intro (args := [.int .i64 width]) Try.func60 rfl rfl ?_
  intro w0 M0 F0
  have hwidth_0 : -9223372036854775808 ≤ width ∧ width ≤ 9223372036854775807 := hwidth_0
  refine JK_seq ?_
  refine JK_region ?_
  refine JO_q rfl rfl rfl (OpV.assign rfl rfl) ?_
  refine JO_nil ?_
  refine JK_seq ?_
  refine JK_region ?_
  refine JO_q rfl rfl rfl (OpV.move rfl rfl) ?_
  refine JO_q rfl rfl rfl (OpV.convU rfl un3 un71 rfl) ?_
  refine JO_q rfl rfl rfl (OpV.remU (a := (BitVec.ofInt 64 width)) (b := 64#64) rfl rfl rfl (by simp)) ?_
  refine JO_q rfl rfl rfl (OpV.shlU (a := 18446744073709551615#64) (n := (((BitVec.ofInt 64 width) % 64#64).toNat : Int)) rfl rfl rfl (by omega)) ?_
  refine JO_q rfl rfl rfl (OpV.assign rfl rfl) ?_
  refine JO_nil ?_
  have hq : rr = (18446744073709551615#64 <<< ((((BitVec.ofInt 64 width) % 64#64).toNat : Int)).toNat) := hrr.symm.trans (by simp only [bitset_spare, cs4])
  replace hrr := hrr.trans hq
  subst rr
  refine JK_return (()) rfl (.tmp rfl .nil) rfl trivial (Ent.take (is := []) rfl)
set_option maxHeartbeats 20000000 in
set_option maxRecDepth 100000 in
/- flowquery/bitset.Valid -/
theorem fn54 (s : GSet) (sa1 : Option Addr) (sk1 : Nat) (hs_0 : i64ok s.Width) (rr : Bool) (hrr : bitset_Valid s = rr) :
    FT Try.prog 54 #[.agg #[.int .i64 s.Width, .slice sa1 s.Words.length sk1]] [sl (.slice sa1 s.Words.length sk1) (s.Words : List (BitVec 64))]
      (fun g : Unit => True)
      (fun g => .bool rr)
      (fun g => []) := by
  refine FT_intro (args := [.agg #[.int .i64 s.Width, .slice sa1 s.Words.length sk1]]) Try.func54 rfl rfl ?_
  intro w0 M0 F0
  have hs_0 : -9223372036854775808 ≤ s.Width ∧ s.Width ≤ 9223372036854775807 := hs_0
  refine JJ_fact 0 rfl sl_bytes ?_
  intro hl1
  have hl1 : s.Words.length * 8 ≤ 140737488355328 := hl1
  refine JK_seq ?_
  refine JK_region ?_
  refine JO_act rfl rfl rfl (OpA.box rfl rfl) ?_
  intro p2
  refine JO_q rfl rfl rfl (OpV.assign rfl rfl) ?_
  refine JO_nil ?_
  refine JK_seq ?_
  refine JK_seq ?_
  refine letv (bitset_ranged s.Width) fun rv3 hg4 => ?_
  refine bool_split ((!rv3)) (fun (h5 : (!rv3) = true) => ?_) (fun (h5 : (!rv3) = false) => ?_)
  · skip
    have h7 : rv3 = false := not_true h5
    refine JK_drawJ [0, 1, 3, 7, 15, 31, 63, 127, 31, 287, 799, 2047, 4095] [] fmix ?_
    refine JD_v [0] (wn rfl) rfl rfl (OpV.fieldAddr rfl rfl fo50_0 (i := 0) rfl (isPtr_pv _ _)) ?_
    refine JD_v [0] (wn rfl) rfl rfl (OpV.loadF rfl rfl sh3 (i := 0) rfl (reads_pv _ _) rfl) ?_
    refine JD_x [] [] (fun lG => .bool rv3) [⟨some 2, none, [], fun lG => SP.fact (True)⟩] (wn rfl) rfl rfl rfl (fun G => by refine OpX.n3 (A' := []) (V' := fun g => .bool rv3) (B' := fun g => [SP.fact (True)]) (by kernel_rfl) (by kernel_rfl) (by kernel_rfl) ?_; refine OpX.postR (OpX.frame [] rfl (OpX.ofC (fun _ => []) (fun _ => ()) (fun _ => rfl) (by intro _ _ h; cases h) (OpC.fn rfl ca58 rfl) (fn58 s.Width (by (try dsimp only) <;> first | (unfold i64ok; omega) | omega | assumption) rv3 hg4))) (fun g => ?_); exact Ent.take (is := [0]) rfl) ?_
    refine JD_b h5 [] (wn rfl) rfl rfl (OpV.not rfl rfl) ?_
    refine JD_v [] (wn rfl) rfl rfl (OpV.move rfl rfl) ?_
    refine JD_skip (ws rfl rfl rfl _ rfl rfl) rfl ?_
    refine JD_skip (ws rfl rfl rfl _ rfl rfl) rfl ?_
    refine JD_skip (ws rfl rfl rfl _ rfl rfl) rfl ?_
    refine JD_skip (ws rfl rfl rfl _ rfl rfl) rfl ?_
    refine JD_skip (ws rfl rfl rfl _ rfl rfl) rfl ?_
    refine JD_skip (ws rfl rfl rfl _ rfl rfl) rfl ?_
    refine JD_skip (ws rfl rfl rfl _ rfl rfl) rfl ?_
    refine JD_v [] (wn rfl) rfl rfl (OpV.pickT rfl rfl rfl) ?_
    refine JD_nil ⟨by kernel_rfl, fun G => ?_⟩
    refine JJ_weaken (L' := [(1, p2), (15, .bool true)]) (A' := [pv p2 [.int .i64 s.Width, .slice sa1 s.Words.length sk1], sl (.slice sa1 s.Words.length sk1) (s.Words : List (BitVec 64)), SP.fact (True)]) (Env.sub_all (by kernel_rfl)) (Ent.of_eq (by kernel_rfl)) ?_
    refine JJ_keep [0, 1] rfl ?_
    refine JK_condT rfl ?_
    refine JK_seq ?_
    refine JK_region ?_
    refine JO_q rfl rfl rfl (OpV.assign rfl rfl) ?_
    refine JO_nil ?_
    have hq : rr = false := hrr.symm.trans (by simp only [bitset_Valid, h5, h7, hg4, cs4])
    replace hrr := hrr.trans hq
    subst rr
    refine JK_return (()) rfl (.tmp rfl .nil) rfl trivial (Ent.take (is := []) rfl)
  · skip
    have h10 : rv3 = true := not_false h5
    try have hrg := ranged_iff (w := s.Width) (by simp only [h5, h10, hg4])
    refine letv (bitset_words s.Width) fun rv12 hg13 => ?_
    refine JK_drawJ [0, 1, 3, 7, 15, 31, 63, 127, 31, 287, 799, 2047, 4095] [] fmix ?_
    refine JD_v [0] (wn rfl) rfl rfl (OpV.fieldAddr rfl rfl fo50_0 (i := 0) rfl (isPtr_pv _ _)) ?_
    refine JD_v [0] (wn rfl) rfl rfl (OpV.loadF rfl rfl sh3 (i := 0) rfl (reads_pv _ _) rfl) ?_
    refine JD_x [] [] (fun lG => .bool rv3) [⟨some 2, none, [], fun lG => SP.fact (True)⟩] (wn rfl) rfl rfl rfl (fun G => by refine OpX.n3 (A' := []) (V' := fun g => .bool rv3) (B' := fun g => [SP.fact (True)]) (by kernel_rfl) (by kernel_rfl) (by kernel_rfl) ?_; refine OpX.postR (OpX.frame [] rfl (OpX.ofC (fun _ => []) (fun _ => ()) (fun _ => rfl) (by intro _ _ h; cases h) (OpC.fn rfl ca58 rfl) (fn58 s.Width (by (try dsimp only) <;> first | (unfold i64ok; omega) | omega | assumption) rv3 hg4))) (fun g => ?_); exact Ent.take (is := [0]) rfl) ?_
    refine JD_b h5 [] (wn rfl) rfl rfl (OpV.not rfl rfl) ?_
    refine JD_v [] (wn rfl) rfl rfl (OpV.move rfl rfl) ?_
    refine JD_v [0] (wt rfl rfl rfl rfl) rfl rfl (OpV.fieldAddr rfl rfl fo50_1 (i := 0) rfl (isPtr_pv _ _)) ?_
    refine JD_v [0] (wt rfl rfl rfl rfl) rfl rfl (OpV.loadF rfl rfl sh48 (i := 0) rfl (reads_pv _ _) rfl) ?_
    refine JD_v [] (wt rfl rfl rfl rfl) rfl rfl (OpV.len rfl rfl sl48) ?_
    refine JD_v [0] (wt rfl rfl rfl rfl) rfl rfl (OpV.fieldAddr rfl rfl fo50_0 (i := 0) rfl (isPtr_pv _ _)) ?_
    refine JD_v [0] (wt rfl rfl rfl rfl) rfl rfl (OpV.loadF rfl rfl sh3 (i := 0) rfl (reads_pv _ _) rfl) ?_
    refine JD_x [] [] (fun lG => .int .i64 rv12) [⟨some 10, none, [], fun lG => SP.fact (i64ok rv12 ∧ (rv12 = (s.Width + 63) / 64))⟩] (wt rfl rfl rfl rfl) rfl rfl rfl (fun G => by refine OpX.n3 (A' := []) (V' := fun g => .int .i64 rv12) (B' := fun g => [SP.fact (i64ok rv12 ∧ (rv12 = (s.Width + 63) / 64))]) (by kernel_rfl) (by kernel_rfl) (by kernel_rfl) ?_; refine OpX.postR (OpX.frame [] rfl (OpX.ofC (fun _ => []) (fun _ => ()) (fun _ => rfl) (by intro _ _ h; cases h) (OpC.fn rfl ca59 rfl) (fn59 s.Width (by (try dsimp only) <;> first | (unfold i64ok; omega) | omega | assumption) (by (try dsimp only) <;> first | (unfold i64ok; omega) | omega | assumption) rv12 hg13))) (fun g => ?_); exact Ent.take (is := [0]) rfl) ?_
    refine JD_v [] (wt rfl rfl rfl rfl) rfl rfl (OpV.neq rfl rfl rfl) ?_
    refine JD_v [] (wn rfl) rfl rfl (OpV.pickF rfl rfl rfl) ?_
    refine JD_nil ⟨by kernel_rfl, fun G => ?_⟩
    refine JJ_weaken (L' := [(1, p2), (15, .bool (((s.Words.length : Nat) : Int) != rv12))]) (A' := [pv p2 [.int .i64 s.Width, .slice sa1 s.Words.length sk1], sl (.slice sa1 s.Words.length sk1) (s.Words : List (BitVec 64)), SP.fact (True), SP.fact (i64ok rv12 ∧ (rv12 = (s.Width + 63) / 64))]) (Env.sub_all (by kernel_rfl)) (Ent.of_eq (by kernel_rfl)) ?_
    refine JJ_fact 3 rfl (fun h => h) ?_
    rintro ⟨he14, he15⟩
    have he14 : -9223372036854775808 ≤ rv12 ∧ rv12 ≤ 9223372036854775807 := he14
    refine JJ_keep [0, 1] rfl ?_
    refine JK_cond (b := (((s.Words.length : Nat) : Int) != rv12)) rfl (fun (h16 : (((s.Words.length : Nat) : Int) != rv12) = true) => ?_) (fun (h16 : (((s.Words.length : Nat) : Int) != rv12) = false) => ?_)
    · skip
      have g17 : ((s.Words.length : Nat) : Int) ≠ rv12 := ne_of_bne h16
      refine JK_seq ?_
      refine JK_region ?_
      refine JO_q rfl rfl rfl (OpV.assign rfl rfl) ?_
      refine JO_nil ?_
      have hq : rr = false := hrr.symm.trans (by simp only [bitset_Valid, h5, h10, h16, hg4, hg13, cs4])
      replace hrr := hrr.trans hq
      subst rr
      refine JK_return (()) rfl (.tmp rfl .nil) rfl trivial (Ent.take (is := []) rfl)
    · skip
      have g18 : ((s.Words.length : Nat) : Int) = rv12 := eq_of_bne_false h16
      refine JK_skip ?_
      refine JK_seq ?_
      refine bool_split (((s.Width % 64) == 0)) (fun (h19 : ((s.Width % 64) == 0) = true) => ?_) (fun (h19 : ((s.Width % 64) == 0) = false) => ?_)
      · skip
        have g20 : (s.Width % 64) = 0 := eq_of_beq h19
        refine JK_drawQ [0, 1, 3, 7, 15, 31, 63, 31, 159, 415, 927, 2047, 4095, 31, 8223, 24607, 65535, 131071, 262143, 524287] fmix ?_
        refine JQ_v [0] (qn rfl) rfl rfl (OpV.fieldAddr rfl rfl fo50_0 (i := 0) rfl (isPtr_pv _ _)) ?_
        refine JQ_v [0] (qn rfl) rfl rfl (OpV.loadF rfl rfl sh3 (i := 0) rfl (reads_pv _ _) rfl) ?_
        refine JQ_v [] (qn rfl) rfl rfl (OpV.rem rfl rfl rfl (by omega)) ?_
        refine JQ_b h19 [] (qn rfl) rfl rfl (OpV.eql rfl rfl rfl) ?_
        refine JQ_v [] (qn rfl) rfl rfl (OpV.move rfl rfl) ?_
        refine JQ_skip (qs rfl rfl rfl _ rfl rfl) rfl ?_
        refine JQ_skip (qs rfl rfl rfl _ rfl rfl) rfl ?_
        refine JQ_skip (qs rfl rfl rfl _ rfl rfl) rfl ?_
        refine JQ_skip (qs rfl rfl rfl _ rfl rfl) rfl ?_
        refine JQ_skip (qs rfl rfl rfl _ rfl rfl) rfl ?_
        refine JQ_skip (qs rfl rfl rfl _ rfl rfl) rfl ?_
        refine JQ_skip (qs rfl rfl rfl _ rfl rfl) rfl ?_
        refine JQ_skip (qs rfl rfl rfl _ rfl rfl) rfl ?_
        refine JQ_skip (qs rfl rfl rfl _ rfl rfl) rfl ?_
        refine JQ_skip (qs rfl rfl rfl _ rfl rfl) rfl ?_
        refine JQ_skip (qs rfl rfl rfl _ rfl rfl) rfl ?_
        refine JQ_skip (qs rfl rfl rfl _ rfl rfl) rfl ?_
        refine JQ_skip (qs rfl rfl rfl _ rfl rfl) rfl ?_
        refine JQ_v [] (qn rfl) rfl rfl (OpV.pickT rfl rfl rfl) ?_
        refine JQ_v [] (qn rfl) rfl rfl (OpV.assign rfl rfl) ?_
        refine JQ_nil ⟨by kernel_rfl, ?_⟩
        have hq : rr = true := hrr.symm.trans (by simp only [bitset_Valid, h5, h10, h16, h19, hg4, hg13, cs4])
        replace hrr := hrr.trans hq
        subst rr
        refine JK_return (()) rfl (.tmp rfl .nil) rfl trivial (Ent.take (is := []) rfl)
      · skip
        have g21 : (s.Width % 64) ≠ 0 := ne_of_beq_false h19
        refine letv (bitset_spare s.Width) fun rv22 hg23 => ?_
        refine JK_drawJ [0, 1, 3, 7, 15, 31, 63, 31, 159, 415, 927, 2047, 4095, 31, 8223, 24607, 65535, 131071, 262143, 524287] [] fmix ?_
        refine JD_v [0] (wn rfl) rfl rfl (OpV.fieldAddr rfl rfl fo50_0 (i := 0) rfl (isPtr_pv _ _)) ?_
        refine JD_v [0] (wn rfl) rfl rfl (OpV.loadF rfl rfl sh3 (i := 0) rfl (reads_pv _ _) rfl) ?_
        refine JD_v [] (wn rfl) rfl rfl (OpV.rem rfl rfl rfl (by omega)) ?_
        refine JD_b h19 [] (wn rfl) rfl rfl (OpV.eql rfl rfl rfl) ?_
        refine JD_v [] (wn rfl) rfl rfl (OpV.move rfl rfl) ?_
        refine JD_v [0] (wt rfl rfl rfl rfl) rfl rfl (OpV.fieldAddr rfl rfl fo50_1 (i := 0) rfl (isPtr_pv _ _)) ?_
        refine JD_v [0] (wt rfl rfl rfl rfl) rfl rfl (OpV.loadF rfl rfl sh48 (i := 0) rfl (reads_pv _ _) rfl) ?_
        refine JD_v [0] (wt rfl rfl rfl rfl) rfl rfl (OpV.fieldAddr rfl rfl fo50_1 (i := 0) rfl (isPtr_pv _ _)) ?_
        refine JD_v [0] (wt rfl rfl rfl rfl) rfl rfl (OpV.loadF rfl rfl sh48 (i := 0) rfl (reads_pv _ _) rfl) ?_
        refine JD_v [] (wt rfl rfl rfl rfl) rfl rfl (OpV.len rfl rfl sl48) ?_
        refine JD_v [] (wt rfl rfl rfl rfl) rfl rfl (OpV.sub rfl rfl rfl (by unfold i64ok; omega)) ?_
        refine JD_v [1] (wt rfl rfl rfl rfl) rfl rfl (OpV.indexAddr (m := 0) rfl rfl rfl sl48 rfl (isSl_sl _ _) (by first | omega | (simp only [lens]; omega) | (simp only [lens] at *; omega))) ?_
        refine JD_v [1] (wt rfl rfl rfl rfl) rfl rfl (OpV.load rfl rfl sh72 (i := 0) rfl (reads_sl _ _ _ 0#64 (by first | omega | (simp only [lens]; omega) | (simp only [lens] at *; omega))) rfl) ?_
        refine JD_v [0] (wt rfl rfl rfl rfl) rfl rfl (OpV.fieldAddr rfl rfl fo50_0 (i := 0) rfl (isPtr_pv _ _)) ?_
        refine JD_v [0] (wt rfl rfl rfl rfl) rfl rfl (OpV.loadF rfl rfl sh3 (i := 0) rfl (reads_pv _ _) rfl) ?_
        refine JD_x [] [] (fun lG => u64 rv22) [⟨some 15, none, [], fun lG => SP.fact (True)⟩] (wt rfl rfl rfl rfl) rfl rfl rfl (fun G => by refine OpX.n3 (A' := []) (V' := fun g => u64 rv22) (B' := fun g => [SP.fact (True)]) (by kernel_rfl) (by kernel_rfl) (by kernel_rfl) ?_; refine OpX.postR (OpX.frame [] rfl (OpX.ofC (fun _ => []) (fun _ => ()) (fun _ => rfl) (by intro _ _ h; cases h) (OpC.fn rfl ca60 rfl) (fn60 s.Width (by (try dsimp only) <;> first | (unfold i64ok; omega) | omega | assumption) rv22 hg23))) (fun g => ?_); exact Ent.take (is := [0]) rfl) ?_
        refine JD_v [] (wt rfl rfl rfl rfl) rfl rfl (OpV.andU (a := (s.Words.getD ((((s.Words.length : Nat) : Int) - 1) : Int).toNat 0#64)) (b := rv22) rfl rfl rfl) ?_
        refine JD_v [] (wt rfl rfl rfl rfl) rfl rfl (OpV.eqlU (a := ((s.Words.getD ((((s.Words.length : Nat) : Int) - 1) : Int).toNat 0#64) &&& rv22)) (b := 0#64) rfl rfl rfl) ?_
        refine JD_v [] (wn rfl) rfl rfl (OpV.pickF rfl rfl rfl) ?_
        refine JD_v [] (wn rfl) rfl rfl (OpV.assign rfl rfl) ?_
        refine JD_nil ⟨by kernel_rfl, fun G => ?_⟩
        refine JJ_weaken (L' := [(2, .bool (((s.Words.getD ((((s.Words.length : Nat) : Int) - 1) : Int).toNat 0#64) &&& rv22) == 0#64))]) (A' := [pv p2 [.int .i64 s.Width, .slice sa1 s.Words.length sk1], sl (.slice sa1 s.Words.length sk1) (s.Words : List (BitVec 64)), SP.fact (True)]) (Env.sub_all (by kernel_rfl)) (Ent.of_eq (by kernel_rfl)) ?_
        refine JJ_keep [0, 1] rfl ?_
        have hq : rr = (((s.Words.getD ((((s.Words.length : Nat) : Int) - 1) : Int).toNat 0#64) &&& rv22) == 0#64) := hrr.symm.trans (by simp only [bitset_Valid, h5, h10, h16, h19, hg4, hg13, hg23, cs4])
        replace hrr := hrr.trans hq
        subst rr
        refine JK_return (()) rfl (.tmp rfl .nil) rfl trivial (Ent.take (is := []) rfl)
set_option maxHeartbeats 20000000 in
set_option maxRecDepth 100000 in
/- flowquery/equations.sets$1 -/
theorem fn53 (s : GSet) (sa1 : Option Addr) (sk1 : Nat) (cap0P : Value) (cap0 : Int) (hs_0 : i64ok s.Width) (hcap0_0 : i64ok cap0) (rr : Bool) (hrr : equations_sets_1 s cap0 = rr) :
    FT Try.prog 53 #[.agg #[.int .i64 s.Width, .slice sa1 s.Words.length sk1], cap0P] [sl (.slice sa1 s.Words.length sk1) (s.Words : List (BitVec 64)), pv cap0P [.int .i64 cap0]]
      (fun g : Unit => True)
      (fun g => .bool rr)
      (fun g => []) := by
  refine FT_intro (args := [.agg #[.int .i64 s.Width, .slice sa1 s.Words.length sk1], cap0P]) Try.func53 rfl rfl ?_
  intro w0 M0 F0
  have hs_0 : -9223372036854775808 ≤ s.Width ∧ s.Width ≤ 9223372036854775807 := hs_0
  have hcap0_0 : -9223372036854775808 ≤ cap0 ∧ cap0 ≤ 9223372036854775807 := hcap0_0
  refine JJ_fact 0 rfl sl_bytes ?_
  intro hl1
  have hl1 : s.Words.length * 8 ≤ 140737488355328 := hl1
  refine JK_seq ?_
  refine JK_region ?_
  refine JO_act rfl rfl rfl (OpA.box rfl rfl) ?_
  intro p2
  refine JO_q rfl rfl rfl (OpV.assign rfl rfl) ?_
  refine JO_nil ?_
  refine JK_seq ?_
  refine JK_region ?_
  refine JO_q rfl rfl rfl (OpV.loadA rfl rfl sh50 (i := 0) rfl (reads_pv _ _) rfl) ?_
  refine letv (bitset_Valid s) fun rv3 hg4 => ?_
  have hc5 := fn54 s sa1 sk1 (by (try dsimp only) <;> first | (unfold i64ok; omega) | omega | assumption) rv3 hg4
  refine JO_call [1] rfl rfl rfl (OpC.fn rfl ca54 rfl) (hc5) rfl ?_
  rintro - -
  refine JO_q rfl rfl rfl (OpV.not rfl rfl) ?_
  refine JO_q rfl rfl rfl (OpV.move rfl rfl) ?_
  refine JJ_split 7 rfl (fun (h6 : (!rv3) = true) => ?_) (fun (h6 : (!rv3) = false) => ?_)
  · skip
    have h8 : rv3 = false := not_true h6
    refine JO_skip rfl rfl rfl rfl rfl rfl ?_
    refine JO_skip rfl rfl rfl rfl rfl rfl ?_
    refine JO_skip rfl rfl rfl rfl rfl rfl ?_
    refine JO_skip rfl rfl rfl rfl rfl rfl ?_
    refine JO_q rfl rfl rfl (OpV.pickT rfl rfl rfl) ?_
    refine JO_q rfl rfl rfl (OpV.assign rfl rfl) ?_
    refine JO_nil ?_
    have hq : rr = true := hrr.symm.trans (by simp only [equations_sets_1, h6, h8, hg4, cs4])
    replace hrr := hrr.trans hq
    subst rr
    refine JK_return (()) rfl (.tmp rfl .nil) rfl trivial (Ent.take (is := []) rfl)
  · skip
    have h11 : rv3 = true := not_false h6
    refine JO_taken rfl rfl rfl rfl ?_
    refine JO_q rfl rfl rfl (OpV.fieldAddr rfl rfl fo50_0 (i := 0) rfl (isPtr_pv _ _)) ?_
    refine JO_taken rfl rfl rfl rfl ?_
    refine JO_q rfl rfl rfl (OpV.loadF rfl rfl sh3 (i := 0) rfl (reads_pv _ _) rfl) ?_
    refine JO_taken rfl rfl rfl rfl ?_
    refine JO_q rfl rfl rfl (OpV.load rfl rfl sh3 (i := 2) rfl (reads_pv _ _) rfl) ?_
    refine JO_taken rfl rfl rfl rfl ?_
    refine JO_q rfl rfl rfl (OpV.neq rfl rfl rfl) ?_
    refine JO_q rfl rfl rfl (OpV.pickF rfl rfl rfl) ?_
    refine JO_q rfl rfl rfl (OpV.assign rfl rfl) ?_
    refine JO_nil ?_
    have hq : rr = (s.Width != cap0) := hrr.symm.trans (by simp only [equations_sets_1, h6, h11, hg4, cs4])
    replace hrr := hrr.trans hq
    subst rr
    refine JK_return (()) rfl (.tmp rfl .nil) rfl trivial (Ent.take (is := []) rfl)
set_option maxHeartbeats 20000000 in
set_option maxRecDepth 100000 in
/- flowquery/equations.sets -/
theorem fn44 (width : Int) (l : List GSet) (la0 : Option Addr) (lk0 : Nat) (hwidth_0 : i64ok width) (rr : Bool) (hrr : equations_sets width l = rr) :
    FT Try.prog 44 #[.int .i64 width, .slice la0 l.length lk0] [sl (.slice la0 l.length lk0) (l : List GSet)]
      (fun g : Unit => True)
      (fun g => .bool rr)
      (fun g => []) := by
  refine FT_intro (args := [.int .i64 width, .slice la0 l.length lk0]) Try.func44 rfl rfl ?_
  intro w0 M0 F0
  have hwidth_0 : -9223372036854775808 ≤ width ∧ width ≤ 9223372036854775807 := hwidth_0
  refine JJ_fact 0 rfl sl_bytes ?_
  intro hl1
  have hl1 : l.length * 32 ≤ 140737488355328 := hl1
  refine JK_seq ?_
  refine JK_region ?_
  refine JO_act rfl rfl rfl (OpA.box rfl rfl) ?_
  intro p2
  refine JO_q rfl rfl rfl (OpV.assign rfl rfl) ?_
  refine JO_nil ?_
  refine JK_seq ?_
  refine JK_region ?_
  refine JO_q rfl rfl rfl (OpV.move rfl rfl) ?_
  refine JO_q rfl rfl rfl (OpV.makeFunc (vs := #[]) (ws := #[p2]) rfl (fun ρ hρ => ⟨by simp, evs_arr hρ rfl⟩)) ?_
  refine JJ_ent (Ent.pall [0] rfl rfl) ?_
  refine letv (slices_ContainsFunc_Set l (fun x => equations_sets_1 x width)) fun rv3 hg4 => ?_
  have hc5 := fn52 l la0 lk0 53 [p2] (fun x => equations_sets_1 x width) [pv p2 [.int .i64 width]] ca53 (fun x hx a1 k1 hq0 => FT_pall (A1 := _) (fn53 x a1 k1 p2 width hq0 (by first | (unfold i64ok; omega) | omega | assumption) _ rfl)) rv3 hg4
  refine JO_call [2, 0] rfl rfl rfl (OpC.fn rfl ca52 rfl) (hc5) rfl ?_
  rintro - -
  refine JO_q rfl rfl rfl (OpV.not rfl rfl) ?_
  refine JO_q rfl rfl rfl (OpV.assign rfl rfl) ?_
  refine JO_nil ?_
  have hq : rr = (!rv3) := hrr.symm.trans (by simp only [equations_sets, hg4, cs4])
  replace hrr := hrr.trans hq
  subst rr
  refine JK_return (()) rfl (.tmp rfl .nil) rfl trivial (Ent.take (is := []) rfl)
set_option maxHeartbeats 20000000 in
set_option maxRecDepth 100000 in
/- slices.IndexFunc[[]flowquery/api.Transfer,flowquery/api.Transfer] -/
theorem fn55 (s : List GTransfer) (sa0 : Option Addr) (sk0 : Nat) (fF : FuncId) (fC : List Value) (fp : GTransfer → Bool) (fA : List SP) (hfc : callable Try.prog fF = true) (hfF : ∀ x ∈ s, ∀ (a1 : Option Addr) (k1 : Nat) (a3 : Option Addr) (k3 : Nat) (a4 : Option Addr) (k4 : Nat), i64ok x.Gen.Width → i64ok x.Kill.Width → FT Try.prog fF ([(.agg #[.int .i64 x.Gen.Width, .slice a1 x.Gen.Words.length k1, .int .i64 x.Kill.Width, .slice a3 x.Kill.Words.length k3, .slice a4 x.Copies.length k4] : Value)] ++ fC).toArray ([sl (.slice a1 x.Gen.Words.length k1) (x.Gen.Words : List (BitVec 64)), sl (.slice a3 x.Kill.Words.length k3) (x.Kill.Words : List (BitVec 64)), sl (.slice a4 x.Copies.length k4) (x.Copies : List GCopy)] ++ [pAll fA]) (fun _ : Unit => True) (fun _ => .bool (fp x)) (fun _ => [])) (rr : Int) (hrr : slices_IndexFunc_Transfer s fp = rr) :
    FT Try.prog 55 #[.slice sa0 s.length sk0, .func (.func fF) #[] fC.toArray] [sl (.slice sa0 s.length sk0) (s : List GTransfer), pAll fA]
      (fun g : Unit => i64ok rr)
      (fun g => .int .i64 rr)
      (fun g => []) := by
  refine FT_intro (args := [.slice sa0 s.length sk0, .func (.func fF) #[] fC.toArray]) Try.func55 rfl rfl ?_
  intro w0 M0 F0
  refine JJ_fact 0 rfl sl_bytes ?_
  intro hl1
  have hl1 : s.length * 88 ≤ 140737488355328 := hl1
  refine JK_seq ?_
  refine JK_region ?_
  refine JO_q rfl rfl rfl (OpV.assign rfl rfl) ?_
  refine JO_nil ?_
  refine JK_seq ?_
  refine JK_seq ?_
  refine JK_region ?_
  refine JO_q rfl rfl rfl (OpV.move rfl rfl) ?_
  refine JO_q rfl rfl rfl (OpV.len rfl rfl sl24) ?_
  refine JO_q rfl rfl rfl (OpV.move rfl rfl) ?_
  refine JO_nil ?_
  refine JK_block ?_
  refine JK_loop (γ := Nat × Int) (fun (r2, v8_3) => [(0, .slice sa0 s.length sk0), (1, .func (.func fF) #[] fC.toArray), (7, .int .i64 ((s.length : Nat) : Int)), (8, .int .i64 v8_3)]) (fun (r2, v8_3) => [sl (.slice sa0 s.length sk0) (s : List GTransfer), pAll fA]) (fun (r2, v8_3) => slices_IndexFunc_Transfer_L0 s fp r2 v8_3 = slices_IndexFunc_Transfer_L0 s fp (((((s.length : Nat) : Int) : Int) - 0).toNat) 0 ∧ r2 = ((((s.length : Nat) : Int) : Int) - v8_3).toNat ∧ (0 : Int) ≤ v8_3 ∧ (v8_3 ≤ ((s.length : Nat) : Int) ∨ v8_3 = 0) ∧ (-9223372036854775808 ≤ v8_3 ∧ v8_3 ≤ 9223372036854775807)) (fun (r2, v8_3) => r2) (((((s.length : Nat) : Int) : Int) - 0).toNat, 0) ⟨rfl, rfl, (by omega), (.inr rfl), (by omega)⟩ (Env.sub_all rfl) (Ent.take (is := [0, 1]) rfl) ?_
  rintro ⟨r2, v8_3⟩ ⟨hM4, hr5, hi6, hi7, hk8⟩
  refine JJ_norm (L := [(0, .slice sa0 s.length sk0), (1, .func (.func fF) #[] fC.toArray), (7, .int .i64 ((s.length : Nat) : Int)), (8, .int .i64 v8_3)]) (A := [sl (.slice sa0 s.length sk0) (s : List GTransfer), pAll fA]) rfl rfl ?_
  refine JJ_fact 0 rfl sl_bytes ?_
  intro hl9
  have hl9 : s.length * 88 ≤ 140737488355328 := hl9
  refine JK_seq ?_
  refine JK_region ?_
  refine JO_q rfl rfl rfl (OpV.lss rfl rfl rfl) ?_
  refine JO_nil ?_
  refine JK_seq ?_
  refine JK_cond (b := decide (v8_3 < ((s.length : Nat) : Int))) rfl (fun (h10 : decide (v8_3 < ((s.length : Nat) : Int)) = true) => ?_) (fun (h10 : decide (v8_3 < ((s.length : Nat) : Int)) = false) => ?_)
  · skip
    have g11 : (v8_3 < ((s.length : Nat) : Int)) := of_decide_eq_true h10
    obtain ⟨r12, rfl⟩ : ∃ q, r2 = q + 1 := ⟨r2 - 1, by omega⟩
    refine JK_skip ?_
    refine JK_seq ?_
    refine JK_block ?_
    refine JK_seq ?_
    refine JK_region ?_
    refine JO_q rfl rfl rfl (OpV.move rfl rfl) ?_
    refine JO_q rfl rfl rfl (OpV.assign rfl rfl) ?_
    refine JO_nil ?_
    refine JK_seq ?_
    refine JK_region ?_
    refine JO_q rfl rfl rfl (OpV.move rfl rfl) ?_
    refine JO_q rfl rfl rfl (OpV.move rfl rfl) ?_
    refine JO_q rfl rfl rfl (OpV.move rfl rfl) ?_
    refine JO_q rfl rfl rfl (OpV.indexAddr (m := 0) rfl rfl rfl sl24 rfl (isSl_sl _ _) (by first | omega | (simp only [lens]; omega) | (simp only [lens] at *; omega))) ?_
    refine JJ_peek_GTransfer (v8_3 : Int).toNat 0 rfl (by omega) ?_
    intro a13 k14 a15 k16 a17 k18 hb19 hb20
    have hb19 : -9223372036854775808 ≤ ((s.getD (v8_3 : Int).toNat default).Gen).Width ∧ ((s.getD (v8_3 : Int).toNat default).Gen).Width ≤ 9223372036854775807 := hb19
    have hb20 : -9223372036854775808 ≤ ((s.getD (v8_3 : Int).toNat default).Kill).Width ∧ ((s.getD (v8_3 : Int).toNat default).Kill).Width ≤ 9223372036854775807 := hb20
    refine JJ_fact 1 rfl sl_bytes ?_
    intro hl21
    have hl21 : (((s.getD (v8_3 : Int).toNat default).Gen).Words).length * 8 ≤ 140737488355328 := hl21
    refine JJ_fact 2 rfl sl_bytes ?_
    intro hl22
    have hl22 : (((s.getD (v8_3 : Int).toNat default).Kill).Words).length * 8 ≤ 140737488355328 := hl22
    refine JJ_fact 3 rfl sl_bytes ?_
    intro hl23
    have hl23 : ((s.getD (v8_3 : Int).toNat default).Copies).length * 16 ≤ 140737488355328 := hl23
    refine JO_q rfl rfl rfl (OpV.loadA rfl rfl sh54 (i := 0) rfl (reads_pv _ _) rfl) ?_
    refine JO_call [1, 2, 3, 5] rfl rfl rfl (OpC.clo («as» := [(.agg #[.int .i64 (((s.getD (v8_3 : Int).toNat default).Gen).Width), .slice a13 ((((s.getD (v8_3 : Int).toNat default).Gen).Words).length) k14, .int .i64 (((s.getD (v8_3 : Int).toNat default).Kill).Width), .slice a15 ((((s.getD (v8_3 : Int).toNat default).Kill).Words).length) k16, .slice a17 (((s.getD (v8_3 : Int).toNat default).Copies).length) k18] : Value)] ++ fC) rfl rfl hfc rfl (by simp)) (hfF (s.getD (v8_3 : Int).toNat default) (getD_mem (by first | omega | (simp only [lens]; omega) | (simp only [lens] at *; omega))) a13 k14 a15 k16 a17 k18 (by unfold i64ok; omega) (by unfold i64ok; omega)) rfl ?_
    rintro - -
    refine JO_nil ?_
    refine JK_cond (b := (fp (s.getD (v8_3 : Int).toNat default))) rfl (fun (h24 : (fp (s.getD (v8_3 : Int).toNat default)) = true) => ?_) (fun (h24 : (fp (s.getD (v8_3 : Int).toNat default)) = false) => ?_)
    · skip
      refine JK_seq ?_
      refine JK_region ?_
      refine JO_q rfl rfl rfl (OpV.move rfl rfl) ?_
      refine JO_q rfl rfl rfl (OpV.assign rfl rfl) ?_
      refine JO_nil ?_
      have hR26 : slices_IndexFunc_Transfer_L0 s fp (((((s.length : Nat) : Int) : Int) - 0).toNat) 0 = LR.ret v8_3 := by
        rw [← hM4]; simp only [slices_IndexFunc_Transfer_L0, h10, h24, cs4]
      have hq : rr = v8_3 := hrr.symm.trans (by simp only [slices_IndexFunc_Transfer, h10, h24, hR26, cs4])
      replace hrr := hrr.trans hq
      subst rr
      refine JK_return (()) rfl (.tmp rfl .nil) rfl (by (try dsimp only) <;> first | omega | (unfold i64ok; omega) | (simp only [lens]; omega) | assumption | trivial) (Ent.take (is := []) rfl)
    · skip
      refine JK_skip ?_
      refine JK_blk ?_
      refine JK_region ?_
      refine JO_q rfl rfl rfl (OpV.add rfl rfl rfl (by unfold i64ok; omega)) ?_
      refine JO_q rfl rfl rfl (OpV.move rfl rfl) ?_
      refine JO_nil ?_
      refine JK_goal (r12, (v8_3 + 1)) ⟨(by rw [← hM4]; simp only [slices_IndexFunc_Transfer_L0, h10, h24, cs4]), (by omega), (by omega), (by omega), (by omega)⟩ (by show r12 < r12 + 1; omega) (Env.sub_all rfl) (Ent.take (is := [4, 5]) rfl)
  · skip
    have g28 : ¬ (v8_3 < ((s.length : Nat) : Int)) := of_decide_eq_false h10
    obtain rfl : r2 = 0 := by omega
    refine JK_exit rfl ?_
    have hR29 : slices_IndexFunc_Transfer_L0 s fp (((((s.length : Nat) : Int) : Int) - 0).toNat) 0 = LR.brk () := by
      rw [← hM4]; simp only [slices_IndexFunc_Transfer_L0, h10, cs4]
    refine JK_seq ?_
    refine JK_region ?_
    refine JO_q rfl rfl rfl (OpV.assign rfl rfl) ?_
    refine JO_nil ?_
    have hq : rr = -1 := hrr.symm.trans (by simp only [slices_IndexFunc_Transfer, h10, hR29, cs4])
    replace hrr := hrr.trans hq
    subst rr
    refine JK_return (()) rfl (.tmp rfl .nil) rfl (by (try dsimp only) <;> first | omega | (unfold i64ok; omega) | (simp only [lens]; omega) | assumption | trivial) (Ent.take (is := []) rfl)
set_option maxHeartbeats 20000000 in
set_option maxRecDepth 100000 in
/- slices.ContainsFunc[[]flowquery/api.Transfer,flowquery/api.Transfer] -/
theorem fn45 (s : List GTransfer) (sa0 : Option Addr) (sk0 : Nat) (fF : FuncId) (fC : List Value) (fp : GTransfer → Bool) (fA : List SP) (hfc : callable Try.prog fF = true) (hfF : ∀ x ∈ s, ∀ (a1 : Option Addr) (k1 : Nat) (a3 : Option Addr) (k3 : Nat) (a4 : Option Addr) (k4 : Nat), i64ok x.Gen.Width → i64ok x.Kill.Width → FT Try.prog fF ([(.agg #[.int .i64 x.Gen.Width, .slice a1 x.Gen.Words.length k1, .int .i64 x.Kill.Width, .slice a3 x.Kill.Words.length k3, .slice a4 x.Copies.length k4] : Value)] ++ fC).toArray ([sl (.slice a1 x.Gen.Words.length k1) (x.Gen.Words : List (BitVec 64)), sl (.slice a3 x.Kill.Words.length k3) (x.Kill.Words : List (BitVec 64)), sl (.slice a4 x.Copies.length k4) (x.Copies : List GCopy)] ++ [pAll fA]) (fun _ : Unit => True) (fun _ => .bool (fp x)) (fun _ => [])) (rr : Bool) (hrr : slices_ContainsFunc_Transfer s fp = rr) :
    FT Try.prog 45 #[.slice sa0 s.length sk0, .func (.func fF) #[] fC.toArray] [sl (.slice sa0 s.length sk0) (s : List GTransfer), pAll fA]
      (fun g : Unit => True)
      (fun g => .bool rr)
      (fun g => []) := by
  refine FT_intro (args := [.slice sa0 s.length sk0, .func (.func fF) #[] fC.toArray]) Try.func45 rfl rfl ?_
  intro w0 M0 F0
  refine JJ_fact 0 rfl sl_bytes ?_
  intro hl1
  have hl1 : s.length * 88 ≤ 140737488355328 := hl1
  refine JK_seq ?_
  refine JK_region ?_
  refine JO_q rfl rfl rfl (OpV.assign rfl rfl) ?_
  refine JO_nil ?_
  refine JK_seq ?_
  refine JK_region ?_
  refine JO_q rfl rfl rfl (OpV.move rfl rfl) ?_
  refine JO_q rfl rfl rfl (OpV.move rfl rfl) ?_
  refine letv (slices_IndexFunc_Transfer s fp) fun rv2 hg3 => ?_
  have hc4 := fn55 s sa0 sk0 fF fC fp fA hfc hfF rv2 hg3
  refine JO_call [0, 1] rfl rfl rfl (OpC.fn rfl ca55 rfl) (hc4) rfl ?_
  rintro - he5
  have he5 : -9223372036854775808 ≤ rv2 ∧ rv2 ≤ 9223372036854775807 := he5
  refine JO_q rfl rfl rfl (OpV.geq rfl rfl rfl) ?_
  refine JO_q rfl rfl rfl (OpV.assign rfl rfl) ?_
  refine JO_nil ?_
  have hq : rr = decide (0 ≤ rv2) := hrr.symm.trans (by simp only [slices_ContainsFunc_Transfer, hg3, cs4])
  replace hrr := hrr.trans hq
  subst rr
  refine JK_return (()) rfl (.tmp rfl .nil) rfl trivial (Ent.take (is := []) rfl)
set_option maxHeartbeats 20000000 in
set_option maxRecDepth 100000 in
/- flowquery/transfer.bit -/
theorem fn61 (t : GTransfer) (ta1 : Option Addr) (tk1 : Nat) (ta3 : Option Addr) (tk3 : Nat) (ta4 : Option Addr) (tk4 : Nat) (b : Int) (ht_0 : i64ok t.Gen.Width) (ht_2 : i64ok t.Kill.Width) (hb_0 : i64ok b) (rr : Bool) (hrr : transfer_bit t b = rr) :
    FT Try.prog 61 #[.agg #[.int .i64 t.Gen.Width, .slice ta1 t.Gen.Words.length tk1, .int .i64 t.Kill.Width, .slice ta3 t.Kill.Words.length tk3, .slice ta4 t.Copies.length tk4], .int .i64 b] [sl (.slice ta1 t.Gen.Words.length tk1) (t.Gen.Words : List (BitVec 64)), sl (.slice ta3 t.Kill.Words.length tk3) (t.Kill.Words : List (BitVec 64)), sl (.slice ta4 t.Copies.length tk4) (t.Copies : List GCopy)]
      (fun g : Unit => True)
      (fun g => .bool rr)
      (fun g => []) := by
  refine FT_intro (args := [.agg #[.int .i64 t.Gen.Width, .slice ta1 t.Gen.Words.length tk1, .int .i64 t.Kill.Width, .slice ta3 t.Kill.Words.length tk3, .slice ta4 t.Copies.length tk4], .int .i64 b]) Try.func61 rfl rfl ?_
  intro w0 M0 F0
  have ht_0 : -9223372036854775808 ≤ t.Gen.Width ∧ t.Gen.Width ≤ 9223372036854775807 := ht_0
  have ht_2 : -9223372036854775808 ≤ t.Kill.Width ∧ t.Kill.Width ≤ 9223372036854775807 := ht_2
  have hb_0 : -9223372036854775808 ≤ b ∧ b ≤ 9223372036854775807 := hb_0
  refine JJ_fact 0 rfl sl_bytes ?_
  intro hl1
  have hl1 : t.Gen.Words.length * 8 ≤ 140737488355328 := hl1
  refine JJ_fact 1 rfl sl_bytes ?_
  intro hl2
  have hl2 : t.Kill.Words.length * 8 ≤ 140737488355328 := hl2
  refine JJ_fact 2 rfl sl_bytes ?_
  intro hl3
  have hl3 : t.Copies.length * 16 ≤ 140737488355328 := hl3
  refine JK_seq ?_
  refine JK_region ?_
  refine JO_act rfl rfl rfl (OpA.box rfl rfl) ?_
  intro p4
  refine JO_q rfl rfl rfl (OpV.assign rfl rfl) ?_
  refine JO_nil ?_
  refine JK_seq ?_
  refine JK_region ?_
  refine JO_q rfl rfl rfl (OpV.move rfl rfl) ?_
  refine JO_q rfl rfl rfl (OpV.geq rfl rfl rfl) ?_
  refine JO_q rfl rfl rfl (OpV.move rfl rfl) ?_
  refine JJ_split 7 rfl (fun (h5 : decide (0 ≤ b) = true) => ?_) (fun (h5 : decide (0 ≤ b) = false) => ?_)
  · skip
    have g6 : (0 ≤ b) := of_decide_eq_true h5
    refine JO_taken rfl rfl rfl rfl ?_
    refine JO_q rfl rfl rfl (OpV.move rfl rfl) ?_
    refine JO_taken rfl rfl rfl rfl ?_
    refine JO_q rfl rfl rfl (OpV.fieldAddr rfl rfl fo54_0 (i := 0) rfl (isPtr_pv _ _)) ?_
    refine JO_taken rfl rfl rfl rfl ?_
    refine JO_q rfl rfl rfl (OpV.fieldAddrF rfl rfl fo50_0 (i := 0) rfl (isPtr_pv _ _)) ?_
    refine JO_taken rfl rfl rfl rfl ?_
    refine JO_q rfl rfl rfl (OpV.loadF rfl rfl sh3 (i := 0) rfl (reads_pv _ _) rfl) ?_
    refine JO_taken rfl rfl rfl rfl ?_
    refine JO_q rfl rfl rfl (OpV.lss rfl rfl rfl) ?_
    refine JO_q rfl rfl rfl (OpV.pickT rfl rfl rfl) ?_
    refine JO_q rfl rfl rfl (OpV.assign rfl rfl) ?_
    refine JO_nil ?_
    have hq : rr = decide (b < t.Gen.Width) := hrr.symm.trans (by simp only [transfer_bit, h5, cs4])
    replace hrr := hrr.trans hq
    subst rr
    refine JK_return (()) rfl (.tmp rfl .nil) rfl trivial (Ent.take (is := []) rfl)
  · skip
    have g7 : ¬ (0 ≤ b) := of_decide_eq_false h5
    refine JO_skip rfl rfl rfl rfl rfl rfl ?_
    refine JO_skip rfl rfl rfl rfl rfl rfl ?_
    refine JO_skip rfl rfl rfl rfl rfl rfl ?_
    refine JO_skip rfl rfl rfl rfl rfl rfl ?_
    refine JO_skip rfl rfl rfl rfl rfl rfl ?_
    refine JO_q rfl rfl rfl (OpV.pickF rfl rfl rfl) ?_
    refine JO_q rfl rfl rfl (OpV.assign rfl rfl) ?_
    refine JO_nil ?_
    have hq : rr = false := hrr.symm.trans (by simp only [transfer_bit, h5, cs4])
    replace hrr := hrr.trans hq
    subst rr
    refine JK_return (()) rfl (.tmp rfl .nil) rfl trivial (Ent.take (is := []) rfl)
set_option maxHeartbeats 20000000 in
set_option maxRecDepth 100000 in
/- cmp.Or[int] -/
theorem fn63 (vals : List Int) (valsa0 : Option Addr) (valsk0 : Nat) (rr : Int) (hrr : cmp_Or_int vals = rr) :
    FT Try.prog 63 #[.slice valsa0 vals.length valsk0] [sl (.slice valsa0 vals.length valsk0) (vals : List Int)]
      (fun g : Unit => i64ok rr)
      (fun g => .int .i64 rr)
      (fun g => []) := by
  refine FT_intro (args := [.slice valsa0 vals.length valsk0]) Try.func63 rfl rfl ?_
  intro w0 M0 F0
  refine JJ_fact 0 rfl sl_bytes ?_
  intro hl1
  have hl1 : vals.length * 8 ≤ 140737488355328 := hl1
  refine JJ_fact 0 rfl sl_ok ?_
  intro ho2
  refine JK_seq ?_
  refine JK_region ?_
  refine JO_q rfl rfl rfl (OpV.assign rfl rfl) ?_
  refine JO_nil ?_
  refine JK_seq ?_
  refine JK_region ?_
  refine JO_q rfl rfl rfl (OpV.assign rfl rfl) ?_
  refine JO_nil ?_
  refine JK_seq ?_
  refine JK_seq ?_
  refine JK_region ?_
  refine JO_q rfl rfl rfl (OpV.move rfl rfl) ?_
  refine JO_q rfl rfl rfl (OpV.len rfl rfl sl22) ?_
  refine JO_q rfl rfl rfl (OpV.move rfl rfl) ?_
  refine JO_nil ?_
  refine JK_block ?_
  refine JK_loop (γ := Nat × Int) (fun (r3, v8_4) => [(3, .int .i64 0), (6, .slice valsa0 vals.length valsk0), (7, .int .i64 ((vals.length : Nat) : Int)), (8, .int .i64 v8_4)]) (fun (r3, v8_4) => [sl (.slice valsa0 vals.length valsk0) (vals : List Int)]) (fun (r3, v8_4) => cmp_Or_int_L0 vals r3 v8_4 = cmp_Or_int_L0 vals (((((vals.length : Nat) : Int) : Int) - 0).toNat) 0 ∧ r3 = ((((vals.length : Nat) : Int) : Int) - v8_4).toNat ∧ (0 : Int) ≤ v8_4 ∧ (v8_4 ≤ ((vals.length : Nat) : Int) ∨ v8_4 = 0) ∧ (-9223372036854775808 ≤ v8_4 ∧ v8_4 ≤ 9223372036854775807)) (fun (r3, v8_4) => r3) (((((vals.length : Nat) : Int) : Int) - 0).toNat, 0) ⟨rfl, rfl, (by omega), (.inr rfl), (by omega)⟩ (Env.sub_all rfl) (Ent.take (is := [0]) rfl) ?_
  rintro ⟨r3, v8_4⟩ ⟨hM5, hr6, hi7, hi8, hk9⟩
  refine JJ_norm (L := [(3, .int .i64 0), (6, .slice valsa0 vals.length valsk0), (7, .int .i64 ((vals.length : Nat) : Int)), (8, .int .i64 v8_4)]) (A := [sl (.slice valsa0 vals.length valsk0) (vals : List Int)]) rfl rfl ?_
  refine JJ_fact 0 rfl sl_bytes ?_
  intro hl10
  have hl10 : vals.length * 8 ≤ 140737488355328 := hl10
  refine JJ_fact 0 rfl sl_ok ?_
  intro ho11
  refine JK_seq ?_
  refine JK_region ?_
  refine JO_q rfl rfl rfl (OpV.lss rfl rfl rfl) ?_
  refine JO_nil ?_
  refine JK_seq ?_
  refine JK_cond (b := decide (v8_4 < ((vals.length : Nat) : Int))) rfl (fun (h12 : decide (v8_4 < ((vals.length : Nat) : Int)) = true) => ?_) (fun (h12 : decide (v8_4 < ((vals.length : Nat) : Int)) = false) => ?_)
  · skip
    have g13 : (v8_4 < ((vals.length : Nat) : Int)) := of_decide_eq_true h12
    obtain ⟨r14, rfl⟩ : ∃ q, r3 = q + 1 := ⟨r3 - 1, by omega⟩
    refine JK_skip ?_
    refine JK_seq ?_
    refine JK_block ?_
    refine JK_seq ?_
    refine JK_region ?_
    refine JO_q rfl rfl rfl (OpV.indexAddr (m := 0) rfl rfl rfl sl22 rfl (isSl_sl _ _) (by first | omega | (simp only [lens]; omega) | (simp only [lens] at *; omega))) ?_
    have hb15 : -9223372036854775808 ≤ (vals.getD (v8_4 : Int).toNat 0) ∧ (vals.getD (v8_4 : Int).toNat 0) ≤ 9223372036854775807 := getD_ok ho11 (by first | omega | (simp only [lens]; omega) | (simp only [lens] at *; omega))
    refine JO_q rfl rfl rfl (OpV.load rfl rfl sh3 (i := 0) rfl (reads_sl _ _ _ 0 (by first | omega | (simp only [lens]; omega) | (simp only [lens] at *; omega))) rfl) ?_
    refine JO_q rfl rfl rfl (OpV.assign rfl rfl) ?_
    refine JO_nil ?_
    refine JK_seq ?_
    refine JK_region ?_
    refine JO_q rfl rfl rfl (OpV.move rfl rfl) ?_
    refine JO_q rfl rfl rfl (OpV.move rfl rfl) ?_
    refine JO_q rfl rfl rfl (OpV.neq rfl rfl rfl) ?_
    refine JO_nil ?_
    refine JK_cond (b := ((vals.getD (v8_4 : Int).toNat 0) != 0)) rfl (fun (h16 : ((vals.getD (v8_4 : Int).toNat 0) != 0) = true) => ?_) (fun (h16 : ((vals.getD (v8_4 : Int).toNat 0) != 0) = false) => ?_)
    · skip
      have g17 : (vals.getD (v8_4 : Int).toNat 0) ≠ 0 := ne_of_bne h16
      refine JK_seq ?_
      refine JK_region ?_
      refine JO_q rfl rfl rfl (OpV.move rfl rfl) ?_
      refine JO_q rfl rfl rfl (OpV.assign rfl rfl) ?_
      refine JO_nil ?_
      have hR18 : cmp_Or_int_L0 vals (((((vals.length : Nat) : Int) : Int) - 0).toNat) 0 = LR.ret (vals.getD (v8_4 : Int).toNat 0) := by
        rw [← hM5]; simp only [cmp_Or_int_L0, h12, h16, cs4]
      have hq : rr = (vals.getD (v8_4 : Int).toNat 0) := hrr.symm.trans (by simp only [cmp_Or_int, h12, h16, hR18, cs4])
      replace hrr := hrr.trans hq
      subst rr
      refine JK_return (()) rfl (.tmp rfl .nil) rfl (by (try dsimp only) <;> first | omega | (unfold i64ok; omega) | (simp only [lens]; omega) | assumption | trivial) (Ent.take (is := []) rfl)
    · skip
      have g19 : (vals.getD (v8_4 : Int).toNat 0) = 0 := eq_of_bne_false h16
      refine JK_skip ?_
      refine JK_blk ?_
      refine JK_region ?_
      refine JO_q rfl rfl rfl (OpV.add rfl rfl rfl (by unfold i64ok; omega)) ?_
      refine JO_q rfl rfl rfl (OpV.move rfl rfl) ?_
      refine JO_nil ?_
      refine JK_goal (r14, (v8_4 + 1)) ⟨(by rw [← hM5]; simp only [cmp_Or_int_L0, h12, h16, cs4]), (by omega), (by omega), (by omega), (by omega)⟩ (by show r14 < r14 + 1; omega) (Env.sub_all rfl) (Ent.take (is := [0]) rfl)
  · skip
    have g20 : ¬ (v8_4 < ((vals.length : Nat) : Int)) := of_decide_eq_false h12
    obtain rfl : r3 = 0 := by omega
    refine JK_exit rfl ?_
    have hR21 : cmp_Or_int_L0 vals (((((vals.length : Nat) : Int) : Int) - 0).toNat) 0 = LR.brk () := by
      rw [← hM5]; simp only [cmp_Or_int_L0, h12, cs4]
    refine JK_seq ?_
    refine JK_region ?_
    refine JO_q rfl rfl rfl (OpV.move rfl rfl) ?_
    refine JO_q rfl rfl rfl (OpV.assign rfl rfl) ?_
    refine JO_nil ?_
    have hq : rr = 0 := hrr.symm.trans (by simp only [cmp_Or_int, h12, hR21, cs4])
    replace hrr := hrr.trans hq
    subst rr
    refine JK_return (()) rfl (.tmp rfl .nil) rfl (by (try dsimp only) <;> first | omega | (unfold i64ok; omega) | (simp only [lens]; omega) | assumption | trivial) (Ent.take (is := []) rfl)
set_option maxHeartbeats 20000000 in
set_option maxRecDepth 100000 in
/- cmp.isNaN[int] -/
theorem fn65 (x : Int) (hx_0 : i64ok x) (rr : Bool) (hrr : cmp_isNaN_int x = rr) :
    FT Try.prog 65 #[.int .i64 x] []
      (fun g : Unit => True)
      (fun g => .bool rr)
      (fun g => []) := by
  refine FT_intro (args := [.int .i64 x]) Try.func65 rfl rfl ?_
  intro w0 M0 F0
  have hx_0 : -9223372036854775808 ≤ x ∧ x ≤ 9223372036854775807 := hx_0
  refine JK_seq ?_
  refine JK_region ?_
  refine JO_q rfl rfl rfl (OpV.assign rfl rfl) ?_
  refine JO_nil ?_
  refine JK_seq ?_
  refine JK_region ?_
  refine JO_q rfl rfl rfl (OpV.move rfl rfl) ?_
  refine JO_q rfl rfl rfl (OpV.move rfl rfl) ?_
  refine JO_q rfl rfl rfl (OpV.neq rfl rfl rfl) ?_
  refine JO_q rfl rfl rfl (OpV.assign rfl rfl) ?_
  refine JO_nil ?_
  have hq : rr = (x != x) := hrr.symm.trans (by simp only [cmp_isNaN_int, cs4])
  replace hrr := hrr.trans hq
  subst rr
  refine JK_return (()) rfl (.tmp rfl .nil) rfl trivial (Ent.take (is := []) rfl)
set_option maxHeartbeats 20000000 in
set_option maxRecDepth 100000 in
/- cmp.Compare[int] -/
theorem fn64 (x : Int) (y : Int) (hx_0 : i64ok x) (hy_0 : i64ok y) (rr : Int) (hrr : cmp_Compare_int x y = rr) :
    FT Try.prog 64 #[.int .i64 x, .int .i64 y] []
      (fun g : Unit => i64ok rr)
      (fun g => .int .i64 rr)
      (fun g => []) := by
  refine FT_intro (args := [.int .i64 x, .int .i64 y]) Try.func64 rfl rfl ?_
  intro w0 M0 F0
  have hx_0 : -9223372036854775808 ≤ x ∧ x ≤ 9223372036854775807 := hx_0
  have hy_0 : -9223372036854775808 ≤ y ∧ y ≤ 9223372036854775807 := hy_0
  refine JK_seq ?_
  refine JK_region ?_
  refine JO_q rfl rfl rfl (OpV.assign rfl rfl) ?_
  refine JO_nil ?_
  refine JK_seq ?_
  refine JK_region ?_
  refine JO_q rfl rfl rfl (OpV.move rfl rfl) ?_
  refine letv (cmp_isNaN_int x) fun rv1 hg2 => ?_
  have hc3 := fn65 x (by (try dsimp only) <;> first | (unfold i64ok; omega) | omega | assumption) rv1 hg2
  refine JO_call [] rfl rfl rfl (OpC.fn rfl ca65 rfl) (hc3) rfl ?_
  rintro - -
  refine JO_q rfl rfl rfl (OpV.assign rfl rfl) ?_
  refine JO_nil ?_
  refine JK_seq ?_
  refine JK_region ?_
  refine JO_q rfl rfl rfl (OpV.move rfl rfl) ?_
  refine letv (cmp_isNaN_int y) fun rv4 hg5 => ?_
  have hc6 := fn65 y (by (try dsimp only) <;> first | (unfold i64ok; omega) | omega | assumption) rv4 hg5
  refine JO_call [] rfl rfl rfl (OpC.fn rfl ca65 rfl) (hc6) rfl ?_
  rintro - -
  refine JO_q rfl rfl rfl (OpV.assign rfl rfl) ?_
  refine JO_nil ?_
  refine JK_seq ?_
  refine JK_seq ?_
  refine JK_region ?_
  refine JO_q rfl rfl rfl (OpV.move rfl rfl) ?_
  refine JO_nil ?_
  refine JK_cond (b := rv1) rfl (fun (h7 : rv1 = true) => ?_) (fun (h7 : rv1 = false) => ?_)
  · skip
    refine JK_seq ?_
    refine JK_seq ?_
    refine JK_region ?_
    refine JO_q rfl rfl rfl (OpV.move rfl rfl) ?_
    refine JO_nil ?_
    refine JK_cond (b := rv4) rfl (fun (h9 : rv4 = true) => ?_) (fun (h9 : rv4 = false) => ?_)
    · skip
      refine JK_seq ?_
      refine JK_region ?_
      refine JO_q rfl rfl rfl (OpV.assign rfl rfl) ?_
      refine JO_nil ?_
      have hq : rr = 0 := hrr.symm.trans (by simp only [cmp_Compare_int, h7, h9, hg2, hg5, cs4])
      replace hrr := hrr.trans hq
      subst rr
      refine JK_return (()) rfl (.tmp rfl .nil) rfl (by (try dsimp only) <;> first | omega | (unfold i64ok; omega) | (simp only [lens]; omega) | assumption | trivial) (Ent.take (is := []) rfl)
    · skip
      refine JK_skip ?_
      refine JK_seq ?_
      refine JK_region ?_
      refine JO_q rfl rfl rfl (OpV.assign rfl rfl) ?_
      refine JO_nil ?_
      have hq : rr = -1 := hrr.symm.trans (by simp only [cmp_Compare_int, h7, h9, hg2, hg5, cs4])
      replace hrr := hrr.trans hq
      subst rr
      refine JK_return (()) rfl (.tmp rfl .nil) rfl (by (try dsimp only) <;> first | omega | (unfold i64ok; omega) | (simp only [lens]; omega) | assumption | trivial) (Ent.take (is := []) rfl)
  · skip
    refine JK_skip ?_
    refine JK_seq ?_
    refine JK_seq ?_
    refine JK_region ?_
    refine JO_q rfl rfl rfl (OpV.move rfl rfl) ?_
    refine JO_nil ?_
    refine JK_cond (b := rv4) rfl (fun (h13 : rv4 = true) => ?_) (fun (h13 : rv4 = false) => ?_)
    · skip
      refine JK_seq ?_
      refine JK_region ?_
      refine JO_q rfl rfl rfl (OpV.assign rfl rfl) ?_
      refine JO_nil ?_
      have hq : rr = 1 := hrr.symm.trans (by simp only [cmp_Compare_int, h7, h13, hg2, hg5, cs4])
      replace hrr := hrr.trans hq
      subst rr
      refine JK_return (()) rfl (.tmp rfl .nil) rfl (by (try dsimp only) <;> first | omega | (unfold i64ok; omega) | (simp only [lens]; omega) | assumption | trivial) (Ent.take (is := []) rfl)
    · skip
      refine JK_skip ?_
      refine JK_seq ?_
      refine JK_seq ?_
      refine JK_region ?_
      refine JO_q rfl rfl rfl (OpV.move rfl rfl) ?_
      refine JO_q rfl rfl rfl (OpV.move rfl rfl) ?_
      refine JO_q rfl rfl rfl (OpV.lss rfl rfl rfl) ?_
      refine JO_nil ?_
      refine JK_cond (b := decide (x < y)) rfl (fun (h16 : decide (x < y) = true) => ?_) (fun (h16 : decide (x < y) = false) => ?_)
      · skip
        have g17 : (x < y) := of_decide_eq_true h16
        refine JK_seq ?_
        refine JK_region ?_
        refine JO_q rfl rfl rfl (OpV.assign rfl rfl) ?_
        refine JO_nil ?_
        have hq : rr = -1 := hrr.symm.trans (by simp only [cmp_Compare_int, h7, h13, h16, hg2, hg5, cs4])
        replace hrr := hrr.trans hq
        subst rr
        refine JK_return (()) rfl (.tmp rfl .nil) rfl (by (try dsimp only) <;> first | omega | (unfold i64ok; omega) | (simp only [lens]; omega) | assumption | trivial) (Ent.take (is := []) rfl)
      · skip
        have g18 : ¬ (x < y) := of_decide_eq_false h16
        refine JK_skip ?_
        refine JK_seq ?_
        refine JK_seq ?_
        refine JK_region ?_
        refine JO_q rfl rfl rfl (OpV.move rfl rfl) ?_
        refine JO_q rfl rfl rfl (OpV.move rfl rfl) ?_
        refine JO_q rfl rfl rfl (OpV.gtr rfl rfl rfl) ?_
        refine JO_nil ?_
        refine JK_cond (b := decide (y < x)) rfl (fun (h19 : decide (y < x) = true) => ?_) (fun (h19 : decide (y < x) = false) => ?_)
        · skip
          have g20 : (y < x) := of_decide_eq_true h19
          refine JK_seq ?_
          refine JK_region ?_
          refine JO_q rfl rfl rfl (OpV.assign rfl rfl) ?_
          refine JO_nil ?_
          have hq : rr = 1 := hrr.symm.trans (by simp only [cmp_Compare_int, h7, h13, h16, h19, hg2, hg5, cs4])
          replace hrr := hrr.trans hq
          subst rr
          refine JK_return (()) rfl (.tmp rfl .nil) rfl (by (try dsimp only) <;> first | omega | (unfold i64ok; omega) | (simp only [lens]; omega) | assumption | trivial) (Ent.take (is := []) rfl)
        · skip
          have g21 : ¬ (y < x) := of_decide_eq_false h19
          refine JK_skip ?_
          refine JK_seq ?_
          refine JK_region ?_
          refine JO_q rfl rfl rfl (OpV.assign rfl rfl) ?_
          refine JO_nil ?_
          have hq : rr = 0 := hrr.symm.trans (by simp only [cmp_Compare_int, h7, h13, h16, h19, hg2, hg5, cs4])
          replace hrr := hrr.trans hq
          subst rr
          refine JK_return (()) rfl (.tmp rfl .nil) rfl (by (try dsimp only) <;> first | omega | (unfold i64ok; omega) | (simp only [lens]; omega) | assumption | trivial) (Ent.take (is := []) rfl)
set_option maxHeartbeats 20000000 in
set_option maxRecDepth 100000 in
/- flowquery/transfer.compare -/
theorem fn62 (a : GCopy) (b : GCopy) (ha_0 : i64ok a.From) (ha_1 : i64ok a.To) (hb_0 : i64ok b.From) (hb_1 : i64ok b.To) (rr : Int) (hrr : transfer_compare a b = rr) :
    FT Try.prog 62 #[.agg #[.int .i64 a.From, .int .i64 a.To], .agg #[.int .i64 b.From, .int .i64 b.To]] []
      (fun g : Unit => i64ok rr)
      (fun g => .int .i64 rr)
      (fun g => []) := by
  refine FT_intro (args := [.agg #[.int .i64 a.From, .int .i64 a.To], .agg #[.int .i64 b.From, .int .i64 b.To]]) Try.func62 rfl rfl ?_
  intro w0 M0 F0
  have ha_0 : -9223372036854775808 ≤ a.From ∧ a.From ≤ 9223372036854775807 := ha_0
  have ha_1 : -9223372036854775808 ≤ a.To ∧ a.To ≤ 9223372036854775807 := ha_1
  have hb_0 : -9223372036854775808 ≤ b.From ∧ b.From ≤ 9223372036854775807 := hb_0
  have hb_1 : -9223372036854775808 ≤ b.To ∧ b.To ≤ 9223372036854775807 := hb_1
  refine JK_seq ?_
  refine JK_region ?_
  refine JO_act rfl rfl rfl (OpA.box rfl rfl) ?_
  intro p1
  refine JO_act rfl rfl rfl (OpA.box rfl rfl) ?_
  intro p2
  refine JO_q rfl rfl rfl (OpV.assign rfl rfl) ?_
  refine JO_nil ?_
  refine JK_seq ?_
  refine letv (cmp_Compare_int a.From b.From) fun rv3 hg4 => ?_
  refine letv (cmp_Compare_int a.To b.To) fun rv5 hg6 => ?_
  refine letv (cmp_Or_int [rv3, rv5]) fun rv11 hg12 => ?_
  refine JK_drawJ [0, 1, 0, 4, 15, 0, 32, 0, 128, 511, 1023, 2047, 4095] [] fmix ?_
  refine JD_v [1] (wn rfl) rfl rfl (OpV.fieldAddr rfl rfl fo68_0 (i := 0) rfl (isPtr_pv _ _)) ?_
  refine JD_v [1] (wn rfl) rfl rfl (OpV.loadF rfl rfl sh3 (i := 0) rfl (reads_pv _ _) rfl) ?_
  refine JD_v [0] (wn rfl) rfl rfl (OpV.fieldAddr rfl rfl fo68_0 (i := 0) rfl (isPtr_pv _ _)) ?_
  refine JD_v [0] (wn rfl) rfl rfl (OpV.loadF rfl rfl sh3 (i := 0) rfl (reads_pv _ _) rfl) ?_
  refine JD_x [] [] (fun lG => .int .i64 rv3) [⟨some 4, none, [], fun lG => SP.fact (i64ok rv3)⟩] (wn rfl) rfl rfl rfl (fun G => by refine OpX.n3 (A' := []) (V' := fun g => .int .i64 rv3) (B' := fun g => [SP.fact (i64ok rv3)]) (by kernel_rfl) (by kernel_rfl) (by kernel_rfl) ?_; refine OpX.postR (OpX.frame [] rfl (OpX.ofC (fun _ => []) (fun _ => ()) (fun _ => rfl) (by intro _ _ h; cases h) (OpC.fn rfl ca64 rfl) (fn64 a.From b.From (by (try dsimp only) <;> first | (unfold i64ok; omega) | omega | assumption) (by (try dsimp only) <;> first | (unfold i64ok; omega) | omega | assumption) rv3 hg4))) (fun g => ?_); exact Ent.take (is := [0]) rfl) ?_
  refine JD_v [1] (wn rfl) rfl rfl (OpV.fieldAddr rfl rfl fo68_1 (i := 0) rfl (isPtr_pv _ _)) ?_
  refine JD_v [1] (wn rfl) rfl rfl (OpV.loadF rfl rfl sh3 (i := 0) rfl (reads_pv _ _) rfl) ?_
  refine JD_v [0] (wn rfl) rfl rfl (OpV.fieldAddr rfl rfl fo68_1 (i := 0) rfl (isPtr_pv _ _)) ?_
  refine JD_v [0] (wn rfl) rfl rfl (OpV.loadF rfl rfl sh3 (i := 0) rfl (reads_pv _ _) rfl) ?_
  refine JD_x [2] [] (fun lG => .int .i64 rv5) [⟨some 9, none, [], fun lG => SP.fact (i64ok rv5)⟩] (wn rfl) rfl rfl rfl (fun G => by refine OpX.n3 (A' := [SP.fact (i64ok rv3)]) (V' := fun g => .int .i64 rv5) (B' := fun g => [SP.fact (i64ok rv3), SP.fact (i64ok rv5)]) (by kernel_rfl) (by kernel_rfl) (by kernel_rfl) ?_; refine OpX.fact 0 rfl (fun h => h) ?_; rintro he13; have he13 : -9223372036854775808 ≤ rv3 ∧ rv3 ≤ 9223372036854775807 := he13; refine OpX.postR (OpX.frame [] rfl (OpX.ofC (fun _ => []) (fun _ => ()) (fun _ => rfl) (by intro _ _ h; cases h) (OpC.fn rfl ca64 rfl) (fn64 a.To b.To (by (try dsimp only) <;> first | (unfold i64ok; omega) | omega | assumption) (by (try dsimp only) <;> first | (unfold i64ok; omega) | omega | assumption) rv5 hg6))) (fun g => ?_); exact Ent.take (is := [1, 0]) rfl) ?_
  refine JD_x [] [10] (fun lG => ((lG.getD 0 []).getD 0 undef)) [⟨some 10, some 11, [10], fun lG => Cr ((lG.getD 0 []).getD 0 undef) 2 [.int .i64 rv3, .int .i64 rv5]⟩] (wn rfl) rfl rfl rfl (fun G => by refine OpX.n3 (A' := []) (V' := fun g => (g.getD 0 undef)) (B' := fun g => [Cr (g.getD 0 undef) 2 [.int .i64 rv3, .int .i64 rv5]]) (by kernel_rfl) (by kernel_rfl) (by kernel_rfl) ?_; refine OpX.postR (OpX.ofA (by intro _ _ h; cases h) (OpA.buildSliceV [.int .i64 rv3, .int .i64 rv5] [.int .i64 rv3, .int .i64 rv5] rfl sl22 sz22 rfl (Env.evp_map rfl) rfl rfl rfl rfl)) (fun g => ?_); exact Ent.take (is := [0]) rfl) ?_
  refine JD_x [2, 3, 4] [] (fun lG => .int .i64 rv11) [⟨some 11, none, [10], fun lG => sl (((lG.getD 0 []).getD 0 undef)) ([rv3, rv5] : List Int)⟩, ⟨some 11, none, [], fun lG => SP.fact (i64ok rv11)⟩] (wn rfl) rfl rfl rfl (fun G => by refine OpX.n3 (A' := [SP.fact (i64ok rv3), SP.fact (i64ok rv5), Cr ((G 10).getD 0 undef) 2 [.int .i64 rv3, .int .i64 rv5]]) (V' := fun g => .int .i64 rv11) (B' := fun g => [SP.fact (i64ok rv3), SP.fact (i64ok rv5), sl (((G 10).getD 0 undef)) ([rv3, rv5] : List Int), SP.fact (i64ok rv11)]) (by kernel_rfl) (by kernel_rfl) (by kernel_rfl) ?_; refine OpX.fact 0 rfl (fun h => h) ?_; rintro he14; have he14 : -9223372036854775808 ≤ rv3 ∧ rv3 ≤ 9223372036854775807 := he14; refine OpX.fact 1 rfl (fun h => h) ?_; rintro he15; have he15 : -9223372036854775808 ≤ rv5 ∧ rv5 ≤ 9223372036854775807 := he15; refine OpX.pre [2] rfl (Ent.crInt _ [rv3, rv5] _ _ rfl rfl (by intro x hx; simp only [List.mem_cons, List.not_mem_nil, or_false] at hx; rcases hx with rfl | rfl <;> (unfold i64ok; omega)) (Nat.le_of_ble_eq_true rfl)) ?_; refine OpX.pre [0] rfl (Ent.freeze _ _) ?_; refine OpX.seeL (L' := [(15, ((G 10).getD 0 undef))]) (Env.sub_all (by kernel_rfl)) ?_; refine OpX.postR (OpX.frame [0] rfl (OpX.ofC (fun _ => []) (fun _ => ()) (fun _ => rfl) (by intro _ _ h; cases h) (OpC.fn rfl ca63 rfl) (FT_open (γ := Unit) (I := fun g => i64ok rv11) (V := fun g => .int .i64 rv11) (B := fun g => []) (R := sl (((G 10).getD 0 undef)) ([rv3, rv5] : List Int)) sl_slice (fun aq8 kq9 eq10 => by rw [eq10]; exact FT_ent (Ent.take (is := [0]) rfl) (fn63 ([rv3, rv5]) aq8 kq9 rv11 hg12))))) (fun g => ?_); exact Ent.take (is := [2, 3, 1, 0]) rfl) ?_
  refine JD_v [] (wn rfl) rfl rfl (OpV.assign rfl rfl) ?_
  refine JD_nil ⟨by kernel_rfl, fun G => ?_⟩
  refine JJ_weaken (L' := [(4, .int .i64 rv11)]) (A' := [pv p2 [.int .i64 b.From, .int .i64 b.To], pv p1 [.int .i64 a.From, .int .i64 a.To], SP.fact (i64ok rv3), SP.fact (i64ok rv5), sl (((G 10).getD 0 undef)) ([rv3, rv5] : List Int), SP.fact (i64ok rv11)]) (Env.sub_all (by kernel_rfl)) (Ent.of_eq (by kernel_rfl)) ?_
  generalize ((G 10).getD 0 undef) = c7
  refine JJ_fact 2 rfl (fun h => h) ?_
  rintro he16
  have he16 : -9223372036854775808 ≤ rv3 ∧ rv3 ≤ 9223372036854775807 := he16
  refine JJ_fact 3 rfl (fun h => h) ?_
  rintro he17
  have he17 : -9223372036854775808 ≤ rv5 ∧ rv5 ≤ 9223372036854775807 := he17
  refine JJ_fact 5 rfl (fun h => h) ?_
  rintro he18
  have he18 : -9223372036854775808 ≤ rv11 ∧ rv11 ≤ 9223372036854775807 := he18
  refine JJ_keep [0, 1, 4] rfl ?_
  refine JJ_slice 2 rfl sl_slice ?_
  rintro a19 k20 rfl
  refine JJ_fact 2 rfl sl_bytes ?_
  intro hl21
  have hl21 : [rv3, rv5].length * 8 ≤ 140737488355328 := hl21
  refine JJ_fact 2 rfl sl_ok ?_
  intro ho22
  have hq : rr = rv11 := hrr.symm.trans (by simp only [transfer_compare, hg4, hg6, hg12, cs4])
  replace hrr := hrr.trans hq
  subst rr
  refine JK_return (()) rfl (.tmp rfl .nil) rfl (by (try dsimp only) <;> first | omega | (unfold i64ok; omega) | (simp only [lens]; omega) | assumption | trivial) (Ent.take (is := []) rfl)
set_option maxHeartbeats 20000000 in
set_option maxRecDepth 100000 in
/- flowquery/transfer.Valid -/
theorem fn56 (t : GTransfer) (ta1 : Option Addr) (tk1 : Nat) (ta3 : Option Addr) (tk3 : Nat) (ta4 : Option Addr) (tk4 : Nat) (ht_0 : i64ok t.Gen.Width) (ht_2 : i64ok t.Kill.Width) (rr : Bool) (hrr : transfer_Valid t = rr) :
    FT Try.prog 56 #[.agg #[.int .i64 t.Gen.Width, .slice ta1 t.Gen.Words.length tk1, .int .i64 t.Kill.Width, .slice ta3 t.Kill.Words.length tk3, .slice ta4 t.Copies.length tk4]] [sl (.slice ta1 t.Gen.Words.length tk1) (t.Gen.Words : List (BitVec 64)), sl (.slice ta3 t.Kill.Words.length tk3) (t.Kill.Words : List (BitVec 64)), sl (.slice ta4 t.Copies.length tk4) (t.Copies : List GCopy)]
      (fun g : Unit => True)
      (fun g => .bool rr)
      (fun g => []) := by
  refine FT_intro (args := [.agg #[.int .i64 t.Gen.Width, .slice ta1 t.Gen.Words.length tk1, .int .i64 t.Kill.Width, .slice ta3 t.Kill.Words.length tk3, .slice ta4 t.Copies.length tk4]]) Try.func56 rfl rfl ?_
  intro w0 M0 F0
  have ht_0 : -9223372036854775808 ≤ t.Gen.Width ∧ t.Gen.Width ≤ 9223372036854775807 := ht_0
  have ht_2 : -9223372036854775808 ≤ t.Kill.Width ∧ t.Kill.Width ≤ 9223372036854775807 := ht_2
  refine JJ_fact 0 rfl sl_bytes ?_
  intro hl1
  have hl1 : t.Gen.Words.length * 8 ≤ 140737488355328 := hl1
  refine JJ_fact 1 rfl sl_bytes ?_
  intro hl2
  have hl2 : t.Kill.Words.length * 8 ≤ 140737488355328 := hl2
  refine JJ_fact 2 rfl sl_bytes ?_
  intro hl3
  have hl3 : t.Copies.length * 16 ≤ 140737488355328 := hl3
  refine JK_seq ?_
  refine JK_region ?_
  refine JO_act rfl rfl rfl (OpA.box rfl rfl) ?_
  intro p4
  refine JO_q rfl rfl rfl (OpV.assign rfl rfl) ?_
  refine JO_nil ?_
  refine JK_seq ?_
  refine JK_seq ?_
  refine JK_region ?_
  refine JO_q rfl rfl rfl (OpV.fieldAddr rfl rfl fo54_0 (i := 0) rfl (isPtr_pv _ _)) ?_
  refine JO_q rfl rfl rfl (OpV.loadAF [.int .i64 t.Gen.Width, .slice ta1 t.Gen.Words.length tk1] rfl rfl sh50 (i := 0) rfl (reads_pv _ _) rfl rfl) ?_
  refine letv (bitset_Valid t.Gen) fun rv5 hg6 => ?_
  have hc7 := fn54 t.Gen ta1 tk1 (by (try dsimp only) <;> first | (unfold i64ok; omega) | omega | assumption) rv5 hg6
  refine JO_call [1] rfl rfl rfl (OpC.fn rfl ca54 rfl) (hc7) rfl ?_
  rintro - -
  refine JO_q rfl rfl rfl (OpV.not rfl rfl) ?_
  refine JO_q rfl rfl rfl (OpV.move rfl rfl) ?_
  refine JJ_split 9 rfl (fun (h8 : (!rv5) = true) => ?_) (fun (h8 : (!rv5) = false) => ?_)
  · skip
    have h10 : rv5 = false := not_true h8
    refine JO_skip rfl rfl rfl rfl rfl rfl ?_
    refine JO_skip rfl rfl rfl rfl rfl rfl ?_
    refine JO_skip rfl rfl rfl rfl rfl rfl ?_
    refine JO_skip rfl rfl rfl rfl rfl rfl ?_
    refine JO_q rfl rfl rfl (OpV.pickT rfl rfl rfl) ?_
    refine JO_q rfl rfl rfl (OpV.move rfl rfl) ?_
    refine JO_skip rfl rfl rfl rfl rfl rfl ?_
    refine JO_skip rfl rfl rfl rfl rfl rfl ?_
    refine JO_skip rfl rfl rfl rfl rfl rfl ?_
    refine JO_skip rfl rfl rfl rfl rfl rfl ?_
    refine JO_skip rfl rfl rfl rfl rfl rfl ?_
    refine JO_skip rfl rfl rfl rfl rfl rfl ?_
    refine JO_skip rfl rfl rfl rfl rfl rfl ?_
    refine JO_q rfl rfl rfl (OpV.pickT rfl rfl rfl) ?_
    refine JO_q rfl rfl rfl (OpV.move rfl rfl) ?_
    refine JO_skip rfl rfl rfl rfl rfl rfl ?_
    refine JO_skip rfl rfl rfl rfl rfl rfl ?_
    refine JO_skip rfl rfl rfl rfl rfl rfl ?_
    refine JO_skip rfl rfl rfl rfl rfl rfl ?_
    refine JO_q rfl rfl rfl (OpV.pickT rfl rfl rfl) ?_
    refine JO_nil ?_
    refine JK_condT rfl ?_
    refine JK_seq ?_
    refine JK_region ?_
    refine JO_q rfl rfl rfl (OpV.assign rfl rfl) ?_
    refine JO_nil ?_
    have hq : rr = false := hrr.symm.trans (by simp only [transfer_Valid, h8, h10, hg6, cs4])
    replace hrr := hrr.trans hq
    subst rr
    refine JK_return (()) rfl (.tmp rfl .nil) rfl trivial (Ent.take (is := []) rfl)
  · skip
    have h13 : rv5 = true := not_false h8
    refine JO_taken rfl rfl rfl rfl ?_
    refine JO_q rfl rfl rfl (OpV.fieldAddr rfl rfl fo54_1 (i := 0) rfl (isPtr_pv _ _)) ?_
    refine JO_taken rfl rfl rfl rfl ?_
    refine JO_q rfl rfl rfl (OpV.loadAF [.int .i64 t.Kill.Width, .slice ta3 t.Kill.Words.length tk3] rfl rfl sh50 (i := 0) rfl (reads_pv _ _) rfl rfl) ?_
    refine JO_taken rfl rfl rfl rfl ?_
    refine letv (bitset_Valid t.Kill) fun rv15 hg16 => ?_
    have hc17 := fn54 t.Kill ta3 tk3 (by (try dsimp only) <;> first | (unfold i64ok; omega) | omega | assumption) rv15 hg16
    refine JO_call [2] rfl rfl rfl (OpC.fn rfl ca54 rfl) (hc17) rfl ?_
    rintro - -
    refine JO_taken rfl rfl rfl rfl ?_
    refine JO_q rfl rfl rfl (OpV.not rfl rfl) ?_
    refine JO_q rfl rfl rfl (OpV.pickF rfl rfl rfl) ?_
    refine JO_q rfl rfl rfl (OpV.move rfl rfl) ?_
    refine JJ_split 15 rfl (fun (h18 : (!rv15) = true) => ?_) (fun (h18 : (!rv15) = false) => ?_)
    · skip
      have h20 : rv15 = false := not_true h18
      refine JO_skip rfl rfl rfl rfl rfl rfl ?_
      refine JO_skip rfl rfl rfl rfl rfl rfl ?_
      refine JO_skip rfl rfl rfl rfl rfl rfl ?_
      refine JO_skip rfl rfl rfl rfl rfl rfl ?_
      refine JO_skip rfl rfl rfl rfl rfl rfl ?_
      refine JO_skip rfl rfl rfl rfl rfl rfl ?_
      refine JO_skip rfl rfl rfl rfl rfl rfl ?_
      refine JO_q rfl rfl rfl (OpV.pickT rfl rfl rfl) ?_
      refine JO_q rfl rfl rfl (OpV.move rfl rfl) ?_
      refine JO_skip rfl rfl rfl rfl rfl rfl ?_
      refine JO_skip rfl rfl rfl rfl rfl rfl ?_
      refine JO_skip rfl rfl rfl rfl rfl rfl ?_
      refine JO_skip rfl rfl rfl rfl rfl rfl ?_
      refine JO_q rfl rfl rfl (OpV.pickT rfl rfl rfl) ?_
      refine JO_nil ?_
      refine JK_condT rfl ?_
      refine JK_seq ?_
      refine JK_region ?_
      refine JO_q rfl rfl rfl (OpV.assign rfl rfl) ?_
      refine JO_nil ?_
      have hq : rr = false := hrr.symm.trans (by simp only [transfer_Valid, h8, h13, h18, h20, hg6, hg16, cs4])
      replace hrr := hrr.trans hq
      subst rr
      refine JK_return (()) rfl (.tmp rfl .nil) rfl trivial (Ent.take (is := []) rfl)
    · skip
      have h23 : rv15 = true := not_false h18
      refine JO_taken rfl rfl rfl rfl ?_
      refine JO_q rfl rfl rfl (OpV.fieldAddr rfl rfl fo54_0 (i := 0) rfl (isPtr_pv _ _)) ?_
      refine JO_taken rfl rfl rfl rfl ?_
      refine JO_q rfl rfl rfl (OpV.fieldAddrF rfl rfl fo50_0 (i := 0) rfl (isPtr_pv _ _)) ?_
      refine JO_taken rfl rfl rfl rfl ?_
      refine JO_q rfl rfl rfl (OpV.loadF rfl rfl sh3 (i := 0) rfl (reads_pv _ _) rfl) ?_
      refine JO_taken rfl rfl rfl rfl ?_
      refine JO_q rfl rfl rfl (OpV.fieldAddr rfl rfl fo54_1 (i := 0) rfl (isPtr_pv _ _)) ?_
      refine JO_taken rfl rfl rfl rfl ?_
      refine JO_q rfl rfl rfl (OpV.fieldAddrF rfl rfl fo50_0 (i := 0) rfl (isPtr_pv _ _)) ?_
      refine JO_taken rfl rfl rfl rfl ?_
      refine JO_q rfl rfl rfl (OpV.loadF rfl rfl sh3 (i := 0) rfl (reads_pv _ _) rfl) ?_
      refine JO_taken rfl rfl rfl rfl ?_
      refine JO_q rfl rfl rfl (OpV.neq rfl rfl rfl) ?_
      refine JO_q rfl rfl rfl (OpV.pickF rfl rfl rfl) ?_
      refine JO_q rfl rfl rfl (OpV.move rfl rfl) ?_
      refine JJ_split 24 rfl (fun (h25 : (t.Gen.Width != t.Kill.Width) = true) => ?_) (fun (h25 : (t.Gen.Width != t.Kill.Width) = false) => ?_)
      · skip
        have g26 : t.Gen.Width ≠ t.Kill.Width := ne_of_bne h25
        refine JO_skip rfl rfl rfl rfl rfl rfl ?_
        refine JO_skip rfl rfl rfl rfl rfl rfl ?_
        refine JO_skip rfl rfl rfl rfl rfl rfl ?_
        refine JO_skip rfl rfl rfl rfl rfl rfl ?_
        refine JO_q rfl rfl rfl (OpV.pickT rfl rfl rfl) ?_
        refine JO_nil ?_
        refine JK_condT rfl ?_
        refine JK_seq ?_
        refine JK_region ?_
        refine JO_q rfl rfl rfl (OpV.assign rfl rfl) ?_
        refine JO_nil ?_
        have hq : rr = false := hrr.symm.trans (by simp only [transfer_Valid, h8, h13, h18, h23, h25, hg6, hg16, cs4])
        replace hrr := hrr.trans hq
        subst rr
        refine JK_return (()) rfl (.tmp rfl .nil) rfl trivial (Ent.take (is := []) rfl)
      · skip
        have g27 : t.Gen.Width = t.Kill.Width := eq_of_bne_false h25
        refine JO_taken rfl rfl rfl rfl ?_
        refine JO_q rfl rfl rfl (OpV.fieldAddr rfl rfl fo54_2 (i := 0) rfl (isPtr_pv _ _)) ?_
        refine JO_taken rfl rfl rfl rfl ?_
        refine JO_q rfl rfl rfl (OpV.loadF rfl rfl sh52 (i := 0) rfl (reads_pv _ _) rfl) ?_
        refine JO_taken rfl rfl rfl rfl ?_
        refine JO_q rfl rfl rfl (OpV.len rfl rfl sl52) ?_
        refine JO_taken rfl rfl rfl rfl ?_
        refine JO_q rfl rfl rfl (OpV.gtr rfl rfl rfl) ?_
        refine JO_q rfl rfl rfl (OpV.pickF rfl rfl rfl) ?_
        refine JO_nil ?_
        refine JK_cond (b := decide (64 < ((t.Copies.length : Nat) : Int))) rfl (fun (h28 : decide (64 < ((t.Copies.length : Nat) : Int)) = true) => ?_) (fun (h28 : decide (64 < ((t.Copies.length : Nat) : Int)) = false) => ?_)
        · skip
          have g29 : (64 < ((t.Copies.length : Nat) : Int)) := of_decide_eq_true h28
          refine JK_seq ?_
          refine JK_region ?_
          refine JO_q rfl rfl rfl (OpV.assign rfl rfl) ?_
          refine JO_nil ?_
          have hq : rr = false := hrr.symm.trans (by simp only [transfer_Valid, h8, h13, h18, h23, h25, h28, hg6, hg16, cs4])
          replace hrr := hrr.trans hq
          subst rr
          refine JK_return (()) rfl (.tmp rfl .nil) rfl trivial (Ent.take (is := []) rfl)
        · skip
          have g30 : ¬ (64 < ((t.Copies.length : Nat) : Int)) := of_decide_eq_false h28
          refine JK_skip ?_
          refine JK_seq ?_
          refine JK_seq ?_
          refine JK_region ?_
          refine JO_q rfl rfl rfl (OpV.fieldAddr rfl rfl fo54_2 (i := 0) rfl (isPtr_pv _ _)) ?_
          refine JO_q rfl rfl rfl (OpV.loadF rfl rfl sh52 (i := 0) rfl (reads_pv _ _) rfl) ?_
          refine JO_q rfl rfl rfl (OpV.len rfl rfl sl52) ?_
          refine JO_q rfl rfl rfl (OpV.move rfl rfl) ?_
          refine JO_nil ?_
          refine JK_block ?_
          refine JK_loop (γ := Nat × Int) (fun (r31, v33_32) => [(1, p4), (31, .slice ta4 t.Copies.length tk4), (32, .int .i64 ((t.Copies.length : Nat) : Int)), (33, .int .i64 v33_32)]) (fun (r31, v33_32) => [pv p4 [.int .i64 t.Gen.Width, .slice ta1 t.Gen.Words.length tk1, .int .i64 t.Kill.Width, .slice ta3 t.Kill.Words.length tk3, .slice ta4 t.Copies.length tk4], sl (.slice ta1 t.Gen.Words.length tk1) (t.Gen.Words : List (BitVec 64)), sl (.slice ta3 t.Kill.Words.length tk3) (t.Kill.Words : List (BitVec 64)), sl (.slice ta4 t.Copies.length tk4) (t.Copies : List GCopy)]) (fun (r31, v33_32) => transfer_Valid_L0 t r31 v33_32 = transfer_Valid_L0 t (((((t.Copies.length : Nat) : Int) : Int) - 0).toNat) 0 ∧ r31 = ((((t.Copies.length : Nat) : Int) : Int) - v33_32).toNat ∧ (0 : Int) ≤ v33_32 ∧ (v33_32 ≤ ((t.Copies.length : Nat) : Int) ∨ v33_32 = 0) ∧ (-9223372036854775808 ≤ v33_32 ∧ v33_32 ≤ 9223372036854775807)) (fun (r31, v33_32) => r31) (((((t.Copies.length : Nat) : Int) : Int) - 0).toNat, 0) ⟨rfl, rfl, (by omega), (.inr rfl), (by omega)⟩ (Env.sub_all rfl) (Ent.take (is := [0, 1, 2, 3]) rfl) ?_
          rintro ⟨r31, v33_32⟩ ⟨hM33, hr34, hi35, hi36, hk37⟩
          refine JJ_norm (L := [(1, p4), (31, .slice ta4 t.Copies.length tk4), (32, .int .i64 ((t.Copies.length : Nat) : Int)), (33, .int .i64 v33_32)]) (A := [pv p4 [.int .i64 t.Gen.Width, .slice ta1 t.Gen.Words.length tk1, .int .i64 t.Kill.Width, .slice ta3 t.Kill.Words.length tk3, .slice ta4 t.Copies.length tk4], sl (.slice ta1 t.Gen.Words.length tk1) (t.Gen.Words : List (BitVec 64)), sl (.slice ta3 t.Kill.Words.length tk3) (t.Kill.Words : List (BitVec 64)), sl (.slice ta4 t.Copies.length tk4) (t.Copies : List GCopy)]) rfl rfl ?_
          refine JJ_fact 1 rfl sl_bytes ?_
          intro hl38
          have hl38 : t.Gen.Words.length * 8 ≤ 140737488355328 := hl38
          refine JJ_fact 2 rfl sl_bytes ?_
          intro hl39
          have hl39 : t.Kill.Words.length * 8 ≤ 140737488355328 := hl39
          refine JJ_fact 3 rfl sl_bytes ?_
          intro hl40
          have hl40 : t.Copies.length * 16 ≤ 140737488355328 := hl40
          refine JK_seq ?_
          refine JK_region ?_
          refine JO_q rfl rfl rfl (OpV.lss rfl rfl rfl) ?_
          refine JO_nil ?_
          refine JK_seq ?_
          refine JK_cond (b := decide (v33_32 < ((t.Copies.length : Nat) : Int))) rfl (fun (h41 : decide (v33_32 < ((t.Copies.length : Nat) : Int)) = true) => ?_) (fun (h41 : decide (v33_32 < ((t.Copies.length : Nat) : Int)) = false) => ?_)
          · skip
            have g42 : (v33_32 < ((t.Copies.length : Nat) : Int)) := of_decide_eq_true h41
            obtain ⟨r43, rfl⟩ : ∃ q, r31 = q + 1 := ⟨r31 - 1, by omega⟩
            refine JK_skip ?_
            refine JK_seq ?_
            refine JK_block ?_
            refine JK_seq ?_
            refine JK_region ?_
            refine JO_q rfl rfl rfl (OpV.move rfl rfl) ?_
            refine JO_q rfl rfl rfl (OpV.indexAddr (m := 3) rfl rfl rfl sl52 rfl (isSl_sl _ _) (by first | omega | (simp only [lens]; omega) | (simp only [lens] at *; omega))) ?_
            refine JJ_peek_GCopy (v33_32 : Int).toNat 3 rfl (by omega) ?_
            intro hb44 hb45
            have hb44 : -9223372036854775808 ≤ (t.Copies.getD (v33_32 : Int).toNat default).From ∧ (t.Copies.getD (v33_32 : Int).toNat default).From ≤ 9223372036854775807 := hb44
            have hb45 : -9223372036854775808 ≤ (t.Copies.getD (v33_32 : Int).toNat default).To ∧ (t.Copies.getD (v33_32 : Int).toNat default).To ≤ 9223372036854775807 := hb45
            refine JO_q rfl rfl rfl (OpV.loadA rfl rfl sh68 (i := 0) rfl (reads_pv _ _) rfl) ?_
            refine JO_act rfl rfl rfl (OpA.alloc rfl ze68) ?_
            intro p46
            refine JO_q rfl rfl rfl (OpV.assign rfl rfl) ?_
            refine JO_store rfl rfl (OpS.frame [0] rfl (OpS.storeCl [.int .i64 ((t.Copies.getD (v33_32 : Int).toNat default).From), .int .i64 ((t.Copies.getD (v33_32 : Int).toNat default).To)] [.int .i64 ((t.Copies.getD (v33_32 : Int).toNat default).From), .int .i64 ((t.Copies.getD (v33_32 : Int).toNat default).To)] rfl rfl rfl sh68 rfl rfl rfl (Nat.le_of_ble_eq_true rfl) rfl)) ?_
            refine JO_nil ?_
            refine JK_seq ?_
            refine JJ_fact 0 rfl isP_Cl ?_
            intro hp47
            refine JJ_addFact hp47 ?_
            refine letv (transfer_bit t ((t.Copies.getD (v33_32 : Int).toNat default).From)) fun rv48 hg49 => ?_
            refine bool_split ((!rv48)) (fun (h50 : (!rv48) = true) => ?_) (fun (h50 : (!rv48) = false) => ?_)
            · skip
              have h52 : rv48 = false := not_true h50
              refine JK_drawJ [0, 0, 2, 7, 15, 31, 63, 63, 191, 511, 1023, 2047, 4095, 8191, 16383, 32767, 65535, 131071, 65535, 327679, 1048575, 2097151, 65535, 8388607, 16777215, 33554431, 67108863] [] fmix ?_
              refine JD_v [3] (wn rfl) rfl rfl (OpV.loadA rfl rfl sh54 (i := 0) rfl (reads_pv _ _) rfl) ?_
              refine JD_v [0] (wn rfl) rfl rfl (OpV.fieldAddr rfl rfl fo68_0 (i := 0) rfl (isPtr_fact _)) ?_
              refine JD_v [1] (wn rfl) rfl rfl (OpV.loadF rfl rfl sh3 (i := 0) rfl (reads_Cl _ _) rfl) ?_
              refine JD_x [4, 5, 6] [] (fun lG => .bool rv48) [⟨some 3, none, [], fun lG => SP.fact (True)⟩] (wn rfl) rfl rfl rfl (fun G => by refine OpX.n3 (A' := [sl (.slice ta1 t.Gen.Words.length tk1) (t.Gen.Words : List (BitVec 64)), sl (.slice ta3 t.Kill.Words.length tk3) (t.Kill.Words : List (BitVec 64)), sl (.slice ta4 t.Copies.length tk4) (t.Copies : List GCopy)]) (V' := fun g => .bool rv48) (B' := fun g => [sl (.slice ta1 t.Gen.Words.length tk1) (t.Gen.Words : List (BitVec 64)), sl (.slice ta3 t.Kill.Words.length tk3) (t.Kill.Words : List (BitVec 64)), sl (.slice ta4 t.Copies.length tk4) (t.Copies : List GCopy), SP.fact (True)]) (by kernel_rfl) (by kernel_rfl) (by kernel_rfl) ?_; refine OpX.postR (OpX.frame [0, 1, 2] rfl (OpX.ofC (fun _ => []) (fun _ => ()) (fun _ => rfl) (by intro _ _ h; cases h) (OpC.fn rfl ca61 rfl) (fn61 t ta1 tk1 ta3 tk3 ta4 tk4 ((t.Copies.getD (v33_32 : Int).toNat default).From) (by (try dsimp only) <;> first | (unfold i64ok; omega) | omega | assumption) (by (try dsimp only) <;> first | (unfold i64ok; omega) | omega | assumption) (by (try dsimp only) <;> first | (unfold i64ok; omega) | omega | assumption) rv48 hg49))) (fun g => ?_); exact Ent.take (is := [1, 2, 3, 0]) rfl) ?_
              refine JD_b h50 [] (wn rfl) rfl rfl (OpV.not rfl rfl) ?_
              refine JD_v [] (wn rfl) rfl rfl (OpV.move rfl rfl) ?_
              refine JD_skip (ws rfl rfl rfl _ rfl rfl) rfl ?_
              refine JD_skip (ws rfl rfl rfl _ rfl rfl) rfl ?_
              refine JD_skip (ws rfl rfl rfl _ rfl rfl) rfl ?_
              refine JD_skip (ws rfl rfl rfl _ rfl rfl) rfl ?_
              refine JD_skip (ws rfl rfl rfl _ rfl rfl) rfl ?_
              refine JD_v [] (wn rfl) rfl rfl (OpV.pickT rfl rfl rfl) ?_
              refine JD_v [] (wn rfl) rfl rfl (OpV.move rfl rfl) ?_
              refine JD_skip (ws rfl rfl rfl _ rfl rfl) rfl ?_
              refine JD_skip (ws rfl rfl rfl _ rfl rfl) rfl ?_
              refine JD_skip (ws rfl rfl rfl _ rfl rfl) rfl ?_
              refine JD_skip (ws rfl rfl rfl _ rfl rfl) rfl ?_
              refine JD_skip (ws rfl rfl rfl _ rfl rfl) rfl ?_
              refine JD_skip (ws rfl rfl rfl _ rfl rfl) rfl ?_
              refine JD_skip (ws rfl rfl rfl _ rfl rfl) rfl ?_
              refine JD_skip (ws rfl rfl rfl _ rfl rfl) rfl ?_
              refine JD_skip (ws rfl rfl rfl _ rfl rfl) rfl ?_
              refine JD_skip (ws rfl rfl rfl _ rfl rfl) rfl ?_
              refine JD_skip (ws rfl rfl rfl _ rfl rfl) rfl ?_
              refine JD_skip (ws rfl rfl rfl _ rfl rfl) rfl ?_
              refine JD_skip (ws rfl rfl rfl _ rfl rfl) rfl ?_
              refine JD_v [] (wn rfl) rfl rfl (OpV.pickT rfl rfl rfl) ?_
              refine JD_nil ⟨by kernel_rfl, fun G => ?_⟩
              refine JJ_weaken (L' := [(1, p4), (31, .slice ta4 t.Copies.length tk4), (32, .int .i64 ((t.Copies.length : Nat) : Int)), (33, .int .i64 v33_32), (64, .bool true)]) (A' := [SP.fact (isP p46), Cl p46 [.int .i64 ((t.Copies.getD (v33_32 : Int).toNat default).From), .int .i64 ((t.Copies.getD (v33_32 : Int).toNat default).To)], pv (eptr 2 (.slice ta4 t.Copies.length tk4) (v33_32 : Int).toNat) [.int .i64 ((t.Copies.getD (v33_32 : Int).toNat default).From), .int .i64 ((t.Copies.getD (v33_32 : Int).toNat default).To)], pv p4 [.int .i64 t.Gen.Width, .slice ta1 t.Gen.Words.length tk1, .int .i64 t.Kill.Width, .slice ta3 t.Kill.Words.length tk3, .slice ta4 t.Copies.length tk4], sl (.slice ta1 t.Gen.Words.length tk1) (t.Gen.Words : List (BitVec 64)), sl (.slice ta3 t.Kill.Words.length tk3) (t.Kill.Words : List (BitVec 64)), sl (.slice ta4 t.Copies.length tk4) (t.Copies : List GCopy), SP.fact (True)]) (Env.sub_all (by kernel_rfl)) (Ent.of_eq (by kernel_rfl)) ?_
              refine JJ_keep [1, 1, 2, 3, 4, 5] rfl ?_
              refine JK_condT rfl ?_
              refine JK_seq ?_
              refine JK_region ?_
              refine JO_q rfl rfl rfl (OpV.assign rfl rfl) ?_
              refine JO_nil ?_
              have hR54 : transfer_Valid_L0 t (((((t.Copies.length : Nat) : Int) : Int) - 0).toNat) 0 = LR.ret false := by
                rw [← hM33]; simp only [transfer_Valid_L0, h8, h13, h18, h23, h25, h28, h41, h50, h52, hg6, hg16, hg49, cs4]
              have hq : rr = false := hrr.symm.trans (by simp only [transfer_Valid, h8, h13, h18, h23, h25, h28, h41, h50, h52, hg6, hg16, hg49, hR54, cs4])
              replace hrr := hrr.trans hq
              subst rr
              refine JK_return (()) rfl (.tmp rfl .nil) rfl trivial (Ent.take (is := []) rfl)
            · skip
              have h56 : rv48 = true := not_false h50
              refine letv (transfer_bit t ((t.Copies.getD (v33_32 : Int).toNat default).To)) fun rv58 hg59 => ?_
              refine bool_split ((!rv58)) (fun (h60 : (!rv58) = true) => ?_) (fun (h60 : (!rv58) = false) => ?_)
              · skip
                have h62 : rv58 = false := not_true h60
                refine JK_drawJ [0, 0, 2, 7, 15, 31, 63, 63, 191, 511, 1023, 2047, 4095, 8191, 16383, 32767, 65535, 131071, 65535, 327679, 1048575, 2097151, 65535, 8388607, 16777215, 33554431, 67108863] [] fmix ?_
                refine JD_v [3] (wn rfl) rfl rfl (OpV.loadA rfl rfl sh54 (i := 0) rfl (reads_pv _ _) rfl) ?_
                refine JD_v [0] (wn rfl) rfl rfl (OpV.fieldAddr rfl rfl fo68_0 (i := 0) rfl (isPtr_fact _)) ?_
                refine JD_v [1] (wn rfl) rfl rfl (OpV.loadF rfl rfl sh3 (i := 0) rfl (reads_Cl _ _) rfl) ?_
                refine JD_x [4, 5, 6] [] (fun lG => .bool rv48) [⟨some 3, none, [], fun lG => SP.fact (True)⟩] (wn rfl) rfl rfl rfl (fun G => by refine OpX.n3 (A' := [sl (.slice ta1 t.Gen.Words.length tk1) (t.Gen.Words : List (BitVec 64)), sl (.slice ta3 t.Kill.Words.length tk3) (t.Kill.Words : List (BitVec 64)), sl (.slice ta4 t.Copies.length tk4) (t.Copies : List GCopy)]) (V' := fun g => .bool rv48) (B' := fun g => [sl (.slice ta1 t.Gen.Words.length tk1) (t.Gen.Words : List (BitVec 64)), sl (.slice ta3 t.Kill.Words.length tk3) (t.Kill.Words : List (BitVec 64)), sl (.slice ta4 t.Copies.length tk4) (t.Copies : List GCopy), SP.fact (True)]) (by kernel_rfl) (by kernel_rfl) (by kernel_rfl) ?_; refine OpX.postR (OpX.frame [0, 1, 2] rfl (OpX.ofC (fun _ => []) (fun _ => ()) (fun _ => rfl) (by intro _ _ h; cases h) (OpC.fn rfl ca61 rfl) (fn61 t ta1 tk1 ta3 tk3 ta4 tk4 ((t.Copies.getD (v33_32 : Int).toNat default).From) (by (try dsimp only) <;> first | (unfold i64ok; omega) | omega | assumption) (by (try dsimp only) <;> first | (unfold i64ok; omega) | omega | assumption) (by (try dsimp only) <;> first | (unfold i64ok; omega) | omega | assumption) rv48 hg49))) (fun g => ?_); exact Ent.take (is := [1, 2, 3, 0]) rfl) ?_
                refine JD_b h50 [] (wn rfl) rfl rfl (OpV.not rfl rfl) ?_
                refine JD_v [] (wn rfl) rfl rfl (OpV.move rfl rfl) ?_
                refine JD_v [3] (wt rfl rfl rfl rfl) rfl rfl (OpV.loadA rfl rfl sh54 (i := 0) rfl (reads_pv _ _) rfl) ?_
                refine JD_v [0] (wt rfl rfl rfl rfl) rfl rfl (OpV.fieldAddr rfl rfl fo68_1 (i := 0) rfl (isPtr_fact _)) ?_
                refine JD_v [1] (wt rfl rfl rfl rfl) rfl rfl (OpV.loadF rfl rfl sh3 (i := 0) rfl (reads_Cl _ _) rfl) ?_
                refine JD_x [4, 5, 6] [] (fun lG => .bool rv58) [⟨some 9, none, [], fun lG => SP.fact (True)⟩] (wt rfl rfl rfl rfl) rfl rfl rfl (fun G => by refine OpX.n3 (A' := [sl (.slice ta1 t.Gen.Words.length tk1) (t.Gen.Words : List (BitVec 64)), sl (.slice ta3 t.Kill.Words.length tk3) (t.Kill.Words : List (BitVec 64)), sl (.slice ta4 t.Copies.length tk4) (t.Copies : List GCopy)]) (V' := fun g => .bool rv58) (B' := fun g => [sl (.slice ta1 t.Gen.Words.length tk1) (t.Gen.Words : List (BitVec 64)), sl (.slice ta3 t.Kill.Words.length tk3) (t.Kill.Words : List (BitVec 64)), sl (.slice ta4 t.Copies.length tk4) (t.Copies : List GCopy), SP.fact (True)]) (by kernel_rfl) (by kernel_rfl) (by kernel_rfl) ?_; refine OpX.postR (OpX.frame [0, 1, 2] rfl (OpX.ofC (fun _ => []) (fun _ => ()) (fun _ => rfl) (by intro _ _ h; cases h) (OpC.fn rfl ca61 rfl) (fn61 t ta1 tk1 ta3 tk3 ta4 tk4 ((t.Copies.getD (v33_32 : Int).toNat default).To) (by (try dsimp only) <;> first | (unfold i64ok; omega) | omega | assumption) (by (try dsimp only) <;> first | (unfold i64ok; omega) | omega | assumption) (by (try dsimp only) <;> first | (unfold i64ok; omega) | omega | assumption) rv58 hg59))) (fun g => ?_); exact Ent.take (is := [1, 2, 3, 0]) rfl) ?_
                refine JD_b h60 [] (wt rfl rfl rfl rfl) rfl rfl (OpV.not rfl rfl) ?_
                refine JD_v [] (wn rfl) rfl rfl (OpV.pickF rfl rfl rfl) ?_
                refine JD_v [] (wn rfl) rfl rfl (OpV.move rfl rfl) ?_
                refine JD_skip (ws rfl rfl rfl _ rfl rfl) rfl ?_
                refine JD_skip (ws rfl rfl rfl _ rfl rfl) rfl ?_
                refine JD_skip (ws rfl rfl rfl _ rfl rfl) rfl ?_
                refine JD_skip (ws rfl rfl rfl _ rfl rfl) rfl ?_
                refine JD_skip (ws rfl rfl rfl _ rfl rfl) rfl ?_
                refine JD_skip (ws rfl rfl rfl _ rfl rfl) rfl ?_
                refine JD_skip (ws rfl rfl rfl _ rfl rfl) rfl ?_
                refine JD_skip (ws rfl rfl rfl _ rfl rfl) rfl ?_
                refine JD_skip (ws rfl rfl rfl _ rfl rfl) rfl ?_
                refine JD_skip (ws rfl rfl rfl _ rfl rfl) rfl ?_
                refine JD_skip (ws rfl rfl rfl _ rfl rfl) rfl ?_
                refine JD_skip (ws rfl rfl rfl _ rfl rfl) rfl ?_
                refine JD_skip (ws rfl rfl rfl _ rfl rfl) rfl ?_
                refine JD_v [] (wn rfl) rfl rfl (OpV.pickT rfl rfl rfl) ?_
                refine JD_nil ⟨by kernel_rfl, fun G => ?_⟩
                refine JJ_weaken (L' := [(1, p4), (31, .slice ta4 t.Copies.length tk4), (32, .int .i64 ((t.Copies.length : Nat) : Int)), (33, .int .i64 v33_32), (64, .bool true)]) (A' := [SP.fact (isP p46), Cl p46 [.int .i64 ((t.Copies.getD (v33_32 : Int).toNat default).From), .int .i64 ((t.Copies.getD (v33_32 : Int).toNat default).To)], pv (eptr 2 (.slice ta4 t.Copies.length tk4) (v33_32 : Int).toNat) [.int .i64 ((t.Copies.getD (v33_32 : Int).toNat default).From), .int .i64 ((t.Copies.getD (v33_32 : Int).toNat default).To)], pv p4 [.int .i64 t.Gen.Width, .slice ta1 t.Gen.Words.length tk1, .int .i64 t.Kill.Width, .slice ta3 t.Kill.Words.length tk3, .slice ta4 t.Copies.length tk4], sl (.slice ta1 t.Gen.Words.length tk1) (t.Gen.Words : List (BitVec 64)), sl (.slice ta3 t.Kill.Words.length tk3) (t.Kill.Words : List (BitVec 64)), sl (.slice ta4 t.Copies.length tk4) (t.Copies : List GCopy), SP.fact (True), SP.fact (True)]) (Env.sub_all (by kernel_rfl)) (Ent.of_eq (by kernel_rfl)) ?_
                refine JJ_keep [1, 1, 2, 3, 4, 5] rfl ?_
                refine JK_condT rfl ?_
                refine JK_seq ?_
                refine JK_region ?_
                refine JO_q rfl rfl rfl (OpV.assign rfl rfl) ?_
                refine JO_nil ?_
                have hR64 : transfer_Valid_L0 t (((((t.Copies.length : Nat) : Int) : Int) - 0).toNat) 0 = LR.ret false := by
                  rw [← hM33]; simp only [transfer_Valid_L0, h8, h13, h18, h23, h25, h28, h41, h50, h56, h60, h62, hg6, hg16, hg49, hg59, cs4]
                have hq : rr = false := hrr.symm.trans (by simp only [transfer_Valid, h8, h13, h18, h23, h25, h28, h41, h50, h56, h60, h62, hg6, hg16, hg49, hg59, hR64, cs4])
                replace hrr := hrr.trans hq
                subst rr
                refine JK_return (()) rfl (.tmp rfl .nil) rfl trivial (Ent.take (is := []) rfl)
              · skip
                have h66 : rv58 = true := not_false h60
                refine bool_split (decide (0 < v33_32)) (fun (h68 : decide (0 < v33_32) = true) => ?_) (fun (h68 : decide (0 < v33_32) = false) => ?_)
                · skip
                  have g69 : (0 < v33_32) := of_decide_eq_true h68
                  refine JJ_peek_GCopy ((v33_32 - 1) : Int).toNat 6 rfl (by omega) ?_
                  intro hb70 hb71
                  have hb70 : -9223372036854775808 ≤ (t.Copies.getD ((v33_32 - 1) : Int).toNat default).From ∧ (t.Copies.getD ((v33_32 - 1) : Int).toNat default).From ≤ 9223372036854775807 := hb70
                  have hb71 : -9223372036854775808 ≤ (t.Copies.getD ((v33_32 - 1) : Int).toNat default).To ∧ (t.Copies.getD ((v33_32 - 1) : Int).toNat default).To ≤ 9223372036854775807 := hb71
                  refine letv (transfer_compare (t.Copies.getD ((v33_32 - 1) : Int).toNat default) (t.Copies.getD (v33_32 : Int).toNat default)) fun rv72 hg73 => ?_
                  refine JK_drawJ [0, 0, 2, 7, 15, 31, 63, 63, 191, 511, 1023, 2047, 4095, 8191, 16383, 32767, 65535, 131071, 65535, 327679, 1048575, 2097151, 65535, 8388607, 16777215, 33554431, 67108863] [] fmix ?_
                  refine JD_v [4] (wn rfl) rfl rfl (OpV.loadA rfl rfl sh54 (i := 0) rfl (reads_pv _ _) rfl) ?_
                  refine JD_v [1] (wn rfl) rfl rfl (OpV.fieldAddr rfl rfl fo68_0 (i := 0) rfl (isPtr_fact _)) ?_
                  refine JD_v [2] (wn rfl) rfl rfl (OpV.loadF rfl rfl sh3 (i := 0) rfl (reads_Cl _ _) rfl) ?_
                  refine JD_x [5, 6, 7] [] (fun lG => .bool rv48) [⟨some 3, none, [], fun lG => SP.fact (True)⟩] (wn rfl) rfl rfl rfl (fun G => by refine OpX.n3 (A' := [sl (.slice ta1 t.Gen.Words.length tk1) (t.Gen.Words : List (BitVec 64)), sl (.slice ta3 t.Kill.Words.length tk3) (t.Kill.Words : List (BitVec 64)), sl (.slice ta4 t.Copies.length tk4) (t.Copies : List GCopy)]) (V' := fun g => .bool rv48) (B' := fun g => [sl (.slice ta1 t.Gen.Words.length tk1) (t.Gen.Words : List (BitVec 64)), sl (.slice ta3 t.Kill.Words.length tk3) (t.Kill.Words : List (BitVec 64)), sl (.slice ta4 t.Copies.length tk4) (t.Copies : List GCopy), SP.fact (True)]) (by kernel_rfl) (by kernel_rfl) (by kernel_rfl) ?_; refine OpX.postR (OpX.frame [0, 1, 2] rfl (OpX.ofC (fun _ => []) (fun _ => ()) (fun _ => rfl) (by intro _ _ h; cases h) (OpC.fn rfl ca61 rfl) (fn61 t ta1 tk1 ta3 tk3 ta4 tk4 ((t.Copies.getD (v33_32 : Int).toNat default).From) (by (try dsimp only) <;> first | (unfold i64ok; omega) | omega | assumption) (by (try dsimp only) <;> first | (unfold i64ok; omega) | omega | assumption) (by (try dsimp only) <;> first | (unfold i64ok; omega) | omega | assumption) rv48 hg49))) (fun g => ?_); exact Ent.take (is := [1, 2, 3, 0]) rfl) ?_
                  refine JD_b h50 [] (wn rfl) rfl rfl (OpV.not rfl rfl) ?_
                  refine JD_v [] (wn rfl) rfl rfl (OpV.move rfl rfl) ?_
                  refine JD_v [4] (wt rfl rfl rfl rfl) rfl rfl (OpV.loadA rfl rfl sh54 (i := 0) rfl (reads_pv _ _) rfl) ?_
                  refine JD_v [1] (wt rfl rfl rfl rfl) rfl rfl (OpV.fieldAddr rfl rfl fo68_1 (i := 0) rfl (isPtr_fact _)) ?_
                  refine JD_v [2] (wt rfl rfl rfl rfl) rfl rfl (OpV.loadF rfl rfl sh3 (i := 0) rfl (reads_Cl _ _) rfl) ?_
                  refine JD_x [5, 6, 7] [] (fun lG => .bool rv58) [⟨some 9, none, [], fun lG => SP.fact (True)⟩] (wt rfl rfl rfl rfl) rfl rfl rfl (fun G => by refine OpX.n3 (A' := [sl (.slice ta1 t.Gen.Words.length tk1) (t.Gen.Words : List (BitVec 64)), sl (.slice ta3 t.Kill.Words.length tk3) (t.Kill.Words : List (BitVec 64)), sl (.slice ta4 t.Copies.length tk4) (t.Copies : List GCopy)]) (V' := fun g => .bool rv58) (B' := fun g => [sl (.slice ta1 t.Gen.Words.length tk1) (t.Gen.Words : List (BitVec 64)), sl (.slice ta3 t.Kill.Words.length tk3) (t.Kill.Words : List (BitVec 64)), sl (.slice ta4 t.Copies.length tk4) (t.Copies : List GCopy), SP.fact (True)]) (by kernel_rfl) (by kernel_rfl) (by kernel_rfl) ?_; refine OpX.postR (OpX.frame [0, 1, 2] rfl (OpX.ofC (fun _ => []) (fun _ => ()) (fun _ => rfl) (by intro _ _ h; cases h) (OpC.fn rfl ca61 rfl) (fn61 t ta1 tk1 ta3 tk3 ta4 tk4 ((t.Copies.getD (v33_32 : Int).toNat default).To) (by (try dsimp only) <;> first | (unfold i64ok; omega) | omega | assumption) (by (try dsimp only) <;> first | (unfold i64ok; omega) | omega | assumption) (by (try dsimp only) <;> first | (unfold i64ok; omega) | omega | assumption) rv58 hg59))) (fun g => ?_); exact Ent.take (is := [1, 2, 3, 0]) rfl) ?_
                  refine JD_b h60 [] (wt rfl rfl rfl rfl) rfl rfl (OpV.not rfl rfl) ?_
                  refine JD_v [] (wn rfl) rfl rfl (OpV.pickF rfl rfl rfl) ?_
                  refine JD_v [] (wn rfl) rfl rfl (OpV.move rfl rfl) ?_
                  refine JD_v [] (wt rfl rfl rfl rfl) rfl rfl (OpV.move rfl rfl) ?_
                  refine JD_b h68 [] (wt rfl rfl rfl rfl) rfl rfl (OpV.gtr rfl rfl rfl) ?_
                  refine JD_v [] (wt rfl rfl rfl rfl) rfl rfl (OpV.move rfl rfl) ?_
                  refine JD_v [4] (wt rfl rfl rfl rfl) rfl rfl (OpV.fieldAddr rfl rfl fo54_2 (i := 0) rfl (isPtr_pv _ _)) ?_
                  refine JD_v [4] (wt rfl rfl rfl rfl) rfl rfl (OpV.loadF rfl rfl sh52 (i := 0) rfl (reads_pv _ _) rfl) ?_
                  refine JD_v [] (wt rfl rfl rfl rfl) rfl rfl (OpV.move rfl rfl) ?_
                  refine JD_v [] (wt rfl rfl rfl rfl) rfl rfl (OpV.sub rfl rfl rfl (by unfold i64ok; omega)) ?_
                  refine JD_v [7] (wt rfl rfl rfl rfl) rfl rfl (OpV.indexAddr (m := 0) rfl rfl rfl sl52 rfl (isSl_sl _ _) (by first | omega | (simp only [lens]; omega) | (simp only [lens] at *; omega))) ?_
                  refine JD_v [0] (wt rfl rfl rfl rfl) rfl rfl (OpV.loadA rfl rfl sh68 (i := 0) rfl (reads_pv _ _) rfl) ?_
                  refine JD_v [2] (wt rfl rfl rfl rfl) rfl rfl (OpV.loadA rfl rfl sh68 (i := 0) rfl (reads_Cl _ _) rfl) ?_
                  refine JD_x [] [] (fun lG => .int .i64 rv72) [⟨some 23, none, [], fun lG => SP.fact (i64ok rv72)⟩] (wt rfl rfl rfl rfl) rfl rfl rfl (fun G => by refine OpX.n3 (A' := []) (V' := fun g => .int .i64 rv72) (B' := fun g => [SP.fact (i64ok rv72)]) (by kernel_rfl) (by kernel_rfl) (by kernel_rfl) ?_; refine OpX.postR (OpX.frame [] rfl (OpX.ofC (fun _ => []) (fun _ => ()) (fun _ => rfl) (by intro _ _ h; cases h) (OpC.fn rfl ca62 rfl) (fn62 ((t.Copies.getD ((v33_32 - 1) : Int).toNat default)) ((t.Copies.getD (v33_32 : Int).toNat default)) (by (try dsimp only) <;> first | (unfold i64ok; omega) | omega | assumption) (by (try dsimp only) <;> first | (unfold i64ok; omega) | omega | assumption) (by (try dsimp only) <;> first | (unfold i64ok; omega) | omega | assumption) (by (try dsimp only) <;> first | (unfold i64ok; omega) | omega | assumption) rv72 hg73))) (fun g => ?_); exact Ent.take (is := [0]) rfl) ?_
                  refine JD_v [] (wt rfl rfl rfl rfl) rfl rfl (OpV.geq rfl rfl rfl) ?_
                  refine JD_v [] (wt rfl rfl rfl rfl) rfl rfl (OpV.pickT rfl rfl rfl) ?_
                  refine JD_v [] (wn rfl) rfl rfl (OpV.pickF rfl rfl rfl) ?_
                  refine JD_nil ⟨by kernel_rfl, fun G => ?_⟩
                  refine JJ_weaken (L' := [(1, p4), (31, .slice ta4 t.Copies.length tk4), (32, .int .i64 ((t.Copies.length : Nat) : Int)), (33, .int .i64 v33_32), (64, .bool (decide (0 ≤ rv72)))]) (A' := [pv (eptr 2 (.slice ta4 t.Copies.length tk4) ((v33_32 - 1) : Int).toNat) [.int .i64 ((t.Copies.getD ((v33_32 - 1) : Int).toNat default).From), .int .i64 ((t.Copies.getD ((v33_32 - 1) : Int).toNat default).To)], SP.fact (isP p46), Cl p46 [.int .i64 ((t.Copies.getD (v33_32 : Int).toNat default).From), .int .i64 ((t.Copies.getD (v33_32 : Int).toNat default).To)], pv (eptr 2 (.slice ta4 t.Copies.length tk4) (v33_32 : Int).toNat) [.int .i64 ((t.Copies.getD (v33_32 : Int).toNat default).From), .int .i64 ((t.Copies.getD (v33_32 : Int).toNat default).To)], pv p4 [.int .i64 t.Gen.Width, .slice ta1 t.Gen.Words.length tk1, .int .i64 t.Kill.Width, .slice ta3 t.Kill.Words.length tk3, .slice ta4 t.Copies.length tk4], sl (.slice ta1 t.Gen.Words.length tk1) (t.Gen.Words : List (BitVec 64)), sl (.slice ta3 t.Kill.Words.length tk3) (t.Kill.Words : List (BitVec 64)), sl (.slice ta4 t.Copies.length tk4) (t.Copies : List GCopy), SP.fact (True), SP.fact (True), SP.fact (i64ok rv72)]) (Env.sub_all (by kernel_rfl)) (Ent.of_eq (by kernel_rfl)) ?_
                  refine JJ_fact 10 rfl (fun h => h) ?_
                  rintro he74
                  have he74 : -9223372036854775808 ≤ rv72 ∧ rv72 ≤ 9223372036854775807 := he74
                  refine JJ_keep [0, 2, 2, 3, 4, 5, 6] rfl ?_
                  refine JK_cond (b := decide (0 ≤ rv72)) rfl (fun (h75 : decide (0 ≤ rv72) = true) => ?_) (fun (h75 : decide (0 ≤ rv72) = false) => ?_)
                  · skip
                    have g76 : (0 ≤ rv72) := of_decide_eq_true h75
                    refine JK_seq ?_
                    refine JK_region ?_
                    refine JO_q rfl rfl rfl (OpV.assign rfl rfl) ?_
                    refine JO_nil ?_
                    have hR77 : transfer_Valid_L0 t (((((t.Copies.length : Nat) : Int) : Int) - 0).toNat) 0 = LR.ret false := by
                      rw [← hM33]; simp only [transfer_Valid_L0, h8, h13, h18, h23, h25, h28, h41, h50, h56, h60, h66, h68, h75, hg6, hg16, hg49, hg59, hg73, cs4]
                    have hq : rr = false := hrr.symm.trans (by simp only [transfer_Valid, h8, h13, h18, h23, h25, h28, h41, h50, h56, h60, h66, h68, h75, hg6, hg16, hg49, hg59, hg73, hR77, cs4])
                    replace hrr := hrr.trans hq
                    subst rr
                    refine JK_return (()) rfl (.tmp rfl .nil) rfl trivial (Ent.take (is := []) rfl)
                  · skip
                    have g78 : ¬ (0 ≤ rv72) := of_decide_eq_false h75
                    refine JK_skip ?_
                    refine JK_blk ?_
                    refine JK_region ?_
                    refine JO_q rfl rfl rfl (OpV.add rfl rfl rfl (by unfold i64ok; omega)) ?_
                    refine JO_q rfl rfl rfl (OpV.move rfl rfl) ?_
                    refine JO_nil ?_
                    refine JK_goal (r43, (v33_32 + 1)) ⟨(by rw [← hM33]; simp only [transfer_Valid_L0, h8, h13, h18, h23, h25, h28, h41, h50, h56, h60, h66, h68, h75, hg6, hg16, hg49, hg59, hg73, cs4]), (by omega), (by omega), (by omega), (by omega)⟩ (by show r43 < r43 + 1; omega) (Env.sub_all rfl) (Ent.take (is := [3, 4, 5, 6]) rfl)
                · skip
                  have g79 : ¬ (0 < v33_32) := of_decide_eq_false h68
                  refine JK_drawJ [0, 0, 2, 7, 15, 31, 63, 63, 191, 511, 1023, 2047, 4095, 8191, 16383, 32767, 65535, 131071, 65535, 327679, 1048575, 2097151, 65535, 8388607, 16777215, 33554431, 67108863] [] fmix ?_
                  refine JD_v [3] (wn rfl) rfl rfl (OpV.loadA rfl rfl sh54 (i := 0) rfl (reads_pv _ _) rfl) ?_
                  refine JD_v [0] (wn rfl) rfl rfl (OpV.fieldAddr rfl rfl fo68_0 (i := 0) rfl (isPtr_fact _)) ?_
                  refine JD_v [1] (wn rfl) rfl rfl (OpV.loadF rfl rfl sh3 (i := 0) rfl (reads_Cl _ _) rfl) ?_
                  refine JD_x [4, 5, 6] [] (fun lG => .bool rv48) [⟨some 3, none, [], fun lG => SP.fact (True)⟩] (wn rfl) rfl rfl rfl (fun G => by refine OpX.n3 (A' := [sl (.slice ta1 t.Gen.Words.length tk1) (t.Gen.Words : List (BitVec 64)), sl (.slice ta3 t.Kill.Words.length tk3) (t.Kill.Words : List (BitVec 64)), sl (.slice ta4 t.Copies.length tk4) (t.Copies : List GCopy)]) (V' := fun g => .bool rv48) (B' := fun g => [sl (.slice ta1 t.Gen.Words.length tk1) (t.Gen.Words : List (BitVec 64)), sl (.slice ta3 t.Kill.Words.length tk3) (t.Kill.Words : List (BitVec 64)), sl (.slice ta4 t.Copies.length tk4) (t.Copies : List GCopy), SP.fact (True)]) (by kernel_rfl) (by kernel_rfl) (by kernel_rfl) ?_; refine OpX.postR (OpX.frame [0, 1, 2] rfl (OpX.ofC (fun _ => []) (fun _ => ()) (fun _ => rfl) (by intro _ _ h; cases h) (OpC.fn rfl ca61 rfl) (fn61 t ta1 tk1 ta3 tk3 ta4 tk4 ((t.Copies.getD (v33_32 : Int).toNat default).From) (by (try dsimp only) <;> first | (unfold i64ok; omega) | omega | assumption) (by (try dsimp only) <;> first | (unfold i64ok; omega) | omega | assumption) (by (try dsimp only) <;> first | (unfold i64ok; omega) | omega | assumption) rv48 hg49))) (fun g => ?_); exact Ent.take (is := [1, 2, 3, 0]) rfl) ?_
                  refine JD_b h50 [] (wn rfl) rfl rfl (OpV.not rfl rfl) ?_
                  refine JD_v [] (wn rfl) rfl rfl (OpV.move rfl rfl) ?_
                  refine JD_v [3] (wt rfl rfl rfl rfl) rfl rfl (OpV.loadA rfl rfl sh54 (i := 0) rfl (reads_pv _ _) rfl) ?_
                  refine JD_v [0] (wt rfl rfl rfl rfl) rfl rfl (OpV.fieldAddr rfl rfl fo68_1 (i := 0) rfl (isPtr_fact _)) ?_
                  refine JD_v [1] (wt rfl rfl rfl rfl) rfl rfl (OpV.loadF rfl rfl sh3 (i := 0) rfl (reads_Cl _ _) rfl) ?_
                  refine JD_x [4, 5, 6] [] (fun lG => .bool rv58) [⟨some 9, none, [], fun lG => SP.fact (True)⟩] (wt rfl rfl rfl rfl) rfl rfl rfl (fun G => by refine OpX.n3 (A' := [sl (.slice ta1 t.Gen.Words.length tk1) (t.Gen.Words : List (BitVec 64)), sl (.slice ta3 t.Kill.Words.length tk3) (t.Kill.Words : List (BitVec 64)), sl (.slice ta4 t.Copies.length tk4) (t.Copies : List GCopy)]) (V' := fun g => .bool rv58) (B' := fun g => [sl (.slice ta1 t.Gen.Words.length tk1) (t.Gen.Words : List (BitVec 64)), sl (.slice ta3 t.Kill.Words.length tk3) (t.Kill.Words : List (BitVec 64)), sl (.slice ta4 t.Copies.length tk4) (t.Copies : List GCopy), SP.fact (True)]) (by kernel_rfl) (by kernel_rfl) (by kernel_rfl) ?_; refine OpX.postR (OpX.frame [0, 1, 2] rfl (OpX.ofC (fun _ => []) (fun _ => ()) (fun _ => rfl) (by intro _ _ h; cases h) (OpC.fn rfl ca61 rfl) (fn61 t ta1 tk1 ta3 tk3 ta4 tk4 ((t.Copies.getD (v33_32 : Int).toNat default).To) (by (try dsimp only) <;> first | (unfold i64ok; omega) | omega | assumption) (by (try dsimp only) <;> first | (unfold i64ok; omega) | omega | assumption) (by (try dsimp only) <;> first | (unfold i64ok; omega) | omega | assumption) rv58 hg59))) (fun g => ?_); exact Ent.take (is := [1, 2, 3, 0]) rfl) ?_
                  refine JD_b h60 [] (wt rfl rfl rfl rfl) rfl rfl (OpV.not rfl rfl) ?_
                  refine JD_v [] (wn rfl) rfl rfl (OpV.pickF rfl rfl rfl) ?_
                  refine JD_v [] (wn rfl) rfl rfl (OpV.move rfl rfl) ?_
                  refine JD_v [] (wt rfl rfl rfl rfl) rfl rfl (OpV.move rfl rfl) ?_
                  refine JD_b h68 [] (wt rfl rfl rfl rfl) rfl rfl (OpV.gtr rfl rfl rfl) ?_
                  refine JD_v [] (wt rfl rfl rfl rfl) rfl rfl (OpV.move rfl rfl) ?_
                  refine JD_skip (ws rfl rfl rfl _ rfl rfl) rfl ?_
                  refine JD_skip (ws rfl rfl rfl _ rfl rfl) rfl ?_
                  refine JD_skip (ws rfl rfl rfl _ rfl rfl) rfl ?_
                  refine JD_skip (ws rfl rfl rfl _ rfl rfl) rfl ?_
                  refine JD_skip (ws rfl rfl rfl _ rfl rfl) rfl ?_
                  refine JD_skip (ws rfl rfl rfl _ rfl rfl) rfl ?_
                  refine JD_skip (ws rfl rfl rfl _ rfl rfl) rfl ?_
                  refine JD_skip (ws rfl rfl rfl _ rfl rfl) rfl ?_
                  refine JD_skip (ws rfl rfl rfl _ rfl rfl) rfl ?_
                  refine JD_v [] (wt rfl rfl rfl rfl) rfl rfl (OpV.pickF rfl rfl rfl) ?_
                  refine JD_v [] (wn rfl) rfl rfl (OpV.pickF rfl rfl rfl) ?_
                  refine JD_nil ⟨by kernel_rfl, fun G => ?_⟩
                  refine JJ_weaken (L' := [(1, p4), (31, .slice ta4 t.Copies.length tk4), (32, .int .i64 ((t.Copies.length : Nat) : Int)), (33, .int .i64 v33_32), (64, .bool false)]) (A' := [SP.fact (isP p46), Cl p46 [.int .i64 ((t.Copies.getD (v33_32 : Int).toNat default).From), .int .i64 ((t.Copies.getD (v33_32 : Int).toNat default).To)], pv (eptr 2 (.slice ta4 t.Copies.length tk4) (v33_32 : Int).toNat) [.int .i64 ((t.Copies.getD (v33_32 : Int).toNat default).From), .int .i64 ((t.Copies.getD (v33_32 : Int).toNat default).To)], pv p4 [.int .i64 t.Gen.Width, .slice ta1 t.Gen.Words.length tk1, .int .i64 t.Kill.Width, .slice ta3 t.Kill.Words.length tk3, .slice ta4 t.Copies.length tk4], sl (.slice ta1 t.Gen.Words.length tk1) (t.Gen.Words : List (BitVec 64)), sl (.slice ta3 t.Kill.Words.length tk3) (t.Kill.Words : List (BitVec 64)), sl (.slice ta4 t.Copies.length tk4) (t.Copies : List GCopy), SP.fact (True), SP.fact (True)]) (Env.sub_all (by kernel_rfl)) (Ent.of_eq (by kernel_rfl)) ?_
                  refine JJ_keep [1, 1, 2, 3, 4, 5] rfl ?_
                  refine JK_condF rfl ?_
                  refine JK_skip ?_
                  refine JK_blk ?_
                  refine JK_region ?_
                  refine JO_q rfl rfl rfl (OpV.add rfl rfl rfl (by unfold i64ok; omega)) ?_
                  refine JO_q rfl rfl rfl (OpV.move rfl rfl) ?_
                  refine JO_nil ?_
                  refine JK_goal (r43, (v33_32 + 1)) ⟨(by rw [← hM33]; simp only [transfer_Valid_L0, h8, h13, h18, h23, h25, h28, h41, h50, h56, h60, h66, h68, hg6, hg16, hg49, hg59, cs4]), (by omega), (by omega), (by omega), (by omega)⟩ (by show r43 < r43 + 1; omega) (Env.sub_all rfl) (Ent.take (is := [2, 3, 4, 5]) rfl)
          · skip
            have g80 : ¬ (v33_32 < ((t.Copies.length : Nat) : Int)) := of_decide_eq_false h41
            obtain rfl : r31 = 0 := by omega
            refine JK_exit rfl ?_
            have hR81 : transfer_Valid_L0 t (((((t.Copies.length : Nat) : Int) : Int) - 0).toNat) 0 = LR.brk () := by
              rw [← hM33]; simp only [transfer_Valid_L0, h8, h13, h18, h23, h25, h28, h41, hg6, hg16, cs4]
            refine JK_seq ?_
            refine JK_region ?_
            refine JO_q rfl rfl rfl (OpV.assign rfl rfl) ?_
            refine JO_nil ?_
            have hq : rr = true := hrr.symm.trans (by simp only [transfer_Valid, h8, h13, h18, h23, h25, h28, h41, hg6, hg16, hR81, cs4])
            replace hrr := hrr.trans hq
            subst rr
            refine JK_return (()) rfl (.tmp rfl .nil) rfl trivial (Ent.take (is := []) rfl)
set_option maxHeartbeats 20000000 in
set_option maxRecDepth 100000 in
/- flowquery/equations.fits -/
theorem fn47 (width : Int) (f : GTransfer) (fa1 : Option Addr) (fk1 : Nat) (fa3 : Option Addr) (fk3 : Nat) (fa4 : Option Addr) (fk4 : Nat) (hwidth_0 : i64ok width) (hf_0 : i64ok f.Gen.Width) (hf_2 : i64ok f.Kill.Width) (rr : Bool) (hrr : equations_fits width f = rr) :
    FT Try.prog 47 #[.int .i64 width, .agg #[.int .i64 f.Gen.Width, .slice fa1 f.Gen.Words.length fk1, .int .i64 f.Kill.Width, .slice fa3 f.Kill.Words.length fk3, .slice fa4 f.Copies.length fk4]] [sl (.slice fa1 f.Gen.Words.length fk1) (f.Gen.Words : List (BitVec 64)), sl (.slice fa3 f.Kill.Words.length fk3) (f.Kill.Words : List (BitVec 64)), sl (.slice fa4 f.Copies.length fk4) (f.Copies : List GCopy)]
      (fun g : Unit => True)
      (fun g => .bool rr)
      (fun g => []) := by
  refine FT_intro (args := [.int .i64 width, .agg #[.int .i64 f.Gen.Width, .slice fa1 f.Gen.Words.length fk1, .int .i64 f.Kill.Width, .slice fa3 f.Kill.Words.length fk3, .slice fa4 f.Copies.length fk4]]) Try.func47 rfl rfl ?_
  intro w0 M0 F0
  have hwidth_0 : -9223372036854775808 ≤ width ∧ width ≤ 9223372036854775807 := hwidth_0
  have hf_0 : -9223372036854775808 ≤ f.Gen.Width ∧ f.Gen.Width ≤ 9223372036854775807 := hf_0
  have hf_2 : -9223372036854775808 ≤ f.Kill.Width ∧ f.Kill.Width ≤ 9223372036854775807 := hf_2
  refine JJ_fact 0 rfl sl_bytes ?_
  intro hl1
  have hl1 : f.Gen.Words.length * 8 ≤ 140737488355328 := hl1
  refine JJ_fact 1 rfl sl_bytes ?_
  intro hl2
  have hl2 : f.Kill.Words.length * 8 ≤ 140737488355328 := hl2
  refine JJ_fact 2 rfl sl_bytes ?_
  intro hl3
  have hl3 : f.Copies.length * 16 ≤ 140737488355328 := hl3
  refine JK_seq ?_
  refine JK_region ?_
  refine JO_act rfl rfl rfl (OpA.box rfl rfl) ?_
  intro p4
  refine JO_q rfl rfl rfl (OpV.assign rfl rfl) ?_
  refine JO_nil ?_
  refine JK_seq ?_
  refine JK_region ?_
  refine JO_q rfl rfl rfl (OpV.loadA rfl rfl sh54 (i := 0) rfl (reads_pv _ _) rfl) ?_
  refine letv (transfer_Valid f) fun rv5 hg6 => ?_
  have hc7 := fn56 f fa1 fk1 fa3 fk3 fa4 fk4 (by (try dsimp only) <;> first | (unfold i64ok; omega) | omega | assumption) (by (try dsimp only) <;> first | (unfold i64ok; omega) | omega | assumption) rv5 hg6
  refine JO_call [1, 2, 3] rfl rfl rfl (OpC.fn rfl ca56 rfl) (hc7) rfl ?_
  rintro - -
  refine JO_q rfl rfl rfl (OpV.move rfl rfl) ?_
  refine JJ_split 7 rfl (fun (h8 : rv5 = true) => ?_) (fun (h8 : rv5 = false) => ?_)
  · skip
    refine JO_taken rfl rfl rfl rfl ?_
    refine JO_q rfl rfl rfl (OpV.fieldAddr rfl rfl fo54_0 (i := 0) rfl (isPtr_pv _ _)) ?_
    refine JO_taken rfl rfl rfl rfl ?_
    refine JO_q rfl rfl rfl (OpV.fieldAddrF rfl rfl fo50_0 (i := 0) rfl (isPtr_pv _ _)) ?_
    refine JO_taken rfl rfl rfl rfl ?_
    refine JO_q rfl rfl rfl (OpV.loadF rfl rfl sh3 (i := 0) rfl (reads_pv _ _) rfl) ?_
    refine JO_taken rfl rfl rfl rfl ?_
    refine JO_q rfl rfl rfl (OpV.move rfl rfl) ?_
    refine JO_taken rfl rfl rfl rfl ?_
    refine JO_q rfl rfl rfl (OpV.eql rfl rfl rfl) ?_
    refine JO_q rfl rfl rfl (OpV.pickT rfl rfl rfl) ?_
    refine JO_q rfl rfl rfl (OpV.assign rfl rfl) ?_
    refine JO_nil ?_
    have hq : rr = (f.Gen.Width == width) := hrr.symm.trans (by simp only [equations_fits, h8, hg6, cs4])
    replace hrr := hrr.trans hq
    subst rr
    refine JK_return (()) rfl (.tmp rfl .nil) rfl trivial (Ent.take (is := []) rfl)
  · skip
    refine JO_skip rfl rfl rfl rfl rfl rfl ?_
    refine JO_skip rfl rfl rfl rfl rfl rfl ?_
    refine JO_skip rfl rfl rfl rfl rfl rfl ?_
    refine JO_skip rfl rfl rfl rfl rfl rfl ?_
    refine JO_skip rfl rfl rfl rfl rfl rfl ?_
    refine JO_q rfl rfl rfl (OpV.pickF rfl rfl rfl) ?_
    refine JO_q rfl rfl rfl (OpV.assign rfl rfl) ?_
    refine JO_nil ?_
    have hq : rr = false := hrr.symm.trans (by simp only [equations_fits, h8, hg6, cs4])
    replace hrr := hrr.trans hq
    subst rr
    refine JK_return (()) rfl (.tmp rfl .nil) rfl trivial (Ent.take (is := []) rfl)
set_option maxHeartbeats 20000000 in
set_option maxRecDepth 100000 in
/- flowquery/equations.Valid$1 -/
theorem fn46 (f : GTransfer) (fa1 : Option Addr) (fk1 : Nat) (fa3 : Option Addr) (fk3 : Nat) (fa4 : Option Addr) (fk4 : Nat) (cap0P : Value) (cap0 : GSystem) (cap0a1 : Option Addr) (cap0k1 : Nat) (cap0a2 : Option Addr) (cap0k2 : Nat) (cap0a3 : Option Addr) (cap0k3 : Nat) (hf_0 : i64ok f.Gen.Width) (hf_2 : i64ok f.Kill.Width) (hcap0_0 : i64ok cap0.Width) (rr : Bool) (hrr : equations_Valid_1 f cap0 = rr) :
    FT Try.prog 46 #[.agg #[.int .i64 f.Gen.Width, .slice fa1 f.Gen.Words.length fk1, .int .i64 f.Kill.Width, .slice fa3 f.Kill.Words.length fk3, .slice fa4 f.Copies.length fk4], cap0P] [sl (.slice fa1 f.Gen.Words.length fk1) (f.Gen.Words : List (BitVec 64)), sl (.slice fa3 f.Kill.Words.length fk3) (f.Kill.Words : List (BitVec 64)), sl (.slice fa4 f.Copies.length fk4) (f.Copies : List GCopy), pv cap0P [.int .i64 cap0.Width, .slice cap0a1 cap0.Deps.length cap0k1, .slice cap0a2 cap0.Transfers.length cap0k2, .slice cap0a3 cap0.Boundary.length cap0k3], sl (.slice cap0a1 cap0.Deps.length cap0k1) (cap0.Deps : List (List Int)), sl (.slice cap0a2 cap0.Transfers.length cap0k2) (cap0.Transfers : List GTransfer), sl (.slice cap0a3 cap0.Boundary.length cap0k3) (cap0.Boundary : List GSet)]
      (fun g : Unit => True)
      (fun g => .bool rr)
      (fun g => []) := by
  refine FT_intro (args := [.agg #[.int .i64 f.Gen.Width, .slice fa1 f.Gen.Words.length fk1, .int .i64 f.Kill.Width, .slice fa3 f.Kill.Words.length fk3, .slice fa4 f.Copies.length fk4], cap0P]) Try.func46 rfl rfl ?_
  intro w0 M0 F0
  have hf_0 : -9223372036854775808 ≤ f.Gen.Width ∧ f.Gen.Width ≤ 9223372036854775807 := hf_0
  have hf_2 : -9223372036854775808 ≤ f.Kill.Width ∧ f.Kill.Width ≤ 9223372036854775807 := hf_2
  have hcap0_0 : -9223372036854775808 ≤ cap0.Width ∧ cap0.Width ≤ 9223372036854775807 := hcap0_0
  refine JJ_fact 0 rfl sl_bytes ?_
  intro hl1
  have hl1 : f.Gen.Words.length * 8 ≤ 140737488355328 := hl1
  refine JJ_fact 1 rfl sl_bytes ?_
  intro hl2
  have hl2 : f.Kill.Words.length * 8 ≤ 140737488355328 := hl2
  refine JJ_fact 2 rfl sl_bytes ?_
  intro hl3
  have hl3 : f.Copies.length * 16 ≤ 140737488355328 := hl3
  refine JJ_fact 4 rfl sl_bytes ?_
  intro hl4
  have hl4 : cap0.Deps.length * 24 ≤ 140737488355328 := hl4
  refine JJ_fact 5 rfl sl_bytes ?_
  intro hl5
  have hl5 : cap0.Transfers.length * 88 ≤ 140737488355328 := hl5
  refine JJ_fact 6 rfl sl_bytes ?_
  intro hl6
  have hl6 : cap0.Boundary.length * 32 ≤ 140737488355328 := hl6
  refine JK_seq ?_
  refine JK_region ?_
  refine JO_act rfl rfl rfl (OpA.box rfl rfl) ?_
  intro p7
  refine JO_q rfl rfl rfl (OpV.assign rfl rfl) ?_
  refine JO_nil ?_
  refine JK_seq ?_
  refine JK_region ?_
  refine JO_q rfl rfl rfl (OpV.fieldAddr rfl rfl fo27_0 (i := 4) rfl (isPtr_pv _ _)) ?_
  refine JO_q rfl rfl rfl (OpV.loadF rfl rfl sh3 (i := 4) rfl (reads_pv _ _) rfl) ?_
  refine JO_q rfl rfl rfl (OpV.loadA rfl rfl sh54 (i := 0) rfl (reads_pv _ _) rfl) ?_
  refine letv (equations_fits cap0.Width f) fun rv8 hg9 => ?_
  have hc10 := fn47 cap0.Width f fa1 fk1 fa3 fk3 fa4 fk4 (by (try dsimp only) <;> first | (unfold i64ok; omega) | omega | assumption) (by (try dsimp only) <;> first | (unfold i64ok; omega) | omega | assumption) (by (try dsimp only) <;> first | (unfold i64ok; omega) | omega | assumption) rv8 hg9
  refine JO_call [1, 2, 3] rfl rfl rfl (OpC.fn rfl ca47 rfl) (hc10) rfl ?_
  rintro - -
  refine JO_q rfl rfl rfl (OpV.not rfl rfl) ?_
  refine JO_q rfl rfl rfl (OpV.assign rfl rfl) ?_
  refine JO_nil ?_
  have hq : rr = (!rv8) := hrr.symm.trans (by simp only [equations_Valid_1, hg9, cs4])
  replace hrr := hrr.trans hq
  subst rr
  refine JK_return (()) rfl (.tmp rfl .nil) rfl trivial (Ent.take (is := []) rfl)
set_option maxHeartbeats 20000000 in
set_option maxRecDepth 100000 in
/- flowquery/equations.Valid -/
theorem fn30 (s : GSystem) (sa1 : Option Addr) (sk1 : Nat) (sa2 : Option Addr) (sk2 : Nat) (sa3 : Option Addr) (sk3 : Nat) (hs_0 : i64ok s.Width) (rr : Bool) (hrr : equations_Valid s = rr) :
    FT Try.prog 30 #[.agg #[.int .i64 s.Width, .slice sa1 s.Deps.length sk1, .slice sa2 s.Transfers.length sk2, .slice sa3 s.Boundary.length sk3]] [sl (.slice sa1 s.Deps.length sk1) (s.Deps : List (List Int)), sl (.slice sa2 s.Transfers.length sk2) (s.Transfers : List GTransfer), sl (.slice sa3 s.Boundary.length sk3) (s.Boundary : List GSet)]
      (fun g : Unit => True)
      (fun g => .bool rr)
      (fun g => []) := by
  refine FT_intro (args := [.agg #[.int .i64 s.Width, .slice sa1 s.Deps.length sk1, .slice sa2 s.Transfers.length sk2, .slice sa3 s.Boundary.length sk3]]) Try.func30 rfl rfl ?_
  intro w0 M0 F0
  have hs_0 : -9223372036854775808 ≤ s.Width ∧ s.Width ≤ 9223372036854775807 := hs_0
  refine JJ_fact 0 rfl sl_bytes ?_
  intro hl1
  have hl1 : s.Deps.length * 24 ≤ 140737488355328 := hl1
  refine JJ_fact 1 rfl sl_bytes ?_
  intro hl2
  have hl2 : s.Transfers.length * 88 ≤ 140737488355328 := hl2
  refine JJ_fact 2 rfl sl_bytes ?_
  intro hl3
  have hl3 : s.Boundary.length * 32 ≤ 140737488355328 := hl3
  refine JK_seq ?_
  refine JK_region ?_
  refine JO_act rfl rfl rfl (OpA.box rfl rfl) ?_
  intro p4
  refine JO_q rfl rfl rfl (OpV.assign rfl rfl) ?_
  refine JO_nil ?_
  refine JK_seq ?_
  refine JK_region ?_
  refine JO_q rfl rfl rfl (OpV.fieldAddr rfl rfl fo27_1 (i := 0) rfl (isPtr_pv _ _)) ?_
  refine JO_q rfl rfl rfl (OpV.loadF rfl rfl sh23 (i := 0) rfl (reads_pv _ _) rfl) ?_
  refine JO_q rfl rfl rfl (OpV.len rfl rfl sl23) ?_
  refine JO_q rfl rfl rfl (OpV.assign rfl rfl) ?_
  refine JO_nil ?_
  refine JK_seq ?_
  refine JK_seq ?_
  refine JK_region ?_
  refine JO_q rfl rfl rfl (OpV.fieldAddr rfl rfl fo27_0 (i := 0) rfl (isPtr_pv _ _)) ?_
  refine JO_q rfl rfl rfl (OpV.loadF rfl rfl sh3 (i := 0) rfl (reads_pv _ _) rfl) ?_
  refine JO_q rfl rfl rfl (OpV.move rfl rfl) ?_
  refine letv (equations_sized s.Width ((s.Deps.length : Nat) : Int)) fun rv5 hg6 => ?_
  have hc7 := fn42 s.Width (((s.Deps.length : Nat) : Int)) (by (try dsimp only) <;> first | (unfold i64ok; omega) | omega | assumption) (by (try dsimp only) <;> first | (unfold i64ok; omega) | omega | assumption) rv5 hg6
  refine JO_call [] rfl rfl rfl (OpC.fn rfl ca42 rfl) (hc7) rfl ?_
  rintro - -
  refine JO_q rfl rfl rfl (OpV.not rfl rfl) ?_
  refine JO_q rfl rfl rfl (OpV.move rfl rfl) ?_
  refine JJ_split 15 rfl (fun (h8 : (!rv5) = true) => ?_) (fun (h8 : (!rv5) = false) => ?_)
  · skip
    have h10 : rv5 = false := not_true h8
    refine JO_skip rfl rfl rfl rfl rfl rfl ?_
    refine JO_skip rfl rfl rfl rfl rfl rfl ?_
    refine JO_skip rfl rfl rfl rfl rfl rfl ?_
    refine JO_skip rfl rfl rfl rfl rfl rfl ?_
    refine JO_skip rfl rfl rfl rfl rfl rfl ?_
    refine JO_q rfl rfl rfl (OpV.pickT rfl rfl rfl) ?_
    refine JO_q rfl rfl rfl (OpV.move rfl rfl) ?_
    refine JO_skip rfl rfl rfl rfl rfl rfl ?_
    refine JO_skip rfl rfl rfl rfl rfl rfl ?_
    refine JO_skip rfl rfl rfl rfl rfl rfl ?_
    refine JO_skip rfl rfl rfl rfl rfl rfl ?_
    refine JO_skip rfl rfl rfl rfl rfl rfl ?_
    refine JO_q rfl rfl rfl (OpV.pickT rfl rfl rfl) ?_
    refine JO_nil ?_
    refine JK_condT rfl ?_
    refine JK_seq ?_
    refine JK_region ?_
    refine JO_q rfl rfl rfl (OpV.assign rfl rfl) ?_
    refine JO_nil ?_
    have hq : rr = false := hrr.symm.trans (by simp only [equations_Valid, h8, h10, hg6, cs4])
    replace hrr := hrr.trans hq
    subst rr
    refine JK_return (()) rfl (.tmp rfl .nil) rfl trivial (Ent.take (is := []) rfl)
  · skip
    have h13 : rv5 = true := not_false h8
    refine JO_taken rfl rfl rfl rfl ?_
    refine JO_q rfl rfl rfl (OpV.fieldAddr rfl rfl fo27_2 (i := 0) rfl (isPtr_pv _ _)) ?_
    refine JO_taken rfl rfl rfl rfl ?_
    refine JO_q rfl rfl rfl (OpV.loadF rfl rfl sh24 (i := 0) rfl (reads_pv _ _) rfl) ?_
    refine JO_taken rfl rfl rfl rfl ?_
    refine JO_q rfl rfl rfl (OpV.len rfl rfl sl24) ?_
    refine JO_taken rfl rfl rfl rfl ?_
    refine JO_q rfl rfl rfl (OpV.move rfl rfl) ?_
    refine JO_taken rfl rfl rfl rfl ?_
    refine JO_q rfl rfl rfl (OpV.neq rfl rfl rfl) ?_
    refine JO_q rfl rfl rfl (OpV.pickF rfl rfl rfl) ?_
    refine JO_q rfl rfl rfl (OpV.move rfl rfl) ?_
    refine JJ_split 22 rfl (fun (h15 : (((s.Transfers.length : Nat) : Int) != ((s.Deps.length : Nat) : Int)) = true) => ?_) (fun (h15 : (((s.Transfers.length : Nat) : Int) != ((s.Deps.length : Nat) : Int)) = false) => ?_)
    · skip
      have g16 : ((s.Transfers.length : Nat) : Int) ≠ ((s.Deps.length : Nat) : Int) := ne_of_bne h15
      refine JO_skip rfl rfl rfl rfl rfl rfl ?_
      refine JO_skip rfl rfl rfl rfl rfl rfl ?_
      refine JO_skip rfl rfl rfl rfl rfl rfl ?_
      refine JO_skip rfl rfl rfl rfl rfl rfl ?_
      refine JO_skip rfl rfl rfl rfl rfl rfl ?_
      refine JO_q rfl rfl rfl (OpV.pickT rfl rfl rfl) ?_
      refine JO_nil ?_
      refine JK_condT rfl ?_
      refine JK_seq ?_
      refine JK_region ?_
      refine JO_q rfl rfl rfl (OpV.assign rfl rfl) ?_
      refine JO_nil ?_
      have hq : rr = false := hrr.symm.trans (by simp only [equations_Valid, h8, h13, h15, hg6, cs4])
      replace hrr := hrr.trans hq
      subst rr
      refine JK_return (()) rfl (.tmp rfl .nil) rfl trivial (Ent.take (is := []) rfl)
    · skip
      have g17 : ((s.Transfers.length : Nat) : Int) = ((s.Deps.length : Nat) : Int) := eq_of_bne_false h15
      refine JO_taken rfl rfl rfl rfl ?_
      refine JO_q rfl rfl rfl (OpV.fieldAddr rfl rfl fo27_3 (i := 0) rfl (isPtr_pv _ _)) ?_
      refine JO_taken rfl rfl rfl rfl ?_
      refine JO_q rfl rfl rfl (OpV.loadF rfl rfl sh25 (i := 0) rfl (reads_pv _ _) rfl) ?_
      refine JO_taken rfl rfl rfl rfl ?_
      refine JO_q rfl rfl rfl (OpV.len rfl rfl sl25) ?_
      refine JO_taken rfl rfl rfl rfl ?_
      refine JO_q rfl rfl rfl (OpV.move rfl rfl) ?_
      refine JO_taken rfl rfl rfl rfl ?_
      refine JO_q rfl rfl rfl (OpV.neq rfl rfl rfl) ?_
      refine JO_q rfl rfl rfl (OpV.pickF rfl rfl rfl) ?_
      refine JO_nil ?_
      refine JK_cond (b := (((s.Boundary.length : Nat) : Int) != ((s.Deps.length : Nat) : Int))) rfl (fun (h18 : (((s.Boundary.length : Nat) : Int) != ((s.Deps.length : Nat) : Int)) = true) => ?_) (fun (h18 : (((s.Boundary.length : Nat) : Int) != ((s.Deps.length : Nat) : Int)) = false) => ?_)
      · skip
        have g19 : ((s.Boundary.length : Nat) : Int) ≠ ((s.Deps.length : Nat) : Int) := ne_of_bne h18
        refine JK_seq ?_
        refine JK_region ?_
        refine JO_q rfl rfl rfl (OpV.assign rfl rfl) ?_
        refine JO_nil ?_
        have hq : rr = false := hrr.symm.trans (by simp only [equations_Valid, h8, h13, h15, h18, hg6, cs4])
        replace hrr := hrr.trans hq
        subst rr
        refine JK_return (()) rfl (.tmp rfl .nil) rfl trivial (Ent.take (is := []) rfl)
      · skip
        have g20 : ((s.Boundary.length : Nat) : Int) = ((s.Deps.length : Nat) : Int) := eq_of_bne_false h18
        refine JK_skip ?_
        refine JK_seq ?_
        refine JK_region ?_
        refine JO_q rfl rfl rfl (OpV.assign rfl rfl) ?_
        refine JO_nil ?_
        refine JK_seq ?_
        refine JK_seq ?_
        refine JK_region ?_
        refine JO_q rfl rfl rfl (OpV.fieldAddr rfl rfl fo27_1 (i := 0) rfl (isPtr_pv _ _)) ?_
        refine JO_q rfl rfl rfl (OpV.loadF rfl rfl sh23 (i := 0) rfl (reads_pv _ _) rfl) ?_
        refine JO_q rfl rfl rfl (OpV.len rfl rfl sl23) ?_
        refine JO_q rfl rfl rfl (OpV.move rfl rfl) ?_
        refine JO_nil ?_
        refine JK_block ?_
        refine JK_loop (γ := Nat × Int × Int) (fun (r21, edges_22, v32_23) => [(1, p4), (3, .int .i64 ((s.Deps.length : Nat) : Int)), (4, .int .i64 edges_22), (30, .slice sa1 s.Deps.length sk1), (31, .int .i64 ((s.Deps.length : Nat) : Int)), (32, .int .i64 v32_23)]) (fun (r21, edges_22, v32_23) => [pv p4 [.int .i64 s.Width, .slice sa1 s.Deps.length sk1, .slice sa2 s.Transfers.length sk2, .slice sa3 s.Boundary.length sk3], sl (.slice sa1 s.Deps.length sk1) (s.Deps : List (List Int)), sl (.slice sa2 s.Transfers.length sk2) (s.Transfers : List GTransfer), sl (.slice sa3 s.Boundary.length sk3) (s.Boundary : List GSet)]) (fun (r21, edges_22, v32_23) => equations_Valid_L0 s r21 edges_22 v32_23 = equations_Valid_L0 s (((((s.Deps.length : Nat) : Int) : Int) - 0).toNat) 0 0 ∧ r21 = ((((s.Deps.length : Nat) : Int) : Int) - v32_23).toNat ∧ (0 : Int) ≤ v32_23 ∧ (v32_23 ≤ ((s.Deps.length : Nat) : Int) ∨ v32_23 = 0) ∧ (-9223372036854775808 ≤ edges_22 ∧ edges_22 ≤ 9223372036854775807) ∧ (-9223372036854775808 ≤ v32_23 ∧ v32_23 ≤ 9223372036854775807) ∧ 0 ≤ edges_22 ∧ edges_22 ≤ 1024) (fun (r21, edges_22, v32_23) => r21) (((((s.Deps.length : Nat) : Int) : Int) - 0).toNat, 0, 0) ⟨rfl, rfl, (by omega), (.inr rfl), (by omega), (by omega), (by first | omega | (simp only [lens]; omega) | simp)⟩ (Env.sub_all rfl) (Ent.take (is := [0, 1, 2, 3]) rfl) ?_
        rintro ⟨r21, edges_22, v32_23⟩ ⟨hM24, hr25, hi26, hi27, hk28, hk29, hv30⟩
        refine JJ_norm (L := [(1, p4), (3, .int .i64 ((s.Deps.length : Nat) : Int)), (4, .int .i64 edges_22), (30, .slice sa1 s.Deps.length sk1), (31, .int .i64 ((s.Deps.length : Nat) : Int)), (32, .int .i64 v32_23)]) (A := [pv p4 [.int .i64 s.Width, .slice sa1 s.Deps.length sk1, .slice sa2 s.Transfers.length sk2, .slice sa3 s.Boundary.length sk3], sl (.slice sa1 s.Deps.length sk1) (s.Deps : List (List Int)), sl (.slice sa2 s.Transfers.length sk2) (s.Transfers : List GTransfer), sl (.slice sa3 s.Boundary.length sk3) (s.Boundary : List GSet)]) rfl rfl ?_
        refine JJ_fact 1 rfl sl_bytes ?_
        intro hl31
        have hl31 : s.Deps.length * 24 ≤ 140737488355328 := hl31
        refine JJ_fact 2 rfl sl_bytes ?_
        intro hl32
        have hl32 : s.Transfers.length * 88 ≤ 140737488355328 := hl32
        refine JJ_fact 3 rfl sl_bytes ?_
        intro hl33
        have hl33 : s.Boundary.length * 32 ≤ 140737488355328 := hl33
        refine JK_seq ?_
        refine JK_region ?_
        refine JO_q rfl rfl rfl (OpV.lss rfl rfl rfl) ?_
        refine JO_nil ?_
        refine JK_seq ?_
        refine JK_cond (b := decide (v32_23 < ((s.Deps.length : Nat) : Int))) rfl (fun (h34 : decide (v32_23 < ((s.Deps.length : Nat) : Int)) = true) => ?_) (fun (h34 : decide (v32_23 < ((s.Deps.length : Nat) : Int)) = false) => ?_)
        · skip
          have g35 : (v32_23 < ((s.Deps.length : Nat) : Int)) := of_decide_eq_true h34
          obtain ⟨r36, rfl⟩ : ∃ q, r21 = q + 1 := ⟨r21 - 1, by omega⟩
          refine JK_skip ?_
          refine JK_seq ?_
          refine JK_block ?_
          refine JK_seq ?_
          refine JK_region ?_
          refine JO_q rfl rfl rfl (OpV.indexAddr (m := 1) rfl rfl rfl sl23 rfl (isSl_sl _ _) (by first | omega | (simp only [lens]; omega) | (simp only [lens] at *; omega))) ?_
          refine JJ_peekL (v32_23 : Int).toNat 1 rfl (by omega) ?_
          intro a37 k38
          refine JJ_fact 1 rfl sl_bytes ?_
          intro hl39
          have hl39 : (s.Deps.getD (v32_23 : Int).toNat []).length * 8 ≤ 140737488355328 := hl39
          refine JJ_fact 1 rfl sl_ok ?_
          intro ho40
          refine JO_q rfl rfl rfl (OpV.load rfl rfl sh22 (i := 0) rfl (reads_pv _ _) rfl) ?_
          refine JO_q rfl rfl rfl (OpV.assign rfl rfl) ?_
          refine JO_nil ?_
          refine JK_seq ?_
          refine JK_region ?_
          refine JO_q rfl rfl rfl (OpV.move rfl rfl) ?_
          refine JO_q rfl rfl rfl (OpV.move rfl rfl) ?_
          refine JO_q rfl rfl rfl (OpV.len rfl rfl sl22) ?_
          refine JO_q rfl rfl rfl (OpV.add rfl rfl rfl (by unfold i64ok; omega)) ?_
          refine JO_q rfl rfl rfl (OpV.assign rfl rfl) ?_
          refine JO_nil ?_
          refine JK_seq ?_
          refine JK_region ?_
          refine JO_q rfl rfl rfl (OpV.move rfl rfl) ?_
          refine JO_q rfl rfl rfl (OpV.gtr rfl rfl rfl) ?_
          refine JO_q rfl rfl rfl (OpV.move rfl rfl) ?_
          refine JJ_split 42 rfl (fun (h41 : decide (1024 < (edges_22 + (((s.Deps.getD (v32_23 : Int).toNat []).length : Nat) : Int))) = true) => ?_) (fun (h41 : decide (1024 < (edges_22 + (((s.Deps.getD (v32_23 : Int).toNat []).length : Nat) : Int))) = false) => ?_)
          · skip
            have g42 : (1024 < (edges_22 + (((s.Deps.getD (v32_23 : Int).toNat []).length : Nat) : Int))) := of_decide_eq_true h41
            refine JO_skip rfl rfl rfl rfl rfl rfl ?_
            refine JO_skip rfl rfl rfl rfl rfl rfl ?_
            refine JO_skip rfl rfl rfl rfl rfl rfl ?_
            refine JO_skip rfl rfl rfl rfl rfl rfl ?_
            refine JO_q rfl rfl rfl (OpV.pickT rfl rfl rfl) ?_
            refine JO_nil ?_
            refine JK_condT rfl ?_
            refine JK_seq ?_
            refine JK_region ?_
            refine JO_q rfl rfl rfl (OpV.assign rfl rfl) ?_
            refine JO_nil ?_
            have hR43 : equations_Valid_L0 s (((((s.Deps.length : Nat) : Int) : Int) - 0).toNat) 0 0 = LR.ret false := by
              rw [← hM24]; simp only [equations_Valid_L0, h8, h13, h15, h18, h34, h41, hg6, cs4]
            have hq : rr = false := hrr.symm.trans (by simp only [equations_Valid, h8, h13, h15, h18, h34, h41, hg6, hR43, cs4])
            replace hrr := hrr.trans hq
            subst rr
            refine JK_return (()) rfl (.tmp rfl .nil) rfl trivial (Ent.take (is := []) rfl)
          · skip
            have g44 : ¬ (1024 < (edges_22 + (((s.Deps.getD (v32_23 : Int).toNat []).length : Nat) : Int))) := of_decide_eq_false h41
            refine JO_taken rfl rfl rfl rfl ?_
            refine JO_q rfl rfl rfl (OpV.move rfl rfl) ?_
            refine JO_taken rfl rfl rfl rfl ?_
            refine JO_q rfl rfl rfl (OpV.move rfl rfl) ?_
            refine JO_taken rfl rfl rfl rfl ?_
            refine letv (equations_ascending (s.Deps.getD (v32_23 : Int).toNat []) ((s.Deps.length : Nat) : Int)) fun rv45 hg46 => ?_
            have hc47 := fn43 ((s.Deps.getD (v32_23 : Int).toNat [])) a37 k38 (((s.Deps.length : Nat) : Int)) (by (try dsimp only) <;> first | (unfold i64ok; omega) | omega | assumption) rv45 hg46
            refine JO_call [1] rfl rfl rfl (OpC.fn rfl ca43 rfl) (hc47) rfl ?_
            rintro - -
            refine JO_taken rfl rfl rfl rfl ?_
            refine JO_q rfl rfl rfl (OpV.not rfl rfl) ?_
            refine JO_q rfl rfl rfl (OpV.pickF rfl rfl rfl) ?_
            refine JO_nil ?_
            refine JK_cond (b := (!rv45)) rfl (fun (h48 : (!rv45) = true) => ?_) (fun (h48 : (!rv45) = false) => ?_)
            · skip
              have h50 : rv45 = false := not_true h48
              refine JK_seq ?_
              refine JK_region ?_
              refine JO_q rfl rfl rfl (OpV.assign rfl rfl) ?_
              refine JO_nil ?_
              have hR52 : equations_Valid_L0 s (((((s.Deps.length : Nat) : Int) : Int) - 0).toNat) 0 0 = LR.ret false := by
                rw [← hM24]; simp only [equations_Valid_L0, h8, h13, h15, h18, h34, h41, h48, h50, hg6, hg46, cs4]
              have hq : rr = false := hrr.symm.trans (by simp only [equations_Valid, h8, h13, h15, h18, h34, h41, h48, h50, hg6, hg46, hR52, cs4])
              replace hrr := hrr.trans hq
              subst rr
              refine JK_return (()) rfl (.tmp rfl .nil) rfl trivial (Ent.take (is := []) rfl)
            · skip
              have h54 : rv45 = true := not_false h48
              refine JK_skip ?_
              refine JK_blk ?_
              refine JK_region ?_
              refine JO_q rfl rfl rfl (OpV.add rfl rfl rfl (by unfold i64ok; omega)) ?_
              refine JO_q rfl rfl rfl (OpV.move rfl rfl) ?_
              refine JO_nil ?_
              refine JK_goal (r36, (edges_22 + (((s.Deps.getD (v32_23 : Int).toNat []).length : Nat) : Int)), (v32_23 + 1)) ⟨(by rw [← hM24]; simp only [equations_Valid_L0, h8, h13, h15, h18, h34, h41, h48, h54, hg6, hg46, cs4]), (by omega), (by omega), (by omega), (by omega), (by omega), (by first | omega | (simp only [lens]; omega) | assumption)⟩ (by show r36 < r36 + 1; omega) (Env.sub_all rfl) (Ent.take (is := [2, 3, 4, 5]) rfl)
        · skip
          have g56 : ¬ (v32_23 < ((s.Deps.length : Nat) : Int)) := of_decide_eq_false h34
          obtain rfl : r21 = 0 := by omega
          refine JK_exit rfl ?_
          have hR57 : equations_Valid_L0 s (((((s.Deps.length : Nat) : Int) : Int) - 0).toNat) 0 0 = LR.brk () := by
            rw [← hM24]; simp only [equations_Valid_L0, h8, h13, h15, h18, h34, hg6, cs4]
          refine JK_seq ?_
          refine JK_region ?_
          refine JO_q rfl rfl rfl (OpV.fieldAddr rfl rfl fo27_0 (i := 0) rfl (isPtr_pv _ _)) ?_
          refine JO_q rfl rfl rfl (OpV.loadF rfl rfl sh3 (i := 0) rfl (reads_pv _ _) rfl) ?_
          refine JO_q rfl rfl rfl (OpV.fieldAddr rfl rfl fo27_3 (i := 0) rfl (isPtr_pv _ _)) ?_
          refine JO_q rfl rfl rfl (OpV.loadF rfl rfl sh25 (i := 0) rfl (reads_pv _ _) rfl) ?_
          refine letv (equations_sets s.Width s.Boundary) fun rv58 hg59 => ?_
          have hc60 := fn44 s.Width s.Boundary sa3 sk3 (by (try dsimp only) <;> first | (unfold i64ok; omega) | omega | assumption) rv58 hg59
          refine JO_call [3] rfl rfl rfl (OpC.fn rfl ca44 rfl) (hc60) rfl ?_
          rintro - -
          refine JO_q rfl rfl rfl (OpV.move rfl rfl) ?_
          refine JJ_split 54 rfl (fun (h61 : rv58 = true) => ?_) (fun (h61 : rv58 = false) => ?_)
          · skip
            refine JO_taken rfl rfl rfl rfl ?_
            refine JO_q rfl rfl rfl (OpV.fieldAddr rfl rfl fo27_2 (i := 0) rfl (isPtr_pv _ _)) ?_
            refine JO_taken rfl rfl rfl rfl ?_
            refine JO_q rfl rfl rfl (OpV.loadF rfl rfl sh24 (i := 0) rfl (reads_pv _ _) rfl) ?_
            refine JO_taken rfl rfl rfl rfl ?_
            refine JO_q rfl rfl rfl (OpV.makeFunc (vs := #[]) (ws := #[p4]) rfl (fun ρ hρ => ⟨by simp, evs_arr hρ rfl⟩)) ?_
            refine JO_taken rfl rfl rfl rfl ?_
            refine JJ_ent (Ent.pall [0, 1, 2, 3] rfl rfl) ?_
            refine letv (slices_ContainsFunc_Transfer s.Transfers (fun x => equations_Valid_1 x s)) fun rv63 hg64 => ?_
            have hc65 := fn45 s.Transfers sa2 sk2 46 [p4] (fun x => equations_Valid_1 x s) [pv p4 [.int .i64 s.Width, .slice sa1 s.Deps.length sk1, .slice sa2 s.Transfers.length sk2, .slice sa3 s.Boundary.length sk3], sl (.slice sa1 s.Deps.length sk1) (s.Deps : List (List Int)), sl (.slice sa2 s.Transfers.length sk2) (s.Transfers : List GTransfer), sl (.slice sa3 s.Boundary.length sk3) (s.Boundary : List GSet)] ca46 (fun x hx a1 k1 a3 k3 a4 k4 hq0 hq2 => FT_pall (A1 := _) (fn46 x a1 k1 a3 k3 a4 k4 p4 s sa1 sk1 sa2 sk2 sa3 sk3 hq0 hq2 (by first | (unfold i64ok; omega) | omega | assumption) _ rfl)) rv63 hg64
            refine JO_call [3, 0] rfl rfl rfl (OpC.fn rfl ca45 rfl) (hc65) rfl ?_
            rintro - -
            refine JO_taken rfl rfl rfl rfl ?_
            refine JO_q rfl rfl rfl (OpV.not rfl rfl) ?_
            refine JO_q rfl rfl rfl (OpV.pickT rfl rfl rfl) ?_
            refine JO_q rfl rfl rfl (OpV.assign rfl rfl) ?_
            refine JO_nil ?_
            have hq : rr = (!rv63) := hrr.symm.trans (by simp only [equations_Valid, h8, h13, h15, h18, h34, h61, hg6, hR57, hg59, hg64, cs4])
            replace hrr := hrr.trans hq
            subst rr
            refine JK_return (()) rfl (.tmp rfl .nil) rfl trivial (Ent.take (is := []) rfl)
          · skip
            refine JO_skip rfl rfl rfl rfl rfl rfl ?_
            refine JO_skip rfl rfl rfl rfl rfl rfl ?_
            refine JO_skip rfl rfl rfl rfl rfl rfl ?_
            refine JO_skip rfl rfl rfl rfl rfl rfl ?_
            refine JO_skip rfl rfl rfl rfl rfl rfl ?_
            refine JO_q rfl rfl rfl (OpV.pickF rfl rfl rfl) ?_
            refine JO_q rfl rfl rfl (OpV.assign rfl rfl) ?_
            refine JO_nil ?_
            have hq : rr = false := hrr.symm.trans (by simp only [equations_Valid, h8, h13, h15, h18, h34, h61, hg6, hR57, hg59, cs4])
            replace hrr := hrr.trans hq
            subst rr
            refine JK_return (()) rfl (.tmp rfl .nil) rfl trivial (Ent.take (is := []) rfl)
set_option maxHeartbeats 20000000 in
set_option maxRecDepth 100000 in
/- slices.IndexFunc[[]int,int] -/
theorem fn50 (s : List Int) (sa0 : Option Addr) (sk0 : Nat) (fF : FuncId) (fC : List Value) (fp : Int → Bool) (fA : List SP) (hfc : callable Try.prog fF = true) (hfF : ∀ x ∈ s, i64ok x → FT Try.prog fF ([(.int .i64 x : Value)] ++ fC).toArray ([] ++ [pAll fA]) (fun _ : Unit => True) (fun _ => .bool (fp x)) (fun _ => [])) (rr : Int) (hrr : slices_IndexFunc_int s fp = rr) :
    FT Try.prog 50 #[.slice sa0 s.length sk0, .func (.func fF) #[] fC.toArray] [sl (.slice sa0 s.length sk0) (s : List Int), pAll fA]
      (fun g : Unit => i64ok rr)
      (fun g => .int .i64 rr)
      (fun g => []) := by
  refine FT_intro (args := [.slice sa0 s.length sk0, .func (.func fF) #[] fC.toArray]) Try.func50 rfl rfl ?_
  intro w0 M0 F0
  refine JJ_fact 0 rfl sl_bytes ?_
  intro hl1
  have hl1 : s.length * 8 ≤ 140737488355328 := hl1
  refine JJ_fact 0 rfl sl_ok ?_
  intro ho2
  refine JK_seq ?_
  refine JK_region ?_
  refine JO_q rfl rfl rfl (OpV.assign rfl rfl) ?_
  refine JO_nil ?_
  refine JK_seq ?_
  refine JK_seq ?_
  refine JK_region ?_
  refine JO_q rfl rfl rfl (OpV.move rfl rfl) ?_
  refine JO_q rfl rfl rfl (OpV.len rfl rfl sl22) ?_
  refine JO_q rfl rfl rfl (OpV.move rfl rfl) ?_
  refine JO_nil ?_
  refine JK_block ?_
  refine JK_loop (γ := Nat × Int) (fun (r3, v8_4) => [(0, .slice sa0 s.length sk0), (1, .func (.func fF) #[] fC.toArray), (7, .int .i64 ((s.length : Nat) : Int)), (8, .int .i64 v8_4)]) (fun (r3, v8_4) => [sl (.slice sa0 s.length sk0) (s : List Int), pAll fA]) (fun (r3, v8_4) => slices_IndexFunc_int_L0 s fp r3 v8_4 = slices_IndexFunc_int_L0 s fp (((((s.length : Nat) : Int) : Int) - 0).toNat) 0 ∧ r3 = ((((s.length : Nat) : Int) : Int) - v8_4).toNat ∧ (0 : Int) ≤ v8_4 ∧ (v8_4 ≤ ((s.length : Nat) : Int) ∨ v8_4 = 0) ∧ (-9223372036854775808 ≤ v8_4 ∧ v8_4 ≤ 9223372036854775807)) (fun (r3, v8_4) => r3) (((((s.length : Nat) : Int) : Int) - 0).toNat, 0) ⟨rfl, rfl, (by omega), (.inr rfl), (by omega)⟩ (Env.sub_all rfl) (Ent.take (is := [0, 1]) rfl) ?_
  rintro ⟨r3, v8_4⟩ ⟨hM5, hr6, hi7, hi8, hk9⟩
  refine JJ_norm (L := [(0, .slice sa0 s.length sk0), (1, .func (.func fF) #[] fC.toArray), (7, .int .i64 ((s.length : Nat) : Int)), (8, .int .i64 v8_4)]) (A := [sl (.slice sa0 s.length sk0) (s : List Int), pAll fA]) rfl rfl ?_
  refine JJ_fact 0 rfl sl_bytes ?_
  intro hl10
  have hl10 : s.length * 8 ≤ 140737488355328 := hl10
  refine JJ_fact 0 rfl sl_ok ?_
  intro ho11
  refine JK_seq ?_
  refine JK_region ?_
  refine JO_q rfl rfl rfl (OpV.lss rfl rfl rfl) ?_
  refine JO_nil ?_
  refine JK_seq ?_
  refine JK_cond (b := decide (v8_4 < ((s.length : Nat) : Int))) rfl (fun (h12 : decide (v8_4 < ((s.length : Nat) : Int)) = true) => ?_) (fun (h12 : decide (v8_4 < ((s.length : Nat) : Int)) = false) => ?_)
  · skip
    have g13 : (v8_4 < ((s.length : Nat) : Int)) := of_decide_eq_true h12
    obtain ⟨r14, rfl⟩ : ∃ q, r3 = q + 1 := ⟨r3 - 1, by omega⟩
    refine JK_skip ?_
    refine JK_seq ?_
    refine JK_block ?_
    refine JK_seq ?_
    refine JK_region ?_
    refine JO_q rfl rfl rfl (OpV.move rfl rfl) ?_
    refine JO_q rfl rfl rfl (OpV.assign rfl rfl) ?_
    refine JO_nil ?_
    refine JK_seq ?_
    refine JK_region ?_
    refine JO_q rfl rfl rfl (OpV.move rfl rfl) ?_
    refine JO_q rfl rfl rfl (OpV.move rfl rfl) ?_
    refine JO_q rfl rfl rfl (OpV.move rfl rfl) ?_
    refine JO_q rfl rfl rfl (OpV.indexAddr (m := 0) rfl rfl rfl sl22 rfl (isSl_sl _ _) (by first | omega | (simp only [lens]; omega) | (simp only [lens] at *; omega))) ?_
    have hb15 : -9223372036854775808 ≤ (s.getD (v8_4 : Int).toNat 0) ∧ (s.getD (v8_4 : Int).toNat 0) ≤ 9223372036854775807 := getD_ok ho11 (by first | omega | (simp only [lens]; omega) | (simp only [lens] at *; omega))
    refine JO_q rfl rfl rfl (OpV.load rfl rfl sh3 (i := 0) rfl (reads_sl _ _ _ 0 (by first | omega | (simp only [lens]; omega) | (simp only [lens] at *; omega))) rfl) ?_
    refine JO_call [1] rfl rfl rfl (OpC.clo («as» := [(.int .i64 (s.getD (v8_4 : Int).toNat 0) : Value)] ++ fC) rfl rfl hfc rfl (by simp)) (hfF (s.getD (v8_4 : Int).toNat 0) (getD_mem (by first | omega | (simp only [lens]; omega) | (simp only [lens] at *; omega)))  (by unfold i64ok; omega)) rfl ?_
    rintro - -
    refine JO_nil ?_
    refine JK_cond (b := (fp (s.getD (v8_4 : Int).toNat 0))) rfl (fun (h16 : (fp (s.getD (v8_4 : Int).toNat 0)) = true) => ?_) (fun (h16 : (fp (s.getD (v8_4 : Int).toNat 0)) = false) => ?_)
    · skip
      refine JK_seq ?_
      refine JK_region ?_
      refine JO_q rfl rfl rfl (OpV.move rfl rfl) ?_
      refine JO_q rfl rfl rfl (OpV.assign rfl rfl) ?_
      refine JO_nil ?_
      have hR18 : slices_IndexFunc_int_L0 s fp (((((s.length : Nat) : Int) : Int) - 0).toNat) 0 = LR.ret v8_4 := by
        rw [← hM5]; simp only [slices_IndexFunc_int_L0, h12, h16, cs4]
      have hq : rr = v8_4 := hrr.symm.trans (by simp only [slices_IndexFunc_int, h12, h16, hR18, cs4])
      replace hrr := hrr.trans hq
      subst rr
      refine JK_return (()) rfl (.tmp rfl .nil) rfl (by (try dsimp only) <;> first | omega | (unfold i64ok; omega) | (simp only [lens]; omega) | assumption | trivial) (Ent.take (is := []) rfl)
    · skip
      refine JK_skip ?_
      refine JK_blk ?_
      refine JK_region ?_
      refine JO_q rfl rfl rfl (OpV.add rfl rfl rfl (by unfold i64ok; omega)) ?_
      refine JO_q rfl rfl rfl (OpV.move rfl rfl) ?_
      refine JO_nil ?_
      refine JK_goal (r14, (v8_4 + 1)) ⟨(by rw [← hM5]; simp only [slices_IndexFunc_int_L0, h12, h16, cs4]), (by omega), (by omega), (by omega), (by omega)⟩ (by show r14 < r14 + 1; omega) (Env.sub_all rfl) (Ent.take (is := [0, 1]) rfl)
  · skip
    have g20 : ¬ (v8_4 < ((s.length : Nat) : Int)) := of_decide_eq_false h12
    obtain rfl : r3 = 0 := by omega
    refine JK_exit rfl ?_
    have hR21 : slices_IndexFunc_int_L0 s fp (((((s.length : Nat) : Int) : Int) - 0).toNat) 0 = LR.brk () := by
      rw [← hM5]; simp only [slices_IndexFunc_int_L0, h12, cs4]
    refine JK_seq ?_
    refine JK_region ?_
    refine JO_q rfl rfl rfl (OpV.assign rfl rfl) ?_
    refine JO_nil ?_
    have hq : rr = -1 := hrr.symm.trans (by simp only [slices_IndexFunc_int, h12, hR21, cs4])
    replace hrr := hrr.trans hq
    subst rr
    refine JK_return (()) rfl (.tmp rfl .nil) rfl (by (try dsimp only) <;> first | omega | (unfold i64ok; omega) | (simp only [lens]; omega) | assumption | trivial) (Ent.take (is := []) rfl)
set_option maxHeartbeats 20000000 in
set_option maxRecDepth 100000 in
/- slices.ContainsFunc[[]int,int] -/
theorem fn34 (s : List Int) (sa0 : Option Addr) (sk0 : Nat) (fF : FuncId) (fC : List Value) (fp : Int → Bool) (fA : List SP) (hfc : callable Try.prog fF = true) (hfF : ∀ x ∈ s, i64ok x → FT Try.prog fF ([(.int .i64 x : Value)] ++ fC).toArray ([] ++ [pAll fA]) (fun _ : Unit => True) (fun _ => .bool (fp x)) (fun _ => [])) (rr : Bool) (hrr : slices_ContainsFunc_int s fp = rr) :
    FT Try.prog 34 #[.slice sa0 s.length sk0, .func (.func fF) #[] fC.toArray] [sl (.slice sa0 s.length sk0) (s : List Int), pAll fA]
      (fun g : Unit => True)
      (fun g => .bool rr)
      (fun g => []) := by
  refine FT_intro (args := [.slice sa0 s.length sk0, .func (.func fF) #[] fC.toArray]) Try.func34 rfl rfl ?_
  intro w0 M0 F0
  refine JJ_fact 0 rfl sl_bytes ?_
  intro hl1
  have hl1 : s.length * 8 ≤ 140737488355328 := hl1
  refine JJ_fact 0 rfl sl_ok ?_
  intro ho2
  refine JK_seq ?_
  refine JK_region ?_
  refine JO_q rfl rfl rfl (OpV.assign rfl rfl) ?_
  refine JO_nil ?_
  refine JK_seq ?_
  refine JK_region ?_
  refine JO_q rfl rfl rfl (OpV.move rfl rfl) ?_
  refine JO_q rfl rfl rfl (OpV.move rfl rfl) ?_
  refine letv (slices_IndexFunc_int s fp) fun rv3 hg4 => ?_
  have hc5 := fn50 s sa0 sk0 fF fC fp fA hfc hfF rv3 hg4
  refine JO_call [0, 1] rfl rfl rfl (OpC.fn rfl ca50 rfl) (hc5) rfl ?_
  rintro - he6
  have he6 : -9223372036854775808 ≤ rv3 ∧ rv3 ≤ 9223372036854775807 := he6
  refine JO_q rfl rfl rfl (OpV.geq rfl rfl rfl) ?_
  refine JO_q rfl rfl rfl (OpV.assign rfl rfl) ?_
  refine JO_nil ?_
  have hq : rr = decide (0 ≤ rv3) := hrr.symm.trans (by simp only [slices_ContainsFunc_int, hg4, cs4])
  replace hrr := hrr.trans hq
  subst rr
  refine JK_return (()) rfl (.tmp rfl .nil) rfl trivial (Ent.take (is := []) rfl)
set_option maxHeartbeats 20000000 in
set_option maxRecDepth 100000 in
/- flowquery/cone.unknowns$1 -/
theorem fn48 (n : Int) (cap0P : Value) (cap0 : GSystem) (cap0a1 : Option Addr) (cap0k1 : Nat) (cap0a2 : Option Addr) (cap0k2 : Nat) (cap0a3 : Option Addr) (cap0k3 : Nat) (hn_0 : i64ok n) (hcap0_0 : i64ok cap0.Width) (rr : Bool) (hrr : cone_unknowns_1 n cap0 = rr) :
    FT Try.prog 48 #[.int .i64 n, cap0P] [pv cap0P [.int .i64 cap0.Width, .slice cap0a1 cap0.Deps.length cap0k1, .slice cap0a2 cap0.Transfers.length cap0k2, .slice cap0a3 cap0.Boundary.length cap0k3], sl (.slice cap0a1 cap0.Deps.length cap0k1) (cap0.Deps : List (List Int)), sl (.slice cap0a2 cap0.Transfers.length cap0k2) (cap0.Transfers : List GTransfer), sl (.slice cap0a3 cap0.Boundary.length cap0k3) (cap0.Boundary : List GSet)]
      (fun g : Unit => True)
      (fun g => .bool rr)
      (fun g => []) := by
  refine FT_intro (args := [.int .i64 n, cap0P]) Try.func48 rfl rfl ?_
  intro w0 M0 F0
  have hn_0 : -9223372036854775808 ≤ n ∧ n ≤ 9223372036854775807 := hn_0
  have hcap0_0 : -9223372036854775808 ≤ cap0.Width ∧ cap0.Width ≤ 9223372036854775807 := hcap0_0
  refine JJ_fact 1 rfl sl_bytes ?_
  intro hl1
  have hl1 : cap0.Deps.length * 24 ≤ 140737488355328 := hl1
  refine JJ_fact 2 rfl sl_bytes ?_
  intro hl2
  have hl2 : cap0.Transfers.length * 88 ≤ 140737488355328 := hl2
  refine JJ_fact 3 rfl sl_bytes ?_
  intro hl3
  have hl3 : cap0.Boundary.length * 32 ≤ 140737488355328 := hl3
  refine JK_seq ?_
  refine JK_region ?_
  refine JO_q rfl rfl rfl (OpV.assign rfl rfl) ?_
  refine JO_nil ?_
  refine JK_seq ?_
  refine JK_region ?_
  refine JO_q rfl rfl rfl (OpV.move rfl rfl) ?_
  refine JO_q rfl rfl rfl (OpV.lss rfl rfl rfl) ?_
  refine JO_q rfl rfl rfl (OpV.move rfl rfl) ?_
  refine JJ_split 6 rfl (fun (h4 : decide (n < 0) = true) => ?_) (fun (h4 : decide (n < 0) = false) => ?_)
  · skip
    have g5 : (n < 0) := of_decide_eq_true h4
    refine JO_skip rfl rfl rfl rfl rfl rfl ?_
    refine JO_skip rfl rfl rfl rfl rfl rfl ?_
    refine JO_skip rfl rfl rfl rfl rfl rfl ?_
    refine JO_skip rfl rfl rfl rfl rfl rfl ?_
    refine JO_skip rfl rfl rfl rfl rfl rfl ?_
    refine JO_q rfl rfl rfl (OpV.pickT rfl rfl rfl) ?_
    refine JO_q rfl rfl rfl (OpV.assign rfl rfl) ?_
    refine JO_nil ?_
    have hq : rr = true := hrr.symm.trans (by simp only [cone_unknowns_1, h4, cs4])
    replace hrr := hrr.trans hq
    subst rr
    refine JK_return (()) rfl (.tmp rfl .nil) rfl trivial (Ent.take (is := []) rfl)
  · skip
    have g6 : ¬ (n < 0) := of_decide_eq_false h4
    refine JO_taken rfl rfl rfl rfl ?_
    refine JO_q rfl rfl rfl (OpV.move rfl rfl) ?_
    refine JO_taken rfl rfl rfl rfl ?_
    refine JO_q rfl rfl rfl (OpV.fieldAddr rfl rfl fo27_1 (i := 0) rfl (isPtr_pv _ _)) ?_
    refine JO_taken rfl rfl rfl rfl ?_
    refine JO_q rfl rfl rfl (OpV.loadF rfl rfl sh23 (i := 0) rfl (reads_pv _ _) rfl) ?_
    refine JO_taken rfl rfl rfl rfl ?_
    refine JO_q rfl rfl rfl (OpV.len rfl rfl sl23) ?_
    refine JO_taken rfl rfl rfl rfl ?_
    refine JO_q rfl rfl rfl (OpV.geq rfl rfl rfl) ?_
    refine JO_q rfl rfl rfl (OpV.pickF rfl rfl rfl) ?_
    refine JO_q rfl rfl rfl (OpV.assign rfl rfl) ?_
    refine JO_nil ?_
    have hq : rr = decide (((cap0.Deps.length : Nat) : Int) ≤ n) := hrr.symm.trans (by simp only [cone_unknowns_1, h4, cs4])
    replace hrr := hrr.trans hq
    subst rr
    refine JK_return (()) rfl (.tmp rfl .nil) rfl trivial (Ent.take (is := []) rfl)
set_option maxHeartbeats 20000000 in
set_option maxRecDepth 100000 in
/- flowquery/cone.unknowns -/
theorem fn31 (s : GSystem) (sa1 : Option Addr) (sk1 : Nat) (sa2 : Option Addr) (sk2 : Nat) (sa3 : Option Addr) (sk3 : Nat) (l : List Int) (la0 : Option Addr) (lk0 : Nat) (hs_0 : i64ok s.Width) (rr : Bool) (hrr : cone_unknowns s l = rr) :
    FT Try.prog 31 #[.agg #[.int .i64 s.Width, .slice sa1 s.Deps.length sk1, .slice sa2 s.Transfers.length sk2, .slice sa3 s.Boundary.length sk3], .slice la0 l.length lk0] [sl (.slice sa1 s.Deps.length sk1) (s.Deps : List (List Int)), sl (.slice sa2 s.Transfers.length sk2) (s.Transfers : List GTransfer), sl (.slice sa3 s.Boundary.length sk3) (s.Boundary : List GSet), sl (.slice la0 l.length lk0) (l : List Int)]
      (fun g : Unit => True)
      (fun g => .bool rr)
      (fun g => []) := by
  refine FT_intro (args := [.agg #[.int .i64 s.Width, .slice sa1 s.Deps.length sk1, .slice sa2 s.Transfers.length sk2, .slice sa3 s.Boundary.length sk3], .slice la0 l.length lk0]) Try.func31 rfl rfl ?_
  intro w0 M0 F0
  have hs_0 : -9223372036854775808 ≤ s.Width ∧ s.Width ≤ 9223372036854775807 := hs_0
  refine JJ_fact 0 rfl sl_bytes ?_
  intro hl1
  have hl1 : s.Deps.length * 24 ≤ 140737488355328 := hl1
  refine JJ_fact 1 rfl sl_bytes ?_
  intro hl2
  have hl2 : s.Transfers.length * 88 ≤ 140737488355328 := hl2
  refine JJ_fact 2 rfl sl_bytes ?_
  intro hl3
  have hl3 : s.Boundary.length * 32 ≤ 140737488355328 := hl3
  refine JJ_fact 3 rfl sl_bytes ?_
  intro hl4
  have hl4 : l.length * 8 ≤ 140737488355328 := hl4
  refine JJ_fact 3 rfl sl_ok ?_
  intro ho5
  refine JK_seq ?_
  refine JK_region ?_
  refine JO_act rfl rfl rfl (OpA.box rfl rfl) ?_
  intro p6
  refine JO_q rfl rfl rfl (OpV.assign rfl rfl) ?_
  refine JO_nil ?_
  refine JK_seq ?_
  refine JK_region ?_
  refine JO_q rfl rfl rfl (OpV.move rfl rfl) ?_
  refine JO_q rfl rfl rfl (OpV.makeFunc (vs := #[]) (ws := #[p6]) rfl (fun ρ hρ => ⟨by simp, evs_arr hρ rfl⟩)) ?_
  refine JJ_ent (Ent.pall [0, 1, 2, 3] rfl rfl) ?_
  refine letv (slices_ContainsFunc_int l (fun x => cone_unknowns_1 x s)) fun rv7 hg8 => ?_
  have hc9 := fn34 l la0 lk0 48 [p6] (fun x => cone_unknowns_1 x s) [pv p6 [.int .i64 s.Width, .slice sa1 s.Deps.length sk1, .slice sa2 s.Transfers.length sk2, .slice sa3 s.Boundary.length sk3], sl (.slice sa1 s.Deps.length sk1) (s.Deps : List (List Int)), sl (.slice sa2 s.Transfers.length sk2) (s.Transfers : List GTransfer), sl (.slice sa3 s.Boundary.length sk3) (s.Boundary : List GSet)] ca48 (fun x hx hq0 => FT_pall (A1 := _) (fn48 x  p6 s sa1 sk1 sa2 sk2 sa3 sk3 hq0 (by first | (unfold i64ok; omega) | omega | assumption) _ rfl)) rv7 hg8
  refine JO_call [5, 0] rfl rfl rfl (OpC.fn rfl ca34 rfl) (hc9) rfl ?_
  rintro - -
  refine JO_q rfl rfl rfl (OpV.not rfl rfl) ?_
  refine JO_q rfl rfl rfl (OpV.assign rfl rfl) ?_
  refine JO_nil ?_
  have hq : rr = (!rv7) := hrr.symm.trans (by simp only [cone_unknowns, hg8, cs4])
  replace hrr := hrr.trans hq
  subst rr
  refine JK_return (()) rfl (.tmp rfl .nil) rfl trivial (Ent.take (is := []) rfl)
set_option maxHeartbeats 20000000 in
set_option maxRecDepth 100000 in
/- slices.Index[[]int,int] -/
theorem fn49 (s : List Int) (sa0 : Option Addr) (sk0 : Nat) (v : Int) (hv_0 : i64ok v) (rr : Int) (hrr : slices_Index_int s v = rr) :
    FT Try.prog 49 #[.slice sa0 s.length sk0, .int .i64 v] [sl (.slice sa0 s.length sk0) (s : List Int)]
      (fun g : Unit => i64ok rr)
      (fun g => .int .i64 rr)
      (fun g => []) := by
  refine FT_intro (args := [.slice sa0 s.length sk0, .int .i64 v]) Try.func49 rfl rfl ?_
  intro w0 M0 F0
  have hv_0 : -9223372036854775808 ≤ v ∧ v ≤ 9223372036854775807 := hv_0
  refine JJ_fact 0 rfl sl_bytes ?_
  intro hl1
  have hl1 : s.length * 8 ≤ 140737488355328 := hl1
  refine JJ_fact 0 rfl sl_ok ?_
  intro ho2
  refine JK_seq ?_
  refine JK_region ?_
  refine JO_q rfl rfl rfl (OpV.assign rfl rfl) ?_
  refine JO_nil ?_
  refine JK_seq ?_
  refine JK_seq ?_
  refine JK_region ?_
  refine JO_q rfl rfl rfl (OpV.move rfl rfl) ?_
  refine JO_q rfl rfl rfl (OpV.len rfl rfl sl22) ?_
  refine JO_q rfl rfl rfl (OpV.move rfl rfl) ?_
  refine JO_nil ?_
  refine JK_block ?_
  refine JK_loop (γ := Nat × Int) (fun (r3, v8_4) => [(0, .slice sa0 s.length sk0), (1, .int .i64 v), (7, .int .i64 ((s.length : Nat) : Int)), (8, .int .i64 v8_4)]) (fun (r3, v8_4) => [sl (.slice sa0 s.length sk0) (s : List Int)]) (fun (r3, v8_4) => slices_Index_int_L0 s v r3 v8_4 = slices_Index_int_L0 s v (((((s.length : Nat) : Int) : Int) - 0).toNat) 0 ∧ r3 = ((((s.length : Nat) : Int) : Int) - v8_4).toNat ∧ (0 : Int) ≤ v8_4 ∧ (v8_4 ≤ ((s.length : Nat) : Int) ∨ v8_4 = 0) ∧ (-9223372036854775808 ≤ v8_4 ∧ v8_4 ≤ 9223372036854775807)) (fun (r3, v8_4) => r3) (((((s.length : Nat) : Int) : Int) - 0).toNat, 0) ⟨rfl, rfl, (by omega), (.inr rfl), (by omega)⟩ (Env.sub_all rfl) (Ent.take (is := [0]) rfl) ?_
  rintro ⟨r3, v8_4⟩ ⟨hM5, hr6, hi7, hi8, hk9⟩
  refine JJ_norm (L := [(0, .slice sa0 s.length sk0), (1, .int .i64 v), (7, .int .i64 ((s.length : Nat) : Int)), (8, .int .i64 v8_4)]) (A := [sl (.slice sa0 s.length sk0) (s : List Int)]) rfl rfl ?_
  refine JJ_fact 0 rfl sl_bytes ?_
  intro hl10
  have hl10 : s.length * 8 ≤ 140737488355328 := hl10
  refine JJ_fact 0 rfl sl_ok ?_
  intro ho11
  refine JK_seq ?_
  refine JK_region ?_
  refine JO_q rfl rfl rfl (OpV.lss rfl rfl rfl) ?_
  refine JO_nil ?_
  refine JK_seq ?_
  refine JK_cond (b := decide (v8_4 < ((s.length : Nat) : Int))) rfl (fun (h12 : decide (v8_4 < ((s.length : Nat) : Int)) = true) => ?_) (fun (h12 : decide (v8_4 < ((s.length : Nat) : Int)) = false) => ?_)
  · skip
    have g13 : (v8_4 < ((s.length : Nat) : Int)) := of_decide_eq_true h12
    obtain ⟨r14, rfl⟩ : ∃ q, r3 = q + 1 := ⟨r3 - 1, by omega⟩
    refine JK_skip ?_
    refine JK_seq ?_
    refine JK_block ?_
    refine JK_seq ?_
    refine JK_region ?_
    refine JO_q rfl rfl rfl (OpV.move rfl rfl) ?_
    refine JO_q rfl rfl rfl (OpV.assign rfl rfl) ?_
    refine JO_nil ?_
    refine JK_seq ?_
    refine JK_region ?_
    refine JO_q rfl rfl rfl (OpV.move rfl rfl) ?_
    refine JO_q rfl rfl rfl (OpV.move rfl rfl) ?_
    refine JO_q rfl rfl rfl (OpV.move rfl rfl) ?_
    refine JO_q rfl rfl rfl (OpV.indexAddr (m := 0) rfl rfl rfl sl22 rfl (isSl_sl _ _) (by first | omega | (simp only [lens]; omega) | (simp only [lens] at *; omega))) ?_
    have hb15 : -9223372036854775808 ≤ (s.getD (v8_4 : Int).toNat 0) ∧ (s.getD (v8_4 : Int).toNat 0) ≤ 9223372036854775807 := getD_ok ho11 (by first | omega | (simp only [lens]; omega) | (simp only [lens] at *; omega))
    refine JO_q rfl rfl rfl (OpV.load rfl rfl sh3 (i := 0) rfl (reads_sl _ _ _ 0 (by first | omega | (simp only [lens]; omega) | (simp only [lens] at *; omega))) rfl) ?_
    refine JO_q rfl rfl rfl (OpV.eql rfl rfl rfl) ?_
    refine JO_nil ?_
    refine JK_cond (b := (v == (s.getD (v8_4 : Int).toNat 0))) rfl (fun (h16 : (v == (s.getD (v8_4 : Int).toNat 0)) = true) => ?_) (fun (h16 : (v == (s.getD (v8_4 : Int).toNat 0)) = false) => ?_)
    · skip
      have g17 : v = (s.getD (v8_4 : Int).toNat 0) := eq_of_beq h16
      refine JK_seq ?_
      refine JK_region ?_
      refine JO_q rfl rfl rfl (OpV.move rfl rfl) ?_
      refine JO_q rfl rfl rfl (OpV.assign rfl rfl) ?_
      refine JO_nil ?_
      have hR18 : slices_Index_int_L0 s v (((((s.length : Nat) : Int) : Int) - 0).toNat) 0 = LR.ret v8_4 := by
        rw [← hM5]; simp only [slices_Index_int_L0, h12, h16, cs4]
      have hq : rr = v8_4 := hrr.symm.trans (by simp only [slices_Index_int, h12, h16, hR18, cs4])
      replace hrr := hrr.trans hq
      subst rr
      refine JK_return (()) rfl (.tmp rfl .nil) rfl (by (try dsimp only) <;> first | omega | (unfold i64ok; omega) | (simp only [lens]; omega) | assumption | trivial) (Ent.take (is := []) rfl)
    · skip
      have g19 : v ≠ (s.getD (v8_4 : Int).toNat 0) := ne_of_beq_false h16
      refine JK_skip ?_
      refine JK_blk ?_
      refine JK_region ?_
      refine JO_q rfl rfl rfl (OpV.add rfl rfl rfl (by unfold i64ok; omega)) ?_
      refine JO_q rfl rfl rfl (OpV.move rfl rfl) ?_
      refine JO_nil ?_
      refine JK_goal (r14, (v8_4 + 1)) ⟨(by rw [← hM5]; simp only [slices_Index_int_L0, h12, h16, cs4]), (by omega), (by omega), (by omega), (by omega)⟩ (by show r14 < r14 + 1; omega) (Env.sub_all rfl) (Ent.take (is := [0]) rfl)
  · skip
    have g20 : ¬ (v8_4 < ((s.length : Nat) : Int)) := of_decide_eq_false h12
    obtain rfl : r3 = 0 := by omega
    refine JK_exit rfl ?_
    have hR21 : slices_Index_int_L0 s v (((((s.length : Nat) : Int) : Int) - 0).toNat) 0 = LR.brk () := by
      rw [← hM5]; simp only [slices_Index_int_L0, h12, cs4]
    refine JK_seq ?_
    refine JK_region ?_
    refine JO_q rfl rfl rfl (OpV.assign rfl rfl) ?_
    refine JO_nil ?_
    have hq : rr = -1 := hrr.symm.trans (by simp only [slices_Index_int, h12, hR21, cs4])
    replace hrr := hrr.trans hq
    subst rr
    refine JK_return (()) rfl (.tmp rfl .nil) rfl (by (try dsimp only) <;> first | omega | (unfold i64ok; omega) | (simp only [lens]; omega) | assumption | trivial) (Ent.take (is := []) rfl)
set_option maxHeartbeats 20000000 in
set_option maxRecDepth 100000 in
/- slices.Contains[[]int,int] -/
theorem fn32 (s : List Int) (sa0 : Option Addr) (sk0 : Nat) (v : Int) (hv_0 : i64ok v) (rr : Bool) (hrr : slices_Contains_int s v = rr) :
    FT Try.prog 32 #[.slice sa0 s.length sk0, .int .i64 v] [sl (.slice sa0 s.length sk0) (s : List Int)]
      (fun g : Unit => True)
      (fun g => .bool rr)
      (fun g => []) := by
  refine FT_intro (args := [.slice sa0 s.length sk0, .int .i64 v]) Try.func32 rfl rfl ?_
  intro w0 M0 F0
  have hv_0 : -9223372036854775808 ≤ v ∧ v ≤ 9223372036854775807 := hv_0
  refine JJ_fact 0 rfl sl_bytes ?_
  intro hl1
  have hl1 : s.length * 8 ≤ 140737488355328 := hl1
  refine JJ_fact 0 rfl sl_ok ?_
  intro ho2
  refine JK_seq ?_
  refine JK_region ?_
  refine JO_q rfl rfl rfl (OpV.assign rfl rfl) ?_
  refine JO_nil ?_
  refine JK_seq ?_
  refine JK_region ?_
  refine JO_q rfl rfl rfl (OpV.move rfl rfl) ?_
  refine JO_q rfl rfl rfl (OpV.move rfl rfl) ?_
  refine letv (slices_Index_int s v) fun rv3 hg4 => ?_
  have hc5 := fn49 s sa0 sk0 v (by (try dsimp only) <;> first | (unfold i64ok; omega) | omega | assumption) rv3 hg4
  refine JO_call [0] rfl rfl rfl (OpC.fn rfl ca49 rfl) (hc5) rfl ?_
  rintro - he6
  have he6 : -9223372036854775808 ≤ rv3 ∧ rv3 ≤ 9223372036854775807 := he6
  refine JO_q rfl rfl rfl (OpV.geq rfl rfl rfl) ?_
  refine JO_q rfl rfl rfl (OpV.assign rfl rfl) ?_
  refine JO_nil ?_
  have hq : rr = decide (0 ≤ rv3) := hrr.symm.trans (by simp only [slices_Contains_int, hg4, cs4])
  replace hrr := hrr.trans hq
  subst rr
  refine JK_return (()) rfl (.tmp rfl .nil) rfl trivial (Ent.take (is := []) rfl)
set_option maxHeartbeats 20000000 in
set_option maxRecDepth 100000 in
/- slices.Clip[[]int,int] -/
theorem fn33 (s : List Int) (sa0 : Option Addr) (sk0 : Nat) (rr : List Int) (hrr : slices_Clip_int s = rr) :
    FT Try.prog 33 #[.slice sa0 s.length sk0] [sl (.slice sa0 s.length sk0) (s : List Int)]
      (fun g : Value => True)
      (fun g => g)
      (fun g => [sl (g) (rr : List Int)]) := by
  refine FT_intro (args := [.slice sa0 s.length sk0]) Try.func33 rfl rfl ?_
  intro w0 M0 F0
  refine JJ_fact 0 rfl sl_bytes ?_
  intro hl1
  have hl1 : s.length * 8 ≤ 140737488355328 := hl1
  refine JJ_fact 0 rfl sl_ok ?_
  intro ho2
  refine JK_seq ?_
  refine JK_region ?_
  refine JO_q rfl rfl rfl (OpV.assign rfl rfl) ?_
  refine JO_nil ?_
  refine JK_seq ?_
  refine JK_region ?_
  refine JO_q rfl rfl rfl (OpV.move rfl rfl) ?_
  refine JO_q rfl rfl rfl (OpV.move rfl rfl) ?_
  refine JO_q rfl rfl rfl (OpV.len rfl rfl sl22) ?_
  refine JO_q rfl rfl rfl (OpV.move rfl rfl) ?_
  refine JO_q rfl rfl rfl (OpV.len rfl rfl sl22) ?_
  refine JO_act rfl rfl rfl (OpA.frame [0] rfl (OpA.sliceSl3 0 ((((s.length : Nat) : Int) : Int).toNat) ((((s.length : Nat) : Int) : Int).toNat) rfl rfl sl22 rfl rfl ⟨_, natc rfl (by omega)⟩ ⟨_, natc rfl (by omega)⟩ (by first | omega | (simp only [lens]; omega) | (simp only [lens] at *; omega)) (by first | omega | (simp only [lens]; omega) | (simp only [lens] at *; omega)) (by first | omega | (simp only [lens]; omega) | (simp only [lens] at *; omega)) (by first | omega | (simp only [lens]; omega) | (simp only [lens] at *; omega)))) ?_
  intro c3
  refine JJ_slice 0 rfl sl_slice ?_
  rintro a4 k5 rfl
  refine JJ_fact 0 rfl sl_bytes ?_
  intro hl6
  have hl6 : ((s.take ((((s.length : Nat) : Int) : Int).toNat)).drop 0).length * 8 ≤ 140737488355328 := hl6
  refine JJ_fact 0 rfl sl_ok ?_
  intro ho7
  have hn8 : ((s.take ((((s.length : Nat) : Int) : Int).toNat)).drop 0).length = ((((s.length : Nat) : Int) : Int).toNat) - 0 := len_slice (by first | omega | (simp only [lens]; omega) | (simp only [lens] at *; omega)) (by first | omega | (simp only [lens]; omega) | (simp only [lens] at *; omega))
  refine JO_q rfl rfl rfl (OpV.assign rfl rfl) ?_
  refine JO_nil ?_
  have hq : rr = ((s.take ((((s.length : Nat) : Int) : Int).toNat)).drop 0) := hrr.symm.trans (by simp only [slices_Clip_int, cs4])
  replace hrr := hrr.trans hq
  subst rr
  refine JK_return (.slice a4 (((s.take ((((s.length : Nat) : Int) : Int).toNat)).drop 0).length) k5) rfl (.tmp rfl .nil) rfl trivial (Ent.take (is := [0]) rfl)
set_option maxHeartbeats 20000000 in
set_option maxRecDepth 100000 in
/- flowquery/cone.Of -/
theorem fn14 (s : GSystem) (sa1 : Option Addr) (sk1 : Nat) (sa2 : Option Addr) (sk2 : Nat) (sa3 : Option Addr) (sk3 : Nat) (root : Int) (leaves : List Int) (leavesa0 : Option Addr) (leavesk0 : Nat) (hs_0 : i64ok s.Width) (hroot_0 : i64ok root) (rr : List Int × Int × Int) (hrr : cone_Of s root leaves = rr) :
    FT Try.prog 14 #[.agg #[.int .i64 s.Width, .slice sa1 s.Deps.length sk1, .slice sa2 s.Transfers.length sk2, .slice sa3 s.Boundary.length sk3], .int .i64 root, .slice leavesa0 leaves.length leavesk0] [sl (.slice sa1 s.Deps.length sk1) (s.Deps : List (List Int)), sl (.slice sa2 s.Transfers.length sk2) (s.Transfers : List GTransfer), sl (.slice sa3 s.Boundary.length sk3) (s.Boundary : List GSet), sl (.slice leavesa0 leaves.length leavesk0) (leaves : List Int)]
      (fun g : Value => i64ok rr.2.1 ∧ i64ok rr.2.2)
      (fun g => .tuple #[g, .int .i64 rr.2.1, .int .i64 rr.2.2])
      (fun g => [sl (g) (rr.1 : List Int)]) := by
  refine FT_intro (args := [.agg #[.int .i64 s.Width, .slice sa1 s.Deps.length sk1, .slice sa2 s.Transfers.length sk2, .slice sa3 s.Boundary.length sk3], .int .i64 root, .slice leavesa0 leaves.length leavesk0]) Try.func14 rfl rfl ?_
  intro w0 M0 F0
  have hs_0 : -9223372036854775808 ≤ s.Width ∧ s.Width ≤ 9223372036854775807 := hs_0
  have hroot_0 : -9223372036854775808 ≤ root ∧ root ≤ 9223372036854775807 := hroot_0
  refine JJ_fact 0 rfl sl_bytes ?_
  intro hl1
  have hl1 : s.Deps.length * 24 ≤ 140737488355328 := hl1
  refine JJ_fact 1 rfl sl_bytes ?_
  intro hl2
  have hl2 : s.Transfers.length * 88 ≤ 140737488355328 := hl2
  refine JJ_fact 2 rfl sl_bytes ?_
  intro hl3
  have hl3 : s.Boundary.length * 32 ≤ 140737488355328 := hl3
  refine JJ_fact 3 rfl sl_bytes ?_
  intro hl4
  have hl4 : leaves.length * 8 ≤ 140737488355328 := hl4
  refine JJ_fact 3 rfl sl_ok ?_
  intro ho5
  refine JK_seq ?_
  refine JK_region ?_
  refine JO_act rfl rfl rfl (OpA.box rfl rfl) ?_
  intro p6
  refine JO_q rfl rfl rfl (OpV.assign rfl rfl) ?_
  refine JO_q rfl rfl rfl (OpV.assign rfl rfl) ?_
  refine JO_q rfl rfl rfl (OpV.assign rfl rfl) ?_
  refine JO_nil ?_
  refine JK_seq ?_
  refine JK_block ?_
  refine JK_seq ?_
  refine JK_region ?_
  refine JO_q rfl rfl rfl (OpV.loadA rfl rfl sh27 (i := 0) rfl (reads_pv _ _) rfl) ?_
  refine letv (equations_Valid s) fun rv7 hg8 => ?_
  have hc9 := fn30 s sa1 sk1 sa2 sk2 sa3 sk3 (by (try dsimp only) <;> first | (unfold i64ok; omega) | omega | assumption) rv7 hg8
  refine JO_call [1, 2, 3] rfl rfl rfl (OpC.fn rfl ca30 rfl) (hc9) rfl ?_
  rintro - -
  refine JO_q rfl rfl rfl (OpV.not rfl rfl) ?_
  refine JO_q rfl rfl rfl (OpV.assign rfl rfl) ?_
  refine JO_nil ?_
  refine JK_cond (b := (!rv7)) rfl (fun (h10 : (!rv7) = true) => ?_) (fun (h10 : (!rv7) = false) => ?_)
  · skip
    have h12 : rv7 = false := not_true h10
    refine JK_seq ?_
    refine JK_region ?_
    refine JO_q rfl rfl rfl (OpV.assign rfl rfl) ?_
    refine JO_q rfl rfl rfl (OpV.assign rfl rfl) ?_
    refine JO_q rfl rfl rfl (OpV.assign rfl rfl) ?_
    refine JO_nil ?_
    refine JJ_loc [] rfl (Ent.slNil (α := Int)) ?_
    have hq : rr = ([], 0, 1) := hrr.symm.trans (by simp only [cone_Of, h10, h12, hg8, cs4])
    replace hrr := hrr.trans hq
    subst rr
    refine JK_return (.slice none 0 0) rfl (.tmp rfl (.tmp rfl (.tmp rfl .nil))) rfl (by refine ⟨?_, ?_⟩ <;> (try dsimp only) <;> first | omega | (unfold i64ok; omega) | (simp only [lens]; omega) | assumption | trivial) (Ent.take (is := [0]) rfl)
  · skip
    have h15 : rv7 = true := not_false h10
    try have hrt := (unknowns_iff s [root]).1 (by simp only [h10, h15, hg8]) root (by simp)
    refine JK_seq ?_
    refine JK_region ?_
    refine JO_q rfl rfl rfl (OpV.loadA rfl rfl sh27 (i := 0) rfl (reads_pv _ _) rfl) ?_
    refine JO_q rfl rfl rfl (OpV.move rfl rfl) ?_
    refine JO_act rfl rfl rfl (OpA.buildSliceV [.int .i64 root] [.int .i64 root] rfl sl22 sz22 rfl (Env.evp_map rfl) rfl rfl rfl rfl) ?_
    intro c17
    refine JJ_slice 0 rfl Cr_slice ?_
    rintro a18 k19 rfl
    refine JJ_loc [0] rfl (Ent.crInt _ [root] _ _ rfl rfl (by intro x hx; rw [List.mem_singleton] at hx; subst hx; unfold i64ok; omega) (Nat.le_of_ble_eq_true rfl)) ?_
    refine letv (cone_unknowns s [root]) fun rv20 hg21 => ?_
    refine JO_call [0, 1, 2, 3] rfl rfl rfl (OpC.fn rfl ca31 rfl) (FT_borrow (A := _) (fun _ _ h => by cases h) (FT_ent (Ent.take (is := [1, 2, 3, 0]) rfl) (fn31 s sa1 sk1 sa2 sk2 sa3 sk3 ([root]) a18 k19 (by (try dsimp only) <;> first | (unfold i64ok; omega) | omega | assumption) rv20 hg21))) rfl ?_
    rintro - -
    refine JO_q rfl rfl rfl (OpV.not rfl rfl) ?_
    refine JO_q rfl rfl rfl (OpV.move rfl rfl) ?_
    refine JJ_split 25 rfl (fun (h22 : (!rv20) = true) => ?_) (fun (h22 : (!rv20) = false) => ?_)
    · skip
      have h24 : rv20 = false := not_true h22
      refine JO_skip rfl rfl rfl rfl rfl rfl ?_
      refine JO_skip rfl rfl rfl rfl rfl rfl ?_
      refine JO_skip rfl rfl rfl rfl rfl rfl ?_
      refine JO_skip rfl rfl rfl rfl rfl rfl ?_
      refine JO_q rfl rfl rfl (OpV.pickT rfl rfl rfl) ?_
      refine JO_q rfl rfl rfl (OpV.assign rfl rfl) ?_
      refine JO_nil ?_
      refine JK_condT rfl ?_
      refine JK_seq ?_
      refine JK_region ?_
      refine JO_q rfl rfl rfl (OpV.assign rfl rfl) ?_
      refine JO_q rfl rfl rfl (OpV.assign rfl rfl) ?_
      refine JO_q rfl rfl rfl (OpV.assign rfl rfl) ?_
      refine JO_nil ?_
      refine JJ_loc [] rfl (Ent.slNil (α := Int)) ?_
      have hq : rr = ([], 0, 9) := hrr.symm.trans (by simp only [cone_Of, h10, h15, h22, h24, hg8, hg21, cs4])
      replace hrr := hrr.trans hq
      subst rr
      refine JK_return (.slice none 0 0) rfl (.tmp rfl (.tmp rfl (.tmp rfl .nil))) rfl (by refine ⟨?_, ?_⟩ <;> (try dsimp only) <;> first | omega | (unfold i64ok; omega) | (simp only [lens]; omega) | assumption | trivial) (Ent.take (is := [0]) rfl)
    · skip
      have h27 : rv20 = true := not_false h22
      try have hrt := (unknowns_iff s [root]).1 (by simp only [h10, h15, h22, h27, hg8, hg21]) root (by simp)
      refine JO_taken rfl rfl rfl rfl ?_
      refine JO_q rfl rfl rfl (OpV.loadA rfl rfl sh27 (i := 1) rfl (reads_pv _ _) rfl) ?_
      refine JO_taken rfl rfl rfl rfl ?_
      refine JO_q rfl rfl rfl (OpV.move rfl rfl) ?_
      refine JO_taken rfl rfl rfl rfl ?_
      refine letv (cone_unknowns s leaves) fun rv29 hg30 => ?_
      have hc31 := fn31 s sa1 sk1 sa2 sk2 sa3 sk3 leaves leavesa0 leavesk0 (by (try dsimp only) <;> first | (unfold i64ok; omega) | omega | assumption) rv29 hg30
      refine JO_call [2, 3, 4, 5] rfl rfl rfl (OpC.fn rfl ca31 rfl) (hc31) rfl ?_
      rintro - -
      refine JO_taken rfl rfl rfl rfl ?_
      refine JO_q rfl rfl rfl (OpV.not rfl rfl) ?_
      refine JO_q rfl rfl rfl (OpV.pickF rfl rfl rfl) ?_
      refine JO_q rfl rfl rfl (OpV.assign rfl rfl) ?_
      refine JO_nil ?_
      refine JK_cond (b := (!rv29)) rfl (fun (h32 : (!rv29) = true) => ?_) (fun (h32 : (!rv29) = false) => ?_)
      · skip
        have h34 : rv29 = false := not_true h32
        refine JK_seq ?_
        refine JK_region ?_
        refine JO_q rfl rfl rfl (OpV.assign rfl rfl) ?_
        refine JO_q rfl rfl rfl (OpV.assign rfl rfl) ?_
        refine JO_q rfl rfl rfl (OpV.assign rfl rfl) ?_
        refine JO_nil ?_
        refine JJ_loc [] rfl (Ent.slNil (α := Int)) ?_
        have hq : rr = ([], 0, 9) := hrr.symm.trans (by simp only [cone_Of, h10, h15, h22, h27, h32, h34, hg8, hg21, hg30, cs4])
        replace hrr := hrr.trans hq
        subst rr
        refine JK_return (.slice none 0 0) rfl (.tmp rfl (.tmp rfl (.tmp rfl .nil))) rfl (by refine ⟨?_, ?_⟩ <;> (try dsimp only) <;> first | omega | (unfold i64ok; omega) | (simp only [lens]; omega) | assumption | trivial) (Ent.take (is := [0]) rfl)
      · skip
        have h37 : rv29 = true := not_false h32
        try have hrt := (unknowns_iff s [root]).1 (by simp only [h10, h15, h22, h27, h32, h37, hg8, hg21, hg30]) root (by simp)
        refine JK_skip ?_
        refine JK_blk ?_
        refine JK_seq ?_
        refine JK_region ?_
        refine JO_q rfl rfl rfl (OpV.move rfl rfl) ?_
        refine JO_act rfl rfl rfl (OpA.buildSliceV [.int .i64 root] [.int .i64 root] rfl sl22 sz22 rfl (Env.evp_map rfl) rfl rfl rfl rfl) ?_
        intro c39
        refine JJ_slice 0 rfl Cr_slice ?_
        rintro a40 k41 rfl
        refine JO_q rfl rfl rfl (OpV.assign rfl rfl) ?_
        refine JO_nil ?_
        refine JK_seq ?_
        refine JK_region ?_
        refine JO_q rfl rfl rfl (OpV.fieldAddr rfl rfl fo27_1 (i := 2) rfl (isPtr_pv _ _)) ?_
        refine JO_q rfl rfl rfl (OpV.loadF rfl rfl sh23 (i := 2) rfl (reads_pv _ _) rfl) ?_
        refine JO_q rfl rfl rfl (OpV.len rfl rfl sl23) ?_
        refine JO_act rfl rfl rfl (OpA.makeSlice (α := Bool) false rfl rfl rfl sl62 sz62 rfl rfl (by omega) (by omega) (fun _ _ => rfl)) ?_
        intro c42
        refine JJ_slice 0 rfl os_slice ?_
        rintro a43 k44 rfl
        refine JJ_fact 0 rfl os_bytes ?_
        intro hl45
        have hl45 : (List.replicate (((s.Deps.length : Nat) : Int) : Int).toNat false).length * 1 ≤ 140737488355328 := hl45
        have hn46 : ((List.replicate (((s.Deps.length : Nat) : Int) : Int).toNat false) : List Bool).length = (((s.Deps.length : Nat) : Int) : Int).toNat := List.length_replicate
        refine JO_q rfl rfl rfl (OpV.assign rfl rfl) ?_
        refine JO_nil ?_
        refine JK_seq ?_
        refine JK_region ?_
        refine JO_q rfl rfl rfl (OpV.move rfl rfl) ?_
        refine JO_q rfl rfl rfl (OpV.move rfl rfl) ?_
        refine JO_q rfl rfl rfl (OpV.indexAddr (m := 0) rfl rfl rfl sl62 rfl (isSl_os _ _) (by first | omega | (simp only [lens]; omega) | (simp only [lens] at *; omega))) ?_
        refine JO_store rfl rfl (OpS.frame [0] rfl (OpS.storeOsB rfl rfl rfl sh4 (by first | omega | (simp only [lens]; omega) | (simp only [lens] at *; omega)))) ?_
        refine JO_nil ?_
        refine JK_seq ?_
        refine JK_region ?_
        refine JO_q rfl rfl rfl (OpV.assign rfl rfl) ?_
        refine JO_nil ?_
        refine JK_seq ?_
        refine JK_seq ?_
        refine JK_region ?_
        refine JO_q rfl rfl rfl (OpV.assign rfl rfl) ?_
        refine JO_nil ?_
        refine JK_block ?_
        refine JJ_loc [1] rfl (Ent.crInt _ [root] _ _ rfl rfl (by intro x hx; rw [List.mem_singleton] at hx; subst hx; unfold i64ok; omega) (Nat.le_of_ble_eq_true rfl)) ?_
        refine JJ_fact 0 rfl os_bytes ?_
        intro hl47
        have hl47 : [root].length * 8 ≤ 140737488355328 := hl47
        refine JJ_fact 0 rfl os_ok ?_
        intro ho48
        have hterm62 : cone_Of_L0 s leaves (s.Deps.length + 1) [root] ((List.replicate (((s.Deps.length : Nat) : Int) : Int).toNat false).set (root : Int).toNat true) 0 0 ≠ LR.oof := (of_term (by simp only [h10, h15, h22, h27, h32, h37, hg8, hg21, hg30]) (by simp only [h10, h15, h22, h27, h32, h37, hg8, hg21, hg30]))
        refine JK_loop (γ := Nat × List Int × List Bool × Int × Int × Option Addr × Nat) (fun (r49, out_50, found_51, cost_52, i_53, a54, k55) => [(2, .slice leavesa0 leaves.length leavesk0), (3, p6), (9, .slice a54 out_50.length k55), (10, .slice a43 ((List.replicate (((s.Deps.length : Nat) : Int) : Int).toNat false).length) k44), (11, .int .i64 cost_52), (12, .int .i64 i_53)]) (fun (r49, out_50, found_51, cost_52, i_53, a54, k55) => [os (.slice a54 out_50.length k55) (out_50 : List Int), os (.slice a43 ((List.replicate (((s.Deps.length : Nat) : Int) : Int).toNat false).length) k44) (found_51 : List Bool), pv p6 [.int .i64 s.Width, .slice sa1 s.Deps.length sk1, .slice sa2 s.Transfers.length sk2, .slice sa3 s.Boundary.length sk3], sl (.slice sa1 s.Deps.length sk1) (s.Deps : List (List Int)), sl (.slice sa2 s.Transfers.length sk2) (s.Transfers : List GTransfer), sl (.slice sa3 s.Boundary.length sk3) (s.Boundary : List GSet), sl (.slice leavesa0 leaves.length leavesk0) (leaves : List Int)]) (fun (r49, out_50, found_51, cost_52, i_53, a54, k55) => cone_Of_L0 s leaves r49 out_50 found_51 cost_52 i_53 = cone_Of_L0 s leaves (s.Deps.length + 1) [root] ((List.replicate (((s.Deps.length : Nat) : Int) : Int).toNat false).set (root : Int).toNat true) 0 0 ∧ (-9223372036854775808 ≤ cost_52 ∧ cost_52 ≤ 9223372036854775807) ∧ (-9223372036854775808 ≤ i_53 ∧ i_53 ≤ 9223372036854775807) ∧ okFound (s.Deps.length : Int) out_50 found_51 ∧ 0 ≤ cost_52 ∧ cost_52 ≤ i_53 * 17592186044417 ∧ i_53 ≤ (out_50.length : Int)) (fun (r49, out_50, found_51, cost_52, i_53, a54, k55) => r49) ((s.Deps.length + 1), [root], ((List.replicate (((s.Deps.length : Nat) : Int) : Int).toNat false).set (root : Int).toNat true), 0, 0, a40, k41) ⟨rfl, (by omega), (by omega), (okFound_one (by simp only [h10, h15, h22, h27, h32, h37, hg8, hg21, hg30])), (by first | omega | (simp only [lens]; omega) | simp), (by first | omega | (simp only [lens]; omega) | simp)⟩ (Env.sub_all rfl) (Ent.take (is := [0, 0, 1, 2, 3, 4, 5]) rfl) ?_
        rintro ⟨r49, out_50, found_51, cost_52, i_53, a54, k55⟩ ⟨hM56, hk57, hk58, hv59, hv60, hv61⟩
        refine JJ_norm (L := [(2, .slice leavesa0 leaves.length leavesk0), (3, p6), (9, .slice a54 out_50.length k55), (10, .slice a43 ((List.replicate (((s.Deps.length : Nat) : Int) : Int).toNat false).length) k44), (11, .int .i64 cost_52), (12, .int .i64 i_53)]) (A := [os (.slice a54 out_50.length k55) (out_50 : List Int), os (.slice a43 ((List.replicate (((s.Deps.length : Nat) : Int) : Int).toNat false).length) k44) (found_51 : List Bool), pv p6 [.int .i64 s.Width, .slice sa1 s.Deps.length sk1, .slice sa2 s.Transfers.length sk2, .slice sa3 s.Boundary.length sk3], sl (.slice sa1 s.Deps.length sk1) (s.Deps : List (List Int)), sl (.slice sa2 s.Transfers.length sk2) (s.Transfers : List GTransfer), sl (.slice sa3 s.Boundary.length sk3) (s.Boundary : List GSet), sl (.slice leavesa0 leaves.length leavesk0) (leaves : List Int)]) rfl rfl ?_
        refine JJ_fact 0 rfl os_bytes ?_
        intro hl63
        have hl63 : out_50.length * 8 ≤ 140737488355328 := hl63
        refine JJ_fact 0 rfl os_ok ?_
        intro ho64
        refine JJ_fact 1 rfl os_bytes ?_
        intro hl65
        have hl65 : found_51.length * 1 ≤ 140737488355328 := hl65
        refine JJ_fact 1 rfl os_len ?_
        intro hn66
        refine JJ_fact 3 rfl sl_bytes ?_
        intro hl67
        have hl67 : s.Deps.length * 24 ≤ 140737488355328 := hl67
        refine JJ_fact 4 rfl sl_bytes ?_
        intro hl68
        have hl68 : s.Transfers.length * 88 ≤ 140737488355328 := hl68
        refine JJ_fact 5 rfl sl_bytes ?_
        intro hl69
        have hl69 : s.Boundary.length * 32 ≤ 140737488355328 := hl69
        refine JJ_fact 6 rfl sl_bytes ?_
        intro hl70
        have hl70 : leaves.length * 8 ≤ 140737488355328 := hl70
        refine JJ_fact 6 rfl sl_ok ?_
        intro ho71
        rcases r49 with _ | r49
        · exact absurd (hM56.symm.trans rfl) hterm62
        refine JK_seq ?_
        refine JK_seq ?_
        refine JK_region ?_
        refine JO_q rfl rfl rfl (OpV.move rfl rfl) ?_
        refine JO_q rfl rfl rfl (OpV.move rfl rfl) ?_
        refine JO_q rfl rfl rfl (OpV.len rfl rfl sl22) ?_
        refine JO_q rfl rfl rfl (OpV.lss rfl rfl rfl) ?_
        refine JO_nil ?_
        refine JK_cond (b := decide (i_53 < ((out_50.length : Nat) : Int))) rfl (fun (h72 : decide (i_53 < ((out_50.length : Nat) : Int)) = true) => ?_) (fun (h72 : decide (i_53 < ((out_50.length : Nat) : Int)) = false) => ?_)
        · skip
          have g73 : (i_53 < ((out_50.length : Nat) : Int)) := of_decide_eq_true h72
          have hv0 := EValid_deps (s := s) (by simp only [h10, h15, h22, h27, h32, h37, h72, hg8, hg21, hg30])
          have hq1 := okFound_len ‹okFound (s.Deps.length : Int) out_50 _› 
          have hq2 := (‹okFound (s.Deps.length : Int) out_50 _›).1.2 _ (getD_mem (xs := out_50) (i := (i_53 : Int).toNat) (d := 0) (by omega))
          refine JK_skip ?_
          refine JK_seq ?_
          refine JK_block ?_
          refine JK_seq ?_
          refine JK_region ?_
          refine JO_q rfl rfl rfl (OpV.move rfl rfl) ?_
          refine JO_q rfl rfl rfl (OpV.add rfl rfl rfl (by unfold i64ok; omega)) ?_
          refine JO_q rfl rfl rfl (OpV.assign rfl rfl) ?_
          refine JO_nil ?_
          refine JK_seq ?_
          refine JK_seq ?_
          refine JK_region ?_
          refine JO_q rfl rfl rfl (OpV.move rfl rfl) ?_
          refine JO_q rfl rfl rfl (OpV.move rfl rfl) ?_
          refine JO_q rfl rfl rfl (OpV.move rfl rfl) ?_
          refine JO_q rfl rfl rfl (OpV.indexAddr (m := 0) rfl rfl rfl sl22 rfl (isSl_os _ _) (by first | omega | (simp only [lens]; omega) | (simp only [lens] at *; omega))) ?_
          have hb74 : -9223372036854775808 ≤ (out_50.getD (i_53 : Int).toNat 0) ∧ (out_50.getD (i_53 : Int).toNat 0) ≤ 9223372036854775807 := getD_ok ho64 (by first | omega | (simp only [lens]; omega) | (simp only [lens] at *; omega))
          refine JO_q rfl rfl rfl (OpV.load rfl rfl sh3 (i := 0) rfl (reads_os _ _ _ 0 (by first | omega | (simp only [lens]; omega) | (simp only [lens] at *; omega))) rfl) ?_
          refine letv (slices_Contains_int leaves (out_50.getD (i_53 : Int).toNat 0)) fun rv75 hg76 => ?_
          have hc77 := fn32 leaves leavesa0 leavesk0 ((out_50.getD (i_53 : Int).toNat 0)) (by (try dsimp only) <;> first | (unfold i64ok; omega) | omega | assumption) rv75 hg76
          refine JO_call [6] rfl rfl rfl (OpC.fn rfl ca32 rfl) (hc77) rfl ?_
          rintro - -
          refine JO_nil ?_
          refine JK_cond (b := rv75) rfl (fun (h78 : rv75 = true) => ?_) (fun (h78 : rv75 = false) => ?_)
          · skip
            try have hrt := (unknowns_iff s [root]).1 (by simp only [h10, h15, h22, h27, h32, h37, h72, h78, hg8, hg21, hg30, hg76]) root (by simp)
            refine JK_exit rfl ?_
            refine JK_region ?_
            refine JO_q rfl rfl rfl (OpV.move rfl rfl) ?_
            refine JO_q rfl rfl rfl (OpV.add rfl rfl rfl (by unfold i64ok; omega)) ?_
            refine JO_q rfl rfl rfl (OpV.assign rfl rfl) ?_
            refine JO_nil ?_
            refine JK_goal (r49, out_50, found_51, (cost_52 + 1), (i_53 + 1), a54, k55) ⟨(by rw [← hM56]; simp only [cone_Of_L0, h10, h15, h22, h27, h32, h37, h72, h78, hg8, hg21, hg30, hg76, cs4]), (by omega), (by omega), (by assumption), (by first | omega | (simp only [lens]; omega) | assumption), (by first | omega | (simp only [lens]; omega) | assumption)⟩ (by show r49 < r49 + 1; omega) (Env.sub_all rfl) (Ent.take (is := [0, 0, 0, 1, 2, 3, 4]) rfl)
          · skip
            refine JK_skip ?_
            refine JK_seq ?_
            refine JJ_peekL ((out_50.getD (i_53 : Int).toNat 0) : Int).toNat 3 rfl (by omega) ?_
            intro a82 k83
            refine JJ_fact 1 rfl sl_bytes ?_
            intro hl84
            have hl84 : (s.Deps.getD ((out_50.getD (i_53 : Int).toNat 0) : Int).toNat []).length * 8 ≤ 140737488355328 := hl84
            refine JJ_fact 1 rfl sl_ok ?_
            intro ho85
            have hb86 : -9223372036854775808 ≤ (out_50.getD (i_53 : Int).toNat 0) ∧ (out_50.getD (i_53 : Int).toNat 0) ≤ 9223372036854775807 := getD_ok ho64 (by first | omega | (simp only [lens]; omega) | (simp only [lens] at *; omega))
            refine JK_drawQ [0, 1, 0, 0, 12, 28, 63, 127, 255, 0] fmix ?_
            refine JQ_v [4] (qn rfl) rfl rfl (OpV.fieldAddr rfl rfl fo27_1 (i := 0) rfl (isPtr_pv _ _)) ?_
            refine JQ_v [4] (qn rfl) rfl rfl (OpV.loadF rfl rfl sh23 (i := 0) rfl (reads_pv _ _) rfl) ?_
            refine JQ_v [] (qn rfl) rfl rfl (OpV.move rfl rfl) ?_
            refine JQ_v [] (qn rfl) rfl rfl (OpV.move rfl rfl) ?_
            refine JQ_v [2] (qn rfl) rfl rfl (OpV.indexAddr (m := 0) rfl rfl rfl sl22 rfl (isSl_os _ _) (by first | omega | (simp only [lens]; omega) | (simp only [lens] at *; omega))) ?_
            refine JQ_v [2] (qn rfl) rfl rfl (OpV.load rfl rfl sh3 (i := 0) rfl (reads_os _ _ _ 0 (by first | omega | (simp only [lens]; omega) | (simp only [lens] at *; omega))) rfl) ?_
            refine JQ_v [5] (qn rfl) rfl rfl (OpV.indexAddr (m := 0) rfl rfl rfl sl23 rfl (isSl_sl _ _) (by first | omega | (simp only [lens]; omega) | (simp only [lens] at *; omega))) ?_
            refine JQ_v [0] (qn rfl) rfl rfl (OpV.load rfl rfl sh22 (i := 0) rfl (reads_pv _ _) rfl) ?_
            refine JQ_v [] (qn rfl) rfl rfl (OpV.len rfl rfl sl22) ?_
            refine JQ_v [] (qn rfl) rfl rfl (OpV.move rfl rfl) ?_
            refine JQ_nil ⟨by kernel_rfl, ?_⟩
            refine JK_block ?_
            refine JK_loop (γ := Nat × List Int × List Bool × Int × Int × Option Addr × Nat) (fun (r87, out_88, found_89, cost_90, v63_91, a92, k93) => [(2, .slice leavesa0 leaves.length leavesk0), (3, p6), (9, .slice a92 out_88.length k93), (10, .slice a43 ((List.replicate (((s.Deps.length : Nat) : Int) : Int).toNat false).length) k44), (12, .int .i64 i_53), (11, .int .i64 cost_90), (61, .slice a82 ((s.Deps.getD ((out_50.getD (i_53 : Int).toNat 0) : Int).toNat []).length) k83), (62, .int .i64 (((s.Deps.getD ((out_50.getD (i_53 : Int).toNat 0) : Int).toNat []).length : Nat) : Int)), (63, .int .i64 v63_91)]) (fun (r87, out_88, found_89, cost_90, v63_91, a92, k93) => [os (.slice a92 out_88.length k93) (out_88 : List Int), sl (.slice a82 ((s.Deps.getD ((out_50.getD (i_53 : Int).toNat 0) : Int).toNat []).length) k83) ((s.Deps.getD ((out_50.getD (i_53 : Int).toNat 0) : Int).toNat []) : List Int), os (.slice a43 ((List.replicate (((s.Deps.length : Nat) : Int) : Int).toNat false).length) k44) (found_89 : List Bool), pv p6 [.int .i64 s.Width, .slice sa1 s.Deps.length sk1, .slice sa2 s.Transfers.length sk2, .slice sa3 s.Boundary.length sk3], sl (.slice sa1 s.Deps.length sk1) (s.Deps : List (List Int)), sl (.slice sa2 s.Transfers.length sk2) (s.Transfers : List GTransfer), sl (.slice sa3 s.Boundary.length sk3) (s.Boundary : List GSet), sl (.slice leavesa0 leaves.length leavesk0) (leaves : List Int)]) (fun (r87, out_88, found_89, cost_90, v63_91, a92, k93) => cone_Of_L1 (s.Deps.getD ((out_50.getD (i_53 : Int).toNat 0) : Int).toNat []) r87 out_88 found_89 cost_90 v63_91 = cone_Of_L1 (s.Deps.getD ((out_50.getD (i_53 : Int).toNat 0) : Int).toNat []) ((((((s.Deps.getD ((out_50.getD (i_53 : Int).toNat 0) : Int).toNat []).length : Nat) : Int) : Int) - 0).toNat) out_50 found_51 (cost_52 + 1) 0 ∧ r87 = (((((s.Deps.getD ((out_50.getD (i_53 : Int).toNat 0) : Int).toNat []).length : Nat) : Int) : Int) - v63_91).toNat ∧ (0 : Int) ≤ v63_91 ∧ (v63_91 ≤ (((s.Deps.getD ((out_50.getD (i_53 : Int).toNat 0) : Int).toNat []).length : Nat) : Int) ∨ v63_91 = 0) ∧ (-9223372036854775808 ≤ cost_90 ∧ cost_90 ≤ 9223372036854775807) ∧ (-9223372036854775808 ≤ v63_91 ∧ v63_91 ≤ 9223372036854775807) ∧ okFound (s.Deps.length : Int) out_88 found_89 ∧ i_53 + 1 ≤ (out_88.length : Int) ∧ 0 ≤ cost_90 ∧ cost_90 ≤ i_53 * 17592186044417 + 1 + v63_91) (fun (r87, out_88, found_89, cost_90, v63_91, a92, k93) => r87) ((((((s.Deps.getD ((out_50.getD (i_53 : Int).toNat 0) : Int).toNat []).length : Nat) : Int) : Int) - 0).toNat, out_50, found_51, (cost_52 + 1), 0, a54, k55) ⟨rfl, rfl, (by omega), (.inr rfl), (by omega), (by omega), (by assumption), (by first | omega | (simp only [lens]; omega) | simp), (by first | omega | (simp only [lens]; omega) | simp)⟩ (Env.sub_all rfl) (Ent.take (is := [2, 1, 2, 2, 3, 4, 5, 6]) rfl) ?_
            rintro ⟨r87, out_88, found_89, cost_90, v63_91, a92, k93⟩ ⟨hM94, hr95, hi96, hi97, hk98, hk99, hv100, hv101, hv102⟩
            refine JJ_norm (L := [(2, .slice leavesa0 leaves.length leavesk0), (3, p6), (9, .slice a92 out_88.length k93), (10, .slice a43 ((List.replicate (((s.Deps.length : Nat) : Int) : Int).toNat false).length) k44), (12, .int .i64 i_53), (11, .int .i64 cost_90), (61, .slice a82 ((s.Deps.getD ((out_50.getD (i_53 : Int).toNat 0) : Int).toNat []).length) k83), (62, .int .i64 (((s.Deps.getD ((out_50.getD (i_53 : Int).toNat 0) : Int).toNat []).length : Nat) : Int)), (63, .int .i64 v63_91)]) (A := [os (.slice a92 out_88.length k93) (out_88 : List Int), sl (.slice a82 ((s.Deps.getD ((out_50.getD (i_53 : Int).toNat 0) : Int).toNat []).length) k83) ((s.Deps.getD ((out_50.getD (i_53 : Int).toNat 0) : Int).toNat []) : List Int), os (.slice a43 ((List.replicate (((s.Deps.length : Nat) : Int) : Int).toNat false).length) k44) (found_89 : List Bool), pv p6 [.int .i64 s.Width, .slice sa1 s.Deps.length sk1, .slice sa2 s.Transfers.length sk2, .slice sa3 s.Boundary.length sk3], sl (.slice sa1 s.Deps.length sk1) (s.Deps : List (List Int)), sl (.slice sa2 s.Transfers.length sk2) (s.Transfers : List GTransfer), sl (.slice sa3 s.Boundary.length sk3) (s.Boundary : List GSet), sl (.slice leavesa0 leaves.length leavesk0) (leaves : List Int)]) rfl rfl ?_
            refine JJ_fact 0 rfl os_bytes ?_
            intro hl103
            have hl103 : out_88.length * 8 ≤ 140737488355328 := hl103
            refine JJ_fact 0 rfl os_ok ?_
            intro ho104
            refine JJ_fact 1 rfl sl_bytes ?_
            intro hl105
            have hl105 : (s.Deps.getD ((out_50.getD (i_53 : Int).toNat 0) : Int).toNat []).length * 8 ≤ 140737488355328 := hl105
            refine JJ_fact 1 rfl sl_ok ?_
            intro ho106
            refine JJ_fact 2 rfl os_bytes ?_
            intro hl107
            have hl107 : found_89.length * 1 ≤ 140737488355328 := hl107
            refine JJ_fact 2 rfl os_len ?_
            intro hn108
            refine JJ_fact 4 rfl sl_bytes ?_
            intro hl109
            have hl109 : s.Deps.length * 24 ≤ 140737488355328 := hl109
            refine JJ_fact 5 rfl sl_bytes ?_
            intro hl110
            have hl110 : s.Transfers.length * 88 ≤ 140737488355328 := hl110
            refine JJ_fact 6 rfl sl_bytes ?_
            intro hl111
            have hl111 : s.Boundary.length * 32 ≤ 140737488355328 := hl111
            refine JJ_fact 7 rfl sl_bytes ?_
            intro hl112
            have hl112 : leaves.length * 8 ≤ 140737488355328 := hl112
            refine JJ_fact 7 rfl sl_ok ?_
            intro ho113
            refine JK_seq ?_
            refine JK_region ?_
            refine JO_q rfl rfl rfl (OpV.lss rfl rfl rfl) ?_
            refine JO_nil ?_
            refine JK_seq ?_
            refine JK_cond (b := decide (v63_91 < (((s.Deps.getD ((out_50.getD (i_53 : Int).toNat 0) : Int).toNat []).length : Nat) : Int))) rfl (fun (h114 : decide (v63_91 < (((s.Deps.getD ((out_50.getD (i_53 : Int).toNat 0) : Int).toNat []).length : Nat) : Int)) = true) => ?_) (fun (h114 : decide (v63_91 < (((s.Deps.getD ((out_50.getD (i_53 : Int).toNat 0) : Int).toNat []).length : Nat) : Int)) = false) => ?_)
            · skip
              have g115 : (v63_91 < (((s.Deps.getD ((out_50.getD (i_53 : Int).toNat 0) : Int).toNat []).length : Nat) : Int)) := of_decide_eq_true h114
              have hq4 := okFound_len ‹okFound (s.Deps.length : Int) _ _›
              have hq3 := EValid_dep_mem (s := s) (by simp only [h10, h15, h22, h27, h32, h37, h72, h78, h114, hg8, hg21, hg30, hg76]) (j := ((out_50.getD (i_53 : Int).toNat 0) : Int)) (by omega) (by omega) _ (getD_mem (xs := s.Deps.getD ((out_50.getD (i_53 : Int).toNat 0) : Int).toNat []) (i := (v63_91 : Int).toNat) (d := 0) (by omega))
              obtain ⟨r116, rfl⟩ : ∃ q, r87 = q + 1 := ⟨r87 - 1, by omega⟩
              refine JK_skip ?_
              refine JK_seq ?_
              refine JK_block ?_
              refine JK_seq ?_
              refine JK_region ?_
              refine JO_q rfl rfl rfl (OpV.indexAddr (m := 1) rfl rfl rfl sl22 rfl (isSl_sl _ _) (by first | omega | (simp only [lens]; omega) | (simp only [lens] at *; omega))) ?_
              have hb117 : -9223372036854775808 ≤ ((s.Deps.getD ((out_50.getD (i_53 : Int).toNat 0) : Int).toNat []).getD (v63_91 : Int).toNat 0) ∧ ((s.Deps.getD ((out_50.getD (i_53 : Int).toNat 0) : Int).toNat []).getD (v63_91 : Int).toNat 0) ≤ 9223372036854775807 := getD_ok ho106 (by first | omega | (simp only [lens]; omega) | (simp only [lens] at *; omega))
              refine JO_q rfl rfl rfl (OpV.load rfl rfl sh3 (i := 1) rfl (reads_sl _ _ _ 0 (by first | omega | (simp only [lens]; omega) | (simp only [lens] at *; omega))) rfl) ?_
              refine JO_q rfl rfl rfl (OpV.assign rfl rfl) ?_
              refine JO_nil ?_
              refine JK_seq ?_
              refine JK_region ?_
              refine JO_q rfl rfl rfl (OpV.move rfl rfl) ?_
              refine JO_q rfl rfl rfl (OpV.add rfl rfl rfl (by unfold i64ok; omega)) ?_
              refine JO_q rfl rfl rfl (OpV.assign rfl rfl) ?_
              refine JO_nil ?_
              refine JK_seq ?_
              refine JK_region ?_
              refine JO_q rfl rfl rfl (OpV.move rfl rfl) ?_
              refine JO_q rfl rfl rfl (OpV.move rfl rfl) ?_
              refine JO_q rfl rfl rfl (OpV.indexAddr (m := 2) rfl rfl rfl sl62 rfl (isSl_os _ _) (by first | omega | (simp only [lens]; omega) | (simp only [lens] at *; omega))) ?_
              refine JO_q rfl rfl rfl (OpV.load rfl rfl sh4 (i := 2) rfl (reads_os _ _ _ false (by first | omega | (simp only [lens]; omega) | (simp only [lens] at *; omega))) rfl) ?_
              refine JO_q rfl rfl rfl (OpV.not rfl rfl) ?_
              refine JO_nil ?_
              refine JK_cond (b := (!(found_89.getD (((s.Deps.getD ((out_50.getD (i_53 : Int).toNat 0) : Int).toNat []).getD (v63_91 : Int).toNat 0) : Int).toNat false))) rfl (fun (h118 : (!(found_89.getD (((s.Deps.getD ((out_50.getD (i_53 : Int).toNat 0) : Int).toNat []).getD (v63_91 : Int).toNat 0) : Int).toNat false)) = true) => ?_) (fun (h118 : (!(found_89.getD (((s.Deps.getD ((out_50.getD (i_53 : Int).toNat 0) : Int).toNat []).getD (v63_91 : Int).toNat 0) : Int).toNat false)) = false) => ?_)
              · skip
                have h120 : (found_89.getD (((s.Deps.getD ((out_50.getD (i_53 : Int).toNat 0) : Int).toNat []).getD (v63_91 : Int).toNat 0) : Int).toNat false) = false := not_true h118
                refine JK_seq ?_
                refine JK_region ?_
                refine JO_q rfl rfl rfl (OpV.move rfl rfl) ?_
                refine JO_q rfl rfl rfl (OpV.move rfl rfl) ?_
                refine JO_q rfl rfl rfl (OpV.indexAddr (m := 2) rfl rfl rfl sl62 rfl (isSl_os _ _) (by first | omega | (simp only [lens]; omega) | (simp only [lens] at *; omega))) ?_
                refine JO_store rfl rfl (OpS.frame [2] rfl (OpS.storeOsB rfl rfl rfl sh4 (by first | omega | (simp only [lens]; omega) | (simp only [lens] at *; omega)))) ?_
                refine JO_nil ?_
                refine JK_region ?_
                refine JO_q rfl rfl rfl (OpV.move rfl rfl) ?_
                refine JO_q rfl rfl rfl (OpV.move rfl rfl) ?_
                refine JO_act rfl rfl rfl (OpA.buildSliceV [.int .i64 ((s.Deps.getD ((out_50.getD (i_53 : Int).toNat 0) : Int).toNat []).getD (v63_91 : Int).toNat 0)] [.int .i64 ((s.Deps.getD ((out_50.getD (i_53 : Int).toNat 0) : Int).toNat []).getD (v63_91 : Int).toNat 0)] rfl sl22 sz22 rfl (Env.evp_map rfl) rfl rfl rfl rfl) ?_
                intro c122
                refine JJ_slice 0 rfl Cr_slice ?_
                rintro a123 k124 rfl
                refine JJ_loc [0] rfl (Ent.crInt _ [((s.Deps.getD ((out_50.getD (i_53 : Int).toNat 0) : Int).toNat []).getD (v63_91 : Int).toNat 0)] _ _ rfl rfl (by intro x hx; rw [List.mem_singleton] at hx; subst hx; unfold i64ok; omega) (Nat.le_of_ble_eq_true rfl)) ?_
                refine JO_act rfl rfl rfl (OpA.frame [2, 0] rfl (OpA.appO (α := Int) (xs := out_88) (ys := [((s.Deps.getD ((out_50.getD (i_53 : Int).toNat 0) : Int).toNat []).getD (v63_91 : Int).toNat 0)]) rfl rfl rfl sl22 sl22 sz22 rfl rfl rfl (by show (_ + _) * 8 ≤ 140737488355328; first | omega | (simp only [lens]; omega) | (simp only [lens] at *; omega)))) ?_
                intro c125
                refine JJ_slice 0 rfl os_slice ?_
                rintro a126 k127 rfl
                refine JJ_fact 0 rfl os_bytes ?_
                intro hl128
                have hl128 : (out_88 ++ [((s.Deps.getD ((out_50.getD (i_53 : Int).toNat 0) : Int).toNat []).getD (v63_91 : Int).toNat 0)]).length * 8 ≤ 140737488355328 := hl128
                refine JJ_fact 0 rfl os_ok ?_
                intro ho129
                have hn130 : ((out_88 ++ [((s.Deps.getD ((out_50.getD (i_53 : Int).toNat 0) : Int).toNat []).getD (v63_91 : Int).toNat 0)]) : List Int).length = (out_88 : List Int).length + ([((s.Deps.getD ((out_50.getD (i_53 : Int).toNat 0) : Int).toNat []).getD (v63_91 : Int).toNat 0)] : List Int).length := List.length_append
                refine JO_q rfl rfl rfl (OpV.assign rfl rfl) ?_
                refine JO_nil ?_
                refine JK_blk ?_
                refine JK_region ?_
                refine JO_q rfl rfl rfl (OpV.add rfl rfl rfl (by unfold i64ok; omega)) ?_
                refine JO_q rfl rfl rfl (OpV.move rfl rfl) ?_
                refine JO_nil ?_
                refine JK_goal (r116, (out_88 ++ [((s.Deps.getD ((out_50.getD (i_53 : Int).toNat 0) : Int).toNat []).getD (v63_91 : Int).toNat 0)]), (found_89.set (((s.Deps.getD ((out_50.getD (i_53 : Int).toNat 0) : Int).toNat []).getD (v63_91 : Int).toNat 0) : Int).toNat true), (cost_90 + 1), (v63_91 + 1), a126, k127) ⟨(by rw [← hM94]; simp only [cone_Of_L1, h10, h15, h22, h27, h32, h37, h72, h78, h114, h118, h120, hg8, hg21, hg30, hg76, cs4]), (by omega), (by omega), (by omega), (by omega), (by omega), (by first | assumption | exact okFound_push (by assumption) (by simp only [h10, h15, h22, h27, h32, h37, h72, h78, h114, h118, h120, hg8, hg21, hg30, hg76]) (by omega) (by omega)), (by first | omega | (simp only [lens]; omega) | assumption), (by first | omega | (simp only [lens]; omega) | assumption)⟩ (by show r116 < r116 + 1; omega) (Env.sub_all rfl) (Ent.take (is := [0, 1, 0, 1, 2, 3, 4, 5]) rfl)
              · skip
                have h132 : (found_89.getD (((s.Deps.getD ((out_50.getD (i_53 : Int).toNat 0) : Int).toNat []).getD (v63_91 : Int).toNat 0) : Int).toNat false) = true := not_false h118
                refine JK_skip ?_
                refine JK_blk ?_
                refine JK_region ?_
                refine JO_q rfl rfl rfl (OpV.add rfl rfl rfl (by unfold i64ok; omega)) ?_
                refine JO_q rfl rfl rfl (OpV.move rfl rfl) ?_
                refine JO_nil ?_
                refine JK_goal (r116, out_88, found_89, (cost_90 + 1), (v63_91 + 1), a92, k93) ⟨(by rw [← hM94]; simp only [cone_Of_L1, h10, h15, h22, h27, h32, h37, h72, h78, h114, h118, h132, hg8, hg21, hg30, hg76, cs4]), (by omega), (by omega), (by omega), (by omega), (by omega), (by first | assumption | exact okFound_push (by assumption) (by simp only [h10, h15, h22, h27, h32, h37, h72, h78, h114, h118, h132, hg8, hg21, hg30, hg76]) (by omega) (by omega)), (by first | omega | (simp only [lens]; omega) | assumption), (by first | omega | (simp only [lens]; omega) | assumption)⟩ (by show r116 < r116 + 1; omega) (Env.sub_all rfl) (Ent.take (is := [0, 0, 1, 1, 2, 3, 4, 5]) rfl)
            · skip
              have g134 : ¬ (v63_91 < (((s.Deps.getD ((out_50.getD (i_53 : Int).toNat 0) : Int).toNat []).length : Nat) : Int)) := of_decide_eq_false h114
              obtain rfl : r87 = 0 := by omega
              refine JK_exit rfl ?_
              have hR135 : cone_Of_L1 (s.Deps.getD ((out_50.getD (i_53 : Int).toNat 0) : Int).toNat []) ((((((s.Deps.getD ((out_50.getD (i_53 : Int).toNat 0) : Int).toNat []).length : Nat) : Int) : Int) - 0).toNat) out_50 found_51 (cost_52 + 1) 0 = (out_88, found_89, cost_90) := by
                rw [← hM94]; simp only [cone_Of_L1, h10, h15, h22, h27, h32, h37, h72, h78, h114, hg8, hg21, hg30, hg76, cs4]
              refine JK_blk ?_
              refine JK_region ?_
              refine JO_q rfl rfl rfl (OpV.move rfl rfl) ?_
              refine JO_q rfl rfl rfl (OpV.add rfl rfl rfl (by unfold i64ok; omega)) ?_
              refine JO_q rfl rfl rfl (OpV.assign rfl rfl) ?_
              refine JO_nil ?_
              refine JK_goal (r49, out_88, found_89, cost_90, (i_53 + 1), a92, k93) ⟨(by rw [← hM56]; simp only [cone_Of_L0, h10, h15, h22, h27, h32, h37, h72, h78, h114, hg8, hg21, hg30, hg76, hR135, cs4]), (by omega), (by omega), (by assumption), (by first | omega | (simp only [lens]; omega) | assumption), (by first | omega | (simp only [lens]; omega) | assumption)⟩ (by show r49 < r49 + 1; omega) (Env.sub_all rfl) (Ent.take (is := [0, 1, 1, 2, 3, 4, 5]) rfl)
        · skip
          have g136 : ¬ (i_53 < ((out_50.length : Nat) : Int)) := of_decide_eq_false h72
          refine JK_exit rfl ?_
          have hR137 : cone_Of_L0 s leaves (s.Deps.length + 1) [root] ((List.replicate (((s.Deps.length : Nat) : Int) : Int).toNat false).set (root : Int).toNat true) 0 0 = LR.brk (out_50, cost_52) := by
            rw [← hM56]; simp only [cone_Of_L0, h10, h15, h22, h27, h32, h37, h72, hg8, hg21, hg30, cs4]
          refine JK_seq ?_
          refine JK_region ?_
          refine JO_q rfl rfl rfl (OpV.move rfl rfl) ?_
          refine JJ_loc [0] rfl (Ent.freeze _ _) ?_
          refine letv (slices_Clip_int out_50) fun rv139 hg140 => ?_
          have hc141 := fn33 out_50 a54 k55 rv139 hg140
          refine JO_call [0] rfl rfl rfl (OpC.fn rfl ca33 rfl) (hc141) rfl ?_
          rintro c138 -
          refine JJ_slice 0 rfl sl_slice ?_
          rintro a142 k143 rfl
          refine JJ_fact 0 rfl sl_bytes ?_
          intro hl144
          have hl144 : rv139.length * 8 ≤ 140737488355328 := hl144
          refine JJ_fact 0 rfl sl_ok ?_
          intro ho145
          refine JO_q rfl rfl rfl (OpV.move rfl rfl) ?_
          refine JO_q rfl rfl rfl (OpV.assign rfl rfl) ?_
          refine JO_q rfl rfl rfl (OpV.assign rfl rfl) ?_
          refine JO_q rfl rfl rfl (OpV.assign rfl rfl) ?_
          refine JO_nil ?_
          have hq : rr = (rv139, cost_52, 0) := hrr.symm.trans (by simp only [cone_Of, h10, h15, h22, h27, h32, h37, h72, hg8, hg21, hg30, hR137, hg140, cs4])
          replace hrr := hrr.trans hq
          subst rr
          refine JK_return (.slice a142 rv139.length k143) rfl (.tmp rfl (.tmp rfl (.tmp rfl .nil))) rfl (by refine ⟨?_, ?_⟩ <;> (try dsimp only) <;> first | omega | (unfold i64ok; omega) | (simp only [lens]; omega) | assumption | trivial) (Ent.take (is := [0]) rfl)
set_option maxHeartbeats 20000000 in
set_option maxRecDepth 100000 in
/- flowquery/cone.Closed$1 -/
theorem fn35 (m : Int) (cap0P : Value) (cap0 : List Bool) (cap0a0 : Option Addr) (cap0k0 : Nat) (hm_0 : i64ok m) (hm0 : 0 ≤ m ∧ m < (cap0.length : Int)) (rr : Bool) (hrr : cone_Closed_1 m cap0 = rr) :
    FT Try.prog 35 #[.int .i64 m, cap0P] [pv cap0P [.slice cap0a0 cap0.length cap0k0], sl (.slice cap0a0 cap0.length cap0k0) (cap0 : List Bool)]
      (fun g : Unit => True)
      (fun g => .bool rr)
      (fun g => []) := by
  refine FT_intro (args := [.int .i64 m, cap0P]) Try.func35 rfl rfl ?_
  intro w0 M0 F0
  have hm_0 : -9223372036854775808 ≤ m ∧ m ≤ 9223372036854775807 := hm_0
  refine JJ_fact 1 rfl sl_bytes ?_
  intro hl1
  have hl1 : cap0.length * 1 ≤ 140737488355328 := hl1
  refine JK_seq ?_
  refine JK_region ?_
  refine JO_q rfl rfl rfl (OpV.assign rfl rfl) ?_
  refine JO_nil ?_
  refine JK_seq ?_
  refine JK_region ?_
  refine JO_q rfl rfl rfl (OpV.load rfl rfl sh62 (i := 0) rfl (reads_pv _ _) rfl) ?_
  refine JO_q rfl rfl rfl (OpV.move rfl rfl) ?_
  refine JO_q rfl rfl rfl (OpV.indexAddr (m := 1) rfl rfl rfl sl62 rfl (isSl_sl _ _) (by first | omega | (simp only [lens]; omega) | (simp only [lens] at *; omega))) ?_
  refine JO_q rfl rfl rfl (OpV.load rfl rfl sh4 (i := 1) rfl (reads_sl _ _ _ false (by first | omega | (simp only [lens]; omega) | (simp only [lens] at *; omega))) rfl) ?_
  refine JO_q rfl rfl rfl (OpV.not rfl rfl) ?_
  refine JO_q rfl rfl rfl (OpV.assign rfl rfl) ?_
  refine JO_nil ?_
  have hq : rr = (!(cap0.getD (m : Int).toNat false)) := hrr.symm.trans (by simp only [cone_Closed_1, cs4])
  replace hrr := hrr.trans hq
  subst rr
  refine JK_return (()) rfl (.tmp rfl .nil) rfl trivial (Ent.take (is := []) rfl)
end Go.SL.G
