/- Part 4 of the walks: mirrors, plain laws and walks used by the last text of this claim. -/
import Derived.Test.YthmmndibliekcaaW3
import Derived.Test.YthmmndibliekcaaProg
set_option linter.unusedVariables false
set_option linter.unusedSimpArgs false
namespace Go.SL.G
open Go Go.SL Go.Proofs
set_option maxHeartbeats 20000000 in
set_option maxRecDepth 100000 in
/- flowquery/cone.Of -/
theorem fn14 (s : GSystem) (sa1 : Option Addr) (sk1 : Nat) (sa2 : Option Addr) (sk2 : Nat) (sa3 : Option Addr) (sk3 : Nat) (root : Int) (leaves : List Int) (leavesa0 : Option Addr) (leavesk0 : Nat) (hs_0 : i64ok s.Width) (hroot_0 : i64ok root) (rr : List Int × Int × Int) (hrr : cone_Of s root leaves = rr) :
    FT Try.prog 14 #[.agg #[.int .i64 s.Width, .slice sa1 s.Deps.length sk1, .slice sa2 s.Transfers.length sk2, .slice sa3 s.Boundary.length sk3], .int .i64 root, .slice leavesa0 leaves.length leavesk0] [sl (.slice sa1 s.Deps.length sk1) (s.Deps : List (List Int)), sl (.slice sa2 s.Transfers.length sk2) (s.Transfers : List GTransfer), sl (.slice sa3 s.Boundary.length sk3) (s.Boundary : List GSet), sl (.slice leavesa0 leaves.length leavesk0) (leaves : List Int)]
      (fun g : Value => i64ok rr.2.1 ∧ i64ok rr.2.2)
      (fun g => .tuple #[g, .int .i64 rr.2.1, .int .i64 rr.2.2])
      (fun g => [sl (g) (rr.1 : List Int)]) := by
  refine FT_intro (args := [.agg #[.int .i64 s.Width, .slice sa1 s.Deps.length sk1, .slice sa2 s.Transfers.length sk2, .slice sa3 s.Boundary.length sk3], .int .i64 root, .slice leavesa0 leaves.length leavesk0]) Try.func14 rfl rfl ?_
  intro w0 M0 F0
  have hs_0 : -9223372036854775808 ≤ s.Width ∧ s.Width ≤ 9223372036854775807 := hs_0
  have hroot_0 : -9223372036854775808 ≤ root ∧ root ≤ 9223372036854775807 := hroot_0
  refine JJ_fact 0 rfl sl_bytes ?_
  intro hl1
  have hl1 : s.Deps.length * 24 ≤ 140737488355328 := hl1
  refine JJ_fact 1 rfl sl_bytes ?_
  intro hl2
  have hl2 : s.Transfers.length * 88 ≤ 140737488355328 := hl2
  refine JJ_fact 2 rfl sl_bytes ?_
  intro hl3
  have hl3 : s.Boundary.length * 32 ≤ 140737488355328 := hl3
  refine JJ_fact 3 rfl sl_bytes ?_
  intro hl4
  have hl4 : leaves.length * 8 ≤ 140737488355328 := hl4
  refine JJ_fact 3 rfl sl_ok ?_
  intro ho5
  refine JK_seq ?_
  refine JK_region ?_
  refine JO_act rfl rfl rfl (OpA.box rfl rfl) ?_
  intro p6
  refine JO_q rfl rfl rfl (OpV.assign rfl rfl) ?_
  refine JO_q rfl rfl rfl (OpV.assign rfl rfl) ?_
  refine JO_q rfl rfl rfl (OpV.assign rfl rfl) ?_
  refine JO_nil ?_
  refine JK_seq ?_
  refine JK_block ?_
  refine JK_seq ?_
  refine JK_region ?_
  refine JO_q rfl rfl rfl (OpV.loadA rfl rfl sh27 (i := 0) rfl (reads_pv _ _) rfl) ?_
  refine letv (equations_Valid s) fun rv7 hg8 => ?_
  have hc9 := fn30 s sa1 sk1 sa2 sk2 sa3 sk3 (by (try dsimp only) <;> first | (unfold i64ok; omega) | omega | assumption) rv7 hg8
  refine JO_call [1, 2, 3] rfl rfl rfl (OpC.fn rfl ca30 rfl) (hc9) rfl ?_
  rintro - -
  refine JO_q rfl rfl rfl (OpV.not rfl rfl) ?_
  refine JO_q rfl rfl rfl (OpV.assign rfl rfl) ?_
  refine JO_nil ?_
  refine JK_cond (b := (!rv7)) rfl (fun (h10 : (!rv7) = true) => ?_) (fun (h10 : (!rv7) = false) => ?_)
  · skip
    have h12 : rv7 = false := not_true h10
    refine JK_seq ?_
    refine JK_region ?_
    refine JO_q rfl rfl rfl (OpV.assign rfl rfl) ?_
    refine JO_q rfl rfl rfl (OpV.assign rfl rfl) ?_
    refine JO_q rfl rfl rfl (OpV.assign rfl rfl) ?_
    refine JO_nil ?_
    refine JJ_loc [] rfl (Ent.slNil (α := Int)) ?_
    have hq : rr = ([], 0, 1) := hrr.symm.trans (by simp only [cone_Of, h10, h12, hg8, cond_true, cond_false, Bool.not_true, Bool.not_false])
    replace hrr := hrr.trans hq
    subst rr
    refine JK_return (.slice none 0 0) rfl (.tmp rfl (.tmp rfl (.tmp rfl .nil))) rfl (by refine ⟨?_, ?_⟩ <;> (try dsimp only) <;> first | omega | (unfold i64ok; omega) | (simp only [List.length_set, List.length_append, List.length_cons, List.length_nil, List.length_replicate, List.length_take, List.length_drop]; omega) | assumption | trivial) (Ent.take (is := [0]) rfl)
  · skip
    have h15 : rv7 = true := not_false h10
    try have hrt := (unknowns_iff s [root]).1 (by simp only [h10, h15, hg8]) root (by simp)
    refine JK_seq ?_
    refine JK_region ?_
    refine JO_q rfl rfl rfl (OpV.loadA rfl rfl sh27 (i := 0) rfl (reads_pv _ _) rfl) ?_
    refine JO_q rfl rfl rfl (OpV.move rfl rfl) ?_
    refine JO_act rfl rfl rfl (OpA.buildSliceV [.int .i64 root] [.int .i64 root] rfl sl22 sz22 rfl (Env.evp_map rfl) rfl rfl rfl rfl) ?_
    intro c17
    refine JJ_slice 0 rfl Cr_slice ?_
    rintro a18 k19 rfl
    refine JJ_loc [0] rfl (Ent.crInt _ [root] _ _ rfl rfl (by intro x hx; rw [List.mem_singleton] at hx; subst hx; unfold i64ok; omega) (Nat.le_of_ble_eq_true rfl)) ?_
    refine letv (cone_unknowns s [root]) fun rv20 hg21 => ?_
    refine JO_call [0, 1, 2, 3] rfl rfl rfl (OpC.fn rfl ca31 rfl) (FT_borrow (A := _) (fun _ _ h => by cases h) (FT_ent (Ent.take (is := [1, 2, 3, 0]) rfl) (fn31 s sa1 sk1 sa2 sk2 sa3 sk3 ([root]) a18 k19 (by (try dsimp only) <;> first | (unfold i64ok; omega) | omega | assumption) rv20 hg21))) rfl ?_
    rintro - -
    refine JO_q rfl rfl rfl (OpV.not rfl rfl) ?_
    refine JO_q rfl rfl rfl (OpV.move rfl rfl) ?_
    refine JJ_split 25 rfl (fun (h22 : (!rv20) = true) => ?_) (fun (h22 : (!rv20) = false) => ?_)
    · skip
      have h24 : rv20 = false := not_true h22
      refine JO_skip rfl rfl rfl rfl rfl rfl ?_
      refine JO_skip rfl rfl rfl rfl rfl rfl ?_
      refine JO_skip rfl rfl rfl rfl rfl rfl ?_
      refine JO_skip rfl rfl rfl rfl rfl rfl ?_
      refine JO_q rfl rfl rfl (OpV.pickT rfl rfl rfl) ?_
      refine JO_q rfl rfl rfl (OpV.assign rfl rfl) ?_
      refine JO_nil ?_
      refine JK_condT rfl ?_
      refine JK_seq ?_
      refine JK_region ?_
      refine JO_q rfl rfl rfl (OpV.assign rfl rfl) ?_
      refine JO_q rfl rfl rfl (OpV.assign rfl rfl) ?_
      refine JO_q rfl rfl rfl (OpV.assign rfl rfl) ?_
      refine JO_nil ?_
      refine JJ_loc [] rfl (Ent.slNil (α := Int)) ?_
      have hq : rr = ([], 0, 9) := hrr.symm.trans (by simp only [cone_Of, h10, h15, h22, h24, hg8, hg21, cond_true, cond_false, Bool.not_true, Bool.not_false])
      replace hrr := hrr.trans hq
      subst rr
      refine JK_return (.slice none 0 0) rfl (.tmp rfl (.tmp rfl (.tmp rfl .nil))) rfl (by refine ⟨?_, ?_⟩ <;> (try dsimp only) <;> first | omega | (unfold i64ok; omega) | (simp only [List.length_set, List.length_append, List.length_cons, List.length_nil, List.length_replicate, List.length_take, List.length_drop]; omega) | assumption | trivial) (Ent.take (is := [0]) rfl)
    · skip
      have h27 : rv20 = true := not_false h22
      try have hrt := (unknowns_iff s [root]).1 (by simp only [h10, h15, h22, h27, hg8, hg21]) root (by simp)
      refine JO_taken rfl rfl rfl rfl ?_
      refine JO_q rfl rfl rfl (OpV.loadA rfl rfl sh27 (i := 1) rfl (reads_pv _ _) rfl) ?_
      refine JO_taken rfl rfl rfl rfl ?_
      refine JO_q rfl rfl rfl (OpV.move rfl rfl) ?_
      refine JO_taken rfl rfl rfl rfl ?_
      refine letv (cone_unknowns s leaves) fun rv29 hg30 => ?_
      have hc31 := fn31 s sa1 sk1 sa2 sk2 sa3 sk3 leaves leavesa0 leavesk0 (by (try dsimp only) <;> first | (unfold i64ok; omega) | omega | assumption) rv29 hg30
      refine JO_call [2, 3, 4, 5] rfl rfl rfl (OpC.fn rfl ca31 rfl) (hc31) rfl ?_
      rintro - -
      refine JO_taken rfl rfl rfl rfl ?_
      refine JO_q rfl rfl rfl (OpV.not rfl rfl) ?_
      refine JO_q rfl rfl rfl (OpV.pickF rfl rfl rfl) ?_
      refine JO_q rfl rfl rfl (OpV.assign rfl rfl) ?_
      refine JO_nil ?_
      refine JK_cond (b := (!rv29)) rfl (fun (h32 : (!rv29) = true) => ?_) (fun (h32 : (!rv29) = false) => ?_)
      · skip
        have h34 : rv29 = false := not_true h32
        refine JK_seq ?_
        refine JK_region ?_
        refine JO_q rfl rfl rfl (OpV.assign rfl rfl) ?_
        refine JO_q rfl rfl rfl (OpV.assign rfl rfl) ?_
        refine JO_q rfl rfl rfl (OpV.assign rfl rfl) ?_
        refine JO_nil ?_
        refine JJ_loc [] rfl (Ent.slNil (α := Int)) ?_
        have hq : rr = ([], 0, 9) := hrr.symm.trans (by simp only [cone_Of, h10, h15, h22, h27, h32, h34, hg8, hg21, hg30, cond_true, cond_false, Bool.not_true, Bool.not_false])
        replace hrr := hrr.trans hq
        subst rr
        refine JK_return (.slice none 0 0) rfl (.tmp rfl (.tmp rfl (.tmp rfl .nil))) rfl (by refine ⟨?_, ?_⟩ <;> (try dsimp only) <;> first | omega | (unfold i64ok; omega) | (simp only [List.length_set, List.length_append, List.length_cons, List.length_nil, List.length_replicate, List.length_take, List.length_drop]; omega) | assumption | trivial) (Ent.take (is := [0]) rfl)
      · skip
        have h37 : rv29 = true := not_false h32
        try have hrt := (unknowns_iff s [root]).1 (by simp only [h10, h15, h22, h27, h32, h37, hg8, hg21, hg30]) root (by simp)
        refine JK_skip ?_
        refine JK_blk ?_
        refine JK_seq ?_
        refine JK_region ?_
        refine JO_q rfl rfl rfl (OpV.move rfl rfl) ?_
        refine JO_act rfl rfl rfl (OpA.buildSliceV [.int .i64 root] [.int .i64 root] rfl sl22 sz22 rfl (Env.evp_map rfl) rfl rfl rfl rfl) ?_
        intro c39
        refine JJ_slice 0 rfl Cr_slice ?_
        rintro a40 k41 rfl
        refine JO_q rfl rfl rfl (OpV.assign rfl rfl) ?_
        refine JO_nil ?_
        refine JK_seq ?_
        refine JK_region ?_
        refine JO_q rfl rfl rfl (OpV.fieldAddr rfl rfl fo27_1 (i := 2) rfl (isPtr_pv _ _)) ?_
        refine JO_q rfl rfl rfl (OpV.loadF rfl rfl sh23 (i := 2) rfl (reads_pv _ _) rfl) ?_
        refine JO_q rfl rfl rfl (OpV.len rfl rfl sl23) ?_
        refine JO_act rfl rfl rfl (OpA.makeSlice (α := Bool) false rfl rfl rfl sl62 sz62 rfl rfl (by omega) (by omega) (fun _ _ => rfl)) ?_
        intro c42
        refine JJ_slice 0 rfl os_slice ?_
        rintro a43 k44 rfl
        refine JJ_fact 0 rfl os_bytes ?_
        intro hl45
        have hl45 : (List.replicate (((s.Deps.length : Nat) : Int) : Int).toNat false).length * 1 ≤ 140737488355328 := hl45
        have hn46 : ((List.replicate (((s.Deps.length : Nat) : Int) : Int).toNat false) : List Bool).length = (((s.Deps.length : Nat) : Int) : Int).toNat := List.length_replicate
        refine JO_q rfl rfl rfl (OpV.assign rfl rfl) ?_
        refine JO_nil ?_
        refine JK_seq ?_
        refine JK_region ?_
        refine JO_q rfl rfl rfl (OpV.move rfl rfl) ?_
        refine JO_q rfl rfl rfl (OpV.move rfl rfl) ?_
        refine JO_q rfl rfl rfl (OpV.indexAddr (m := 0) rfl rfl rfl sl62 rfl (isSl_os _ _) (by first | omega | (simp only [List.length_set, List.length_append, List.length_cons, List.length_nil, List.length_replicate, List.length_take, List.length_drop]; omega) | (simp only [List.length_set, List.length_append, List.length_cons, List.length_nil, List.length_replicate, List.length_take, List.length_drop] at *; omega))) ?_
        refine JO_store rfl rfl (OpS.frame [0] rfl (OpS.storeOsB rfl rfl rfl sh4 (by first | omega | (simp only [List.length_set, List.length_append, List.length_cons, List.length_nil, List.length_replicate, List.length_take, List.length_drop]; omega) | (simp only [List.length_set, List.length_append, List.length_cons, List.length_nil, List.length_replicate, List.length_take, List.length_drop] at *; omega)))) ?_
        refine JO_nil ?_
        refine JK_seq ?_
        refine JK_region ?_
        refine JO_q rfl rfl rfl (OpV.assign rfl rfl) ?_
        refine JO_nil ?_
        refine JK_seq ?_
        refine JK_seq ?_
        refine JK_region ?_
        refine JO_q rfl rfl rfl (OpV.assign rfl rfl) ?_
        refine JO_nil ?_
        refine JK_block ?_
        refine JJ_loc [1] rfl (Ent.crInt _ [root] _ _ rfl rfl (by intro x hx; rw [List.mem_singleton] at hx; subst hx; unfold i64ok; omega) (Nat.le_of_ble_eq_true rfl)) ?_
        refine JJ_fact 0 rfl os_bytes ?_
        intro hl47
        have hl47 : [root].length * 8 ≤ 140737488355328 := hl47
        refine JJ_fact 0 rfl os_ok ?_
        intro ho48
        have hterm62 : cone_Of_L0 s leaves (s.Deps.length + 1) [root] ((List.replicate (((s.Deps.length : Nat) : Int) : Int).toNat false).set (root : Int).toNat true) 0 0 ≠ LR.oof := (of_term (by simp only [h10, h15, h22, h27, h32, h37, hg8, hg21, hg30]) (by simp only [h10, h15, h22, h27, h32, h37, hg8, hg21, hg30]))
        refine JK_loop (γ := Nat × List Int × List Bool × Int × Int × Option Addr × Nat) (fun (r49, out_50, found_51, cost_52, i_53, a54, k55) => [(2, .slice leavesa0 leaves.length leavesk0), (3, p6), (9, .slice a54 out_50.length k55), (10, .slice a43 ((List.replicate (((s.Deps.length : Nat) : Int) : Int).toNat false).length) k44), (11, .int .i64 cost_52), (12, .int .i64 i_53)]) (fun (r49, out_50, found_51, cost_52, i_53, a54, k55) => [os (.slice a54 out_50.length k55) (out_50 : List Int), os (.slice a43 ((List.replicate (((s.Deps.length : Nat) : Int) : Int).toNat false).length) k44) (found_51 : List Bool), pv p6 [.int .i64 s.Width, .slice sa1 s.Deps.length sk1, .slice sa2 s.Transfers.length sk2, .slice sa3 s.Boundary.length sk3], sl (.slice sa1 s.Deps.length sk1) (s.Deps : List (List Int)), sl (.slice sa2 s.Transfers.length sk2) (s.Transfers : List GTransfer), sl (.slice sa3 s.Boundary.length sk3) (s.Boundary : List GSet), sl (.slice leavesa0 leaves.length leavesk0) (leaves : List Int)]) (fun (r49, out_50, found_51, cost_52, i_53, a54, k55) => cone_Of_L0 s leaves r49 out_50 found_51 cost_52 i_53 = cone_Of_L0 s leaves (s.Deps.length + 1) [root] ((List.replicate (((s.Deps.length : Nat) : Int) : Int).toNat false).set (root : Int).toNat true) 0 0 ∧ (-9223372036854775808 ≤ cost_52 ∧ cost_52 ≤ 9223372036854775807) ∧ (-9223372036854775808 ≤ i_53 ∧ i_53 ≤ 9223372036854775807) ∧ okFound (s.Deps.length : Int) out_50 found_51 ∧ 0 ≤ cost_52 ∧ cost_52 ≤ i_53 * 17592186044417 ∧ i_53 ≤ (out_50.length : Int)) (fun (r49, out_50, found_51, cost_52, i_53, a54, k55) => r49) ((s.Deps.length + 1), [root], ((List.replicate (((s.Deps.length : Nat) : Int) : Int).toNat false).set (root : Int).toNat true), 0, 0, a40, k41) ⟨rfl, (by omega), (by omega), (okFound_one (by simp only [h10, h15, h22, h27, h32, h37, hg8, hg21, hg30])), (by first | omega | (simp only [List.length_set, List.length_append, List.length_cons, List.length_nil, List.length_replicate, List.length_take, List.length_drop]; omega) | simp), (by first | omega | (simp only [List.length_set, List.length_append, List.length_cons, List.length_nil, List.length_replicate, List.length_take, List.length_drop]; omega) | simp)⟩ (Env.sub_all rfl) (Ent.take (is := [0, 0, 1, 2, 3, 4, 5]) rfl) ?_
        rintro ⟨r49, out_50, found_51, cost_52, i_53, a54, k55⟩ ⟨hM56, hk57, hk58, hv59, hv60, hv61⟩
        refine JJ_norm (L := [(2, .slice leavesa0 leaves.length leavesk0), (3, p6), (9, .slice a54 out_50.length k55), (10, .slice a43 ((List.replicate (((s.Deps.length : Nat) : Int) : Int).toNat false).length) k44), (11, .int .i64 cost_52), (12, .int .i64 i_53)]) (A := [os (.slice a54 out_50.length k55) (out_50 : List Int), os (.slice a43 ((List.replicate (((s.Deps.length : Nat) : Int) : Int).toNat false).length) k44) (found_51 : List Bool), pv p6 [.int .i64 s.Width, .slice sa1 s.Deps.length sk1, .slice sa2 s.Transfers.length sk2, .slice sa3 s.Boundary.length sk3], sl (.slice sa1 s.Deps.length sk1) (s.Deps : List (List Int)), sl (.slice sa2 s.Transfers.length sk2) (s.Transfers : List GTransfer), sl (.slice sa3 s.Boundary.length sk3) (s.Boundary : List GSet), sl (.slice leavesa0 leaves.length leavesk0) (leaves : List Int)]) rfl rfl ?_
        refine JJ_fact 0 rfl os_bytes ?_
        intro hl63
        have hl63 : out_50.length * 8 ≤ 140737488355328 := hl63
        refine JJ_fact 0 rfl os_ok ?_
        intro ho64
        refine JJ_fact 1 rfl os_bytes ?_
        intro hl65
        have hl65 : found_51.length * 1 ≤ 140737488355328 := hl65
        refine JJ_fact 1 rfl os_len ?_
        intro hn66
        refine JJ_fact 3 rfl sl_bytes ?_
        intro hl67
        have hl67 : s.Deps.length * 24 ≤ 140737488355328 := hl67
        refine JJ_fact 4 rfl sl_bytes ?_
        intro hl68
        have hl68 : s.Transfers.length * 88 ≤ 140737488355328 := hl68
        refine JJ_fact 5 rfl sl_bytes ?_
        intro hl69
        have hl69 : s.Boundary.length * 32 ≤ 140737488355328 := hl69
        refine JJ_fact 6 rfl sl_bytes ?_
        intro hl70
        have hl70 : leaves.length * 8 ≤ 140737488355328 := hl70
        refine JJ_fact 6 rfl sl_ok ?_
        intro ho71
        rcases r49 with _ | r49
        · exact absurd (hM56.symm.trans rfl) hterm62
        refine JK_seq ?_
        refine JK_seq ?_
        refine JK_region ?_
        refine JO_q rfl rfl rfl (OpV.move rfl rfl) ?_
        refine JO_q rfl rfl rfl (OpV.move rfl rfl) ?_
        refine JO_q rfl rfl rfl (OpV.len rfl rfl sl22) ?_
        refine JO_q rfl rfl rfl (OpV.lss rfl rfl rfl) ?_
        refine JO_nil ?_
        refine JK_cond (b := decide (i_53 < ((out_50.length : Nat) : Int))) rfl (fun (h72 : decide (i_53 < ((out_50.length : Nat) : Int)) = true) => ?_) (fun (h72 : decide (i_53 < ((out_50.length : Nat) : Int)) = false) => ?_)
        · skip
          have g73 : (i_53 < ((out_50.length : Nat) : Int)) := of_decide_eq_true h72
          have hv0 := EValid_deps (s := s) (by simp only [h10, h15, h22, h27, h32, h37, h72, hg8, hg21, hg30])
          have hq1 := okFound_len ‹okFound (s.Deps.length : Int) out_50 _› 
          have hq2 := (‹okFound (s.Deps.length : Int) out_50 _›).1.2 _ (getD_mem (xs := out_50) (i := (i_53 : Int).toNat) (d := 0) (by omega))
          refine JK_skip ?_
          refine JK_seq ?_
          refine JK_block ?_
          refine JK_seq ?_
          refine JK_region ?_
          refine JO_q rfl rfl rfl (OpV.move rfl rfl) ?_
          refine JO_q rfl rfl rfl (OpV.add rfl rfl rfl (by unfold i64ok; omega)) ?_
          refine JO_q rfl rfl rfl (OpV.assign rfl rfl) ?_
          refine JO_nil ?_
          refine JK_seq ?_
          refine JK_seq ?_
          refine JK_region ?_
          refine JO_q rfl rfl rfl (OpV.move rfl rfl) ?_
          refine JO_q rfl rfl rfl (OpV.move rfl rfl) ?_
          refine JO_q rfl rfl rfl (OpV.move rfl rfl) ?_
          refine JO_q rfl rfl rfl (OpV.indexAddr (m := 0) rfl rfl rfl sl22 rfl (isSl_os _ _) (by first | omega | (simp only [List.length_set, List.length_append, List.length_cons, List.length_nil, List.length_replicate, List.length_take, List.length_drop]; omega) | (simp only [List.length_set, List.length_append, List.length_cons, List.length_nil, List.length_replicate, List.length_take, List.length_drop] at *; omega))) ?_
          have hb74 : -9223372036854775808 ≤ (out_50.getD (i_53 : Int).toNat 0) ∧ (out_50.getD (i_53 : Int).toNat 0) ≤ 9223372036854775807 := getD_ok ho64 (by first | omega | (simp only [List.length_set, List.length_append, List.length_cons, List.length_nil, List.length_replicate, List.length_take, List.length_drop]; omega) | (simp only [List.length_set, List.length_append, List.length_cons, List.length_nil, List.length_replicate, List.length_take, List.length_drop] at *; omega))
          refine JO_q rfl rfl rfl (OpV.load rfl rfl sh3 (i := 0) rfl (reads_os _ _ _ 0 (by first | omega | (simp only [List.length_set, List.length_append, List.length_cons, List.length_nil, List.length_replicate, List.length_take, List.length_drop]; omega) | (simp only [List.length_set, List.length_append, List.length_cons, List.length_nil, List.length_replicate, List.length_take, List.length_drop] at *; omega))) rfl) ?_
          refine letv (slices_Contains_int leaves (out_50.getD (i_53 : Int).toNat 0)) fun rv75 hg76 => ?_
          have hc77 := fn32 leaves leavesa0 leavesk0 ((out_50.getD (i_53 : Int).toNat 0)) (by (try dsimp only) <;> first | (unfold i64ok; omega) | omega | assumption) rv75 hg76
          refine JO_call [6] rfl rfl rfl (OpC.fn rfl ca32 rfl) (hc77) rfl ?_
          rintro - -
          refine JO_nil ?_
          refine JK_cond (b := rv75) rfl (fun (h78 : rv75 = true) => ?_) (fun (h78 : rv75 = false) => ?_)
          · skip
            try have hrt := (unknowns_iff s [root]).1 (by simp only [h10, h15, h22, h27, h32, h37, h72, h78, hg8, hg21, hg30, hg76]) root (by simp)
            refine JK_exit rfl ?_
            refine JK_region ?_
            refine JO_q rfl rfl rfl (OpV.move rfl rfl) ?_
            refine JO_q rfl rfl rfl (OpV.add rfl rfl rfl (by unfold i64ok; omega)) ?_
            refine JO_q rfl rfl rfl (OpV.assign rfl rfl) ?_
            refine JO_nil ?_
            refine JK_goal (r49, out_50, found_51, (cost_52 + 1), (i_53 + 1), a54, k55) ⟨(by rw [← hM56]; simp only [cone_Of_L0, h10, h15, h22, h27, h32, h37, h72, h78, hg8, hg21, hg30, hg76, cond_true, cond_false, Bool.not_true, Bool.not_false]), (by omega), (by omega), (by assumption), (by first | omega | (simp only [List.length_set, List.length_append, List.length_cons, List.length_nil, List.length_replicate, List.length_take, List.length_drop]; omega) | assumption), (by first | omega | (simp only [List.length_set, List.length_append, List.length_cons, List.length_nil, List.length_replicate, List.length_take, List.length_drop]; omega) | assumption)⟩ (by show r49 < r49 + 1; omega) (Env.sub_all rfl) (Ent.take (is := [0, 0, 0, 1, 2, 3, 4]) rfl)
          · skip
            refine JK_skip ?_
            refine JK_seq ?_
            refine JJ_peekL ((out_50.getD (i_53 : Int).toNat 0) : Int).toNat 3 rfl (by omega) ?_
            intro a82 k83
            refine JJ_fact 1 rfl sl_bytes ?_
            intro hl84
            have hl84 : (s.Deps.getD ((out_50.getD (i_53 : Int).toNat 0) : Int).toNat []).length * 8 ≤ 140737488355328 := hl84
            refine JJ_fact 1 rfl sl_ok ?_
            intro ho85
            have hb86 : -9223372036854775808 ≤ (out_50.getD (i_53 : Int).toNat 0) ∧ (out_50.getD (i_53 : Int).toNat 0) ≤ 9223372036854775807 := getD_ok ho64 (by first | omega | (simp only [List.length_set, List.length_append, List.length_cons, List.length_nil, List.length_replicate, List.length_take, List.length_drop]; omega) | (simp only [List.length_set, List.length_append, List.length_cons, List.length_nil, List.length_replicate, List.length_take, List.length_drop] at *; omega))
            refine JK_drawQ [0, 1, 0, 0, 12, 28, 63, 127, 255, 0] fmix ?_
            refine JQ_v [4] (qn rfl) rfl rfl (OpV.fieldAddr rfl rfl fo27_1 (i := 0) rfl (isPtr_pv _ _)) ?_
            refine JQ_v [4] (qn rfl) rfl rfl (OpV.loadF rfl rfl sh23 (i := 0) rfl (reads_pv _ _) rfl) ?_
            refine JQ_v [] (qn rfl) rfl rfl (OpV.move rfl rfl) ?_
            refine JQ_v [] (qn rfl) rfl rfl (OpV.move rfl rfl) ?_
            refine JQ_v [2] (qn rfl) rfl rfl (OpV.indexAddr (m := 0) rfl rfl rfl sl22 rfl (isSl_os _ _) (by first | omega | (simp only [List.length_set, List.length_append, List.length_cons, List.length_nil, List.length_replicate, List.length_take, List.length_drop]; omega) | (simp only [List.length_set, List.length_append, List.length_cons, List.length_nil, List.length_replicate, List.length_take, List.length_drop] at *; omega))) ?_
            refine JQ_v [2] (qn rfl) rfl rfl (OpV.load rfl rfl sh3 (i := 0) rfl (reads_os _ _ _ 0 (by first | omega | (simp only [List.length_set, List.length_append, List.length_cons, List.length_nil, List.length_replicate, List.length_take, List.length_drop]; omega) | (simp only [List.length_set, List.length_append, List.length_cons, List.length_nil, List.length_replicate, List.length_take, List.length_drop] at *; omega))) rfl) ?_
            refine JQ_v [5] (qn rfl) rfl rfl (OpV.indexAddr (m := 0) rfl rfl rfl sl23 rfl (isSl_sl _ _) (by first | omega | (simp only [List.length_set, List.length_append, List.length_cons, List.length_nil, List.length_replicate, List.length_take, List.length_drop]; omega) | (simp only [List.length_set, List.length_append, List.length_cons, List.length_nil, List.length_replicate, List.length_take, List.length_drop] at *; omega))) ?_
            refine JQ_v [0] (qn rfl) rfl rfl (OpV.load rfl rfl sh22 (i := 0) rfl (reads_pv _ _) rfl) ?_
            refine JQ_v [] (qn rfl) rfl rfl (OpV.len rfl rfl sl22) ?_
            refine JQ_v [] (qn rfl) rfl rfl (OpV.move rfl rfl) ?_
            refine JQ_nil ⟨by kernel_rfl, ?_⟩
            refine JK_block ?_
            refine JK_loop (γ := Nat × List Int × List Bool × Int × Int × Option Addr × Nat) (fun (r87, out_88, found_89, cost_90, v63_91, a92, k93) => [(2, .slice leavesa0 leaves.length leavesk0), (3, p6), (9, .slice a92 out_88.length k93), (10, .slice a43 ((List.replicate (((s.Deps.length : Nat) : Int) : Int).toNat false).length) k44), (12, .int .i64 i_53), (11, .int .i64 cost_90), (61, .slice a82 ((s.Deps.getD ((out_50.getD (i_53 : Int).toNat 0) : Int).toNat []).length) k83), (62, .int .i64 (((s.Deps.getD ((out_50.getD (i_53 : Int).toNat 0) : Int).toNat []).length : Nat) : Int)), (63, .int .i64 v63_91)]) (fun (r87, out_88, found_89, cost_90, v63_91, a92, k93) => [os (.slice a92 out_88.length k93) (out_88 : List Int), sl (.slice a82 ((s.Deps.getD ((out_50.getD (i_53 : Int).toNat 0) : Int).toNat []).length) k83) ((s.Deps.getD ((out_50.getD (i_53 : Int).toNat 0) : Int).toNat []) : List Int), os (.slice a43 ((List.replicate (((s.Deps.length : Nat) : Int) : Int).toNat false).length) k44) (found_89 : List Bool), pv p6 [.int .i64 s.Width, .slice sa1 s.Deps.length sk1, .slice sa2 s.Transfers.length sk2, .slice sa3 s.Boundary.length sk3], sl (.slice sa1 s.Deps.length sk1) (s.Deps : List (List Int)), sl (.slice sa2 s.Transfers.length sk2) (s.Transfers : List GTransfer), sl (.slice sa3 s.Boundary.length sk3) (s.Boundary : List GSet), sl (.slice leavesa0 leaves.length leavesk0) (leaves : List Int)]) (fun (r87, out_88, found_89, cost_90, v63_91, a92, k93) => cone_Of_L1 (s.Deps.getD ((out_50.getD (i_53 : Int).toNat 0) : Int).toNat []) r87 out_88 found_89 cost_90 v63_91 = cone_Of_L1 (s.Deps.getD ((out_50.getD (i_53 : Int).toNat 0) : Int).toNat []) ((((((s.Deps.getD ((out_50.getD (i_53 : Int).toNat 0) : Int).toNat []).length : Nat) : Int) : Int) - 0).toNat) out_50 found_51 (cost_52 + 1) 0 ∧ r87 = (((((s.Deps.getD ((out_50.getD (i_53 : Int).toNat 0) : Int).toNat []).length : Nat) : Int) : Int) - v63_91).toNat ∧ (0 : Int) ≤ v63_91 ∧ (v63_91 ≤ (((s.Deps.getD ((out_50.getD (i_53 : Int).toNat 0) : Int).toNat []).length : Nat) : Int) ∨ v63_91 = 0) ∧ (-9223372036854775808 ≤ cost_90 ∧ cost_90 ≤ 9223372036854775807) ∧ (-9223372036854775808 ≤ v63_91 ∧ v63_91 ≤ 9223372036854775807) ∧ okFound (s.Deps.length : Int) out_88 found_89 ∧ i_53 + 1 ≤ (out_88.length : Int) ∧ 0 ≤ cost_90 ∧ cost_90 ≤ i_53 * 17592186044417 + 1 + v63_91) (fun (r87, out_88, found_89, cost_90, v63_91, a92, k93) => r87) ((((((s.Deps.getD ((out_50.getD (i_53 : Int).toNat 0) : Int).toNat []).length : Nat) : Int) : Int) - 0).toNat, out_50, found_51, (cost_52 + 1), 0, a54, k55) ⟨rfl, rfl, (by omega), (.inr rfl), (by omega), (by omega), (by assumption), (by first | omega | (simp only [List.length_set, List.length_append, List.length_cons, List.length_nil, List.length_replicate, List.length_take, List.length_drop]; omega) | simp), (by first | omega | (simp only [List.length_set, List.length_append, List.length_cons, List.length_nil, List.length_replicate, List.length_take, List.length_drop]; omega) | simp)⟩ (Env.sub_all rfl) (Ent.take (is := [2, 1, 2, 2, 3, 4, 5, 6]) rfl) ?_
            rintro ⟨r87, out_88, found_89, cost_90, v63_91, a92, k93⟩ ⟨hM94, hr95, hi96, hi97, hk98, hk99, hv100, hv101, hv102⟩
            refine JJ_norm (L := [(2, .slice leavesa0 leaves.length leavesk0), (3, p6), (9, .slice a92 out_88.length k93), (10, .slice a43 ((List.replicate (((s.Deps.length : Nat) : Int) : Int).toNat false).length) k44), (12, .int .i64 i_53), (11, .int .i64 cost_90), (61, .slice a82 ((s.Deps.getD ((out_50.getD (i_53 : Int).toNat 0) : Int).toNat []).length) k83), (62, .int .i64 (((s.Deps.getD ((out_50.getD (i_53 : Int).toNat 0) : Int).toNat []).length : Nat) : Int)), (63, .int .i64 v63_91)]) (A := [os (.slice a92 out_88.length k93) (out_88 : List Int), sl (.slice a82 ((s.Deps.getD ((out_50.getD (i_53 : Int).toNat 0) : Int).toNat []).length) k83) ((s.Deps.getD ((out_50.getD (i_53 : Int).toNat 0) : Int).toNat []) : List Int), os (.slice a43 ((List.replicate (((s.Deps.length : Nat) : Int) : Int).toNat false).length) k44) (found_89 : List Bool), pv p6 [.int .i64 s.Width, .slice sa1 s.Deps.length sk1, .slice sa2 s.Transfers.length sk2, .slice sa3 s.Boundary.length sk3], sl (.slice sa1 s.Deps.length sk1) (s.Deps : List (List Int)), sl (.slice sa2 s.Transfers.length sk2) (s.Transfers : List GTransfer), sl (.slice sa3 s.Boundary.length sk3) (s.Boundary : List GSet), sl (.slice leavesa0 leaves.length leavesk0) (leaves : List Int)]) rfl rfl ?_
            refine JJ_fact 0 rfl os_bytes ?_
            intro hl103
            have hl103 : out_88.length * 8 ≤ 140737488355328 := hl103
            refine JJ_fact 0 rfl os_ok ?_
            intro ho104
            refine JJ_fact 1 rfl sl_bytes ?_
            intro hl105
            have hl105 : (s.Deps.getD ((out_50.getD (i_53 : Int).toNat 0) : Int).toNat []).length * 8 ≤ 140737488355328 := hl105
            refine JJ_fact 1 rfl sl_ok ?_
            intro ho106
            refine JJ_fact 2 rfl os_bytes ?_
            intro hl107
            have hl107 : found_89.length * 1 ≤ 140737488355328 := hl107
            refine JJ_fact 2 rfl os_len ?_
            intro hn108
            refine JJ_fact 4 rfl sl_bytes ?_
            intro hl109
            have hl109 : s.Deps.length * 24 ≤ 140737488355328 := hl109
            refine JJ_fact 5 rfl sl_bytes ?_
            intro hl110
            have hl110 : s.Transfers.length * 88 ≤ 140737488355328 := hl110
            refine JJ_fact 6 rfl sl_bytes ?_
            intro hl111
            have hl111 : s.Boundary.length * 32 ≤ 140737488355328 := hl111
            refine JJ_fact 7 rfl sl_bytes ?_
            intro hl112
            have hl112 : leaves.length * 8 ≤ 140737488355328 := hl112
            refine JJ_fact 7 rfl sl_ok ?_
            intro ho113
            refine JK_seq ?_
            refine JK_region ?_
            refine JO_q rfl rfl rfl (OpV.lss rfl rfl rfl) ?_
            refine JO_nil ?_
            refine JK_seq ?_
            refine JK_cond (b := decide (v63_91 < (((s.Deps.getD ((out_50.getD (i_53 : Int).toNat 0) : Int).toNat []).length : Nat) : Int))) rfl (fun (h114 : decide (v63_91 < (((s.Deps.getD ((out_50.getD (i_53 : Int).toNat 0) : Int).toNat []).length : Nat) : Int)) = true) => ?_) (fun (h114 : decide (v63_91 < (((s.Deps.getD ((out_50.getD (i_53 : Int).toNat 0) : Int).toNat []).length : Nat) : Int)) = false) => ?_)
            · skip
              have g115 : (v63_91 < (((s.Deps.getD ((out_50.getD (i_53 : Int).toNat 0) : Int).toNat []).length : Nat) : Int)) := of_decide_eq_true h114
              have hq4 := okFound_len ‹okFound (s.Deps.length : Int) _ _›
              have hq3 := EValid_dep_mem (s := s) (by simp only [h10, h15, h22, h27, h32, h37, h72, h78, h114, hg8, hg21, hg30, hg76]) (j := ((out_50.getD (i_53 : Int).toNat 0) : Int)) (by omega) (by omega) _ (getD_mem (xs := s.Deps.getD ((out_50.getD (i_53 : Int).toNat 0) : Int).toNat []) (i := (v63_91 : Int).toNat) (d := 0) (by omega))
              obtain ⟨r116, rfl⟩ : ∃ q, r87 = q + 1 := ⟨r87 - 1, by omega⟩
              refine JK_skip ?_
              refine JK_seq ?_
              refine JK_block ?_
              refine JK_seq ?_
              refine JK_region ?_
              refine JO_q rfl rfl rfl (OpV.indexAddr (m := 1) rfl rfl rfl sl22 rfl (isSl_sl _ _) (by first | omega | (simp only [List.length_set, List.length_append, List.length_cons, List.length_nil, List.length_replicate, List.length_take, List.length_drop]; omega) | (simp only [List.length_set, List.length_append, List.length_cons, List.length_nil, List.length_replicate, List.length_take, List.length_drop] at *; omega))) ?_
              have hb117 : -9223372036854775808 ≤ ((s.Deps.getD ((out_50.getD (i_53 : Int).toNat 0) : Int).toNat []).getD (v63_91 : Int).toNat 0) ∧ ((s.Deps.getD ((out_50.getD (i_53 : Int).toNat 0) : Int).toNat []).getD (v63_91 : Int).toNat 0) ≤ 9223372036854775807 := getD_ok ho106 (by first | omega | (simp only [List.length_set, List.length_append, List.length_cons, List.length_nil, List.length_replicate, List.length_take, List.length_drop]; omega) | (simp only [List.length_set, List.length_append, List.length_cons, List.length_nil, List.length_replicate, List.length_take, List.length_drop] at *; omega))
              refine JO_q rfl rfl rfl (OpV.load rfl rfl sh3 (i := 1) rfl (reads_sl _ _ _ 0 (by first | omega | (simp only [List.length_set, List.length_append, List.length_cons, List.length_nil, List.length_replicate, List.length_take, List.length_drop]; omega) | (simp only [List.length_set, List.length_append, List.length_cons, List.length_nil, List.length_replicate, List.length_take, List.length_drop] at *; omega))) rfl) ?_
              refine JO_q rfl rfl rfl (OpV.assign rfl rfl) ?_
              refine JO_nil ?_
              refine JK_seq ?_
              refine JK_region ?_
              refine JO_q rfl rfl rfl (OpV.move rfl rfl) ?_
              refine JO_q rfl rfl rfl (OpV.add rfl rfl rfl (by unfold i64ok; omega)) ?_
              refine JO_q rfl rfl rfl (OpV.assign rfl rfl) ?_
              refine JO_nil ?_
              refine JK_seq ?_
              refine JK_region ?_
              refine JO_q rfl rfl rfl (OpV.move rfl rfl) ?_
              refine JO_q rfl rfl rfl (OpV.move rfl rfl) ?_
              refine JO_q rfl rfl rfl (OpV.indexAddr (m := 2) rfl rfl rfl sl62 rfl (isSl_os _ _) (by first | omega | (simp only [List.length_set, List.length_append, List.length_cons, List.length_nil, List.length_replicate, List.length_take, List.length_drop]; omega) | (simp only [List.length_set, List.length_append, List.length_cons, List.length_nil, List.length_replicate, List.length_take, List.length_drop] at *; omega))) ?_
              refine JO_q rfl rfl rfl (OpV.load rfl rfl sh4 (i := 2) rfl (reads_os _ _ _ false (by first | omega | (simp only [List.length_set, List.length_append, List.length_cons, List.length_nil, List.length_replicate, List.length_take, List.length_drop]; omega) | (simp only [List.length_set, List.length_append, List.length_cons, List.length_nil, List.length_replicate, List.length_take, List.length_drop] at *; omega))) rfl) ?_
              refine JO_q rfl rfl rfl (OpV.not rfl rfl) ?_
              refine JO_nil ?_
              refine JK_cond (b := (!(found_89.getD (((s.Deps.getD ((out_50.getD (i_53 : Int).toNat 0) : Int).toNat []).getD (v63_91 : Int).toNat 0) : Int).toNat false))) rfl (fun (h118 : (!(found_89.getD (((s.Deps.getD ((out_50.getD (i_53 : Int).toNat 0) : Int).toNat []).getD (v63_91 : Int).toNat 0) : Int).toNat false)) = true) => ?_) (fun (h118 : (!(found_89.getD (((s.Deps.getD ((out_50.getD (i_53 : Int).toNat 0) : Int).toNat []).getD (v63_91 : Int).toNat 0) : Int).toNat false)) = false) => ?_)
              · skip
                have h120 : (found_89.getD (((s.Deps.getD ((out_50.getD (i_53 : Int).toNat 0) : Int).toNat []).getD (v63_91 : Int).toNat 0) : Int).toNat false) = false := not_true h118
                refine JK_seq ?_
                refine JK_region ?_
                refine JO_q rfl rfl rfl (OpV.move rfl rfl) ?_
                refine JO_q rfl rfl rfl (OpV.move rfl rfl) ?_
                refine JO_q rfl rfl rfl (OpV.indexAddr (m := 2) rfl rfl rfl sl62 rfl (isSl_os _ _) (by first | omega | (simp only [List.length_set, List.length_append, List.length_cons, List.length_nil, List.length_replicate, List.length_take, List.length_drop]; omega) | (simp only [List.length_set, List.length_append, List.length_cons, List.length_nil, List.length_replicate, List.length_take, List.length_drop] at *; omega))) ?_
                refine JO_store rfl rfl (OpS.frame [2] rfl (OpS.storeOsB rfl rfl rfl sh4 (by first | omega | (simp only [List.length_set, List.length_append, List.length_cons, List.length_nil, List.length_replicate, List.length_take, List.length_drop]; omega) | (simp only [List.length_set, List.length_append, List.length_cons, List.length_nil, List.length_replicate, List.length_take, List.length_drop] at *; omega)))) ?_
                refine JO_nil ?_
                refine JK_region ?_
                refine JO_q rfl rfl rfl (OpV.move rfl rfl) ?_
                refine JO_q rfl rfl rfl (OpV.move rfl rfl) ?_
                refine JO_act rfl rfl rfl (OpA.buildSliceV [.int .i64 ((s.Deps.getD ((out_50.getD (i_53 : Int).toNat 0) : Int).toNat []).getD (v63_91 : Int).toNat 0)] [.int .i64 ((s.Deps.getD ((out_50.getD (i_53 : Int).toNat 0) : Int).toNat []).getD (v63_91 : Int).toNat 0)] rfl sl22 sz22 rfl (Env.evp_map rfl) rfl rfl rfl rfl) ?_
                intro c122
                refine JJ_slice 0 rfl Cr_slice ?_
                rintro a123 k124 rfl
                refine JJ_loc [0] rfl (Ent.crInt _ [((s.Deps.getD ((out_50.getD (i_53 : Int).toNat 0) : Int).toNat []).getD (v63_91 : Int).toNat 0)] _ _ rfl rfl (by intro x hx; rw [List.mem_singleton] at hx; subst hx; unfold i64ok; omega) (Nat.le_of_ble_eq_true rfl)) ?_
                refine JO_act rfl rfl rfl (OpA.frame [2, 0] rfl (OpA.appO (α := Int) (xs := out_88) (ys := [((s.Deps.getD ((out_50.getD (i_53 : Int).toNat 0) : Int).toNat []).getD (v63_91 : Int).toNat 0)]) rfl rfl rfl sl22 sl22 sz22 rfl rfl rfl (by show (_ + _) * 8 ≤ 140737488355328; first | omega | (simp only [List.length_set, List.length_append, List.length_cons, List.length_nil, List.length_replicate, List.length_take, List.length_drop]; omega) | (simp only [List.length_set, List.length_append, List.length_cons, List.length_nil, List.length_replicate, List.length_take, List.length_drop] at *; omega)))) ?_
                intro c125
                refine JJ_slice 0 rfl os_slice ?_
                rintro a126 k127 rfl
                refine JJ_fact 0 rfl os_bytes ?_
                intro hl128
                have hl128 : (out_88 ++ [((s.Deps.getD ((out_50.getD (i_53 : Int).toNat 0) : Int).toNat []).getD (v63_91 : Int).toNat 0)]).length * 8 ≤ 140737488355328 := hl128
                refine JJ_fact 0 rfl os_ok ?_
                intro ho129
                have hn130 : ((out_88 ++ [((s.Deps.getD ((out_50.getD (i_53 : Int).toNat 0) : Int).toNat []).getD (v63_91 : Int).toNat 0)]) : List Int).length = (out_88 : List Int).length + ([((s.Deps.getD ((out_50.getD (i_53 : Int).toNat 0) : Int).toNat []).getD (v63_91 : Int).toNat 0)] : List Int).length := List.length_append
                refine JO_q rfl rfl rfl (OpV.assign rfl rfl) ?_
                refine JO_nil ?_
                refine JK_blk ?_
                refine JK_region ?_
                refine JO_q rfl rfl rfl (OpV.add rfl rfl rfl (by unfold i64ok; omega)) ?_
                refine JO_q rfl rfl rfl (OpV.move rfl rfl) ?_
                refine JO_nil ?_
                refine JK_goal (r116, (out_88 ++ [((s.Deps.getD ((out_50.getD (i_53 : Int).toNat 0) : Int).toNat []).getD (v63_91 : Int).toNat 0)]), (found_89.set (((s.Deps.getD ((out_50.getD (i_53 : Int).toNat 0) : Int).toNat []).getD (v63_91 : Int).toNat 0) : Int).toNat true), (cost_90 + 1), (v63_91 + 1), a126, k127) ⟨(by rw [← hM94]; simp only [cone_Of_L1, h10, h15, h22, h27, h32, h37, h72, h78, h114, h118, h120, hg8, hg21, hg30, hg76, cond_true, cond_false, Bool.not_true, Bool.not_false]), (by omega), (by omega), (by omega), (by omega), (by omega), (by first | assumption | exact okFound_push (by assumption) (by simp only [h10, h15, h22, h27, h32, h37, h72, h78, h114, h118, h120, hg8, hg21, hg30, hg76]) (by omega) (by omega)), (by first | omega | (simp only [List.length_set, List.length_append, List.length_cons, List.length_nil, List.length_replicate, List.length_take, List.length_drop]; omega) | assumption), (by first | omega | (simp only [List.length_set, List.length_append, List.length_cons, List.length_nil, List.length_replicate, List.length_take, List.length_drop]; omega) | assumption)⟩ (by show r116 < r116 + 1; omega) (Env.sub_all rfl) (Ent.take (is := [0, 1, 0, 1, 2, 3, 4, 5]) rfl)
              · skip
                have h132 : (found_89.getD (((s.Deps.getD ((out_50.getD (i_53 : Int).toNat 0) : Int).toNat []).getD (v63_91 : Int).toNat 0) : Int).toNat false) = true := not_false h118
                refine JK_skip ?_
                refine JK_blk ?_
                refine JK_region ?_
                refine JO_q rfl rfl rfl (OpV.add rfl rfl rfl (by unfold i64ok; omega)) ?_
                refine JO_q rfl rfl rfl (OpV.move rfl rfl) ?_
                refine JO_nil ?_
                refine JK_goal (r116, out_88, found_89, (cost_90 + 1), (v63_91 + 1), a92, k93) ⟨(by rw [← hM94]; simp only [cone_Of_L1, h10, h15, h22, h27, h32, h37, h72, h78, h114, h118, h132, hg8, hg21, hg30, hg76, cond_true, cond_false, Bool.not_true, Bool.not_false]), (by omega), (by omega), (by omega), (by omega), (by omega), (by first | assumption | exact okFound_push (by assumption) (by simp only [h10, h15, h22, h27, h32, h37, h72, h78, h114, h118, h132, hg8, hg21, hg30, hg76]) (by omega) (by omega)), (by first | omega | (simp only [List.length_set, List.length_append, List.length_cons, List.length_nil, List.length_replicate, List.length_take, List.length_drop]; omega) | assumption), (by first | omega | (simp only [List.length_set, List.length_append, List.length_cons, List.length_nil, List.length_replicate, List.length_take, List.length_drop]; omega) | assumption)⟩ (by show r116 < r116 + 1; omega) (Env.sub_all rfl) (Ent.take (is := [0, 0, 1, 1, 2, 3, 4, 5]) rfl)
            · skip
              have g134 : ¬ (v63_91 < (((s.Deps.getD ((out_50.getD (i_53 : Int).toNat 0) : Int).toNat []).length : Nat) : Int)) := of_decide_eq_false h114
              obtain rfl : r87 = 0 := by omega
              refine JK_exit rfl ?_
              have hR135 : cone_Of_L1 (s.Deps.getD ((out_50.getD (i_53 : Int).toNat 0) : Int).toNat []) ((((((s.Deps.getD ((out_50.getD (i_53 : Int).toNat 0) : Int).toNat []).length : Nat) : Int) : Int) - 0).toNat) out_50 found_51 (cost_52 + 1) 0 = (out_88, found_89, cost_90) := by
                rw [← hM94]; simp only [cone_Of_L1, h10, h15, h22, h27, h32, h37, h72, h78, h114, hg8, hg21, hg30, hg76, cond_true, cond_false, Bool.not_true, Bool.not_false]
              refine JK_blk ?_
              refine JK_region ?_
              refine JO_q rfl rfl rfl (OpV.move rfl rfl) ?_
              refine JO_q rfl rfl rfl (OpV.add rfl rfl rfl (by unfold i64ok; omega)) ?_
              refine JO_q rfl rfl rfl (OpV.assign rfl rfl) ?_
              refine JO_nil ?_
              refine JK_goal (r49, out_88, found_89, cost_90, (i_53 + 1), a92, k93) ⟨(by rw [← hM56]; simp only [cone_Of_L0, h10, h15, h22, h27, h32, h37, h72, h78, h114, hg8, hg21, hg30, hg76, hR135, cond_true, cond_false, Bool.not_true, Bool.not_false]), (by omega), (by omega), (by assumption), (by first | omega | (simp only [List.length_set, List.length_append, List.length_cons, List.length_nil, List.length_replicate, List.length_take, List.length_drop]; omega) | assumption), (by first | omega | (simp only [List.length_set, List.length_append, List.length_cons, List.length_nil, List.length_replicate, List.length_take, List.length_drop]; omega) | assumption)⟩ (by show r49 < r49 + 1; omega) (Env.sub_all rfl) (Ent.take (is := [0, 1, 1, 2, 3, 4, 5]) rfl)
        · skip
          have g136 : ¬ (i_53 < ((out_50.length : Nat) : Int)) := of_decide_eq_false h72
          refine JK_exit rfl ?_
          have hR137 : cone_Of_L0 s leaves (s.Deps.length + 1) [root] ((List.replicate (((s.Deps.length : Nat) : Int) : Int).toNat false).set (root : Int).toNat true) 0 0 = LR.brk (out_50, cost_52) := by
            rw [← hM56]; simp only [cone_Of_L0, h10, h15, h22, h27, h32, h37, h72, hg8, hg21, hg30, cond_true, cond_false, Bool.not_true, Bool.not_false]
          refine JK_seq ?_
          refine JK_region ?_
          refine JO_q rfl rfl rfl (OpV.move rfl rfl) ?_
          refine JJ_loc [0] rfl (Ent.freeze _ _) ?_
          refine letv (slices_Clip_int out_50) fun rv139 hg140 => ?_
          have hc141 := fn33 out_50 a54 k55 rv139 hg140
          refine JO_call [0] rfl rfl rfl (OpC.fn rfl ca33 rfl) (hc141) rfl ?_
          rintro c138 -
          refine JJ_slice 0 rfl sl_slice ?_
          rintro a142 k143 rfl
          refine JJ_fact 0 rfl sl_bytes ?_
          intro hl144
          have hl144 : rv139.length * 8 ≤ 140737488355328 := hl144
          refine JJ_fact 0 rfl sl_ok ?_
          intro ho145
          refine JO_q rfl rfl rfl (OpV.move rfl rfl) ?_
          refine JO_q rfl rfl rfl (OpV.assign rfl rfl) ?_
          refine JO_q rfl rfl rfl (OpV.assign rfl rfl) ?_
          refine JO_q rfl rfl rfl (OpV.assign rfl rfl) ?_
          refine JO_nil ?_
          have hq : rr = (rv139, cost_52, 0) := hrr.symm.trans (by simp only [cone_Of, h10, h15, h22, h27, h32, h37, h72, hg8, hg21, hg30, hR137, hg140, cond_true, cond_false, Bool.not_true, Bool.not_false])
          replace hrr := hrr.trans hq
          subst rr
          refine JK_return (.slice a142 rv139.length k143) rfl (.tmp rfl (.tmp rfl (.tmp rfl .nil))) rfl (by refine ⟨?_, ?_⟩ <;> (try dsimp only) <;> first | omega | (unfold i64ok; omega) | (simp only [List.length_set, List.length_append, List.length_cons, List.length_nil, List.length_replicate, List.length_take, List.length_drop]; omega) | assumption | trivial) (Ent.take (is := [0]) rfl)
end Go.SL.G
namespace Go.SL.G
open Go Go.SL Go.Proofs
set_option maxHeartbeats 20000000 in
set_option maxRecDepth 100000 in
/- flowquery/flqref7.Ints -/
theorem fn25 (a : List Int) (aa0 : Option Addr) (ak0 : Nat) (b : List Int) (ba0 : Option Addr) (bk0 : Nat) (rr : Bool) (hrr : flqref7_Ints a b = rr) :
    FT Try.prog 25 #[.slice aa0 a.length ak0, .slice ba0 b.length bk0] [sl (.slice aa0 a.length ak0) (a : List Int), sl (.slice ba0 b.length bk0) (b : List Int)]
      (fun g : Unit => True)
      (fun g => .bool rr)
      (fun g => []) := by
  refine FT_intro (args := [.slice aa0 a.length ak0, .slice ba0 b.length bk0]) Try.func25 rfl rfl ?_
  intro w0 M0 F0
  refine JJ_fact 0 rfl sl_bytes ?_
  intro hl1
  have hl1 : a.length * 8 ≤ 140737488355328 := hl1
  refine JJ_fact 0 rfl sl_ok ?_
  intro ho2
  refine JJ_fact 1 rfl sl_bytes ?_
  intro hl3
  have hl3 : b.length * 8 ≤ 140737488355328 := hl3
  refine JJ_fact 1 rfl sl_ok ?_
  intro ho4
  refine JK_seq ?_
  refine JK_region ?_
  refine JO_q rfl rfl rfl (OpV.assign rfl rfl) ?_
  refine JO_nil ?_
  refine JK_seq ?_
  refine JK_seq ?_
  refine JK_region ?_
  refine JO_q rfl rfl rfl (OpV.move rfl rfl) ?_
  refine JO_q rfl rfl rfl (OpV.len rfl rfl sl22) ?_
  refine JO_q rfl rfl rfl (OpV.move rfl rfl) ?_
  refine JO_q rfl rfl rfl (OpV.len rfl rfl sl22) ?_
  refine JO_q rfl rfl rfl (OpV.neq rfl rfl rfl) ?_
  refine JO_nil ?_
  refine JK_cond (b := (((a.length : Nat) : Int) != ((b.length : Nat) : Int))) rfl (fun (h5 : (((a.length : Nat) : Int) != ((b.length : Nat) : Int)) = true) => ?_) (fun (h5 : (((a.length : Nat) : Int) != ((b.length : Nat) : Int)) = false) => ?_)
  · skip
    have g6 : ((a.length : Nat) : Int) ≠ ((b.length : Nat) : Int) := ne_of_bne h5
    refine JK_seq ?_
    refine JK_region ?_
    refine JO_q rfl rfl rfl (OpV.assign rfl rfl) ?_
    refine JO_nil ?_
    have hq : rr = false := hrr.symm.trans (by simp only [flqref7_Ints, h5, cond_true, cond_false, Bool.not_true, Bool.not_false])
    replace hrr := hrr.trans hq
    subst rr
    refine JK_return (()) rfl (.tmp rfl .nil) rfl trivial (Ent.take (is := []) rfl)
  · skip
    have g7 : ((a.length : Nat) : Int) = ((b.length : Nat) : Int) := eq_of_bne_false h5
    refine JK_skip ?_
    refine JK_seq ?_
    refine JK_seq ?_
    refine JK_region ?_
    refine JO_q rfl rfl rfl (OpV.assign rfl rfl) ?_
    refine JO_nil ?_
    refine JK_block ?_
    refine JK_loop (γ := Nat × Int) (fun (r8, i_9) => [(0, .slice aa0 a.length ak0), (1, .slice ba0 b.length bk0), (5, .int .i64 i_9)]) (fun (r8, i_9) => [sl (.slice aa0 a.length ak0) (a : List Int), sl (.slice ba0 b.length bk0) (b : List Int)]) (fun (r8, i_9) => flqref7_Ints_L0 a b r8 i_9 = flqref7_Ints_L0 a b (((((a.length : Nat) : Int) : Int) - 0).toNat) 0 ∧ r8 = ((((a.length : Nat) : Int) : Int) - i_9).toNat ∧ (0 : Int) ≤ i_9 ∧ (i_9 ≤ ((a.length : Nat) : Int) ∨ i_9 = 0) ∧ (-9223372036854775808 ≤ i_9 ∧ i_9 ≤ 9223372036854775807)) (fun (r8, i_9) => r8) (((((a.length : Nat) : Int) : Int) - 0).toNat, 0) ⟨rfl, rfl, (by omega), (.inr rfl), (by omega)⟩ (Env.sub_all rfl) (Ent.take (is := [0, 1]) rfl) ?_
    rintro ⟨r8, i_9⟩ ⟨hM10, hr11, hi12, hi13, hk14⟩
    refine JJ_norm (L := [(0, .slice aa0 a.length ak0), (1, .slice ba0 b.length bk0), (5, .int .i64 i_9)]) (A := [sl (.slice aa0 a.length ak0) (a : List Int), sl (.slice ba0 b.length bk0) (b : List Int)]) rfl rfl ?_
    refine JJ_fact 0 rfl sl_bytes ?_
    intro hl15
    have hl15 : a.length * 8 ≤ 140737488355328 := hl15
    refine JJ_fact 0 rfl sl_ok ?_
    intro ho16
    refine JJ_fact 1 rfl sl_bytes ?_
    intro hl17
    have hl17 : b.length * 8 ≤ 140737488355328 := hl17
    refine JJ_fact 1 rfl sl_ok ?_
    intro ho18
    refine JK_seq ?_
    refine JK_seq ?_
    refine JK_region ?_
    refine JO_q rfl rfl rfl (OpV.move rfl rfl) ?_
    refine JO_q rfl rfl rfl (OpV.move rfl rfl) ?_
    refine JO_q rfl rfl rfl (OpV.len rfl rfl sl22) ?_
    refine JO_q rfl rfl rfl (OpV.lss rfl rfl rfl) ?_
    refine JO_nil ?_
    refine JK_cond (b := decide (i_9 < ((a.length : Nat) : Int))) rfl (fun (h19 : decide (i_9 < ((a.length : Nat) : Int)) = true) => ?_) (fun (h19 : decide (i_9 < ((a.length : Nat) : Int)) = false) => ?_)
    · skip
      have g20 : (i_9 < ((a.length : Nat) : Int)) := of_decide_eq_true h19
      obtain ⟨r21, rfl⟩ : ∃ q, r8 = q + 1 := ⟨r8 - 1, by omega⟩
      refine JK_skip ?_
      refine JK_seq ?_
      refine JK_block ?_
      refine JK_seq ?_
      have hb22 : -9223372036854775808 ≤ (a.getD (i_9 : Int).toNat 0) ∧ (a.getD (i_9 : Int).toNat 0) ≤ 9223372036854775807 := getD_ok ho16 (by first | omega | (simp only [List.length_set, List.length_append, List.length_cons, List.length_nil, List.length_replicate, List.length_take, List.length_drop]; omega) | (simp only [List.length_set, List.length_append, List.length_cons, List.length_nil, List.length_replicate, List.length_take, List.length_drop] at *; omega))
      have hb23 : -9223372036854775808 ≤ (b.getD (i_9 : Int).toNat 0) ∧ (b.getD (i_9 : Int).toNat 0) ≤ 9223372036854775807 := getD_ok ho18 (by first | omega | (simp only [List.length_set, List.length_append, List.length_cons, List.length_nil, List.length_replicate, List.length_take, List.length_drop]; omega) | (simp only [List.length_set, List.length_append, List.length_cons, List.length_nil, List.length_replicate, List.length_take, List.length_drop] at *; omega))
      refine JK_drawQ [0, 0, 3, 7, 0, 0, 48, 112, 255] fmix ?_
      refine JQ_v [] (qn rfl) rfl rfl (OpV.move rfl rfl) ?_
      refine JQ_v [] (qn rfl) rfl rfl (OpV.move rfl rfl) ?_
      refine JQ_v [0] (qn rfl) rfl rfl (OpV.indexAddr (m := 0) rfl rfl rfl sl22 rfl (isSl_sl _ _) (by first | omega | (simp only [List.length_set, List.length_append, List.length_cons, List.length_nil, List.length_replicate, List.length_take, List.length_drop]; omega) | (simp only [List.length_set, List.length_append, List.length_cons, List.length_nil, List.length_replicate, List.length_take, List.length_drop] at *; omega))) ?_
      refine JQ_v [0] (qn rfl) rfl rfl (OpV.load rfl rfl sh3 (i := 0) rfl (reads_sl _ _ _ 0 (by first | omega | (simp only [List.length_set, List.length_append, List.length_cons, List.length_nil, List.length_replicate, List.length_take, List.length_drop]; omega) | (simp only [List.length_set, List.length_append, List.length_cons, List.length_nil, List.length_replicate, List.length_take, List.length_drop] at *; omega))) rfl) ?_
      refine JQ_v [] (qn rfl) rfl rfl (OpV.move rfl rfl) ?_
      refine JQ_v [] (qn rfl) rfl rfl (OpV.move rfl rfl) ?_
      refine JQ_v [1] (qn rfl) rfl rfl (OpV.indexAddr (m := 0) rfl rfl rfl sl22 rfl (isSl_sl _ _) (by first | omega | (simp only [List.length_set, List.length_append, List.length_cons, List.length_nil, List.length_replicate, List.length_take, List.length_drop]; omega) | (simp only [List.length_set, List.length_append, List.length_cons, List.length_nil, List.length_replicate, List.length_take, List.length_drop] at *; omega))) ?_
      refine JQ_v [1] (qn rfl) rfl rfl (OpV.load rfl rfl sh3 (i := 0) rfl (reads_sl _ _ _ 0 (by first | omega | (simp only [List.length_set, List.length_append, List.length_cons, List.length_nil, List.length_replicate, List.length_take, List.length_drop]; omega) | (simp only [List.length_set, List.length_append, List.length_cons, List.length_nil, List.length_replicate, List.length_take, List.length_drop] at *; omega))) rfl) ?_
      refine JQ_v [] (qn rfl) rfl rfl (OpV.neq rfl rfl rfl) ?_
      refine JQ_nil ⟨by kernel_rfl, ?_⟩
      refine JK_cond (b := ((a.getD (i_9 : Int).toNat 0) != (b.getD (i_9 : Int).toNat 0))) rfl (fun (h24 : ((a.getD (i_9 : Int).toNat 0) != (b.getD (i_9 : Int).toNat 0)) = true) => ?_) (fun (h24 : ((a.getD (i_9 : Int).toNat 0) != (b.getD (i_9 : Int).toNat 0)) = false) => ?_)
      · skip
        have g25 : (a.getD (i_9 : Int).toNat 0) ≠ (b.getD (i_9 : Int).toNat 0) := ne_of_bne h24
        refine JK_seq ?_
        refine JK_region ?_
        refine JO_q rfl rfl rfl (OpV.assign rfl rfl) ?_
        refine JO_nil ?_
        have hR26 : flqref7_Ints_L0 a b (((((a.length : Nat) : Int) : Int) - 0).toNat) 0 = LR.ret false := by
          rw [← hM10]; simp only [flqref7_Ints_L0, h5, h19, h24, cond_true, cond_false, Bool.not_true, Bool.not_false]
        have hq : rr = false := hrr.symm.trans (by simp only [flqref7_Ints, h5, h19, h24, hR26, cond_true, cond_false, Bool.not_true, Bool.not_false])
        replace hrr := hrr.trans hq
        subst rr
        refine JK_return (()) rfl (.tmp rfl .nil) rfl trivial (Ent.take (is := []) rfl)
      · skip
        have g27 : (a.getD (i_9 : Int).toNat 0) = (b.getD (i_9 : Int).toNat 0) := eq_of_bne_false h24
        refine JK_skip ?_
        refine JK_blk ?_
        refine JK_region ?_
        refine JO_q rfl rfl rfl (OpV.move rfl rfl) ?_
        refine JO_q rfl rfl rfl (OpV.add rfl rfl rfl (by unfold i64ok; omega)) ?_
        refine JO_q rfl rfl rfl (OpV.assign rfl rfl) ?_
        refine JO_nil ?_
        refine JK_goal (r21, (i_9 + 1)) ⟨(by rw [← hM10]; simp only [flqref7_Ints_L0, h5, h19, h24, cond_true, cond_false, Bool.not_true, Bool.not_false]), (by omega), (by omega), (by omega), (by omega)⟩ (by show r21 < r21 + 1; omega) (Env.sub_all rfl) (Ent.take (is := [0, 1]) rfl)
    · skip
      have g28 : ¬ (i_9 < ((a.length : Nat) : Int)) := of_decide_eq_false h19
      obtain rfl : r8 = 0 := by omega
      refine JK_exit rfl ?_
      have hR29 : flqref7_Ints_L0 a b (((((a.length : Nat) : Int) : Int) - 0).toNat) 0 = LR.brk () := by
        rw [← hM10]; simp only [flqref7_Ints_L0, h5, h19, cond_true, cond_false, Bool.not_true, Bool.not_false]
      refine JK_seq ?_
      refine JK_region ?_
      refine JO_q rfl rfl rfl (OpV.assign rfl rfl) ?_
      refine JO_nil ?_
      have hq : rr = true := hrr.symm.trans (by simp only [flqref7_Ints, h5, h19, hR29, cond_true, cond_false, Bool.not_true, Bool.not_false])
      replace hrr := hrr.trans hq
      subst rr
      refine JK_return (()) rfl (.tmp rfl .nil) rfl trivial (Ent.take (is := []) rfl)
end Go.SL.G
namespace Go.SL.G
open Go Go.SL Go.Proofs
set_option maxHeartbeats 20000000 in
set_option maxRecDepth 100000 in
/- flowquery/flqref1.Identity -/
theorem fn41 (width : Int) (hwidth_0 : i64ok width) (hw0 : 0 ≤ width ∧ width ≤ 1000000) (rr : GTransfer) (hrr : flqref1_Identity width = rr) :
    FT Try.prog 41 #[.int .i64 width] []
      (fun g : Value × Value × Value => i64ok rr.Gen.Width ∧ i64ok rr.Kill.Width)
      (fun g => .agg #[.int .i64 rr.Gen.Width, g.1, .int .i64 rr.Kill.Width, g.2.1, g.2.2])
      (fun g => [sl (g.1) (rr.Gen.Words : List (BitVec 64)), sl (g.2.1) (rr.Kill.Words : List (BitVec 64)), sl (g.2.2) (rr.Copies : List GCopy)]) := by
  refine FT_intro (args := [.int .i64 width]) Try.func41 rfl rfl ?_
  intro w0 M0 F0
  have hwidth_0 : -9223372036854775808 ≤ width ∧ width ≤ 9223372036854775807 := hwidth_0
  refine JK_seq ?_
  refine JK_region ?_
  refine JO_act rfl rfl rfl (OpA.alloc rfl ze54) ?_
  intro p1
  refine JO_nil ?_
  refine JK_seq ?_
  refine JK_region ?_
  refine JO_q rfl rfl rfl (OpV.move rfl rfl) ?_
  refine letv (flqref1_Empty width) fun rv3 hg4 => ?_
  have hc5 := fn19 width (by (try dsimp only) <;> first | (unfold i64ok; omega) | omega | assumption) (by (try dsimp only) <;> first | (unfold i64ok; omega) | omega | assumption) rv3 hg4
  refine JO_call [] rfl rfl rfl (OpC.fn rfl ca19 rfl) (hc5) rfl ?_
  rintro c2 ⟨he6, he7, he8⟩
  have he6 : -9223372036854775808 ≤ rv3.Width ∧ rv3.Width ≤ 9223372036854775807 := he6
  refine JJ_slice 0 rfl os_slice ?_
  rintro a9 k10 rfl
  refine JJ_fact 0 rfl os_bytes ?_
  intro hl11
  have hl11 : rv3.Words.length * 8 ≤ 140737488355328 := hl11
  refine JO_q rfl rfl rfl (OpV.move rfl rfl) ?_
  have hc13 := fn19 width (by (try dsimp only) <;> first | (unfold i64ok; omega) | omega | assumption) (by (try dsimp only) <;> first | (unfold i64ok; omega) | omega | assumption) rv3 hg4
  refine JO_call [] rfl rfl rfl (OpC.fn rfl ca19 rfl) (hc13) rfl ?_
  rintro c12 ⟨he14, he15, he16⟩
  have he14 : -9223372036854775808 ≤ rv3.Width ∧ rv3.Width ≤ 9223372036854775807 := he14
  refine JJ_slice 0 rfl os_slice ?_
  rintro a17 k18 rfl
  refine JO_q rfl rfl rfl (OpV.build (rs := #[.int .i64 rv3.Width, .slice a9 rv3.Words.length k10, .int .i64 rv3.Width, .slice a17 rv3.Words.length k18, .slice none 0 0]) rfl st54 (Env.evp_map rfl) rfl) ?_
  refine JO_store rfl rfl (OpS.frame [2] rfl (OpS.storeCl [.int .i64 rv3.Width, .slice a9 rv3.Words.length k10, .int .i64 rv3.Width, .slice a17 rv3.Words.length k18, .slice none 0 0] [.int .i64 rv3.Width, .slice a9 rv3.Words.length k10, .int .i64 rv3.Width, .slice a17 rv3.Words.length k18, .slice none 0 0] rfl rfl rfl sh54 rfl rfl rfl (Nat.le_of_ble_eq_true rfl) rfl)) ?_
  refine JO_nil ?_
  refine JJ_loc [2] rfl (Ent.freeze _ _) ?_
  refine JJ_loc [2] rfl (Ent.freeze _ _) ?_
  refine JJ_loc [] rfl (Ent.slNil (α := GCopy)) ?_
  have hq : rr = (GTransfer.mk rv3 rv3 []) := hrr.symm.trans (by simp only [flqref1_Identity, hg4, cond_true, cond_false, Bool.not_true, Bool.not_false])
  replace hrr := hrr.trans hq
  subst rr
  refine JK_return ((.slice a9 rv3.Words.length k10, .slice a17 rv3.Words.length k18, .slice none 0 0)) rfl (.cellN 3 rfl sh54 rfl (reads_Cl _ _) rfl .nil) rfl (by refine ⟨?_, ?_⟩ <;> (try dsimp only) <;> first | omega | (unfold i64ok; omega) | (simp only [List.length_set, List.length_append, List.length_cons, List.length_nil, List.length_replicate, List.length_take, List.length_drop]; omega) | assumption | trivial) (Ent.take (is := [2, 1, 0]) rfl)
end Go.SL.G
namespace Go.SL.G
open Go Go.SL Go.Proofs
set_option maxHeartbeats 20000000 in
set_option maxRecDepth 100000 in
/- flowquery/flqlaw14.line -/
theorem fn29 (n : Int) (hn_0 : i64ok n) (hn0 : 0 ≤ n ∧ n ≤ 1000) (rr : GSystem) (hrr : flqlaw14_line n = rr) :
    FT Try.prog 29 #[.int .i64 n] []
      (fun g : Value × Value × Value => i64ok rr.Width)
      (fun g => .agg #[.int .i64 rr.Width, g.1, g.2.1, g.2.2])
      (fun g => [sl (g.1) (rr.Deps : List (List Int)), sl (g.2.1) (rr.Transfers : List GTransfer), sl (g.2.2) (rr.Boundary : List GSet)]) := by
  refine FT_intro (args := [.int .i64 n]) Try.func29 rfl rfl ?_
  intro w0 M0 F0
  have hn_0 : -9223372036854775808 ≤ n ∧ n ≤ 9223372036854775807 := hn_0
  refine JK_seq ?_
  refine JK_region ?_
  refine JO_act rfl rfl rfl (OpA.alloc rfl ze27) ?_
  intro p1
  refine JO_nil ?_
  refine JK_seq ?_
  refine JK_region ?_
  refine JO_act rfl rfl rfl (OpA.alloc rfl ze27) ?_
  intro p2
  refine JO_nil ?_
  refine JK_seq ?_
  refine JK_seq ?_
  refine JK_region ?_
  refine JO_q rfl rfl rfl (OpV.assign rfl rfl) ?_
  refine JO_nil ?_
  refine JK_block ?_
  refine JJ_loc [] rfl (Ent.osNil (α := (List Int))) ?_
  refine JJ_loc [] rfl (Ent.osNil (α := GTransfer)) ?_
  refine JJ_loc [] rfl (Ent.osNil (α := GSet)) ?_
  refine JK_loop (γ := Nat × List (List Int) × List GTransfer × List GSet × Int × Option Addr × Nat × Option Addr × Nat × Option Addr × Nat) (fun (r3, s1_4, s2_5, s3_6, i_7, a8, k9, a10, k11, a12, k13) => [(0, .int .i64 n), (2, p1), (3, p2), (4, .int .i64 i_7)]) (fun (r3, s1_4, s2_5, s3_6, i_7, a8, k9, a10, k11, a12, k13) => [os (.slice a12 s3_6.length k13) (s3_6 : List GSet), os (.slice a10 s2_5.length k11) (s2_5 : List GTransfer), os (.slice a8 s1_4.length k9) (s1_4 : List (List Int)), Cl p2 [.int .i64 0, .slice a8 s1_4.length k9, .slice a10 s2_5.length k11, .slice a12 s3_6.length k13], Cl p1 [.int .i64 0, .slice none 0 0, .slice none 0 0, .slice none 0 0]]) (fun (r3, s1_4, s2_5, s3_6, i_7, a8, k9, a10, k11, a12, k13) => flqlaw14_line_L0 r3 s1_4 s2_5 s3_6 i_7 = flqlaw14_line_L0 (((n : Int) - 0).toNat) [] [] [] 0 ∧ r3 = ((n : Int) - i_7).toNat ∧ (0 : Int) ≤ i_7 ∧ (i_7 ≤ n ∨ i_7 = 0) ∧ (-9223372036854775808 ≤ i_7 ∧ i_7 ≤ 9223372036854775807) ∧ (s1_4.length : Int) = i_7 ∧ (s2_5.length : Int) = i_7 ∧ (s3_6.length : Int) = i_7) (fun (r3, s1_4, s2_5, s3_6, i_7, a8, k9, a10, k11, a12, k13) => r3) (((n : Int) - 0).toNat, [], [], [], 0, none, 0, none, 0, none, 0) ⟨rfl, rfl, (by omega), (.inr rfl), (by omega), (by first | omega | (simp only [List.length_set, List.length_append, List.length_cons, List.length_nil, List.length_replicate, List.length_take, List.length_drop]; omega) | simp), (by first | omega | (simp only [List.length_set, List.length_append, List.length_cons, List.length_nil, List.length_replicate, List.length_take, List.length_drop]; omega) | simp), (by first | omega | (simp only [List.length_set, List.length_append, List.length_cons, List.length_nil, List.length_replicate, List.length_take, List.length_drop]; omega) | simp)⟩ (Env.sub_all rfl) (Ent.take (is := [0, 0, 0, 0, 0]) rfl) ?_
  rintro ⟨r3, s1_4, s2_5, s3_6, i_7, a8, k9, a10, k11, a12, k13⟩ ⟨hM14, hr15, hi16, hi17, hk18, hv19, hv20, hv21⟩
  refine JJ_norm (L := [(0, .int .i64 n), (2, p1), (3, p2), (4, .int .i64 i_7)]) (A := [os (.slice a12 s3_6.length k13) (s3_6 : List GSet), os (.slice a10 s2_5.length k11) (s2_5 : List GTransfer), os (.slice a8 s1_4.length k9) (s1_4 : List (List Int)), Cl p2 [.int .i64 0, .slice a8 s1_4.length k9, .slice a10 s2_5.length k11, .slice a12 s3_6.length k13], Cl p1 [.int .i64 0, .slice none 0 0, .slice none 0 0, .slice none 0 0]]) rfl rfl ?_
  refine JJ_fact 0 rfl os_bytes ?_
  intro hl22
  have hl22 : s3_6.length * 32 ≤ 140737488355328 := hl22
  refine JJ_fact 1 rfl os_bytes ?_
  intro hl23
  have hl23 : s2_5.length * 88 ≤ 140737488355328 := hl23
  refine JJ_fact 2 rfl os_bytes ?_
  intro hl24
  have hl24 : s1_4.length * 24 ≤ 140737488355328 := hl24
  refine JK_seq ?_
  refine JK_seq ?_
  refine JK_region ?_
  refine JO_q rfl rfl rfl (OpV.move rfl rfl) ?_
  refine JO_q rfl rfl rfl (OpV.move rfl rfl) ?_
  refine JO_q rfl rfl rfl (OpV.lss rfl rfl rfl) ?_
  refine JO_nil ?_
  refine JK_cond (b := decide (i_7 < n)) rfl (fun (h25 : decide (i_7 < n) = true) => ?_) (fun (h25 : decide (i_7 < n) = false) => ?_)
  · skip
    have g26 : (i_7 < n) := of_decide_eq_true h25
    obtain ⟨r27, rfl⟩ : ∃ q, r3 = q + 1 := ⟨r3 - 1, by omega⟩
    refine JK_skip ?_
    refine JK_seq ?_
    refine JK_block ?_
    refine JK_seq ?_
    refine JK_region ?_
    refine JO_q rfl rfl rfl (OpV.assign rfl rfl) ?_
    refine JO_nil ?_
    refine JK_seq ?_
    refine JK_seq ?_
    refine JK_region ?_
    refine JO_q rfl rfl rfl (OpV.move rfl rfl) ?_
    refine JO_q rfl rfl rfl (OpV.gtr rfl rfl rfl) ?_
    refine JO_nil ?_
    refine JK_cond (b := decide (0 < i_7)) rfl (fun (h28 : decide (0 < i_7) = true) => ?_) (fun (h28 : decide (0 < i_7) = false) => ?_)
    · skip
      have g29 : (0 < i_7) := of_decide_eq_true h28
      refine JK_region ?_
      refine JO_q rfl rfl rfl (OpV.move rfl rfl) ?_
      refine JO_q rfl rfl rfl (OpV.sub rfl rfl rfl (by unfold i64ok; omega)) ?_
      refine JO_act rfl rfl rfl (OpA.buildSliceV [.int .i64 (i_7 - 1)] [.int .i64 (i_7 - 1)] rfl sl22 sz22 rfl (Env.evp_map rfl) rfl rfl rfl rfl) ?_
      intro c30
      refine JJ_slice 0 rfl Cr_slice ?_
      rintro a31 k32 rfl
      refine JO_q rfl rfl rfl (OpV.assign rfl rfl) ?_
      refine JO_nil ?_
      refine JJ_fact 4 rfl isP_Cl ?_
      intro hp33
      refine JJ_addFact hp33 ?_
      refine letv (flqref1_Identity 0) fun rv40 hg41 => ?_
      refine letv (flqref1_Empty 0) fun rv46 hg47 => ?_
      have hn36 : ((s1_4 ++ [[(i_7 - 1)]]) : List (List Int)).length = (s1_4 : List (List Int)).length + ([[(i_7 - 1)]] : List (List Int)).length := List.length_append
      have hn44 : ((s2_5 ++ [rv40]) : List GTransfer).length = (s2_5 : List GTransfer).length + ([rv40] : List GTransfer).length := List.length_append
      have hn50 : ((s3_6 ++ [rv46]) : List GSet).length = (s3_6 : List GSet).length + ([rv46] : List GSet).length := List.length_append
      refine JK_drawJ [0, 1, 0, 4, 15, 0, 32, 31, 159, 511, 0, 1024, 1023, 5119, 16383, 3199, 65535, 131071, 262143, 524287, 1048575] [none, some 4, some 14, some 9, some 4, some 16] fmix ?_
      refine JD_v [0] (wn rfl) rfl rfl (OpV.fieldAddr rfl rfl fo27_1 (i := 0) rfl (isPtr_fact _)) ?_
      refine JD_v [5] (wn rfl) rfl rfl (OpV.loadF rfl rfl sh23 (i := 0) rfl (reads_Cl _ _) rfl) ?_
      refine JD_v [] (wn rfl) rfl rfl (OpV.move rfl rfl) ?_
      refine JD_x [] [3] (fun lG => ((lG.getD 0 []).getD 0 undef)) [⟨some 3, some 4, [3], fun lG => Cr ((lG.getD 0 []).getD 0 undef) 1 [.slice a31 1 k32]⟩] (wn rfl) rfl rfl rfl (fun G => by refine OpX.n3 (A' := []) (V' := fun g => (g.getD 0 undef)) (B' := fun g => [Cr (g.getD 0 undef) 1 [.slice a31 1 k32]]) (by kernel_rfl) (by kernel_rfl) (by kernel_rfl) ?_; refine OpX.postR (OpX.ofA (by intro _ _ h; cases h) (OpA.buildSliceV [.slice a31 1 k32] [.slice a31 1 k32] rfl sl23 sz23 rfl (Env.evp_map rfl) rfl rfl rfl rfl)) (fun g => ?_); exact Ent.take (is := [0]) rfl) ?_
      refine JD_x [1, 4, 7] [4] (fun lG => ((lG.getD 0 []).getD 0 undef)) [⟨some 4, none, [], fun lG => sl (.slice a31 1 k32) ([(i_7 - 1)] : List Int)⟩, ⟨some 4, none, [4], fun lG => os (((lG.getD 0 []).getD 0 undef)) ((s1_4 ++ [[(i_7 - 1)]]) : List (List Int))⟩] (wn rfl) rfl rfl rfl (fun G => by refine OpX.n3 (A' := [Cr (.slice a31 1 k32) 1 [.int .i64 (i_7 - 1)], os (.slice a8 s1_4.length k9) (s1_4 : List (List Int)), Cr ((G 3).getD 0 undef) 1 [.slice a31 1 k32]]) (V' := fun g => (g.getD 0 undef)) (B' := fun g => [sl (.slice a31 1 k32) ([(i_7 - 1)] : List Int), os ((g.getD 0 undef)) ((s1_4 ++ [[(i_7 - 1)]]) : List (List Int))]) (by kernel_rfl) (by kernel_rfl) (by kernel_rfl) ?_; refine OpX.pre [0] rfl (Ent.crInt _ [(i_7 - 1)] _ _ rfl rfl (by intro x hx; rw [List.mem_singleton] at hx; subst hx; unfold i64ok; omega) (Nat.le_of_ble_eq_true rfl)) ?_; refine OpX.pre [0] rfl (Ent.freeze _ _) ?_; refine OpX.pre [2, 0] rfl (Ent.cr1 (α := List Int) (A := [sl (.slice a31 1 k32) ([(i_7 - 1)] : List Int)]) _ [(i_7 - 1)] _ (Nat.le_of_ble_eq_true rfl) (fun h => ⟨_, rfl, sepAll_get (i := 0) rfl h⟩)) ?_; refine OpX.seeL (L' := [(17, .slice a8 s1_4.length k9), (19, ((G 3).getD 0 undef))]) (Env.sub_all (by kernel_rfl)) ?_; refine OpX.postR (OpX.ofA (by intro _ _ h; cases h) (OpA.frame [3, 0] rfl (OpA.appO (α := List Int) (xs := s1_4) (ys := [[(i_7 - 1)]]) rfl rfl rfl sl23 sl23 sz23 rfl rfl rfl (by show (_ + _) * 24 ≤ 140737488355328; first | omega | (simp only [List.length_set, List.length_append, List.length_cons, List.length_nil, List.length_replicate, List.length_take, List.length_drop]; omega) | (simp only [List.length_set, List.length_append, List.length_cons, List.length_nil, List.length_replicate, List.length_take, List.length_drop] at *; omega))))) (fun g => ?_); exact Ent.take (is := [1, 0]) rfl) ?_
      refine JD_v [0] (wn rfl) rfl rfl (OpV.fieldAddr rfl rfl fo27_2 (i := 0) rfl (isPtr_fact _)) ?_
      refine JD_v [5] (wn rfl) rfl rfl (OpV.loadF rfl rfl sh24 (i := 0) rfl (reads_Cl _ _) rfl) ?_
      refine JD_x [] [7] (fun lG => .agg #[.int .i64 rv40.Gen.Width, ((lG.getD 0 []).getD 0 undef), .int .i64 rv40.Kill.Width, ((lG.getD 0 []).getD 1 undef), ((lG.getD 0 []).getD 2 undef)]) [⟨some 7, none, [], fun lG => SP.fact (i64ok rv40.Gen.Width ∧ i64ok rv40.Kill.Width)⟩, ⟨some 7, none, [7], fun lG => sl (((lG.getD 0 []).getD 0 undef)) (rv40.Gen.Words : List (BitVec 64))⟩, ⟨some 7, none, [7], fun lG => sl (((lG.getD 0 []).getD 1 undef)) (rv40.Kill.Words : List (BitVec 64))⟩, ⟨some 7, none, [7], fun lG => sl (((lG.getD 0 []).getD 2 undef)) (rv40.Copies : List GCopy)⟩] (wn rfl) rfl rfl rfl (fun G => by refine OpX.n3 (A' := []) (V' := fun g => .agg #[.int .i64 rv40.Gen.Width, (g.getD 0 undef), .int .i64 rv40.Kill.Width, (g.getD 1 undef), (g.getD 2 undef)]) (B' := fun g => [SP.fact (i64ok rv40.Gen.Width ∧ i64ok rv40.Kill.Width), sl ((g.getD 0 undef)) (rv40.Gen.Words : List (BitVec 64)), sl ((g.getD 1 undef)) (rv40.Kill.Words : List (BitVec 64)), sl ((g.getD 2 undef)) (rv40.Copies : List GCopy)]) (by kernel_rfl) (by kernel_rfl) (by kernel_rfl) ?_; refine OpX.postR (OpX.frame [] rfl (OpX.ofC (fun g => [g.1, g.2.1, g.2.2]) (fun l => (l.getD 0 undef, l.getD 1 undef, l.getD 2 undef)) (fun _ => rfl) (by intro _ _ h; cases h) (OpC.fn rfl ca41 rfl) (fn41 0 (by (try dsimp only) <;> first | (unfold i64ok; omega) | omega | assumption) (by (try dsimp only) <;> first | (unfold i64ok; omega) | omega | assumption) rv40 hg41))) (fun g => ?_); exact Ent.take (is := [0, 1, 2, 3]) rfl) ?_
      refine JD_x [] [8] (fun lG => ((lG.getD 0 []).getD 0 undef)) [⟨some 8, some 9, [7, 8], fun lG => Cr ((lG.getD 1 []).getD 0 undef) 1 [.int .i64 rv40.Gen.Width, ((lG.getD 0 []).getD 0 undef), .int .i64 rv40.Kill.Width, ((lG.getD 0 []).getD 1 undef), ((lG.getD 0 []).getD 2 undef)]⟩] (wn rfl) rfl rfl rfl (fun G => by refine OpX.n3 (A' := []) (V' := fun g => (g.getD 0 undef)) (B' := fun g => [Cr (g.getD 0 undef) 1 [.int .i64 rv40.Gen.Width, ((G 7).getD 0 undef), .int .i64 rv40.Kill.Width, ((G 7).getD 1 undef), ((G 7).getD 2 undef)]]) (by kernel_rfl) (by kernel_rfl) (by kernel_rfl) ?_; refine OpX.seeL (L' := [(23, .agg #[.int .i64 rv40.Gen.Width, ((G 7).getD 0 undef), .int .i64 rv40.Kill.Width, ((G 7).getD 1 undef), ((G 7).getD 2 undef)])]) (Env.sub_all (by kernel_rfl)) ?_; refine OpX.postR (OpX.ofA (by intro _ _ h; cases h) (OpA.buildSliceV [.agg #[.int .i64 rv40.Gen.Width, ((G 7).getD 0 undef), .int .i64 rv40.Kill.Width, ((G 7).getD 1 undef), ((G 7).getD 2 undef)]] [.int .i64 rv40.Gen.Width, ((G 7).getD 0 undef), .int .i64 rv40.Kill.Width, ((G 7).getD 1 undef), ((G 7).getD 2 undef)] rfl sl24 sz24 rfl (Env.evp_map rfl) rfl rfl rfl rfl)) (fun g => ?_); exact Ent.take (is := [0]) rfl) ?_
      refine JD_x [3, 10, 11, 12, 13, 14] [9] (fun lG => ((lG.getD 0 []).getD 0 undef)) [⟨some 9, none, [9], fun lG => os (((lG.getD 0 []).getD 0 undef)) ((s2_5 ++ [rv40]) : List GTransfer)⟩] (wn rfl) rfl rfl rfl (fun G => by refine OpX.n3 (A' := [os (.slice a10 s2_5.length k11) (s2_5 : List GTransfer), SP.fact (i64ok rv40.Gen.Width ∧ i64ok rv40.Kill.Width), sl (((G 7).getD 0 undef)) (rv40.Gen.Words : List (BitVec 64)), sl (((G 7).getD 1 undef)) (rv40.Kill.Words : List (BitVec 64)), sl (((G 7).getD 2 undef)) (rv40.Copies : List GCopy), Cr ((G 8).getD 0 undef) 1 [.int .i64 rv40.Gen.Width, ((G 7).getD 0 undef), .int .i64 rv40.Kill.Width, ((G 7).getD 1 undef), ((G 7).getD 2 undef)]]) (V' := fun g => (g.getD 0 undef)) (B' := fun g => [SP.fact (i64ok rv40.Gen.Width ∧ i64ok rv40.Kill.Width), sl (((G 7).getD 0 undef)) (rv40.Gen.Words : List (BitVec 64)), sl (((G 7).getD 1 undef)) (rv40.Kill.Words : List (BitVec 64)), sl (((G 7).getD 2 undef)) (rv40.Copies : List GCopy), os ((g.getD 0 undef)) ((s2_5 ++ [rv40]) : List GTransfer)]) (by kernel_rfl) (by kernel_rfl) (by kernel_rfl) ?_; refine OpX.fact 1 rfl (fun h => h) ?_; rintro ⟨he51, he52⟩; have he51 : -9223372036854775808 ≤ rv40.Gen.Width ∧ rv40.Gen.Width ≤ 9223372036854775807 := he51; have he52 : -9223372036854775808 ≤ rv40.Kill.Width ∧ rv40.Kill.Width ≤ 9223372036854775807 := he52; refine OpX.pre [5, 2, 3, 4] rfl (Ent.cr1 (α := GTransfer) (A := [sl (((G 7).getD 0 undef)) (rv40.Gen.Words : List (BitVec 64)), sl (((G 7).getD 1 undef)) (rv40.Kill.Words : List (BitVec 64)), sl (((G 7).getD 2 undef)) (rv40.Copies : List GCopy)]) _ rv40 _ (Nat.le_of_ble_eq_true rfl) (fun h => ⟨_, _, _, rfl, (by unfold i64ok; first | omega | (dsimp only; omega)), sepAll_get (i := 0) rfl h, (by unfold i64ok; first | omega | (dsimp only; omega)), sepAll_get (i := 1) rfl h, sepAll_get (i := 2) rfl h⟩)) ?_; refine OpX.seeL (L' := [(22, .slice a10 s2_5.length k11), (24, ((G 8).getD 0 undef))]) (Env.sub_all (by kernel_rfl)) ?_; refine OpX.postR (OpX.ofA (by intro _ _ h; cases h) (OpA.frame [4, 0] rfl (OpA.appO (α := GTransfer) (xs := s2_5) (ys := [rv40]) rfl rfl rfl sl24 sl24 sz24 rfl rfl rfl (by show (_ + _) * 88 ≤ 140737488355328; first | omega | (simp only [List.length_set, List.length_append, List.length_cons, List.length_nil, List.length_replicate, List.length_take, List.length_drop]; omega) | (simp only [List.length_set, List.length_append, List.length_cons, List.length_nil, List.length_replicate, List.length_take, List.length_drop] at *; omega))))) (fun g => ?_); exact Ent.take (is := [4, 1, 2, 3, 0]) rfl) ?_
      refine JD_v [0] (wn rfl) rfl rfl (OpV.fieldAddr rfl rfl fo27_3 (i := 0) rfl (isPtr_fact _)) ?_
      refine JD_v [5] (wn rfl) rfl rfl (OpV.loadF rfl rfl sh25 (i := 0) rfl (reads_Cl _ _) rfl) ?_
      refine JD_x [10] [12] (fun lG => .agg #[.int .i64 rv46.Width, ((lG.getD 0 []).getD 0 undef)]) [⟨some 12, none, [], fun lG => SP.fact (i64ok rv46.Width ∧ (rv46.Width = 0) ∧ (rv46.Words.length = (((0 : Int) + 63) / 64).toNat))⟩, ⟨some 12, some 14, [12], fun lG => os (((lG.getD 0 []).getD 0 undef)) (rv46.Words : List (BitVec 64))⟩] (wn rfl) rfl rfl rfl (fun G => by refine OpX.n3 (A' := [SP.fact (i64ok rv40.Gen.Width ∧ i64ok rv40.Kill.Width)]) (V' := fun g => .agg #[.int .i64 rv46.Width, (g.getD 0 undef)]) (B' := fun g => [SP.fact (i64ok rv40.Gen.Width ∧ i64ok rv40.Kill.Width), SP.fact (i64ok rv46.Width ∧ (rv46.Width = 0) ∧ (rv46.Words.length = (((0 : Int) + 63) / 64).toNat)), os ((g.getD 0 undef)) (rv46.Words : List (BitVec 64))]) (by kernel_rfl) (by kernel_rfl) (by kernel_rfl) ?_; refine OpX.fact 0 rfl (fun h => h) ?_; rintro ⟨he53, he54⟩; have he53 : -9223372036854775808 ≤ rv40.Gen.Width ∧ rv40.Gen.Width ≤ 9223372036854775807 := he53; have he54 : -9223372036854775808 ≤ rv40.Kill.Width ∧ rv40.Kill.Width ≤ 9223372036854775807 := he54; refine OpX.postR (OpX.frame [] rfl (OpX.ofC (fun g => [g]) (fun l => l.getD 0 undef) (fun _ => rfl) (by intro _ _ h; cases h) (OpC.fn rfl ca19 rfl) (fn19 0 (by (try dsimp only) <;> first | (unfold i64ok; omega) | omega | assumption) (by (try dsimp only) <;> first | (unfold i64ok; omega) | omega | assumption) rv46 hg47))) (fun g => ?_); exact Ent.take (is := [2, 0, 1]) rfl) ?_
      refine JD_x [] [13] (fun lG => ((lG.getD 0 []).getD 0 undef)) [⟨some 13, some 14, [12, 13], fun lG => Cr ((lG.getD 1 []).getD 0 undef) 1 [.int .i64 rv46.Width, ((lG.getD 0 []).getD 0 undef)]⟩] (wn rfl) rfl rfl rfl (fun G => by refine OpX.n3 (A' := []) (V' := fun g => (g.getD 0 undef)) (B' := fun g => [Cr (g.getD 0 undef) 1 [.int .i64 rv46.Width, ((G 12).getD 0 undef)]]) (by kernel_rfl) (by kernel_rfl) (by kernel_rfl) ?_; refine OpX.seeL (L' := [(28, .agg #[.int .i64 rv46.Width, ((G 12).getD 0 undef)])]) (Env.sub_all (by kernel_rfl)) ?_; refine OpX.postR (OpX.ofA (by intro _ _ h; cases h) (OpA.buildSliceV [.agg #[.int .i64 rv46.Width, ((G 12).getD 0 undef)]] [.int .i64 rv46.Width, ((G 12).getD 0 undef)] rfl sl25 sz25 rfl (Env.evp_map rfl) rfl rfl rfl rfl)) (fun g => ?_); exact Ent.take (is := [0]) rfl) ?_
      refine JD_x [2, 10, 16, 17, 18] [14] (fun lG => ((lG.getD 0 []).getD 0 undef)) [⟨some 14, none, [12], fun lG => sl (((lG.getD 0 []).getD 0 undef)) (rv46.Words : List (BitVec 64))⟩, ⟨some 14, none, [14], fun lG => os (((lG.getD 0 []).getD 0 undef)) ((s3_6 ++ [rv46]) : List GSet)⟩] (wn rfl) rfl rfl rfl (fun G => by refine OpX.n3 (A' := [os (.slice a12 s3_6.length k13) (s3_6 : List GSet), SP.fact (i64ok rv40.Gen.Width ∧ i64ok rv40.Kill.Width), SP.fact (i64ok rv46.Width ∧ (rv46.Width = 0) ∧ (rv46.Words.length = (((0 : Int) + 63) / 64).toNat)), os (((G 12).getD 0 undef)) (rv46.Words : List (BitVec 64)), Cr ((G 13).getD 0 undef) 1 [.int .i64 rv46.Width, ((G 12).getD 0 undef)]]) (V' := fun g => (g.getD 0 undef)) (B' := fun g => [SP.fact (i64ok rv40.Gen.Width ∧ i64ok rv40.Kill.Width), SP.fact (i64ok rv46.Width ∧ (rv46.Width = 0) ∧ (rv46.Words.length = (((0 : Int) + 63) / 64).toNat)), sl (((G 12).getD 0 undef)) (rv46.Words : List (BitVec 64)), os ((g.getD 0 undef)) ((s3_6 ++ [rv46]) : List GSet)]) (by kernel_rfl) (by kernel_rfl) (by kernel_rfl) ?_; refine OpX.fact 1 rfl (fun h => h) ?_; rintro ⟨he55, he56⟩; have he55 : -9223372036854775808 ≤ rv40.Gen.Width ∧ rv40.Gen.Width ≤ 9223372036854775807 := he55; have he56 : -9223372036854775808 ≤ rv40.Kill.Width ∧ rv40.Kill.Width ≤ 9223372036854775807 := he56; refine OpX.fact 2 rfl (fun h => h) ?_; rintro ⟨he57, he58, he59⟩; have he57 : -9223372036854775808 ≤ rv46.Width ∧ rv46.Width ≤ 9223372036854775807 := he57; refine OpX.pre [3] rfl (Ent.freeze _ _) ?_; refine OpX.pre [4, 0] rfl (Ent.cr1 (α := GSet) (A := [sl (((G 12).getD 0 undef)) (rv46.Words : List (BitVec 64))]) _ rv46 _ (Nat.le_of_ble_eq_true rfl) (fun h => ⟨_, rfl, (by unfold i64ok; first | omega | (dsimp only; omega)), sepAll_get (i := 0) rfl h⟩)) ?_; refine OpX.seeL (L' := [(27, .slice a12 s3_6.length k13), (29, ((G 13).getD 0 undef))]) (Env.sub_all (by kernel_rfl)) ?_; refine OpX.postR (OpX.ofA (by intro _ _ h; cases h) (OpA.frame [3, 0] rfl (OpA.appO (α := GSet) (xs := s3_6) (ys := [rv46]) rfl rfl rfl sl25 sl25 sz25 rfl rfl rfl (by show (_ + _) * 32 ≤ 140737488355328; first | omega | (simp only [List.length_set, List.length_append, List.length_cons, List.length_nil, List.length_replicate, List.length_take, List.length_drop]; omega) | (simp only [List.length_set, List.length_append, List.length_cons, List.length_nil, List.length_replicate, List.length_take, List.length_drop] at *; omega))))) (fun g => ?_); exact Ent.take (is := [3, 4, 1, 0]) rfl) ?_
      refine JD_v [0] (wn rfl) rfl rfl (OpV.fieldAddr rfl rfl fo27_1 (i := 0) rfl (isPtr_fact _)) ?_
      refine JD_x0 [5, 9] [⟨some 16, some 18, [4], fun lG => Cl p2 [.int .i64 0, ((lG.getD 0 []).getD 0 undef), .slice a10 s2_5.length k11, .slice a12 s3_6.length k13]⟩] (wn rfl) rfl rfl rfl (fun G => by refine OpX.n3 (A' := [Cl p2 [.int .i64 0, .slice a8 s1_4.length k9, .slice a10 s2_5.length k11, .slice a12 s3_6.length k13], os (((G 4).getD 0 undef)) ((s1_4 ++ [[(i_7 - 1)]]) : List (List Int))]) (V' := fun g => undef) (B' := fun g => [os (((G 4).getD 0 undef)) ((s1_4 ++ [[(i_7 - 1)]]) : List (List Int)), Cl p2 [.int .i64 0, ((G 4).getD 0 undef), .slice a10 s2_5.length k11, .slice a12 s3_6.length k13]]) (by kernel_rfl) (by kernel_rfl) (by kernel_rfl) ?_; refine OpX.fact 1 rfl os_one ?_; intro ho60; refine OpX.seeL (L' := [(20, ((G 4).getD 0 undef)), (31, fptr p2 1)]) (Env.sub_all (by kernel_rfl)) ?_; refine OpX.postR (OpX.ofS (by intro _ _ h; cases h) rfl (OpS.frame [0] rfl (OpS.storeClF [((G 4).getD 0 undef)] [.int .i64 0, ((G 4).getD 0 undef), .slice a10 s2_5.length k11, .slice a12 s3_6.length k13] rfl rfl rfl sh23 (cells_of_one ho60) rfl (by simp only [List.all_cons, List.all_nil, ho60, Bool.and_true, Bool.true_and] <;> rfl) (Nat.le_of_ble_eq_true rfl) rfl))) (fun g => ?_); exact Ent.take (is := [1, 0]) rfl) ?_
      refine JD_v [0] (wn rfl) rfl rfl (OpV.fieldAddr rfl rfl fo27_2 (i := 0) rfl (isPtr_fact _)) ?_
      refine JD_x0 [15, 21] [⟨some 18, some 20, [4, 9], fun lG => Cl p2 [.int .i64 0, ((lG.getD 0 []).getD 0 undef), ((lG.getD 1 []).getD 0 undef), .slice a12 s3_6.length k13]⟩] (wn rfl) rfl rfl rfl (fun G => by refine OpX.n3 (A' := [os (((G 9).getD 0 undef)) ((s2_5 ++ [rv40]) : List GTransfer), Cl p2 [.int .i64 0, ((G 4).getD 0 undef), .slice a10 s2_5.length k11, .slice a12 s3_6.length k13]]) (V' := fun g => undef) (B' := fun g => [os (((G 9).getD 0 undef)) ((s2_5 ++ [rv40]) : List GTransfer), Cl p2 [.int .i64 0, ((G 4).getD 0 undef), ((G 9).getD 0 undef), .slice a12 s3_6.length k13]]) (by kernel_rfl) (by kernel_rfl) (by kernel_rfl) ?_; refine OpX.fact 0 rfl os_one ?_; intro ho61; refine OpX.seeL (L' := [(25, ((G 9).getD 0 undef)), (32, fptr p2 2)]) (Env.sub_all (by kernel_rfl)) ?_; refine OpX.postR (OpX.ofS (by intro _ _ h; cases h) rfl (OpS.frame [1] rfl (OpS.storeClF [((G 9).getD 0 undef)] [.int .i64 0, ((G 4).getD 0 undef), ((G 9).getD 0 undef), .slice a12 s3_6.length k13] rfl rfl rfl sh24 (cells_of_one ho61) rfl (by simp only [List.all_cons, List.all_nil, ho61, Bool.and_true, Bool.true_and] <;> rfl) (Nat.le_of_ble_eq_true rfl) rfl))) (fun g => ?_); exact Ent.take (is := [1, 0]) rfl) ?_
      refine JD_v [0] (wn rfl) rfl rfl (OpV.fieldAddr rfl rfl fo27_3 (i := 0) rfl (isPtr_fact _)) ?_
      refine JD_x0 [20, 22] [⟨some 20, none, [4, 9, 14], fun lG => Cl p2 [.int .i64 0, ((lG.getD 0 []).getD 0 undef), ((lG.getD 1 []).getD 0 undef), ((lG.getD 2 []).getD 0 undef)]⟩] (wn rfl) rfl rfl rfl (fun G => by refine OpX.n3 (A' := [os (((G 14).getD 0 undef)) ((s3_6 ++ [rv46]) : List GSet), Cl p2 [.int .i64 0, ((G 4).getD 0 undef), ((G 9).getD 0 undef), .slice a12 s3_6.length k13]]) (V' := fun g => undef) (B' := fun g => [os (((G 14).getD 0 undef)) ((s3_6 ++ [rv46]) : List GSet), Cl p2 [.int .i64 0, ((G 4).getD 0 undef), ((G 9).getD 0 undef), ((G 14).getD 0 undef)]]) (by kernel_rfl) (by kernel_rfl) (by kernel_rfl) ?_; refine OpX.fact 0 rfl os_one ?_; intro ho62; refine OpX.seeL (L' := [(30, ((G 14).getD 0 undef)), (33, fptr p2 3)]) (Env.sub_all (by kernel_rfl)) ?_; refine OpX.postR (OpX.ofS (by intro _ _ h; cases h) rfl (OpS.frame [1] rfl (OpS.storeClF [((G 14).getD 0 undef)] [.int .i64 0, ((G 4).getD 0 undef), ((G 9).getD 0 undef), ((G 14).getD 0 undef)] rfl rfl rfl sh25 (cells_of_one ho62) rfl (by simp only [List.all_cons, List.all_nil, ho62, Bool.and_true, Bool.true_and] <;> rfl) (Nat.le_of_ble_eq_true rfl) rfl))) (fun g => ?_); exact Ent.take (is := [1, 0]) rfl) ?_
      refine JD_nil ⟨by kernel_rfl, fun G => ?_⟩
      refine JJ_weaken (L' := [(0, .int .i64 n), (2, p1), (3, p2), (4, .int .i64 i_7)]) (A' := [SP.fact (isP p2), Cl p1 [.int .i64 0, .slice none 0 0, .slice none 0 0, .slice none 0 0], sl (.slice a31 1 k32) ([(i_7 - 1)] : List Int), os (((G 4).getD 0 undef)) ((s1_4 ++ [[(i_7 - 1)]]) : List (List Int)), SP.fact (i64ok rv40.Gen.Width ∧ i64ok rv40.Kill.Width), sl (((G 7).getD 0 undef)) (rv40.Gen.Words : List (BitVec 64)), sl (((G 7).getD 1 undef)) (rv40.Kill.Words : List (BitVec 64)), sl (((G 7).getD 2 undef)) (rv40.Copies : List GCopy), os (((G 9).getD 0 undef)) ((s2_5 ++ [rv40]) : List GTransfer), SP.fact (i64ok rv46.Width ∧ (rv46.Width = 0) ∧ (rv46.Words.length = (((0 : Int) + 63) / 64).toNat)), sl (((G 12).getD 0 undef)) (rv46.Words : List (BitVec 64)), os (((G 14).getD 0 undef)) ((s3_6 ++ [rv46]) : List GSet), Cl p2 [.int .i64 0, ((G 4).getD 0 undef), ((G 9).getD 0 undef), ((G 14).getD 0 undef)]]) (Env.sub_all (by kernel_rfl)) (Ent.of_eq (by kernel_rfl)) ?_
      generalize ((G 4).getD 0 undef) = c35
      generalize ((G 7).getD 0 undef) = c37
      generalize ((G 7).getD 1 undef) = c38
      generalize ((G 7).getD 2 undef) = c39
      generalize ((G 9).getD 0 undef) = c43
      generalize ((G 12).getD 0 undef) = c45
      generalize ((G 14).getD 0 undef) = c49
      refine JJ_fact 4 rfl (fun h => h) ?_
      rintro ⟨he63, he64⟩
      have he63 : -9223372036854775808 ≤ rv40.Gen.Width ∧ rv40.Gen.Width ≤ 9223372036854775807 := he63
      have he64 : -9223372036854775808 ≤ rv40.Kill.Width ∧ rv40.Kill.Width ≤ 9223372036854775807 := he64
      refine JJ_fact 9 rfl (fun h => h) ?_
      rintro ⟨he65, he66, he67⟩
      have he65 : -9223372036854775808 ≤ rv46.Width ∧ rv46.Width ≤ 9223372036854775807 := he65
      refine JJ_keep [1, 1, 2, 3, 4, 5, 6, 7, 8, 8] rfl ?_
      refine JJ_slice 2 rfl os_slice ?_
      rintro a68 k69 rfl
      refine JJ_fact 2 rfl os_bytes ?_
      intro hl70
      have hl70 : (s1_4 ++ [[(i_7 - 1)]]).length * 24 ≤ 140737488355328 := hl70
      refine JJ_slice 3 rfl sl_slice ?_
      rintro a71 k72 rfl
      refine JJ_fact 3 rfl sl_bytes ?_
      intro hl73
      have hl73 : rv40.Gen.Words.length * 8 ≤ 140737488355328 := hl73
      refine JJ_slice 4 rfl sl_slice ?_
      rintro a74 k75 rfl
      refine JJ_fact 4 rfl sl_bytes ?_
      intro hl76
      have hl76 : rv40.Kill.Words.length * 8 ≤ 140737488355328 := hl76
      refine JJ_slice 5 rfl sl_slice ?_
      rintro a77 k78 rfl
      refine JJ_fact 5 rfl sl_bytes ?_
      intro hl79
      have hl79 : rv40.Copies.length * 16 ≤ 140737488355328 := hl79
      refine JJ_slice 6 rfl os_slice ?_
      rintro a80 k81 rfl
      refine JJ_fact 6 rfl os_bytes ?_
      intro hl82
      have hl82 : (s2_5 ++ [rv40]).length * 88 ≤ 140737488355328 := hl82
      refine JJ_slice 7 rfl sl_slice ?_
      rintro a83 k84 rfl
      refine JJ_fact 7 rfl sl_bytes ?_
      intro hl85
      have hl85 : rv46.Words.length * 8 ≤ 140737488355328 := hl85
      refine JJ_slice 8 rfl os_slice ?_
      rintro a86 k87 rfl
      refine JJ_fact 8 rfl os_bytes ?_
      intro hl88
      have hl88 : (s3_6 ++ [rv46]).length * 32 ≤ 140737488355328 := hl88
      refine JK_blk ?_
      refine JK_region ?_
      refine JO_q rfl rfl rfl (OpV.move rfl rfl) ?_
      refine JO_q rfl rfl rfl (OpV.add rfl rfl rfl (by unfold i64ok; omega)) ?_
      refine JO_q rfl rfl rfl (OpV.assign rfl rfl) ?_
      refine JO_nil ?_
      refine JK_goal (r27, (s1_4 ++ [[(i_7 - 1)]]), (s2_5 ++ [rv40]), (s3_6 ++ [rv46]), (i_7 + 1), a68, k69, a80, k81, a86, k87) ⟨(by rw [← hM14]; simp only [flqlaw14_line_L0, h25, h28, hg41, hg47, cond_true, cond_false, Bool.not_true, Bool.not_false]), (by omega), (by omega), (by omega), (by omega), (by first | omega | (simp only [List.length_set, List.length_append, List.length_cons, List.length_nil, List.length_replicate, List.length_take, List.length_drop]; omega) | assumption), (by first | omega | (simp only [List.length_set, List.length_append, List.length_cons, List.length_nil, List.length_replicate, List.length_take, List.length_drop]; omega) | assumption), (by first | omega | (simp only [List.length_set, List.length_append, List.length_cons, List.length_nil, List.length_replicate, List.length_take, List.length_drop]; omega) | assumption)⟩ (by show r27 < r27 + 1; omega) (Env.sub_all rfl) (Ent.take (is := [8, 6, 2, 6, 0]) rfl)
    · skip
      have g89 : ¬ (0 < i_7) := of_decide_eq_false h28
      refine JK_skip ?_
      refine JJ_fact 3 rfl isP_Cl ?_
      intro hp90
      refine JJ_addFact hp90 ?_
      refine letv (flqref1_Identity 0) fun rv97 hg98 => ?_
      refine letv (flqref1_Empty 0) fun rv103 hg104 => ?_
      have hn93 : ((s1_4 ++ [[]]) : List (List Int)).length = (s1_4 : List (List Int)).length + ([[]] : List (List Int)).length := List.length_append
      have hn101 : ((s2_5 ++ [rv97]) : List GTransfer).length = (s2_5 : List GTransfer).length + ([rv97] : List GTransfer).length := List.length_append
      have hn107 : ((s3_6 ++ [rv103]) : List GSet).length = (s3_6 : List GSet).length + ([rv103] : List GSet).length := List.length_append
      refine JK_drawJ [0, 1, 0, 4, 15, 0, 32, 31, 159, 511, 0, 1024, 1023, 5119, 16383, 3199, 65535, 131071, 262143, 524287, 1048575] [none, some 14, some 9, some 4, some 16] fmix ?_
      refine JD_v [0] (wn rfl) rfl rfl (OpV.fieldAddr rfl rfl fo27_1 (i := 0) rfl (isPtr_fact _)) ?_
      refine JD_v [4] (wn rfl) rfl rfl (OpV.loadF rfl rfl sh23 (i := 0) rfl (reads_Cl _ _) rfl) ?_
      refine JD_v [] (wn rfl) rfl rfl (OpV.move rfl rfl) ?_
      refine JD_x [] [3] (fun lG => ((lG.getD 0 []).getD 0 undef)) [⟨some 3, some 4, [3], fun lG => Cr ((lG.getD 0 []).getD 0 undef) 1 [.slice none 0 0]⟩] (wn rfl) rfl rfl rfl (fun G => by refine OpX.n3 (A' := []) (V' := fun g => (g.getD 0 undef)) (B' := fun g => [Cr (g.getD 0 undef) 1 [.slice none 0 0]]) (by kernel_rfl) (by kernel_rfl) (by kernel_rfl) ?_; refine OpX.postR (OpX.ofA (by intro _ _ h; cases h) (OpA.buildSliceV [.slice none 0 0] [.slice none 0 0] rfl sl23 sz23 rfl (Env.evp_map rfl) rfl rfl rfl rfl)) (fun g => ?_); exact Ent.take (is := [0]) rfl) ?_
      refine JD_x [3, 6] [4] (fun lG => ((lG.getD 0 []).getD 0 undef)) [⟨some 4, none, [4], fun lG => os (((lG.getD 0 []).getD 0 undef)) ((s1_4 ++ [[]]) : List (List Int))⟩] (wn rfl) rfl rfl rfl (fun G => by refine OpX.n3 (A' := [os (.slice a8 s1_4.length k9) (s1_4 : List (List Int)), Cr ((G 3).getD 0 undef) 1 [.slice none 0 0]]) (V' := fun g => (g.getD 0 undef)) (B' := fun g => [os ((g.getD 0 undef)) ((s1_4 ++ [[]]) : List (List Int))]) (by kernel_rfl) (by kernel_rfl) (by kernel_rfl) ?_; refine OpX.pre [1] rfl (Ent.cr1 (α := List Int) (A := []) _ [] _ (Nat.le_of_ble_eq_true rfl) (fun _ => ⟨_, rfl, slrd_nil⟩)) ?_; refine OpX.seeL (L' := [(17, .slice a8 s1_4.length k9), (19, ((G 3).getD 0 undef))]) (Env.sub_all (by kernel_rfl)) ?_; refine OpX.postR (OpX.ofA (by intro _ _ h; cases h) (OpA.frame [1, 0] rfl (OpA.appO (α := List Int) (xs := s1_4) (ys := [[]]) rfl rfl rfl sl23 sl23 sz23 rfl rfl rfl (by show (_ + _) * 24 ≤ 140737488355328; first | omega | (simp only [List.length_set, List.length_append, List.length_cons, List.length_nil, List.length_replicate, List.length_take, List.length_drop]; omega) | (simp only [List.length_set, List.length_append, List.length_cons, List.length_nil, List.length_replicate, List.length_take, List.length_drop] at *; omega))))) (fun g => ?_); exact Ent.take (is := [0]) rfl) ?_
      refine JD_v [0] (wn rfl) rfl rfl (OpV.fieldAddr rfl rfl fo27_2 (i := 0) rfl (isPtr_fact _)) ?_
      refine JD_v [4] (wn rfl) rfl rfl (OpV.loadF rfl rfl sh24 (i := 0) rfl (reads_Cl _ _) rfl) ?_
      refine JD_x [] [7] (fun lG => .agg #[.int .i64 rv97.Gen.Width, ((lG.getD 0 []).getD 0 undef), .int .i64 rv97.Kill.Width, ((lG.getD 0 []).getD 1 undef), ((lG.getD 0 []).getD 2 undef)]) [⟨some 7, none, [], fun lG => SP.fact (i64ok rv97.Gen.Width ∧ i64ok rv97.Kill.Width)⟩, ⟨some 7, none, [7], fun lG => sl (((lG.getD 0 []).getD 0 undef)) (rv97.Gen.Words : List (BitVec 64))⟩, ⟨some 7, none, [7], fun lG => sl (((lG.getD 0 []).getD 1 undef)) (rv97.Kill.Words : List (BitVec 64))⟩, ⟨some 7, none, [7], fun lG => sl (((lG.getD 0 []).getD 2 undef)) (rv97.Copies : List GCopy)⟩] (wn rfl) rfl rfl rfl (fun G => by refine OpX.n3 (A' := []) (V' := fun g => .agg #[.int .i64 rv97.Gen.Width, (g.getD 0 undef), .int .i64 rv97.Kill.Width, (g.getD 1 undef), (g.getD 2 undef)]) (B' := fun g => [SP.fact (i64ok rv97.Gen.Width ∧ i64ok rv97.Kill.Width), sl ((g.getD 0 undef)) (rv97.Gen.Words : List (BitVec 64)), sl ((g.getD 1 undef)) (rv97.Kill.Words : List (BitVec 64)), sl ((g.getD 2 undef)) (rv97.Copies : List GCopy)]) (by kernel_rfl) (by kernel_rfl) (by kernel_rfl) ?_; refine OpX.postR (OpX.frame [] rfl (OpX.ofC (fun g => [g.1, g.2.1, g.2.2]) (fun l => (l.getD 0 undef, l.getD 1 undef, l.getD 2 undef)) (fun _ => rfl) (by intro _ _ h; cases h) (OpC.fn rfl ca41 rfl) (fn41 0 (by (try dsimp only) <;> first | (unfold i64ok; omega) | omega | assumption) (by (try dsimp only) <;> first | (unfold i64ok; omega) | omega | assumption) rv97 hg98))) (fun g => ?_); exact Ent.take (is := [0, 1, 2, 3]) rfl) ?_
      refine JD_x [] [8] (fun lG => ((lG.getD 0 []).getD 0 undef)) [⟨some 8, some 9, [7, 8], fun lG => Cr ((lG.getD 1 []).getD 0 undef) 1 [.int .i64 rv97.Gen.Width, ((lG.getD 0 []).getD 0 undef), .int .i64 rv97.Kill.Width, ((lG.getD 0 []).getD 1 undef), ((lG.getD 0 []).getD 2 undef)]⟩] (wn rfl) rfl rfl rfl (fun G => by refine OpX.n3 (A' := []) (V' := fun g => (g.getD 0 undef)) (B' := fun g => [Cr (g.getD 0 undef) 1 [.int .i64 rv97.Gen.Width, ((G 7).getD 0 undef), .int .i64 rv97.Kill.Width, ((G 7).getD 1 undef), ((G 7).getD 2 undef)]]) (by kernel_rfl) (by kernel_rfl) (by kernel_rfl) ?_; refine OpX.seeL (L' := [(23, .agg #[.int .i64 rv97.Gen.Width, ((G 7).getD 0 undef), .int .i64 rv97.Kill.Width, ((G 7).getD 1 undef), ((G 7).getD 2 undef)])]) (Env.sub_all (by kernel_rfl)) ?_; refine OpX.postR (OpX.ofA (by intro _ _ h; cases h) (OpA.buildSliceV [.agg #[.int .i64 rv97.Gen.Width, ((G 7).getD 0 undef), .int .i64 rv97.Kill.Width, ((G 7).getD 1 undef), ((G 7).getD 2 undef)]] [.int .i64 rv97.Gen.Width, ((G 7).getD 0 undef), .int .i64 rv97.Kill.Width, ((G 7).getD 1 undef), ((G 7).getD 2 undef)] rfl sl24 sz24 rfl (Env.evp_map rfl) rfl rfl rfl rfl)) (fun g => ?_); exact Ent.take (is := [0]) rfl) ?_
      refine JD_x [2, 8, 9, 10, 11, 12] [9] (fun lG => ((lG.getD 0 []).getD 0 undef)) [⟨some 9, none, [9], fun lG => os (((lG.getD 0 []).getD 0 undef)) ((s2_5 ++ [rv97]) : List GTransfer)⟩] (wn rfl) rfl rfl rfl (fun G => by refine OpX.n3 (A' := [os (.slice a10 s2_5.length k11) (s2_5 : List GTransfer), SP.fact (i64ok rv97.Gen.Width ∧ i64ok rv97.Kill.Width), sl (((G 7).getD 0 undef)) (rv97.Gen.Words : List (BitVec 64)), sl (((G 7).getD 1 undef)) (rv97.Kill.Words : List (BitVec 64)), sl (((G 7).getD 2 undef)) (rv97.Copies : List GCopy), Cr ((G 8).getD 0 undef) 1 [.int .i64 rv97.Gen.Width, ((G 7).getD 0 undef), .int .i64 rv97.Kill.Width, ((G 7).getD 1 undef), ((G 7).getD 2 undef)]]) (V' := fun g => (g.getD 0 undef)) (B' := fun g => [SP.fact (i64ok rv97.Gen.Width ∧ i64ok rv97.Kill.Width), sl (((G 7).getD 0 undef)) (rv97.Gen.Words : List (BitVec 64)), sl (((G 7).getD 1 undef)) (rv97.Kill.Words : List (BitVec 64)), sl (((G 7).getD 2 undef)) (rv97.Copies : List GCopy), os ((g.getD 0 undef)) ((s2_5 ++ [rv97]) : List GTransfer)]) (by kernel_rfl) (by kernel_rfl) (by kernel_rfl) ?_; refine OpX.fact 1 rfl (fun h => h) ?_; rintro ⟨he108, he109⟩; have he108 : -9223372036854775808 ≤ rv97.Gen.Width ∧ rv97.Gen.Width ≤ 9223372036854775807 := he108; have he109 : -9223372036854775808 ≤ rv97.Kill.Width ∧ rv97.Kill.Width ≤ 9223372036854775807 := he109; refine OpX.pre [5, 2, 3, 4] rfl (Ent.cr1 (α := GTransfer) (A := [sl (((G 7).getD 0 undef)) (rv97.Gen.Words : List (BitVec 64)), sl (((G 7).getD 1 undef)) (rv97.Kill.Words : List (BitVec 64)), sl (((G 7).getD 2 undef)) (rv97.Copies : List GCopy)]) _ rv97 _ (Nat.le_of_ble_eq_true rfl) (fun h => ⟨_, _, _, rfl, (by unfold i64ok; first | omega | (dsimp only; omega)), sepAll_get (i := 0) rfl h, (by unfold i64ok; first | omega | (dsimp only; omega)), sepAll_get (i := 1) rfl h, sepAll_get (i := 2) rfl h⟩)) ?_; refine OpX.seeL (L' := [(22, .slice a10 s2_5.length k11), (24, ((G 8).getD 0 undef))]) (Env.sub_all (by kernel_rfl)) ?_; refine OpX.postR (OpX.ofA (by intro _ _ h; cases h) (OpA.frame [4, 0] rfl (OpA.appO (α := GTransfer) (xs := s2_5) (ys := [rv97]) rfl rfl rfl sl24 sl24 sz24 rfl rfl rfl (by show (_ + _) * 88 ≤ 140737488355328; first | omega | (simp only [List.length_set, List.length_append, List.length_cons, List.length_nil, List.length_replicate, List.length_take, List.length_drop]; omega) | (simp only [List.length_set, List.length_append, List.length_cons, List.length_nil, List.length_replicate, List.length_take, List.length_drop] at *; omega))))) (fun g => ?_); exact Ent.take (is := [4, 1, 2, 3, 0]) rfl) ?_
      refine JD_v [0] (wn rfl) rfl rfl (OpV.fieldAddr rfl rfl fo27_3 (i := 0) rfl (isPtr_fact _)) ?_
      refine JD_v [4] (wn rfl) rfl rfl (OpV.loadF rfl rfl sh25 (i := 0) rfl (reads_Cl _ _) rfl) ?_
      refine JD_x [8] [12] (fun lG => .agg #[.int .i64 rv103.Width, ((lG.getD 0 []).getD 0 undef)]) [⟨some 12, none, [], fun lG => SP.fact (i64ok rv103.Width ∧ (rv103.Width = 0) ∧ (rv103.Words.length = (((0 : Int) + 63) / 64).toNat))⟩, ⟨some 12, some 14, [12], fun lG => os (((lG.getD 0 []).getD 0 undef)) (rv103.Words : List (BitVec 64))⟩] (wn rfl) rfl rfl rfl (fun G => by refine OpX.n3 (A' := [SP.fact (i64ok rv97.Gen.Width ∧ i64ok rv97.Kill.Width)]) (V' := fun g => .agg #[.int .i64 rv103.Width, (g.getD 0 undef)]) (B' := fun g => [SP.fact (i64ok rv97.Gen.Width ∧ i64ok rv97.Kill.Width), SP.fact (i64ok rv103.Width ∧ (rv103.Width = 0) ∧ (rv103.Words.length = (((0 : Int) + 63) / 64).toNat)), os ((g.getD 0 undef)) (rv103.Words : List (BitVec 64))]) (by kernel_rfl) (by kernel_rfl) (by kernel_rfl) ?_; refine OpX.fact 0 rfl (fun h => h) ?_; rintro ⟨he110, he111⟩; have he110 : -9223372036854775808 ≤ rv97.Gen.Width ∧ rv97.Gen.Width ≤ 9223372036854775807 := he110; have he111 : -9223372036854775808 ≤ rv97.Kill.Width ∧ rv97.Kill.Width ≤ 9223372036854775807 := he111; refine OpX.postR (OpX.frame [] rfl (OpX.ofC (fun g => [g]) (fun l => l.getD 0 undef) (fun _ => rfl) (by intro _ _ h; cases h) (OpC.fn rfl ca19 rfl) (fn19 0 (by (try dsimp only) <;> first | (unfold i64ok; omega) | omega | assumption) (by (try dsimp only) <;> first | (unfold i64ok; omega) | omega | assumption) rv103 hg104))) (fun g => ?_); exact Ent.take (is := [2, 0, 1]) rfl) ?_
      refine JD_x [] [13] (fun lG => ((lG.getD 0 []).getD 0 undef)) [⟨some 13, some 14, [12, 13], fun lG => Cr ((lG.getD 1 []).getD 0 undef) 1 [.int .i64 rv103.Width, ((lG.getD 0 []).getD 0 undef)]⟩] (wn rfl) rfl rfl rfl (fun G => by refine OpX.n3 (A' := []) (V' := fun g => (g.getD 0 undef)) (B' := fun g => [Cr (g.getD 0 undef) 1 [.int .i64 rv103.Width, ((G 12).getD 0 undef)]]) (by kernel_rfl) (by kernel_rfl) (by kernel_rfl) ?_; refine OpX.seeL (L' := [(28, .agg #[.int .i64 rv103.Width, ((G 12).getD 0 undef)])]) (Env.sub_all (by kernel_rfl)) ?_; refine OpX.postR (OpX.ofA (by intro _ _ h; cases h) (OpA.buildSliceV [.agg #[.int .i64 rv103.Width, ((G 12).getD 0 undef)]] [.int .i64 rv103.Width, ((G 12).getD 0 undef)] rfl sl25 sz25 rfl (Env.evp_map rfl) rfl rfl rfl rfl)) (fun g => ?_); exact Ent.take (is := [0]) rfl) ?_
      refine JD_x [1, 8, 14, 15, 16] [14] (fun lG => ((lG.getD 0 []).getD 0 undef)) [⟨some 14, none, [12], fun lG => sl (((lG.getD 0 []).getD 0 undef)) (rv103.Words : List (BitVec 64))⟩, ⟨some 14, none, [14], fun lG => os (((lG.getD 0 []).getD 0 undef)) ((s3_6 ++ [rv103]) : List GSet)⟩] (wn rfl) rfl rfl rfl (fun G => by refine OpX.n3 (A' := [os (.slice a12 s3_6.length k13) (s3_6 : List GSet), SP.fact (i64ok rv97.Gen.Width ∧ i64ok rv97.Kill.Width), SP.fact (i64ok rv103.Width ∧ (rv103.Width = 0) ∧ (rv103.Words.length = (((0 : Int) + 63) / 64).toNat)), os (((G 12).getD 0 undef)) (rv103.Words : List (BitVec 64)), Cr ((G 13).getD 0 undef) 1 [.int .i64 rv103.Width, ((G 12).getD 0 undef)]]) (V' := fun g => (g.getD 0 undef)) (B' := fun g => [SP.fact (i64ok rv97.Gen.Width ∧ i64ok rv97.Kill.Width), SP.fact (i64ok rv103.Width ∧ (rv103.Width = 0) ∧ (rv103.Words.length = (((0 : Int) + 63) / 64).toNat)), sl (((G 12).getD 0 undef)) (rv103.Words : List (BitVec 64)), os ((g.getD 0 undef)) ((s3_6 ++ [rv103]) : List GSet)]) (by kernel_rfl) (by kernel_rfl) (by kernel_rfl) ?_; refine OpX.fact 1 rfl (fun h => h) ?_; rintro ⟨he112, he113⟩; have he112 : -9223372036854775808 ≤ rv97.Gen.Width ∧ rv97.Gen.Width ≤ 9223372036854775807 := he112; have he113 : -9223372036854775808 ≤ rv97.Kill.Width ∧ rv97.Kill.Width ≤ 9223372036854775807 := he113; refine OpX.fact 2 rfl (fun h => h) ?_; rintro ⟨he114, he115, he116⟩; have he114 : -9223372036854775808 ≤ rv103.Width ∧ rv103.Width ≤ 9223372036854775807 := he114; refine OpX.pre [3] rfl (Ent.freeze _ _) ?_; refine OpX.pre [4, 0] rfl (Ent.cr1 (α := GSet) (A := [sl (((G 12).getD 0 undef)) (rv103.Words : List (BitVec 64))]) _ rv103 _ (Nat.le_of_ble_eq_true rfl) (fun h => ⟨_, rfl, (by unfold i64ok; first | omega | (dsimp only; omega)), sepAll_get (i := 0) rfl h⟩)) ?_; refine OpX.seeL (L' := [(27, .slice a12 s3_6.length k13), (29, ((G 13).getD 0 undef))]) (Env.sub_all (by kernel_rfl)) ?_; refine OpX.postR (OpX.ofA (by intro _ _ h; cases h) (OpA.frame [3, 0] rfl (OpA.appO (α := GSet) (xs := s3_6) (ys := [rv103]) rfl rfl rfl sl25 sl25 sz25 rfl rfl rfl (by show (_ + _) * 32 ≤ 140737488355328; first | omega | (simp only [List.length_set, List.length_append, List.length_cons, List.length_nil, List.length_replicate, List.length_take, List.length_drop]; omega) | (simp only [List.length_set, List.length_append, List.length_cons, List.length_nil, List.length_replicate, List.length_take, List.length_drop] at *; omega))))) (fun g => ?_); exact Ent.take (is := [3, 4, 1, 0]) rfl) ?_
      refine JD_v [0] (wn rfl) rfl rfl (OpV.fieldAddr rfl rfl fo27_1 (i := 0) rfl (isPtr_fact _)) ?_
      refine JD_x0 [4, 7] [⟨some 16, some 18, [4], fun lG => Cl p2 [.int .i64 0, ((lG.getD 0 []).getD 0 undef), .slice a10 s2_5.length k11, .slice a12 s3_6.length k13]⟩] (wn rfl) rfl rfl rfl (fun G => by refine OpX.n3 (A' := [Cl p2 [.int .i64 0, .slice a8 s1_4.length k9, .slice a10 s2_5.length k11, .slice a12 s3_6.length k13], os (((G 4).getD 0 undef)) ((s1_4 ++ [[]]) : List (List Int))]) (V' := fun g => undef) (B' := fun g => [os (((G 4).getD 0 undef)) ((s1_4 ++ [[]]) : List (List Int)), Cl p2 [.int .i64 0, ((G 4).getD 0 undef), .slice a10 s2_5.length k11, .slice a12 s3_6.length k13]]) (by kernel_rfl) (by kernel_rfl) (by kernel_rfl) ?_; refine OpX.fact 1 rfl os_one ?_; intro ho117; refine OpX.seeL (L' := [(20, ((G 4).getD 0 undef)), (31, fptr p2 1)]) (Env.sub_all (by kernel_rfl)) ?_; refine OpX.postR (OpX.ofS (by intro _ _ h; cases h) rfl (OpS.frame [0] rfl (OpS.storeClF [((G 4).getD 0 undef)] [.int .i64 0, ((G 4).getD 0 undef), .slice a10 s2_5.length k11, .slice a12 s3_6.length k13] rfl rfl rfl sh23 (cells_of_one ho117) rfl (by simp only [List.all_cons, List.all_nil, ho117, Bool.and_true, Bool.true_and] <;> rfl) (Nat.le_of_ble_eq_true rfl) rfl))) (fun g => ?_); exact Ent.take (is := [1, 0]) rfl) ?_
      refine JD_v [0] (wn rfl) rfl rfl (OpV.fieldAddr rfl rfl fo27_2 (i := 0) rfl (isPtr_fact _)) ?_
      refine JD_x0 [13, 19] [⟨some 18, some 20, [4, 9], fun lG => Cl p2 [.int .i64 0, ((lG.getD 0 []).getD 0 undef), ((lG.getD 1 []).getD 0 undef), .slice a12 s3_6.length k13]⟩] (wn rfl) rfl rfl rfl (fun G => by refine OpX.n3 (A' := [os (((G 9).getD 0 undef)) ((s2_5 ++ [rv97]) : List GTransfer), Cl p2 [.int .i64 0, ((G 4).getD 0 undef), .slice a10 s2_5.length k11, .slice a12 s3_6.length k13]]) (V' := fun g => undef) (B' := fun g => [os (((G 9).getD 0 undef)) ((s2_5 ++ [rv97]) : List GTransfer), Cl p2 [.int .i64 0, ((G 4).getD 0 undef), ((G 9).getD 0 undef), .slice a12 s3_6.length k13]]) (by kernel_rfl) (by kernel_rfl) (by kernel_rfl) ?_; refine OpX.fact 0 rfl os_one ?_; intro ho118; refine OpX.seeL (L' := [(25, ((G 9).getD 0 undef)), (32, fptr p2 2)]) (Env.sub_all (by kernel_rfl)) ?_; refine OpX.postR (OpX.ofS (by intro _ _ h; cases h) rfl (OpS.frame [1] rfl (OpS.storeClF [((G 9).getD 0 undef)] [.int .i64 0, ((G 4).getD 0 undef), ((G 9).getD 0 undef), .slice a12 s3_6.length k13] rfl rfl rfl sh24 (cells_of_one ho118) rfl (by simp only [List.all_cons, List.all_nil, ho118, Bool.and_true, Bool.true_and] <;> rfl) (Nat.le_of_ble_eq_true rfl) rfl))) (fun g => ?_); exact Ent.take (is := [1, 0]) rfl) ?_
      refine JD_v [0] (wn rfl) rfl rfl (OpV.fieldAddr rfl rfl fo27_3 (i := 0) rfl (isPtr_fact _)) ?_
      refine JD_x0 [18, 20] [⟨some 20, none, [4, 9, 14], fun lG => Cl p2 [.int .i64 0, ((lG.getD 0 []).getD 0 undef), ((lG.getD 1 []).getD 0 undef), ((lG.getD 2 []).getD 0 undef)]⟩] (wn rfl) rfl rfl rfl (fun G => by refine OpX.n3 (A' := [os (((G 14).getD 0 undef)) ((s3_6 ++ [rv103]) : List GSet), Cl p2 [.int .i64 0, ((G 4).getD 0 undef), ((G 9).getD 0 undef), .slice a12 s3_6.length k13]]) (V' := fun g => undef) (B' := fun g => [os (((G 14).getD 0 undef)) ((s3_6 ++ [rv103]) : List GSet), Cl p2 [.int .i64 0, ((G 4).getD 0 undef), ((G 9).getD 0 undef), ((G 14).getD 0 undef)]]) (by kernel_rfl) (by kernel_rfl) (by kernel_rfl) ?_; refine OpX.fact 0 rfl os_one ?_; intro ho119; refine OpX.seeL (L' := [(30, ((G 14).getD 0 undef)), (33, fptr p2 3)]) (Env.sub_all (by kernel_rfl)) ?_; refine OpX.postR (OpX.ofS (by intro _ _ h; cases h) rfl (OpS.frame [1] rfl (OpS.storeClF [((G 14).getD 0 undef)] [.int .i64 0, ((G 4).getD 0 undef), ((G 9).getD 0 undef), ((G 14).getD 0 undef)] rfl rfl rfl sh25 (cells_of_one ho119) rfl (by simp only [List.all_cons, List.all_nil, ho119, Bool.and_true, Bool.true_and] <;> rfl) (Nat.le_of_ble_eq_true rfl) rfl))) (fun g => ?_); exact Ent.take (is := [1, 0]) rfl) ?_
      refine JD_nil ⟨by kernel_rfl, fun G => ?_⟩
      refine JJ_weaken (L' := [(0, .int .i64 n), (2, p1), (3, p2), (4, .int .i64 i_7)]) (A' := [SP.fact (isP p2), Cl p1 [.int .i64 0, .slice none 0 0, .slice none 0 0, .slice none 0 0], os (((G 4).getD 0 undef)) ((s1_4 ++ [[]]) : List (List Int)), SP.fact (i64ok rv97.Gen.Width ∧ i64ok rv97.Kill.Width), sl (((G 7).getD 0 undef)) (rv97.Gen.Words : List (BitVec 64)), sl (((G 7).getD 1 undef)) (rv97.Kill.Words : List (BitVec 64)), sl (((G 7).getD 2 undef)) (rv97.Copies : List GCopy), os (((G 9).getD 0 undef)) ((s2_5 ++ [rv97]) : List GTransfer), SP.fact (i64ok rv103.Width ∧ (rv103.Width = 0) ∧ (rv103.Words.length = (((0 : Int) + 63) / 64).toNat)), sl (((G 12).getD 0 undef)) (rv103.Words : List (BitVec 64)), os (((G 14).getD 0 undef)) ((s3_6 ++ [rv103]) : List GSet), Cl p2 [.int .i64 0, ((G 4).getD 0 undef), ((G 9).getD 0 undef), ((G 14).getD 0 undef)]]) (Env.sub_all (by kernel_rfl)) (Ent.of_eq (by kernel_rfl)) ?_
      generalize ((G 4).getD 0 undef) = c92
      generalize ((G 7).getD 0 undef) = c94
      generalize ((G 7).getD 1 undef) = c95
      generalize ((G 7).getD 2 undef) = c96
      generalize ((G 9).getD 0 undef) = c100
      generalize ((G 12).getD 0 undef) = c102
      generalize ((G 14).getD 0 undef) = c106
      refine JJ_fact 3 rfl (fun h => h) ?_
      rintro ⟨he120, he121⟩
      have he120 : -9223372036854775808 ≤ rv97.Gen.Width ∧ rv97.Gen.Width ≤ 9223372036854775807 := he120
      have he121 : -9223372036854775808 ≤ rv97.Kill.Width ∧ rv97.Kill.Width ≤ 9223372036854775807 := he121
      refine JJ_fact 8 rfl (fun h => h) ?_
      rintro ⟨he122, he123, he124⟩
      have he122 : -9223372036854775808 ≤ rv103.Width ∧ rv103.Width ≤ 9223372036854775807 := he122
      refine JJ_keep [1, 1, 2, 3, 4, 5, 6, 7, 7] rfl ?_
      refine JJ_slice 1 rfl os_slice ?_
      rintro a125 k126 rfl
      refine JJ_fact 1 rfl os_bytes ?_
      intro hl127
      have hl127 : (s1_4 ++ [[]]).length * 24 ≤ 140737488355328 := hl127
      refine JJ_slice 2 rfl sl_slice ?_
      rintro a128 k129 rfl
      refine JJ_fact 2 rfl sl_bytes ?_
      intro hl130
      have hl130 : rv97.Gen.Words.length * 8 ≤ 140737488355328 := hl130
      refine JJ_slice 3 rfl sl_slice ?_
      rintro a131 k132 rfl
      refine JJ_fact 3 rfl sl_bytes ?_
      intro hl133
      have hl133 : rv97.Kill.Words.length * 8 ≤ 140737488355328 := hl133
      refine JJ_slice 4 rfl sl_slice ?_
      rintro a134 k135 rfl
      refine JJ_fact 4 rfl sl_bytes ?_
      intro hl136
      have hl136 : rv97.Copies.length * 16 ≤ 140737488355328 := hl136
      refine JJ_slice 5 rfl os_slice ?_
      rintro a137 k138 rfl
      refine JJ_fact 5 rfl os_bytes ?_
      intro hl139
      have hl139 : (s2_5 ++ [rv97]).length * 88 ≤ 140737488355328 := hl139
      refine JJ_slice 6 rfl sl_slice ?_
      rintro a140 k141 rfl
      refine JJ_fact 6 rfl sl_bytes ?_
      intro hl142
      have hl142 : rv103.Words.length * 8 ≤ 140737488355328 := hl142
      refine JJ_slice 7 rfl os_slice ?_
      rintro a143 k144 rfl
      refine JJ_fact 7 rfl os_bytes ?_
      intro hl145
      have hl145 : (s3_6 ++ [rv103]).length * 32 ≤ 140737488355328 := hl145
      refine JK_blk ?_
      refine JK_region ?_
      refine JO_q rfl rfl rfl (OpV.move rfl rfl) ?_
      refine JO_q rfl rfl rfl (OpV.add rfl rfl rfl (by unfold i64ok; omega)) ?_
      refine JO_q rfl rfl rfl (OpV.assign rfl rfl) ?_
      refine JO_nil ?_
      refine JK_goal (r27, (s1_4 ++ [[]]), (s2_5 ++ [rv97]), (s3_6 ++ [rv103]), (i_7 + 1), a125, k126, a137, k138, a143, k144) ⟨(by rw [← hM14]; simp only [flqlaw14_line_L0, h25, h28, hg98, hg104, cond_true, cond_false, Bool.not_true, Bool.not_false]), (by omega), (by omega), (by omega), (by omega), (by first | omega | (simp only [List.length_set, List.length_append, List.length_cons, List.length_nil, List.length_replicate, List.length_take, List.length_drop]; omega) | assumption), (by first | omega | (simp only [List.length_set, List.length_append, List.length_cons, List.length_nil, List.length_replicate, List.length_take, List.length_drop]; omega) | assumption), (by first | omega | (simp only [List.length_set, List.length_append, List.length_cons, List.length_nil, List.length_replicate, List.length_take, List.length_drop]; omega) | assumption)⟩ (by show r27 < r27 + 1; omega) (Env.sub_all rfl) (Ent.take (is := [7, 5, 1, 5, 0]) rfl)
  · skip
    have g146 : ¬ (i_7 < n) := of_decide_eq_false h25
    obtain rfl : r3 = 0 := by omega
    refine JK_exit rfl ?_
    have hR147 : flqlaw14_line_L0 (((n : Int) - 0).toNat) [] [] [] 0 = (s1_4, s2_5, s3_6) := by
      rw [← hM14]; simp only [flqlaw14_line_L0, h25, cond_true, cond_false, Bool.not_true, Bool.not_false]
    refine JK_seq ?_
    refine JK_region ?_
    refine JO_q rfl rfl rfl (OpV.loadA rfl rfl sh27 (i := 3) rfl (reads_Cl _ _) rfl) ?_
    refine JO_store rfl rfl (OpS.frame [4] rfl (OpS.storeCl [.int .i64 0, .slice a8 s1_4.length k9, .slice a10 s2_5.length k11, .slice a12 s3_6.length k13] [.int .i64 0, .slice a8 s1_4.length k9, .slice a10 s2_5.length k11, .slice a12 s3_6.length k13] rfl rfl rfl sh27 rfl rfl rfl (Nat.le_of_ble_eq_true rfl) rfl)) ?_
    refine JO_nil ?_
    refine JJ_loc [3] rfl (Ent.freeze _ _) ?_
    refine JJ_loc [3] rfl (Ent.freeze _ _) ?_
    refine JJ_loc [3] rfl (Ent.freeze _ _) ?_
    have hq : rr = (GSystem.mk 0 s1_4 s2_5 s3_6) := hrr.symm.trans (by simp only [flqlaw14_line, h25, hR147, cond_true, cond_false, Bool.not_true, Bool.not_false])
    replace hrr := hrr.trans hq
    subst rr
    refine JK_return ((.slice a8 s1_4.length k9, .slice a10 s2_5.length k11, .slice a12 s3_6.length k13)) rfl (.cellN 3 rfl sh27 rfl (reads_Cl _ _) rfl .nil) rfl (by (try dsimp only) <;> first | omega | (unfold i64ok; omega) | (simp only [List.length_set, List.length_append, List.length_cons, List.length_nil, List.length_replicate, List.length_take, List.length_drop]; omega) | assumption | trivial) (Ent.take (is := [2, 1, 0]) rfl)
end Go.SL.G
namespace Go.SL.G
open Go Go.SL Go.Proofs
set_option maxHeartbeats 20000000 in
set_option maxRecDepth 100000 in
/- flowquery/flqlaw14.sane -/
theorem fn13  (rr : Bool) (hrr : flqlaw14_sane = rr) :
    FT Try.prog 13 #[] []
      (fun g : Unit => True)
      (fun g => .bool rr)
      (fun g => []) := by
  refine FT_intro (args := []) Try.func13 rfl rfl ?_
  intro w0 M0 F0
  refine JK_seq ?_
  refine JK_region ?_
  refine JO_q rfl rfl rfl (OpV.assign rfl rfl) ?_
  refine JO_nil ?_
  refine JK_seq ?_
  refine JK_region ?_
  refine letv (flqlaw14_line 4) fun rv4 hg5 => ?_
  have hc6 := fn29 4 (by (try dsimp only) <;> first | (unfold i64ok; omega) | omega | assumption) (by (try dsimp only) <;> first | (unfold i64ok; omega) | omega | assumption) rv4 hg5
  refine JO_call [] rfl rfl rfl (OpC.fn rfl ca29 rfl) (hc6) rfl ?_
  rintro ⟨c1, c2, c3⟩ he7
  have he7 : -9223372036854775808 ≤ rv4.Width ∧ rv4.Width ≤ 9223372036854775807 := he7
  refine JJ_slice 0 rfl sl_slice ?_
  rintro a8 k9 rfl
  refine JJ_fact 0 rfl sl_bytes ?_
  intro hl10
  have hl10 : rv4.Deps.length * 24 ≤ 140737488355328 := hl10
  refine JJ_slice 1 rfl sl_slice ?_
  rintro a11 k12 rfl
  refine JJ_fact 1 rfl sl_bytes ?_
  intro hl13
  have hl13 : rv4.Transfers.length * 88 ≤ 140737488355328 := hl13
  refine JJ_slice 2 rfl sl_slice ?_
  rintro a14 k15 rfl
  refine JJ_fact 2 rfl sl_bytes ?_
  intro hl16
  have hl16 : rv4.Boundary.length * 32 ≤ 140737488355328 := hl16
  refine JJ_loc [] rfl (Ent.slNil (α := Int)) ?_
  refine letv (cone_Of rv4 2 []) fun rv18 hg19 => ?_
  have hc20 := fn14 rv4 a8 k9 a11 k12 a14 k15 2 ([]) none 0 (by (try dsimp only) <;> first | (unfold i64ok; omega) | omega | assumption) (by (try dsimp only) <;> first | (unfold i64ok; omega) | omega | assumption) rv18 hg19
  refine JO_call [1, 2, 3, 0] rfl rfl rfl (OpC.fn rfl ca14 rfl) (hc20) rfl ?_
  rintro c17 ⟨he21, he22⟩
  have he21 : -9223372036854775808 ≤ rv18.2.1 ∧ rv18.2.1 ≤ 9223372036854775807 := he21
  have he22 : -9223372036854775808 ≤ rv18.2.2 ∧ rv18.2.2 ≤ 9223372036854775807 := he22
  refine JJ_slice 0 rfl sl_slice ?_
  rintro a23 k24 rfl
  refine JJ_fact 0 rfl sl_bytes ?_
  intro hl25
  have hl25 : rv18.1.length * 8 ≤ 140737488355328 := hl25
  refine JJ_fact 0 rfl sl_ok ?_
  intro ho26
  refine JO_q rfl rfl rfl (OpV.move rfl rfl) ?_
  refine JO_q rfl rfl rfl (OpV.extract rfl rfl rfl) ?_
  refine JO_q rfl rfl rfl (OpV.extract rfl rfl rfl) ?_
  refine JO_q rfl rfl rfl (OpV.extract rfl rfl rfl) ?_
  refine JO_q rfl rfl rfl (OpV.assign rfl rfl) ?_
  refine JO_q rfl rfl rfl (OpV.assign rfl rfl) ?_
  refine JO_q rfl rfl rfl (OpV.assign rfl rfl) ?_
  refine JO_nil ?_
  refine JK_seq ?_
  refine JK_region ?_
  have hc30 := fn29 4 (by (try dsimp only) <;> first | (unfold i64ok; omega) | omega | assumption) (by (try dsimp only) <;> first | (unfold i64ok; omega) | omega | assumption) rv4 hg5
  refine JO_call [] rfl rfl rfl (OpC.fn rfl ca29 rfl) (hc30) rfl ?_
  rintro ⟨c27, c28, c29⟩ he31
  have he31 : -9223372036854775808 ≤ rv4.Width ∧ rv4.Width ≤ 9223372036854775807 := he31
  refine JJ_slice 0 rfl sl_slice ?_
  rintro a32 k33 rfl
  refine JJ_slice 1 rfl sl_slice ?_
  rintro a34 k35 rfl
  refine JJ_slice 2 rfl sl_slice ?_
  rintro a36 k37 rfl
  refine JO_act rfl rfl rfl (OpA.buildSliceV [.int .i64 1] [.int .i64 1] rfl sl22 sz22 rfl (Env.evp_map rfl) rfl rfl rfl rfl) ?_
  intro c38
  refine JJ_slice 0 rfl Cr_slice ?_
  rintro a39 k40 rfl
  refine JJ_loc [0] rfl (Ent.crInt _ [1] _ _ rfl rfl (by intro x hx; rw [List.mem_singleton] at hx; subst hx; unfold i64ok; omega) (Nat.le_of_ble_eq_true rfl)) ?_
  refine JJ_loc [0] rfl (Ent.freeze _ _) ?_
  refine letv (cone_Of rv4 2 [1]) fun rv42 hg43 => ?_
  have hc44 := fn14 rv4 a32 k33 a34 k35 a36 k37 2 ([1]) a39 k40 (by (try dsimp only) <;> first | (unfold i64ok; omega) | omega | assumption) (by (try dsimp only) <;> first | (unfold i64ok; omega) | omega | assumption) rv42 hg43
  refine JO_call [1, 2, 3, 0] rfl rfl rfl (OpC.fn rfl ca14 rfl) (hc44) rfl ?_
  rintro c41 ⟨he45, he46⟩
  have he45 : -9223372036854775808 ≤ rv42.2.1 ∧ rv42.2.1 ≤ 9223372036854775807 := he45
  have he46 : -9223372036854775808 ≤ rv42.2.2 ∧ rv42.2.2 ≤ 9223372036854775807 := he46
  refine JJ_slice 0 rfl sl_slice ?_
  rintro a47 k48 rfl
  refine JJ_fact 0 rfl sl_bytes ?_
  intro hl49
  have hl49 : rv42.1.length * 8 ≤ 140737488355328 := hl49
  refine JJ_fact 0 rfl sl_ok ?_
  intro ho50
  refine JO_q rfl rfl rfl (OpV.move rfl rfl) ?_
  refine JO_q rfl rfl rfl (OpV.extract rfl rfl rfl) ?_
  refine JO_q rfl rfl rfl (OpV.extract rfl rfl rfl) ?_
  refine JO_q rfl rfl rfl (OpV.extract rfl rfl rfl) ?_
  refine JO_q rfl rfl rfl (OpV.assign rfl rfl) ?_
  refine JO_q rfl rfl rfl (OpV.assign rfl rfl) ?_
  refine JO_q rfl rfl rfl (OpV.assign rfl rfl) ?_
  refine JO_nil ?_
  refine JK_seq ?_
  refine JK_region ?_
  have hc54 := fn29 4 (by (try dsimp only) <;> first | (unfold i64ok; omega) | omega | assumption) (by (try dsimp only) <;> first | (unfold i64ok; omega) | omega | assumption) rv4 hg5
  refine JO_call [] rfl rfl rfl (OpC.fn rfl ca29 rfl) (hc54) rfl ?_
  rintro ⟨c51, c52, c53⟩ he55
  have he55 : -9223372036854775808 ≤ rv4.Width ∧ rv4.Width ≤ 9223372036854775807 := he55
  refine JJ_slice 0 rfl sl_slice ?_
  rintro a56 k57 rfl
  refine JJ_slice 1 rfl sl_slice ?_
  rintro a58 k59 rfl
  refine JJ_slice 2 rfl sl_slice ?_
  rintro a60 k61 rfl
  refine JO_act rfl rfl rfl (OpA.buildSliceV [.int .i64 2] [.int .i64 2] rfl sl22 sz22 rfl (Env.evp_map rfl) rfl rfl rfl rfl) ?_
  intro c62
  refine JJ_slice 0 rfl Cr_slice ?_
  rintro a63 k64 rfl
  refine JJ_loc [0] rfl (Ent.crInt _ [2] _ _ rfl rfl (by intro x hx; rw [List.mem_singleton] at hx; subst hx; unfold i64ok; omega) (Nat.le_of_ble_eq_true rfl)) ?_
  refine JJ_loc [0] rfl (Ent.freeze _ _) ?_
  refine letv (cone_Of rv4 2 [2]) fun rv66 hg67 => ?_
  have hc68 := fn14 rv4 a56 k57 a58 k59 a60 k61 2 ([2]) a63 k64 (by (try dsimp only) <;> first | (unfold i64ok; omega) | omega | assumption) (by (try dsimp only) <;> first | (unfold i64ok; omega) | omega | assumption) rv66 hg67
  refine JO_call [1, 2, 3, 0] rfl rfl rfl (OpC.fn rfl ca14 rfl) (hc68) rfl ?_
  rintro c65 ⟨he69, he70⟩
  have he69 : -9223372036854775808 ≤ rv66.2.1 ∧ rv66.2.1 ≤ 9223372036854775807 := he69
  have he70 : -9223372036854775808 ≤ rv66.2.2 ∧ rv66.2.2 ≤ 9223372036854775807 := he70
  refine JJ_slice 0 rfl sl_slice ?_
  rintro a71 k72 rfl
  refine JJ_fact 0 rfl sl_bytes ?_
  intro hl73
  have hl73 : rv66.1.length * 8 ≤ 140737488355328 := hl73
  refine JJ_fact 0 rfl sl_ok ?_
  intro ho74
  refine JO_q rfl rfl rfl (OpV.move rfl rfl) ?_
  refine JO_q rfl rfl rfl (OpV.extract rfl rfl rfl) ?_
  refine JO_q rfl rfl rfl (OpV.extract rfl rfl rfl) ?_
  refine JO_q rfl rfl rfl (OpV.extract rfl rfl rfl) ?_
  refine JO_q rfl rfl rfl (OpV.assign rfl rfl) ?_
  refine JO_q rfl rfl rfl (OpV.assign rfl rfl) ?_
  refine JO_q rfl rfl rfl (OpV.assign rfl rfl) ?_
  refine JO_nil ?_
  refine JK_seq ?_
  refine JK_region ?_
  refine JO_q rfl rfl rfl (OpV.move rfl rfl) ?_
  refine JO_q rfl rfl rfl (OpV.eql rfl rfl rfl) ?_
  refine JO_q rfl rfl rfl (OpV.move rfl rfl) ?_
  refine JJ_split 32 rfl (fun (h75 : (rv18.2.2 == 0) = true) => ?_) (fun (h75 : (rv18.2.2 == 0) = false) => ?_)
  · skip
    have g76 : rv18.2.2 = 0 := eq_of_beq h75
    refine JO_taken rfl rfl rfl rfl ?_
    refine JO_q rfl rfl rfl (OpV.move rfl rfl) ?_
    refine JO_taken rfl rfl rfl rfl ?_
    refine JO_q rfl rfl rfl (OpV.eql rfl rfl rfl) ?_
    refine JO_q rfl rfl rfl (OpV.pickT rfl rfl rfl) ?_
    refine JO_q rfl rfl rfl (OpV.move rfl rfl) ?_
    refine JJ_split 36 rfl (fun (h77 : (rv42.2.2 == 0) = true) => ?_) (fun (h77 : (rv42.2.2 == 0) = false) => ?_)
    · skip
      have g78 : rv42.2.2 = 0 := eq_of_beq h77
      refine JO_taken rfl rfl rfl rfl ?_
      refine JO_q rfl rfl rfl (OpV.move rfl rfl) ?_
      refine JO_taken rfl rfl rfl rfl ?_
      refine JO_q rfl rfl rfl (OpV.eql rfl rfl rfl) ?_
      refine JO_q rfl rfl rfl (OpV.pickT rfl rfl rfl) ?_
      refine JO_q rfl rfl rfl (OpV.move rfl rfl) ?_
      refine JJ_split 40 rfl (fun (h79 : (rv66.2.2 == 0) = true) => ?_) (fun (h79 : (rv66.2.2 == 0) = false) => ?_)
      · skip
        have g80 : rv66.2.2 = 0 := eq_of_beq h79
        refine JO_taken rfl rfl rfl rfl ?_
        refine JO_q rfl rfl rfl (OpV.move rfl rfl) ?_
        refine JO_taken rfl rfl rfl rfl ?_
        refine JO_act rfl rfl rfl (OpA.buildSliceV [.int .i64 2, .int .i64 1, .int .i64 0] [.int .i64 2, .int .i64 1, .int .i64 0] rfl sl22 sz22 rfl (Env.evp_map rfl) rfl rfl rfl rfl) ?_
        intro c81
        refine JJ_slice 0 rfl Cr_slice ?_
        rintro a82 k83 rfl
        refine JO_taken rfl rfl rfl rfl ?_
        refine JJ_loc [0] rfl (Ent.crInt _ [2, 1, 0] _ _ rfl rfl (by intro x hx; simp only [List.mem_cons, List.not_mem_nil, or_false] at hx; rcases hx with rfl | rfl | rfl <;> (unfold i64ok; omega)) (Nat.le_of_ble_eq_true rfl)) ?_
        refine letv (flqref7_Ints rv18.1 [2, 1, 0]) fun rv84 hg85 => ?_
        refine JO_call [0, 10] rfl rfl rfl (OpC.fn rfl ca25 rfl) (FT_borrow (A := _) (fun _ _ h => by cases h) (FT_ent (Ent.take (is := [1, 0]) rfl) (fn25 rv18.1 a23 k24 ([2, 1, 0]) a82 k83 rv84 hg85))) rfl ?_
        rintro - -
        refine JO_q rfl rfl rfl (OpV.pickT rfl rfl rfl) ?_
        refine JO_q rfl rfl rfl (OpV.move rfl rfl) ?_
        refine JJ_split 45 rfl (fun (h86 : rv84 = true) => ?_) (fun (h86 : rv84 = false) => ?_)
        · skip
          refine JO_taken rfl rfl rfl rfl ?_
          refine JO_q rfl rfl rfl (OpV.move rfl rfl) ?_
          refine JO_taken rfl rfl rfl rfl ?_
          refine JO_q rfl rfl rfl (OpV.eql rfl rfl rfl) ?_
          refine JO_q rfl rfl rfl (OpV.pickT rfl rfl rfl) ?_
          refine JO_q rfl rfl rfl (OpV.move rfl rfl) ?_
          refine JJ_split 49 rfl (fun (h88 : (rv18.2.1 == 5) = true) => ?_) (fun (h88 : (rv18.2.1 == 5) = false) => ?_)
          · skip
            have g89 : rv18.2.1 = 5 := eq_of_beq h88
            refine JO_taken rfl rfl rfl rfl ?_
            refine JO_q rfl rfl rfl (OpV.move rfl rfl) ?_
            refine JO_taken rfl rfl rfl rfl ?_
            refine JO_act rfl rfl rfl (OpA.buildSliceV [.int .i64 2, .int .i64 1] [.int .i64 2, .int .i64 1] rfl sl22 sz22 rfl (Env.evp_map rfl) rfl rfl rfl rfl) ?_
            intro c90
            refine JJ_slice 0 rfl Cr_slice ?_
            rintro a91 k92 rfl
            refine JO_taken rfl rfl rfl rfl ?_
            refine JJ_loc [0] rfl (Ent.crInt _ [2, 1] _ _ rfl rfl (by intro x hx; simp only [List.mem_cons, List.not_mem_nil, or_false] at hx; rcases hx with rfl | rfl <;> (unfold i64ok; omega)) (Nat.le_of_ble_eq_true rfl)) ?_
            refine letv (flqref7_Ints rv42.1 [2, 1]) fun rv93 hg94 => ?_
            refine JO_call [0, 6] rfl rfl rfl (OpC.fn rfl ca25 rfl) (FT_borrow (A := _) (fun _ _ h => by cases h) (FT_ent (Ent.take (is := [1, 0]) rfl) (fn25 rv42.1 a47 k48 ([2, 1]) a91 k92 rv93 hg94))) rfl ?_
            rintro - -
            refine JO_q rfl rfl rfl (OpV.pickT rfl rfl rfl) ?_
            refine JO_q rfl rfl rfl (OpV.move rfl rfl) ?_
            refine JJ_split 54 rfl (fun (h95 : rv93 = true) => ?_) (fun (h95 : rv93 = false) => ?_)
            · skip
              refine JO_taken rfl rfl rfl rfl ?_
              refine JO_q rfl rfl rfl (OpV.move rfl rfl) ?_
              refine JO_taken rfl rfl rfl rfl ?_
              refine JO_q rfl rfl rfl (OpV.eql rfl rfl rfl) ?_
              refine JO_q rfl rfl rfl (OpV.pickT rfl rfl rfl) ?_
              refine JO_q rfl rfl rfl (OpV.move rfl rfl) ?_
              refine JJ_split 58 rfl (fun (h97 : (rv42.2.1 == 3) = true) => ?_) (fun (h97 : (rv42.2.1 == 3) = false) => ?_)
              · skip
                have g98 : rv42.2.1 = 3 := eq_of_beq h97
                refine JO_taken rfl rfl rfl rfl ?_
                refine JO_q rfl rfl rfl (OpV.move rfl rfl) ?_
                refine JO_taken rfl rfl rfl rfl ?_
                refine JO_act rfl rfl rfl (OpA.buildSliceV [.int .i64 2] [.int .i64 2] rfl sl22 sz22 rfl (Env.evp_map rfl) rfl rfl rfl rfl) ?_
                intro c99
                refine JJ_slice 0 rfl Cr_slice ?_
                rintro a100 k101 rfl
                refine JO_taken rfl rfl rfl rfl ?_
                refine JJ_loc [0] rfl (Ent.crInt _ [2] _ _ rfl rfl (by intro x hx; rw [List.mem_singleton] at hx; subst hx; unfold i64ok; omega) (Nat.le_of_ble_eq_true rfl)) ?_
                refine letv (flqref7_Ints rv66.1 [2]) fun rv102 hg103 => ?_
                refine JO_call [0, 2] rfl rfl rfl (OpC.fn rfl ca25 rfl) (FT_borrow (A := _) (fun _ _ h => by cases h) (FT_ent (Ent.take (is := [1, 0]) rfl) (fn25 rv66.1 a71 k72 ([2]) a100 k101 rv102 hg103))) rfl ?_
                rintro - -
                refine JO_q rfl rfl rfl (OpV.pickT rfl rfl rfl) ?_
                refine JO_q rfl rfl rfl (OpV.move rfl rfl) ?_
                refine JJ_split 63 rfl (fun (h104 : rv102 = true) => ?_) (fun (h104 : rv102 = false) => ?_)
                · skip
                  refine JO_taken rfl rfl rfl rfl ?_
                  refine JO_q rfl rfl rfl (OpV.move rfl rfl) ?_
                  refine JO_taken rfl rfl rfl rfl ?_
                  refine JO_q rfl rfl rfl (OpV.eql rfl rfl rfl) ?_
                  refine JO_q rfl rfl rfl (OpV.pickT rfl rfl rfl) ?_
                  refine JO_q rfl rfl rfl (OpV.assign rfl rfl) ?_
                  refine JO_nil ?_
                  have hq : rr = (rv66.2.1 == 1) := hrr.symm.trans (by simp only [flqlaw14_sane, h75, h77, h79, h86, h88, h95, h97, h104, hg5, hg19, hg43, hg67, hg85, hg94, hg103, cond_true, cond_false, Bool.not_true, Bool.not_false])
                  replace hrr := hrr.trans hq
                  subst rr
                  refine JK_return (()) rfl (.tmp rfl .nil) rfl trivial (Ent.take (is := []) rfl)
                · skip
                  refine JO_skip rfl rfl rfl rfl rfl rfl ?_
                  refine JO_skip rfl rfl rfl rfl rfl rfl ?_
                  refine JO_q rfl rfl rfl (OpV.pickF rfl rfl rfl) ?_
                  refine JO_q rfl rfl rfl (OpV.assign rfl rfl) ?_
                  refine JO_nil ?_
                  have hq : rr = false := hrr.symm.trans (by simp only [flqlaw14_sane, h75, h77, h79, h86, h88, h95, h97, h104, hg5, hg19, hg43, hg67, hg85, hg94, hg103, cond_true, cond_false, Bool.not_true, Bool.not_false])
                  replace hrr := hrr.trans hq
                  subst rr
                  refine JK_return (()) rfl (.tmp rfl .nil) rfl trivial (Ent.take (is := []) rfl)
              · skip
                have g107 : rv42.2.1 ≠ 3 := ne_of_beq_false h97
                refine JO_skip rfl rfl rfl rfl rfl rfl ?_
                refine JO_skip rfl rfl rfl rfl rfl rfl ?_
                refine JO_skip rfl rfl rfl rfl rfl rfl ?_
                refine JO_q rfl rfl rfl (OpV.pickF rfl rfl rfl) ?_
                refine JO_q rfl rfl rfl (OpV.move rfl rfl) ?_
                refine JO_skip rfl rfl rfl rfl rfl rfl ?_
                refine JO_skip rfl rfl rfl rfl rfl rfl ?_
                refine JO_q rfl rfl rfl (OpV.pickF rfl rfl rfl) ?_
                refine JO_q rfl rfl rfl (OpV.assign rfl rfl) ?_
                refine JO_nil ?_
                have hq : rr = false := hrr.symm.trans (by simp only [flqlaw14_sane, h75, h77, h79, h86, h88, h95, h97, hg5, hg19, hg43, hg67, hg85, hg94, cond_true, cond_false, Bool.not_true, Bool.not_false])
                replace hrr := hrr.trans hq
                subst rr
                refine JK_return (()) rfl (.tmp rfl .nil) rfl trivial (Ent.take (is := []) rfl)
            · skip
              refine JO_skip rfl rfl rfl rfl rfl rfl ?_
              refine JO_skip rfl rfl rfl rfl rfl rfl ?_
              refine JO_q rfl rfl rfl (OpV.pickF rfl rfl rfl) ?_
              refine JO_q rfl rfl rfl (OpV.move rfl rfl) ?_
              refine JO_skip rfl rfl rfl rfl rfl rfl ?_
              refine JO_skip rfl rfl rfl rfl rfl rfl ?_
              refine JO_skip rfl rfl rfl rfl rfl rfl ?_
              refine JO_q rfl rfl rfl (OpV.pickF rfl rfl rfl) ?_
              refine JO_q rfl rfl rfl (OpV.move rfl rfl) ?_
              refine JO_skip rfl rfl rfl rfl rfl rfl ?_
              refine JO_skip rfl rfl rfl rfl rfl rfl ?_
              refine JO_q rfl rfl rfl (OpV.pickF rfl rfl rfl) ?_
              refine JO_q rfl rfl rfl (OpV.assign rfl rfl) ?_
              refine JO_nil ?_
              have hq : rr = false := hrr.symm.trans (by simp only [flqlaw14_sane, h75, h77, h79, h86, h88, h95, hg5, hg19, hg43, hg67, hg85, hg94, cond_true, cond_false, Bool.not_true, Bool.not_false])
              replace hrr := hrr.trans hq
              subst rr
              refine JK_return (()) rfl (.tmp rfl .nil) rfl trivial (Ent.take (is := []) rfl)
          · skip
            have g109 : rv18.2.1 ≠ 5 := ne_of_beq_false h88
            refine JO_skip rfl rfl rfl rfl rfl rfl ?_
            refine JO_skip rfl rfl rfl rfl rfl rfl ?_
            refine JO_skip rfl rfl rfl rfl rfl rfl ?_
            refine JO_q rfl rfl rfl (OpV.pickF rfl rfl rfl) ?_
            refine JO_q rfl rfl rfl (OpV.move rfl rfl) ?_
            refine JO_skip rfl rfl rfl rfl rfl rfl ?_
            refine JO_skip rfl rfl rfl rfl rfl rfl ?_
            refine JO_q rfl rfl rfl (OpV.pickF rfl rfl rfl) ?_
            refine JO_q rfl rfl rfl (OpV.move rfl rfl) ?_
            refine JO_skip rfl rfl rfl rfl rfl rfl ?_
            refine JO_skip rfl rfl rfl rfl rfl rfl ?_
            refine JO_skip rfl rfl rfl rfl rfl rfl ?_
            refine JO_q rfl rfl rfl (OpV.pickF rfl rfl rfl) ?_
            refine JO_q rfl rfl rfl (OpV.move rfl rfl) ?_
            refine JO_skip rfl rfl rfl rfl rfl rfl ?_
            refine JO_skip rfl rfl rfl rfl rfl rfl ?_
            refine JO_q rfl rfl rfl (OpV.pickF rfl rfl rfl) ?_
            refine JO_q rfl rfl rfl (OpV.assign rfl rfl) ?_
            refine JO_nil ?_
            have hq : rr = false := hrr.symm.trans (by simp only [flqlaw14_sane, h75, h77, h79, h86, h88, hg5, hg19, hg43, hg67, hg85, cond_true, cond_false, Bool.not_true, Bool.not_false])
            replace hrr := hrr.trans hq
            subst rr
            refine JK_return (()) rfl (.tmp rfl .nil) rfl trivial (Ent.take (is := []) rfl)
        · skip
          refine JO_skip rfl rfl rfl rfl rfl rfl ?_
          refine JO_skip rfl rfl rfl rfl rfl rfl ?_
          refine JO_q rfl rfl rfl (OpV.pickF rfl rfl rfl) ?_
          refine JO_q rfl rfl rfl (OpV.move rfl rfl) ?_
          refine JO_skip rfl rfl rfl rfl rfl rfl ?_
          refine JO_skip rfl rfl rfl rfl rfl rfl ?_
          refine JO_skip rfl rfl rfl rfl rfl rfl ?_
          refine JO_q rfl rfl rfl (OpV.pickF rfl rfl rfl) ?_
          refine JO_q rfl rfl rfl (OpV.move rfl rfl) ?_
          refine JO_skip rfl rfl rfl rfl rfl rfl ?_
          refine JO_skip rfl rfl rfl rfl rfl rfl ?_
          refine JO_q rfl rfl rfl (OpV.pickF rfl rfl rfl) ?_
          refine JO_q rfl rfl rfl (OpV.move rfl rfl) ?_
          refine JO_skip rfl rfl rfl rfl rfl rfl ?_
          refine JO_skip rfl rfl rfl rfl rfl rfl ?_
          refine JO_skip rfl rfl rfl rfl rfl rfl ?_
          refine JO_q rfl rfl rfl (OpV.pickF rfl rfl rfl) ?_
          refine JO_q rfl rfl rfl (OpV.move rfl rfl) ?_
          refine JO_skip rfl rfl rfl rfl rfl rfl ?_
          refine JO_skip rfl rfl rfl rfl rfl rfl ?_
          refine JO_q rfl rfl rfl (OpV.pickF rfl rfl rfl) ?_
          refine JO_q rfl rfl rfl (OpV.assign rfl rfl) ?_
          refine JO_nil ?_
          have hq : rr = false := hrr.symm.trans (by simp only [flqlaw14_sane, h75, h77, h79, h86, hg5, hg19, hg43, hg67, hg85, cond_true, cond_false, Bool.not_true, Bool.not_false])
          replace hrr := hrr.trans hq
          subst rr
          refine JK_return (()) rfl (.tmp rfl .nil) rfl trivial (Ent.take (is := []) rfl)
      · skip
        have g111 : rv66.2.2 ≠ 0 := ne_of_beq_false h79
        refine JO_skip rfl rfl rfl rfl rfl rfl ?_
        refine JO_skip rfl rfl rfl rfl rfl rfl ?_
        refine JO_skip rfl rfl rfl rfl rfl rfl ?_
        refine JO_q rfl rfl rfl (OpV.pickF rfl rfl rfl) ?_
        refine JO_q rfl rfl rfl (OpV.move rfl rfl) ?_
        refine JO_skip rfl rfl rfl rfl rfl rfl ?_
        refine JO_skip rfl rfl rfl rfl rfl rfl ?_
        refine JO_q rfl rfl rfl (OpV.pickF rfl rfl rfl) ?_
        refine JO_q rfl rfl rfl (OpV.move rfl rfl) ?_
        refine JO_skip rfl rfl rfl rfl rfl rfl ?_
        refine JO_skip rfl rfl rfl rfl rfl rfl ?_
        refine JO_skip rfl rfl rfl rfl rfl rfl ?_
        refine JO_q rfl rfl rfl (OpV.pickF rfl rfl rfl) ?_
        refine JO_q rfl rfl rfl (OpV.move rfl rfl) ?_
        refine JO_skip rfl rfl rfl rfl rfl rfl ?_
        refine JO_skip rfl rfl rfl rfl rfl rfl ?_
        refine JO_q rfl rfl rfl (OpV.pickF rfl rfl rfl) ?_
        refine JO_q rfl rfl rfl (OpV.move rfl rfl) ?_
        refine JO_skip rfl rfl rfl rfl rfl rfl ?_
        refine JO_skip rfl rfl rfl rfl rfl rfl ?_
        refine JO_skip rfl rfl rfl rfl rfl rfl ?_
        refine JO_q rfl rfl rfl (OpV.pickF rfl rfl rfl) ?_
        refine JO_q rfl rfl rfl (OpV.move rfl rfl) ?_
        refine JO_skip rfl rfl rfl rfl rfl rfl ?_
        refine JO_skip rfl rfl rfl rfl rfl rfl ?_
        refine JO_q rfl rfl rfl (OpV.pickF rfl rfl rfl) ?_
        refine JO_q rfl rfl rfl (OpV.assign rfl rfl) ?_
        refine JO_nil ?_
        have hq : rr = false := hrr.symm.trans (by simp only [flqlaw14_sane, h75, h77, h79, hg5, hg19, hg43, hg67, cond_true, cond_false, Bool.not_true, Bool.not_false])
        replace hrr := hrr.trans hq
        subst rr
        refine JK_return (()) rfl (.tmp rfl .nil) rfl trivial (Ent.take (is := []) rfl)
    · skip
      have g112 : rv42.2.2 ≠ 0 := ne_of_beq_false h77
      refine JO_skip rfl rfl rfl rfl rfl rfl ?_
      refine JO_skip rfl rfl rfl rfl rfl rfl ?_
      refine JO_q rfl rfl rfl (OpV.pickF rfl rfl rfl) ?_
      refine JO_q rfl rfl rfl (OpV.move rfl rfl) ?_
      refine JO_skip rfl rfl rfl rfl rfl rfl ?_
      refine JO_skip rfl rfl rfl rfl rfl rfl ?_
      refine JO_skip rfl rfl rfl rfl rfl rfl ?_
      refine JO_q rfl rfl rfl (OpV.pickF rfl rfl rfl) ?_
      refine JO_q rfl rfl rfl (OpV.move rfl rfl) ?_
      refine JO_skip rfl rfl rfl rfl rfl rfl ?_
      refine JO_skip rfl rfl rfl rfl rfl rfl ?_
      refine JO_q rfl rfl rfl (OpV.pickF rfl rfl rfl) ?_
      refine JO_q rfl rfl rfl (OpV.move rfl rfl) ?_
      refine JO_skip rfl rfl rfl rfl rfl rfl ?_
      refine JO_skip rfl rfl rfl rfl rfl rfl ?_
      refine JO_skip rfl rfl rfl rfl rfl rfl ?_
      refine JO_q rfl rfl rfl (OpV.pickF rfl rfl rfl) ?_
      refine JO_q rfl rfl rfl (OpV.move rfl rfl) ?_
      refine JO_skip rfl rfl rfl rfl rfl rfl ?_
      refine JO_skip rfl rfl rfl rfl rfl rfl ?_
      refine JO_q rfl rfl rfl (OpV.pickF rfl rfl rfl) ?_
      refine JO_q rfl rfl rfl (OpV.move rfl rfl) ?_
      refine JO_skip rfl rfl rfl rfl rfl rfl ?_
      refine JO_skip rfl rfl rfl rfl rfl rfl ?_
      refine JO_skip rfl rfl rfl rfl rfl rfl ?_
      refine JO_q rfl rfl rfl (OpV.pickF rfl rfl rfl) ?_
      refine JO_q rfl rfl rfl (OpV.move rfl rfl) ?_
      refine JO_skip rfl rfl rfl rfl rfl rfl ?_
      refine JO_skip rfl rfl rfl rfl rfl rfl ?_
      refine JO_q rfl rfl rfl (OpV.pickF rfl rfl rfl) ?_
      refine JO_q rfl rfl rfl (OpV.assign rfl rfl) ?_
      refine JO_nil ?_
      have hq : rr = false := hrr.symm.trans (by simp only [flqlaw14_sane, h75, h77, hg5, hg19, hg43, hg67, cond_true, cond_false, Bool.not_true, Bool.not_false])
      replace hrr := hrr.trans hq
      subst rr
      refine JK_return (()) rfl (.tmp rfl .nil) rfl trivial (Ent.take (is := []) rfl)
  · skip
    have g113 : rv18.2.2 ≠ 0 := ne_of_beq_false h75
    refine JO_skip rfl rfl rfl rfl rfl rfl ?_
    refine JO_skip rfl rfl rfl rfl rfl rfl ?_
    refine JO_q rfl rfl rfl (OpV.pickF rfl rfl rfl) ?_
    refine JO_q rfl rfl rfl (OpV.move rfl rfl) ?_
    refine JO_skip rfl rfl rfl rfl rfl rfl ?_
    refine JO_skip rfl rfl rfl rfl rfl rfl ?_
    refine JO_q rfl rfl rfl (OpV.pickF rfl rfl rfl) ?_
    refine JO_q rfl rfl rfl (OpV.move rfl rfl) ?_
    refine JO_skip rfl rfl rfl rfl rfl rfl ?_
    refine JO_skip rfl rfl rfl rfl rfl rfl ?_
    refine JO_skip rfl rfl rfl rfl rfl rfl ?_
    refine JO_q rfl rfl rfl (OpV.pickF rfl rfl rfl) ?_
    refine JO_q rfl rfl rfl (OpV.move rfl rfl) ?_
    refine JO_skip rfl rfl rfl rfl rfl rfl ?_
    refine JO_skip rfl rfl rfl rfl rfl rfl ?_
    refine JO_q rfl rfl rfl (OpV.pickF rfl rfl rfl) ?_
    refine JO_q rfl rfl rfl (OpV.move rfl rfl) ?_
    refine JO_skip rfl rfl rfl rfl rfl rfl ?_
    refine JO_skip rfl rfl rfl rfl rfl rfl ?_
    refine JO_skip rfl rfl rfl rfl rfl rfl ?_
    refine JO_q rfl rfl rfl (OpV.pickF rfl rfl rfl) ?_
    refine JO_q rfl rfl rfl (OpV.move rfl rfl) ?_
    refine JO_skip rfl rfl rfl rfl rfl rfl ?_
    refine JO_skip rfl rfl rfl rfl rfl rfl ?_
    refine JO_q rfl rfl rfl (OpV.pickF rfl rfl rfl) ?_
    refine JO_q rfl rfl rfl (OpV.move rfl rfl) ?_
    refine JO_skip rfl rfl rfl rfl rfl rfl ?_
    refine JO_skip rfl rfl rfl rfl rfl rfl ?_
    refine JO_skip rfl rfl rfl rfl rfl rfl ?_
    refine JO_q rfl rfl rfl (OpV.pickF rfl rfl rfl) ?_
    refine JO_q rfl rfl rfl (OpV.move rfl rfl) ?_
    refine JO_skip rfl rfl rfl rfl rfl rfl ?_
    refine JO_skip rfl rfl rfl rfl rfl rfl ?_
    refine JO_q rfl rfl rfl (OpV.pickF rfl rfl rfl) ?_
    refine JO_q rfl rfl rfl (OpV.assign rfl rfl) ?_
    refine JO_nil ?_
    have hq : rr = false := hrr.symm.trans (by simp only [flqlaw14_sane, h75, hg5, hg19, hg43, hg67, cond_true, cond_false, Bool.not_true, Bool.not_false])
    replace hrr := hrr.trans hq
    subst rr
    refine JK_return (()) rfl (.tmp rfl .nil) rfl trivial (Ent.take (is := []) rfl)
end Go.SL.G
namespace Go.SL.G
open Go Go.SL Go.Proofs
set_option maxHeartbeats 20000000 in
set_option maxRecDepth 100000 in
/- flowquery/cone.Closed$1 -/
theorem fn35 (m : Int) (cap0P : Value) (cap0 : List Bool) (cap0a0 : Option Addr) (cap0k0 : Nat) (hm_0 : i64ok m) (hm0 : 0 ≤ m ∧ m < (cap0.length : Int)) (rr : Bool) (hrr : cone_Closed_1 m cap0 = rr) :
    FT Try.prog 35 #[.int .i64 m, cap0P] [pv cap0P [.slice cap0a0 cap0.length cap0k0], sl (.slice cap0a0 cap0.length cap0k0) (cap0 : List Bool)]
      (fun g : Unit => True)
      (fun g => .bool rr)
      (fun g => []) := by
  refine FT_intro (args := [.int .i64 m, cap0P]) Try.func35 rfl rfl ?_
  intro w0 M0 F0
  have hm_0 : -9223372036854775808 ≤ m ∧ m ≤ 9223372036854775807 := hm_0
  refine JJ_fact 1 rfl sl_bytes ?_
  intro hl1
  have hl1 : cap0.length * 1 ≤ 140737488355328 := hl1
  refine JK_seq ?_
  refine JK_region ?_
  refine JO_q rfl rfl rfl (OpV.assign rfl rfl) ?_
  refine JO_nil ?_
  refine JK_seq ?_
  refine JK_region ?_
  refine JO_q rfl rfl rfl (OpV.load rfl rfl sh62 (i := 0) rfl (reads_pv _ _) rfl) ?_
  refine JO_q rfl rfl rfl (OpV.move rfl rfl) ?_
  refine JO_q rfl rfl rfl (OpV.indexAddr (m := 1) rfl rfl rfl sl62 rfl (isSl_sl _ _) (by first | omega | (simp only [List.length_set, List.length_append, List.length_cons, List.length_nil, List.length_replicate, List.length_take, List.length_drop]; omega) | (simp only [List.length_set, List.length_append, List.length_cons, List.length_nil, List.length_replicate, List.length_take, List.length_drop] at *; omega))) ?_
  refine JO_q rfl rfl rfl (OpV.load rfl rfl sh4 (i := 1) rfl (reads_sl _ _ _ false (by first | omega | (simp only [List.length_set, List.length_append, List.length_cons, List.length_nil, List.length_replicate, List.length_take, List.length_drop]; omega) | (simp only [List.length_set, List.length_append, List.length_cons, List.length_nil, List.length_replicate, List.length_take, List.length_drop] at *; omega))) rfl) ?_
  refine JO_q rfl rfl rfl (OpV.not rfl rfl) ?_
  refine JO_q rfl rfl rfl (OpV.assign rfl rfl) ?_
  refine JO_nil ?_
  have hq : rr = (!(cap0.getD (m : Int).toNat false)) := hrr.symm.trans (by simp only [cone_Closed_1, cond_true, cond_false, Bool.not_true, Bool.not_false])
  replace hrr := hrr.trans hq
  subst rr
  refine JK_return (()) rfl (.tmp rfl .nil) rfl trivial (Ent.take (is := []) rfl)
end Go.SL.G
namespace Go.SL.G
open Go Go.SL Go.Proofs
set_option maxHeartbeats 20000000 in
set_option maxRecDepth 100000 in
/- flowquery/cone.Closed -/
theorem fn15 (s : GSystem) (sa1 : Option Addr) (sk1 : Nat) (sa2 : Option Addr) (sk2 : Nat) (sa3 : Option Addr) (sk3 : Nat) (set_ : List Int) (set_a0 : Option Addr) (set_k0 : Nat) (leaves : List Int) (leavesa0 : Option Addr) (leavesk0 : Nat) (hs_0 : i64ok s.Width) (rr : Bool) (hrr : cone_Closed s set_ leaves = rr) :
    FT Try.prog 15 #[.agg #[.int .i64 s.Width, .slice sa1 s.Deps.length sk1, .slice sa2 s.Transfers.length sk2, .slice sa3 s.Boundary.length sk3], .slice set_a0 set_.length set_k0, .slice leavesa0 leaves.length leavesk0] [sl (.slice sa1 s.Deps.length sk1) (s.Deps : List (List Int)), sl (.slice sa2 s.Transfers.length sk2) (s.Transfers : List GTransfer), sl (.slice sa3 s.Boundary.length sk3) (s.Boundary : List GSet), sl (.slice set_a0 set_.length set_k0) (set_ : List Int), sl (.slice leavesa0 leaves.length leavesk0) (leaves : List Int)]
      (fun g : Unit => True)
      (fun g => .bool rr)
      (fun g => []) := by
  refine FT_intro (args := [.agg #[.int .i64 s.Width, .slice sa1 s.Deps.length sk1, .slice sa2 s.Transfers.length sk2, .slice sa3 s.Boundary.length sk3], .slice set_a0 set_.length set_k0, .slice leavesa0 leaves.length leavesk0]) Try.func15 rfl rfl ?_
  intro w0 M0 F0
  have hs_0 : -9223372036854775808 ≤ s.Width ∧ s.Width ≤ 9223372036854775807 := hs_0
  refine JJ_fact 0 rfl sl_bytes ?_
  intro hl1
  have hl1 : s.Deps.length * 24 ≤ 140737488355328 := hl1
  refine JJ_fact 1 rfl sl_bytes ?_
  intro hl2
  have hl2 : s.Transfers.length * 88 ≤ 140737488355328 := hl2
  refine JJ_fact 2 rfl sl_bytes ?_
  intro hl3
  have hl3 : s.Boundary.length * 32 ≤ 140737488355328 := hl3
  refine JJ_fact 3 rfl sl_bytes ?_
  intro hl4
  have hl4 : set_.length * 8 ≤ 140737488355328 := hl4
  refine JJ_fact 3 rfl sl_ok ?_
  intro ho5
  refine JJ_fact 4 rfl sl_bytes ?_
  intro hl6
  have hl6 : leaves.length * 8 ≤ 140737488355328 := hl6
  refine JJ_fact 4 rfl sl_ok ?_
  intro ho7
  refine JK_seq ?_
  refine JK_region ?_
  refine JO_act rfl rfl rfl (OpA.box rfl rfl) ?_
  intro p8
  refine JO_q rfl rfl rfl (OpV.assign rfl rfl) ?_
  refine JO_nil ?_
  refine JK_seq ?_
  refine JK_seq ?_
  refine JK_region ?_
  refine JO_q rfl rfl rfl (OpV.loadA rfl rfl sh27 (i := 0) rfl (reads_pv _ _) rfl) ?_
  refine letv (equations_Valid s) fun rv9 hg10 => ?_
  have hc11 := fn30 s sa1 sk1 sa2 sk2 sa3 sk3 (by (try dsimp only) <;> first | (unfold i64ok; omega) | omega | assumption) rv9 hg10
  refine JO_call [1, 2, 3] rfl rfl rfl (OpC.fn rfl ca30 rfl) (hc11) rfl ?_
  rintro - -
  refine JO_q rfl rfl rfl (OpV.not rfl rfl) ?_
  refine JO_q rfl rfl rfl (OpV.move rfl rfl) ?_
  refine JJ_split 15 rfl (fun (h12 : (!rv9) = true) => ?_) (fun (h12 : (!rv9) = false) => ?_)
  · skip
    have h14 : rv9 = false := not_true h12
    refine JO_skip rfl rfl rfl rfl rfl rfl ?_
    refine JO_skip rfl rfl rfl rfl rfl rfl ?_
    refine JO_skip rfl rfl rfl rfl rfl rfl ?_
    refine JO_skip rfl rfl rfl rfl rfl rfl ?_
    refine JO_q rfl rfl rfl (OpV.pickT rfl rfl rfl) ?_
    refine JO_q rfl rfl rfl (OpV.move rfl rfl) ?_
    refine JO_skip rfl rfl rfl rfl rfl rfl ?_
    refine JO_skip rfl rfl rfl rfl rfl rfl ?_
    refine JO_skip rfl rfl rfl rfl rfl rfl ?_
    refine JO_skip rfl rfl rfl rfl rfl rfl ?_
    refine JO_q rfl rfl rfl (OpV.pickT rfl rfl rfl) ?_
    refine JO_nil ?_
    refine JK_condT rfl ?_
    refine JK_seq ?_
    refine JK_region ?_
    refine JO_q rfl rfl rfl (OpV.assign rfl rfl) ?_
    refine JO_nil ?_
    have hq : rr = false := hrr.symm.trans (by simp only [cone_Closed, h12, h14, hg10, cond_true, cond_false, Bool.not_true, Bool.not_false])
    replace hrr := hrr.trans hq
    subst rr
    refine JK_return (()) rfl (.tmp rfl .nil) rfl trivial (Ent.take (is := []) rfl)
  · skip
    have h17 : rv9 = true := not_false h12
    refine JO_taken rfl rfl rfl rfl ?_
    refine JO_q rfl rfl rfl (OpV.loadA rfl rfl sh27 (i := 0) rfl (reads_pv _ _) rfl) ?_
    refine JO_taken rfl rfl rfl rfl ?_
    refine JO_q rfl rfl rfl (OpV.move rfl rfl) ?_
    refine JO_taken rfl rfl rfl rfl ?_
    refine letv (cone_unknowns s set_) fun rv19 hg20 => ?_
    have hc21 := fn31 s sa1 sk1 sa2 sk2 sa3 sk3 set_ set_a0 set_k0 (by (try dsimp only) <;> first | (unfold i64ok; omega) | omega | assumption) rv19 hg20
    refine JO_call [1, 2, 3, 4] rfl rfl rfl (OpC.fn rfl ca31 rfl) (hc21) rfl ?_
    rintro - -
    refine JO_taken rfl rfl rfl rfl ?_
    refine JO_q rfl rfl rfl (OpV.not rfl rfl) ?_
    refine JO_q rfl rfl rfl (OpV.pickF rfl rfl rfl) ?_
    refine JO_q rfl rfl rfl (OpV.move rfl rfl) ?_
    refine JJ_split 21 rfl (fun (h22 : (!rv19) = true) => ?_) (fun (h22 : (!rv19) = false) => ?_)
    · skip
      have h24 : rv19 = false := not_true h22
      refine JO_skip rfl rfl rfl rfl rfl rfl ?_
      refine JO_skip rfl rfl rfl rfl rfl rfl ?_
      refine JO_skip rfl rfl rfl rfl rfl rfl ?_
      refine JO_skip rfl rfl rfl rfl rfl rfl ?_
      refine JO_q rfl rfl rfl (OpV.pickT rfl rfl rfl) ?_
      refine JO_nil ?_
      refine JK_condT rfl ?_
      refine JK_seq ?_
      refine JK_region ?_
      refine JO_q rfl rfl rfl (OpV.assign rfl rfl) ?_
      refine JO_nil ?_
      have hq : rr = false := hrr.symm.trans (by simp only [cone_Closed, h12, h17, h22, h24, hg10, hg20, cond_true, cond_false, Bool.not_true, Bool.not_false])
      replace hrr := hrr.trans hq
      subst rr
      refine JK_return (()) rfl (.tmp rfl .nil) rfl trivial (Ent.take (is := []) rfl)
    · skip
      have h27 : rv19 = true := not_false h22
      refine JO_taken rfl rfl rfl rfl ?_
      refine JO_q rfl rfl rfl (OpV.loadA rfl rfl sh27 (i := 0) rfl (reads_pv _ _) rfl) ?_
      refine JO_taken rfl rfl rfl rfl ?_
      refine JO_q rfl rfl rfl (OpV.move rfl rfl) ?_
      refine JO_taken rfl rfl rfl rfl ?_
      refine letv (cone_unknowns s leaves) fun rv29 hg30 => ?_
      have hc31 := fn31 s sa1 sk1 sa2 sk2 sa3 sk3 leaves leavesa0 leavesk0 (by (try dsimp only) <;> first | (unfold i64ok; omega) | omega | assumption) rv29 hg30
      refine JO_call [1, 2, 3, 5] rfl rfl rfl (OpC.fn rfl ca31 rfl) (hc31) rfl ?_
      rintro - -
      refine JO_taken rfl rfl rfl rfl ?_
      refine JO_q rfl rfl rfl (OpV.not rfl rfl) ?_
      refine JO_q rfl rfl rfl (OpV.pickF rfl rfl rfl) ?_
      refine JO_nil ?_
      refine JK_cond (b := (!rv29)) rfl (fun (h32 : (!rv29) = true) => ?_) (fun (h32 : (!rv29) = false) => ?_)
      · skip
        have h34 : rv29 = false := not_true h32
        refine JK_seq ?_
        refine JK_region ?_
        refine JO_q rfl rfl rfl (OpV.assign rfl rfl) ?_
        refine JO_nil ?_
        have hq : rr = false := hrr.symm.trans (by simp only [cone_Closed, h12, h17, h22, h27, h32, h34, hg10, hg20, hg30, cond_true, cond_false, Bool.not_true, Bool.not_false])
        replace hrr := hrr.trans hq
        subst rr
        refine JK_return (()) rfl (.tmp rfl .nil) rfl trivial (Ent.take (is := []) rfl)
      · skip
        have h37 : rv29 = true := not_false h32
        refine JK_skip ?_
        refine JK_seq ?_
        refine JK_region ?_
        refine JO_q rfl rfl rfl (OpV.fieldAddr rfl rfl fo27_1 (i := 0) rfl (isPtr_pv _ _)) ?_
        refine JO_q rfl rfl rfl (OpV.loadF rfl rfl sh23 (i := 0) rfl (reads_pv _ _) rfl) ?_
        refine JO_q rfl rfl rfl (OpV.len rfl rfl sl23) ?_
        refine JO_act rfl rfl rfl (OpA.makeSlice (α := Bool) false rfl rfl rfl sl62 sz62 rfl rfl (by omega) (by omega) (fun _ _ => rfl)) ?_
        intro c39
        refine JJ_slice 0 rfl os_slice ?_
        rintro a40 k41 rfl
        refine JJ_fact 0 rfl os_bytes ?_
        intro hl42
        have hl42 : (List.replicate (((s.Deps.length : Nat) : Int) : Int).toNat false).length * 1 ≤ 140737488355328 := hl42
        have hn43 : ((List.replicate (((s.Deps.length : Nat) : Int) : Int).toNat false) : List Bool).length = (((s.Deps.length : Nat) : Int) : Int).toNat := List.length_replicate
        refine JO_act rfl rfl rfl (OpA.alloc rfl ze62) ?_
        intro p44
        refine JO_store rfl rfl (OpS.frame [0] rfl (OpS.storeCl [.slice a40 ((List.replicate (((s.Deps.length : Nat) : Int) : Int).toNat false).length) k41] [.slice a40 ((List.replicate (((s.Deps.length : Nat) : Int) : Int).toNat false).length) k41] rfl rfl rfl sh62 rfl rfl rfl (Nat.le_of_ble_eq_true rfl) rfl)) ?_
        refine JO_nil ?_
        refine JK_seq ?_
        refine JK_seq ?_
        refine JK_region ?_
        refine JO_q rfl rfl rfl (OpV.move rfl rfl) ?_
        refine JO_q rfl rfl rfl (OpV.len rfl rfl sl22) ?_
        refine JO_q rfl rfl rfl (OpV.move rfl rfl) ?_
        refine JO_nil ?_
        refine JK_block ?_
        refine JK_loop (γ := Nat × List Bool × Int) (fun (r45, inside0_46, v33_47) => [(1, .slice set_a0 set_.length set_k0), (2, .slice leavesa0 leaves.length leavesk0), (3, p8), (7, p44), (31, .slice set_a0 set_.length set_k0), (32, .int .i64 ((set_.length : Nat) : Int)), (33, .int .i64 v33_47)]) (fun (r45, inside0_46, v33_47) => [Cl p44 [.slice a40 ((List.replicate (((s.Deps.length : Nat) : Int) : Int).toNat false).length) k41], os (.slice a40 ((List.replicate (((s.Deps.length : Nat) : Int) : Int).toNat false).length) k41) (inside0_46 : List Bool), pv p8 [.int .i64 s.Width, .slice sa1 s.Deps.length sk1, .slice sa2 s.Transfers.length sk2, .slice sa3 s.Boundary.length sk3], sl (.slice sa1 s.Deps.length sk1) (s.Deps : List (List Int)), sl (.slice sa2 s.Transfers.length sk2) (s.Transfers : List GTransfer), sl (.slice sa3 s.Boundary.length sk3) (s.Boundary : List GSet), sl (.slice set_a0 set_.length set_k0) (set_ : List Int), sl (.slice leavesa0 leaves.length leavesk0) (leaves : List Int)]) (fun (r45, inside0_46, v33_47) => cone_Closed_L0 set_ r45 inside0_46 v33_47 = cone_Closed_L0 set_ (((((set_.length : Nat) : Int) : Int) - 0).toNat) (List.replicate (((s.Deps.length : Nat) : Int) : Int).toNat false) 0 ∧ r45 = ((((set_.length : Nat) : Int) : Int) - v33_47).toNat ∧ (0 : Int) ≤ v33_47 ∧ (v33_47 ≤ ((set_.length : Nat) : Int) ∨ v33_47 = 0) ∧ (-9223372036854775808 ≤ v33_47 ∧ v33_47 ≤ 9223372036854775807) ∧ (inside0_46.length : Int) = (s.Deps.length : Int)) (fun (r45, inside0_46, v33_47) => r45) (((((set_.length : Nat) : Int) : Int) - 0).toNat, (List.replicate (((s.Deps.length : Nat) : Int) : Int).toNat false), 0) ⟨rfl, rfl, (by omega), (.inr rfl), (by omega), (by first | omega | (simp only [List.length_set, List.length_append, List.length_cons, List.length_nil, List.length_replicate, List.length_take, List.length_drop]; omega) | simp)⟩ (Env.sub_all rfl) (Ent.take (is := [0, 0, 0, 1, 2, 3, 4, 5]) rfl) ?_
        rintro ⟨r45, inside0_46, v33_47⟩ ⟨hM48, hr49, hi50, hi51, hk52, hv53⟩
        refine JJ_norm (L := [(1, .slice set_a0 set_.length set_k0), (2, .slice leavesa0 leaves.length leavesk0), (3, p8), (7, p44), (31, .slice set_a0 set_.length set_k0), (32, .int .i64 ((set_.length : Nat) : Int)), (33, .int .i64 v33_47)]) (A := [Cl p44 [.slice a40 ((List.replicate (((s.Deps.length : Nat) : Int) : Int).toNat false).length) k41], os (.slice a40 ((List.replicate (((s.Deps.length : Nat) : Int) : Int).toNat false).length) k41) (inside0_46 : List Bool), pv p8 [.int .i64 s.Width, .slice sa1 s.Deps.length sk1, .slice sa2 s.Transfers.length sk2, .slice sa3 s.Boundary.length sk3], sl (.slice sa1 s.Deps.length sk1) (s.Deps : List (List Int)), sl (.slice sa2 s.Transfers.length sk2) (s.Transfers : List GTransfer), sl (.slice sa3 s.Boundary.length sk3) (s.Boundary : List GSet), sl (.slice set_a0 set_.length set_k0) (set_ : List Int), sl (.slice leavesa0 leaves.length leavesk0) (leaves : List Int)]) rfl rfl ?_
        refine JJ_fact 1 rfl os_bytes ?_
        intro hl54
        have hl54 : inside0_46.length * 1 ≤ 140737488355328 := hl54
        refine JJ_fact 1 rfl os_len ?_
        intro hn55
        refine JJ_fact 3 rfl sl_bytes ?_
        intro hl56
        have hl56 : s.Deps.length * 24 ≤ 140737488355328 := hl56
        refine JJ_fact 4 rfl sl_bytes ?_
        intro hl57
        have hl57 : s.Transfers.length * 88 ≤ 140737488355328 := hl57
        refine JJ_fact 5 rfl sl_bytes ?_
        intro hl58
        have hl58 : s.Boundary.length * 32 ≤ 140737488355328 := hl58
        refine JJ_fact 6 rfl sl_bytes ?_
        intro hl59
        have hl59 : set_.length * 8 ≤ 140737488355328 := hl59
        refine JJ_fact 6 rfl sl_ok ?_
        intro ho60
        refine JJ_fact 7 rfl sl_bytes ?_
        intro hl61
        have hl61 : leaves.length * 8 ≤ 140737488355328 := hl61
        refine JJ_fact 7 rfl sl_ok ?_
        intro ho62
        refine JK_seq ?_
        refine JK_region ?_
        refine JO_q rfl rfl rfl (OpV.lss rfl rfl rfl) ?_
        refine JO_nil ?_
        refine JK_seq ?_
        refine JK_cond (b := decide (v33_47 < ((set_.length : Nat) : Int))) rfl (fun (h63 : decide (v33_47 < ((set_.length : Nat) : Int)) = true) => ?_) (fun (h63 : decide (v33_47 < ((set_.length : Nat) : Int)) = false) => ?_)
        · skip
          have g64 : (v33_47 < ((set_.length : Nat) : Int)) := of_decide_eq_true h63
          have hv0 := EValid_deps (s := s) (by simp only [h12, h17, h22, h27, h32, h37, h63, hg10, hg20, hg30])
          have hq := (unknowns_iff s set_).1 (by simp only [h12, h17, h22, h27, h32, h37, h63, hg10, hg20, hg30]) _ (getD_mem (xs := set_) (i := (v33_47 : Int).toNat) (d := 0) (by omega))
          obtain ⟨r65, rfl⟩ : ∃ q, r45 = q + 1 := ⟨r45 - 1, by omega⟩
          refine JK_skip ?_
          refine JK_seq ?_
          refine JK_block ?_
          refine JK_seq ?_
          refine JK_region ?_
          refine JO_q rfl rfl rfl (OpV.indexAddr (m := 6) rfl rfl rfl sl22 rfl (isSl_sl _ _) (by first | omega | (simp only [List.length_set, List.length_append, List.length_cons, List.length_nil, List.length_replicate, List.length_take, List.length_drop]; omega) | (simp only [List.length_set, List.length_append, List.length_cons, List.length_nil, List.length_replicate, List.length_take, List.length_drop] at *; omega))) ?_
          have hb66 : -9223372036854775808 ≤ (set_.getD (v33_47 : Int).toNat 0) ∧ (set_.getD (v33_47 : Int).toNat 0) ≤ 9223372036854775807 := getD_ok ho60 (by first | omega | (simp only [List.length_set, List.length_append, List.length_cons, List.length_nil, List.length_replicate, List.length_take, List.length_drop]; omega) | (simp only [List.length_set, List.length_append, List.length_cons, List.length_nil, List.length_replicate, List.length_take, List.length_drop] at *; omega))
          refine JO_q rfl rfl rfl (OpV.load rfl rfl sh3 (i := 6) rfl (reads_sl _ _ _ 0 (by first | omega | (simp only [List.length_set, List.length_append, List.length_cons, List.length_nil, List.length_replicate, List.length_take, List.length_drop]; omega) | (simp only [List.length_set, List.length_append, List.length_cons, List.length_nil, List.length_replicate, List.length_take, List.length_drop] at *; omega))) rfl) ?_
          refine JO_q rfl rfl rfl (OpV.assign rfl rfl) ?_
          refine JO_nil ?_
          refine JK_region ?_
          refine JO_q rfl rfl rfl (OpV.load rfl rfl sh62 (i := 0) rfl (reads_Cl _ _) rfl) ?_
          refine JO_q rfl rfl rfl (OpV.move rfl rfl) ?_
          refine JO_q rfl rfl rfl (OpV.indexAddr (m := 1) rfl rfl rfl sl62 rfl (isSl_os _ _) (by first | omega | (simp only [List.length_set, List.length_append, List.length_cons, List.length_nil, List.length_replicate, List.length_take, List.length_drop]; omega) | (simp only [List.length_set, List.length_append, List.length_cons, List.length_nil, List.length_replicate, List.length_take, List.length_drop] at *; omega))) ?_
          refine JO_store rfl rfl (OpS.frame [1] rfl (OpS.storeOsB rfl rfl rfl sh4 (by first | omega | (simp only [List.length_set, List.length_append, List.length_cons, List.length_nil, List.length_replicate, List.length_take, List.length_drop]; omega) | (simp only [List.length_set, List.length_append, List.length_cons, List.length_nil, List.length_replicate, List.length_take, List.length_drop] at *; omega)))) ?_
          refine JO_nil ?_
          refine JK_blk ?_
          refine JK_region ?_
          refine JO_q rfl rfl rfl (OpV.add rfl rfl rfl (by unfold i64ok; omega)) ?_
          refine JO_q rfl rfl rfl (OpV.move rfl rfl) ?_
          refine JO_nil ?_
          refine JK_goal (r65, (inside0_46.set ((set_.getD (v33_47 : Int).toNat 0) : Int).toNat true), (v33_47 + 1)) ⟨(by rw [← hM48]; simp only [cone_Closed_L0, h12, h17, h22, h27, h32, h37, h63, hg10, hg20, hg30, cond_true, cond_false, Bool.not_true, Bool.not_false]), (by omega), (by omega), (by omega), (by omega), (by first | omega | (simp only [List.length_set, List.length_append, List.length_cons, List.length_nil, List.length_replicate, List.length_take, List.length_drop]; omega) | assumption)⟩ (by show r65 < r65 + 1; omega) (Env.sub_all rfl) (Ent.take (is := [1, 0, 0, 1, 2, 3, 4, 5]) rfl)
        · skip
          have g67 : ¬ (v33_47 < ((set_.length : Nat) : Int)) := of_decide_eq_false h63
          obtain rfl : r45 = 0 := by omega
          refine JK_exit rfl ?_
          have hR68 : cone_Closed_L0 set_ (((((set_.length : Nat) : Int) : Int) - 0).toNat) (List.replicate (((s.Deps.length : Nat) : Int) : Int).toNat false) 0 = inside0_46 := by
            rw [← hM48]; simp only [cone_Closed_L0, h12, h17, h22, h27, h32, h37, h63, hg10, hg20, hg30, cond_true, cond_false, Bool.not_true, Bool.not_false]
          refine JK_seq ?_
          refine JK_seq ?_
          refine JK_region ?_
          refine JO_q rfl rfl rfl (OpV.move rfl rfl) ?_
          refine JO_q rfl rfl rfl (OpV.len rfl rfl sl22) ?_
          refine JO_q rfl rfl rfl (OpV.move rfl rfl) ?_
          refine JO_nil ?_
          refine JK_block ?_
          refine JJ_loc [0] rfl (Ent.freezeCl _ _) ?_
          refine JJ_loc [1] rfl (Ent.freeze _ _) ?_
          refine JK_loop (γ := Nat × Int) (fun (r69, v43_70) => [(2, .slice leavesa0 leaves.length leavesk0), (3, p8), (7, p44), (41, .slice set_a0 set_.length set_k0), (42, .int .i64 ((set_.length : Nat) : Int)), (43, .int .i64 v43_70)]) (fun (r69, v43_70) => [sl (.slice a40 ((List.replicate (((s.Deps.length : Nat) : Int) : Int).toNat false).length) k41) (inside0_46 : List Bool), pv p44 [.slice a40 ((List.replicate (((s.Deps.length : Nat) : Int) : Int).toNat false).length) k41], pv p8 [.int .i64 s.Width, .slice sa1 s.Deps.length sk1, .slice sa2 s.Transfers.length sk2, .slice sa3 s.Boundary.length sk3], sl (.slice sa1 s.Deps.length sk1) (s.Deps : List (List Int)), sl (.slice sa2 s.Transfers.length sk2) (s.Transfers : List GTransfer), sl (.slice sa3 s.Boundary.length sk3) (s.Boundary : List GSet), sl (.slice set_a0 set_.length set_k0) (set_ : List Int), sl (.slice leavesa0 leaves.length leavesk0) (leaves : List Int)]) (fun (r69, v43_70) => cone_Closed_L1 s set_ leaves inside0_46 r69 v43_70 = cone_Closed_L1 s set_ leaves inside0_46 (((((set_.length : Nat) : Int) : Int) - 0).toNat) 0 ∧ r69 = ((((set_.length : Nat) : Int) : Int) - v43_70).toNat ∧ (0 : Int) ≤ v43_70 ∧ (v43_70 ≤ ((set_.length : Nat) : Int) ∨ v43_70 = 0) ∧ (-9223372036854775808 ≤ v43_70 ∧ v43_70 ≤ 9223372036854775807)) (fun (r69, v43_70) => r69) (((((set_.length : Nat) : Int) : Int) - 0).toNat, 0) ⟨rfl, rfl, (by omega), (.inr rfl), (by omega)⟩ (Env.sub_all rfl) (Ent.take (is := [0, 1, 2, 3, 4, 5, 6, 7]) rfl) ?_
          rintro ⟨r69, v43_70⟩ ⟨hM71, hr72, hi73, hi74, hk75⟩
          refine JJ_norm (L := [(2, .slice leavesa0 leaves.length leavesk0), (3, p8), (7, p44), (41, .slice set_a0 set_.length set_k0), (42, .int .i64 ((set_.length : Nat) : Int)), (43, .int .i64 v43_70)]) (A := [sl (.slice a40 ((List.replicate (((s.Deps.length : Nat) : Int) : Int).toNat false).length) k41) (inside0_46 : List Bool), pv p44 [.slice a40 ((List.replicate (((s.Deps.length : Nat) : Int) : Int).toNat false).length) k41], pv p8 [.int .i64 s.Width, .slice sa1 s.Deps.length sk1, .slice sa2 s.Transfers.length sk2, .slice sa3 s.Boundary.length sk3], sl (.slice sa1 s.Deps.length sk1) (s.Deps : List (List Int)), sl (.slice sa2 s.Transfers.length sk2) (s.Transfers : List GTransfer), sl (.slice sa3 s.Boundary.length sk3) (s.Boundary : List GSet), sl (.slice set_a0 set_.length set_k0) (set_ : List Int), sl (.slice leavesa0 leaves.length leavesk0) (leaves : List Int)]) rfl rfl ?_
          refine JJ_fact 0 rfl sl_bytes ?_
          intro hl76
          have hl76 : inside0_46.length * 1 ≤ 140737488355328 := hl76
          refine JJ_fact 0 rfl sl_len ?_
          intro hn77
          refine JJ_fact 3 rfl sl_bytes ?_
          intro hl78
          have hl78 : s.Deps.length * 24 ≤ 140737488355328 := hl78
          refine JJ_fact 4 rfl sl_bytes ?_
          intro hl79
          have hl79 : s.Transfers.length * 88 ≤ 140737488355328 := hl79
          refine JJ_fact 5 rfl sl_bytes ?_
          intro hl80
          have hl80 : s.Boundary.length * 32 ≤ 140737488355328 := hl80
          refine JJ_fact 6 rfl sl_bytes ?_
          intro hl81
          have hl81 : set_.length * 8 ≤ 140737488355328 := hl81
          refine JJ_fact 6 rfl sl_ok ?_
          intro ho82
          refine JJ_fact 7 rfl sl_bytes ?_
          intro hl83
          have hl83 : leaves.length * 8 ≤ 140737488355328 := hl83
          refine JJ_fact 7 rfl sl_ok ?_
          intro ho84
          refine JK_seq ?_
          refine JK_region ?_
          refine JO_q rfl rfl rfl (OpV.lss rfl rfl rfl) ?_
          refine JO_nil ?_
          refine JK_seq ?_
          refine JK_cond (b := decide (v43_70 < ((set_.length : Nat) : Int))) rfl (fun (h85 : decide (v43_70 < ((set_.length : Nat) : Int)) = true) => ?_) (fun (h85 : decide (v43_70 < ((set_.length : Nat) : Int)) = false) => ?_)
          · skip
            have g86 : (v43_70 < ((set_.length : Nat) : Int)) := of_decide_eq_true h85
            have hv0 := EValid_deps (s := s) (by simp only [h12, h17, h22, h27, h32, h37, h63, h85, hg10, hg20, hg30, hR68])
            have hq := (unknowns_iff s set_).1 (by simp only [h12, h17, h22, h27, h32, h37, h63, h85, hg10, hg20, hg30, hR68]) _ (getD_mem (xs := set_) (i := (v43_70 : Int).toNat) (d := 0) (by omega))
            obtain ⟨r87, rfl⟩ : ∃ q, r69 = q + 1 := ⟨r69 - 1, by omega⟩
            refine JK_skip ?_
            refine JK_seq ?_
            refine JK_block ?_
            refine JK_seq ?_
            refine JK_region ?_
            refine JO_q rfl rfl rfl (OpV.indexAddr (m := 6) rfl rfl rfl sl22 rfl (isSl_sl _ _) (by first | omega | (simp only [List.length_set, List.length_append, List.length_cons, List.length_nil, List.length_replicate, List.length_take, List.length_drop]; omega) | (simp only [List.length_set, List.length_append, List.length_cons, List.length_nil, List.length_replicate, List.length_take, List.length_drop] at *; omega))) ?_
            have hb88 : -9223372036854775808 ≤ (set_.getD (v43_70 : Int).toNat 0) ∧ (set_.getD (v43_70 : Int).toNat 0) ≤ 9223372036854775807 := getD_ok ho82 (by first | omega | (simp only [List.length_set, List.length_append, List.length_cons, List.length_nil, List.length_replicate, List.length_take, List.length_drop]; omega) | (simp only [List.length_set, List.length_append, List.length_cons, List.length_nil, List.length_replicate, List.length_take, List.length_drop] at *; omega))
            refine JO_q rfl rfl rfl (OpV.load rfl rfl sh3 (i := 6) rfl (reads_sl _ _ _ 0 (by first | omega | (simp only [List.length_set, List.length_append, List.length_cons, List.length_nil, List.length_replicate, List.length_take, List.length_drop]; omega) | (simp only [List.length_set, List.length_append, List.length_cons, List.length_nil, List.length_replicate, List.length_take, List.length_drop] at *; omega))) rfl) ?_
            refine JO_q rfl rfl rfl (OpV.assign rfl rfl) ?_
            refine JO_nil ?_
            refine JK_seq ?_
            refine JK_region ?_
            refine JO_q rfl rfl rfl (OpV.move rfl rfl) ?_
            refine JO_q rfl rfl rfl (OpV.move rfl rfl) ?_
            refine letv (slices_Contains_int leaves (set_.getD (v43_70 : Int).toNat 0)) fun rv89 hg90 => ?_
            have hc91 := fn32 leaves leavesa0 leavesk0 ((set_.getD (v43_70 : Int).toNat 0)) (by (try dsimp only) <;> first | (unfold i64ok; omega) | omega | assumption) rv89 hg90
            refine JO_call [7] rfl rfl rfl (OpC.fn rfl ca32 rfl) (hc91) rfl ?_
            rintro - -
            refine JO_q rfl rfl rfl (OpV.not rfl rfl) ?_
            refine JO_q rfl rfl rfl (OpV.move rfl rfl) ?_
            refine JJ_split 51 rfl (fun (h92 : (!rv89) = true) => ?_) (fun (h92 : (!rv89) = false) => ?_)
            · skip
              have h94 : rv89 = false := not_true h92
              refine JO_taken rfl rfl rfl rfl ?_
              refine JO_q rfl rfl rfl (OpV.fieldAddr rfl rfl fo27_1 (i := 2) rfl (isPtr_pv _ _)) ?_
              refine JO_taken rfl rfl rfl rfl ?_
              refine JO_q rfl rfl rfl (OpV.loadF rfl rfl sh23 (i := 2) rfl (reads_pv _ _) rfl) ?_
              refine JO_taken rfl rfl rfl rfl ?_
              refine JO_q rfl rfl rfl (OpV.move rfl rfl) ?_
              refine JO_taken rfl rfl rfl rfl ?_
              refine JO_q rfl rfl rfl (OpV.indexAddr (m := 3) rfl rfl rfl sl23 rfl (isSl_sl _ _) (by first | omega | (simp only [List.length_set, List.length_append, List.length_cons, List.length_nil, List.length_replicate, List.length_take, List.length_drop]; omega) | (simp only [List.length_set, List.length_append, List.length_cons, List.length_nil, List.length_replicate, List.length_take, List.length_drop] at *; omega))) ?_
              refine JO_taken rfl rfl rfl rfl ?_
              refine JJ_peekL ((set_.getD (v43_70 : Int).toNat 0) : Int).toNat 3 rfl (by omega) ?_
              intro a96 k97
              refine JJ_fact 1 rfl sl_bytes ?_
              intro hl98
              have hl98 : (s.Deps.getD ((set_.getD (v43_70 : Int).toNat 0) : Int).toNat []).length * 8 ≤ 140737488355328 := hl98
              refine JJ_fact 1 rfl sl_ok ?_
              intro ho99
              refine JO_q rfl rfl rfl (OpV.load rfl rfl sh22 (i := 0) rfl (reads_pv _ _) rfl) ?_
              refine JO_taken rfl rfl rfl rfl ?_
              refine JO_q rfl rfl rfl (OpV.makeFunc (vs := #[]) (ws := #[p44]) rfl (fun ρ hρ => ⟨by simp, evs_arr hρ rfl⟩)) ?_
              refine JO_taken rfl rfl rfl rfl ?_
              refine JJ_fact 2 rfl sl_len ?_
              intro hn100
              rw [← hn100]
              refine JJ_ent (Ent.pall [3, 2] rfl rfl) ?_
              refine letv (slices_ContainsFunc_int (s.Deps.getD ((set_.getD (v43_70 : Int).toNat 0) : Int).toNat []) (fun x => cone_Closed_1 x inside0_46)) fun rv101 hg102 => ?_
              have hc103 := fn34 ((s.Deps.getD ((set_.getD (v43_70 : Int).toNat 0) : Int).toNat [])) a96 k97 35 [p44] (fun x => cone_Closed_1 x inside0_46) [pv p44 [.slice a40 inside0_46.length k41], sl (.slice a40 inside0_46.length k41) (inside0_46 : List Bool)] ca35 (fun x hx hq0 => FT_pall (A1 := _) (fn35 x  p44 inside0_46 a40 k41 hq0 (by have hq5 := EValid_dep_mem (s := s) (by simp only [h12, h17, h22, h27, h32, h37, h63, h85, h92, h94, hg10, hg20, hg30, hR68, hg90]) hq.1 (by omega) x hx; omega) _ rfl)) rv101 hg102
              refine JO_call [2, 0] rfl rfl rfl (OpC.fn rfl ca34 rfl) (hc103) rfl ?_
              rintro - -
              refine JO_q rfl rfl rfl (OpV.pickT rfl rfl rfl) ?_
              refine JO_nil ?_
              refine JK_cond (b := rv101) rfl (fun (h104 : rv101 = true) => ?_) (fun (h104 : rv101 = false) => ?_)
              · skip
                refine JK_seq ?_
                refine JK_region ?_
                refine JO_q rfl rfl rfl (OpV.assign rfl rfl) ?_
                refine JO_nil ?_
                have hR106 : cone_Closed_L1 s set_ leaves inside0_46 (((((set_.length : Nat) : Int) : Int) - 0).toNat) 0 = LR.ret false := by
                  rw [← hM71]; simp only [cone_Closed_L1, h12, h17, h22, h27, h32, h37, h63, h85, h92, h94, h104, hg10, hg20, hg30, hR68, hg90, hg102, cond_true, cond_false, Bool.not_true, Bool.not_false]
                have hq : rr = false := hrr.symm.trans (by simp only [cone_Closed, h12, h17, h22, h27, h32, h37, h63, h85, h92, h94, h104, hg10, hg20, hg30, hR68, hg90, hg102, hR106, cond_true, cond_false, Bool.not_true, Bool.not_false])
                replace hrr := hrr.trans hq
                subst rr
                refine JK_return (()) rfl (.tmp rfl .nil) rfl trivial (Ent.take (is := []) rfl)
              · skip
                refine JK_skip ?_
                refine JK_blk ?_
                refine JK_region ?_
                refine JO_q rfl rfl rfl (OpV.add rfl rfl rfl (by unfold i64ok; omega)) ?_
                refine JO_q rfl rfl rfl (OpV.move rfl rfl) ?_
                refine JO_nil ?_
                refine JK_goal (r87, (v43_70 + 1)) ⟨(by rw [← hM71]; simp only [cone_Closed_L1, h12, h17, h22, h27, h32, h37, h63, h85, h92, h94, h104, hg10, hg20, hg30, hR68, hg90, hg102, cond_true, cond_false, Bool.not_true, Bool.not_false]), (by omega), (by omega), (by omega), (by omega)⟩ (by show r87 < r87 + 1; omega) (Env.sub_all rfl) (Ent.take (is := [3, 4, 5, 6, 7, 8, 9, 10]) rfl)
            · skip
              have h109 : rv89 = true := not_false h92
              refine JO_skip rfl rfl rfl rfl rfl rfl ?_
              refine JO_skip rfl rfl rfl rfl rfl rfl ?_
              refine JO_skip rfl rfl rfl rfl rfl rfl ?_
              refine JO_skip rfl rfl rfl rfl rfl rfl ?_
              refine JO_skip rfl rfl rfl rfl rfl rfl ?_
              refine JO_skip rfl rfl rfl rfl rfl rfl ?_
              refine JO_skip rfl rfl rfl rfl rfl rfl ?_
              refine JO_q rfl rfl rfl (OpV.pickF rfl rfl rfl) ?_
              refine JO_nil ?_
              refine JK_condF rfl ?_
              refine JK_skip ?_
              refine JK_blk ?_
              refine JK_region ?_
              refine JO_q rfl rfl rfl (OpV.add rfl rfl rfl (by unfold i64ok; omega)) ?_
              refine JO_q rfl rfl rfl (OpV.move rfl rfl) ?_
              refine JO_nil ?_
              refine JK_goal (r87, (v43_70 + 1)) ⟨(by rw [← hM71]; simp only [cone_Closed_L1, h12, h17, h22, h27, h32, h37, h63, h85, h92, h109, hg10, hg20, hg30, hR68, hg90, cond_true, cond_false, Bool.not_true, Bool.not_false]), (by omega), (by omega), (by omega), (by omega)⟩ (by show r87 < r87 + 1; omega) (Env.sub_all rfl) (Ent.take (is := [0, 1, 2, 3, 4, 5, 6, 7]) rfl)
          · skip
            have g111 : ¬ (v43_70 < ((set_.length : Nat) : Int)) := of_decide_eq_false h85
            obtain rfl : r69 = 0 := by omega
            refine JK_exit rfl ?_
            have hR112 : cone_Closed_L1 s set_ leaves inside0_46 (((((set_.length : Nat) : Int) : Int) - 0).toNat) 0 = LR.brk () := by
              rw [← hM71]; simp only [cone_Closed_L1, h12, h17, h22, h27, h32, h37, h63, h85, hg10, hg20, hg30, hR68, cond_true, cond_false, Bool.not_true, Bool.not_false]
            refine JK_seq ?_
            refine JK_region ?_
            refine JO_q rfl rfl rfl (OpV.assign rfl rfl) ?_
            refine JO_nil ?_
            have hq : rr = true := hrr.symm.trans (by simp only [cone_Closed, h12, h17, h22, h27, h32, h37, h63, h85, hg10, hg20, hg30, hR68, hR112, cond_true, cond_false, Bool.not_true, Bool.not_false])
            replace hrr := hrr.trans hq
            subst rr
            refine JK_return (()) rfl (.tmp rfl .nil) rfl trivial (Ent.take (is := []) rfl)
end Go.SL.G
namespace Go.SL.G
open Go Go.SL Go.Proofs
set_option maxHeartbeats 20000000 in
set_option maxRecDepth 100000 in
/- flowquery/flqref7.Has -/
theorem fn16 (l : List Int) (la0 : Option Addr) (lk0 : Nat) (n : Int) (hn_0 : i64ok n) (rr : Bool) (hrr : flqref7_Has l n = rr) :
    FT Try.prog 16 #[.slice la0 l.length lk0, .int .i64 n] [sl (.slice la0 l.length lk0) (l : List Int)]
      (fun g : Unit => True)
      (fun g => .bool rr)
      (fun g => []) := by
  refine FT_intro (args := [.slice la0 l.length lk0, .int .i64 n]) Try.func16 rfl rfl ?_
  intro w0 M0 F0
  have hn_0 : -9223372036854775808 ≤ n ∧ n ≤ 9223372036854775807 := hn_0
  refine JJ_fact 0 rfl sl_bytes ?_
  intro hl1
  have hl1 : l.length * 8 ≤ 140737488355328 := hl1
  refine JJ_fact 0 rfl sl_ok ?_
  intro ho2
  refine JK_seq ?_
  refine JK_region ?_
  refine JO_q rfl rfl rfl (OpV.assign rfl rfl) ?_
  refine JO_nil ?_
  refine JK_seq ?_
  refine JK_seq ?_
  refine JK_region ?_
  refine JO_q rfl rfl rfl (OpV.assign rfl rfl) ?_
  refine JO_nil ?_
  refine JK_block ?_
  refine JK_loop (γ := Nat × Int) (fun (r3, i_4) => [(0, .slice la0 l.length lk0), (1, .int .i64 n), (5, .int .i64 i_4)]) (fun (r3, i_4) => [sl (.slice la0 l.length lk0) (l : List Int)]) (fun (r3, i_4) => flqref7_Has_L0 l n r3 i_4 = flqref7_Has_L0 l n (((((l.length : Nat) : Int) : Int) - 0).toNat) 0 ∧ r3 = ((((l.length : Nat) : Int) : Int) - i_4).toNat ∧ (0 : Int) ≤ i_4 ∧ (i_4 ≤ ((l.length : Nat) : Int) ∨ i_4 = 0) ∧ (-9223372036854775808 ≤ i_4 ∧ i_4 ≤ 9223372036854775807)) (fun (r3, i_4) => r3) (((((l.length : Nat) : Int) : Int) - 0).toNat, 0) ⟨rfl, rfl, (by omega), (.inr rfl), (by omega)⟩ (Env.sub_all rfl) (Ent.take (is := [0]) rfl) ?_
  rintro ⟨r3, i_4⟩ ⟨hM5, hr6, hi7, hi8, hk9⟩
  refine JJ_norm (L := [(0, .slice la0 l.length lk0), (1, .int .i64 n), (5, .int .i64 i_4)]) (A := [sl (.slice la0 l.length lk0) (l : List Int)]) rfl rfl ?_
  refine JJ_fact 0 rfl sl_bytes ?_
  intro hl10
  have hl10 : l.length * 8 ≤ 140737488355328 := hl10
  refine JJ_fact 0 rfl sl_ok ?_
  intro ho11
  refine JK_seq ?_
  refine JK_seq ?_
  refine JK_region ?_
  refine JO_q rfl rfl rfl (OpV.move rfl rfl) ?_
  refine JO_q rfl rfl rfl (OpV.move rfl rfl) ?_
  refine JO_q rfl rfl rfl (OpV.len rfl rfl sl22) ?_
  refine JO_q rfl rfl rfl (OpV.lss rfl rfl rfl) ?_
  refine JO_nil ?_
  refine JK_cond (b := decide (i_4 < ((l.length : Nat) : Int))) rfl (fun (h12 : decide (i_4 < ((l.length : Nat) : Int)) = true) => ?_) (fun (h12 : decide (i_4 < ((l.length : Nat) : Int)) = false) => ?_)
  · skip
    have g13 : (i_4 < ((l.length : Nat) : Int)) := of_decide_eq_true h12
    obtain ⟨r14, rfl⟩ : ∃ q, r3 = q + 1 := ⟨r3 - 1, by omega⟩
    refine JK_skip ?_
    refine JK_seq ?_
    refine JK_block ?_
    refine JK_seq ?_
    refine JK_region ?_
    refine JO_q rfl rfl rfl (OpV.move rfl rfl) ?_
    refine JO_q rfl rfl rfl (OpV.move rfl rfl) ?_
    refine JO_q rfl rfl rfl (OpV.indexAddr (m := 0) rfl rfl rfl sl22 rfl (isSl_sl _ _) (by first | omega | (simp only [List.length_set, List.length_append, List.length_cons, List.length_nil, List.length_replicate, List.length_take, List.length_drop]; omega) | (simp only [List.length_set, List.length_append, List.length_cons, List.length_nil, List.length_replicate, List.length_take, List.length_drop] at *; omega))) ?_
    have hb15 : -9223372036854775808 ≤ (l.getD (i_4 : Int).toNat 0) ∧ (l.getD (i_4 : Int).toNat 0) ≤ 9223372036854775807 := getD_ok ho11 (by first | omega | (simp only [List.length_set, List.length_append, List.length_cons, List.length_nil, List.length_replicate, List.length_take, List.length_drop]; omega) | (simp only [List.length_set, List.length_append, List.length_cons, List.length_nil, List.length_replicate, List.length_take, List.length_drop] at *; omega))
    refine JO_q rfl rfl rfl (OpV.load rfl rfl sh3 (i := 0) rfl (reads_sl _ _ _ 0 (by first | omega | (simp only [List.length_set, List.length_append, List.length_cons, List.length_nil, List.length_replicate, List.length_take, List.length_drop]; omega) | (simp only [List.length_set, List.length_append, List.length_cons, List.length_nil, List.length_replicate, List.length_take, List.length_drop] at *; omega))) rfl) ?_
    refine JO_q rfl rfl rfl (OpV.move rfl rfl) ?_
    refine JO_q rfl rfl rfl (OpV.eql rfl rfl rfl) ?_
    refine JO_nil ?_
    refine JK_cond (b := ((l.getD (i_4 : Int).toNat 0) == n)) rfl (fun (h16 : ((l.getD (i_4 : Int).toNat 0) == n) = true) => ?_) (fun (h16 : ((l.getD (i_4 : Int).toNat 0) == n) = false) => ?_)
    · skip
      have g17 : (l.getD (i_4 : Int).toNat 0) = n := eq_of_beq h16
      refine JK_seq ?_
      refine JK_region ?_
      refine JO_q rfl rfl rfl (OpV.assign rfl rfl) ?_
      refine JO_nil ?_
      have hR18 : flqref7_Has_L0 l n (((((l.length : Nat) : Int) : Int) - 0).toNat) 0 = LR.ret true := by
        rw [← hM5]; simp only [flqref7_Has_L0, h12, h16, cond_true, cond_false, Bool.not_true, Bool.not_false]
      have hq : rr = true := hrr.symm.trans (by simp only [flqref7_Has, h12, h16, hR18, cond_true, cond_false, Bool.not_true, Bool.not_false])
      replace hrr := hrr.trans hq
      subst rr
      refine JK_return (()) rfl (.tmp rfl .nil) rfl trivial (Ent.take (is := []) rfl)
    · skip
      have g19 : (l.getD (i_4 : Int).toNat 0) ≠ n := ne_of_beq_false h16
      refine JK_skip ?_
      refine JK_blk ?_
      refine JK_region ?_
      refine JO_q rfl rfl rfl (OpV.move rfl rfl) ?_
      refine JO_q rfl rfl rfl (OpV.add rfl rfl rfl (by unfold i64ok; omega)) ?_
      refine JO_q rfl rfl rfl (OpV.assign rfl rfl) ?_
      refine JO_nil ?_
      refine JK_goal (r14, (i_4 + 1)) ⟨(by rw [← hM5]; simp only [flqref7_Has_L0, h12, h16, cond_true, cond_false, Bool.not_true, Bool.not_false]), (by omega), (by omega), (by omega), (by omega)⟩ (by show r14 < r14 + 1; omega) (Env.sub_all rfl) (Ent.take (is := [0]) rfl)
  · skip
    have g20 : ¬ (i_4 < ((l.length : Nat) : Int)) := of_decide_eq_false h12
    obtain rfl : r3 = 0 := by omega
    refine JK_exit rfl ?_
    have hR21 : flqref7_Has_L0 l n (((((l.length : Nat) : Int) : Int) - 0).toNat) 0 = LR.brk () := by
      rw [← hM5]; simp only [flqref7_Has_L0, h12, cond_true, cond_false, Bool.not_true, Bool.not_false]
    refine JK_seq ?_
    refine JK_region ?_
    refine JO_q rfl rfl rfl (OpV.assign rfl rfl) ?_
    refine JO_nil ?_
    have hq : rr = false := hrr.symm.trans (by simp only [flqref7_Has, h12, hR21, cond_true, cond_false, Bool.not_true, Bool.not_false])
    replace hrr := hrr.trans hq
    subst rr
    refine JK_return (()) rfl (.tmp rfl .nil) rfl trivial (Ent.take (is := []) rfl)
end Go.SL.G
namespace Go.SL.G
open Go Go.SL Go.Proofs
set_option maxHeartbeats 20000000 in
set_option maxRecDepth 100000 in
/- flowquery/flqlaw14.ConeClosed -/
theorem fn4 (t : List Int) (ta0 : Option Addr) (tk0 : Nat) (rr : Bool) (hrr : flqlaw14_ConeClosed t = rr) :
    FT Try.prog 4 #[.slice ta0 t.length tk0] [sl (.slice ta0 t.length tk0) (t : List Int)]
      (fun g : Unit => True)
      (fun g => .bool rr)
      (fun g => []) := by
  refine FT_intro (args := [.slice ta0 t.length tk0]) Try.func4 rfl rfl ?_
  intro w0 M0 F0
  refine JJ_fact 0 rfl sl_bytes ?_
  intro hl1
  have hl1 : t.length * 8 ≤ 140737488355328 := hl1
  refine JJ_fact 0 rfl sl_ok ?_
  intro ho2
  refine JK_seq ?_
  refine JK_region ?_
  refine JO_q rfl rfl rfl (OpV.assign rfl rfl) ?_
  refine JO_nil ?_
  refine JK_seq ?_
  refine JK_region ?_
  refine JO_q rfl rfl rfl (OpV.move rfl rfl) ?_
  refine letv (flqgen_New t) fun rv4 hg5 => ?_
  have hc6 := fn5 t ta0 tk0 rv4 hg5
  refine JO_call [0] rfl rfl rfl (OpC.fn rfl ca5 rfl) (hc6) rfl ?_
  rintro c3 -
  refine JO_q rfl rfl rfl (OpV.assign rfl rfl) ?_
  refine JO_nil ?_
  refine JK_seq ?_
  refine JK_region ?_
  refine JO_q rfl rfl rfl (OpV.move rfl rfl) ?_
  refine letv (Tape_System t 0 7) fun rv10 hg11 => ?_
  have hc12 := fn6 c3 ta0 tk0 t 0 7 (by (try dsimp only) <;> first | (unfold i64ok; omega) | omega | assumption) (by (try dsimp only) <;> first | (unfold i64ok; omega) | omega | assumption) (by (try dsimp only) <;> first | (unfold i64ok; omega) | omega | assumption) rv10 hg11
  refine JO_call [0, 0] rfl rfl rfl (OpC.fn rfl ca6 rfl) (hc12) rfl ?_
  rintro ⟨c7, c8, c9⟩ ⟨he13, he14, he15⟩
  have he13 : -9223372036854775808 ≤ rv10.1.Width ∧ rv10.1.Width ≤ 9223372036854775807 := he13
  refine JJ_slice 0 rfl sl_slice ?_
  rintro a16 k17 rfl
  refine JJ_fact 0 rfl sl_bytes ?_
  intro hl18
  have hl18 : rv10.1.Deps.length * 24 ≤ 140737488355328 := hl18
  refine JJ_slice 1 rfl sl_slice ?_
  rintro a19 k20 rfl
  refine JJ_fact 1 rfl sl_bytes ?_
  intro hl21
  have hl21 : rv10.1.Transfers.length * 88 ≤ 140737488355328 := hl21
  refine JJ_slice 2 rfl sl_slice ?_
  rintro a22 k23 rfl
  refine JJ_fact 2 rfl sl_bytes ?_
  intro hl24
  have hl24 : rv10.1.Boundary.length * 32 ≤ 140737488355328 := hl24
  refine JO_act rfl rfl rfl (OpA.alloc rfl ze27) ?_
  intro p25
  refine JO_store rfl rfl (OpS.frame [0] rfl (OpS.storeCl [.int .i64 rv10.1.Width, .slice a16 rv10.1.Deps.length k17, .slice a19 rv10.1.Transfers.length k20, .slice a22 rv10.1.Boundary.length k23] [.int .i64 rv10.1.Width, .slice a16 rv10.1.Deps.length k17, .slice a19 rv10.1.Transfers.length k20, .slice a22 rv10.1.Boundary.length k23] rfl rfl rfl sh27 rfl rfl rfl (Nat.le_of_ble_eq_true rfl) rfl)) ?_
  refine JO_nil ?_
  refine JK_seq ?_
  refine JK_region ?_
  refine JO_q rfl rfl rfl (OpV.move rfl rfl) ?_
  refine JO_q rfl rfl rfl (OpV.fieldAddr rfl rfl fo27_1 (i := 0) rfl (isPtr_Cl _ _)) ?_
  refine JO_q rfl rfl rfl (OpV.loadF rfl rfl sh23 (i := 0) rfl (reads_Cl _ _) rfl) ?_
  refine JO_q rfl rfl rfl (OpV.len rfl rfl sl23) ?_
  refine letv (Tape_Next t rv10.2 ((rv10.1.Deps.length : Nat) : Int)) fun rv26 hg27 => ?_
  have hc28 := fn8 c3 ta0 tk0 t rv10.2 (((rv10.1.Deps.length : Nat) : Int)) (by (try dsimp only) <;> first | (unfold i64ok; omega) | omega | assumption) (by (try dsimp only) <;> first | (unfold i64ok; omega) | omega | assumption) rv26 hg27
  refine JO_call [4, 4] rfl rfl rfl (OpC.fn rfl ca8 rfl) (hc28) rfl ?_
  rintro - ⟨he29, he30, he31⟩
  have he29 : -9223372036854775808 ≤ rv26.1 ∧ rv26.1 ≤ 9223372036854775807 := he29
  refine JO_q rfl rfl rfl (OpV.assign rfl rfl) ?_
  refine JO_nil ?_
  refine JK_seq ?_
  refine JK_region ?_
  refine JO_q rfl rfl rfl (OpV.move rfl rfl) ?_
  refine JO_q rfl rfl rfl (OpV.fieldAddr rfl rfl fo27_1 (i := 1) rfl (isPtr_Cl _ _)) ?_
  refine JO_q rfl rfl rfl (OpV.loadF rfl rfl sh23 (i := 1) rfl (reads_Cl _ _) rfl) ?_
  refine JO_q rfl rfl rfl (OpV.len rfl rfl sl23) ?_
  refine letv (Tape_Next t rv26.2 ((rv10.1.Deps.length : Nat) : Int)) fun rv32 hg33 => ?_
  have hc34 := fn8 c3 ta0 tk0 t rv26.2 (((rv10.1.Deps.length : Nat) : Int)) (by (try dsimp only) <;> first | (unfold i64ok; omega) | omega | assumption) (by (try dsimp only) <;> first | (unfold i64ok; omega) | omega | assumption) rv32 hg33
  refine JO_call [0, 4] rfl rfl rfl (OpC.fn rfl ca8 rfl) (hc34) rfl ?_
  rintro - ⟨he35, he36, he37⟩
  have he35 : -9223372036854775808 ≤ rv32.1 ∧ rv32.1 ≤ 9223372036854775807 := he35
  refine JO_act rfl rfl rfl (OpA.buildSliceV [.int .i64 rv32.1] [.int .i64 rv32.1] rfl sl22 sz22 rfl (Env.evp_map rfl) rfl rfl rfl rfl) ?_
  intro c38
  refine JJ_slice 0 rfl Cr_slice ?_
  rintro a39 k40 rfl
  refine JO_q rfl rfl rfl (OpV.move rfl rfl) ?_
  refine letv (Tape_Next t rv32.2 2) fun rv41 hg42 => ?_
  have hc43 := fn8 c3 ta0 tk0 t rv32.2 2 (by (try dsimp only) <;> first | (unfold i64ok; omega) | omega | assumption) (by (try dsimp only) <;> first | (unfold i64ok; omega) | omega | assumption) rv41 hg42
  refine JO_call [1, 5] rfl rfl rfl (OpC.fn rfl ca8 rfl) (hc43) rfl ?_
  rintro - ⟨he44, he45, he46⟩
  have he44 : -9223372036854775808 ≤ rv41.1 ∧ rv41.1 ≤ 9223372036854775807 := he44
  refine JJ_loc [1] rfl (Ent.crInt _ [rv32.1] _ _ rfl rfl (by intro x hx; rw [List.mem_singleton] at hx; subst hx; unfold i64ok; omega) (Nat.le_of_ble_eq_true rfl)) ?_
  refine JO_act rfl rfl rfl (OpA.frame [0] rfl (OpA.sliceOs 0 ((rv41.1 : Int).toNat) rfl rfl sl22 rfl rfl ⟨_, natc rfl (by omega)⟩ (by first | omega | (simp only [List.length_set, List.length_append, List.length_cons, List.length_nil, List.length_replicate, List.length_take, List.length_drop]; omega) | (simp only [List.length_set, List.length_append, List.length_cons, List.length_nil, List.length_replicate, List.length_take, List.length_drop] at *; omega)) (by first | omega | (simp only [List.length_set, List.length_append, List.length_cons, List.length_nil, List.length_replicate, List.length_take, List.length_drop]; omega) | (simp only [List.length_set, List.length_append, List.length_cons, List.length_nil, List.length_replicate, List.length_take, List.length_drop] at *; omega)))) ?_
  intro c47
  refine JJ_slice 0 rfl os_slice ?_
  rintro a48 k49 rfl
  refine JJ_fact 0 rfl os_bytes ?_
  intro hl50
  have hl50 : (([rv32.1].take ((rv41.1 : Int).toNat)).drop 0).length * 8 ≤ 140737488355328 := hl50
  refine JJ_fact 0 rfl os_ok ?_
  intro ho51
  have hn52 : (([rv32.1].take ((rv41.1 : Int).toNat)).drop 0).length = ((rv41.1 : Int).toNat) - 0 := len_slice (by first | omega | (simp only [List.length_set, List.length_append, List.length_cons, List.length_nil, List.length_replicate, List.length_take, List.length_drop]; omega) | (simp only [List.length_set, List.length_append, List.length_cons, List.length_nil, List.length_replicate, List.length_take, List.length_drop] at *; omega)) (by first | omega | (simp only [List.length_set, List.length_append, List.length_cons, List.length_nil, List.length_replicate, List.length_take, List.length_drop]; omega) | (simp only [List.length_set, List.length_append, List.length_cons, List.length_nil, List.length_replicate, List.length_take, List.length_drop] at *; omega))
  refine JO_q rfl rfl rfl (OpV.assign rfl rfl) ?_
  refine JO_nil ?_
  refine JK_seq ?_
  refine JK_region ?_
  refine JO_q rfl rfl rfl (OpV.loadA rfl rfl sh27 (i := 2) rfl (reads_Cl _ _) rfl) ?_
  refine JO_q rfl rfl rfl (OpV.move rfl rfl) ?_
  refine JO_q rfl rfl rfl (OpV.move rfl rfl) ?_
  refine JJ_loc [0] rfl (Ent.freeze _ _) ?_
  refine letv (cone_Of rv10.1 rv26.1 (([rv32.1].take ((rv41.1 : Int).toNat)).drop 0)) fun rv54 hg55 => ?_
  have hc56 := fn14 rv10.1 a16 k17 a19 k20 a22 k23 rv26.1 ((([rv32.1].take ((rv41.1 : Int).toNat)).drop 0)) a48 k49 (by (try dsimp only) <;> first | (unfold i64ok; omega) | omega | assumption) (by (try dsimp only) <;> first | (unfold i64ok; omega) | omega | assumption) rv54 hg55
  refine JO_call [3, 4, 5, 0] rfl rfl rfl (OpC.fn rfl ca14 rfl) (hc56) rfl ?_
  rintro c53 ⟨he57, he58⟩
  have he57 : -9223372036854775808 ≤ rv54.2.1 ∧ rv54.2.1 ≤ 9223372036854775807 := he57
  have he58 : -9223372036854775808 ≤ rv54.2.2 ∧ rv54.2.2 ≤ 9223372036854775807 := he58
  refine JJ_slice 0 rfl sl_slice ?_
  rintro a59 k60 rfl
  refine JJ_fact 0 rfl sl_bytes ?_
  intro hl61
  have hl61 : rv54.1.length * 8 ≤ 140737488355328 := hl61
  refine JJ_fact 0 rfl sl_ok ?_
  intro ho62
  refine JO_q rfl rfl rfl (OpV.move rfl rfl) ?_
  refine JO_q rfl rfl rfl (OpV.extract rfl rfl rfl) ?_
  refine JO_q rfl rfl rfl (OpV.extract rfl rfl rfl) ?_
  refine JO_q rfl rfl rfl (OpV.extract rfl rfl rfl) ?_
  refine JO_q rfl rfl rfl (OpV.assign rfl rfl) ?_
  refine JO_q rfl rfl rfl (OpV.assign rfl rfl) ?_
  refine JO_q rfl rfl rfl (OpV.assign rfl rfl) ?_
  refine JO_nil ?_
  refine JK_seq ?_
  refine JK_seq ?_
  refine JK_region ?_
  refine JO_q rfl rfl rfl (OpV.move rfl rfl) ?_
  refine JO_q rfl rfl rfl (OpV.neq rfl rfl rfl) ?_
  refine JO_q rfl rfl rfl (OpV.move rfl rfl) ?_
  refine JJ_split 41 rfl (fun (h63 : (rv54.2.2 != 0) = true) => ?_) (fun (h63 : (rv54.2.2 != 0) = false) => ?_)
  · skip
    have g64 : rv54.2.2 ≠ 0 := ne_of_bne h63
    refine JO_skip rfl rfl rfl rfl rfl rfl ?_
    refine JO_skip rfl rfl rfl rfl rfl rfl ?_
    refine JO_skip rfl rfl rfl rfl rfl rfl ?_
    refine JO_skip rfl rfl rfl rfl rfl rfl ?_
    refine JO_skip rfl rfl rfl rfl rfl rfl ?_
    refine JO_q rfl rfl rfl (OpV.pickT rfl rfl rfl) ?_
    refine JO_q rfl rfl rfl (OpV.move rfl rfl) ?_
    refine JO_skip rfl rfl rfl rfl rfl rfl ?_
    refine JO_skip rfl rfl rfl rfl rfl rfl ?_
    refine JO_skip rfl rfl rfl rfl rfl rfl ?_
    refine JO_skip rfl rfl rfl rfl rfl rfl ?_
    refine JO_q rfl rfl rfl (OpV.pickT rfl rfl rfl) ?_
    refine JO_nil ?_
    refine JK_condT rfl ?_
    refine JK_seq ?_
    refine JK_region ?_
    refine JO_q rfl rfl rfl (OpV.assign rfl rfl) ?_
    refine JO_nil ?_
    have hq : rr = false := hrr.symm.trans (by simp only [flqlaw14_ConeClosed, h63, hg5, hg11, hg27, hg33, hg42, hg55, cond_true, cond_false, Bool.not_true, Bool.not_false])
    replace hrr := hrr.trans hq
    subst rr
    refine JK_return (()) rfl (.tmp rfl .nil) rfl trivial (Ent.take (is := []) rfl)
  · skip
    have g65 : rv54.2.2 = 0 := eq_of_bne_false h63
    refine JO_taken rfl rfl rfl rfl ?_
    refine JO_q rfl rfl rfl (OpV.loadA rfl rfl sh27 (i := 3) rfl (reads_Cl _ _) rfl) ?_
    refine JO_taken rfl rfl rfl rfl ?_
    refine JO_q rfl rfl rfl (OpV.move rfl rfl) ?_
    refine JO_taken rfl rfl rfl rfl ?_
    refine JO_q rfl rfl rfl (OpV.move rfl rfl) ?_
    refine JO_taken rfl rfl rfl rfl ?_
    refine letv (cone_Closed rv10.1 rv54.1 (([rv32.1].take ((rv41.1 : Int).toNat)).drop 0)) fun rv66 hg67 => ?_
    have hc68 := fn15 rv10.1 a16 k17 a19 k20 a22 k23 rv54.1 a59 k60 ((([rv32.1].take ((rv41.1 : Int).toNat)).drop 0)) a48 k49 (by (try dsimp only) <;> first | (unfold i64ok; omega) | omega | assumption) rv66 hg67
    refine JO_call [4, 5, 6, 0, 1] rfl rfl rfl (OpC.fn rfl ca15 rfl) (hc68) rfl ?_
    rintro - -
    refine JO_taken rfl rfl rfl rfl ?_
    refine JO_q rfl rfl rfl (OpV.not rfl rfl) ?_
    refine JO_q rfl rfl rfl (OpV.pickF rfl rfl rfl) ?_
    refine JO_q rfl rfl rfl (OpV.move rfl rfl) ?_
    refine JJ_split 48 rfl (fun (h69 : (!rv66) = true) => ?_) (fun (h69 : (!rv66) = false) => ?_)
    · skip
      have h71 : rv66 = false := not_true h69
      refine JO_skip rfl rfl rfl rfl rfl rfl ?_
      refine JO_skip rfl rfl rfl rfl rfl rfl ?_
      refine JO_skip rfl rfl rfl rfl rfl rfl ?_
      refine JO_skip rfl rfl rfl rfl rfl rfl ?_
      refine JO_q rfl rfl rfl (OpV.pickT rfl rfl rfl) ?_
      refine JO_nil ?_
      refine JK_condT rfl ?_
      refine JK_seq ?_
      refine JK_region ?_
      refine JO_q rfl rfl rfl (OpV.assign rfl rfl) ?_
      refine JO_nil ?_
      have hq : rr = false := hrr.symm.trans (by simp only [flqlaw14_ConeClosed, h63, h69, h71, hg5, hg11, hg27, hg33, hg42, hg55, hg67, cond_true, cond_false, Bool.not_true, Bool.not_false])
      replace hrr := hrr.trans hq
      subst rr
      refine JK_return (()) rfl (.tmp rfl .nil) rfl trivial (Ent.take (is := []) rfl)
    · skip
      have h74 : rv66 = true := not_false h69
      refine JO_taken rfl rfl rfl rfl ?_
      refine JO_q rfl rfl rfl (OpV.move rfl rfl) ?_
      refine JO_taken rfl rfl rfl rfl ?_
      refine JO_q rfl rfl rfl (OpV.move rfl rfl) ?_
      refine JO_taken rfl rfl rfl rfl ?_
      refine letv (flqref7_Has rv54.1 rv26.1) fun rv76 hg77 => ?_
      have hc78 := fn16 rv54.1 a59 k60 rv26.1 (by (try dsimp only) <;> first | (unfold i64ok; omega) | omega | assumption) rv76 hg77
      refine JO_call [0] rfl rfl rfl (OpC.fn rfl ca16 rfl) (hc78) rfl ?_
      rintro - -
      refine JO_taken rfl rfl rfl rfl ?_
      refine JO_q rfl rfl rfl (OpV.not rfl rfl) ?_
      refine JO_q rfl rfl rfl (OpV.pickF rfl rfl rfl) ?_
      refine JO_nil ?_
      refine JK_cond (b := (!rv76)) rfl (fun (h79 : (!rv76) = true) => ?_) (fun (h79 : (!rv76) = false) => ?_)
      · skip
        have h81 : rv76 = false := not_true h79
        refine JK_seq ?_
        refine JK_region ?_
        refine JO_q rfl rfl rfl (OpV.assign rfl rfl) ?_
        refine JO_nil ?_
        have hq : rr = false := hrr.symm.trans (by simp only [flqlaw14_ConeClosed, h63, h69, h74, h79, h81, hg5, hg11, hg27, hg33, hg42, hg55, hg67, hg77, cond_true, cond_false, Bool.not_true, Bool.not_false])
        replace hrr := hrr.trans hq
        subst rr
        refine JK_return (()) rfl (.tmp rfl .nil) rfl trivial (Ent.take (is := []) rfl)
      · skip
        have h84 : rv76 = true := not_false h79
        refine JK_skip ?_
        refine JK_seq ?_
        refine JK_region ?_
        refine JO_q rfl rfl rfl (OpV.move rfl rfl) ?_
        refine JO_act rfl rfl rfl (OpA.buildSliceV [.int .i64 rv26.1] [.int .i64 rv26.1] rfl sl22 sz22 rfl (Env.evp_map rfl) rfl rfl rfl rfl) ?_
        intro c86
        refine JJ_slice 0 rfl Cr_slice ?_
        rintro a87 k88 rfl
        refine JO_q rfl rfl rfl (OpV.assign rfl rfl) ?_
        refine JO_nil ?_
        refine JK_seq ?_
        refine JK_seq ?_
        refine JK_region ?_
        refine JO_q rfl rfl rfl (OpV.assign rfl rfl) ?_
        refine JO_nil ?_
        refine JK_block ?_
        refine JJ_loc [0] rfl (Ent.crInt _ [rv26.1] _ _ rfl rfl (by intro x hx; rw [List.mem_singleton] at hx; subst hx; unfold i64ok; omega) (Nat.le_of_ble_eq_true rfl)) ?_
        refine JJ_fact 0 rfl os_bytes ?_
        intro hl89
        have hl89 : [rv26.1].length * 8 ≤ 140737488355328 := hl89
        refine JJ_fact 0 rfl os_ok ?_
        intro ho90
        refine JJ_loc [0] rfl (Ent.freeze _ _) ?_
        refine JK_loop (γ := Nat × Int × List Int × Int × Option Addr × Nat) (fun (r91, k1_92, set__93, i_94, a95, k96) => [(3, c3), (4, p25), (6, .slice a48 ((([rv32.1].take ((rv41.1 : Int).toNat)).drop 0).length) k49), (7, .slice a59 rv54.1.length k60), (10, .slice a95 set__93.length k96), (11, .int .i64 i_94)]) (fun (r91, k1_92, set__93, i_94, a95, k96) => [sl (.slice a95 set__93.length k96) (set__93 : List Int), sl (.slice a59 rv54.1.length k60) (rv54.1 : List Int), sl (.slice a48 ((([rv32.1].take ((rv41.1 : Int).toNat)).drop 0).length) k49) ((([rv32.1].take ((rv41.1 : Int).toNat)).drop 0) : List Int), Cl c3 [.slice ta0 t.length tk0, .int .i64 k1_92], Cl p25 [.int .i64 rv10.1.Width, .slice a16 rv10.1.Deps.length k17, .slice a19 rv10.1.Transfers.length k20, .slice a22 rv10.1.Boundary.length k23], sl (.slice a16 rv10.1.Deps.length k17) (rv10.1.Deps : List (List Int)), sl (.slice a19 rv10.1.Transfers.length k20) (rv10.1.Transfers : List GTransfer), sl (.slice a22 rv10.1.Boundary.length k23) (rv10.1.Boundary : List GSet), sl (.slice ta0 t.length tk0) (t : List Int)]) (fun (r91, k1_92, set__93, i_94, a95, k96) => flqlaw14_ConeClosed_L0 t r91 k1_92 set__93 i_94 = flqlaw14_ConeClosed_L0 t (((((rv10.1.Deps.length : Nat) : Int) : Int) - 0).toNat) rv41.2 [rv26.1] 0 ∧ r91 = ((((rv10.1.Deps.length : Nat) : Int) : Int) - i_94).toNat ∧ (0 : Int) ≤ i_94 ∧ (i_94 ≤ ((rv10.1.Deps.length : Nat) : Int) ∨ i_94 = 0) ∧ (-9223372036854775808 ≤ k1_92 ∧ k1_92 ≤ 9223372036854775807) ∧ (0 ≤ k1_92 ∧ k1_92 ≤ (t.length : Int)) ∧ (-9223372036854775808 ≤ i_94 ∧ i_94 ≤ 9223372036854775807) ∧ (set__93.length : Int) ≤ i_94 + 1) (fun (r91, k1_92, set__93, i_94, a95, k96) => r91) (((((rv10.1.Deps.length : Nat) : Int) : Int) - 0).toNat, rv41.2, [rv26.1], 0, a87, k88) ⟨rfl, rfl, (by omega), (.inr rfl), (by omega), (by omega), (by omega), (by first | omega | (simp only [List.length_set, List.length_append, List.length_cons, List.length_nil, List.length_replicate, List.length_take, List.length_drop]; omega) | simp)⟩ (Env.sub_all rfl) (Ent.take (is := [0, 1, 2, 3, 3, 3, 4, 5, 6]) rfl) ?_
        rintro ⟨r91, k1_92, set__93, i_94, a95, k96⟩ ⟨hM97, hr98, hi99, hi100, hk101, ht102, hk103, hv104⟩
        refine JJ_norm (L := [(3, c3), (4, p25), (6, .slice a48 ((([rv32.1].take ((rv41.1 : Int).toNat)).drop 0).length) k49), (7, .slice a59 rv54.1.length k60), (10, .slice a95 set__93.length k96), (11, .int .i64 i_94)]) (A := [sl (.slice a95 set__93.length k96) (set__93 : List Int), sl (.slice a59 rv54.1.length k60) (rv54.1 : List Int), sl (.slice a48 ((([rv32.1].take ((rv41.1 : Int).toNat)).drop 0).length) k49) ((([rv32.1].take ((rv41.1 : Int).toNat)).drop 0) : List Int), Cl c3 [.slice ta0 t.length tk0, .int .i64 k1_92], Cl p25 [.int .i64 rv10.1.Width, .slice a16 rv10.1.Deps.length k17, .slice a19 rv10.1.Transfers.length k20, .slice a22 rv10.1.Boundary.length k23], sl (.slice a16 rv10.1.Deps.length k17) (rv10.1.Deps : List (List Int)), sl (.slice a19 rv10.1.Transfers.length k20) (rv10.1.Transfers : List GTransfer), sl (.slice a22 rv10.1.Boundary.length k23) (rv10.1.Boundary : List GSet), sl (.slice ta0 t.length tk0) (t : List Int)]) rfl rfl ?_
        refine JJ_fact 0 rfl sl_bytes ?_
        intro hl105
        have hl105 : set__93.length * 8 ≤ 140737488355328 := hl105
        refine JJ_fact 0 rfl sl_ok ?_
        intro ho106
        refine JJ_fact 1 rfl sl_bytes ?_
        intro hl107
        have hl107 : rv54.1.length * 8 ≤ 140737488355328 := hl107
        refine JJ_fact 1 rfl sl_ok ?_
        intro ho108
        refine JJ_fact 2 rfl sl_bytes ?_
        intro hl109
        have hl109 : (([rv32.1].take ((rv41.1 : Int).toNat)).drop 0).length * 8 ≤ 140737488355328 := hl109
        refine JJ_fact 2 rfl sl_ok ?_
        intro ho110
        refine JJ_fact 5 rfl sl_bytes ?_
        intro hl111
        have hl111 : rv10.1.Deps.length * 24 ≤ 140737488355328 := hl111
        refine JJ_fact 6 rfl sl_bytes ?_
        intro hl112
        have hl112 : rv10.1.Transfers.length * 88 ≤ 140737488355328 := hl112
        refine JJ_fact 7 rfl sl_bytes ?_
        intro hl113
        have hl113 : rv10.1.Boundary.length * 32 ≤ 140737488355328 := hl113
        refine JJ_fact 8 rfl sl_bytes ?_
        intro hl114
        have hl114 : t.length * 8 ≤ 140737488355328 := hl114
        refine JJ_fact 8 rfl sl_ok ?_
        intro ho115
        refine JK_seq ?_
        refine JK_seq ?_
        refine JK_region ?_
        refine JO_q rfl rfl rfl (OpV.move rfl rfl) ?_
        refine JO_q rfl rfl rfl (OpV.fieldAddr rfl rfl fo27_1 (i := 4) rfl (isPtr_Cl _ _)) ?_
        refine JO_q rfl rfl rfl (OpV.loadF rfl rfl sh23 (i := 4) rfl (reads_Cl _ _) rfl) ?_
        refine JO_q rfl rfl rfl (OpV.len rfl rfl sl23) ?_
        refine JO_q rfl rfl rfl (OpV.lss rfl rfl rfl) ?_
        refine JO_nil ?_
        refine JK_cond (b := decide (i_94 < ((rv10.1.Deps.length : Nat) : Int))) rfl (fun (h116 : decide (i_94 < ((rv10.1.Deps.length : Nat) : Int)) = true) => ?_) (fun (h116 : decide (i_94 < ((rv10.1.Deps.length : Nat) : Int)) = false) => ?_)
        · skip
          have g117 : (i_94 < ((rv10.1.Deps.length : Nat) : Int)) := of_decide_eq_true h116
          obtain ⟨r118, rfl⟩ : ∃ q, r91 = q + 1 := ⟨r91 - 1, by omega⟩
          refine JK_skip ?_
          refine JK_seq ?_
          refine JK_block ?_
          refine JK_seq ?_
          refine JK_region ?_
          refine JO_q rfl rfl rfl (OpV.move rfl rfl) ?_
          refine letv (Tape_Next t k1_92 2) fun rv119 hg120 => ?_
          have hc121 := fn8 c3 ta0 tk0 t k1_92 2 (by (try dsimp only) <;> first | (unfold i64ok; omega) | omega | assumption) (by (try dsimp only) <;> first | (unfold i64ok; omega) | omega | assumption) rv119 hg120
          refine JO_call [3, 7] rfl rfl rfl (OpC.fn rfl ca8 rfl) (hc121) rfl ?_
          rintro - ⟨he122, he123, he124⟩
          have he122 : -9223372036854775808 ≤ rv119.1 ∧ rv119.1 ≤ 9223372036854775807 := he122
          refine JO_q rfl rfl rfl (OpV.eql rfl rfl rfl) ?_
          refine JO_nil ?_
          refine JK_cond (b := (rv119.1 == 1)) rfl (fun (h125 : (rv119.1 == 1) = true) => ?_) (fun (h125 : (rv119.1 == 1) = false) => ?_)
          · skip
            have g126 : rv119.1 = 1 := eq_of_beq h125
            refine JK_region ?_
            refine JO_q rfl rfl rfl (OpV.move rfl rfl) ?_
            refine JO_q rfl rfl rfl (OpV.move rfl rfl) ?_
            refine letv (flqref7_Insert set__93 i_94) fun rv128 hg129 => ?_
            have hc130 := fn17 set__93 a95 k96 i_94 (by (try dsimp only) <;> first | (unfold i64ok; omega) | omega | assumption) (by (try dsimp only) <;> first | (unfold i64ok; omega) | omega | assumption) rv128 hg129
            refine JO_call [1] rfl rfl rfl (OpC.fn rfl ca17 rfl) (hc130) rfl ?_
            rintro c127 he131
            refine JJ_slice 0 rfl sl_slice ?_
            rintro a132 k133 rfl
            refine JJ_fact 0 rfl sl_bytes ?_
            intro hl134
            have hl134 : rv128.length * 8 ≤ 140737488355328 := hl134
            refine JJ_fact 0 rfl sl_ok ?_
            intro ho135
            refine JO_q rfl rfl rfl (OpV.assign rfl rfl) ?_
            refine JO_nil ?_
            refine JK_blk ?_
            refine JK_region ?_
            refine JO_q rfl rfl rfl (OpV.move rfl rfl) ?_
            refine JO_q rfl rfl rfl (OpV.add rfl rfl rfl (by unfold i64ok; omega)) ?_
            refine JO_q rfl rfl rfl (OpV.assign rfl rfl) ?_
            refine JO_nil ?_
            refine JK_goal (r118, rv119.2, rv128, (i_94 + 1), a132, k133) ⟨(by rw [← hM97]; simp only [flqlaw14_ConeClosed_L0, h63, h69, h74, h79, h84, h116, h125, hg5, hg11, hg27, hg33, hg42, hg55, hg67, hg77, hg120, hg129, cond_true, cond_false, Bool.not_true, Bool.not_false]), (by omega), (by omega), (by omega), (by omega), (by omega), (by omega), (by first | omega | (simp only [List.length_set, List.length_append, List.length_cons, List.length_nil, List.length_replicate, List.length_take, List.length_drop]; omega) | assumption)⟩ (by show r118 < r118 + 1; omega) (Env.sub_all rfl) (Ent.take (is := [0, 3, 4, 1, 4, 4, 5, 6, 7]) rfl)
          · skip
            have g136 : rv119.1 ≠ 1 := ne_of_beq_false h125
            refine JK_skip ?_
            refine JK_blk ?_
            refine JK_region ?_
            refine JO_q rfl rfl rfl (OpV.move rfl rfl) ?_
            refine JO_q rfl rfl rfl (OpV.add rfl rfl rfl (by unfold i64ok; omega)) ?_
            refine JO_q rfl rfl rfl (OpV.assign rfl rfl) ?_
            refine JO_nil ?_
            refine JK_goal (r118, rv119.2, set__93, (i_94 + 1), a95, k96) ⟨(by rw [← hM97]; simp only [flqlaw14_ConeClosed_L0, h63, h69, h74, h79, h84, h116, h125, hg5, hg11, hg27, hg33, hg42, hg55, hg67, hg77, hg120, cond_true, cond_false, Bool.not_true, Bool.not_false]), (by omega), (by omega), (by omega), (by omega), (by omega), (by omega), (by first | omega | (simp only [List.length_set, List.length_append, List.length_cons, List.length_nil, List.length_replicate, List.length_take, List.length_drop]; omega) | assumption)⟩ (by show r118 < r118 + 1; omega) (Env.sub_all rfl) (Ent.take (is := [1, 2, 3, 0, 3, 3, 4, 5, 6]) rfl)
        · skip
          have g137 : ¬ (i_94 < ((rv10.1.Deps.length : Nat) : Int)) := of_decide_eq_false h116
          obtain rfl : r91 = 0 := by omega
          refine JK_exit rfl ?_
          have hR138 : flqlaw14_ConeClosed_L0 t (((((rv10.1.Deps.length : Nat) : Int) : Int) - 0).toNat) rv41.2 [rv26.1] 0 = set__93 := by
            rw [← hM97]; simp only [flqlaw14_ConeClosed_L0, h63, h69, h74, h79, h84, h116, hg5, hg11, hg27, hg33, hg42, hg55, hg67, hg77, cond_true, cond_false, Bool.not_true, Bool.not_false]
          refine JK_seq ?_
          refine JK_seq ?_
          refine JK_region ?_
          refine JO_q rfl rfl rfl (OpV.assign rfl rfl) ?_
          refine JO_nil ?_
          refine JK_block ?_
          have hterm144 : flqlaw14_ConeClosed_L1 rv10.1.Width rv10.1.Deps rv10.1.Transfers rv10.1.Boundary (([rv32.1].take ((rv41.1 : Int).toNat)).drop 0) rv54.1 set__93 (rv54.1.length + 1) 0 ≠ LR.oof := coneClosed_term
          refine JK_loop (γ := Nat × Int) (fun (r139, i_140) => [(4, p25), (6, .slice a48 ((([rv32.1].take ((rv41.1 : Int).toNat)).drop 0).length) k49), (7, .slice a59 rv54.1.length k60), (10, .slice a95 set__93.length k96), (12, .int .i64 i_140)]) (fun (r139, i_140) => [sl (.slice a95 set__93.length k96) (set__93 : List Int), sl (.slice a59 rv54.1.length k60) (rv54.1 : List Int), sl (.slice a48 ((([rv32.1].take ((rv41.1 : Int).toNat)).drop 0).length) k49) ((([rv32.1].take ((rv41.1 : Int).toNat)).drop 0) : List Int), Cl p25 [.int .i64 rv10.1.Width, .slice a16 rv10.1.Deps.length k17, .slice a19 rv10.1.Transfers.length k20, .slice a22 rv10.1.Boundary.length k23], sl (.slice a16 rv10.1.Deps.length k17) (rv10.1.Deps : List (List Int)), sl (.slice a19 rv10.1.Transfers.length k20) (rv10.1.Transfers : List GTransfer), sl (.slice a22 rv10.1.Boundary.length k23) (rv10.1.Boundary : List GSet)]) (fun (r139, i_140) => flqlaw14_ConeClosed_L1 rv10.1.Width rv10.1.Deps rv10.1.Transfers rv10.1.Boundary (([rv32.1].take ((rv41.1 : Int).toNat)).drop 0) rv54.1 set__93 r139 i_140 = flqlaw14_ConeClosed_L1 rv10.1.Width rv10.1.Deps rv10.1.Transfers rv10.1.Boundary (([rv32.1].take ((rv41.1 : Int).toNat)).drop 0) rv54.1 set__93 (rv54.1.length + 1) 0 ∧ (-9223372036854775808 ≤ i_140 ∧ i_140 ≤ 9223372036854775807) ∧ 0 ≤ i_140) (fun (r139, i_140) => r139) ((rv54.1.length + 1), 0) ⟨rfl, (by omega), (by first | omega | (simp only [List.length_set, List.length_append, List.length_cons, List.length_nil, List.length_replicate, List.length_take, List.length_drop]; omega) | simp)⟩ (Env.sub_all rfl) (Ent.take (is := [0, 1, 2, 4, 4, 5, 6]) rfl) ?_
          rintro ⟨r139, i_140⟩ ⟨hM141, hk142, hv143⟩
          refine JJ_norm (L := [(4, p25), (6, .slice a48 ((([rv32.1].take ((rv41.1 : Int).toNat)).drop 0).length) k49), (7, .slice a59 rv54.1.length k60), (10, .slice a95 set__93.length k96), (12, .int .i64 i_140)]) (A := [sl (.slice a95 set__93.length k96) (set__93 : List Int), sl (.slice a59 rv54.1.length k60) (rv54.1 : List Int), sl (.slice a48 ((([rv32.1].take ((rv41.1 : Int).toNat)).drop 0).length) k49) ((([rv32.1].take ((rv41.1 : Int).toNat)).drop 0) : List Int), Cl p25 [.int .i64 rv10.1.Width, .slice a16 rv10.1.Deps.length k17, .slice a19 rv10.1.Transfers.length k20, .slice a22 rv10.1.Boundary.length k23], sl (.slice a16 rv10.1.Deps.length k17) (rv10.1.Deps : List (List Int)), sl (.slice a19 rv10.1.Transfers.length k20) (rv10.1.Transfers : List GTransfer), sl (.slice a22 rv10.1.Boundary.length k23) (rv10.1.Boundary : List GSet)]) rfl rfl ?_
          refine JJ_fact 0 rfl sl_bytes ?_
          intro hl145
          have hl145 : set__93.length * 8 ≤ 140737488355328 := hl145
          refine JJ_fact 0 rfl sl_ok ?_
          intro ho146
          refine JJ_fact 1 rfl sl_bytes ?_
          intro hl147
          have hl147 : rv54.1.length * 8 ≤ 140737488355328 := hl147
          refine JJ_fact 1 rfl sl_ok ?_
          intro ho148
          refine JJ_fact 2 rfl sl_bytes ?_
          intro hl149
          have hl149 : (([rv32.1].take ((rv41.1 : Int).toNat)).drop 0).length * 8 ≤ 140737488355328 := hl149
          refine JJ_fact 2 rfl sl_ok ?_
          intro ho150
          refine JJ_fact 4 rfl sl_bytes ?_
          intro hl151
          have hl151 : rv10.1.Deps.length * 24 ≤ 140737488355328 := hl151
          refine JJ_fact 5 rfl sl_bytes ?_
          intro hl152
          have hl152 : rv10.1.Transfers.length * 88 ≤ 140737488355328 := hl152
          refine JJ_fact 6 rfl sl_bytes ?_
          intro hl153
          have hl153 : rv10.1.Boundary.length * 32 ≤ 140737488355328 := hl153
          rcases r139 with _ | r139
          · exact absurd (hM141.symm.trans rfl) hterm144
          refine JK_seq ?_
          refine JK_seq ?_
          refine JK_region ?_
          refine JO_q rfl rfl rfl (OpV.loadA rfl rfl sh27 (i := 3) rfl (reads_Cl _ _) rfl) ?_
          refine JO_q rfl rfl rfl (OpV.move rfl rfl) ?_
          refine JO_q rfl rfl rfl (OpV.move rfl rfl) ?_
          refine letv (cone_Closed rv10.1 set__93 (([rv32.1].take ((rv41.1 : Int).toNat)).drop 0)) fun rv154 hg155 => ?_
          have hc156 := fn15 rv10.1 a16 k17 a19 k20 a22 k23 set__93 a95 k96 ((([rv32.1].take ((rv41.1 : Int).toNat)).drop 0)) a48 k49 (by (try dsimp only) <;> first | (unfold i64ok; omega) | omega | assumption) rv154 hg155
          refine JO_call [4, 5, 6, 0, 2] rfl rfl rfl (OpC.fn rfl ca15 rfl) (hc156) rfl ?_
          rintro - -
          refine JO_q rfl rfl rfl (OpV.move rfl rfl) ?_
          refine JJ_split 73 rfl (fun (h157 : rv154 = true) => ?_) (fun (h157 : rv154 = false) => ?_)
          · skip
            refine JO_taken rfl rfl rfl rfl ?_
            refine JO_q rfl rfl rfl (OpV.move rfl rfl) ?_
            refine JO_taken rfl rfl rfl rfl ?_
            refine JO_q rfl rfl rfl (OpV.move rfl rfl) ?_
            refine JO_taken rfl rfl rfl rfl ?_
            refine JO_q rfl rfl rfl (OpV.len rfl rfl sl22) ?_
            refine JO_taken rfl rfl rfl rfl ?_
            refine JO_q rfl rfl rfl (OpV.lss rfl rfl rfl) ?_
            refine JO_q rfl rfl rfl (OpV.pickT rfl rfl rfl) ?_
            refine JO_nil ?_
            refine JK_cond (b := decide (i_140 < ((rv54.1.length : Nat) : Int))) rfl (fun (h159 : decide (i_140 < ((rv54.1.length : Nat) : Int)) = true) => ?_) (fun (h159 : decide (i_140 < ((rv54.1.length : Nat) : Int)) = false) => ?_)
            · skip
              have g160 : (i_140 < ((rv54.1.length : Nat) : Int)) := of_decide_eq_true h159
              refine JK_skip ?_
              refine JK_seq ?_
              refine JK_block ?_
              refine JK_seq ?_
              refine JK_region ?_
              refine JO_q rfl rfl rfl (OpV.move rfl rfl) ?_
              refine JO_q rfl rfl rfl (OpV.move rfl rfl) ?_
              refine JO_q rfl rfl rfl (OpV.move rfl rfl) ?_
              refine JO_q rfl rfl rfl (OpV.indexAddr (m := 1) rfl rfl rfl sl22 rfl (isSl_sl _ _) (by first | omega | (simp only [List.length_set, List.length_append, List.length_cons, List.length_nil, List.length_replicate, List.length_take, List.length_drop]; omega) | (simp only [List.length_set, List.length_append, List.length_cons, List.length_nil, List.length_replicate, List.length_take, List.length_drop] at *; omega))) ?_
              have hb161 : -9223372036854775808 ≤ (rv54.1.getD (i_140 : Int).toNat 0) ∧ (rv54.1.getD (i_140 : Int).toNat 0) ≤ 9223372036854775807 := getD_ok ho148 (by first | omega | (simp only [List.length_set, List.length_append, List.length_cons, List.length_nil, List.length_replicate, List.length_take, List.length_drop]; omega) | (simp only [List.length_set, List.length_append, List.length_cons, List.length_nil, List.length_replicate, List.length_take, List.length_drop] at *; omega))
              refine JO_q rfl rfl rfl (OpV.load rfl rfl sh3 (i := 1) rfl (reads_sl _ _ _ 0 (by first | omega | (simp only [List.length_set, List.length_append, List.length_cons, List.length_nil, List.length_replicate, List.length_take, List.length_drop]; omega) | (simp only [List.length_set, List.length_append, List.length_cons, List.length_nil, List.length_replicate, List.length_take, List.length_drop] at *; omega))) rfl) ?_
              refine letv (flqref7_Has set__93 (rv54.1.getD (i_140 : Int).toNat 0)) fun rv162 hg163 => ?_
              have hc164 := fn16 set__93 a95 k96 ((rv54.1.getD (i_140 : Int).toNat 0)) (by (try dsimp only) <;> first | (unfold i64ok; omega) | omega | assumption) rv162 hg163
              refine JO_call [0] rfl rfl rfl (OpC.fn rfl ca16 rfl) (hc164) rfl ?_
              rintro - -
              refine JO_q rfl rfl rfl (OpV.not rfl rfl) ?_
              refine JO_nil ?_
              refine JK_cond (b := (!rv162)) rfl (fun (h165 : (!rv162) = true) => ?_) (fun (h165 : (!rv162) = false) => ?_)
              · skip
                have h167 : rv162 = false := not_true h165
                refine JK_seq ?_
                refine JK_region ?_
                refine JO_q rfl rfl rfl (OpV.assign rfl rfl) ?_
                refine JO_nil ?_
                have hR169 : flqlaw14_ConeClosed_L1 rv10.1.Width rv10.1.Deps rv10.1.Transfers rv10.1.Boundary (([rv32.1].take ((rv41.1 : Int).toNat)).drop 0) rv54.1 set__93 (rv54.1.length + 1) 0 = LR.ret false := by
                  rw [← hM141]; simp only [flqlaw14_ConeClosed_L1, h63, h69, h74, h79, h84, h116, h157, h159, h165, h167, hg5, hg11, hg27, hg33, hg42, hg55, hg67, hg77, hR138, hg155, hg163, cond_true, cond_false, Bool.not_true, Bool.not_false]
                have hq : rr = false := hrr.symm.trans (by simp only [flqlaw14_ConeClosed, h63, h69, h74, h79, h84, h116, h157, h159, h165, h167, hg5, hg11, hg27, hg33, hg42, hg55, hg67, hg77, hR138, hg155, hg163, hR169, cond_true, cond_false, Bool.not_true, Bool.not_false])
                replace hrr := hrr.trans hq
                subst rr
                refine JK_return (()) rfl (.tmp rfl .nil) rfl trivial (Ent.take (is := []) rfl)
              · skip
                have h171 : rv162 = true := not_false h165
                refine JK_skip ?_
                refine JK_blk ?_
                refine JK_region ?_
                refine JO_q rfl rfl rfl (OpV.move rfl rfl) ?_
                refine JO_q rfl rfl rfl (OpV.add rfl rfl rfl (by unfold i64ok; omega)) ?_
                refine JO_q rfl rfl rfl (OpV.assign rfl rfl) ?_
                refine JO_nil ?_
                refine JK_goal (r139, (i_140 + 1)) ⟨(by rw [← hM141]; simp only [flqlaw14_ConeClosed_L1, h63, h69, h74, h79, h84, h116, h157, h159, h165, h171, hg5, hg11, hg27, hg33, hg42, hg55, hg67, hg77, hR138, hg155, hg163, cond_true, cond_false, Bool.not_true, Bool.not_false]), (by omega), (by first | omega | (simp only [List.length_set, List.length_append, List.length_cons, List.length_nil, List.length_replicate, List.length_take, List.length_drop]; omega) | assumption)⟩ (by show r139 < r139 + 1; omega) (Env.sub_all rfl) (Ent.take (is := [0, 1, 2, 3, 3, 4, 5]) rfl)
            · skip
              have g173 : ¬ (i_140 < ((rv54.1.length : Nat) : Int)) := of_decide_eq_false h159
              refine JK_exit rfl ?_
              have hR174 : flqlaw14_ConeClosed_L1 rv10.1.Width rv10.1.Deps rv10.1.Transfers rv10.1.Boundary (([rv32.1].take ((rv41.1 : Int).toNat)).drop 0) rv54.1 set__93 (rv54.1.length + 1) 0 = LR.brk () := by
                rw [← hM141]; simp only [flqlaw14_ConeClosed_L1, h63, h69, h74, h79, h84, h116, h157, h159, hg5, hg11, hg27, hg33, hg42, hg55, hg67, hg77, hR138, hg155, cond_true, cond_false, Bool.not_true, Bool.not_false]
              refine JK_seq ?_
              refine JK_region ?_
              have hc175 := fn13  flqlaw14_sane rfl
              refine JO_call [] rfl rfl rfl (OpC.fn rfl ca13 rfl) (hc175) rfl ?_
              rintro - -
              refine JO_q rfl rfl rfl (OpV.assign rfl rfl) ?_
              refine JO_nil ?_
              have hq : rr = flqlaw14_sane := hrr.symm.trans (by simp only [flqlaw14_ConeClosed, h63, h69, h74, h79, h84, h116, h157, h159, hg5, hg11, hg27, hg33, hg42, hg55, hg67, hg77, hR138, hg155, hR174, cond_true, cond_false, Bool.not_true, Bool.not_false])
              replace hrr := hrr.trans hq
              subst rr
              refine JK_return (()) rfl (.tmp rfl .nil) rfl trivial (Ent.take (is := []) rfl)
          · skip
            refine JO_skip rfl rfl rfl rfl rfl rfl ?_
            refine JO_skip rfl rfl rfl rfl rfl rfl ?_
            refine JO_skip rfl rfl rfl rfl rfl rfl ?_
            refine JO_skip rfl rfl rfl rfl rfl rfl ?_
            refine JO_q rfl rfl rfl (OpV.pickF rfl rfl rfl) ?_
            refine JO_nil ?_
            refine JK_condF rfl ?_
            refine JK_exit rfl ?_
            have hR177 : flqlaw14_ConeClosed_L1 rv10.1.Width rv10.1.Deps rv10.1.Transfers rv10.1.Boundary (([rv32.1].take ((rv41.1 : Int).toNat)).drop 0) rv54.1 set__93 (rv54.1.length + 1) 0 = LR.brk () := by
              rw [← hM141]; simp only [flqlaw14_ConeClosed_L1, h63, h69, h74, h79, h84, h116, h157, hg5, hg11, hg27, hg33, hg42, hg55, hg67, hg77, hR138, hg155, cond_true, cond_false, Bool.not_true, Bool.not_false]
            refine JK_seq ?_
            refine JK_region ?_
            have hc178 := fn13  flqlaw14_sane rfl
            refine JO_call [] rfl rfl rfl (OpC.fn rfl ca13 rfl) (hc178) rfl ?_
            rintro - -
            refine JO_q rfl rfl rfl (OpV.assign rfl rfl) ?_
            refine JO_nil ?_
            have hq : rr = flqlaw14_sane := hrr.symm.trans (by simp only [flqlaw14_ConeClosed, h63, h69, h74, h79, h84, h116, h157, hg5, hg11, hg27, hg33, hg42, hg55, hg67, hg77, hR138, hg155, hR177, cond_true, cond_false, Bool.not_true, Bool.not_false])
            replace hrr := hrr.trans hq
            subst rr
            refine JK_return (()) rfl (.tmp rfl .nil) rfl trivial (Ent.take (is := []) rfl)
end Go.SL.G
