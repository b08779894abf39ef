/- Part 5 of the walks: mirrors, plain laws and walks used by the last text of this claim. -/
import Derived.Test.YthmmndibliekcaaW4
import Derived.Test.YthmmndibliekcaaProg
set_option linter.unusedVariables false
set_option linter.unusedSimpArgs false
namespace Go.SL.G
open Go Go.SL Go.Proofs
set_option maxHeartbeats 20000000 in
set_option maxRecDepth 100000 in
/- flowquery/cone.Closed -/
theorem fn15 (s : GSystem) (sa1 : Option Addr) (sk1 : Nat) (sa2 : Option Addr) (sk2 : Nat) (sa3 : Option Addr) (sk3 : Nat) (set_ : List Int) (set_a0 : Option Addr) (set_k0 : Nat) (leaves : List Int) (leavesa0 : Option Addr) (leavesk0 : Nat) (hs_0 : i64ok s.Width) (rr : Bool) (hrr : cone_Closed s set_ leaves = rr) :
    FT Try.prog 15 #[.agg #[.int .i64 s.Width, .slice sa1 s.Deps.length sk1, .slice sa2 s.Transfers.length sk2, .slice sa3 s.Boundary.length sk3], .slice set_a0 set_.length set_k0, .slice leavesa0 leaves.length leavesk0] [sl (.slice sa1 s.Deps.length sk1) (s.Deps : List (List Int)), sl (.slice sa2 s.Transfers.length sk2) (s.Transfers : List GTransfer), sl (.slice sa3 s.Boundary.length sk3) (s.Boundary : List GSet), sl (.slice set_a0 set_.length set_k0) (set_ : List Int), sl (.slice leavesa0 leaves.length leavesk0) (leaves : List Int)]
      (fun g : Unit => True)
      (fun g => .bool rr)
      (fun g => []) := by
  refine FT_intro (args := [.agg #[.int .i64 s.Width, .slice sa1 s.Deps.length sk1, .slice sa2 s.Transfers.length sk2, .slice sa3 s.Boundary.length sk3], .slice set_a0 set_.length set_k0, .slice leavesa0 leaves.length leavesk0]) Try.func15 rfl rfl ?_
  intro w0 M0 F0
  have hs_0 : -9223372036854775808 ≤ s.Width ∧ s.Width ≤ 9223372036854775807 := hs_0
  refine JJ_fact 0 rfl sl_bytes ?_
  intro hl1
  have hl1 : s.Deps.length * 24 ≤ 140737488355328 := hl1
  refine JJ_fact 1 rfl sl_bytes ?_
  intro hl2
  have hl2 : s.Transfers.length * 88 ≤ 140737488355328 := hl2
  refine JJ_fact 2 rfl sl_bytes ?_
  intro hl3
  have hl3 : s.Boundary.length * 32 ≤ 140737488355328 := hl3
  refine JJ_fact 3 rfl sl_bytes ?_
  intro hl4
  have hl4 : set_.length * 8 ≤ 140737488355328 := hl4
  refine JJ_fact 3 rfl sl_ok ?_
  intro ho5
  refine JJ_fact 4 rfl sl_bytes ?_
  intro hl6
  have hl6 : leaves.length * 8 ≤ 140737488355328 := hl6
  refine JJ_fact 4 rfl sl_ok ?_
  intro ho7
  refine JK_seq ?_
  refine JK_region ?_
  refine JO_act rfl rfl rfl (OpA.box rfl rfl) ?_
  intro p8
  refine JO_q rfl rfl rfl (OpV.assign rfl rfl) ?_
  refine JO_nil ?_
  refine JK_seq ?_
  refine JK_seq ?_
  refine JK_region ?_
  refine JO_q rfl rfl rfl (OpV.loadA rfl rfl sh27 (i := 0) rfl (reads_pv _ _) rfl) ?_
  refine letv (equations_Valid s) fun rv9 hg10 => ?_
  have hc11 := fn30 s sa1 sk1 sa2 sk2 sa3 sk3 (by (try dsimp only) <;> first | (unfold i64ok; omega) | omega | assumption) rv9 hg10
  refine JO_call [1, 2, 3] rfl rfl rfl (OpC.fn rfl ca30 rfl) (hc11) rfl ?_
  rintro - -
  refine JO_q rfl rfl rfl (OpV.not rfl rfl) ?_
  refine JO_q rfl rfl rfl (OpV.move rfl rfl) ?_
  refine JJ_split 15 rfl (fun (h12 : (!rv9) = true) => ?_) (fun (h12 : (!rv9) = false) => ?_)
  · skip
    have h14 : rv9 = false := not_true h12
    refine JO_skip rfl rfl rfl rfl rfl rfl ?_
    refine JO_skip rfl rfl rfl rfl rfl rfl ?_
    refine JO_skip rfl rfl rfl rfl rfl rfl ?_
    refine JO_skip rfl rfl rfl rfl rfl rfl ?_
    refine JO_q rfl rfl rfl (OpV.pickT rfl rfl rfl) ?_
    refine JO_q rfl rfl rfl (OpV.move rfl rfl) ?_
    refine JO_skip rfl rfl rfl rfl rfl rfl ?_
    refine JO_skip rfl rfl rfl rfl rfl rfl ?_
    refine JO_skip rfl rfl rfl rfl rfl rfl ?_
    refine JO_skip rfl rfl rfl rfl rfl rfl ?_
    refine JO_q rfl rfl rfl (OpV.pickT rfl rfl rfl) ?_
    refine JO_nil ?_
    refine JK_condT rfl ?_
    refine JK_seq ?_
    refine JK_region ?_
    refine JO_q rfl rfl rfl (OpV.assign rfl rfl) ?_
    refine JO_nil ?_
    have hq : rr = false := hrr.symm.trans (by simp only [cone_Closed, h12, h14, hg10, cs4])
    replace hrr := hrr.trans hq
    subst rr
    refine JK_return (()) rfl (.tmp rfl .nil) rfl trivial (Ent.take (is := []) rfl)
  · skip
    have h17 : rv9 = true := not_false h12
    refine JO_taken rfl rfl rfl rfl ?_
    refine JO_q rfl rfl rfl (OpV.loadA rfl rfl sh27 (i := 0) rfl (reads_pv _ _) rfl) ?_
    refine JO_taken rfl rfl rfl rfl ?_
    refine JO_q rfl rfl rfl (OpV.move rfl rfl) ?_
    refine JO_taken rfl rfl rfl rfl ?_
    refine letv (cone_unknowns s set_) fun rv19 hg20 => ?_
    have hc21 := fn31 s sa1 sk1 sa2 sk2 sa3 sk3 set_ set_a0 set_k0 (by (try dsimp only) <;> first | (unfold i64ok; omega) | omega | assumption) rv19 hg20
    refine JO_call [1, 2, 3, 4] rfl rfl rfl (OpC.fn rfl ca31 rfl) (hc21) rfl ?_
    rintro - -
    refine JO_taken rfl rfl rfl rfl ?_
    refine JO_q rfl rfl rfl (OpV.not rfl rfl) ?_
    refine JO_q rfl rfl rfl (OpV.pickF rfl rfl rfl) ?_
    refine JO_q rfl rfl rfl (OpV.move rfl rfl) ?_
    refine JJ_split 21 rfl (fun (h22 : (!rv19) = true) => ?_) (fun (h22 : (!rv19) = false) => ?_)
    · skip
      have h24 : rv19 = false := not_true h22
      refine JO_skip rfl rfl rfl rfl rfl rfl ?_
      refine JO_skip rfl rfl rfl rfl rfl rfl ?_
      refine JO_skip rfl rfl rfl rfl rfl rfl ?_
      refine JO_skip rfl rfl rfl rfl rfl rfl ?_
      refine JO_q rfl rfl rfl (OpV.pickT rfl rfl rfl) ?_
      refine JO_nil ?_
      refine JK_condT rfl ?_
      refine JK_seq ?_
      refine JK_region ?_
      refine JO_q rfl rfl rfl (OpV.assign rfl rfl) ?_
      refine JO_nil ?_
      have hq : rr = false := hrr.symm.trans (by simp only [cone_Closed, h12, h17, h22, h24, hg10, hg20, cs4])
      replace hrr := hrr.trans hq
      subst rr
      refine JK_return (()) rfl (.tmp rfl .nil) rfl trivial (Ent.take (is := []) rfl)
    · skip
      have h27 : rv19 = true := not_false h22
      refine JO_taken rfl rfl rfl rfl ?_
      refine JO_q rfl rfl rfl (OpV.loadA rfl rfl sh27 (i := 0) rfl (reads_pv _ _) rfl) ?_
      refine JO_taken rfl rfl rfl rfl ?_
      refine JO_q rfl rfl rfl (OpV.move rfl rfl) ?_
      refine JO_taken rfl rfl rfl rfl ?_
      refine letv (cone_unknowns s leaves) fun rv29 hg30 => ?_
      have hc31 := fn31 s sa1 sk1 sa2 sk2 sa3 sk3 leaves leavesa0 leavesk0 (by (try dsimp only) <;> first | (unfold i64ok; omega) | omega | assumption) rv29 hg30
      refine JO_call [1, 2, 3, 5] rfl rfl rfl (OpC.fn rfl ca31 rfl) (hc31) rfl ?_
      rintro - -
      refine JO_taken rfl rfl rfl rfl ?_
      refine JO_q rfl rfl rfl (OpV.not rfl rfl) ?_
      refine JO_q rfl rfl rfl (OpV.pickF rfl rfl rfl) ?_
      refine JO_nil ?_
      refine JK_cond (b := (!rv29)) rfl (fun (h32 : (!rv29) = true) => ?_) (fun (h32 : (!rv29) = false) => ?_)
      · skip
        have h34 : rv29 = false := not_true h32
        refine JK_seq ?_
        refine JK_region ?_
        refine JO_q rfl rfl rfl (OpV.assign rfl rfl) ?_
        refine JO_nil ?_
        have hq : rr = false := hrr.symm.trans (by simp only [cone_Closed, h12, h17, h22, h27, h32, h34, hg10, hg20, hg30, cs4])
        replace hrr := hrr.trans hq
        subst rr
        refine JK_return (()) rfl (.tmp rfl .nil) rfl trivial (Ent.take (is := []) rfl)
      · skip
        have h37 : rv29 = true := not_false h32
        refine JK_skip ?_
        refine JK_seq ?_
        refine JK_region ?_
        refine JO_q rfl rfl rfl (OpV.fieldAddr rfl rfl fo27_1 (i := 0) rfl (isPtr_pv _ _)) ?_
        refine JO_q rfl rfl rfl (OpV.loadF rfl rfl sh23 (i := 0) rfl (reads_pv _ _) rfl) ?_
        refine JO_q rfl rfl rfl (OpV.len rfl rfl sl23) ?_
        refine JO_act rfl rfl rfl (OpA.makeSlice (α := Bool) false rfl rfl rfl sl62 sz62 rfl rfl (by omega) (by omega) (fun _ _ => rfl)) ?_
        intro c39
        refine JJ_slice 0 rfl os_slice ?_
        rintro a40 k41 rfl
        refine JJ_fact 0 rfl os_bytes ?_
        intro hl42
        have hl42 : (List.replicate (((s.Deps.length : Nat) : Int) : Int).toNat false).length * 1 ≤ 140737488355328 := hl42
        have hn43 : ((List.replicate (((s.Deps.length : Nat) : Int) : Int).toNat false) : List Bool).length = (((s.Deps.length : Nat) : Int) : Int).toNat := List.length_replicate
        refine JO_act rfl rfl rfl (OpA.alloc rfl ze62) ?_
        intro p44
        refine JO_store rfl rfl (OpS.frame [0] rfl (OpS.storeCl [.slice a40 ((List.replicate (((s.Deps.length : Nat) : Int) : Int).toNat false).length) k41] [.slice a40 ((List.replicate (((s.Deps.length : Nat) : Int) : Int).toNat false).length) k41] rfl rfl rfl sh62 rfl rfl rfl (Nat.le_of_ble_eq_true rfl) rfl)) ?_
        refine JO_nil ?_
        refine JK_seq ?_
        refine JK_seq ?_
        refine JK_region ?_
        refine JO_q rfl rfl rfl (OpV.move rfl rfl) ?_
        refine JO_q rfl rfl rfl (OpV.len rfl rfl sl22) ?_
        refine JO_q rfl rfl rfl (OpV.move rfl rfl) ?_
        refine JO_nil ?_
        refine JK_block ?_
        refine JK_loop (γ := Nat × List Bool × Int) (fun (r45, inside0_46, v33_47) => [(1, .slice set_a0 set_.length set_k0), (2, .slice leavesa0 leaves.length leavesk0), (3, p8), (7, p44), (31, .slice set_a0 set_.length set_k0), (32, .int .i64 ((set_.length : Nat) : Int)), (33, .int .i64 v33_47)]) (fun (r45, inside0_46, v33_47) => [Cl p44 [.slice a40 ((List.replicate (((s.Deps.length : Nat) : Int) : Int).toNat false).length) k41], os (.slice a40 ((List.replicate (((s.Deps.length : Nat) : Int) : Int).toNat false).length) k41) (inside0_46 : List Bool), pv p8 [.int .i64 s.Width, .slice sa1 s.Deps.length sk1, .slice sa2 s.Transfers.length sk2, .slice sa3 s.Boundary.length sk3], sl (.slice sa1 s.Deps.length sk1) (s.Deps : List (List Int)), sl (.slice sa2 s.Transfers.length sk2) (s.Transfers : List GTransfer), sl (.slice sa3 s.Boundary.length sk3) (s.Boundary : List GSet), sl (.slice set_a0 set_.length set_k0) (set_ : List Int), sl (.slice leavesa0 leaves.length leavesk0) (leaves : List Int)]) (fun (r45, inside0_46, v33_47) => cone_Closed_L0 set_ r45 inside0_46 v33_47 = cone_Closed_L0 set_ (((((set_.length : Nat) : Int) : Int) - 0).toNat) (List.replicate (((s.Deps.length : Nat) : Int) : Int).toNat false) 0 ∧ r45 = ((((set_.length : Nat) : Int) : Int) - v33_47).toNat ∧ (0 : Int) ≤ v33_47 ∧ (v33_47 ≤ ((set_.length : Nat) : Int) ∨ v33_47 = 0) ∧ (-9223372036854775808 ≤ v33_47 ∧ v33_47 ≤ 9223372036854775807) ∧ (inside0_46.length : Int) = (s.Deps.length : Int)) (fun (r45, inside0_46, v33_47) => r45) (((((set_.length : Nat) : Int) : Int) - 0).toNat, (List.replicate (((s.Deps.length : Nat) : Int) : Int).toNat false), 0) ⟨rfl, rfl, (by omega), (.inr rfl), (by omega), (by first | omega | (simp only [lens]; omega) | simp)⟩ (Env.sub_all rfl) (Ent.take (is := [0, 0, 0, 1, 2, 3, 4, 5]) rfl) ?_
        rintro ⟨r45, inside0_46, v33_47⟩ ⟨hM48, hr49, hi50, hi51, hk52, hv53⟩
        refine JJ_norm (L := [(1, .slice set_a0 set_.length set_k0), (2, .slice leavesa0 leaves.length leavesk0), (3, p8), (7, p44), (31, .slice set_a0 set_.length set_k0), (32, .int .i64 ((set_.length : Nat) : Int)), (33, .int .i64 v33_47)]) (A := [Cl p44 [.slice a40 ((List.replicate (((s.Deps.length : Nat) : Int) : Int).toNat false).length) k41], os (.slice a40 ((List.replicate (((s.Deps.length : Nat) : Int) : Int).toNat false).length) k41) (inside0_46 : List Bool), pv p8 [.int .i64 s.Width, .slice sa1 s.Deps.length sk1, .slice sa2 s.Transfers.length sk2, .slice sa3 s.Boundary.length sk3], sl (.slice sa1 s.Deps.length sk1) (s.Deps : List (List Int)), sl (.slice sa2 s.Transfers.length sk2) (s.Transfers : List GTransfer), sl (.slice sa3 s.Boundary.length sk3) (s.Boundary : List GSet), sl (.slice set_a0 set_.length set_k0) (set_ : List Int), sl (.slice leavesa0 leaves.length leavesk0) (leaves : List Int)]) rfl rfl ?_
        refine JJ_fact 1 rfl os_bytes ?_
        intro hl54
        have hl54 : inside0_46.length * 1 ≤ 140737488355328 := hl54
        refine JJ_fact 1 rfl os_len ?_
        intro hn55
        refine JJ_fact 3 rfl sl_bytes ?_
        intro hl56
        have hl56 : s.Deps.length * 24 ≤ 140737488355328 := hl56
        refine JJ_fact 4 rfl sl_bytes ?_
        intro hl57
        have hl57 : s.Transfers.length * 88 ≤ 140737488355328 := hl57
        refine JJ_fact 5 rfl sl_bytes ?_
        intro hl58
        have hl58 : s.Boundary.length * 32 ≤ 140737488355328 := hl58
        refine JJ_fact 6 rfl sl_bytes ?_
        intro hl59
        have hl59 : set_.length * 8 ≤ 140737488355328 := hl59
        refine JJ_fact 6 rfl sl_ok ?_
        intro ho60
        refine JJ_fact 7 rfl sl_bytes ?_
        intro hl61
        have hl61 : leaves.length * 8 ≤ 140737488355328 := hl61
        refine JJ_fact 7 rfl sl_ok ?_
        intro ho62
        refine JK_seq ?_
        refine JK_region ?_
        refine JO_q rfl rfl rfl (OpV.lss rfl rfl rfl) ?_
        refine JO_nil ?_
        refine JK_seq ?_
        refine JK_cond (b := decide (v33_47 < ((set_.length : Nat) : Int))) rfl (fun (h63 : decide (v33_47 < ((set_.length : Nat) : Int)) = true) => ?_) (fun (h63 : decide (v33_47 < ((set_.length : Nat) : Int)) = false) => ?_)
        · skip
          have g64 : (v33_47 < ((set_.length : Nat) : Int)) := of_decide_eq_true h63
          have hv0 := EValid_deps (s := s) (by simp only [h12, h17, h22, h27, h32, h37, h63, hg10, hg20, hg30])
          have hq := (unknowns_iff s set_).1 (by simp only [h12, h17, h22, h27, h32, h37, h63, hg10, hg20, hg30]) _ (getD_mem (xs := set_) (i := (v33_47 : Int).toNat) (d := 0) (by omega))
          obtain ⟨r65, rfl⟩ : ∃ q, r45 = q + 1 := ⟨r45 - 1, by omega⟩
          refine JK_skip ?_
          refine JK_seq ?_
          refine JK_block ?_
          refine JK_seq ?_
          refine JK_region ?_
          refine JO_q rfl rfl rfl (OpV.indexAddr (m := 6) rfl rfl rfl sl22 rfl (isSl_sl _ _) (by first | omega | (simp only [lens]; omega) | (simp only [lens] at *; omega))) ?_
          have hb66 : -9223372036854775808 ≤ (set_.getD (v33_47 : Int).toNat 0) ∧ (set_.getD (v33_47 : Int).toNat 0) ≤ 9223372036854775807 := getD_ok ho60 (by first | omega | (simp only [lens]; omega) | (simp only [lens] at *; omega))
          refine JO_q rfl rfl rfl (OpV.load rfl rfl sh3 (i := 6) rfl (reads_sl _ _ _ 0 (by first | omega | (simp only [lens]; omega) | (simp only [lens] at *; omega))) rfl) ?_
          refine JO_q rfl rfl rfl (OpV.assign rfl rfl) ?_
          refine JO_nil ?_
          refine JK_region ?_
          refine JO_q rfl rfl rfl (OpV.load rfl rfl sh62 (i := 0) rfl (reads_Cl _ _) rfl) ?_
          refine JO_q rfl rfl rfl (OpV.move rfl rfl) ?_
          refine JO_q rfl rfl rfl (OpV.indexAddr (m := 1) rfl rfl rfl sl62 rfl (isSl_os _ _) (by first | omega | (simp only [lens]; omega) | (simp only [lens] at *; omega))) ?_
          refine JO_store rfl rfl (OpS.frame [1] rfl (OpS.storeOsB rfl rfl rfl sh4 (by first | omega | (simp only [lens]; omega) | (simp only [lens] at *; omega)))) ?_
          refine JO_nil ?_
          refine JK_blk ?_
          refine JK_region ?_
          refine JO_q rfl rfl rfl (OpV.add rfl rfl rfl (by unfold i64ok; omega)) ?_
          refine JO_q rfl rfl rfl (OpV.move rfl rfl) ?_
          refine JO_nil ?_
          refine JK_goal (r65, (inside0_46.set ((set_.getD (v33_47 : Int).toNat 0) : Int).toNat true), (v33_47 + 1)) ⟨(by rw [← hM48]; simp only [cone_Closed_L0, h12, h17, h22, h27, h32, h37, h63, hg10, hg20, hg30, cs4]), (by omega), (by omega), (by omega), (by omega), (by first | omega | (simp only [lens]; omega) | assumption)⟩ (by show r65 < r65 + 1; omega) (Env.sub_all rfl) (Ent.take (is := [1, 0, 0, 1, 2, 3, 4, 5]) rfl)
        · skip
          have g67 : ¬ (v33_47 < ((set_.length : Nat) : Int)) := of_decide_eq_false h63
          obtain rfl : r45 = 0 := by omega
          refine JK_exit rfl ?_
          have hR68 : cone_Closed_L0 set_ (((((set_.length : Nat) : Int) : Int) - 0).toNat) (List.replicate (((s.Deps.length : Nat) : Int) : Int).toNat false) 0 = inside0_46 := by
            rw [← hM48]; simp only [cone_Closed_L0, h12, h17, h22, h27, h32, h37, h63, hg10, hg20, hg30, cs4]
          refine JK_seq ?_
          refine JK_seq ?_
          refine JK_region ?_
          refine JO_q rfl rfl rfl (OpV.move rfl rfl) ?_
          refine JO_q rfl rfl rfl (OpV.len rfl rfl sl22) ?_
          refine JO_q rfl rfl rfl (OpV.move rfl rfl) ?_
          refine JO_nil ?_
          refine JK_block ?_
          refine JJ_loc [0] rfl (Ent.freezeCl _ _) ?_
          refine JJ_loc [1] rfl (Ent.freeze _ _) ?_
          refine JK_loop (γ := Nat × Int) (fun (r69, v43_70) => [(2, .slice leavesa0 leaves.length leavesk0), (3, p8), (7, p44), (41, .slice set_a0 set_.length set_k0), (42, .int .i64 ((set_.length : Nat) : Int)), (43, .int .i64 v43_70)]) (fun (r69, v43_70) => [sl (.slice a40 ((List.replicate (((s.Deps.length : Nat) : Int) : Int).toNat false).length) k41) (inside0_46 : List Bool), pv p44 [.slice a40 ((List.replicate (((s.Deps.length : Nat) : Int) : Int).toNat false).length) k41], pv p8 [.int .i64 s.Width, .slice sa1 s.Deps.length sk1, .slice sa2 s.Transfers.length sk2, .slice sa3 s.Boundary.length sk3], sl (.slice sa1 s.Deps.length sk1) (s.Deps : List (List Int)), sl (.slice sa2 s.Transfers.length sk2) (s.Transfers : List GTransfer), sl (.slice sa3 s.Boundary.length sk3) (s.Boundary : List GSet), sl (.slice set_a0 set_.length set_k0) (set_ : List Int), sl (.slice leavesa0 leaves.length leavesk0) (leaves : List Int)]) (fun (r69, v43_70) => cone_Closed_L1 s set_ leaves inside0_46 r69 v43_70 = cone_Closed_L1 s set_ leaves inside0_46 (((((set_.length : Nat) : Int) : Int) - 0).toNat) 0 ∧ r69 = ((((set_.length : Nat) : Int) : Int) - v43_70).toNat ∧ (0 : Int) ≤ v43_70 ∧ (v43_70 ≤ ((set_.length : Nat) : Int) ∨ v43_70 = 0) ∧ (-9223372036854775808 ≤ v43_70 ∧ v43_70 ≤ 9223372036854775807)) (fun (r69, v43_70) => r69) (((((set_.length : Nat) : Int) : Int) - 0).toNat, 0) ⟨rfl, rfl, (by omega), (.inr rfl), (by omega)⟩ (Env.sub_all rfl) (Ent.take (is := [0, 1, 2, 3, 4, 5, 6, 7]) rfl) ?_
          rintro ⟨r69, v43_70⟩ ⟨hM71, hr72, hi73, hi74, hk75⟩
          refine JJ_norm (L := [(2, .slice leavesa0 leaves.length leavesk0), (3, p8), (7, p44), (41, .slice set_a0 set_.length set_k0), (42, .int .i64 ((set_.length : Nat) : Int)), (43, .int .i64 v43_70)]) (A := [sl (.slice a40 ((List.replicate (((s.Deps.length : Nat) : Int) : Int).toNat false).length) k41) (inside0_46 : List Bool), pv p44 [.slice a40 ((List.replicate (((s.Deps.length : Nat) : Int) : Int).toNat false).length) k41], pv p8 [.int .i64 s.Width, .slice sa1 s.Deps.length sk1, .slice sa2 s.Transfers.length sk2, .slice sa3 s.Boundary.length sk3], sl (.slice sa1 s.Deps.length sk1) (s.Deps : List (List Int)), sl (.slice sa2 s.Transfers.length sk2) (s.Transfers : List GTransfer), sl (.slice sa3 s.Boundary.length sk3) (s.Boundary : List GSet), sl (.slice set_a0 set_.length set_k0) (set_ : List Int), sl (.slice leavesa0 leaves.length leavesk0) (leaves : List Int)]) rfl rfl ?_
          refine JJ_fact 0 rfl sl_bytes ?_
          intro hl76
          have hl76 : inside0_46.length * 1 ≤ 140737488355328 := hl76
          refine JJ_fact 0 rfl sl_len ?_
          intro hn77
          refine JJ_fact 3 rfl sl_bytes ?_
          intro hl78
          have hl78 : s.Deps.length * 24 ≤ 140737488355328 := hl78
          refine JJ_fact 4 rfl sl_bytes ?_
          intro hl79
          have hl79 : s.Transfers.length * 88 ≤ 140737488355328 := hl79
          refine JJ_fact 5 rfl sl_bytes ?_
          intro hl80
          have hl80 : s.Boundary.length * 32 ≤ 140737488355328 := hl80
          refine JJ_fact 6 rfl sl_bytes ?_
          intro hl81
          have hl81 : set_.length * 8 ≤ 140737488355328 := hl81
          refine JJ_fact 6 rfl sl_ok ?_
          intro ho82
          refine JJ_fact 7 rfl sl_bytes ?_
          intro hl83
          have hl83 : leaves.length * 8 ≤ 140737488355328 := hl83
          refine JJ_fact 7 rfl sl_ok ?_
          intro ho84
          refine JK_seq ?_
          refine JK_region ?_
          refine JO_q rfl rfl rfl (OpV.lss rfl rfl rfl) ?_
          refine JO_nil ?_
          refine JK_seq ?_
          refine JK_cond (b := decide (v43_70 < ((set_.length : Nat) : Int))) rfl (fun (h85 : decide (v43_70 < ((set_.length : Nat) : Int)) = true) => ?_) (fun (h85 : decide (v43_70 < ((set_.length : Nat) : Int)) = false) => ?_)
          · skip
            have g86 : (v43_70 < ((set_.length : Nat) : Int)) := of_decide_eq_true h85
            have hv0 := EValid_deps (s := s) (by simp only [h12, h17, h22, h27, h32, h37, h63, h85, hg10, hg20, hg30, hR68])
            have hq := (unknowns_iff s set_).1 (by simp only [h12, h17, h22, h27, h32, h37, h63, h85, hg10, hg20, hg30, hR68]) _ (getD_mem (xs := set_) (i := (v43_70 : Int).toNat) (d := 0) (by omega))
            obtain ⟨r87, rfl⟩ : ∃ q, r69 = q + 1 := ⟨r69 - 1, by omega⟩
            refine JK_skip ?_
            refine JK_seq ?_
            refine JK_block ?_
            refine JK_seq ?_
            refine JK_region ?_
            refine JO_q rfl rfl rfl (OpV.indexAddr (m := 6) rfl rfl rfl sl22 rfl (isSl_sl _ _) (by first | omega | (simp only [lens]; omega) | (simp only [lens] at *; omega))) ?_
            have hb88 : -9223372036854775808 ≤ (set_.getD (v43_70 : Int).toNat 0) ∧ (set_.getD (v43_70 : Int).toNat 0) ≤ 9223372036854775807 := getD_ok ho82 (by first | omega | (simp only [lens]; omega) | (simp only [lens] at *; omega))
            refine JO_q rfl rfl rfl (OpV.load rfl rfl sh3 (i := 6) rfl (reads_sl _ _ _ 0 (by first | omega | (simp only [lens]; omega) | (simp only [lens] at *; omega))) rfl) ?_
            refine JO_q rfl rfl rfl (OpV.assign rfl rfl) ?_
            refine JO_nil ?_
            refine JK_seq ?_
            refine JK_region ?_
            refine JO_q rfl rfl rfl (OpV.move rfl rfl) ?_
            refine JO_q rfl rfl rfl (OpV.move rfl rfl) ?_
            refine letv (slices_Contains_int leaves (set_.getD (v43_70 : Int).toNat 0)) fun rv89 hg90 => ?_
            have hc91 := fn32 leaves leavesa0 leavesk0 ((set_.getD (v43_70 : Int).toNat 0)) (by (try dsimp only) <;> first | (unfold i64ok; omega) | omega | assumption) rv89 hg90
            refine JO_call [7] rfl rfl rfl (OpC.fn rfl ca32 rfl) (hc91) rfl ?_
            rintro - -
            refine JO_q rfl rfl rfl (OpV.not rfl rfl) ?_
            refine JO_q rfl rfl rfl (OpV.move rfl rfl) ?_
            refine JJ_split 51 rfl (fun (h92 : (!rv89) = true) => ?_) (fun (h92 : (!rv89) = false) => ?_)
            · skip
              have h94 : rv89 = false := not_true h92
              refine JO_taken rfl rfl rfl rfl ?_
              refine JO_q rfl rfl rfl (OpV.fieldAddr rfl rfl fo27_1 (i := 2) rfl (isPtr_pv _ _)) ?_
              refine JO_taken rfl rfl rfl rfl ?_
              refine JO_q rfl rfl rfl (OpV.loadF rfl rfl sh23 (i := 2) rfl (reads_pv _ _) rfl) ?_
              refine JO_taken rfl rfl rfl rfl ?_
              refine JO_q rfl rfl rfl (OpV.move rfl rfl) ?_
              refine JO_taken rfl rfl rfl rfl ?_
              refine JO_q rfl rfl rfl (OpV.indexAddr (m := 3) rfl rfl rfl sl23 rfl (isSl_sl _ _) (by first | omega | (simp only [lens]; omega) | (simp only [lens] at *; omega))) ?_
              refine JO_taken rfl rfl rfl rfl ?_
              refine JJ_peekL ((set_.getD (v43_70 : Int).toNat 0) : Int).toNat 3 rfl (by omega) ?_
              intro a96 k97
              refine JJ_fact 1 rfl sl_bytes ?_
              intro hl98
              have hl98 : (s.Deps.getD ((set_.getD (v43_70 : Int).toNat 0) : Int).toNat []).length * 8 ≤ 140737488355328 := hl98
              refine JJ_fact 1 rfl sl_ok ?_
              intro ho99
              refine JO_q rfl rfl rfl (OpV.load rfl rfl sh22 (i := 0) rfl (reads_pv _ _) rfl) ?_
              refine JO_taken rfl rfl rfl rfl ?_
              refine JO_q rfl rfl rfl (OpV.makeFunc (vs := #[]) (ws := #[p44]) rfl (fun ρ hρ => ⟨by simp, evs_arr hρ rfl⟩)) ?_
              refine JO_taken rfl rfl rfl rfl ?_
              refine JJ_fact 2 rfl sl_len ?_
              intro hn100
              rw [← hn100]
              refine JJ_ent (Ent.pall [3, 2] rfl rfl) ?_
              refine letv (slices_ContainsFunc_int (s.Deps.getD ((set_.getD (v43_70 : Int).toNat 0) : Int).toNat []) (fun x => cone_Closed_1 x inside0_46)) fun rv101 hg102 => ?_
              have hc103 := fn34 ((s.Deps.getD ((set_.getD (v43_70 : Int).toNat 0) : Int).toNat [])) a96 k97 35 [p44] (fun x => cone_Closed_1 x inside0_46) [pv p44 [.slice a40 inside0_46.length k41], sl (.slice a40 inside0_46.length k41) (inside0_46 : List Bool)] ca35 (fun x hx hq0 => FT_pall (A1 := _) (fn35 x  p44 inside0_46 a40 k41 hq0 (by have hq5 := EValid_dep_mem (s := s) (by simp only [h12, h17, h22, h27, h32, h37, h63, h85, h92, h94, hg10, hg20, hg30, hR68, hg90]) hq.1 (by omega) x hx; omega) _ rfl)) rv101 hg102
              refine JO_call [2, 0] rfl rfl rfl (OpC.fn rfl ca34 rfl) (hc103) rfl ?_
              rintro - -
              refine JO_q rfl rfl rfl (OpV.pickT rfl rfl rfl) ?_
              refine JO_nil ?_
              refine JK_cond (b := rv101) rfl (fun (h104 : rv101 = true) => ?_) (fun (h104 : rv101 = false) => ?_)
              · skip
                refine JK_seq ?_
                refine JK_region ?_
                refine JO_q rfl rfl rfl (OpV.assign rfl rfl) ?_
                refine JO_nil ?_
                have hR106 : cone_Closed_L1 s set_ leaves inside0_46 (((((set_.length : Nat) : Int) : Int) - 0).toNat) 0 = LR.ret false := by
                  rw [← hM71]; simp only [cone_Closed_L1, h12, h17, h22, h27, h32, h37, h63, h85, h92, h94, h104, hg10, hg20, hg30, hR68, hg90, hg102, cs4]
                have hq : rr = false := hrr.symm.trans (by simp only [cone_Closed, h12, h17, h22, h27, h32, h37, h63, h85, h92, h94, h104, hg10, hg20, hg30, hR68, hg90, hg102, hR106, cs4])
                replace hrr := hrr.trans hq
                subst rr
                refine JK_return (()) rfl (.tmp rfl .nil) rfl trivial (Ent.take (is := []) rfl)
              · skip
                refine JK_skip ?_
                refine JK_blk ?_
                refine JK_region ?_
                refine JO_q rfl rfl rfl (OpV.add rfl rfl rfl (by unfold i64ok; omega)) ?_
                refine JO_q rfl rfl rfl (OpV.move rfl rfl) ?_
                refine JO_nil ?_
                refine JK_goal (r87, (v43_70 + 1)) ⟨(by rw [← hM71]; simp only [cone_Closed_L1, h12, h17, h22, h27, h32, h37, h63, h85, h92, h94, h104, hg10, hg20, hg30, hR68, hg90, hg102, cs4]), (by omega), (by omega), (by omega), (by omega)⟩ (by show r87 < r87 + 1; omega) (Env.sub_all rfl) (Ent.take (is := [3, 4, 5, 6, 7, 8, 9, 10]) rfl)
            · skip
              have h109 : rv89 = true := not_false h92
              refine JO_skip rfl rfl rfl rfl rfl rfl ?_
              refine JO_skip rfl rfl rfl rfl rfl rfl ?_
              refine JO_skip rfl rfl rfl rfl rfl rfl ?_
              refine JO_skip rfl rfl rfl rfl rfl rfl ?_
              refine JO_skip rfl rfl rfl rfl rfl rfl ?_
              refine JO_skip rfl rfl rfl rfl rfl rfl ?_
              refine JO_skip rfl rfl rfl rfl rfl rfl ?_
              refine JO_q rfl rfl rfl (OpV.pickF rfl rfl rfl) ?_
              refine JO_nil ?_
              refine JK_condF rfl ?_
              refine JK_skip ?_
              refine JK_blk ?_
              refine JK_region ?_
              refine JO_q rfl rfl rfl (OpV.add rfl rfl rfl (by unfold i64ok; omega)) ?_
              refine JO_q rfl rfl rfl (OpV.move rfl rfl) ?_
              refine JO_nil ?_
              refine JK_goal (r87, (v43_70 + 1)) ⟨(by rw [← hM71]; simp only [cone_Closed_L1, h12, h17, h22, h27, h32, h37, h63, h85, h92, h109, hg10, hg20, hg30, hR68, hg90, cs4]), (by omega), (by omega), (by omega), (by omega)⟩ (by show r87 < r87 + 1; omega) (Env.sub_all rfl) (Ent.take (is := [0, 1, 2, 3, 4, 5, 6, 7]) rfl)
          · skip
            have g111 : ¬ (v43_70 < ((set_.length : Nat) : Int)) := of_decide_eq_false h85
            obtain rfl : r69 = 0 := by omega
            refine JK_exit rfl ?_
            have hR112 : cone_Closed_L1 s set_ leaves inside0_46 (((((set_.length : Nat) : Int) : Int) - 0).toNat) 0 = LR.brk () := by
              rw [← hM71]; simp only [cone_Closed_L1, h12, h17, h22, h27, h32, h37, h63, h85, hg10, hg20, hg30, hR68, cs4]
            refine JK_seq ?_
            refine JK_region ?_
            refine JO_q rfl rfl rfl (OpV.assign rfl rfl) ?_
            refine JO_nil ?_
            have hq : rr = true := hrr.symm.trans (by simp only [cone_Closed, h12, h17, h22, h27, h32, h37, h63, h85, hg10, hg20, hg30, hR68, hR112, cs4])
            replace hrr := hrr.trans hq
            subst rr
            refine JK_return (()) rfl (.tmp rfl .nil) rfl trivial (Ent.take (is := []) rfl)
set_option maxHeartbeats 20000000 in
set_option maxRecDepth 100000 in
/- flowquery/flqref7.Ints -/
theorem fn25 (a : List Int) (aa0 : Option Addr) (ak0 : Nat) (b : List Int) (ba0 : Option Addr) (bk0 : Nat) (rr : Bool) (hrr : flqref7_Ints a b = rr) :
    FT Try.prog 25 #[.slice aa0 a.length ak0, .slice ba0 b.length bk0] [sl (.slice aa0 a.length ak0) (a : List Int), sl (.slice ba0 b.length bk0) (b : List Int)]
      (fun g : Unit => True)
      (fun g => .bool rr)
      (fun g => []) := by
  refine FT_intro (args := [.slice aa0 a.length ak0, .slice ba0 b.length bk0]) Try.func25 rfl rfl ?_
  intro w0 M0 F0
  refine JJ_fact 0 rfl sl_bytes ?_
  intro hl1
  have hl1 : a.length * 8 ≤ 140737488355328 := hl1
  refine JJ_fact 0 rfl sl_ok ?_
  intro ho2
  refine JJ_fact 1 rfl sl_bytes ?_
  intro hl3
  have hl3 : b.length * 8 ≤ 140737488355328 := hl3
  refine JJ_fact 1 rfl sl_ok ?_
  intro ho4
  refine JK_seq ?_
  refine JK_region ?_
  refine JO_q rfl rfl rfl (OpV.assign rfl rfl) ?_
  refine JO_nil ?_
  refine JK_seq ?_
  refine JK_seq ?_
  refine JK_region ?_
  refine JO_q rfl rfl rfl (OpV.move rfl rfl) ?_
  refine JO_q rfl rfl rfl (OpV.len rfl rfl sl22) ?_
  refine JO_q rfl rfl rfl (OpV.move rfl rfl) ?_
  refine JO_q rfl rfl rfl (OpV.len rfl rfl sl22) ?_
  refine JO_q rfl rfl rfl (OpV.neq rfl rfl rfl) ?_
  refine JO_nil ?_
  refine JK_cond (b := (((a.length : Nat) : Int) != ((b.length : Nat) : Int))) rfl (fun (h5 : (((a.length : Nat) : Int) != ((b.length : Nat) : Int)) = true) => ?_) (fun (h5 : (((a.length : Nat) : Int) != ((b.length : Nat) : Int)) = false) => ?_)
  · skip
    have g6 : ((a.length : Nat) : Int) ≠ ((b.length : Nat) : Int) := ne_of_bne h5
    refine JK_seq ?_
    refine JK_region ?_
    refine JO_q rfl rfl rfl (OpV.assign rfl rfl) ?_
    refine JO_nil ?_
    have hq : rr = false := hrr.symm.trans (by simp only [flqref7_Ints, h5, cs4])
    replace hrr := hrr.trans hq
    subst rr
    refine JK_return (()) rfl (.tmp rfl .nil) rfl trivial (Ent.take (is := []) rfl)
  · skip
    have g7 : ((a.length : Nat) : Int) = ((b.length : Nat) : Int) := eq_of_bne_false h5
    refine JK_skip ?_
    refine JK_seq ?_
    refine JK_seq ?_
    refine JK_region ?_
    refine JO_q rfl rfl rfl (OpV.assign rfl rfl) ?_
    refine JO_nil ?_
    refine JK_block ?_
    refine JK_loop (γ := Nat × Int) (fun (r8, i_9) => [(0, .slice aa0 a.length ak0), (1, .slice ba0 b.length bk0), (5, .int .i64 i_9)]) (fun (r8, i_9) => [sl (.slice aa0 a.length ak0) (a : List Int), sl (.slice ba0 b.length bk0) (b : List Int)]) (fun (r8, i_9) => flqref7_Ints_L0 a b r8 i_9 = flqref7_Ints_L0 a b (((((a.length : Nat) : Int) : Int) - 0).toNat) 0 ∧ r8 = ((((a.length : Nat) : Int) : Int) - i_9).toNat ∧ (0 : Int) ≤ i_9 ∧ (i_9 ≤ ((a.length : Nat) : Int) ∨ i_9 = 0) ∧ (-9223372036854775808 ≤ i_9 ∧ i_9 ≤ 9223372036854775807)) (fun (r8, i_9) => r8) (((((a.length : Nat) : Int) : Int) - 0).toNat, 0) ⟨rfl, rfl, (by omega), (.inr rfl), (by omega)⟩ (Env.sub_all rfl) (Ent.take (is := [0, 1]) rfl) ?_
    rintro ⟨r8, i_9⟩ ⟨hM10, hr11, hi12, hi13, hk14⟩
    refine JJ_norm (L := [(0, .slice aa0 a.length ak0), (1, .slice ba0 b.length bk0), (5, .int .i64 i_9)]) (A := [sl (.slice aa0 a.length ak0) (a : List Int), sl (.slice ba0 b.length bk0) (b : List Int)]) rfl rfl ?_
    refine JJ_fact 0 rfl sl_bytes ?_
    intro hl15
    have hl15 : a.length * 8 ≤ 140737488355328 := hl15
    refine JJ_fact 0 rfl sl_ok ?_
    intro ho16
    refine JJ_fact 1 rfl sl_bytes ?_
    intro hl17
    have hl17 : b.length * 8 ≤ 140737488355328 := hl17
    refine JJ_fact 1 rfl sl_ok ?_
    intro ho18
    refine JK_seq ?_
    refine JK_seq ?_
    refine JK_region ?_
    refine JO_q rfl rfl rfl (OpV.move rfl rfl) ?_
    refine JO_q rfl rfl rfl (OpV.move rfl rfl) ?_
    refine JO_q rfl rfl rfl (OpV.len rfl rfl sl22) ?_
    refine JO_q rfl rfl rfl (OpV.lss rfl rfl rfl) ?_
    refine JO_nil ?_
    refine JK_cond (b := decide (i_9 < ((a.length : Nat) : Int))) rfl (fun (h19 : decide (i_9 < ((a.length : Nat) : Int)) = true) => ?_) (fun (h19 : decide (i_9 < ((a.length : Nat) : Int)) = false) => ?_)
    · skip
      have g20 : (i_9 < ((a.length : Nat) : Int)) := of_decide_eq_true h19
      obtain ⟨r21, rfl⟩ : ∃ q, r8 = q + 1 := ⟨r8 - 1, by omega⟩
      refine JK_skip ?_
      refine JK_seq ?_
      refine JK_block ?_
      refine JK_seq ?_
      have hb22 : -9223372036854775808 ≤ (a.getD (i_9 : Int).toNat 0) ∧ (a.getD (i_9 : Int).toNat 0) ≤ 9223372036854775807 := getD_ok ho16 (by first | omega | (simp only [lens]; omega) | (simp only [lens] at *; omega))
      have hb23 : -9223372036854775808 ≤ (b.getD (i_9 : Int).toNat 0) ∧ (b.getD (i_9 : Int).toNat 0) ≤ 9223372036854775807 := getD_ok ho18 (by first | omega | (simp only [lens]; omega) | (simp only [lens] at *; omega))
      refine JK_drawQ [0, 0, 3, 7, 0, 0, 48, 112, 255] fmix ?_
      refine JQ_v [] (qn rfl) rfl rfl (OpV.move rfl rfl) ?_
      refine JQ_v [] (qn rfl) rfl rfl (OpV.move rfl rfl) ?_
      refine JQ_v [0] (qn rfl) rfl rfl (OpV.indexAddr (m := 0) rfl rfl rfl sl22 rfl (isSl_sl _ _) (by first | omega | (simp only [lens]; omega) | (simp only [lens] at *; omega))) ?_
      refine JQ_v [0] (qn rfl) rfl rfl (OpV.load rfl rfl sh3 (i := 0) rfl (reads_sl _ _ _ 0 (by first | omega | (simp only [lens]; omega) | (simp only [lens] at *; omega))) rfl) ?_
      refine JQ_v [] (qn rfl) rfl rfl (OpV.move rfl rfl) ?_
      refine JQ_v [] (qn rfl) rfl rfl (OpV.move rfl rfl) ?_
      refine JQ_v [1] (qn rfl) rfl rfl (OpV.indexAddr (m := 0) rfl rfl rfl sl22 rfl (isSl_sl _ _) (by first | omega | (simp only [lens]; omega) | (simp only [lens] at *; omega))) ?_
      refine JQ_v [1] (qn rfl) rfl rfl (OpV.load rfl rfl sh3 (i := 0) rfl (reads_sl _ _ _ 0 (by first | omega | (simp only [lens]; omega) | (simp only [lens] at *; omega))) rfl) ?_
      refine JQ_v [] (qn rfl) rfl rfl (OpV.neq rfl rfl rfl) ?_
      refine JQ_nil ⟨by kernel_rfl, ?_⟩
      refine JK_cond (b := ((a.getD (i_9 : Int).toNat 0) != (b.getD (i_9 : Int).toNat 0))) rfl (fun (h24 : ((a.getD (i_9 : Int).toNat 0) != (b.getD (i_9 : Int).toNat 0)) = true) => ?_) (fun (h24 : ((a.getD (i_9 : Int).toNat 0) != (b.getD (i_9 : Int).toNat 0)) = false) => ?_)
      · skip
        have g25 : (a.getD (i_9 : Int).toNat 0) ≠ (b.getD (i_9 : Int).toNat 0) := ne_of_bne h24
        refine JK_seq ?_
        refine JK_region ?_
        refine JO_q rfl rfl rfl (OpV.assign rfl rfl) ?_
        refine JO_nil ?_
        have hR26 : flqref7_Ints_L0 a b (((((a.length : Nat) : Int) : Int) - 0).toNat) 0 = LR.ret false := by
          rw [← hM10]; simp only [flqref7_Ints_L0, h5, h19, h24, cs4]
        have hq : rr = false := hrr.symm.trans (by simp only [flqref7_Ints, h5, h19, h24, hR26, cs4])
        replace hrr := hrr.trans hq
        subst rr
        refine JK_return (()) rfl (.tmp rfl .nil) rfl trivial (Ent.take (is := []) rfl)
      · skip
        have g27 : (a.getD (i_9 : Int).toNat 0) = (b.getD (i_9 : Int).toNat 0) := eq_of_bne_false h24
        refine JK_skip ?_
        refine JK_blk ?_
        refine JK_region ?_
        refine JO_q rfl rfl rfl (OpV.move rfl rfl) ?_
        refine JO_q rfl rfl rfl (OpV.add rfl rfl rfl (by unfold i64ok; omega)) ?_
        refine JO_q rfl rfl rfl (OpV.assign rfl rfl) ?_
        refine JO_nil ?_
        refine JK_goal (r21, (i_9 + 1)) ⟨(by rw [← hM10]; simp only [flqref7_Ints_L0, h5, h19, h24, cs4]), (by omega), (by omega), (by omega), (by omega)⟩ (by show r21 < r21 + 1; omega) (Env.sub_all rfl) (Ent.take (is := [0, 1]) rfl)
    · skip
      have g28 : ¬ (i_9 < ((a.length : Nat) : Int)) := of_decide_eq_false h19
      obtain rfl : r8 = 0 := by omega
      refine JK_exit rfl ?_
      have hR29 : flqref7_Ints_L0 a b (((((a.length : Nat) : Int) : Int) - 0).toNat) 0 = LR.brk () := by
        rw [← hM10]; simp only [flqref7_Ints_L0, h5, h19, cs4]
      refine JK_seq ?_
      refine JK_region ?_
      refine JO_q rfl rfl rfl (OpV.assign rfl rfl) ?_
      refine JO_nil ?_
      have hq : rr = true := hrr.symm.trans (by simp only [flqref7_Ints, h5, h19, hR29, cs4])
      replace hrr := hrr.trans hq
      subst rr
      refine JK_return (()) rfl (.tmp rfl .nil) rfl trivial (Ent.take (is := []) rfl)
set_option maxHeartbeats 20000000 in
set_option maxRecDepth 100000 in
/- flowquery/flqref14.closed -/
theorem fn40 (s : GSystem) (sa1 : Option Addr) (sk1 : Nat) (sa2 : Option Addr) (sk2 : Nat) (sa3 : Option Addr) (sk3 : Nat) (set_ : List Int) (set_a0 : Option Addr) (set_k0 : Nat) (leaves : List Int) (leavesa0 : Option Addr) (leavesk0 : Nat) (hs_0 : i64ok s.Width) (hs0 : ∀ x ∈ set_, 0 ≤ x ∧ x < (s.Deps.length : Int)) (rr : Bool) (hrr : flqref14_closed s set_ leaves = rr) :
    FT Try.prog 40 #[.agg #[.int .i64 s.Width, .slice sa1 s.Deps.length sk1, .slice sa2 s.Transfers.length sk2, .slice sa3 s.Boundary.length sk3], .slice set_a0 set_.length set_k0, .slice leavesa0 leaves.length leavesk0] [sl (.slice sa1 s.Deps.length sk1) (s.Deps : List (List Int)), sl (.slice sa2 s.Transfers.length sk2) (s.Transfers : List GTransfer), sl (.slice sa3 s.Boundary.length sk3) (s.Boundary : List GSet), sl (.slice set_a0 set_.length set_k0) (set_ : List Int), sl (.slice leavesa0 leaves.length leavesk0) (leaves : List Int)]
      (fun g : Unit => True)
      (fun g => .bool rr)
      (fun g => []) := by
  refine FT_intro (args := [.agg #[.int .i64 s.Width, .slice sa1 s.Deps.length sk1, .slice sa2 s.Transfers.length sk2, .slice sa3 s.Boundary.length sk3], .slice set_a0 set_.length set_k0, .slice leavesa0 leaves.length leavesk0]) Try.func40 rfl rfl ?_
  intro w0 M0 F0
  have hs_0 : -9223372036854775808 ≤ s.Width ∧ s.Width ≤ 9223372036854775807 := hs_0
  refine JJ_fact 0 rfl sl_bytes ?_
  intro hl1
  have hl1 : s.Deps.length * 24 ≤ 140737488355328 := hl1
  refine JJ_fact 1 rfl sl_bytes ?_
  intro hl2
  have hl2 : s.Transfers.length * 88 ≤ 140737488355328 := hl2
  refine JJ_fact 2 rfl sl_bytes ?_
  intro hl3
  have hl3 : s.Boundary.length * 32 ≤ 140737488355328 := hl3
  refine JJ_fact 3 rfl sl_bytes ?_
  intro hl4
  have hl4 : set_.length * 8 ≤ 140737488355328 := hl4
  refine JJ_fact 3 rfl sl_ok ?_
  intro ho5
  refine JJ_fact 4 rfl sl_bytes ?_
  intro hl6
  have hl6 : leaves.length * 8 ≤ 140737488355328 := hl6
  refine JJ_fact 4 rfl sl_ok ?_
  intro ho7
  refine JK_seq ?_
  refine JK_region ?_
  refine JO_act rfl rfl rfl (OpA.box rfl rfl) ?_
  intro p8
  refine JO_q rfl rfl rfl (OpV.assign rfl rfl) ?_
  refine JO_nil ?_
  refine JK_seq ?_
  refine JK_seq ?_
  refine JK_region ?_
  refine JO_q rfl rfl rfl (OpV.assign rfl rfl) ?_
  refine JO_nil ?_
  refine JK_block ?_
  refine JK_loop (γ := Nat × Int) (fun (r9, i_10) => [(1, .slice set_a0 set_.length set_k0), (2, .slice leavesa0 leaves.length leavesk0), (3, p8), (7, .int .i64 i_10)]) (fun (r9, i_10) => [pv p8 [.int .i64 s.Width, .slice sa1 s.Deps.length sk1, .slice sa2 s.Transfers.length sk2, .slice sa3 s.Boundary.length sk3], sl (.slice sa1 s.Deps.length sk1) (s.Deps : List (List Int)), sl (.slice sa2 s.Transfers.length sk2) (s.Transfers : List GTransfer), sl (.slice sa3 s.Boundary.length sk3) (s.Boundary : List GSet), sl (.slice set_a0 set_.length set_k0) (set_ : List Int), sl (.slice leavesa0 leaves.length leavesk0) (leaves : List Int)]) (fun (r9, i_10) => flqref14_closed_L0 s set_ leaves r9 i_10 = flqref14_closed_L0 s set_ leaves (((((set_.length : Nat) : Int) : Int) - 0).toNat) 0 ∧ r9 = ((((set_.length : Nat) : Int) : Int) - i_10).toNat ∧ (0 : Int) ≤ i_10 ∧ (i_10 ≤ ((set_.length : Nat) : Int) ∨ i_10 = 0) ∧ (-9223372036854775808 ≤ i_10 ∧ i_10 ≤ 9223372036854775807)) (fun (r9, i_10) => r9) (((((set_.length : Nat) : Int) : Int) - 0).toNat, 0) ⟨rfl, rfl, (by omega), (.inr rfl), (by omega)⟩ (Env.sub_all rfl) (Ent.take (is := [0, 1, 2, 3, 4, 5]) rfl) ?_
  rintro ⟨r9, i_10⟩ ⟨hM11, hr12, hi13, hi14, hk15⟩
  refine JJ_norm (L := [(1, .slice set_a0 set_.length set_k0), (2, .slice leavesa0 leaves.length leavesk0), (3, p8), (7, .int .i64 i_10)]) (A := [pv p8 [.int .i64 s.Width, .slice sa1 s.Deps.length sk1, .slice sa2 s.Transfers.length sk2, .slice sa3 s.Boundary.length sk3], sl (.slice sa1 s.Deps.length sk1) (s.Deps : List (List Int)), sl (.slice sa2 s.Transfers.length sk2) (s.Transfers : List GTransfer), sl (.slice sa3 s.Boundary.length sk3) (s.Boundary : List GSet), sl (.slice set_a0 set_.length set_k0) (set_ : List Int), sl (.slice leavesa0 leaves.length leavesk0) (leaves : List Int)]) rfl rfl ?_
  refine JJ_fact 1 rfl sl_bytes ?_
  intro hl16
  have hl16 : s.Deps.length * 24 ≤ 140737488355328 := hl16
  refine JJ_fact 2 rfl sl_bytes ?_
  intro hl17
  have hl17 : s.Transfers.length * 88 ≤ 140737488355328 := hl17
  refine JJ_fact 3 rfl sl_bytes ?_
  intro hl18
  have hl18 : s.Boundary.length * 32 ≤ 140737488355328 := hl18
  refine JJ_fact 4 rfl sl_bytes ?_
  intro hl19
  have hl19 : set_.length * 8 ≤ 140737488355328 := hl19
  refine JJ_fact 4 rfl sl_ok ?_
  intro ho20
  refine JJ_fact 5 rfl sl_bytes ?_
  intro hl21
  have hl21 : leaves.length * 8 ≤ 140737488355328 := hl21
  refine JJ_fact 5 rfl sl_ok ?_
  intro ho22
  refine JK_seq ?_
  refine JK_seq ?_
  refine JK_region ?_
  refine JO_q rfl rfl rfl (OpV.move rfl rfl) ?_
  refine JO_q rfl rfl rfl (OpV.move rfl rfl) ?_
  refine JO_q rfl rfl rfl (OpV.len rfl rfl sl22) ?_
  refine JO_q rfl rfl rfl (OpV.lss rfl rfl rfl) ?_
  refine JO_nil ?_
  refine JK_cond (b := decide (i_10 < ((set_.length : Nat) : Int))) rfl (fun (h23 : decide (i_10 < ((set_.length : Nat) : Int)) = true) => ?_) (fun (h23 : decide (i_10 < ((set_.length : Nat) : Int)) = false) => ?_)
  · skip
    have g24 : (i_10 < ((set_.length : Nat) : Int)) := of_decide_eq_true h23
    have hq := hs0 _ (getD_mem (xs := set_) (i := (i_10 : Int).toNat) (d := 0) (by omega))
    obtain ⟨r25, rfl⟩ : ∃ q, r9 = q + 1 := ⟨r9 - 1, by omega⟩
    refine JK_skip ?_
    refine JK_seq ?_
    refine JK_block ?_
    refine JK_seq ?_
    refine JJ_peekL ((set_.getD (i_10 : Int).toNat 0) : Int).toNat 1 rfl (by omega) ?_
    intro a27 k28
    refine JJ_fact 1 rfl sl_bytes ?_
    intro hl29
    have hl29 : (s.Deps.getD ((set_.getD (i_10 : Int).toNat 0) : Int).toNat []).length * 8 ≤ 140737488355328 := hl29
    refine JJ_fact 1 rfl sl_ok ?_
    intro ho30
    have hb31 : -9223372036854775808 ≤ (set_.getD (i_10 : Int).toNat 0) ∧ (set_.getD (i_10 : Int).toNat 0) ≤ 9223372036854775807 := getD_ok ho20 (by first | omega | (simp only [lens]; omega) | (simp only [lens] at *; omega))
    refine JK_drawQ [0, 1, 0, 0, 12, 28, 63, 127, 255] fmix ?_
    refine JQ_v [2] (qn rfl) rfl rfl (OpV.fieldAddr rfl rfl fo27_1 (i := 0) rfl (isPtr_pv _ _)) ?_
    refine JQ_v [2] (qn rfl) rfl rfl (OpV.loadF rfl rfl sh23 (i := 0) rfl (reads_pv _ _) rfl) ?_
    refine JQ_v [] (qn rfl) rfl rfl (OpV.move rfl rfl) ?_
    refine JQ_v [] (qn rfl) rfl rfl (OpV.move rfl rfl) ?_
    refine JQ_v [6] (qn rfl) rfl rfl (OpV.indexAddr (m := 0) rfl rfl rfl sl22 rfl (isSl_sl _ _) (by first | omega | (simp only [lens]; omega) | (simp only [lens] at *; omega))) ?_
    refine JQ_v [6] (qn rfl) rfl rfl (OpV.load rfl rfl sh3 (i := 0) rfl (reads_sl _ _ _ 0 (by first | omega | (simp only [lens]; omega) | (simp only [lens] at *; omega))) rfl) ?_
    refine JQ_v [3] (qn rfl) rfl rfl (OpV.indexAddr (m := 0) rfl rfl rfl sl23 rfl (isSl_sl _ _) (by first | omega | (simp only [lens]; omega) | (simp only [lens] at *; omega))) ?_
    refine JQ_v [0] (qn rfl) rfl rfl (OpV.load rfl rfl sh22 (i := 0) rfl (reads_pv _ _) rfl) ?_
    refine JQ_v [] (qn rfl) rfl rfl (OpV.assign rfl rfl) ?_
    refine JQ_nil ⟨by kernel_rfl, ?_⟩
    refine JK_seq ?_
    refine JK_region ?_
    refine JO_q rfl rfl rfl (OpV.assign rfl rfl) ?_
    refine JO_nil ?_
    refine JK_block ?_
    refine JK_loop (γ := Nat × Int) (fun (r32, k_33) => [(1, .slice set_a0 set_.length set_k0), (2, .slice leavesa0 leaves.length leavesk0), (3, p8), (7, .int .i64 i_10), (8, .slice a27 ((s.Deps.getD ((set_.getD (i_10 : Int).toNat 0) : Int).toNat []).length) k28), (9, .int .i64 k_33)]) (fun (r32, k_33) => [sl (.slice a27 ((s.Deps.getD ((set_.getD (i_10 : Int).toNat 0) : Int).toNat []).length) k28) ((s.Deps.getD ((set_.getD (i_10 : Int).toNat 0) : Int).toNat []) : List Int), pv p8 [.int .i64 s.Width, .slice sa1 s.Deps.length sk1, .slice sa2 s.Transfers.length sk2, .slice sa3 s.Boundary.length sk3], sl (.slice sa1 s.Deps.length sk1) (s.Deps : List (List Int)), sl (.slice sa2 s.Transfers.length sk2) (s.Transfers : List GTransfer), sl (.slice sa3 s.Boundary.length sk3) (s.Boundary : List GSet), sl (.slice set_a0 set_.length set_k0) (set_ : List Int), sl (.slice leavesa0 leaves.length leavesk0) (leaves : List Int)]) (fun (r32, k_33) => flqref14_closed_L1 set_ leaves i_10 (s.Deps.getD ((set_.getD (i_10 : Int).toNat 0) : Int).toNat []) r32 k_33 = flqref14_closed_L1 set_ leaves i_10 (s.Deps.getD ((set_.getD (i_10 : Int).toNat 0) : Int).toNat []) ((((((s.Deps.getD ((set_.getD (i_10 : Int).toNat 0) : Int).toNat []).length : Nat) : Int) : Int) - 0).toNat) 0 ∧ r32 = (((((s.Deps.getD ((set_.getD (i_10 : Int).toNat 0) : Int).toNat []).length : Nat) : Int) : Int) - k_33).toNat ∧ (0 : Int) ≤ k_33 ∧ (k_33 ≤ (((s.Deps.getD ((set_.getD (i_10 : Int).toNat 0) : Int).toNat []).length : Nat) : Int) ∨ k_33 = 0) ∧ (-9223372036854775808 ≤ k_33 ∧ k_33 ≤ 9223372036854775807)) (fun (r32, k_33) => r32) ((((((s.Deps.getD ((set_.getD (i_10 : Int).toNat 0) : Int).toNat []).length : Nat) : Int) : Int) - 0).toNat, 0) ⟨rfl, rfl, (by omega), (.inr rfl), (by omega)⟩ (Env.sub_all rfl) (Ent.take (is := [1, 2, 3, 4, 5, 6, 7]) rfl) ?_
    rintro ⟨r32, k_33⟩ ⟨hM34, hr35, hi36, hi37, hk38⟩
    refine JJ_norm (L := [(1, .slice set_a0 set_.length set_k0), (2, .slice leavesa0 leaves.length leavesk0), (3, p8), (7, .int .i64 i_10), (8, .slice a27 ((s.Deps.getD ((set_.getD (i_10 : Int).toNat 0) : Int).toNat []).length) k28), (9, .int .i64 k_33)]) (A := [sl (.slice a27 ((s.Deps.getD ((set_.getD (i_10 : Int).toNat 0) : Int).toNat []).length) k28) ((s.Deps.getD ((set_.getD (i_10 : Int).toNat 0) : Int).toNat []) : List Int), pv p8 [.int .i64 s.Width, .slice sa1 s.Deps.length sk1, .slice sa2 s.Transfers.length sk2, .slice sa3 s.Boundary.length sk3], sl (.slice sa1 s.Deps.length sk1) (s.Deps : List (List Int)), sl (.slice sa2 s.Transfers.length sk2) (s.Transfers : List GTransfer), sl (.slice sa3 s.Boundary.length sk3) (s.Boundary : List GSet), sl (.slice set_a0 set_.length set_k0) (set_ : List Int), sl (.slice leavesa0 leaves.length leavesk0) (leaves : List Int)]) rfl rfl ?_
    refine JJ_fact 0 rfl sl_bytes ?_
    intro hl39
    have hl39 : (s.Deps.getD ((set_.getD (i_10 : Int).toNat 0) : Int).toNat []).length * 8 ≤ 140737488355328 := hl39
    refine JJ_fact 0 rfl sl_ok ?_
    intro ho40
    refine JJ_fact 2 rfl sl_bytes ?_
    intro hl41
    have hl41 : s.Deps.length * 24 ≤ 140737488355328 := hl41
    refine JJ_fact 3 rfl sl_bytes ?_
    intro hl42
    have hl42 : s.Transfers.length * 88 ≤ 140737488355328 := hl42
    refine JJ_fact 4 rfl sl_bytes ?_
    intro hl43
    have hl43 : s.Boundary.length * 32 ≤ 140737488355328 := hl43
    refine JJ_fact 5 rfl sl_bytes ?_
    intro hl44
    have hl44 : set_.length * 8 ≤ 140737488355328 := hl44
    refine JJ_fact 5 rfl sl_ok ?_
    intro ho45
    refine JJ_fact 6 rfl sl_bytes ?_
    intro hl46
    have hl46 : leaves.length * 8 ≤ 140737488355328 := hl46
    refine JJ_fact 6 rfl sl_ok ?_
    intro ho47
    refine JK_seq ?_
    refine JK_seq ?_
    refine JK_region ?_
    refine JO_q rfl rfl rfl (OpV.move rfl rfl) ?_
    refine JO_q rfl rfl rfl (OpV.move rfl rfl) ?_
    refine JO_q rfl rfl rfl (OpV.len rfl rfl sl22) ?_
    refine JO_q rfl rfl rfl (OpV.lss rfl rfl rfl) ?_
    refine JO_nil ?_
    refine JK_cond (b := decide (k_33 < (((s.Deps.getD ((set_.getD (i_10 : Int).toNat 0) : Int).toNat []).length : Nat) : Int))) rfl (fun (h48 : decide (k_33 < (((s.Deps.getD ((set_.getD (i_10 : Int).toNat 0) : Int).toNat []).length : Nat) : Int)) = true) => ?_) (fun (h48 : decide (k_33 < (((s.Deps.getD ((set_.getD (i_10 : Int).toNat 0) : Int).toNat []).length : Nat) : Int)) = false) => ?_)
    · skip
      have g49 : (k_33 < (((s.Deps.getD ((set_.getD (i_10 : Int).toNat 0) : Int).toNat []).length : Nat) : Int)) := of_decide_eq_true h48
      obtain ⟨r50, rfl⟩ : ∃ q, r32 = q + 1 := ⟨r32 - 1, by omega⟩
      refine JK_skip ?_
      refine JK_seq ?_
      refine JK_block ?_
      refine JK_seq ?_
      refine JK_region ?_
      refine JO_q rfl rfl rfl (OpV.move rfl rfl) ?_
      refine JO_q rfl rfl rfl (OpV.move rfl rfl) ?_
      refine JO_q rfl rfl rfl (OpV.move rfl rfl) ?_
      refine JO_q rfl rfl rfl (OpV.indexAddr (m := 5) rfl rfl rfl sl22 rfl (isSl_sl _ _) (by first | omega | (simp only [lens]; omega) | (simp only [lens] at *; omega))) ?_
      have hb51 : -9223372036854775808 ≤ (set_.getD (i_10 : Int).toNat 0) ∧ (set_.getD (i_10 : Int).toNat 0) ≤ 9223372036854775807 := getD_ok ho45 (by first | omega | (simp only [lens]; omega) | (simp only [lens] at *; omega))
      refine JO_q rfl rfl rfl (OpV.load rfl rfl sh3 (i := 5) rfl (reads_sl _ _ _ 0 (by first | omega | (simp only [lens]; omega) | (simp only [lens] at *; omega))) rfl) ?_
      refine letv (flqref7_Has leaves (set_.getD (i_10 : Int).toNat 0)) fun rv52 hg53 => ?_
      have hc54 := fn16 leaves leavesa0 leavesk0 ((set_.getD (i_10 : Int).toNat 0)) (by (try dsimp only) <;> first | (unfold i64ok; omega) | omega | assumption) rv52 hg53
      refine JO_call [6] rfl rfl rfl (OpC.fn rfl ca16 rfl) (hc54) rfl ?_
      rintro - -
      refine JO_q rfl rfl rfl (OpV.not rfl rfl) ?_
      refine JO_q rfl rfl rfl (OpV.move rfl rfl) ?_
      refine JJ_split 37 rfl (fun (h55 : (!rv52) = true) => ?_) (fun (h55 : (!rv52) = false) => ?_)
      · skip
        have h57 : rv52 = false := not_true h55
        refine JO_taken rfl rfl rfl rfl ?_
        refine JO_q rfl rfl rfl (OpV.move rfl rfl) ?_
        refine JO_taken rfl rfl rfl rfl ?_
        refine JO_q rfl rfl rfl (OpV.move rfl rfl) ?_
        refine JO_taken rfl rfl rfl rfl ?_
        refine JO_q rfl rfl rfl (OpV.move rfl rfl) ?_
        refine JO_taken rfl rfl rfl rfl ?_
        refine JO_q rfl rfl rfl (OpV.indexAddr (m := 0) rfl rfl rfl sl22 rfl (isSl_sl _ _) (by first | omega | (simp only [lens]; omega) | (simp only [lens] at *; omega))) ?_
        refine JO_taken rfl rfl rfl rfl ?_
        have hb59 : -9223372036854775808 ≤ ((s.Deps.getD ((set_.getD (i_10 : Int).toNat 0) : Int).toNat []).getD (k_33 : Int).toNat 0) ∧ ((s.Deps.getD ((set_.getD (i_10 : Int).toNat 0) : Int).toNat []).getD (k_33 : Int).toNat 0) ≤ 9223372036854775807 := getD_ok ho40 (by first | omega | (simp only [lens]; omega) | (simp only [lens] at *; omega))
        refine JO_q rfl rfl rfl (OpV.load rfl rfl sh3 (i := 0) rfl (reads_sl _ _ _ 0 (by first | omega | (simp only [lens]; omega) | (simp only [lens] at *; omega))) rfl) ?_
        refine JO_taken rfl rfl rfl rfl ?_
        refine letv (flqref7_Has set_ ((s.Deps.getD ((set_.getD (i_10 : Int).toNat 0) : Int).toNat []).getD (k_33 : Int).toNat 0)) fun rv60 hg61 => ?_
        have hc62 := fn16 set_ set_a0 set_k0 (((s.Deps.getD ((set_.getD (i_10 : Int).toNat 0) : Int).toNat []).getD (k_33 : Int).toNat 0)) (by (try dsimp only) <;> first | (unfold i64ok; omega) | omega | assumption) rv60 hg61
        refine JO_call [5] rfl rfl rfl (OpC.fn rfl ca16 rfl) (hc62) rfl ?_
        rintro - -
        refine JO_taken rfl rfl rfl rfl ?_
        refine JO_q rfl rfl rfl (OpV.not rfl rfl) ?_
        refine JO_q rfl rfl rfl (OpV.pickT rfl rfl rfl) ?_
        refine JO_nil ?_
        refine JK_cond (b := (!rv60)) rfl (fun (h63 : (!rv60) = true) => ?_) (fun (h63 : (!rv60) = false) => ?_)
        · skip
          have h65 : rv60 = false := not_true h63
          refine JK_seq ?_
          refine JK_region ?_
          refine JO_q rfl rfl rfl (OpV.assign rfl rfl) ?_
          refine JO_nil ?_
          have hR67 : flqref14_closed_L1 set_ leaves i_10 (s.Deps.getD ((set_.getD (i_10 : Int).toNat 0) : Int).toNat []) ((((((s.Deps.getD ((set_.getD (i_10 : Int).toNat 0) : Int).toNat []).length : Nat) : Int) : Int) - 0).toNat) 0 = LR.ret false := by
            rw [← hM34]; simp only [flqref14_closed_L1, h23, h48, h55, h57, h63, h65, hg53, hg61, cs4]
          have hR68 : flqref14_closed_L0 s set_ leaves (((((set_.length : Nat) : Int) : Int) - 0).toNat) 0 = LR.ret false := by
            rw [← hM11]; simp only [flqref14_closed_L0, h23, h48, h55, h57, h63, h65, hg53, hg61, hR67, cs4]
          have hq : rr = false := hrr.symm.trans (by simp only [flqref14_closed, h23, h48, h55, h57, h63, h65, hg53, hg61, hR67, hR68, cs4])
          replace hrr := hrr.trans hq
          subst rr
          refine JK_return (()) rfl (.tmp rfl .nil) rfl trivial (Ent.take (is := []) rfl)
        · skip
          have h70 : rv60 = true := not_false h63
          refine JK_skip ?_
          refine JK_blk ?_
          refine JK_region ?_
          refine JO_q rfl rfl rfl (OpV.move rfl rfl) ?_
          refine JO_q rfl rfl rfl (OpV.add rfl rfl rfl (by unfold i64ok; omega)) ?_
          refine JO_q rfl rfl rfl (OpV.assign rfl rfl) ?_
          refine JO_nil ?_
          refine JK_goal (r50, (k_33 + 1)) ⟨(by rw [← hM34]; simp only [flqref14_closed_L1, h23, h48, h55, h57, h63, h70, hg53, hg61, cs4]), (by omega), (by omega), (by omega), (by omega)⟩ (by show r50 < r50 + 1; omega) (Env.sub_all rfl) (Ent.take (is := [0, 1, 2, 3, 4, 5, 6]) rfl)
      · skip
        have h73 : rv52 = true := not_false h55
        refine JO_skip rfl rfl rfl rfl rfl rfl ?_
        refine JO_skip rfl rfl rfl rfl rfl rfl ?_
        refine JO_skip rfl rfl rfl rfl rfl rfl ?_
        refine JO_skip rfl rfl rfl rfl rfl rfl ?_
        refine JO_skip rfl rfl rfl rfl rfl rfl ?_
        refine JO_skip rfl rfl rfl rfl rfl rfl ?_
        refine JO_skip rfl rfl rfl rfl rfl rfl ?_
        refine JO_q rfl rfl rfl (OpV.pickF rfl rfl rfl) ?_
        refine JO_nil ?_
        refine JK_condF rfl ?_
        refine JK_skip ?_
        refine JK_blk ?_
        refine JK_region ?_
        refine JO_q rfl rfl rfl (OpV.move rfl rfl) ?_
        refine JO_q rfl rfl rfl (OpV.add rfl rfl rfl (by unfold i64ok; omega)) ?_
        refine JO_q rfl rfl rfl (OpV.assign rfl rfl) ?_
        refine JO_nil ?_
        refine JK_goal (r50, (k_33 + 1)) ⟨(by rw [← hM34]; simp only [flqref14_closed_L1, h23, h48, h55, h73, hg53, cs4]), (by omega), (by omega), (by omega), (by omega)⟩ (by show r50 < r50 + 1; omega) (Env.sub_all rfl) (Ent.take (is := [0, 1, 2, 3, 4, 5, 6]) rfl)
    · skip
      have g75 : ¬ (k_33 < (((s.Deps.getD ((set_.getD (i_10 : Int).toNat 0) : Int).toNat []).length : Nat) : Int)) := of_decide_eq_false h48
      obtain rfl : r32 = 0 := by omega
      refine JK_exit rfl ?_
      have hR76 : flqref14_closed_L1 set_ leaves i_10 (s.Deps.getD ((set_.getD (i_10 : Int).toNat 0) : Int).toNat []) ((((((s.Deps.getD ((set_.getD (i_10 : Int).toNat 0) : Int).toNat []).length : Nat) : Int) : Int) - 0).toNat) 0 = LR.brk () := by
        rw [← hM34]; simp only [flqref14_closed_L1, h23, h48, cs4]
      refine JK_blk ?_
      refine JK_region ?_
      refine JO_q rfl rfl rfl (OpV.move rfl rfl) ?_
      refine JO_q rfl rfl rfl (OpV.add rfl rfl rfl (by unfold i64ok; omega)) ?_
      refine JO_q rfl rfl rfl (OpV.assign rfl rfl) ?_
      refine JO_nil ?_
      refine JK_goal (r25, (i_10 + 1)) ⟨(by rw [← hM11]; simp only [flqref14_closed_L0, h23, h48, hR76, cs4]), (by omega), (by omega), (by omega), (by omega)⟩ (by show r25 < r25 + 1; omega) (Env.sub_all rfl) (Ent.take (is := [1, 2, 3, 4, 5, 6]) rfl)
  · skip
    have g77 : ¬ (i_10 < ((set_.length : Nat) : Int)) := of_decide_eq_false h23
    obtain rfl : r9 = 0 := by omega
    refine JK_exit rfl ?_
    have hR78 : flqref14_closed_L0 s set_ leaves (((((set_.length : Nat) : Int) : Int) - 0).toNat) 0 = LR.brk () := by
      rw [← hM11]; simp only [flqref14_closed_L0, h23, cs4]
    refine JK_seq ?_
    refine JK_region ?_
    refine JO_q rfl rfl rfl (OpV.assign rfl rfl) ?_
    refine JO_nil ?_
    have hq : rr = true := hrr.symm.trans (by simp only [flqref14_closed, h23, hR78, cs4])
    replace hrr := hrr.trans hq
    subst rr
    refine JK_return (()) rfl (.tmp rfl .nil) rfl trivial (Ent.take (is := []) rfl)
set_option maxHeartbeats 20000000 in
set_option maxRecDepth 100000 in
/- flowquery/flqref14.Closed -/
theorem fn26 (s : GSystem) (sa1 : Option Addr) (sk1 : Nat) (sa2 : Option Addr) (sk2 : Nat) (sa3 : Option Addr) (sk3 : Nat) (set_ : List Int) (set_a0 : Option Addr) (set_k0 : Nat) (leaves : List Int) (leavesa0 : Option Addr) (leavesk0 : Nat) (hs_0 : i64ok s.Width) (rr : Bool) (hrr : flqref14_Closed s set_ leaves = rr) :
    FT Try.prog 26 #[.agg #[.int .i64 s.Width, .slice sa1 s.Deps.length sk1, .slice sa2 s.Transfers.length sk2, .slice sa3 s.Boundary.length sk3], .slice set_a0 set_.length set_k0, .slice leavesa0 leaves.length leavesk0] [sl (.slice sa1 s.Deps.length sk1) (s.Deps : List (List Int)), sl (.slice sa2 s.Transfers.length sk2) (s.Transfers : List GTransfer), sl (.slice sa3 s.Boundary.length sk3) (s.Boundary : List GSet), sl (.slice set_a0 set_.length set_k0) (set_ : List Int), sl (.slice leavesa0 leaves.length leavesk0) (leaves : List Int)]
      (fun g : Unit => True)
      (fun g => .bool rr)
      (fun g => []) := by
  refine FT_intro (args := [.agg #[.int .i64 s.Width, .slice sa1 s.Deps.length sk1, .slice sa2 s.Transfers.length sk2, .slice sa3 s.Boundary.length sk3], .slice set_a0 set_.length set_k0, .slice leavesa0 leaves.length leavesk0]) Try.func26 rfl rfl ?_
  intro w0 M0 F0
  have hs_0 : -9223372036854775808 ≤ s.Width ∧ s.Width ≤ 9223372036854775807 := hs_0
  refine JJ_fact 0 rfl sl_bytes ?_
  intro hl1
  have hl1 : s.Deps.length * 24 ≤ 140737488355328 := hl1
  refine JJ_fact 1 rfl sl_bytes ?_
  intro hl2
  have hl2 : s.Transfers.length * 88 ≤ 140737488355328 := hl2
  refine JJ_fact 2 rfl sl_bytes ?_
  intro hl3
  have hl3 : s.Boundary.length * 32 ≤ 140737488355328 := hl3
  refine JJ_fact 3 rfl sl_bytes ?_
  intro hl4
  have hl4 : set_.length * 8 ≤ 140737488355328 := hl4
  refine JJ_fact 3 rfl sl_ok ?_
  intro ho5
  refine JJ_fact 4 rfl sl_bytes ?_
  intro hl6
  have hl6 : leaves.length * 8 ≤ 140737488355328 := hl6
  refine JJ_fact 4 rfl sl_ok ?_
  intro ho7
  refine JK_seq ?_
  refine JK_region ?_
  refine JO_act rfl rfl rfl (OpA.box rfl rfl) ?_
  intro p8
  refine JO_q rfl rfl rfl (OpV.assign rfl rfl) ?_
  refine JO_nil ?_
  refine JK_seq ?_
  refine JK_region ?_
  refine JO_q rfl rfl rfl (OpV.loadA rfl rfl sh27 (i := 0) rfl (reads_pv _ _) rfl) ?_
  refine letv (flqref10_Valid s) fun rv9 hg10 => ?_
  have hc11 := fn22 s sa1 sk1 sa2 sk2 sa3 sk3 (by (try dsimp only) <;> first | (unfold i64ok; omega) | omega | assumption) rv9 hg10
  refine JO_call [1, 2, 3] rfl rfl rfl (OpC.fn rfl ca22 rfl) (hc11) rfl ?_
  rintro - -
  refine JO_q rfl rfl rfl (OpV.move rfl rfl) ?_
  refine JJ_split 9 rfl (fun (h12 : rv9 = true) => ?_) (fun (h12 : rv9 = false) => ?_)
  · skip
    refine JO_taken rfl rfl rfl rfl ?_
    refine JO_q rfl rfl rfl (OpV.loadA rfl rfl sh27 (i := 0) rfl (reads_pv _ _) rfl) ?_
    refine JO_taken rfl rfl rfl rfl ?_
    refine JO_q rfl rfl rfl (OpV.move rfl rfl) ?_
    refine JO_taken rfl rfl rfl rfl ?_
    refine letv (flqref14_inside s set_) fun rv14 hg15 => ?_
    have hc16 := fn23 s sa1 sk1 sa2 sk2 sa3 sk3 set_ set_a0 set_k0 (by (try dsimp only) <;> first | (unfold i64ok; omega) | omega | assumption) rv14 hg15
    refine JO_call [1, 2, 3, 4] rfl rfl rfl (OpC.fn rfl ca23 rfl) (hc16) rfl ?_
    rintro - -
    refine JO_q rfl rfl rfl (OpV.pickT rfl rfl rfl) ?_
    refine JO_q rfl rfl rfl (OpV.move rfl rfl) ?_
    refine JJ_split 14 rfl (fun (h17 : rv14 = true) => ?_) (fun (h17 : rv14 = false) => ?_)
    · skip
      refine JO_taken rfl rfl rfl rfl ?_
      refine JO_q rfl rfl rfl (OpV.loadA rfl rfl sh27 (i := 0) rfl (reads_pv _ _) rfl) ?_
      refine JO_taken rfl rfl rfl rfl ?_
      refine JO_q rfl rfl rfl (OpV.move rfl rfl) ?_
      refine JO_taken rfl rfl rfl rfl ?_
      refine letv (flqref14_inside s leaves) fun rv19 hg20 => ?_
      have hc21 := fn23 s sa1 sk1 sa2 sk2 sa3 sk3 leaves leavesa0 leavesk0 (by (try dsimp only) <;> first | (unfold i64ok; omega) | omega | assumption) rv19 hg20
      refine JO_call [1, 2, 3, 5] rfl rfl rfl (OpC.fn rfl ca23 rfl) (hc21) rfl ?_
      rintro - -
      refine JO_q rfl rfl rfl (OpV.pickT rfl rfl rfl) ?_
      refine JO_q rfl rfl rfl (OpV.move rfl rfl) ?_
      refine JJ_split 19 rfl (fun (h22 : rv19 = true) => ?_) (fun (h22 : rv19 = false) => ?_)
      · skip
        refine JO_taken rfl rfl rfl rfl ?_
        refine JO_q rfl rfl rfl (OpV.loadA rfl rfl sh27 (i := 0) rfl (reads_pv _ _) rfl) ?_
        refine JO_taken rfl rfl rfl rfl ?_
        refine JO_q rfl rfl rfl (OpV.move rfl rfl) ?_
        refine JO_taken rfl rfl rfl rfl ?_
        refine JO_q rfl rfl rfl (OpV.move rfl rfl) ?_
        refine JO_taken rfl rfl rfl rfl ?_
        refine letv (flqref14_closed s set_ leaves) fun rv24 hg25 => ?_
        have hc26 := fn40 s sa1 sk1 sa2 sk2 sa3 sk3 set_ set_a0 set_k0 leaves leavesa0 leavesk0 (by (try dsimp only) <;> first | (unfold i64ok; omega) | omega | assumption) (by have hv0 := Valid_deps (s := s) (by simp only [h12, h17, h22, hg10, hg15, hg20]); have hi0 := (inside_iff s set_).1 (by simp only [h12, h17, h22, hg10, hg15, hg20]); intro x hx; have := hi0 x hx; omega) rv24 hg25
        refine JO_call [1, 2, 3, 4, 5] rfl rfl rfl (OpC.fn rfl ca40 rfl) (hc26) rfl ?_
        rintro - -
        refine JO_q rfl rfl rfl (OpV.pickT rfl rfl rfl) ?_
        refine JO_q rfl rfl rfl (OpV.assign rfl rfl) ?_
        refine JO_nil ?_
        have hq : rr = rv24 := hrr.symm.trans (by simp only [flqref14_Closed, h12, h17, h22, hg10, hg15, hg20, hg25, cs4])
        replace hrr := hrr.trans hq
        subst rr
        refine JK_return (()) rfl (.tmp rfl .nil) rfl trivial (Ent.take (is := []) rfl)
      · skip
        refine JO_skip rfl rfl rfl rfl rfl rfl ?_
        refine JO_skip rfl rfl rfl rfl rfl rfl ?_
        refine JO_skip rfl rfl rfl rfl rfl rfl ?_
        refine JO_skip rfl rfl rfl rfl rfl rfl ?_
        refine JO_q rfl rfl rfl (OpV.pickF rfl rfl rfl) ?_
        refine JO_q rfl rfl rfl (OpV.assign rfl rfl) ?_
        refine JO_nil ?_
        have hq : rr = false := hrr.symm.trans (by simp only [flqref14_Closed, h12, h17, h22, hg10, hg15, hg20, cs4])
        replace hrr := hrr.trans hq
        subst rr
        refine JK_return (()) rfl (.tmp rfl .nil) rfl trivial (Ent.take (is := []) rfl)
    · skip
      refine JO_skip rfl rfl rfl rfl rfl rfl ?_
      refine JO_skip rfl rfl rfl rfl rfl rfl ?_
      refine JO_skip rfl rfl rfl rfl rfl rfl ?_
      refine JO_q rfl rfl rfl (OpV.pickF rfl rfl rfl) ?_
      refine JO_q rfl rfl rfl (OpV.move rfl rfl) ?_
      refine JO_skip rfl rfl rfl rfl rfl rfl ?_
      refine JO_skip rfl rfl rfl rfl rfl rfl ?_
      refine JO_skip rfl rfl rfl rfl rfl rfl ?_
      refine JO_skip rfl rfl rfl rfl rfl rfl ?_
      refine JO_q rfl rfl rfl (OpV.pickF rfl rfl rfl) ?_
      refine JO_q rfl rfl rfl (OpV.assign rfl rfl) ?_
      refine JO_nil ?_
      have hq : rr = false := hrr.symm.trans (by simp only [flqref14_Closed, h12, h17, hg10, hg15, cs4])
      replace hrr := hrr.trans hq
      subst rr
      refine JK_return (()) rfl (.tmp rfl .nil) rfl trivial (Ent.take (is := []) rfl)
  · skip
    refine JO_skip rfl rfl rfl rfl rfl rfl ?_
    refine JO_skip rfl rfl rfl rfl rfl rfl ?_
    refine JO_skip rfl rfl rfl rfl rfl rfl ?_
    refine JO_q rfl rfl rfl (OpV.pickF rfl rfl rfl) ?_
    refine JO_q rfl rfl rfl (OpV.move rfl rfl) ?_
    refine JO_skip rfl rfl rfl rfl rfl rfl ?_
    refine JO_skip rfl rfl rfl rfl rfl rfl ?_
    refine JO_skip rfl rfl rfl rfl rfl rfl ?_
    refine JO_q rfl rfl rfl (OpV.pickF rfl rfl rfl) ?_
    refine JO_q rfl rfl rfl (OpV.move rfl rfl) ?_
    refine JO_skip rfl rfl rfl rfl rfl rfl ?_
    refine JO_skip rfl rfl rfl rfl rfl rfl ?_
    refine JO_skip rfl rfl rfl rfl rfl rfl ?_
    refine JO_skip rfl rfl rfl rfl rfl rfl ?_
    refine JO_q rfl rfl rfl (OpV.pickF rfl rfl rfl) ?_
    refine JO_q rfl rfl rfl (OpV.assign rfl rfl) ?_
    refine JO_nil ?_
    have hq : rr = false := hrr.symm.trans (by simp only [flqref14_Closed, h12, hg10, cs4])
    replace hrr := hrr.trans hq
    subst rr
    refine JK_return (()) rfl (.tmp rfl .nil) rfl trivial (Ent.take (is := []) rfl)
set_option maxHeartbeats 20000000 in
set_option maxRecDepth 100000 in
/- flowquery/flqlaw14.agrees -/
theorem fn9 (s : GSystem) (sa1 : Option Addr) (sk1 : Nat) (sa2 : Option Addr) (sk2 : Nat) (sa3 : Option Addr) (sk3 : Nat) (root : Int) (leaves : List Int) (leavesa0 : Option Addr) (leavesk0 : Nat) (set_ : List Int) (set_a0 : Option Addr) (set_k0 : Nat) (hs_0 : i64ok s.Width) (hroot_0 : i64ok root) (rr : Bool) (hrr : flqlaw14_agrees s root leaves set_ = rr) :
    FT Try.prog 9 #[.agg #[.int .i64 s.Width, .slice sa1 s.Deps.length sk1, .slice sa2 s.Transfers.length sk2, .slice sa3 s.Boundary.length sk3], .int .i64 root, .slice leavesa0 leaves.length leavesk0, .slice set_a0 set_.length set_k0] [sl (.slice sa1 s.Deps.length sk1) (s.Deps : List (List Int)), sl (.slice sa2 s.Transfers.length sk2) (s.Transfers : List GTransfer), sl (.slice sa3 s.Boundary.length sk3) (s.Boundary : List GSet), sl (.slice leavesa0 leaves.length leavesk0) (leaves : List Int), sl (.slice set_a0 set_.length set_k0) (set_ : List Int)]
      (fun g : Unit => True)
      (fun g => .bool rr)
      (fun g => []) := by
  refine FT_intro (args := [.agg #[.int .i64 s.Width, .slice sa1 s.Deps.length sk1, .slice sa2 s.Transfers.length sk2, .slice sa3 s.Boundary.length sk3], .int .i64 root, .slice leavesa0 leaves.length leavesk0, .slice set_a0 set_.length set_k0]) Try.func9 rfl rfl ?_
  intro w0 M0 F0
  have hs_0 : -9223372036854775808 ≤ s.Width ∧ s.Width ≤ 9223372036854775807 := hs_0
  have hroot_0 : -9223372036854775808 ≤ root ∧ root ≤ 9223372036854775807 := hroot_0
  refine JJ_fact 0 rfl sl_bytes ?_
  intro hl1
  have hl1 : s.Deps.length * 24 ≤ 140737488355328 := hl1
  refine JJ_fact 1 rfl sl_bytes ?_
  intro hl2
  have hl2 : s.Transfers.length * 88 ≤ 140737488355328 := hl2
  refine JJ_fact 2 rfl sl_bytes ?_
  intro hl3
  have hl3 : s.Boundary.length * 32 ≤ 140737488355328 := hl3
  refine JJ_fact 3 rfl sl_bytes ?_
  intro hl4
  have hl4 : leaves.length * 8 ≤ 140737488355328 := hl4
  refine JJ_fact 3 rfl sl_ok ?_
  intro ho5
  refine JJ_fact 4 rfl sl_bytes ?_
  intro hl6
  have hl6 : set_.length * 8 ≤ 140737488355328 := hl6
  refine JJ_fact 4 rfl sl_ok ?_
  intro ho7
  refine JK_seq ?_
  refine JK_region ?_
  refine JO_act rfl rfl rfl (OpA.box rfl rfl) ?_
  intro p8
  refine JO_q rfl rfl rfl (OpV.assign rfl rfl) ?_
  refine JO_nil ?_
  refine JK_seq ?_
  refine JK_region ?_
  refine JO_q rfl rfl rfl (OpV.loadA rfl rfl sh27 (i := 0) rfl (reads_pv _ _) rfl) ?_
  refine JO_q rfl rfl rfl (OpV.move rfl rfl) ?_
  refine JO_q rfl rfl rfl (OpV.move rfl rfl) ?_
  refine letv (cone_Of s root leaves) fun rv10 hg11 => ?_
  have hc12 := fn14 s sa1 sk1 sa2 sk2 sa3 sk3 root leaves leavesa0 leavesk0 (by (try dsimp only) <;> first | (unfold i64ok; omega) | omega | assumption) (by (try dsimp only) <;> first | (unfold i64ok; omega) | omega | assumption) rv10 hg11
  refine JO_call [1, 2, 3, 4] rfl rfl rfl (OpC.fn rfl ca14 rfl) (hc12) rfl ?_
  rintro c9 ⟨he13, he14⟩
  have he13 : -9223372036854775808 ≤ rv10.2.1 ∧ rv10.2.1 ≤ 9223372036854775807 := he13
  have he14 : -9223372036854775808 ≤ rv10.2.2 ∧ rv10.2.2 ≤ 9223372036854775807 := he14
  refine JJ_slice 0 rfl sl_slice ?_
  rintro a15 k16 rfl
  refine JJ_fact 0 rfl sl_bytes ?_
  intro hl17
  have hl17 : rv10.1.length * 8 ≤ 140737488355328 := hl17
  refine JJ_fact 0 rfl sl_ok ?_
  intro ho18
  refine JO_q rfl rfl rfl (OpV.move rfl rfl) ?_
  refine JO_q rfl rfl rfl (OpV.extract rfl rfl rfl) ?_
  refine JO_q rfl rfl rfl (OpV.extract rfl rfl rfl) ?_
  refine JO_q rfl rfl rfl (OpV.extract rfl rfl rfl) ?_
  refine JO_q rfl rfl rfl (OpV.assign rfl rfl) ?_
  refine JO_q rfl rfl rfl (OpV.assign rfl rfl) ?_
  refine JO_q rfl rfl rfl (OpV.assign rfl rfl) ?_
  refine JO_nil ?_
  refine JK_seq ?_
  refine JK_region ?_
  refine JO_q rfl rfl rfl (OpV.loadA rfl rfl sh27 (i := 1) rfl (reads_pv _ _) rfl) ?_
  refine JO_q rfl rfl rfl (OpV.move rfl rfl) ?_
  refine JO_q rfl rfl rfl (OpV.move rfl rfl) ?_
  refine letv (flqref14_Cone s root leaves) fun rv20 hg21 => ?_
  have hc22 := fn7 s sa1 sk1 sa2 sk2 sa3 sk3 root leaves leavesa0 leavesk0 (by (try dsimp only) <;> first | (unfold i64ok; omega) | omega | assumption) (by (try dsimp only) <;> first | (unfold i64ok; omega) | omega | assumption) rv20 hg21
  refine JO_call [2, 3, 4, 5] rfl rfl rfl (OpC.fn rfl ca7 rfl) (hc22) rfl ?_
  rintro c19 ⟨he23, he24⟩
  have he23 : -9223372036854775808 ≤ rv20.2.1 ∧ rv20.2.1 ≤ 9223372036854775807 := he23
  have he24 : -9223372036854775808 ≤ rv20.2.2 ∧ rv20.2.2 ≤ 9223372036854775807 := he24
  refine JJ_slice 0 rfl sl_slice ?_
  rintro a25 k26 rfl
  refine JJ_fact 0 rfl sl_bytes ?_
  intro hl27
  have hl27 : rv20.1.length * 8 ≤ 140737488355328 := hl27
  refine JJ_fact 0 rfl sl_ok ?_
  intro ho28
  refine JO_q rfl rfl rfl (OpV.move rfl rfl) ?_
  refine JO_q rfl rfl rfl (OpV.extract rfl rfl rfl) ?_
  refine JO_q rfl rfl rfl (OpV.extract rfl rfl rfl) ?_
  refine JO_q rfl rfl rfl (OpV.extract rfl rfl rfl) ?_
  refine JO_q rfl rfl rfl (OpV.assign rfl rfl) ?_
  refine JO_q rfl rfl rfl (OpV.assign rfl rfl) ?_
  refine JO_q rfl rfl rfl (OpV.assign rfl rfl) ?_
  refine JO_nil ?_
  refine JK_seq ?_
  refine bool_split ((rv10.2.2 == rv20.2.2)) (fun (h29 : (rv10.2.2 == rv20.2.2) = true) => ?_) (fun (h29 : (rv10.2.2 == rv20.2.2) = false) => ?_)
  · skip
    have g30 : rv10.2.2 = rv20.2.2 := eq_of_beq h29
    refine bool_split ((rv10.2.1 == rv20.2.1)) (fun (h31 : (rv10.2.1 == rv20.2.1) = true) => ?_) (fun (h31 : (rv10.2.1 == rv20.2.1) = false) => ?_)
    · skip
      have g32 : rv10.2.1 = rv20.2.1 := eq_of_beq h31
      refine letv (flqref7_Ints rv10.1 rv20.1) fun rv33 hg34 => ?_
      refine bool_split (rv33) (fun (h35 : rv33 = true) => ?_) (fun (h35 : rv33 = false) => ?_)
      · skip
        refine letv (cone_Closed s set_ leaves) fun rv37 hg38 => ?_
        refine letv (flqref14_Closed s set_ leaves) fun rv39 hg40 => ?_
        refine JK_drawJ [0, 0, 3, 7, 15, 15, 63, 127, 255, 511, 511, 2047, 4095, 8191, 16383, 16383, 16383, 131071, 16383, 16383, 16383, 2097151, 4194303, 8388607, 16777215] [] fmix ?_
        refine JD_v [] (wn rfl) rfl rfl (OpV.move rfl rfl) ?_
        refine JD_v [] (wn rfl) rfl rfl (OpV.move rfl rfl) ?_
        refine JD_b h29 [] (wn rfl) rfl rfl (OpV.eql rfl rfl rfl) ?_
        refine JD_v [] (wn rfl) rfl rfl (OpV.move rfl rfl) ?_
        refine JD_v [] (wt rfl rfl rfl rfl) rfl rfl (OpV.move rfl rfl) ?_
        refine JD_v [] (wt rfl rfl rfl rfl) rfl rfl (OpV.move rfl rfl) ?_
        refine JD_b h31 [] (wt rfl rfl rfl rfl) rfl rfl (OpV.eql rfl rfl rfl) ?_
        refine JD_v [] (wn rfl) rfl rfl (OpV.pickT rfl rfl rfl) ?_
        refine JD_v [] (wn rfl) rfl rfl (OpV.move rfl rfl) ?_
        refine JD_v [] (wt rfl rfl rfl rfl) rfl rfl (OpV.move rfl rfl) ?_
        refine JD_v [] (wt rfl rfl rfl rfl) rfl rfl (OpV.move rfl rfl) ?_
        refine JD_x [0, 1] [] (fun lG => .bool true) [⟨some 11, none, [], fun lG => SP.fact (True)⟩] (wt rfl rfl rfl rfl) rfl rfl rfl (fun G => by refine OpX.n3 (A' := [sl (.slice a25 rv20.1.length k26) (rv20.1 : List Int), sl (.slice a15 rv10.1.length k16) (rv10.1 : List Int)]) (V' := fun g => .bool rv33) (B' := fun g => [sl (.slice a25 rv20.1.length k26) (rv20.1 : List Int), sl (.slice a15 rv10.1.length k16) (rv10.1 : List Int), SP.fact (True)]) (by kernel_rfl) (by rw [h35]) (by kernel_rfl) ?_; refine OpX.postR (OpX.frame [1, 0] rfl (OpX.ofC (fun _ => []) (fun _ => ()) (fun _ => rfl) (by intro _ _ h; cases h) (OpC.fn rfl ca25 rfl) (fn25 rv10.1 a15 k16 rv20.1 a25 k26 rv33 hg34))) (fun g => ?_); exact Ent.take (is := [1, 2, 0]) rfl) ?_
        refine JD_v [] (wn rfl) rfl rfl (OpV.pickT rfl rfl rfl) ?_
        refine JD_v [] (wn rfl) rfl rfl (OpV.move rfl rfl) ?_
        refine JD_v [2] (wt rfl rfl rfl rfl) rfl rfl (OpV.loadA rfl rfl sh27 (i := 0) rfl (reads_pv _ _) rfl) ?_
        refine JD_v [] (wt rfl rfl rfl rfl) rfl rfl (OpV.move rfl rfl) ?_
        refine JD_v [] (wt rfl rfl rfl rfl) rfl rfl (OpV.move rfl rfl) ?_
        refine JD_x [3, 4, 5, 6, 7] [] (fun lG => .bool rv37) [⟨some 17, none, [], fun lG => SP.fact (True)⟩] (wt rfl rfl rfl rfl) rfl rfl rfl (fun G => by refine OpX.n3 (A' := [sl (.slice sa1 s.Deps.length sk1) (s.Deps : List (List Int)), sl (.slice sa2 s.Transfers.length sk2) (s.Transfers : List GTransfer), sl (.slice sa3 s.Boundary.length sk3) (s.Boundary : List GSet), sl (.slice leavesa0 leaves.length leavesk0) (leaves : List Int), sl (.slice set_a0 set_.length set_k0) (set_ : List Int)]) (V' := fun g => .bool rv37) (B' := fun g => [sl (.slice sa1 s.Deps.length sk1) (s.Deps : List (List Int)), sl (.slice sa2 s.Transfers.length sk2) (s.Transfers : List GTransfer), sl (.slice sa3 s.Boundary.length sk3) (s.Boundary : List GSet), sl (.slice leavesa0 leaves.length leavesk0) (leaves : List Int), sl (.slice set_a0 set_.length set_k0) (set_ : List Int), SP.fact (True)]) (by kernel_rfl) (by kernel_rfl) (by kernel_rfl) ?_; refine OpX.postR (OpX.frame [0, 1, 2, 4, 3] rfl (OpX.ofC (fun _ => []) (fun _ => ()) (fun _ => rfl) (by intro _ _ h; cases h) (OpC.fn rfl ca15 rfl) (fn15 s sa1 sk1 sa2 sk2 sa3 sk3 set_ set_a0 set_k0 leaves leavesa0 leavesk0 (by (try dsimp only) <;> first | (unfold i64ok; omega) | omega | assumption) rv37 hg38))) (fun g => ?_); exact Ent.take (is := [1, 2, 3, 4, 5, 0]) rfl) ?_
        refine JD_v [2] (wt rfl rfl rfl rfl) rfl rfl (OpV.loadA rfl rfl sh27 (i := 0) rfl (reads_pv _ _) rfl) ?_
        refine JD_v [] (wt rfl rfl rfl rfl) rfl rfl (OpV.move rfl rfl) ?_
        refine JD_v [] (wt rfl rfl rfl rfl) rfl rfl (OpV.move rfl rfl) ?_
        refine JD_x [3, 4, 5, 6, 7] [] (fun lG => .bool rv39) [⟨some 21, none, [], fun lG => SP.fact (True)⟩] (wt rfl rfl rfl rfl) rfl rfl rfl (fun G => by refine OpX.n3 (A' := [sl (.slice sa1 s.Deps.length sk1) (s.Deps : List (List Int)), sl (.slice sa2 s.Transfers.length sk2) (s.Transfers : List GTransfer), sl (.slice sa3 s.Boundary.length sk3) (s.Boundary : List GSet), sl (.slice leavesa0 leaves.length leavesk0) (leaves : List Int), sl (.slice set_a0 set_.length set_k0) (set_ : List Int)]) (V' := fun g => .bool rv39) (B' := fun g => [sl (.slice sa1 s.Deps.length sk1) (s.Deps : List (List Int)), sl (.slice sa2 s.Transfers.length sk2) (s.Transfers : List GTransfer), sl (.slice sa3 s.Boundary.length sk3) (s.Boundary : List GSet), sl (.slice leavesa0 leaves.length leavesk0) (leaves : List Int), sl (.slice set_a0 set_.length set_k0) (set_ : List Int), SP.fact (True)]) (by kernel_rfl) (by kernel_rfl) (by kernel_rfl) ?_; refine OpX.postR (OpX.frame [0, 1, 2, 4, 3] rfl (OpX.ofC (fun _ => []) (fun _ => ()) (fun _ => rfl) (by intro _ _ h; cases h) (OpC.fn rfl ca26 rfl) (fn26 s sa1 sk1 sa2 sk2 sa3 sk3 set_ set_a0 set_k0 leaves leavesa0 leavesk0 (by (try dsimp only) <;> first | (unfold i64ok; omega) | omega | assumption) rv39 hg40))) (fun g => ?_); exact Ent.take (is := [1, 2, 3, 4, 5, 0]) rfl) ?_
        refine JD_v [] (wt rfl rfl rfl rfl) rfl rfl (OpV.eqlB rfl un4 rfl rfl) ?_
        refine JD_v [] (wn rfl) rfl rfl (OpV.pickT rfl rfl rfl) ?_
        refine JD_v [] (wn rfl) rfl rfl (OpV.assign rfl rfl) ?_
        refine JD_nil ⟨by kernel_rfl, fun G => ?_⟩
        refine JJ_weaken (L' := [(8, .bool (rv37 == rv39))]) (A' := [sl (.slice a25 rv20.1.length k26) (rv20.1 : List Int), sl (.slice a15 rv10.1.length k16) (rv10.1 : List Int), pv p8 [.int .i64 s.Width, .slice sa1 s.Deps.length sk1, .slice sa2 s.Transfers.length sk2, .slice sa3 s.Boundary.length sk3], sl (.slice sa1 s.Deps.length sk1) (s.Deps : List (List Int)), sl (.slice sa2 s.Transfers.length sk2) (s.Transfers : List GTransfer), sl (.slice sa3 s.Boundary.length sk3) (s.Boundary : List GSet), sl (.slice leavesa0 leaves.length leavesk0) (leaves : List Int), sl (.slice set_a0 set_.length set_k0) (set_ : List Int), SP.fact (True), SP.fact (True), SP.fact (True)]) (Env.sub_all (by kernel_rfl)) (Ent.of_eq (by kernel_rfl)) ?_
        refine JJ_keep [0, 1, 2, 3, 4, 5, 6, 7] rfl ?_
        have hq : rr = (rv37 == rv39) := hrr.symm.trans (by simp only [flqlaw14_agrees, h29, h31, h35, hg11, hg21, hg34, hg38, hg40, cs4])
        replace hrr := hrr.trans hq
        subst rr
        refine JK_return (()) rfl (.tmp rfl .nil) rfl trivial (Ent.take (is := []) rfl)
      · skip
        refine JK_drawJ [0, 0, 3, 7, 15, 15, 63, 127, 255, 511, 511, 2047, 4095, 8191, 16383, 16383, 16383, 131071, 16383, 16383, 16383, 2097151, 4194303, 8388607, 16777215] [] fmix ?_
        refine JD_v [] (wn rfl) rfl rfl (OpV.move rfl rfl) ?_
        refine JD_v [] (wn rfl) rfl rfl (OpV.move rfl rfl) ?_
        refine JD_b h29 [] (wn rfl) rfl rfl (OpV.eql rfl rfl rfl) ?_
        refine JD_v [] (wn rfl) rfl rfl (OpV.move rfl rfl) ?_
        refine JD_v [] (wt rfl rfl rfl rfl) rfl rfl (OpV.move rfl rfl) ?_
        refine JD_v [] (wt rfl rfl rfl rfl) rfl rfl (OpV.move rfl rfl) ?_
        refine JD_b h31 [] (wt rfl rfl rfl rfl) rfl rfl (OpV.eql rfl rfl rfl) ?_
        refine JD_v [] (wn rfl) rfl rfl (OpV.pickT rfl rfl rfl) ?_
        refine JD_v [] (wn rfl) rfl rfl (OpV.move rfl rfl) ?_
        refine JD_v [] (wt rfl rfl rfl rfl) rfl rfl (OpV.move rfl rfl) ?_
        refine JD_v [] (wt rfl rfl rfl rfl) rfl rfl (OpV.move rfl rfl) ?_
        refine JD_x [0, 1] [] (fun lG => .bool false) [⟨some 11, none, [], fun lG => SP.fact (True)⟩] (wt rfl rfl rfl rfl) rfl rfl rfl (fun G => by refine OpX.n3 (A' := [sl (.slice a25 rv20.1.length k26) (rv20.1 : List Int), sl (.slice a15 rv10.1.length k16) (rv10.1 : List Int)]) (V' := fun g => .bool rv33) (B' := fun g => [sl (.slice a25 rv20.1.length k26) (rv20.1 : List Int), sl (.slice a15 rv10.1.length k16) (rv10.1 : List Int), SP.fact (True)]) (by kernel_rfl) (by rw [h35]) (by kernel_rfl) ?_; refine OpX.postR (OpX.frame [1, 0] rfl (OpX.ofC (fun _ => []) (fun _ => ()) (fun _ => rfl) (by intro _ _ h; cases h) (OpC.fn rfl ca25 rfl) (fn25 rv10.1 a15 k16 rv20.1 a25 k26 rv33 hg34))) (fun g => ?_); exact Ent.take (is := [1, 2, 0]) rfl) ?_
        refine JD_v [] (wn rfl) rfl rfl (OpV.pickT rfl rfl rfl) ?_
        refine JD_v [] (wn rfl) rfl rfl (OpV.move rfl rfl) ?_
        refine JD_skip (ws rfl rfl rfl _ rfl rfl) rfl ?_
        refine JD_skip (ws rfl rfl rfl _ rfl rfl) rfl ?_
        refine JD_skip (ws rfl rfl rfl _ rfl rfl) rfl ?_
        refine JD_skip (ws rfl rfl rfl _ rfl rfl) rfl ?_
        refine JD_skip (ws rfl rfl rfl _ rfl rfl) rfl ?_
        refine JD_skip (ws rfl rfl rfl _ rfl rfl) rfl ?_
        refine JD_skip (ws rfl rfl rfl _ rfl rfl) rfl ?_
        refine JD_skip (ws rfl rfl rfl _ rfl rfl) rfl ?_
        refine JD_skip (ws rfl rfl rfl _ rfl rfl) rfl ?_
        refine JD_v [] (wn rfl) rfl rfl (OpV.pickF rfl rfl rfl) ?_
        refine JD_v [] (wn rfl) rfl rfl (OpV.assign rfl rfl) ?_
        refine JD_nil ⟨by kernel_rfl, fun G => ?_⟩
        refine JJ_weaken (L' := [(8, .bool false)]) (A' := [sl (.slice a25 rv20.1.length k26) (rv20.1 : List Int), sl (.slice a15 rv10.1.length k16) (rv10.1 : List Int), pv p8 [.int .i64 s.Width, .slice sa1 s.Deps.length sk1, .slice sa2 s.Transfers.length sk2, .slice sa3 s.Boundary.length sk3], sl (.slice sa1 s.Deps.length sk1) (s.Deps : List (List Int)), sl (.slice sa2 s.Transfers.length sk2) (s.Transfers : List GTransfer), sl (.slice sa3 s.Boundary.length sk3) (s.Boundary : List GSet), sl (.slice leavesa0 leaves.length leavesk0) (leaves : List Int), sl (.slice set_a0 set_.length set_k0) (set_ : List Int), SP.fact (True)]) (Env.sub_all (by kernel_rfl)) (Ent.of_eq (by kernel_rfl)) ?_
        refine JJ_keep [0, 1, 2, 3, 4, 5, 6, 7] rfl ?_
        have hq : rr = false := hrr.symm.trans (by simp only [flqlaw14_agrees, h29, h31, h35, hg11, hg21, hg34, cs4])
        replace hrr := hrr.trans hq
        subst rr
        refine JK_return (()) rfl (.tmp rfl .nil) rfl trivial (Ent.take (is := []) rfl)
    · skip
      have g42 : rv10.2.1 ≠ rv20.2.1 := ne_of_beq_false h31
      refine JK_drawQ [0, 0, 3, 7, 15, 15, 63, 127, 255, 511, 511, 2047, 4095, 8191, 16383, 16383, 16383, 131071, 16383, 16383, 16383, 2097151, 4194303, 8388607, 16777215] fmix ?_
      refine JQ_v [] (qn rfl) rfl rfl (OpV.move rfl rfl) ?_
      refine JQ_v [] (qn rfl) rfl rfl (OpV.move rfl rfl) ?_
      refine JQ_b h29 [] (qn rfl) rfl rfl (OpV.eql rfl rfl rfl) ?_
      refine JQ_v [] (qn rfl) rfl rfl (OpV.move rfl rfl) ?_
      refine JQ_v [] (qt rfl rfl rfl rfl) rfl rfl (OpV.move rfl rfl) ?_
      refine JQ_v [] (qt rfl rfl rfl rfl) rfl rfl (OpV.move rfl rfl) ?_
      refine JQ_b h31 [] (qt rfl rfl rfl rfl) rfl rfl (OpV.eql rfl rfl rfl) ?_
      refine JQ_v [] (qn rfl) rfl rfl (OpV.pickT rfl rfl rfl) ?_
      refine JQ_v [] (qn rfl) rfl rfl (OpV.move rfl rfl) ?_
      refine JQ_skip (qs rfl rfl rfl _ rfl rfl) rfl ?_
      refine JQ_skip (qs rfl rfl rfl _ rfl rfl) rfl ?_
      refine JQ_skip (qs rfl rfl rfl _ rfl rfl) rfl ?_
      refine JQ_v [] (qn rfl) rfl rfl (OpV.pickF rfl rfl rfl) ?_
      refine JQ_v [] (qn rfl) rfl rfl (OpV.move rfl rfl) ?_
      refine JQ_skip (qs rfl rfl rfl _ rfl rfl) rfl ?_
      refine JQ_skip (qs rfl rfl rfl _ rfl rfl) rfl ?_
      refine JQ_skip (qs rfl rfl rfl _ rfl rfl) rfl ?_
      refine JQ_skip (qs rfl rfl rfl _ rfl rfl) rfl ?_
      refine JQ_skip (qs rfl rfl rfl _ rfl rfl) rfl ?_
      refine JQ_skip (qs rfl rfl rfl _ rfl rfl) rfl ?_
      refine JQ_skip (qs rfl rfl rfl _ rfl rfl) rfl ?_
      refine JQ_skip (qs rfl rfl rfl _ rfl rfl) rfl ?_
      refine JQ_skip (qs rfl rfl rfl _ rfl rfl) rfl ?_
      refine JQ_v [] (qn rfl) rfl rfl (OpV.pickF rfl rfl rfl) ?_
      refine JQ_v [] (qn rfl) rfl rfl (OpV.assign rfl rfl) ?_
      refine JQ_nil ⟨by kernel_rfl, ?_⟩
      have hq : rr = false := hrr.symm.trans (by simp only [flqlaw14_agrees, h29, h31, hg11, hg21, cs4])
      replace hrr := hrr.trans hq
      subst rr
      refine JK_return (()) rfl (.tmp rfl .nil) rfl trivial (Ent.take (is := []) rfl)
  · skip
    have g43 : rv10.2.2 ≠ rv20.2.2 := ne_of_beq_false h29
    refine JK_drawQ [0, 0, 3, 7, 15, 15, 63, 127, 255, 511, 511, 2047, 4095, 8191, 16383, 16383, 16383, 131071, 16383, 16383, 16383, 2097151, 4194303, 8388607, 16777215] fmix ?_
    refine JQ_v [] (qn rfl) rfl rfl (OpV.move rfl rfl) ?_
    refine JQ_v [] (qn rfl) rfl rfl (OpV.move rfl rfl) ?_
    refine JQ_b h29 [] (qn rfl) rfl rfl (OpV.eql rfl rfl rfl) ?_
    refine JQ_v [] (qn rfl) rfl rfl (OpV.move rfl rfl) ?_
    refine JQ_skip (qs rfl rfl rfl _ rfl rfl) rfl ?_
    refine JQ_skip (qs rfl rfl rfl _ rfl rfl) rfl ?_
    refine JQ_skip (qs rfl rfl rfl _ rfl rfl) rfl ?_
    refine JQ_v [] (qn rfl) rfl rfl (OpV.pickF rfl rfl rfl) ?_
    refine JQ_v [] (qn rfl) rfl rfl (OpV.move rfl rfl) ?_
    refine JQ_skip (qs rfl rfl rfl _ rfl rfl) rfl ?_
    refine JQ_skip (qs rfl rfl rfl _ rfl rfl) rfl ?_
    refine JQ_skip (qs rfl rfl rfl _ rfl rfl) rfl ?_
    refine JQ_v [] (qn rfl) rfl rfl (OpV.pickF rfl rfl rfl) ?_
    refine JQ_v [] (qn rfl) rfl rfl (OpV.move rfl rfl) ?_
    refine JQ_skip (qs rfl rfl rfl _ rfl rfl) rfl ?_
    refine JQ_skip (qs rfl rfl rfl _ rfl rfl) rfl ?_
    refine JQ_skip (qs rfl rfl rfl _ rfl rfl) rfl ?_
    refine JQ_skip (qs rfl rfl rfl _ rfl rfl) rfl ?_
    refine JQ_skip (qs rfl rfl rfl _ rfl rfl) rfl ?_
    refine JQ_skip (qs rfl rfl rfl _ rfl rfl) rfl ?_
    refine JQ_skip (qs rfl rfl rfl _ rfl rfl) rfl ?_
    refine JQ_skip (qs rfl rfl rfl _ rfl rfl) rfl ?_
    refine JQ_skip (qs rfl rfl rfl _ rfl rfl) rfl ?_
    refine JQ_v [] (qn rfl) rfl rfl (OpV.pickF rfl rfl rfl) ?_
    refine JQ_v [] (qn rfl) rfl rfl (OpV.assign rfl rfl) ?_
    refine JQ_nil ⟨by kernel_rfl, ?_⟩
    have hq : rr = false := hrr.symm.trans (by simp only [flqlaw14_agrees, h29, hg11, hg21, cs4])
    replace hrr := hrr.trans hq
    subst rr
    refine JK_return (()) rfl (.tmp rfl .nil) rfl trivial (Ent.take (is := []) rfl)
set_option maxHeartbeats 20000000 in
set_option maxRecDepth 100000 in
/- flowquery/flqlaw14.list -/
theorem fn10 (kP : Value) (ka : Option Addr) (kk : Nat) (kT : List Int) (kI : Int) (n : Int) (hkI : 0 ≤ kI ∧ kI ≤ (kT.length : Int)) (hn_0 : i64ok n) (rr : List Int × Int) (hrr : flqlaw14_list kT kI n = rr) :
    FT Try.prog 10 #[kP, .int .i64 n] [Cl kP [.slice ka kT.length kk, .int .i64 kI], sl (.slice ka kT.length kk) (kT : List Int)]
      (fun g : Value => (0 ≤ rr.2 ∧ rr.2 ≤ (kT.length : Int)))
      (fun g => g)
      (fun g => [sl (g) (rr.1 : List Int), Cl kP [.slice ka kT.length kk, .int .i64 rr.2]]) := by
  refine FT_intro (args := [kP, .int .i64 n]) Try.func10 rfl rfl ?_
  intro w0 M0 F0
  have hn_0 : -9223372036854775808 ≤ n ∧ n ≤ 9223372036854775807 := hn_0
  refine JJ_fact 1 rfl sl_bytes ?_
  intro hl1
  have hl1 : kT.length * 8 ≤ 140737488355328 := hl1
  refine JJ_fact 1 rfl sl_ok ?_
  intro ho2
  refine JK_seq ?_
  refine JK_region ?_
  refine JO_q rfl rfl rfl (OpV.assign rfl rfl) ?_
  refine JO_nil ?_
  refine JK_seq ?_
  refine JK_region ?_
  refine JO_q rfl rfl rfl (OpV.assign rfl rfl) ?_
  refine JO_nil ?_
  refine JK_seq ?_
  refine JK_seq ?_
  refine JK_region ?_
  refine JO_q rfl rfl rfl (OpV.move rfl rfl) ?_
  refine letv (Tape_Next kT kI 4) fun rv3 hg4 => ?_
  have hc5 := fn8 kP ka kk kT kI 4 (by (try dsimp only) <;> first | (unfold i64ok; omega) | omega | assumption) (by (try dsimp only) <;> first | (unfold i64ok; omega) | omega | assumption) rv3 hg4
  refine JO_call [0, 0] rfl rfl rfl (OpC.fn rfl ca8 rfl) (hc5) rfl ?_
  rintro - ⟨he6, he7, he8⟩
  have he6 : -9223372036854775808 ≤ rv3.1 ∧ rv3.1 ≤ 9223372036854775807 := he6
  refine JO_q rfl rfl rfl (OpV.assign rfl rfl) ?_
  refine JO_nil ?_
  refine JK_block ?_
  refine JJ_loc [] rfl (Ent.osNil (α := Int)) ?_
  refine JK_loop (γ := Nat × Int × List Int × Int × Option Addr × Nat) (fun (r9, ti_10, l_11, i_12, a13, k14) => [(0, kP), (1, .int .i64 n), (5, .slice a13 l_11.length k14), (6, .int .i64 i_12)]) (fun (r9, ti_10, l_11, i_12, a13, k14) => [os (.slice a13 l_11.length k14) (l_11 : List Int), Cl kP [.slice ka kT.length kk, .int .i64 ti_10], sl (.slice ka kT.length kk) (kT : List Int)]) (fun (r9, ti_10, l_11, i_12, a13, k14) => flqlaw14_list_L0 kT n r9 ti_10 l_11 i_12 = flqlaw14_list_L0 kT n ((rv3.1 : Int).toNat) rv3.2 [] rv3.1 ∧ r9 = (i_12 : Int).toNat ∧ i_12 ≤ (rv3.1 : Int) ∧ (-9223372036854775808 ≤ ti_10 ∧ ti_10 ≤ 9223372036854775807) ∧ (0 ≤ ti_10 ∧ ti_10 ≤ (kT.length : Int)) ∧ (-9223372036854775808 ≤ i_12 ∧ i_12 ≤ 9223372036854775807) ∧ (l_11.length : Int) + i_12 ≤ 4) (fun (r9, ti_10, l_11, i_12, a13, k14) => r9) ((rv3.1 : Int).toNat, rv3.2, [], rv3.1, none, 0) ⟨rfl, rfl, (by omega), (by omega), (by omega), (by omega), (by first | omega | (simp only [lens]; omega) | simp)⟩ (Env.sub_all rfl) (Ent.take (is := [0, 0, 0]) rfl) ?_
  rintro ⟨r9, ti_10, l_11, i_12, a13, k14⟩ ⟨hM15, hr16, hi17, hk18, ht19, hk20, hv21⟩
  refine JJ_norm (L := [(0, kP), (1, .int .i64 n), (5, .slice a13 l_11.length k14), (6, .int .i64 i_12)]) (A := [os (.slice a13 l_11.length k14) (l_11 : List Int), Cl kP [.slice ka kT.length kk, .int .i64 ti_10], sl (.slice ka kT.length kk) (kT : List Int)]) rfl rfl ?_
  refine JJ_fact 0 rfl os_bytes ?_
  intro hl22
  have hl22 : l_11.length * 8 ≤ 140737488355328 := hl22
  refine JJ_fact 0 rfl os_ok ?_
  intro ho23
  refine JJ_fact 2 rfl sl_bytes ?_
  intro hl24
  have hl24 : kT.length * 8 ≤ 140737488355328 := hl24
  refine JJ_fact 2 rfl sl_ok ?_
  intro ho25
  refine JK_seq ?_
  refine JK_seq ?_
  refine JK_region ?_
  refine JO_q rfl rfl rfl (OpV.move rfl rfl) ?_
  refine JO_q rfl rfl rfl (OpV.gtr rfl rfl rfl) ?_
  refine JO_nil ?_
  refine JK_cond (b := decide (0 < i_12)) rfl (fun (h26 : decide (0 < i_12) = true) => ?_) (fun (h26 : decide (0 < i_12) = false) => ?_)
  · skip
    have g27 : (0 < i_12) := of_decide_eq_true h26
    obtain ⟨r28, rfl⟩ : ∃ q, r9 = q + 1 := ⟨r9 - 1, by omega⟩
    refine JK_skip ?_
    refine JK_seq ?_
    refine JK_block ?_
    refine JK_region ?_
    refine JO_q rfl rfl rfl (OpV.move rfl rfl) ?_
    refine JO_q rfl rfl rfl (OpV.move rfl rfl) ?_
    refine JO_q rfl rfl rfl (OpV.move rfl rfl) ?_
    refine letv (Tape_Next kT ti_10 n) fun rv29 hg30 => ?_
    have hc31 := fn8 kP ka kk kT ti_10 n (by (try dsimp only) <;> first | (unfold i64ok; omega) | omega | assumption) (by (try dsimp only) <;> first | (unfold i64ok; omega) | omega | assumption) rv29 hg30
    refine JO_call [1, 1] rfl rfl rfl (OpC.fn rfl ca8 rfl) (hc31) rfl ?_
    rintro - ⟨he32, he33, he34⟩
    have he32 : -9223372036854775808 ≤ rv29.1 ∧ rv29.1 ≤ 9223372036854775807 := he32
    refine JO_q rfl rfl rfl (OpV.move rfl rfl) ?_
    refine letv (Tape_Next kT rv29.2 12) fun rv35 hg36 => ?_
    have hc37 := fn8 kP ka kk kT rv29.2 12 (by (try dsimp only) <;> first | (unfold i64ok; omega) | omega | assumption) (by (try dsimp only) <;> first | (unfold i64ok; omega) | omega | assumption) rv35 hg36
    refine JO_call [0, 1] rfl rfl rfl (OpC.fn rfl ca8 rfl) (hc37) rfl ?_
    rintro - ⟨he38, he39, he40⟩
    have he38 : -9223372036854775808 ≤ rv35.1 ∧ rv35.1 ≤ 9223372036854775807 := he38
    refine JO_q rfl rfl rfl (OpV.quo rfl rfl rfl (by omega)) ?_
    refine JO_q rfl rfl rfl (OpV.sub rfl rfl rfl (by unfold i64ok; omega)) ?_
    refine JO_act rfl rfl rfl (OpA.buildSliceV [.int .i64 (rv29.1 - (rv35.1 / 11))] [.int .i64 (rv29.1 - (rv35.1 / 11))] rfl sl22 sz22 rfl (Env.evp_map rfl) rfl rfl rfl rfl) ?_
    intro c41
    refine JJ_slice 0 rfl Cr_slice ?_
    rintro a42 k43 rfl
    refine JJ_loc [0] rfl (Ent.crInt _ [(rv29.1 - (rv35.1 / 11))] _ _ rfl rfl (by intro x hx; rw [List.mem_singleton] at hx; subst hx; unfold i64ok; omega) (Nat.le_of_ble_eq_true rfl)) ?_
    refine JO_act rfl rfl rfl (OpA.frame [2, 0] rfl (OpA.appO (α := Int) (xs := l_11) (ys := [(rv29.1 - (rv35.1 / 11))]) rfl rfl rfl sl22 sl22 sz22 rfl rfl rfl (by show (_ + _) * 8 ≤ 140737488355328; first | omega | (simp only [lens]; omega) | (simp only [lens] at *; omega)))) ?_
    intro c44
    refine JJ_slice 0 rfl os_slice ?_
    rintro a45 k46 rfl
    refine JJ_fact 0 rfl os_bytes ?_
    intro hl47
    have hl47 : (l_11 ++ [(rv29.1 - (rv35.1 / 11))]).length * 8 ≤ 140737488355328 := hl47
    refine JJ_fact 0 rfl os_ok ?_
    intro ho48
    have hn49 : ((l_11 ++ [(rv29.1 - (rv35.1 / 11))]) : List Int).length = (l_11 : List Int).length + ([(rv29.1 - (rv35.1 / 11))] : List Int).length := List.length_append
    refine JO_q rfl rfl rfl (OpV.assign rfl rfl) ?_
    refine JO_nil ?_
    refine JK_blk ?_
    refine JK_region ?_
    refine JO_q rfl rfl rfl (OpV.move rfl rfl) ?_
    refine JO_q rfl rfl rfl (OpV.sub rfl rfl rfl (by unfold i64ok; omega)) ?_
    refine JO_q rfl rfl rfl (OpV.assign rfl rfl) ?_
    refine JO_nil ?_
    refine JK_goal (r28, rv35.2, (l_11 ++ [(rv29.1 - (rv35.1 / 11))]), (i_12 - 1), a45, k46) ⟨(by rw [← hM15]; simp only [flqlaw14_list_L0, h26, hg4, hg30, hg36, cs4]), (by omega), (by omega), (by omega), (by omega), (by omega), (by first | omega | (simp only [lens]; omega) | assumption)⟩ (by show r28 < r28 + 1; omega) (Env.sub_all rfl) (Ent.take (is := [0, 0, 0]) rfl)
  · skip
    have g50 : ¬ (0 < i_12) := of_decide_eq_false h26
    obtain rfl : r9 = 0 := by omega
    refine JK_exit rfl ?_
    have hR51 : flqlaw14_list_L0 kT n ((rv3.1 : Int).toNat) rv3.2 [] rv3.1 = (ti_10, l_11) := by
      rw [← hM15]; simp only [flqlaw14_list_L0, h26, hg4, cs4]
    refine JK_seq ?_
    refine JK_region ?_
    refine JO_q rfl rfl rfl (OpV.move rfl rfl) ?_
    refine JO_q rfl rfl rfl (OpV.assign rfl rfl) ?_
    refine JO_nil ?_
    refine JJ_loc [0] rfl (Ent.freeze _ _) ?_
    have hq : rr = (l_11, ti_10) := hrr.symm.trans (by simp only [flqlaw14_list, h26, hg4, hR51, cs4])
    replace hrr := hrr.trans hq
    subst rr
    refine JK_return (.slice a13 l_11.length k14) rfl (.tmp rfl .nil) rfl (by (try dsimp only) <;> first | omega | (unfold i64ok; omega) | (simp only [lens]; omega) | assumption | trivial) (Ent.take (is := [0, 1]) rfl)
set_option maxHeartbeats 20000000 in
set_option maxRecDepth 100000 in
/- (*flowquery/flqgen.Tape).SpoilSet -/
theorem fn28 (tP : Value) (ta : Option Addr) (tk : Nat) (tT : List Int) (tI : Int) (s : GSet) (sa1 : Option Addr) (sk1 : Nat) (htI : 0 ≤ tI ∧ tI ≤ (tT.length : Int)) (hs_0 : i64ok s.Width) (hs : SetOk s) (rr : GSet × Int) (hrr : Tape_SpoilSet tT tI s = rr) :
    FT Try.prog 28 #[tP, .agg #[.int .i64 s.Width, .slice sa1 s.Words.length sk1]] [Cl tP [.slice ta tT.length tk, .int .i64 tI], sl (.slice ta tT.length tk) (tT : List Int), sl (.slice sa1 s.Words.length sk1) (s.Words : List (BitVec 64))]
      (fun g : Value => i64ok rr.1.Width ∧ (0 ≤ rr.2 ∧ rr.2 ≤ (tT.length : Int)))
      (fun g => .agg #[.int .i64 rr.1.Width, g])
      (fun g => [sl (g) (rr.1.Words : List (BitVec 64)), Cl tP [.slice ta tT.length tk, .int .i64 rr.2]]) := by
  refine FT_intro (args := [tP, .agg #[.int .i64 s.Width, .slice sa1 s.Words.length sk1]]) Try.func28 rfl rfl ?_
  intro w0 M0 F0
  have hs_0 : -9223372036854775808 ≤ s.Width ∧ s.Width ≤ 9223372036854775807 := hs_0
  refine JJ_fact 1 rfl sl_bytes ?_
  intro hl1
  have hl1 : tT.length * 8 ≤ 140737488355328 := hl1
  refine JJ_fact 1 rfl sl_ok ?_
  intro ho2
  refine JJ_fact 2 rfl sl_bytes ?_
  intro hl3
  have hl3 : s.Words.length * 8 ≤ 140737488355328 := hl3
  obtain ⟨hw0, hw1, hw2⟩ := hs
  refine JK_seq ?_
  refine JK_region ?_
  refine JO_act rfl rfl rfl (OpA.box rfl rfl) ?_
  intro p4
  refine JO_act rfl rfl rfl (OpA.alloc rfl ze50) ?_
  intro p5
  refine JO_nil ?_
  refine JK_seq ?_
  refine JK_drawJ [0, 1, 0, 0, 8, 28, 63, 0, 255] [] fmix ?_
  refine JD_v [1] (wn rfl) rfl rfl (OpV.fieldAddr rfl rfl fo50_0 (i := 0) rfl (isPtr_pv _ _)) ?_
  refine JD_v [1] (wn rfl) rfl rfl (OpV.loadF rfl rfl sh3 (i := 0) rfl (reads_pv _ _) rfl) ?_
  refine JD_x [] [2] (fun lG => ((lG.getD 0 []).getD 0 undef)) [⟨some 2, some 5, [2], fun lG => Cr ((lG.getD 0 []).getD 0 undef) 0 []⟩] (wn rfl) rfl rfl rfl (fun G => by refine OpX.n3 (A' := []) (V' := fun g => (g.getD 0 undef)) (B' := fun g => [Cr (g.getD 0 undef) 0 []]) (by kernel_rfl) (by kernel_rfl) (by kernel_rfl) ?_; refine OpX.postR (OpX.ofA (by intro _ _ h; cases h) (OpA.buildSlice0 rfl sl48)) (fun g => ?_); exact Ent.take (is := [0]) rfl) ?_
  refine JD_v [1] (wn rfl) rfl rfl (OpV.fieldAddr rfl rfl fo50_1 (i := 0) rfl (isPtr_pv _ _)) ?_
  refine JD_v [1] (wn rfl) rfl rfl (OpV.loadF rfl rfl sh48 (i := 0) rfl (reads_pv _ _) rfl) ?_
  refine JD_x [4, 5] [5] (fun lG => ((lG.getD 0 []).getD 0 undef)) [⟨some 5, none, [5], fun lG => os (((lG.getD 0 []).getD 0 undef)) (s.Words : List (BitVec 64))⟩] (wn rfl) rfl rfl rfl (fun G => by refine OpX.n3 (A' := [sl (.slice sa1 s.Words.length sk1) (s.Words : List (BitVec 64)), Cr ((G 2).getD 0 undef) 0 []]) (V' := fun g => (g.getD 0 undef)) (B' := fun g => [sl (.slice sa1 s.Words.length sk1) (s.Words : List (BitVec 64)), os ((g.getD 0 undef)) (s.Words : List (BitVec 64))]) (by kernel_rfl) (by kernel_rfl) (by kernel_rfl) ?_; refine OpX.pre [1] rfl (Ent.crNil (α := BitVec 64) _) ?_; refine OpX.seeL (L' := [(8, ((G 2).getD 0 undef)), (10, .slice sa1 s.Words.length sk1)]) (Env.sub_all (by kernel_rfl)) ?_; refine OpX.postR (OpX.ofA (by intro _ _ h; cases h) (OpA.frame [0, 0] rfl (OpA.app0 (α := BitVec 64) (ys := s.Words) rfl rfl rfl sl48 sl48 sz48 rfl rfl rfl (by show _ * 8 ≤ 140737488355328; first | omega | (simp only [lens]; omega) | (simp only [lens] at *; omega))))) (fun g => ?_); exact Ent.take (is := [1, 0]) rfl) ?_
  refine JD_x [6] [5] (fun lG => .agg #[.int .i64 s.Width, ((lG.getD 0 []).getD 0 undef)]) [] (wn rfl) rfl rfl rfl (fun G => by refine OpX.n3 (A' := [os (((G 5).getD 0 undef)) (s.Words : List (BitVec 64))]) (V' := fun g => .agg #[.int .i64 s.Width, ((G 5).getD 0 undef)]) (B' := fun g => [os (((G 5).getD 0 undef)) (s.Words : List (BitVec 64))]) (by kernel_rfl) (by kernel_rfl) (by kernel_rfl) ?_; refine OpX.seeL (L' := [(7, .int .i64 s.Width), (11, ((G 5).getD 0 undef))]) (Env.sub_all (by kernel_rfl)) ?_; refine OpX.open 0 rfl os_slice ?_; intro aq9 kq10 eq11; rw [eq11]; refine OpX.postR (OpX.ofV (by intro _ _ h; cases h) (OpV.build (rs := #[.int .i64 s.Width, .slice aq9 ((s.Words : List (BitVec 64)).length) kq10]) rfl st50 (Env.evp_map rfl) rfl)) (fun g => ?_); exact Ent.take (is := [0]) rfl) ?_
  refine JD_x [] [7] (fun lG => ((lG.getD 0 []).getD 0 undef)) [⟨some 7, some 8, [7], fun lG => Cl ((lG.getD 0 []).getD 0 undef) [.int .i64 0, .slice none 0 0]⟩] (wn rfl) rfl rfl rfl (fun G => by refine OpX.n3 (A' := []) (V' := fun g => (g.getD 0 undef)) (B' := fun g => [Cl (g.getD 0 undef) [.int .i64 0, .slice none 0 0]]) (by kernel_rfl) (by kernel_rfl) (by kernel_rfl) ?_; refine OpX.postR (OpX.ofA (by intro _ _ h; cases h) (OpA.alloc rfl ze50)) (fun g => ?_); exact Ent.take (is := [0]) rfl) ?_
  refine JD_x0 [6, 7] [⟨some 8, none, [5, 7], fun lG => Cl ((lG.getD 1 []).getD 0 undef) [.int .i64 s.Width, ((lG.getD 0 []).getD 0 undef)]⟩] (wn rfl) rfl rfl rfl (fun G => by refine OpX.n3 (A' := [os (((G 5).getD 0 undef)) (s.Words : List (BitVec 64)), Cl ((G 7).getD 0 undef) [.int .i64 0, .slice none 0 0]]) (V' := fun g => undef) (B' := fun g => [os (((G 5).getD 0 undef)) (s.Words : List (BitVec 64)), Cl ((G 7).getD 0 undef) [.int .i64 s.Width, ((G 5).getD 0 undef)]]) (by kernel_rfl) (by kernel_rfl) (by kernel_rfl) ?_; refine OpX.fact 0 rfl os_one ?_; intro ho12; refine OpX.seeL (L' := [(5, ((G 7).getD 0 undef)), (12, .agg #[.int .i64 s.Width, ((G 5).getD 0 undef)])]) (Env.sub_all (by kernel_rfl)) ?_; refine OpX.postR (OpX.ofS (by intro _ _ h; cases h) rfl (OpS.frame [1] rfl (OpS.storeCl [.int .i64 s.Width, ((G 5).getD 0 undef)] [.int .i64 s.Width, ((G 5).getD 0 undef)] rfl rfl rfl sh50 rfl rfl (by simp only [List.all_cons, List.all_nil, ho12, Bool.and_true, Bool.true_and] <;> rfl) (Nat.le_of_ble_eq_true rfl) rfl))) (fun g => ?_); exact Ent.take (is := [1, 0]) rfl) ?_
  refine JD_nil ⟨by kernel_rfl, fun G => ?_⟩
  refine JJ_weaken (L' := [(0, tP), (4, p5), (5, ((G 7).getD 0 undef))]) (A' := [Cl p5 [.int .i64 0, .slice none 0 0], pv p4 [.int .i64 s.Width, .slice sa1 s.Words.length sk1], Cl tP [.slice ta tT.length tk, .int .i64 tI], sl (.slice ta tT.length tk) (tT : List Int), sl (.slice sa1 s.Words.length sk1) (s.Words : List (BitVec 64)), os (((G 5).getD 0 undef)) (s.Words : List (BitVec 64)), Cl ((G 7).getD 0 undef) [.int .i64 s.Width, ((G 5).getD 0 undef)]]) (Env.sub_all (by kernel_rfl)) (Ent.of_eq (by kernel_rfl)) ?_
  generalize ((G 5).getD 0 undef) = c7
  generalize ((G 7).getD 0 undef) = p8
  refine JJ_slice 5 rfl os_slice ?_
  rintro a13 k14 rfl
  refine JK_seq ?_
  refine JK_seq ?_
  refine JK_region ?_
  refine JO_q rfl rfl rfl (OpV.move rfl rfl) ?_
  refine letv (Tape_Next tT tI 4) fun rv15 hg16 => ?_
  have hc17 := fn8 tP ta tk tT tI 4 (by (try dsimp only) <;> first | (unfold i64ok; omega) | omega | assumption) (by (try dsimp only) <;> first | (unfold i64ok; omega) | omega | assumption) rv15 hg16
  refine JO_call [2, 2] rfl rfl rfl (OpC.fn rfl ca8 rfl) (hc17) rfl ?_
  rintro - ⟨he18, he19, he20⟩
  have he18 : -9223372036854775808 ≤ rv15.1 ∧ rv15.1 ≤ 9223372036854775807 := he18
  refine JO_nil ?_
  refine JK_block ?_
  refine JK_seq ?_
  refine JK_region ?_
  refine JO_q rfl rfl rfl (OpV.eql rfl rfl rfl) ?_
  refine JO_q rfl rfl rfl (OpV.assign rfl rfl) ?_
  refine JO_nil ?_
  refine JK_cond (b := (rv15.1 == 0)) rfl (fun (h21 : (rv15.1 == 0) = true) => ?_) (fun (h21 : (rv15.1 == 0) = false) => ?_)
  · skip
    have g22 : rv15.1 = 0 := eq_of_beq h21
    refine JJ_fact 6 rfl isP_Cl ?_
    intro hp23
    refine JJ_addFact hp23 ?_
    refine letv (Tape_Next tT rv15.2 5) fun rv24 hg25 => ?_
    refine JK_drawJ [0, 1, 0, 4, 12, 31, 63, 127] [none, some 3, none, none, none, none, none, some 7] fmix ?_
    refine JD_v [0] (wn rfl) rfl rfl (OpV.fieldAddr rfl rfl fo50_0 (i := 0) rfl (isPtr_fact _)) ?_
    refine JD_v [7] (wn rfl) rfl rfl (OpV.loadF rfl rfl sh3 (i := 0) rfl (reads_Cl _ _) rfl) ?_
    refine JD_v [] (wn rfl) rfl rfl (OpV.move rfl rfl) ?_
    refine JD_x [1, 4] [] (fun lG => .int .i64 rv24.1) [⟨some 3, none, [], fun lG => SP.fact (i64ok rv24.1 ∧ (0 ≤ rv24.2 ∧ rv24.2 ≤ (tT.length : Int)) ∧ (0 ≤ rv24.1 ∧ (rv24.1 < 5 ∨ rv24.1 = 0)))⟩, ⟨some 3, none, [], fun lG => Cl tP [.slice ta tT.length tk, .int .i64 rv24.2]⟩] (wn rfl) rfl rfl rfl (fun G => by refine OpX.n3 (A' := [Cl tP [.slice ta tT.length tk, .int .i64 rv15.2], sl (.slice ta tT.length tk) (tT : List Int)]) (V' := fun g => .int .i64 rv24.1) (B' := fun g => [sl (.slice ta tT.length tk) (tT : List Int), SP.fact (i64ok rv24.1 ∧ (0 ≤ rv24.2 ∧ rv24.2 ≤ (tT.length : Int)) ∧ (0 ≤ rv24.1 ∧ (rv24.1 < 5 ∨ rv24.1 = 0))), Cl tP [.slice ta tT.length tk, .int .i64 rv24.2]]) (by kernel_rfl) (by kernel_rfl) (by kernel_rfl) ?_; refine OpX.postR (OpX.frame [0, 0] rfl (OpX.ofC (fun _ => []) (fun _ => ()) (fun _ => rfl) (by intro _ _ h; cases h) (OpC.fn rfl ca8 rfl) (fn8 tP ta tk tT rv15.2 5 (by (try dsimp only) <;> first | (unfold i64ok; omega) | omega | assumption) (by (try dsimp only) <;> first | (unfold i64ok; omega) | omega | assumption) rv24 hg25))) (fun g => ?_); exact Ent.take (is := [2, 0, 1]) rfl) ?_
    refine JD_x [8] [] (fun lG => .int .i64 (rv24.1 - 2)) [] (wn rfl) rfl rfl rfl (fun G => by refine OpX.n3 (A' := [SP.fact (i64ok rv24.1 ∧ (0 ≤ rv24.2 ∧ rv24.2 ≤ (tT.length : Int)) ∧ (0 ≤ rv24.1 ∧ (rv24.1 < 5 ∨ rv24.1 = 0)))]) (V' := fun g => .int .i64 (rv24.1 - 2)) (B' := fun g => [SP.fact (i64ok rv24.1 ∧ (0 ≤ rv24.2 ∧ rv24.2 ≤ (tT.length : Int)) ∧ (0 ≤ rv24.1 ∧ (rv24.1 < 5 ∨ rv24.1 = 0)))]) (by kernel_rfl) (by kernel_rfl) (by kernel_rfl) ?_; refine OpX.fact 0 rfl (fun h => h) ?_; rintro ⟨he26, he27, he28⟩; have he26 : -9223372036854775808 ≤ rv24.1 ∧ rv24.1 ≤ 9223372036854775807 := he26; refine OpX.postR (OpX.ofV (by intro _ _ h; cases h) (OpV.sub rfl rfl rfl (by unfold i64ok; omega))) (fun g => ?_); exact Ent.take (is := [0]) rfl) ?_
    refine JD_x [8] [] (fun lG => .int .i64 (s.Width + (rv24.1 - 2))) [] (wn rfl) rfl rfl rfl (fun G => by refine OpX.n3 (A' := [SP.fact (i64ok rv24.1 ∧ (0 ≤ rv24.2 ∧ rv24.2 ≤ (tT.length : Int)) ∧ (0 ≤ rv24.1 ∧ (rv24.1 < 5 ∨ rv24.1 = 0)))]) (V' := fun g => .int .i64 (s.Width + (rv24.1 - 2))) (B' := fun g => [SP.fact (i64ok rv24.1 ∧ (0 ≤ rv24.2 ∧ rv24.2 ≤ (tT.length : Int)) ∧ (0 ≤ rv24.1 ∧ (rv24.1 < 5 ∨ rv24.1 = 0)))]) (by kernel_rfl) (by kernel_rfl) (by kernel_rfl) ?_; refine OpX.fact 0 rfl (fun h => h) ?_; rintro ⟨he29, he30, he31⟩; have he29 : -9223372036854775808 ≤ rv24.1 ∧ rv24.1 ≤ 9223372036854775807 := he29; refine OpX.postR (OpX.ofV (by intro _ _ h; cases h) (OpV.add rfl rfl rfl (by unfold i64ok; omega))) (fun g => ?_); exact Ent.take (is := [0]) rfl) ?_
    refine JD_v [0] (wn rfl) rfl rfl (OpV.fieldAddr rfl rfl fo50_0 (i := 0) rfl (isPtr_fact _)) ?_
    refine JD_x0 [7] [⟨some 7, none, [], fun lG => Cl p8 [.int .i64 (s.Width + (rv24.1 - 2)), .slice a13 s.Words.length k14]⟩] (wn rfl) rfl rfl rfl (fun G => by refine OpX.n3 (A' := [Cl p8 [.int .i64 s.Width, .slice a13 s.Words.length k14]]) (V' := fun g => undef) (B' := fun g => [Cl p8 [.int .i64 (s.Width + (rv24.1 - 2)), .slice a13 s.Words.length k14]]) (by kernel_rfl) (by kernel_rfl) (by kernel_rfl) ?_; refine OpX.postR (OpX.ofS (by intro _ _ h; cases h) rfl (OpS.frame [0] rfl (OpS.storeClF [.int .i64 (s.Width + (rv24.1 - 2))] [.int .i64 (s.Width + (rv24.1 - 2)), .slice a13 s.Words.length k14] rfl rfl rfl sh3 rfl rfl rfl (Nat.le_of_ble_eq_true rfl) rfl))) (fun g => ?_); exact Ent.take (is := [0]) rfl) ?_
    refine JD_nil ⟨by kernel_rfl, fun G => ?_⟩
    refine JJ_weaken (L' := [(4, p5), (5, p8)]) (A' := [SP.fact (isP p8), Cl p5 [.int .i64 0, .slice none 0 0], pv p4 [.int .i64 s.Width, .slice sa1 s.Words.length sk1], sl (.slice ta tT.length tk) (tT : List Int), sl (.slice sa1 s.Words.length sk1) (s.Words : List (BitVec 64)), os (.slice a13 s.Words.length k14) (s.Words : List (BitVec 64)), SP.fact (i64ok rv24.1 ∧ (0 ≤ rv24.2 ∧ rv24.2 ≤ (tT.length : Int)) ∧ (0 ≤ rv24.1 ∧ (rv24.1 < 5 ∨ rv24.1 = 0))), Cl tP [.slice ta tT.length tk, .int .i64 rv24.2], Cl p8 [.int .i64 (s.Width + (rv24.1 - 2)), .slice a13 s.Words.length k14]]) (Env.sub_all (by kernel_rfl)) (Ent.of_eq (by kernel_rfl)) ?_
    refine JJ_fact 6 rfl (fun h => h) ?_
    rintro ⟨he32, he33, he34⟩
    have he32 : -9223372036854775808 ≤ rv24.1 ∧ rv24.1 ≤ 9223372036854775807 := he32
    refine JJ_keep [1, 1, 2, 3, 4, 5, 5] rfl ?_
    refine JK_blk ?_
    refine JK_seq ?_
    refine JK_region ?_
    refine JO_q rfl rfl rfl (OpV.loadA rfl rfl sh50 (i := 6) rfl (reads_Cl _ _) rfl) ?_
    refine JO_store rfl rfl (OpS.frame [0] rfl (OpS.storeCl [.int .i64 (s.Width + (rv24.1 - 2)), .slice a13 s.Words.length k14] [.int .i64 (s.Width + (rv24.1 - 2)), .slice a13 s.Words.length k14] rfl rfl rfl sh50 rfl rfl rfl (Nat.le_of_ble_eq_true rfl) rfl)) ?_
    refine JO_nil ?_
    refine JJ_loc [4] rfl (Ent.freeze _ _) ?_
    have hq : rr = ((GSet.mk (s.Width + (rv24.1 - 2)) s.Words), rv24.2) := hrr.symm.trans (by simp only [Tape_SpoilSet, h21, hg16, hg25, cs4])
    replace hrr := hrr.trans hq
    subst rr
    refine JK_return (.slice a13 s.Words.length k14) rfl (.cellN 1 rfl sh50 rfl (reads_Cl _ _) rfl .nil) rfl ⟨(by (try dsimp only) <;> first | (unfold i64ok; omega) | exact getD_all (p := i64ok) (by intro x hx; simp only [List.mem_cons, List.not_mem_nil, or_false] at hx; unfold i64ok; omega) (by unfold i64ok; omega) _), (by (try dsimp only) <;> first | omega | (unfold i64ok; omega) | (simp only [lens]; omega) | assumption | trivial)⟩ (Ent.take (is := [0, 5]) rfl)
  · skip
    have g35 : rv15.1 ≠ 0 := ne_of_beq_false h21
    refine JK_seq ?_
    refine JK_region ?_
    refine JO_q rfl rfl rfl (OpV.eql rfl rfl rfl) ?_
    refine JO_q rfl rfl rfl (OpV.assign rfl rfl) ?_
    refine JO_nil ?_
    refine JK_cond (b := (rv15.1 == 1)) rfl (fun (h36 : (rv15.1 == 1) = true) => ?_) (fun (h36 : (rv15.1 == 1) = false) => ?_)
    · skip
      have g37 : rv15.1 = 1 := eq_of_beq h36
      refine JJ_fact 6 rfl isP_Cl ?_
      intro hp38
      refine JJ_addFact hp38 ?_
      refine letv (Tape_Next tT rv15.2 2) fun rv39 hg40 => ?_
      have hn43 : ((s.Words ++ [(BitVec.ofInt 64 rv39.1)]) : List (BitVec 64)).length = (s.Words : List (BitVec 64)).length + ([(BitVec.ofInt 64 rv39.1)] : List (BitVec 64)).length := List.length_append
      refine JK_drawJ [0, 1, 0, 4, 12, 28, 63, 127, 255] [none, some 3, none, none, none, none, some 6, some 8] fmix ?_
      refine JD_v [0] (wn rfl) rfl rfl (OpV.fieldAddr rfl rfl fo50_1 (i := 0) rfl (isPtr_fact _)) ?_
      refine JD_v [7] (wn rfl) rfl rfl (OpV.loadF rfl rfl sh48 (i := 0) rfl (reads_Cl _ _) rfl) ?_
      refine JD_v [] (wn rfl) rfl rfl (OpV.move rfl rfl) ?_
      refine JD_x [1, 4] [] (fun lG => .int .i64 rv39.1) [⟨some 3, none, [], fun lG => SP.fact (i64ok rv39.1 ∧ (0 ≤ rv39.2 ∧ rv39.2 ≤ (tT.length : Int)) ∧ (0 ≤ rv39.1 ∧ (rv39.1 < 2 ∨ rv39.1 = 0)))⟩, ⟨some 3, none, [], fun lG => Cl tP [.slice ta tT.length tk, .int .i64 rv39.2]⟩] (wn rfl) rfl rfl rfl (fun G => by refine OpX.n3 (A' := [Cl tP [.slice ta tT.length tk, .int .i64 rv15.2], sl (.slice ta tT.length tk) (tT : List Int)]) (V' := fun g => .int .i64 rv39.1) (B' := fun g => [sl (.slice ta tT.length tk) (tT : List Int), SP.fact (i64ok rv39.1 ∧ (0 ≤ rv39.2 ∧ rv39.2 ≤ (tT.length : Int)) ∧ (0 ≤ rv39.1 ∧ (rv39.1 < 2 ∨ rv39.1 = 0))), Cl tP [.slice ta tT.length tk, .int .i64 rv39.2]]) (by kernel_rfl) (by kernel_rfl) (by kernel_rfl) ?_; refine OpX.postR (OpX.frame [0, 0] rfl (OpX.ofC (fun _ => []) (fun _ => ()) (fun _ => rfl) (by intro _ _ h; cases h) (OpC.fn rfl ca8 rfl) (fn8 tP ta tk tT rv15.2 2 (by (try dsimp only) <;> first | (unfold i64ok; omega) | omega | assumption) (by (try dsimp only) <;> first | (unfold i64ok; omega) | omega | assumption) rv39 hg40))) (fun g => ?_); exact Ent.take (is := [2, 0, 1]) rfl) ?_
      refine JD_v [] (wn rfl) rfl rfl (OpV.convU rfl un3 un72 rfl) ?_
      refine JD_x [] [5] (fun lG => ((lG.getD 0 []).getD 0 undef)) [⟨some 5, some 6, [5], fun lG => Cr ((lG.getD 0 []).getD 0 undef) 1 [u64 (BitVec.ofInt 64 rv39.1)]⟩] (wn rfl) rfl rfl rfl (fun G => by refine OpX.n3 (A' := []) (V' := fun g => (g.getD 0 undef)) (B' := fun g => [Cr (g.getD 0 undef) 1 [u64 (BitVec.ofInt 64 rv39.1)]]) (by kernel_rfl) (by kernel_rfl) (by kernel_rfl) ?_; refine OpX.postR (OpX.ofA (by intro _ _ h; cases h) (OpA.buildSliceV [u64 (BitVec.ofInt 64 rv39.1)] [u64 (BitVec.ofInt 64 rv39.1)] rfl sl48 sz48 rfl (Env.evp_map rfl) rfl rfl rfl rfl)) (fun g => ?_); exact Ent.take (is := [0]) rfl) ?_
      refine JD_x [6, 8, 10] [6] (fun lG => ((lG.getD 0 []).getD 0 undef)) [⟨some 6, none, [6], fun lG => os (((lG.getD 0 []).getD 0 undef)) ((s.Words ++ [(BitVec.ofInt 64 rv39.1)]) : List (BitVec 64))⟩] (wn rfl) rfl rfl rfl (fun G => by refine OpX.n3 (A' := [os (.slice a13 s.Words.length k14) (s.Words : List (BitVec 64)), SP.fact (i64ok rv39.1 ∧ (0 ≤ rv39.2 ∧ rv39.2 ≤ (tT.length : Int)) ∧ (0 ≤ rv39.1 ∧ (rv39.1 < 2 ∨ rv39.1 = 0))), Cr ((G 5).getD 0 undef) 1 [u64 (BitVec.ofInt 64 rv39.1)]]) (V' := fun g => (g.getD 0 undef)) (B' := fun g => [SP.fact (i64ok rv39.1 ∧ (0 ≤ rv39.2 ∧ rv39.2 ≤ (tT.length : Int)) ∧ (0 ≤ rv39.1 ∧ (rv39.1 < 2 ∨ rv39.1 = 0))), os ((g.getD 0 undef)) ((s.Words ++ [(BitVec.ofInt 64 rv39.1)]) : List (BitVec 64))]) (by kernel_rfl) (by kernel_rfl) (by kernel_rfl) ?_; refine OpX.fact 1 rfl (fun h => h) ?_; rintro ⟨he44, he45, he46⟩; have he44 : -9223372036854775808 ≤ rv39.1 ∧ rv39.1 ≤ 9223372036854775807 := he44; refine OpX.pre [2] rfl (Ent.cr1 (α := BitVec 64) (A := []) _ (BitVec.ofInt 64 rv39.1) _ (Nat.le_of_ble_eq_true rfl) (fun _ => rfl)) ?_; refine OpX.seeL (L' := [(33, .slice a13 s.Words.length k14), (37, ((G 5).getD 0 undef))]) (Env.sub_all (by kernel_rfl)) ?_; refine OpX.postR (OpX.ofA (by intro _ _ h; cases h) (OpA.frame [1, 0] rfl (OpA.appO (α := BitVec 64) (xs := s.Words) (ys := [(BitVec.ofInt 64 rv39.1)]) rfl rfl rfl sl48 sl48 sz48 rfl rfl rfl (by show (_ + _) * 8 ≤ 140737488355328; first | omega | (simp only [lens]; omega) | (simp only [lens] at *; omega))))) (fun g => ?_); exact Ent.take (is := [1, 0]) rfl) ?_
      refine JD_v [0] (wn rfl) rfl rfl (OpV.fieldAddr rfl rfl fo50_1 (i := 0) rfl (isPtr_fact _)) ?_
      refine JD_x0 [7, 11] [⟨some 8, none, [6], fun lG => Cl p8 [.int .i64 s.Width, ((lG.getD 0 []).getD 0 undef)]⟩] (wn rfl) rfl rfl rfl (fun G => by refine OpX.n3 (A' := [Cl p8 [.int .i64 s.Width, .slice a13 s.Words.length k14], os (((G 6).getD 0 undef)) ((s.Words ++ [(BitVec.ofInt 64 rv39.1)]) : List (BitVec 64))]) (V' := fun g => undef) (B' := fun g => [os (((G 6).getD 0 undef)) ((s.Words ++ [(BitVec.ofInt 64 rv39.1)]) : List (BitVec 64)), Cl p8 [.int .i64 s.Width, ((G 6).getD 0 undef)]]) (by kernel_rfl) (by kernel_rfl) (by kernel_rfl) ?_; refine OpX.fact 1 rfl os_one ?_; intro ho47; refine OpX.seeL (L' := [(38, ((G 6).getD 0 undef)), (39, fptr p8 1)]) (Env.sub_all (by kernel_rfl)) ?_; refine OpX.postR (OpX.ofS (by intro _ _ h; cases h) rfl (OpS.frame [0] rfl (OpS.storeClF [((G 6).getD 0 undef)] [.int .i64 s.Width, ((G 6).getD 0 undef)] rfl rfl rfl sh48 (cells_of_one ho47) rfl (by simp only [List.all_cons, List.all_nil, ho47, Bool.and_true, Bool.true_and] <;> rfl) (Nat.le_of_ble_eq_true rfl) rfl))) (fun g => ?_); exact Ent.take (is := [1, 0]) rfl) ?_
      refine JD_nil ⟨by kernel_rfl, fun G => ?_⟩
      refine JJ_weaken (L' := [(4, p5), (5, p8)]) (A' := [SP.fact (isP p8), Cl p5 [.int .i64 0, .slice none 0 0], pv p4 [.int .i64 s.Width, .slice sa1 s.Words.length sk1], sl (.slice ta tT.length tk) (tT : List Int), sl (.slice sa1 s.Words.length sk1) (s.Words : List (BitVec 64)), SP.fact (i64ok rv39.1 ∧ (0 ≤ rv39.2 ∧ rv39.2 ≤ (tT.length : Int)) ∧ (0 ≤ rv39.1 ∧ (rv39.1 < 2 ∨ rv39.1 = 0))), Cl tP [.slice ta tT.length tk, .int .i64 rv39.2], os (((G 6).getD 0 undef)) ((s.Words ++ [(BitVec.ofInt 64 rv39.1)]) : List (BitVec 64)), Cl p8 [.int .i64 s.Width, ((G 6).getD 0 undef)]]) (Env.sub_all (by kernel_rfl)) (Ent.of_eq (by kernel_rfl)) ?_
      generalize ((G 6).getD 0 undef) = c42
      refine JJ_fact 5 rfl (fun h => h) ?_
      rintro ⟨he48, he49, he50⟩
      have he48 : -9223372036854775808 ≤ rv39.1 ∧ rv39.1 ≤ 9223372036854775807 := he48
      refine JJ_keep [1, 1, 2, 3, 5, 5, 5] rfl ?_
      refine JJ_slice 5 rfl os_slice ?_
      rintro a51 k52 rfl
      refine JJ_fact 5 rfl os_bytes ?_
      intro hl53
      have hl53 : (s.Words ++ [(BitVec.ofInt 64 rv39.1)]).length * 8 ≤ 140737488355328 := hl53
      refine JK_blk ?_
      refine JK_seq ?_
      refine JK_region ?_
      refine JO_q rfl rfl rfl (OpV.loadA rfl rfl sh50 (i := 6) rfl (reads_Cl _ _) rfl) ?_
      refine JO_store rfl rfl (OpS.frame [0] rfl (OpS.storeCl [.int .i64 s.Width, .slice a51 ((s.Words ++ [(BitVec.ofInt 64 rv39.1)]).length) k52] [.int .i64 s.Width, .slice a51 ((s.Words ++ [(BitVec.ofInt 64 rv39.1)]).length) k52] rfl rfl rfl sh50 rfl rfl rfl (Nat.le_of_ble_eq_true rfl) rfl)) ?_
      refine JO_nil ?_
      refine JJ_loc [5] rfl (Ent.freeze _ _) ?_
      have hq : rr = ((GSet.mk s.Width (s.Words ++ [(BitVec.ofInt 64 rv39.1)])), rv39.2) := hrr.symm.trans (by simp only [Tape_SpoilSet, h21, h36, hg16, hg40, cs4])
      replace hrr := hrr.trans hq
      subst rr
      refine JK_return (.slice a51 ((s.Words ++ [(BitVec.ofInt 64 rv39.1)]).length) k52) rfl (.cellN 1 rfl sh50 rfl (reads_Cl _ _) rfl .nil) rfl ⟨(by (try dsimp only) <;> first | (unfold i64ok; omega) | exact getD_all (p := i64ok) (by intro x hx; simp only [List.mem_cons, List.not_mem_nil, or_false] at hx; unfold i64ok; omega) (by unfold i64ok; omega) _), (by (try dsimp only) <;> first | omega | (unfold i64ok; omega) | (simp only [lens]; omega) | assumption | trivial)⟩ (Ent.take (is := [0, 5]) rfl)
    · skip
      have g54 : rv15.1 ≠ 1 := ne_of_beq_false h36
      refine JK_seq ?_
      refine JK_region ?_
      refine JO_q rfl rfl rfl (OpV.eql rfl rfl rfl) ?_
      refine JO_q rfl rfl rfl (OpV.assign rfl rfl) ?_
      refine JO_nil ?_
      refine JK_cond (b := (rv15.1 == 2)) rfl (fun (h55 : (rv15.1 == 2) = true) => ?_) (fun (h55 : (rv15.1 == 2) = false) => ?_)
      · skip
        have g56 : rv15.1 = 2 := eq_of_beq h55
        refine JK_seq ?_
        refine JK_region ?_
        refine JO_q rfl rfl rfl (OpV.fieldAddr rfl rfl fo50_1 (i := 6) rfl (isPtr_Cl _ _)) ?_
        refine JO_q rfl rfl rfl (OpV.loadF rfl rfl sh48 (i := 6) rfl (reads_Cl _ _) rfl) ?_
        refine JO_q rfl rfl rfl (OpV.len rfl rfl sl48) ?_
        refine JO_q rfl rfl rfl (OpV.gtr rfl rfl rfl) ?_
        refine JO_nil ?_
        refine JK_cond (b := decide (0 < ((s.Words.length : Nat) : Int))) rfl (fun (h57 : decide (0 < ((s.Words.length : Nat) : Int)) = true) => ?_) (fun (h57 : decide (0 < ((s.Words.length : Nat) : Int)) = false) => ?_)
        · skip
          have g58 : (0 < ((s.Words.length : Nat) : Int)) := of_decide_eq_true h57
          refine JJ_fact 6 rfl isP_Cl ?_
          intro hp59
          refine JJ_addFact hp59 ?_
          refine letv (Tape_Next tT rv15.2 64) fun rv60 hg61 => ?_
          refine JK_drawJ [0, 1, 0, 4, 12, 28, 63, 127, 0, 256, 768, 1792, 4095, 8191, 16383] [none, some 9, none, none, none, none, some 14] fmix ?_
          refine JD_v [0] (wn rfl) rfl rfl (OpV.fieldAddr rfl rfl fo50_1 (i := 0) rfl (isPtr_fact _)) ?_
          refine JD_v [7] (wn rfl) rfl rfl (OpV.loadF rfl rfl sh48 (i := 0) rfl (reads_Cl _ _) rfl) ?_
          refine JD_v [0] (wn rfl) rfl rfl (OpV.fieldAddr rfl rfl fo50_1 (i := 0) rfl (isPtr_fact _)) ?_
          refine JD_v [7] (wn rfl) rfl rfl (OpV.loadF rfl rfl sh48 (i := 0) rfl (reads_Cl _ _) rfl) ?_
          refine JD_v [] (wn rfl) rfl rfl (OpV.len rfl rfl sl48) ?_
          refine JD_v [] (wn rfl) rfl rfl (OpV.sub rfl rfl rfl (by unfold i64ok; omega)) ?_
          refine JD_v [6] (wn rfl) rfl rfl (OpV.indexAddr (m := 0) rfl rfl rfl sl48 rfl (isSl_os _ _) (by first | omega | (simp only [lens]; omega) | (simp only [lens] at *; omega))) ?_
          refine JD_v [6] (wn rfl) rfl rfl (OpV.load rfl rfl sh72 (i := 0) rfl (reads_os _ _ _ 0#64 (by first | omega | (simp only [lens]; omega) | (simp only [lens] at *; omega))) rfl) ?_
          refine JD_v [] (wn rfl) rfl rfl (OpV.move rfl rfl) ?_
          refine JD_x [1, 4] [] (fun lG => .int .i64 rv60.1) [⟨some 9, none, [], fun lG => SP.fact (i64ok rv60.1 ∧ (0 ≤ rv60.2 ∧ rv60.2 ≤ (tT.length : Int)) ∧ (0 ≤ rv60.1 ∧ (rv60.1 < 64 ∨ rv60.1 = 0)))⟩, ⟨some 9, none, [], fun lG => Cl tP [.slice ta tT.length tk, .int .i64 rv60.2]⟩] (wn rfl) rfl rfl rfl (fun G => by refine OpX.n3 (A' := [Cl tP [.slice ta tT.length tk, .int .i64 rv15.2], sl (.slice ta tT.length tk) (tT : List Int)]) (V' := fun g => .int .i64 rv60.1) (B' := fun g => [sl (.slice ta tT.length tk) (tT : List Int), SP.fact (i64ok rv60.1 ∧ (0 ≤ rv60.2 ∧ rv60.2 ≤ (tT.length : Int)) ∧ (0 ≤ rv60.1 ∧ (rv60.1 < 64 ∨ rv60.1 = 0))), Cl tP [.slice ta tT.length tk, .int .i64 rv60.2]]) (by kernel_rfl) (by kernel_rfl) (by kernel_rfl) ?_; refine OpX.postR (OpX.frame [0, 0] rfl (OpX.ofC (fun _ => []) (fun _ => ()) (fun _ => rfl) (by intro _ _ h; cases h) (OpC.fn rfl ca8 rfl) (fn8 tP ta tk tT rv15.2 64 (by (try dsimp only) <;> first | (unfold i64ok; omega) | omega | assumption) (by (try dsimp only) <;> first | (unfold i64ok; omega) | omega | assumption) rv60 hg61))) (fun g => ?_); exact Ent.take (is := [2, 0, 1]) rfl) ?_
          refine JD_v [] (wn rfl) rfl rfl (OpV.convU rfl un3 un71 rfl) ?_
          refine JD_x [8] [] (fun lG => u64 (1#64 <<< (((BitVec.ofInt 64 rv60.1).toNat : Int)).toNat)) [] (wn rfl) rfl rfl rfl (fun G => by refine OpX.n3 (A' := [SP.fact (i64ok rv60.1 ∧ (0 ≤ rv60.2 ∧ rv60.2 ≤ (tT.length : Int)) ∧ (0 ≤ rv60.1 ∧ (rv60.1 < 64 ∨ rv60.1 = 0)))]) (V' := fun g => u64 (1#64 <<< (((BitVec.ofInt 64 rv60.1).toNat : Int)).toNat)) (B' := fun g => [SP.fact (i64ok rv60.1 ∧ (0 ≤ rv60.2 ∧ rv60.2 ≤ (tT.length : Int)) ∧ (0 ≤ rv60.1 ∧ (rv60.1 < 64 ∨ rv60.1 = 0)))]) (by kernel_rfl) (by kernel_rfl) (by kernel_rfl) ?_; refine OpX.fact 0 rfl (fun h => h) ?_; rintro ⟨he62, he63, he64⟩; have he62 : -9223372036854775808 ≤ rv60.1 ∧ rv60.1 ≤ 9223372036854775807 := he62; refine OpX.postR (OpX.ofV (by intro _ _ h; cases h) (OpV.shlU (a := 1#64) (n := ((BitVec.ofInt 64 rv60.1).toNat : Int)) rfl rfl rfl (by omega))) (fun g => ?_); exact Ent.take (is := [0]) rfl) ?_
          refine JD_v [] (wn rfl) rfl rfl (OpV.orU (a := (s.Words.getD ((((s.Words.length : Nat) : Int) - 1) : Int).toNat 0#64)) (b := (1#64 <<< (((BitVec.ofInt 64 rv60.1).toNat : Int)).toNat)) rfl rfl rfl) ?_
          refine JD_x [6, 8] [] (fun lG => (eptr 1 (.slice a13 s.Words.length k14) ((((s.Words.length : Nat) : Int) - 1) : Int).toNat)) [] (wn rfl) rfl rfl rfl (fun G => by refine OpX.n3 (A' := [os (.slice a13 s.Words.length k14) (s.Words : List (BitVec 64)), SP.fact (i64ok rv60.1 ∧ (0 ≤ rv60.2 ∧ rv60.2 ≤ (tT.length : Int)) ∧ (0 ≤ rv60.1 ∧ (rv60.1 < 64 ∨ rv60.1 = 0)))]) (V' := fun g => (eptr 1 (.slice a13 s.Words.length k14) ((((s.Words.length : Nat) : Int) - 1) : Int).toNat)) (B' := fun g => [os (.slice a13 s.Words.length k14) (s.Words : List (BitVec 64)), SP.fact (i64ok rv60.1 ∧ (0 ≤ rv60.2 ∧ rv60.2 ≤ (tT.length : Int)) ∧ (0 ≤ rv60.1 ∧ (rv60.1 < 64 ∨ rv60.1 = 0)))]) (by kernel_rfl) (by kernel_rfl) (by kernel_rfl) ?_; refine OpX.fact 1 rfl (fun h => h) ?_; rintro ⟨he65, he66, he67⟩; have he65 : -9223372036854775808 ≤ rv60.1 ∧ rv60.1 ≤ 9223372036854775807 := he65; refine OpX.postR (OpX.ofV (by intro _ _ h; cases h) (OpV.indexAddr (m := 0) rfl rfl rfl sl48 rfl (isSl_os _ _) (by first | omega | (simp only [lens]; omega) | (simp only [lens] at *; omega)))) (fun g => ?_); exact Ent.take (is := [0, 0]) rfl) ?_
          refine JD_x0 [6, 8] [⟨some 14, none, [], fun lG => os (.slice a13 s.Words.length k14) ((s.Words.set ((((s.Words.length : Nat) : Int) - 1) : Int).toNat ((s.Words.getD ((((s.Words.length : Nat) : Int) - 1) : Int).toNat 0#64) ||| (1#64 <<< (((BitVec.ofInt 64 rv60.1).toNat : Int)).toNat))) : List (BitVec 64))⟩] (wn rfl) rfl rfl rfl (fun G => by refine OpX.n3 (A' := [os (.slice a13 s.Words.length k14) (s.Words : List (BitVec 64)), SP.fact (i64ok rv60.1 ∧ (0 ≤ rv60.2 ∧ rv60.2 ≤ (tT.length : Int)) ∧ (0 ≤ rv60.1 ∧ (rv60.1 < 64 ∨ rv60.1 = 0)))]) (V' := fun g => undef) (B' := fun g => [SP.fact (i64ok rv60.1 ∧ (0 ≤ rv60.2 ∧ rv60.2 ≤ (tT.length : Int)) ∧ (0 ≤ rv60.1 ∧ (rv60.1 < 64 ∨ rv60.1 = 0))), os (.slice a13 s.Words.length k14) ((s.Words.set ((((s.Words.length : Nat) : Int) - 1) : Int).toNat ((s.Words.getD ((((s.Words.length : Nat) : Int) - 1) : Int).toNat 0#64) ||| (1#64 <<< (((BitVec.ofInt 64 rv60.1).toNat : Int)).toNat))) : List (BitVec 64))]) (by kernel_rfl) (by kernel_rfl) (by kernel_rfl) ?_; refine OpX.fact 1 rfl (fun h => h) ?_; rintro ⟨he68, he69, he70⟩; have he68 : -9223372036854775808 ≤ rv60.1 ∧ rv60.1 ≤ 9223372036854775807 := he68; refine OpX.postR (OpX.ofS (by intro _ _ h; cases h) rfl (OpS.frame [0] rfl (OpS.storeOsU rfl rfl rfl sh72 (by first | omega | (simp only [lens]; omega) | (simp only [lens] at *; omega))))) (fun g => ?_); exact Ent.take (is := [1, 0]) rfl) ?_
          refine JD_nil ⟨by kernel_rfl, fun G => ?_⟩
          refine JJ_weaken (L' := [(4, p5), (5, p8)]) (A' := [SP.fact (isP p8), Cl p5 [.int .i64 0, .slice none 0 0], pv p4 [.int .i64 s.Width, .slice sa1 s.Words.length sk1], sl (.slice ta tT.length tk) (tT : List Int), sl (.slice sa1 s.Words.length sk1) (s.Words : List (BitVec 64)), Cl p8 [.int .i64 s.Width, .slice a13 s.Words.length k14], SP.fact (i64ok rv60.1 ∧ (0 ≤ rv60.2 ∧ rv60.2 ≤ (tT.length : Int)) ∧ (0 ≤ rv60.1 ∧ (rv60.1 < 64 ∨ rv60.1 = 0))), Cl tP [.slice ta tT.length tk, .int .i64 rv60.2], os (.slice a13 s.Words.length k14) ((s.Words.set ((((s.Words.length : Nat) : Int) - 1) : Int).toNat ((s.Words.getD ((((s.Words.length : Nat) : Int) - 1) : Int).toNat 0#64) ||| (1#64 <<< (((BitVec.ofInt 64 rv60.1).toNat : Int)).toNat))) : List (BitVec 64))]) (Env.sub_all (by kernel_rfl)) (Ent.of_eq (by kernel_rfl)) ?_
          refine JJ_fact 6 rfl (fun h => h) ?_
          rintro ⟨he71, he72, he73⟩
          have he71 : -9223372036854775808 ≤ rv60.1 ∧ rv60.1 ≤ 9223372036854775807 := he71
          refine JJ_keep [1, 1, 2, 3, 4, 5, 5] rfl ?_
          refine JK_blk ?_
          refine JK_seq ?_
          refine JK_region ?_
          refine JO_q rfl rfl rfl (OpV.loadA rfl rfl sh50 (i := 4) rfl (reads_Cl _ _) rfl) ?_
          refine JO_store rfl rfl (OpS.frame [0] rfl (OpS.storeCl [.int .i64 s.Width, .slice a13 s.Words.length k14] [.int .i64 s.Width, .slice a13 s.Words.length k14] rfl rfl rfl sh50 rfl rfl rfl (Nat.le_of_ble_eq_true rfl) rfl)) ?_
          refine JO_nil ?_
          refine JJ_loc [6] rfl (Ent.freeze _ _) ?_
          have hq : rr = ((GSet.mk s.Width (s.Words.set ((((s.Words.length : Nat) : Int) - 1) : Int).toNat ((s.Words.getD ((((s.Words.length : Nat) : Int) - 1) : Int).toNat 0#64) ||| (1#64 <<< (((BitVec.ofInt 64 rv60.1).toNat : Int)).toNat)))), rv60.2) := hrr.symm.trans (by simp only [Tape_SpoilSet, h21, h36, h55, h57, hg16, hg61, cs4])
          replace hrr := hrr.trans hq
          subst rr
          refine JK_return (.slice a13 s.Words.length k14) rfl (.cellN 1 rfl sh50 rfl (reads_Cl _ _) rfl .nil) rfl ⟨(by (try dsimp only) <;> first | (unfold i64ok; omega) | exact getD_all (p := i64ok) (by intro x hx; simp only [List.mem_cons, List.not_mem_nil, or_false] at hx; unfold i64ok; omega) (by unfold i64ok; omega) _), (by (try dsimp only) <;> first | omega | (unfold i64ok; omega) | (simp only [lens]; omega) | assumption | trivial)⟩ (Ent.take (is := [0, 6]) rfl)
        · skip
          have g74 : ¬ (0 < ((s.Words.length : Nat) : Int)) := of_decide_eq_false h57
          refine JK_skip ?_
          refine JK_blk ?_
          refine JK_seq ?_
          refine JK_region ?_
          refine JO_q rfl rfl rfl (OpV.loadA rfl rfl sh50 (i := 6) rfl (reads_Cl _ _) rfl) ?_
          refine JO_store rfl rfl (OpS.frame [1] rfl (OpS.storeCl [.int .i64 s.Width, .slice a13 s.Words.length k14] [.int .i64 s.Width, .slice a13 s.Words.length k14] rfl rfl rfl sh50 rfl rfl rfl (Nat.le_of_ble_eq_true rfl) rfl)) ?_
          refine JO_nil ?_
          refine JJ_loc [5] rfl (Ent.freeze _ _) ?_
          have hq : rr = (s, rv15.2) := hrr.symm.trans (by simp only [Tape_SpoilSet, h21, h36, h55, h57, hg16, cs4])
          replace hrr := hrr.trans hq
          subst rr
          refine JK_return (.slice a13 s.Words.length k14) rfl (.cellN 1 rfl sh50 rfl (reads_Cl _ _) rfl .nil) rfl ⟨(by (try dsimp only) <;> first | (unfold i64ok; omega) | exact getD_all (p := i64ok) (by intro x hx; simp only [List.mem_cons, List.not_mem_nil, or_false] at hx; unfold i64ok; omega) (by unfold i64ok; omega) _), (by (try dsimp only) <;> first | omega | (unfold i64ok; omega) | (simp only [lens]; omega) | assumption | trivial)⟩ (Ent.take (is := [0, 2]) rfl)
      · skip
        have g75 : rv15.1 ≠ 2 := ne_of_beq_false h55
        refine JK_region ?_
        refine JO_act rfl rfl rfl (OpA.buildSliceV [.int .i64 (-1), .int .i64 257, .int .i64 320, .int .i64 0] [.int .i64 (-1), .int .i64 257, .int .i64 320, .int .i64 0] rfl sl22 sz22 rfl (Env.evp_map rfl) rfl rfl rfl rfl) ?_
        intro c76
        refine JJ_slice 0 rfl Cr_slice ?_
        rintro a77 k78 rfl
        refine JO_q rfl rfl rfl (OpV.move rfl rfl) ?_
        refine letv (Tape_Next tT rv15.2 4) fun rv79 hg80 => ?_
        have hc81 := fn8 tP ta tk tT rv15.2 4 (by (try dsimp only) <;> first | (unfold i64ok; omega) | omega | assumption) (by (try dsimp only) <;> first | (unfold i64ok; omega) | omega | assumption) rv79 hg80
        refine JO_call [1, 3] rfl rfl rfl (OpC.fn rfl ca8 rfl) (hc81) rfl ?_
        rintro - ⟨he82, he83, he84⟩
        have he82 : -9223372036854775808 ≤ rv79.1 ∧ rv79.1 ≤ 9223372036854775807 := he82
        refine JJ_loc [1] rfl (Ent.crInt _ [-1, 257, 320, 0] _ _ rfl rfl (by intro x hx; simp only [List.mem_cons, List.not_mem_nil, or_false] at hx; rcases hx with rfl | rfl | rfl | rfl <;> (unfold i64ok; omega)) (Nat.le_of_ble_eq_true rfl)) ?_
        refine JO_q rfl rfl rfl (OpV.indexAddr (m := 0) rfl rfl rfl sl22 rfl (isSl_os _ _) (by first | omega | (simp only [lens]; omega) | (simp only [lens] at *; omega))) ?_
        refine JO_q rfl rfl rfl (OpV.load rfl rfl sh3 (i := 0) rfl (reads_os _ _ _ 0 (by first | omega | (simp only [lens]; omega) | (simp only [lens] at *; omega))) rfl) ?_
        refine JO_q rfl rfl rfl (OpV.fieldAddr rfl rfl fo50_0 (i := 7) rfl (isPtr_Cl _ _)) ?_
        refine JO_store rfl rfl (OpS.frame [7] rfl (OpS.storeClF [.int .i64 ([-1, 257, 320, 0].getD (rv79.1 : Int).toNat 0)] [.int .i64 ([-1, 257, 320, 0].getD (rv79.1 : Int).toNat 0), .slice a13 s.Words.length k14] rfl rfl rfl sh3 rfl rfl rfl (Nat.le_of_ble_eq_true rfl) rfl)) ?_
        refine JO_nil ?_
        refine JK_blk ?_
        refine JK_seq ?_
        refine JK_region ?_
        refine JO_q rfl rfl rfl (OpV.loadA rfl rfl sh50 (i := 0) rfl (reads_Cl _ _) rfl) ?_
        refine JO_store rfl rfl (OpS.frame [3] rfl (OpS.storeCl [.int .i64 ([-1, 257, 320, 0].getD (rv79.1 : Int).toNat 0), .slice a13 s.Words.length k14] [.int .i64 ([-1, 257, 320, 0].getD (rv79.1 : Int).toNat 0), .slice a13 s.Words.length k14] rfl rfl rfl sh50 rfl rfl rfl (Nat.le_of_ble_eq_true rfl) rfl)) ?_
        refine JO_nil ?_
        refine JJ_loc [7] rfl (Ent.freeze _ _) ?_
        have hq : rr = ((GSet.mk ([-1, 257, 320, 0].getD (rv79.1 : Int).toNat 0) s.Words), rv79.2) := hrr.symm.trans (by simp only [Tape_SpoilSet, h21, h36, h55, hg16, hg80, cs4])
        replace hrr := hrr.trans hq
        subst rr
        refine JK_return (.slice a13 s.Words.length k14) rfl (.cellN 1 rfl sh50 rfl (reads_Cl _ _) rfl .nil) rfl ⟨(by (try dsimp only) <;> first | (unfold i64ok; omega) | exact getD_all (p := i64ok) (by intro x hx; simp only [List.mem_cons, List.not_mem_nil, or_false] at hx; unfold i64ok; omega) (by unfold i64ok; omega) _), (by (try dsimp only) <;> first | omega | (unfold i64ok; omega) | (simp only [lens]; omega) | assumption | trivial)⟩ (Ent.take (is := [0, 4]) rfl)
set_option maxHeartbeats 20000000 in
set_option maxRecDepth 100000 in
/- (*flowquery/flqgen.Tape).SpoilTransfer -/
theorem fn27 (tP : Value) (ta : Option Addr) (tk : Nat) (tT : List Int) (tI : Int) (f : GTransfer) (fa1 : Option Addr) (fk1 : Nat) (fa3 : Option Addr) (fk3 : Nat) (fa4 : Option Addr) (fk4 : Nat) (htI : 0 ≤ tI ∧ tI ≤ (tT.length : Int)) (hf_0 : i64ok f.Gen.Width) (hf_2 : i64ok f.Kill.Width) (hf : TrOk f) (rr : GTransfer × Int) (hrr : Tape_SpoilTransfer tT tI f = rr) :
    FT Try.prog 27 #[tP, .agg #[.int .i64 f.Gen.Width, .slice fa1 f.Gen.Words.length fk1, .int .i64 f.Kill.Width, .slice fa3 f.Kill.Words.length fk3, .slice fa4 f.Copies.length fk4]] [Cl tP [.slice ta tT.length tk, .int .i64 tI], sl (.slice ta tT.length tk) (tT : List Int), sl (.slice fa1 f.Gen.Words.length fk1) (f.Gen.Words : List (BitVec 64)), sl (.slice fa3 f.Kill.Words.length fk3) (f.Kill.Words : List (BitVec 64)), sl (.slice fa4 f.Copies.length fk4) (f.Copies : List GCopy)]
      (fun g : Value × Value × Value => i64ok rr.1.Gen.Width ∧ i64ok rr.1.Kill.Width ∧ (0 ≤ rr.2 ∧ rr.2 ≤ (tT.length : Int)))
      (fun g => .agg #[.int .i64 rr.1.Gen.Width, g.1, .int .i64 rr.1.Kill.Width, g.2.1, g.2.2])
      (fun g => [sl (g.1) (rr.1.Gen.Words : List (BitVec 64)), sl (g.2.1) (rr.1.Kill.Words : List (BitVec 64)), sl (g.2.2) (rr.1.Copies : List GCopy), Cl tP [.slice ta tT.length tk, .int .i64 rr.2]]) := by
  refine FT_intro (args := [tP, .agg #[.int .i64 f.Gen.Width, .slice fa1 f.Gen.Words.length fk1, .int .i64 f.Kill.Width, .slice fa3 f.Kill.Words.length fk3, .slice fa4 f.Copies.length fk4]]) Try.func27 rfl rfl ?_
  intro w0 M0 F0
  have hf_0 : -9223372036854775808 ≤ f.Gen.Width ∧ f.Gen.Width ≤ 9223372036854775807 := hf_0
  have hf_2 : -9223372036854775808 ≤ f.Kill.Width ∧ f.Kill.Width ≤ 9223372036854775807 := hf_2
  refine JJ_fact 1 rfl sl_bytes ?_
  intro hl1
  have hl1 : tT.length * 8 ≤ 140737488355328 := hl1
  refine JJ_fact 1 rfl sl_ok ?_
  intro ho2
  refine JJ_fact 2 rfl sl_bytes ?_
  intro hl3
  have hl3 : f.Gen.Words.length * 8 ≤ 140737488355328 := hl3
  refine JJ_fact 3 rfl sl_bytes ?_
  intro hl4
  have hl4 : f.Kill.Words.length * 8 ≤ 140737488355328 := hl4
  refine JJ_fact 4 rfl sl_bytes ?_
  intro hl5
  have hl5 : f.Copies.length * 16 ≤ 140737488355328 := hl5
  obtain ⟨⟨hg0, hg1, hg2⟩, ⟨hk0, hk1, hk2⟩, hc0⟩ := hf
  refine JK_seq ?_
  refine JK_region ?_
  refine JO_act rfl rfl rfl (OpA.box rfl rfl) ?_
  intro p6
  refine JO_act rfl rfl rfl (OpA.alloc rfl ze54) ?_
  intro p7
  refine JO_nil ?_
  refine JK_seq ?_
  refine JK_region ?_
  refine JO_q rfl rfl rfl (OpV.loadA rfl rfl sh54 (i := 1) rfl (reads_pv _ _) rfl) ?_
  refine JO_act rfl rfl rfl (OpA.alloc rfl ze54) ?_
  intro p8
  refine JO_store rfl rfl (OpS.frame [0] rfl (OpS.storeCl [.int .i64 f.Gen.Width, .slice fa1 f.Gen.Words.length fk1, .int .i64 f.Kill.Width, .slice fa3 f.Kill.Words.length fk3, .slice fa4 f.Copies.length fk4] [.int .i64 f.Gen.Width, .slice fa1 f.Gen.Words.length fk1, .int .i64 f.Kill.Width, .slice fa3 f.Kill.Words.length fk3, .slice fa4 f.Copies.length fk4] rfl rfl rfl sh54 rfl rfl rfl (Nat.le_of_ble_eq_true rfl) rfl)) ?_
  refine JO_nil ?_
  refine JK_seq ?_
  refine JK_region ?_
  refine JO_act rfl rfl rfl (OpA.buildSlice0 rfl sl52) ?_
  intro c9
  refine JJ_slice 0 rfl Cr_slice ?_
  rintro a10 k11 rfl
  refine JO_q rfl rfl rfl (OpV.fieldAddr rfl rfl fo54_2 (i := 3) rfl (isPtr_pv _ _)) ?_
  refine JO_q rfl rfl rfl (OpV.loadF rfl rfl sh52 (i := 3) rfl (reads_pv _ _) rfl) ?_
  refine JJ_loc [0] rfl (Ent.crNil (α := GCopy) _) ?_
  refine JO_act rfl rfl rfl (OpA.frame [0, 7] rfl (OpA.app0 (α := GCopy) (ys := f.Copies) rfl rfl rfl sl52 sl52 sz52 rfl rfl rfl (by show _ * 16 ≤ 140737488355328; first | omega | (simp only [lens]; omega) | (simp only [lens] at *; omega)))) ?_
  intro c12
  refine JJ_slice 0 rfl os_slice ?_
  rintro a13 k14 rfl
  refine JO_q rfl rfl rfl (OpV.fieldAddr rfl rfl fo54_2 (i := 1) rfl (isPtr_Cl _ _)) ?_
  refine JO_store rfl rfl (OpS.frame [1] rfl (OpS.storeClF [.slice a13 f.Copies.length k14] [.int .i64 f.Gen.Width, .slice fa1 f.Gen.Words.length fk1, .int .i64 f.Kill.Width, .slice fa3 f.Kill.Words.length fk3, .slice a13 f.Copies.length k14] rfl rfl rfl sh52 rfl rfl rfl (Nat.le_of_ble_eq_true rfl) rfl)) ?_
  refine JO_nil ?_
  refine JK_seq ?_
  refine JK_seq ?_
  refine JK_region ?_
  refine JO_q rfl rfl rfl (OpV.move rfl rfl) ?_
  refine letv (Tape_Next tT tI 5) fun rv15 hg16 => ?_
  have hc17 := fn8 tP ta tk tT tI 5 (by (try dsimp only) <;> first | (unfold i64ok; omega) | omega | assumption) (by (try dsimp only) <;> first | (unfold i64ok; omega) | omega | assumption) rv15 hg16
  refine JO_call [4, 4] rfl rfl rfl (OpC.fn rfl ca8 rfl) (hc17) rfl ?_
  rintro - ⟨he18, he19, he20⟩
  have he18 : -9223372036854775808 ≤ rv15.1 ∧ rv15.1 ≤ 9223372036854775807 := he18
  refine JO_nil ?_
  refine JK_block ?_
  refine JK_seq ?_
  refine JK_region ?_
  refine JO_q rfl rfl rfl (OpV.eql rfl rfl rfl) ?_
  refine JO_q rfl rfl rfl (OpV.assign rfl rfl) ?_
  refine JO_nil ?_
  refine JK_cond (b := (rv15.1 == 0)) rfl (fun (h21 : (rv15.1 == 0) = true) => ?_) (fun (h21 : (rv15.1 == 0) = false) => ?_)
  · skip
    have g22 : rv15.1 = 0 := eq_of_beq h21
    refine JK_region ?_
    refine JO_q rfl rfl rfl (OpV.move rfl rfl) ?_
    refine JO_q rfl rfl rfl (OpV.fieldAddr rfl rfl fo54_0 (i := 4) rfl (isPtr_pv _ _)) ?_
    refine JO_q rfl rfl rfl (OpV.loadAF [.int .i64 f.Gen.Width, .slice fa1 f.Gen.Words.length fk1] rfl rfl sh50 (i := 4) rfl (reads_pv _ _) rfl rfl) ?_
    refine letv (Tape_SpoilSet tT rv15.2 f.Gen) fun rv24 hg25 => ?_
    have hc26 := fn28 tP ta tk tT rv15.2 f.Gen fa1 fk1 (by (try dsimp only) <;> first | (unfold i64ok; omega) | omega | assumption) (by (try dsimp only) <;> first | (unfold i64ok; omega) | omega | assumption) (by first | exact ⟨hg0, hg1, hg2⟩ | exact ⟨hk0, hk1, hk2⟩) rv24 hg25
    refine JO_call [0, 4, 5] rfl rfl rfl (OpC.fn rfl ca28 rfl) (hc26) rfl ?_
    rintro c23 ⟨he27, he28⟩
    have he27 : -9223372036854775808 ≤ rv24.1.Width ∧ rv24.1.Width ≤ 9223372036854775807 := he27
    refine JJ_slice 0 rfl sl_slice ?_
    rintro a29 k30 rfl
    refine JJ_fact 0 rfl sl_bytes ?_
    intro hl31
    have hl31 : rv24.1.Words.length * 8 ≤ 140737488355328 := hl31
    refine JO_q rfl rfl rfl (OpV.fieldAddr rfl rfl fo54_0 (i := 2) rfl (isPtr_Cl _ _)) ?_
    refine JO_store rfl rfl (OpS.frame [2] rfl (OpS.storeClF [.int .i64 rv24.1.Width, .slice a29 rv24.1.Words.length k30] [.int .i64 rv24.1.Width, .slice a29 rv24.1.Words.length k30, .int .i64 f.Kill.Width, .slice fa3 f.Kill.Words.length fk3, .slice a13 f.Copies.length k14] rfl rfl rfl sh50 rfl rfl rfl (Nat.le_of_ble_eq_true rfl) rfl)) ?_
    refine JO_nil ?_
    refine JK_blk ?_
    refine JK_seq ?_
    refine JK_region ?_
    refine JO_q rfl rfl rfl (OpV.loadA rfl rfl sh54 (i := 0) rfl (reads_Cl _ _) rfl) ?_
    refine JO_store rfl rfl (OpS.frame [4] rfl (OpS.storeCl [.int .i64 rv24.1.Width, .slice a29 rv24.1.Words.length k30, .int .i64 f.Kill.Width, .slice fa3 f.Kill.Words.length fk3, .slice a13 f.Copies.length k14] [.int .i64 rv24.1.Width, .slice a29 rv24.1.Words.length k30, .int .i64 f.Kill.Width, .slice fa3 f.Kill.Words.length fk3, .slice a13 f.Copies.length k14] rfl rfl rfl sh54 rfl rfl rfl (Nat.le_of_ble_eq_true rfl) rfl)) ?_
    refine JO_nil ?_
    refine JJ_loc [4] rfl (Ent.freeze _ _) ?_
    have hq : rr = ((GTransfer.mk rv24.1 f.Kill f.Copies), rv24.2) := hrr.symm.trans (by simp only [Tape_SpoilTransfer, h21, hg16, hg25, cs4])
    replace hrr := hrr.trans hq
    subst rr
    refine JK_return ((.slice a29 rv24.1.Words.length k30, .slice fa3 f.Kill.Words.length fk3, .slice a13 f.Copies.length k14)) rfl (.cellN 1 rfl sh54 rfl (reads_Cl _ _) rfl .nil) rfl (by refine ⟨?_, ?_, ?_⟩ <;> (try dsimp only) <;> first | omega | (unfold i64ok; omega) | (simp only [lens]; omega) | assumption | trivial) (Ent.take (is := [3, 8, 0, 4]) rfl)
  · skip
    have g32 : rv15.1 ≠ 0 := ne_of_beq_false h21
    refine JK_seq ?_
    refine JK_region ?_
    refine JO_q rfl rfl rfl (OpV.eql rfl rfl rfl) ?_
    refine JO_q rfl rfl rfl (OpV.assign rfl rfl) ?_
    refine JO_nil ?_
    refine JK_cond (b := (rv15.1 == 1)) rfl (fun (h33 : (rv15.1 == 1) = true) => ?_) (fun (h33 : (rv15.1 == 1) = false) => ?_)
    · skip
      have g34 : rv15.1 = 1 := eq_of_beq h33
      refine JK_region ?_
      refine JO_q rfl rfl rfl (OpV.move rfl rfl) ?_
      refine JO_q rfl rfl rfl (OpV.fieldAddr rfl rfl fo54_1 (i := 4) rfl (isPtr_pv _ _)) ?_
      refine JO_q rfl rfl rfl (OpV.loadAF [.int .i64 f.Kill.Width, .slice fa3 f.Kill.Words.length fk3] rfl rfl sh50 (i := 4) rfl (reads_pv _ _) rfl rfl) ?_
      refine letv (Tape_SpoilSet tT rv15.2 f.Kill) fun rv36 hg37 => ?_
      have hc38 := fn28 tP ta tk tT rv15.2 f.Kill fa3 fk3 (by (try dsimp only) <;> first | (unfold i64ok; omega) | omega | assumption) (by (try dsimp only) <;> first | (unfold i64ok; omega) | omega | assumption) (by first | exact ⟨hg0, hg1, hg2⟩ | exact ⟨hk0, hk1, hk2⟩) rv36 hg37
      refine JO_call [0, 4, 6] rfl rfl rfl (OpC.fn rfl ca28 rfl) (hc38) rfl ?_
      rintro c35 ⟨he39, he40⟩
      have he39 : -9223372036854775808 ≤ rv36.1.Width ∧ rv36.1.Width ≤ 9223372036854775807 := he39
      refine JJ_slice 0 rfl sl_slice ?_
      rintro a41 k42 rfl
      refine JJ_fact 0 rfl sl_bytes ?_
      intro hl43
      have hl43 : rv36.1.Words.length * 8 ≤ 140737488355328 := hl43
      refine JO_q rfl rfl rfl (OpV.fieldAddr rfl rfl fo54_1 (i := 2) rfl (isPtr_Cl _ _)) ?_
      refine JO_store rfl rfl (OpS.frame [2] rfl (OpS.storeClF [.int .i64 rv36.1.Width, .slice a41 rv36.1.Words.length k42] [.int .i64 f.Gen.Width, .slice fa1 f.Gen.Words.length fk1, .int .i64 rv36.1.Width, .slice a41 rv36.1.Words.length k42, .slice a13 f.Copies.length k14] rfl rfl rfl sh50 rfl rfl rfl (Nat.le_of_ble_eq_true rfl) rfl)) ?_
      refine JO_nil ?_
      refine JK_blk ?_
      refine JK_seq ?_
      refine JK_region ?_
      refine JO_q rfl rfl rfl (OpV.loadA rfl rfl sh54 (i := 0) rfl (reads_Cl _ _) rfl) ?_
      refine JO_store rfl rfl (OpS.frame [4] rfl (OpS.storeCl [.int .i64 f.Gen.Width, .slice fa1 f.Gen.Words.length fk1, .int .i64 rv36.1.Width, .slice a41 rv36.1.Words.length k42, .slice a13 f.Copies.length k14] [.int .i64 f.Gen.Width, .slice fa1 f.Gen.Words.length fk1, .int .i64 rv36.1.Width, .slice a41 rv36.1.Words.length k42, .slice a13 f.Copies.length k14] rfl rfl rfl sh54 rfl rfl rfl (Nat.le_of_ble_eq_true rfl) rfl)) ?_
      refine JO_nil ?_
      refine JJ_loc [4] rfl (Ent.freeze _ _) ?_
      have hq : rr = ((GTransfer.mk f.Gen rv36.1 f.Copies), rv36.2) := hrr.symm.trans (by simp only [Tape_SpoilTransfer, h21, h33, hg16, hg37, cs4])
      replace hrr := hrr.trans hq
      subst rr
      refine JK_return ((.slice fa1 f.Gen.Words.length fk1, .slice a41 rv36.1.Words.length k42, .slice a13 f.Copies.length k14)) rfl (.cellN 1 rfl sh54 rfl (reads_Cl _ _) rfl .nil) rfl (by refine ⟨?_, ?_, ?_⟩ <;> (try dsimp only) <;> first | omega | (unfold i64ok; omega) | (simp only [lens]; omega) | assumption | trivial) (Ent.take (is := [7, 3, 0, 4]) rfl)
    · skip
      have g44 : rv15.1 ≠ 1 := ne_of_beq_false h33
      refine JK_seq ?_
      refine JK_region ?_
      refine JO_q rfl rfl rfl (OpV.eql rfl rfl rfl) ?_
      refine JO_q rfl rfl rfl (OpV.assign rfl rfl) ?_
      refine JO_nil ?_
      refine JK_cond (b := (rv15.1 == 2)) rfl (fun (h45 : (rv15.1 == 2) = true) => ?_) (fun (h45 : (rv15.1 == 2) = false) => ?_)
      · skip
        have g46 : rv15.1 = 2 := eq_of_beq h45
        refine JJ_fact 1 rfl isP_Cl ?_
        intro hp47
        refine JJ_addFact hp47 ?_
        refine letv (Tape_Next tT rv15.2 9) fun rv48 hg49 => ?_
        refine letv (Tape_Next tT rv48.2 9) fun rv50 hg51 => ?_
        have hn54 : ((f.Copies ++ [(GCopy.mk (rv48.1 - 1) (rv50.1 - 1))]) : List GCopy).length = (f.Copies : List GCopy).length + ([(GCopy.mk (rv48.1 - 1) (rv50.1 - 1))] : List GCopy).length := List.length_append
        refine JK_drawJ [0, 1, 0, 4, 12, 0, 44, 108, 252, 508, 1023, 2047, 4095] [none, some 3, some 12, some 10] fmix ?_
        refine JD_v [0] (wn rfl) rfl rfl (OpV.fieldAddr rfl rfl fo54_2 (i := 0) rfl (isPtr_fact _)) ?_
        refine JD_v [2] (wn rfl) rfl rfl (OpV.loadF rfl rfl sh52 (i := 0) rfl (reads_Cl _ _) rfl) ?_
        refine JD_v [] (wn rfl) rfl rfl (OpV.move rfl rfl) ?_
        refine JD_x [1, 6] [] (fun lG => .int .i64 rv48.1) [⟨some 3, none, [], fun lG => SP.fact (i64ok rv48.1 ∧ (0 ≤ rv48.2 ∧ rv48.2 ≤ (tT.length : Int)) ∧ (0 ≤ rv48.1 ∧ (rv48.1 < 9 ∨ rv48.1 = 0)))⟩, ⟨some 3, some 6, [], fun lG => Cl tP [.slice ta tT.length tk, .int .i64 rv48.2]⟩] (wn rfl) rfl rfl rfl (fun G => by refine OpX.n3 (A' := [Cl tP [.slice ta tT.length tk, .int .i64 rv15.2], sl (.slice ta tT.length tk) (tT : List Int)]) (V' := fun g => .int .i64 rv48.1) (B' := fun g => [sl (.slice ta tT.length tk) (tT : List Int), SP.fact (i64ok rv48.1 ∧ (0 ≤ rv48.2 ∧ rv48.2 ≤ (tT.length : Int)) ∧ (0 ≤ rv48.1 ∧ (rv48.1 < 9 ∨ rv48.1 = 0))), Cl tP [.slice ta tT.length tk, .int .i64 rv48.2]]) (by kernel_rfl) (by kernel_rfl) (by kernel_rfl) ?_; refine OpX.postR (OpX.frame [0, 0] rfl (OpX.ofC (fun _ => []) (fun _ => ()) (fun _ => rfl) (by intro _ _ h; cases h) (OpC.fn rfl ca8 rfl) (fn8 tP ta tk tT rv15.2 9 (by (try dsimp only) <;> first | (unfold i64ok; omega) | omega | assumption) (by (try dsimp only) <;> first | (unfold i64ok; omega) | omega | assumption) rv48 hg49))) (fun g => ?_); exact Ent.take (is := [2, 0, 1]) rfl) ?_
        refine JD_x [10] [] (fun lG => .int .i64 (rv48.1 - 1)) [] (wn rfl) rfl rfl rfl (fun G => by refine OpX.n3 (A' := [SP.fact (i64ok rv48.1 ∧ (0 ≤ rv48.2 ∧ rv48.2 ≤ (tT.length : Int)) ∧ (0 ≤ rv48.1 ∧ (rv48.1 < 9 ∨ rv48.1 = 0)))]) (V' := fun g => .int .i64 (rv48.1 - 1)) (B' := fun g => [SP.fact (i64ok rv48.1 ∧ (0 ≤ rv48.2 ∧ rv48.2 ≤ (tT.length : Int)) ∧ (0 ≤ rv48.1 ∧ (rv48.1 < 9 ∨ rv48.1 = 0)))]) (by kernel_rfl) (by kernel_rfl) (by kernel_rfl) ?_; refine OpX.fact 0 rfl (fun h => h) ?_; rintro ⟨he55, he56, he57⟩; have he55 : -9223372036854775808 ≤ rv48.1 ∧ rv48.1 ≤ 9223372036854775807 := he55; refine OpX.postR (OpX.ofV (by intro _ _ h; cases h) (OpV.sub rfl rfl rfl (by unfold i64ok; omega))) (fun g => ?_); exact Ent.take (is := [0]) rfl) ?_
        refine JD_v [] (wn rfl) rfl rfl (OpV.move rfl rfl) ?_
        refine JD_x [6, 10, 11] [] (fun lG => .int .i64 rv50.1) [⟨some 6, none, [], fun lG => SP.fact (i64ok rv50.1 ∧ (0 ≤ rv50.2 ∧ rv50.2 ≤ (tT.length : Int)) ∧ (0 ≤ rv50.1 ∧ (rv50.1 < 9 ∨ rv50.1 = 0)))⟩, ⟨some 6, none, [], fun lG => Cl tP [.slice ta tT.length tk, .int .i64 rv50.2]⟩] (wn rfl) rfl rfl rfl (fun G => by refine OpX.n3 (A' := [sl (.slice ta tT.length tk) (tT : List Int), SP.fact (i64ok rv48.1 ∧ (0 ≤ rv48.2 ∧ rv48.2 ≤ (tT.length : Int)) ∧ (0 ≤ rv48.1 ∧ (rv48.1 < 9 ∨ rv48.1 = 0))), Cl tP [.slice ta tT.length tk, .int .i64 rv48.2]]) (V' := fun g => .int .i64 rv50.1) (B' := fun g => [sl (.slice ta tT.length tk) (tT : List Int), SP.fact (i64ok rv48.1 ∧ (0 ≤ rv48.2 ∧ rv48.2 ≤ (tT.length : Int)) ∧ (0 ≤ rv48.1 ∧ (rv48.1 < 9 ∨ rv48.1 = 0))), SP.fact (i64ok rv50.1 ∧ (0 ≤ rv50.2 ∧ rv50.2 ≤ (tT.length : Int)) ∧ (0 ≤ rv50.1 ∧ (rv50.1 < 9 ∨ rv50.1 = 0))), Cl tP [.slice ta tT.length tk, .int .i64 rv50.2]]) (by kernel_rfl) (by kernel_rfl) (by kernel_rfl) ?_; refine OpX.fact 1 rfl (fun h => h) ?_; rintro ⟨he58, he59, he60⟩; have he58 : -9223372036854775808 ≤ rv48.1 ∧ rv48.1 ≤ 9223372036854775807 := he58; refine OpX.postR (OpX.frame [2, 0] rfl (OpX.ofC (fun _ => []) (fun _ => ()) (fun _ => rfl) (by intro _ _ h; cases h) (OpC.fn rfl ca8 rfl) (fn8 tP ta tk tT rv48.2 9 (by (try dsimp only) <;> first | (unfold i64ok; omega) | omega | assumption) (by (try dsimp only) <;> first | (unfold i64ok; omega) | omega | assumption) rv50 hg51))) (fun g => ?_); exact Ent.take (is := [2, 3, 0, 1]) rfl) ?_
        refine JD_x [10, 12] [] (fun lG => .int .i64 (rv50.1 - 1)) [] (wn rfl) rfl rfl rfl (fun G => by refine OpX.n3 (A' := [SP.fact (i64ok rv48.1 ∧ (0 ≤ rv48.2 ∧ rv48.2 ≤ (tT.length : Int)) ∧ (0 ≤ rv48.1 ∧ (rv48.1 < 9 ∨ rv48.1 = 0))), SP.fact (i64ok rv50.1 ∧ (0 ≤ rv50.2 ∧ rv50.2 ≤ (tT.length : Int)) ∧ (0 ≤ rv50.1 ∧ (rv50.1 < 9 ∨ rv50.1 = 0)))]) (V' := fun g => .int .i64 (rv50.1 - 1)) (B' := fun g => [SP.fact (i64ok rv48.1 ∧ (0 ≤ rv48.2 ∧ rv48.2 ≤ (tT.length : Int)) ∧ (0 ≤ rv48.1 ∧ (rv48.1 < 9 ∨ rv48.1 = 0))), SP.fact (i64ok rv50.1 ∧ (0 ≤ rv50.2 ∧ rv50.2 ≤ (tT.length : Int)) ∧ (0 ≤ rv50.1 ∧ (rv50.1 < 9 ∨ rv50.1 = 0)))]) (by kernel_rfl) (by kernel_rfl) (by kernel_rfl) ?_; refine OpX.fact 0 rfl (fun h => h) ?_; rintro ⟨he61, he62, he63⟩; have he61 : -9223372036854775808 ≤ rv48.1 ∧ rv48.1 ≤ 9223372036854775807 := he61; refine OpX.fact 1 rfl (fun h => h) ?_; rintro ⟨he64, he65, he66⟩; have he64 : -9223372036854775808 ≤ rv50.1 ∧ rv50.1 ≤ 9223372036854775807 := he64; refine OpX.postR (OpX.ofV (by intro _ _ h; cases h) (OpV.sub rfl rfl rfl (by unfold i64ok; omega))) (fun g => ?_); exact Ent.take (is := [0, 1]) rfl) ?_
        refine JD_v [] (wn rfl) rfl rfl (OpV.build (rs := #[.int .i64 (rv48.1 - 1), .int .i64 (rv50.1 - 1)]) rfl st68 (Env.evp_map rfl) rfl) ?_
        refine JD_x [] [9] (fun lG => ((lG.getD 0 []).getD 0 undef)) [⟨some 9, some 10, [9], fun lG => Cr ((lG.getD 0 []).getD 0 undef) 1 [.int .i64 (rv48.1 - 1), .int .i64 (rv50.1 - 1)]⟩] (wn rfl) rfl rfl rfl (fun G => by refine OpX.n3 (A' := []) (V' := fun g => (g.getD 0 undef)) (B' := fun g => [Cr (g.getD 0 undef) 1 [.int .i64 (rv48.1 - 1), .int .i64 (rv50.1 - 1)]]) (by kernel_rfl) (by kernel_rfl) (by kernel_rfl) ?_; refine OpX.postR (OpX.ofA (by intro _ _ h; cases h) (OpA.buildSliceV [.agg #[.int .i64 (rv48.1 - 1), .int .i64 (rv50.1 - 1)]] [.int .i64 (rv48.1 - 1), .int .i64 (rv50.1 - 1)] rfl sl52 sz52 rfl (Env.evp_map rfl) rfl rfl rfl rfl)) (fun g => ?_); exact Ent.take (is := [0]) rfl) ?_
        refine JD_x [3, 10, 12, 14] [10] (fun lG => ((lG.getD 0 []).getD 0 undef)) [⟨some 10, none, [10], fun lG => os (((lG.getD 0 []).getD 0 undef)) ((f.Copies ++ [(GCopy.mk (rv48.1 - 1) (rv50.1 - 1))]) : List GCopy)⟩] (wn rfl) rfl rfl rfl (fun G => by refine OpX.n3 (A' := [os (.slice a13 f.Copies.length k14) (f.Copies : List GCopy), SP.fact (i64ok rv48.1 ∧ (0 ≤ rv48.2 ∧ rv48.2 ≤ (tT.length : Int)) ∧ (0 ≤ rv48.1 ∧ (rv48.1 < 9 ∨ rv48.1 = 0))), SP.fact (i64ok rv50.1 ∧ (0 ≤ rv50.2 ∧ rv50.2 ≤ (tT.length : Int)) ∧ (0 ≤ rv50.1 ∧ (rv50.1 < 9 ∨ rv50.1 = 0))), Cr ((G 9).getD 0 undef) 1 [.int .i64 (rv48.1 - 1), .int .i64 (rv50.1 - 1)]]) (V' := fun g => (g.getD 0 undef)) (B' := fun g => [SP.fact (i64ok rv48.1 ∧ (0 ≤ rv48.2 ∧ rv48.2 ≤ (tT.length : Int)) ∧ (0 ≤ rv48.1 ∧ (rv48.1 < 9 ∨ rv48.1 = 0))), SP.fact (i64ok rv50.1 ∧ (0 ≤ rv50.2 ∧ rv50.2 ≤ (tT.length : Int)) ∧ (0 ≤ rv50.1 ∧ (rv50.1 < 9 ∨ rv50.1 = 0))), os ((g.getD 0 undef)) ((f.Copies ++ [(GCopy.mk (rv48.1 - 1) (rv50.1 - 1))]) : List GCopy)]) (by kernel_rfl) (by kernel_rfl) (by kernel_rfl) ?_; refine OpX.fact 1 rfl (fun h => h) ?_; rintro ⟨he67, he68, he69⟩; have he67 : -9223372036854775808 ≤ rv48.1 ∧ rv48.1 ≤ 9223372036854775807 := he67; refine OpX.fact 2 rfl (fun h => h) ?_; rintro ⟨he70, he71, he72⟩; have he70 : -9223372036854775808 ≤ rv50.1 ∧ rv50.1 ≤ 9223372036854775807 := he70; refine OpX.pre [3] rfl (Ent.cr1 (α := GCopy) (A := []) _ (GCopy.mk (rv48.1 - 1) (rv50.1 - 1)) _ (Nat.le_of_ble_eq_true rfl) (fun h => ⟨rfl, (by unfold i64ok; first | omega | (dsimp only; omega)), (by unfold i64ok; first | omega | (dsimp only; omega))⟩)) ?_; refine OpX.seeL (L' := [(48, .slice a13 f.Copies.length k14), (56, ((G 9).getD 0 undef))]) (Env.sub_all (by kernel_rfl)) ?_; refine OpX.postR (OpX.ofA (by intro _ _ h; cases h) (OpA.frame [1, 0] rfl (OpA.appO (α := GCopy) (xs := f.Copies) (ys := [(GCopy.mk (rv48.1 - 1) (rv50.1 - 1))]) rfl rfl rfl sl52 sl52 sz52 rfl rfl rfl (by show (_ + _) * 16 ≤ 140737488355328; first | omega | (simp only [lens]; omega) | (simp only [lens] at *; omega))))) (fun g => ?_); exact Ent.take (is := [1, 2, 0]) rfl) ?_
        refine JD_v [0] (wn rfl) rfl rfl (OpV.fieldAddr rfl rfl fo54_2 (i := 0) rfl (isPtr_fact _)) ?_
        refine JD_x0 [2, 15] [⟨some 12, none, [10], fun lG => Cl p8 [.int .i64 f.Gen.Width, .slice fa1 f.Gen.Words.length fk1, .int .i64 f.Kill.Width, .slice fa3 f.Kill.Words.length fk3, ((lG.getD 0 []).getD 0 undef)]⟩] (wn rfl) rfl rfl rfl (fun G => by refine OpX.n3 (A' := [Cl p8 [.int .i64 f.Gen.Width, .slice fa1 f.Gen.Words.length fk1, .int .i64 f.Kill.Width, .slice fa3 f.Kill.Words.length fk3, .slice a13 f.Copies.length k14], os (((G 10).getD 0 undef)) ((f.Copies ++ [(GCopy.mk (rv48.1 - 1) (rv50.1 - 1))]) : List GCopy)]) (V' := fun g => undef) (B' := fun g => [os (((G 10).getD 0 undef)) ((f.Copies ++ [(GCopy.mk (rv48.1 - 1) (rv50.1 - 1))]) : List GCopy), Cl p8 [.int .i64 f.Gen.Width, .slice fa1 f.Gen.Words.length fk1, .int .i64 f.Kill.Width, .slice fa3 f.Kill.Words.length fk3, ((G 10).getD 0 undef)]]) (by kernel_rfl) (by kernel_rfl) (by kernel_rfl) ?_; refine OpX.fact 1 rfl os_one ?_; intro ho73; refine OpX.seeL (L' := [(57, ((G 10).getD 0 undef)), (58, fptr p8 4)]) (Env.sub_all (by kernel_rfl)) ?_; refine OpX.postR (OpX.ofS (by intro _ _ h; cases h) rfl (OpS.frame [0] rfl (OpS.storeClF [((G 10).getD 0 undef)] [.int .i64 f.Gen.Width, .slice fa1 f.Gen.Words.length fk1, .int .i64 f.Kill.Width, .slice fa3 f.Kill.Words.length fk3, ((G 10).getD 0 undef)] rfl rfl rfl sh52 (cells_of_one ho73) rfl (by simp only [List.all_cons, List.all_nil, ho73, Bool.and_true, Bool.true_and] <;> rfl) (Nat.le_of_ble_eq_true rfl) rfl))) (fun g => ?_); exact Ent.take (is := [1, 0]) rfl) ?_
        refine JD_nil ⟨by kernel_rfl, fun G => ?_⟩
        refine JJ_weaken (L' := [(4, p7), (5, p8)]) (A' := [SP.fact (isP p8), Cl p7 [.int .i64 0, .slice none 0 0, .int .i64 0, .slice none 0 0, .slice none 0 0], pv p6 [.int .i64 f.Gen.Width, .slice fa1 f.Gen.Words.length fk1, .int .i64 f.Kill.Width, .slice fa3 f.Kill.Words.length fk3, .slice fa4 f.Copies.length fk4], sl (.slice ta tT.length tk) (tT : List Int), sl (.slice fa1 f.Gen.Words.length fk1) (f.Gen.Words : List (BitVec 64)), sl (.slice fa3 f.Kill.Words.length fk3) (f.Kill.Words : List (BitVec 64)), sl (.slice fa4 f.Copies.length fk4) (f.Copies : List GCopy), SP.fact (i64ok rv48.1 ∧ (0 ≤ rv48.2 ∧ rv48.2 ≤ (tT.length : Int)) ∧ (0 ≤ rv48.1 ∧ (rv48.1 < 9 ∨ rv48.1 = 0))), SP.fact (i64ok rv50.1 ∧ (0 ≤ rv50.2 ∧ rv50.2 ≤ (tT.length : Int)) ∧ (0 ≤ rv50.1 ∧ (rv50.1 < 9 ∨ rv50.1 = 0))), Cl tP [.slice ta tT.length tk, .int .i64 rv50.2], os (((G 10).getD 0 undef)) ((f.Copies ++ [(GCopy.mk (rv48.1 - 1) (rv50.1 - 1))]) : List GCopy), Cl p8 [.int .i64 f.Gen.Width, .slice fa1 f.Gen.Words.length fk1, .int .i64 f.Kill.Width, .slice fa3 f.Kill.Words.length fk3, ((G 10).getD 0 undef)]]) (Env.sub_all (by kernel_rfl)) (Ent.of_eq (by kernel_rfl)) ?_
        generalize ((G 10).getD 0 undef) = c53
        refine JJ_fact 7 rfl (fun h => h) ?_
        rintro ⟨he74, he75, he76⟩
        have he74 : -9223372036854775808 ≤ rv48.1 ∧ rv48.1 ≤ 9223372036854775807 := he74
        refine JJ_fact 8 rfl (fun h => h) ?_
        rintro ⟨he77, he78, he79⟩
        have he77 : -9223372036854775808 ≤ rv50.1 ∧ rv50.1 ≤ 9223372036854775807 := he77
        refine JJ_keep [1, 1, 2, 3, 4, 5, 8, 8, 8] rfl ?_
        refine JJ_slice 7 rfl os_slice ?_
        rintro a80 k81 rfl
        refine JJ_fact 7 rfl os_bytes ?_
        intro hl82
        have hl82 : (f.Copies ++ [(GCopy.mk (rv48.1 - 1) (rv50.1 - 1))]).length * 16 ≤ 140737488355328 := hl82
        refine JK_blk ?_
        refine JK_seq ?_
        refine JK_region ?_
        refine JO_q rfl rfl rfl (OpV.loadA rfl rfl sh54 (i := 8) rfl (reads_Cl _ _) rfl) ?_
        refine JO_store rfl rfl (OpS.frame [0] rfl (OpS.storeCl [.int .i64 f.Gen.Width, .slice fa1 f.Gen.Words.length fk1, .int .i64 f.Kill.Width, .slice fa3 f.Kill.Words.length fk3, .slice a80 ((f.Copies ++ [(GCopy.mk (rv48.1 - 1) (rv50.1 - 1))]).length) k81] [.int .i64 f.Gen.Width, .slice fa1 f.Gen.Words.length fk1, .int .i64 f.Kill.Width, .slice fa3 f.Kill.Words.length fk3, .slice a80 ((f.Copies ++ [(GCopy.mk (rv48.1 - 1) (rv50.1 - 1))]).length) k81] rfl rfl rfl sh54 rfl rfl rfl (Nat.le_of_ble_eq_true rfl) rfl)) ?_
        refine JO_nil ?_
        refine JJ_loc [7] rfl (Ent.freeze _ _) ?_
        have hq : rr = ((GTransfer.mk f.Gen f.Kill (f.Copies ++ [(GCopy.mk (rv48.1 - 1) (rv50.1 - 1))])), rv50.2) := hrr.symm.trans (by simp only [Tape_SpoilTransfer, h21, h33, h45, hg16, hg49, hg51, cs4])
        replace hrr := hrr.trans hq
        subst rr
        refine JK_return ((.slice fa1 f.Gen.Words.length fk1, .slice fa3 f.Kill.Words.length fk3, .slice a80 ((f.Copies ++ [(GCopy.mk (rv48.1 - 1) (rv50.1 - 1))]).length) k81)) rfl (.cellN 1 rfl sh54 rfl (reads_Cl _ _) rfl .nil) rfl (by refine ⟨?_, ?_, ?_⟩ <;> (try dsimp only) <;> first | omega | (unfold i64ok; omega) | (simp only [lens]; omega) | assumption | trivial) (Ent.take (is := [4, 5, 0, 7]) rfl)
      · skip
        have g83 : rv15.1 ≠ 2 := ne_of_beq_false h45
        refine JK_seq ?_
        refine JK_region ?_
        refine JO_q rfl rfl rfl (OpV.eql rfl rfl rfl) ?_
        refine JO_q rfl rfl rfl (OpV.assign rfl rfl) ?_
        refine JO_nil ?_
        refine JK_cond (b := (rv15.1 == 3)) rfl (fun (h84 : (rv15.1 == 3) = true) => ?_) (fun (h84 : (rv15.1 == 3) = false) => ?_)
        · skip
          have g85 : rv15.1 = 3 := eq_of_beq h84
          refine letv (Tape_Next tT rv15.2 4) fun rv86 hg87 => ?_
          refine letv (Tape_Next tT rv86.2 2) fun rv88 hg89 => ?_
          refine JJ_fact 1 rfl isP_Cl ?_
          intro hp91
          refine JJ_addFact hp91 ?_
          have hn94 : (([(GCopy.mk rv86.1 (f.Gen.Width - rv88.1))] ++ f.Copies) : List GCopy).length = ([(GCopy.mk rv86.1 (f.Gen.Width - rv88.1))] : List GCopy).length + (f.Copies : List GCopy).length := List.length_append
          refine JK_drawJ [0, 1, 0, 4, 12, 0, 35, 127, 255, 511, 0, 1024, 4095, 8191, 16383] [none, some 1, some 14, some 12] fmix ?_
          refine JD_v [] (wn rfl) rfl rfl (OpV.move rfl rfl) ?_
          refine JD_x [1, 6] [] (fun lG => .int .i64 rv86.1) [⟨some 1, none, [], fun lG => SP.fact (i64ok rv86.1 ∧ (0 ≤ rv86.2 ∧ rv86.2 ≤ (tT.length : Int)) ∧ (0 ≤ rv86.1 ∧ (rv86.1 < 4 ∨ rv86.1 = 0)))⟩, ⟨some 1, some 6, [], fun lG => Cl tP [.slice ta tT.length tk, .int .i64 rv86.2]⟩] (wn rfl) rfl rfl rfl (fun G => by refine OpX.n3 (A' := [Cl tP [.slice ta tT.length tk, .int .i64 rv15.2], sl (.slice ta tT.length tk) (tT : List Int)]) (V' := fun g => .int .i64 rv86.1) (B' := fun g => [sl (.slice ta tT.length tk) (tT : List Int), SP.fact (i64ok rv86.1 ∧ (0 ≤ rv86.2 ∧ rv86.2 ≤ (tT.length : Int)) ∧ (0 ≤ rv86.1 ∧ (rv86.1 < 4 ∨ rv86.1 = 0))), Cl tP [.slice ta tT.length tk, .int .i64 rv86.2]]) (by kernel_rfl) (by kernel_rfl) (by kernel_rfl) ?_; refine OpX.postR (OpX.frame [0, 0] rfl (OpX.ofC (fun _ => []) (fun _ => ()) (fun _ => rfl) (by intro _ _ h; cases h) (OpC.fn rfl ca8 rfl) (fn8 tP ta tk tT rv15.2 4 (by (try dsimp only) <;> first | (unfold i64ok; omega) | omega | assumption) (by (try dsimp only) <;> first | (unfold i64ok; omega) | omega | assumption) rv86 hg87))) (fun g => ?_); exact Ent.take (is := [2, 0, 1]) rfl) ?_
          refine JD_v [5] (wn rfl) rfl rfl (OpV.fieldAddr rfl rfl fo54_0 (i := 0) rfl (isPtr_pv _ _)) ?_
          refine JD_v [5] (wn rfl) rfl rfl (OpV.fieldAddrF rfl rfl fo50_0 (i := 0) rfl (isPtr_pv _ _)) ?_
          refine JD_v [5] (wn rfl) rfl rfl (OpV.loadF rfl rfl sh3 (i := 0) rfl (reads_pv _ _) rfl) ?_
          refine JD_v [] (wn rfl) rfl rfl (OpV.move rfl rfl) ?_
          refine JD_x [6, 10, 11] [] (fun lG => .int .i64 rv88.1) [⟨some 6, none, [], fun lG => SP.fact (i64ok rv88.1 ∧ (0 ≤ rv88.2 ∧ rv88.2 ≤ (tT.length : Int)) ∧ (0 ≤ rv88.1 ∧ (rv88.1 < 2 ∨ rv88.1 = 0)))⟩, ⟨some 6, none, [], fun lG => Cl tP [.slice ta tT.length tk, .int .i64 rv88.2]⟩] (wn rfl) rfl rfl rfl (fun G => by refine OpX.n3 (A' := [sl (.slice ta tT.length tk) (tT : List Int), SP.fact (i64ok rv86.1 ∧ (0 ≤ rv86.2 ∧ rv86.2 ≤ (tT.length : Int)) ∧ (0 ≤ rv86.1 ∧ (rv86.1 < 4 ∨ rv86.1 = 0))), Cl tP [.slice ta tT.length tk, .int .i64 rv86.2]]) (V' := fun g => .int .i64 rv88.1) (B' := fun g => [sl (.slice ta tT.length tk) (tT : List Int), SP.fact (i64ok rv86.1 ∧ (0 ≤ rv86.2 ∧ rv86.2 ≤ (tT.length : Int)) ∧ (0 ≤ rv86.1 ∧ (rv86.1 < 4 ∨ rv86.1 = 0))), SP.fact (i64ok rv88.1 ∧ (0 ≤ rv88.2 ∧ rv88.2 ≤ (tT.length : Int)) ∧ (0 ≤ rv88.1 ∧ (rv88.1 < 2 ∨ rv88.1 = 0))), Cl tP [.slice ta tT.length tk, .int .i64 rv88.2]]) (by kernel_rfl) (by kernel_rfl) (by kernel_rfl) ?_; refine OpX.fact 1 rfl (fun h => h) ?_; rintro ⟨he95, he96, he97⟩; have he95 : -9223372036854775808 ≤ rv86.1 ∧ rv86.1 ≤ 9223372036854775807 := he95; refine OpX.postR (OpX.frame [2, 0] rfl (OpX.ofC (fun _ => []) (fun _ => ()) (fun _ => rfl) (by intro _ _ h; cases h) (OpC.fn rfl ca8 rfl) (fn8 tP ta tk tT rv86.2 2 (by (try dsimp only) <;> first | (unfold i64ok; omega) | omega | assumption) (by (try dsimp only) <;> first | (unfold i64ok; omega) | omega | assumption) rv88 hg89))) (fun g => ?_); exact Ent.take (is := [2, 3, 0, 1]) rfl) ?_
          refine JD_x [10, 12] [] (fun lG => .int .i64 (f.Gen.Width - rv88.1)) [] (wn rfl) rfl rfl rfl (fun G => by refine OpX.n3 (A' := [SP.fact (i64ok rv86.1 ∧ (0 ≤ rv86.2 ∧ rv86.2 ≤ (tT.length : Int)) ∧ (0 ≤ rv86.1 ∧ (rv86.1 < 4 ∨ rv86.1 = 0))), SP.fact (i64ok rv88.1 ∧ (0 ≤ rv88.2 ∧ rv88.2 ≤ (tT.length : Int)) ∧ (0 ≤ rv88.1 ∧ (rv88.1 < 2 ∨ rv88.1 = 0)))]) (V' := fun g => .int .i64 (f.Gen.Width - rv88.1)) (B' := fun g => [SP.fact (i64ok rv86.1 ∧ (0 ≤ rv86.2 ∧ rv86.2 ≤ (tT.length : Int)) ∧ (0 ≤ rv86.1 ∧ (rv86.1 < 4 ∨ rv86.1 = 0))), SP.fact (i64ok rv88.1 ∧ (0 ≤ rv88.2 ∧ rv88.2 ≤ (tT.length : Int)) ∧ (0 ≤ rv88.1 ∧ (rv88.1 < 2 ∨ rv88.1 = 0)))]) (by kernel_rfl) (by kernel_rfl) (by kernel_rfl) ?_; refine OpX.fact 0 rfl (fun h => h) ?_; rintro ⟨he98, he99, he100⟩; have he98 : -9223372036854775808 ≤ rv86.1 ∧ rv86.1 ≤ 9223372036854775807 := he98; refine OpX.fact 1 rfl (fun h => h) ?_; rintro ⟨he101, he102, he103⟩; have he101 : -9223372036854775808 ≤ rv88.1 ∧ rv88.1 ≤ 9223372036854775807 := he101; refine OpX.postR (OpX.ofV (by intro _ _ h; cases h) (OpV.sub rfl rfl rfl (by unfold i64ok; omega))) (fun g => ?_); exact Ent.take (is := [0, 1]) rfl) ?_
          refine JD_v [] (wn rfl) rfl rfl (OpV.build (rs := #[.int .i64 rv86.1, .int .i64 (f.Gen.Width - rv88.1)]) rfl st68 (Env.evp_map rfl) rfl) ?_
          refine JD_x [] [9] (fun lG => ((lG.getD 0 []).getD 0 undef)) [⟨some 9, some 12, [9], fun lG => Cr ((lG.getD 0 []).getD 0 undef) 1 [.int .i64 rv86.1, .int .i64 (f.Gen.Width - rv88.1)]⟩] (wn rfl) rfl rfl rfl (fun G => by refine OpX.n3 (A' := []) (V' := fun g => (g.getD 0 undef)) (B' := fun g => [Cr (g.getD 0 undef) 1 [.int .i64 rv86.1, .int .i64 (f.Gen.Width - rv88.1)]]) (by kernel_rfl) (by kernel_rfl) (by kernel_rfl) ?_; refine OpX.postR (OpX.ofA (by intro _ _ h; cases h) (OpA.buildSliceV [.agg #[.int .i64 rv86.1, .int .i64 (f.Gen.Width - rv88.1)]] [.int .i64 rv86.1, .int .i64 (f.Gen.Width - rv88.1)] rfl sl52 sz52 rfl (Env.evp_map rfl) rfl rfl rfl rfl)) (fun g => ?_); exact Ent.take (is := [0]) rfl) ?_
          refine JD_v [0] (wn rfl) rfl rfl (OpV.fieldAddr rfl rfl fo54_2 (i := 0) rfl (isPtr_fact _)) ?_
          refine JD_v [2] (wn rfl) rfl rfl (OpV.loadF rfl rfl sh52 (i := 0) rfl (reads_Cl _ _) rfl) ?_
          refine JD_x [3, 10, 12, 14] [12] (fun lG => ((lG.getD 0 []).getD 0 undef)) [⟨some 12, none, [12], fun lG => os (((lG.getD 0 []).getD 0 undef)) (([(GCopy.mk rv86.1 (f.Gen.Width - rv88.1))] ++ f.Copies) : List GCopy)⟩] (wn rfl) rfl rfl rfl (fun G => by refine OpX.n3 (A' := [os (.slice a13 f.Copies.length k14) (f.Copies : List GCopy), SP.fact (i64ok rv86.1 ∧ (0 ≤ rv86.2 ∧ rv86.2 ≤ (tT.length : Int)) ∧ (0 ≤ rv86.1 ∧ (rv86.1 < 4 ∨ rv86.1 = 0))), SP.fact (i64ok rv88.1 ∧ (0 ≤ rv88.2 ∧ rv88.2 ≤ (tT.length : Int)) ∧ (0 ≤ rv88.1 ∧ (rv88.1 < 2 ∨ rv88.1 = 0))), Cr ((G 9).getD 0 undef) 1 [.int .i64 rv86.1, .int .i64 (f.Gen.Width - rv88.1)]]) (V' := fun g => (g.getD 0 undef)) (B' := fun g => [SP.fact (i64ok rv86.1 ∧ (0 ≤ rv86.2 ∧ rv86.2 ≤ (tT.length : Int)) ∧ (0 ≤ rv86.1 ∧ (rv86.1 < 4 ∨ rv86.1 = 0))), SP.fact (i64ok rv88.1 ∧ (0 ≤ rv88.2 ∧ rv88.2 ≤ (tT.length : Int)) ∧ (0 ≤ rv88.1 ∧ (rv88.1 < 2 ∨ rv88.1 = 0))), os ((g.getD 0 undef)) (([(GCopy.mk rv86.1 (f.Gen.Width - rv88.1))] ++ f.Copies) : List GCopy)]) (by kernel_rfl) (by kernel_rfl) (by kernel_rfl) ?_; refine OpX.fact 1 rfl (fun h => h) ?_; rintro ⟨he104, he105, he106⟩; have he104 : -9223372036854775808 ≤ rv86.1 ∧ rv86.1 ≤ 9223372036854775807 := he104; refine OpX.fact 2 rfl (fun h => h) ?_; rintro ⟨he107, he108, he109⟩; have he107 : -9223372036854775808 ≤ rv88.1 ∧ rv88.1 ≤ 9223372036854775807 := he107; refine OpX.pre [3] rfl (Ent.cr1 (α := GCopy) (A := []) _ (GCopy.mk rv86.1 (f.Gen.Width - rv88.1)) _ (Nat.le_of_ble_eq_true rfl) (fun h => ⟨rfl, (by unfold i64ok; first | omega | (dsimp only; omega)), (by unfold i64ok; first | omega | (dsimp only; omega))⟩)) ?_; refine OpX.seeL (L' := [(70, ((G 9).getD 0 undef)), (72, .slice a13 f.Copies.length k14)]) (Env.sub_all (by kernel_rfl)) ?_; refine OpX.postR (OpX.ofA (by intro _ _ h; cases h) (OpA.frame [0, 0] rfl (OpA.appO (α := GCopy) (xs := [(GCopy.mk rv86.1 (f.Gen.Width - rv88.1))]) (ys := f.Copies) rfl rfl rfl sl52 sl52 sz52 rfl rfl rfl (by show (_ + _) * 16 ≤ 140737488355328; first | omega | (simp only [lens]; omega) | (simp only [lens] at *; omega))))) (fun g => ?_); exact Ent.take (is := [1, 2, 0]) rfl) ?_
          refine JD_v [0] (wn rfl) rfl rfl (OpV.fieldAddr rfl rfl fo54_2 (i := 0) rfl (isPtr_fact _)) ?_
          refine JD_x0 [2, 15] [⟨some 14, none, [12], fun lG => Cl p8 [.int .i64 f.Gen.Width, .slice fa1 f.Gen.Words.length fk1, .int .i64 f.Kill.Width, .slice fa3 f.Kill.Words.length fk3, ((lG.getD 0 []).getD 0 undef)]⟩] (wn rfl) rfl rfl rfl (fun G => by refine OpX.n3 (A' := [Cl p8 [.int .i64 f.Gen.Width, .slice fa1 f.Gen.Words.length fk1, .int .i64 f.Kill.Width, .slice fa3 f.Kill.Words.length fk3, .slice a13 f.Copies.length k14], os (((G 12).getD 0 undef)) (([(GCopy.mk rv86.1 (f.Gen.Width - rv88.1))] ++ f.Copies) : List GCopy)]) (V' := fun g => undef) (B' := fun g => [os (((G 12).getD 0 undef)) (([(GCopy.mk rv86.1 (f.Gen.Width - rv88.1))] ++ f.Copies) : List GCopy), Cl p8 [.int .i64 f.Gen.Width, .slice fa1 f.Gen.Words.length fk1, .int .i64 f.Kill.Width, .slice fa3 f.Kill.Words.length fk3, ((G 12).getD 0 undef)]]) (by kernel_rfl) (by kernel_rfl) (by kernel_rfl) ?_; refine OpX.fact 1 rfl os_one ?_; intro ho110; refine OpX.seeL (L' := [(73, ((G 12).getD 0 undef)), (74, fptr p8 4)]) (Env.sub_all (by kernel_rfl)) ?_; refine OpX.postR (OpX.ofS (by intro _ _ h; cases h) rfl (OpS.frame [0] rfl (OpS.storeClF [((G 12).getD 0 undef)] [.int .i64 f.Gen.Width, .slice fa1 f.Gen.Words.length fk1, .int .i64 f.Kill.Width, .slice fa3 f.Kill.Words.length fk3, ((G 12).getD 0 undef)] rfl rfl rfl sh52 (cells_of_one ho110) rfl (by simp only [List.all_cons, List.all_nil, ho110, Bool.and_true, Bool.true_and] <;> rfl) (Nat.le_of_ble_eq_true rfl) rfl))) (fun g => ?_); exact Ent.take (is := [1, 0]) rfl) ?_
          refine JD_nil ⟨by kernel_rfl, fun G => ?_⟩
          refine JJ_weaken (L' := [(4, p7), (5, p8)]) (A' := [SP.fact (isP p8), Cl p7 [.int .i64 0, .slice none 0 0, .int .i64 0, .slice none 0 0, .slice none 0 0], pv p6 [.int .i64 f.Gen.Width, .slice fa1 f.Gen.Words.length fk1, .int .i64 f.Kill.Width, .slice fa3 f.Kill.Words.length fk3, .slice fa4 f.Copies.length fk4], sl (.slice ta tT.length tk) (tT : List Int), sl (.slice fa1 f.Gen.Words.length fk1) (f.Gen.Words : List (BitVec 64)), sl (.slice fa3 f.Kill.Words.length fk3) (f.Kill.Words : List (BitVec 64)), sl (.slice fa4 f.Copies.length fk4) (f.Copies : List GCopy), SP.fact (i64ok rv86.1 ∧ (0 ≤ rv86.2 ∧ rv86.2 ≤ (tT.length : Int)) ∧ (0 ≤ rv86.1 ∧ (rv86.1 < 4 ∨ rv86.1 = 0))), SP.fact (i64ok rv88.1 ∧ (0 ≤ rv88.2 ∧ rv88.2 ≤ (tT.length : Int)) ∧ (0 ≤ rv88.1 ∧ (rv88.1 < 2 ∨ rv88.1 = 0))), Cl tP [.slice ta tT.length tk, .int .i64 rv88.2], os (((G 12).getD 0 undef)) (([(GCopy.mk rv86.1 (f.Gen.Width - rv88.1))] ++ f.Copies) : List GCopy), Cl p8 [.int .i64 f.Gen.Width, .slice fa1 f.Gen.Words.length fk1, .int .i64 f.Kill.Width, .slice fa3 f.Kill.Words.length fk3, ((G 12).getD 0 undef)]]) (Env.sub_all (by kernel_rfl)) (Ent.of_eq (by kernel_rfl)) ?_
          generalize ((G 12).getD 0 undef) = c93
          refine JJ_fact 7 rfl (fun h => h) ?_
          rintro ⟨he111, he112, he113⟩
          have he111 : -9223372036854775808 ≤ rv86.1 ∧ rv86.1 ≤ 9223372036854775807 := he111
          refine JJ_fact 8 rfl (fun h => h) ?_
          rintro ⟨he114, he115, he116⟩
          have he114 : -9223372036854775808 ≤ rv88.1 ∧ rv88.1 ≤ 9223372036854775807 := he114
          refine JJ_keep [1, 1, 2, 3, 4, 5, 8, 8, 8] rfl ?_
          refine JJ_slice 7 rfl os_slice ?_
          rintro a117 k118 rfl
          refine JJ_fact 7 rfl os_bytes ?_
          intro hl119
          have hl119 : ([(GCopy.mk rv86.1 (f.Gen.Width - rv88.1))] ++ f.Copies).length * 16 ≤ 140737488355328 := hl119
          refine JK_blk ?_
          refine JK_seq ?_
          refine JK_region ?_
          refine JO_q rfl rfl rfl (OpV.loadA rfl rfl sh54 (i := 8) rfl (reads_Cl _ _) rfl) ?_
          refine JO_store rfl rfl (OpS.frame [0] rfl (OpS.storeCl [.int .i64 f.Gen.Width, .slice fa1 f.Gen.Words.length fk1, .int .i64 f.Kill.Width, .slice fa3 f.Kill.Words.length fk3, .slice a117 (([(GCopy.mk rv86.1 (f.Gen.Width - rv88.1))] ++ f.Copies).length) k118] [.int .i64 f.Gen.Width, .slice fa1 f.Gen.Words.length fk1, .int .i64 f.Kill.Width, .slice fa3 f.Kill.Words.length fk3, .slice a117 (([(GCopy.mk rv86.1 (f.Gen.Width - rv88.1))] ++ f.Copies).length) k118] rfl rfl rfl sh54 rfl rfl rfl (Nat.le_of_ble_eq_true rfl) rfl)) ?_
          refine JO_nil ?_
          refine JJ_loc [7] rfl (Ent.freeze _ _) ?_
          have hq : rr = ((GTransfer.mk f.Gen f.Kill ([(GCopy.mk rv86.1 (f.Gen.Width - rv88.1))] ++ f.Copies)), rv88.2) := hrr.symm.trans (by simp only [Tape_SpoilTransfer, h21, h33, h45, h84, hg16, hg87, hg89, cs4])
          replace hrr := hrr.trans hq
          subst rr
          refine JK_return ((.slice fa1 f.Gen.Words.length fk1, .slice fa3 f.Kill.Words.length fk3, .slice a117 (([(GCopy.mk rv86.1 (f.Gen.Width - rv88.1))] ++ f.Copies).length) k118)) rfl (.cellN 1 rfl sh54 rfl (reads_Cl _ _) rfl .nil) rfl (by refine ⟨?_, ?_, ?_⟩ <;> (try dsimp only) <;> first | omega | (unfold i64ok; omega) | (simp only [lens]; omega) | assumption | trivial) (Ent.take (is := [4, 5, 0, 7]) rfl)
        · skip
          have g120 : rv15.1 ≠ 3 := ne_of_beq_false h84
          refine JK_seq ?_
          refine JK_region ?_
          refine JO_q rfl rfl rfl (OpV.fieldAddr rfl rfl fo54_2 (i := 1) rfl (isPtr_Cl _ _)) ?_
          refine JO_q rfl rfl rfl (OpV.loadF rfl rfl sh52 (i := 1) rfl (reads_Cl _ _) rfl) ?_
          refine JO_q rfl rfl rfl (OpV.len rfl rfl sl52) ?_
          refine JO_q rfl rfl rfl (OpV.gtr rfl rfl rfl) ?_
          refine JO_nil ?_
          refine JK_cond (b := decide (0 < ((f.Copies.length : Nat) : Int))) rfl (fun (h121 : decide (0 < ((f.Copies.length : Nat) : Int)) = true) => ?_) (fun (h121 : decide (0 < ((f.Copies.length : Nat) : Int)) = false) => ?_)
          · skip
            have g122 : (0 < ((f.Copies.length : Nat) : Int)) := of_decide_eq_true h121
            refine JJ_fact 1 rfl isP_Cl ?_
            intro hp123
            refine JJ_addFact hp123 ?_
            refine JJ_peekO_GCopy ((((f.Copies.length : Nat) : Int) - 1) : Int).toNat 3 rfl (by first | omega | (simp only [lens]; omega) | (simp only [lens] at *; omega)) ?_
            intro hb124 hb125
            have hb124 : -9223372036854775808 ≤ (f.Copies.getD ((((f.Copies.length : Nat) : Int) - 1) : Int).toNat default).From ∧ (f.Copies.getD ((((f.Copies.length : Nat) : Int) - 1) : Int).toNat default).From ≤ 9223372036854775807 := hb124
            have hb125 : -9223372036854775808 ≤ (f.Copies.getD ((((f.Copies.length : Nat) : Int) - 1) : Int).toNat default).To ∧ (f.Copies.getD ((((f.Copies.length : Nat) : Int) - 1) : Int).toNat default).To ≤ 9223372036854775807 := hb125
            have hn128 : ((f.Copies ++ [(f.Copies.getD ((((f.Copies.length : Nat) : Int) - 1) : Int).toNat default)]) : List GCopy).length = (f.Copies : List GCopy).length + ([(f.Copies.getD ((((f.Copies.length : Nat) : Int) - 1) : Int).toNat default)] : List GCopy).length := List.length_append
            refine JK_drawJ [0, 1, 0, 4, 0, 16, 48, 112, 252, 508, 1020, 2047, 4095, 8191] [some 11, none, none, some 13] fmix ?_
            refine JD_v [1] (wn rfl) rfl rfl (OpV.fieldAddr rfl rfl fo54_2 (i := 0) rfl (isPtr_fact _)) ?_
            refine JD_v [3] (wn rfl) rfl rfl (OpV.loadF rfl rfl sh52 (i := 0) rfl (reads_Cl _ _) rfl) ?_
            refine JD_v [1] (wn rfl) rfl rfl (OpV.fieldAddr rfl rfl fo54_2 (i := 0) rfl (isPtr_fact _)) ?_
            refine JD_v [3] (wn rfl) rfl rfl (OpV.loadF rfl rfl sh52 (i := 0) rfl (reads_Cl _ _) rfl) ?_
            refine JD_v [1] (wn rfl) rfl rfl (OpV.fieldAddr rfl rfl fo54_2 (i := 0) rfl (isPtr_fact _)) ?_
            refine JD_v [3] (wn rfl) rfl rfl (OpV.loadF rfl rfl sh52 (i := 0) rfl (reads_Cl _ _) rfl) ?_
            refine JD_v [] (wn rfl) rfl rfl (OpV.len rfl rfl sl52) ?_
            refine JD_v [] (wn rfl) rfl rfl (OpV.sub rfl rfl rfl (by unfold i64ok; omega)) ?_
            refine JD_v [0] (wn rfl) rfl rfl (OpV.indexAddr (m := 0) rfl rfl rfl sl52 rfl (isSl_oread _ _ _ _) (by first | omega | (simp only [lens]; omega) | (simp only [lens] at *; omega))) ?_
            refine JD_v [0] (wn rfl) rfl rfl (OpV.loadA rfl rfl sh68 (i := 0) rfl (reads_oread _ _ _ _) rfl) ?_
            refine JD_x [] [10] (fun lG => ((lG.getD 0 []).getD 0 undef)) [⟨some 10, some 11, [10], fun lG => Cr ((lG.getD 0 []).getD 0 undef) 1 [.int .i64 ((f.Copies.getD ((((f.Copies.length : Nat) : Int) - 1) : Int).toNat default).From), .int .i64 ((f.Copies.getD ((((f.Copies.length : Nat) : Int) - 1) : Int).toNat default).To)]⟩] (wn rfl) rfl rfl rfl (fun G => by refine OpX.n3 (A' := []) (V' := fun g => (g.getD 0 undef)) (B' := fun g => [Cr (g.getD 0 undef) 1 [.int .i64 ((f.Copies.getD ((((f.Copies.length : Nat) : Int) - 1) : Int).toNat default).From), .int .i64 ((f.Copies.getD ((((f.Copies.length : Nat) : Int) - 1) : Int).toNat default).To)]]) (by kernel_rfl) (by kernel_rfl) (by kernel_rfl) ?_; refine OpX.postR (OpX.ofA (by intro _ _ h; cases h) (OpA.buildSliceV [.agg #[.int .i64 ((f.Copies.getD ((((f.Copies.length : Nat) : Int) - 1) : Int).toNat default).From), .int .i64 ((f.Copies.getD ((((f.Copies.length : Nat) : Int) - 1) : Int).toNat default).To)]] [.int .i64 ((f.Copies.getD ((((f.Copies.length : Nat) : Int) - 1) : Int).toNat default).From), .int .i64 ((f.Copies.getD ((((f.Copies.length : Nat) : Int) - 1) : Int).toNat default).To)] rfl sl52 sz52 rfl (Env.evp_map rfl) rfl rfl rfl rfl)) (fun g => ?_); exact Ent.take (is := [0]) rfl) ?_
            refine JD_x [0, 10] [11] (fun lG => ((lG.getD 0 []).getD 0 undef)) [⟨some 11, none, [11], fun lG => os (((lG.getD 0 []).getD 0 undef)) ((f.Copies ++ [(f.Copies.getD ((((f.Copies.length : Nat) : Int) - 1) : Int).toNat default)]) : List GCopy)⟩] (wn rfl) rfl rfl rfl (fun G => by refine OpX.n3 (A' := [oread (.slice a13 f.Copies.length k14) (f.Copies : List GCopy) ((((f.Copies.length : Nat) : Int) - 1) : Int).toNat [.int .i64 ((f.Copies.getD ((((f.Copies.length : Nat) : Int) - 1) : Int).toNat default).From), .int .i64 ((f.Copies.getD ((((f.Copies.length : Nat) : Int) - 1) : Int).toNat default).To)], Cr ((G 10).getD 0 undef) 1 [.int .i64 ((f.Copies.getD ((((f.Copies.length : Nat) : Int) - 1) : Int).toNat default).From), .int .i64 ((f.Copies.getD ((((f.Copies.length : Nat) : Int) - 1) : Int).toNat default).To)]]) (V' := fun g => (g.getD 0 undef)) (B' := fun g => [os ((g.getD 0 undef)) ((f.Copies ++ [(f.Copies.getD ((((f.Copies.length : Nat) : Int) - 1) : Int).toNat default)]) : List GCopy)]) (by kernel_rfl) (by kernel_rfl) (by kernel_rfl) ?_; refine OpX.pre [0] rfl (Ent.oread _ _ _ _) ?_; refine OpX.pre [1] rfl (Ent.cr1 (α := GCopy) (A := []) _ (f.Copies.getD ((((f.Copies.length : Nat) : Int) - 1) : Int).toNat default) _ (Nat.le_of_ble_eq_true rfl) (fun h => ⟨rfl, (by unfold i64ok; first | omega | (dsimp only; omega)), (by unfold i64ok; first | omega | (dsimp only; omega))⟩)) ?_; refine OpX.seeL (L' := [(19, .slice a13 f.Copies.length k14), (28, ((G 10).getD 0 undef))]) (Env.sub_all (by kernel_rfl)) ?_; refine OpX.postR (OpX.ofA (by intro _ _ h; cases h) (OpA.frame [1, 0] rfl (OpA.appO (α := GCopy) (xs := f.Copies) (ys := [(f.Copies.getD ((((f.Copies.length : Nat) : Int) - 1) : Int).toNat default)]) rfl rfl rfl sl52 sl52 sz52 rfl rfl rfl (by show (_ + _) * 16 ≤ 140737488355328; first | omega | (simp only [lens]; omega) | (simp only [lens] at *; omega))))) (fun g => ?_); exact Ent.take (is := [0]) rfl) ?_
            refine JD_v [1] (wn rfl) rfl rfl (OpV.fieldAddr rfl rfl fo54_2 (i := 0) rfl (isPtr_fact _)) ?_
            refine JD_x0 [3, 11] [⟨some 13, none, [11], fun lG => Cl p8 [.int .i64 f.Gen.Width, .slice fa1 f.Gen.Words.length fk1, .int .i64 f.Kill.Width, .slice fa3 f.Kill.Words.length fk3, ((lG.getD 0 []).getD 0 undef)]⟩] (wn rfl) rfl rfl rfl (fun G => by refine OpX.n3 (A' := [Cl p8 [.int .i64 f.Gen.Width, .slice fa1 f.Gen.Words.length fk1, .int .i64 f.Kill.Width, .slice fa3 f.Kill.Words.length fk3, .slice a13 f.Copies.length k14], os (((G 11).getD 0 undef)) ((f.Copies ++ [(f.Copies.getD ((((f.Copies.length : Nat) : Int) - 1) : Int).toNat default)]) : List GCopy)]) (V' := fun g => undef) (B' := fun g => [os (((G 11).getD 0 undef)) ((f.Copies ++ [(f.Copies.getD ((((f.Copies.length : Nat) : Int) - 1) : Int).toNat default)]) : List GCopy), Cl p8 [.int .i64 f.Gen.Width, .slice fa1 f.Gen.Words.length fk1, .int .i64 f.Kill.Width, .slice fa3 f.Kill.Words.length fk3, ((G 11).getD 0 undef)]]) (by kernel_rfl) (by kernel_rfl) (by kernel_rfl) ?_; refine OpX.fact 1 rfl os_one ?_; intro ho129; refine OpX.seeL (L' := [(29, ((G 11).getD 0 undef)), (30, fptr p8 4)]) (Env.sub_all (by kernel_rfl)) ?_; refine OpX.postR (OpX.ofS (by intro _ _ h; cases h) rfl (OpS.frame [0] rfl (OpS.storeClF [((G 11).getD 0 undef)] [.int .i64 f.Gen.Width, .slice fa1 f.Gen.Words.length fk1, .int .i64 f.Kill.Width, .slice fa3 f.Kill.Words.length fk3, ((G 11).getD 0 undef)] rfl rfl rfl sh52 (cells_of_one ho129) rfl (by simp only [List.all_cons, List.all_nil, ho129, Bool.and_true, Bool.true_and] <;> rfl) (Nat.le_of_ble_eq_true rfl) rfl))) (fun g => ?_); exact Ent.take (is := [1, 0]) rfl) ?_
            refine JD_nil ⟨by kernel_rfl, fun G => ?_⟩
            refine JJ_weaken (L' := [(4, p7), (5, p8)]) (A' := [SP.fact (isP p8), Cl tP [.slice ta tT.length tk, .int .i64 rv15.2], Cl p7 [.int .i64 0, .slice none 0 0, .int .i64 0, .slice none 0 0, .slice none 0 0], pv p6 [.int .i64 f.Gen.Width, .slice fa1 f.Gen.Words.length fk1, .int .i64 f.Kill.Width, .slice fa3 f.Kill.Words.length fk3, .slice fa4 f.Copies.length fk4], sl (.slice ta tT.length tk) (tT : List Int), sl (.slice fa1 f.Gen.Words.length fk1) (f.Gen.Words : List (BitVec 64)), sl (.slice fa3 f.Kill.Words.length fk3) (f.Kill.Words : List (BitVec 64)), sl (.slice fa4 f.Copies.length fk4) (f.Copies : List GCopy), os (((G 11).getD 0 undef)) ((f.Copies ++ [(f.Copies.getD ((((f.Copies.length : Nat) : Int) - 1) : Int).toNat default)]) : List GCopy), Cl p8 [.int .i64 f.Gen.Width, .slice fa1 f.Gen.Words.length fk1, .int .i64 f.Kill.Width, .slice fa3 f.Kill.Words.length fk3, ((G 11).getD 0 undef)]]) (Env.sub_all (by kernel_rfl)) (Ent.of_eq (by kernel_rfl)) ?_
            generalize ((G 11).getD 0 undef) = c127
            refine JJ_keep [1, 1, 1, 2, 3, 4, 5, 6, 6] rfl ?_
            refine JJ_slice 7 rfl os_slice ?_
            rintro a130 k131 rfl
            refine JJ_fact 7 rfl os_bytes ?_
            intro hl132
            have hl132 : (f.Copies ++ [(f.Copies.getD ((((f.Copies.length : Nat) : Int) - 1) : Int).toNat default)]).length * 16 ≤ 140737488355328 := hl132
            refine JK_blk ?_
            refine JK_seq ?_
            refine JK_region ?_
            refine JO_q rfl rfl rfl (OpV.loadA rfl rfl sh54 (i := 8) rfl (reads_Cl _ _) rfl) ?_
            refine JO_store rfl rfl (OpS.frame [1] rfl (OpS.storeCl [.int .i64 f.Gen.Width, .slice fa1 f.Gen.Words.length fk1, .int .i64 f.Kill.Width, .slice fa3 f.Kill.Words.length fk3, .slice a130 ((f.Copies ++ [(f.Copies.getD ((((f.Copies.length : Nat) : Int) - 1) : Int).toNat default)]).length) k131] [.int .i64 f.Gen.Width, .slice fa1 f.Gen.Words.length fk1, .int .i64 f.Kill.Width, .slice fa3 f.Kill.Words.length fk3, .slice a130 ((f.Copies ++ [(f.Copies.getD ((((f.Copies.length : Nat) : Int) - 1) : Int).toNat default)]).length) k131] rfl rfl rfl sh54 rfl rfl rfl (Nat.le_of_ble_eq_true rfl) rfl)) ?_
            refine JO_nil ?_
            refine JJ_loc [7] rfl (Ent.freeze _ _) ?_
            have hq : rr = ((GTransfer.mk f.Gen f.Kill (f.Copies ++ [(f.Copies.getD ((((f.Copies.length : Nat) : Int) - 1) : Int).toNat default)])), rv15.2) := hrr.symm.trans (by simp only [Tape_SpoilTransfer, h21, h33, h45, h84, h121, hg16, cs4])
            replace hrr := hrr.trans hq
            subst rr
            refine JK_return ((.slice fa1 f.Gen.Words.length fk1, .slice fa3 f.Kill.Words.length fk3, .slice a130 ((f.Copies ++ [(f.Copies.getD ((((f.Copies.length : Nat) : Int) - 1) : Int).toNat default)]).length) k131)) rfl (.cellN 1 rfl sh54 rfl (reads_Cl _ _) rfl .nil) rfl (by refine ⟨?_, ?_, ?_⟩ <;> (try dsimp only) <;> first | omega | (unfold i64ok; omega) | (simp only [lens]; omega) | assumption | trivial) (Ent.take (is := [5, 6, 0, 2]) rfl)
          · skip
            have g133 : ¬ (0 < ((f.Copies.length : Nat) : Int)) := of_decide_eq_false h121
            refine JK_skip ?_
            refine JK_blk ?_
            refine JK_seq ?_
            refine JK_region ?_
            refine JO_q rfl rfl rfl (OpV.loadA rfl rfl sh54 (i := 1) rfl (reads_Cl _ _) rfl) ?_
            refine JO_store rfl rfl (OpS.frame [3] rfl (OpS.storeCl [.int .i64 f.Gen.Width, .slice fa1 f.Gen.Words.length fk1, .int .i64 f.Kill.Width, .slice fa3 f.Kill.Words.length fk3, .slice a13 f.Copies.length k14] [.int .i64 f.Gen.Width, .slice fa1 f.Gen.Words.length fk1, .int .i64 f.Kill.Width, .slice fa3 f.Kill.Words.length fk3, .slice a13 f.Copies.length k14] rfl rfl rfl sh54 rfl rfl rfl (Nat.le_of_ble_eq_true rfl) rfl)) ?_
            refine JO_nil ?_
            refine JJ_loc [3] rfl (Ent.freeze _ _) ?_
            have hq : rr = (f, rv15.2) := hrr.symm.trans (by simp only [Tape_SpoilTransfer, h21, h33, h45, h84, h121, hg16, cs4])
            replace hrr := hrr.trans hq
            subst rr
            refine JK_return ((.slice fa1 f.Gen.Words.length fk1, .slice fa3 f.Kill.Words.length fk3, .slice a13 f.Copies.length k14)) rfl (.cellN 1 rfl sh54 rfl (reads_Cl _ _) rfl .nil) rfl (by refine ⟨?_, ?_, ?_⟩ <;> (try dsimp only) <;> first | omega | (unfold i64ok; omega) | (simp only [lens]; omega) | assumption | trivial) (Ent.take (is := [6, 7, 0, 2]) rfl)
set_option maxHeartbeats 20000000 in
set_option maxRecDepth 100000 in
/- (*flowquery/flqgen.Tape).SpoilSystem -/
theorem fn11 (tP : Value) (ta : Option Addr) (tk : Nat) (tT : List Int) (tI : Int) (s : GSystem) (sa1 : Option Addr) (sk1 : Nat) (sa2 : Option Addr) (sk2 : Nat) (sa3 : Option Addr) (sk3 : Nat) (htI : 0 ≤ tI ∧ tI ≤ (tT.length : Int)) (hs_0 : i64ok s.Width) (hv : VSys s) (rr : GSystem × Int) (hrr : Tape_SpoilSystem tT tI s = rr) :
    FT Try.prog 11 #[tP, .agg #[.int .i64 s.Width, .slice sa1 s.Deps.length sk1, .slice sa2 s.Transfers.length sk2, .slice sa3 s.Boundary.length sk3]] [Cl tP [.slice ta tT.length tk, .int .i64 tI], sl (.slice ta tT.length tk) (tT : List Int), sl (.slice sa1 s.Deps.length sk1) (s.Deps : List (List Int)), sl (.slice sa2 s.Transfers.length sk2) (s.Transfers : List GTransfer), sl (.slice sa3 s.Boundary.length sk3) (s.Boundary : List GSet)]
      (fun g : Value × Value × Value => i64ok rr.1.Width ∧ (0 ≤ rr.2 ∧ rr.2 ≤ (tT.length : Int)))
      (fun g => .agg #[.int .i64 rr.1.Width, g.1, g.2.1, g.2.2])
      (fun g => [sl (g.1) (rr.1.Deps : List (List Int)), sl (g.2.1) (rr.1.Transfers : List GTransfer), sl (g.2.2) (rr.1.Boundary : List GSet), Cl tP [.slice ta tT.length tk, .int .i64 rr.2]]) := by
  refine FT_intro (args := [tP, .agg #[.int .i64 s.Width, .slice sa1 s.Deps.length sk1, .slice sa2 s.Transfers.length sk2, .slice sa3 s.Boundary.length sk3]]) Try.func11 rfl rfl ?_
  intro w0 M0 F0
  have hs_0 : -9223372036854775808 ≤ s.Width ∧ s.Width ≤ 9223372036854775807 := hs_0
  refine JJ_fact 1 rfl sl_bytes ?_
  intro hl1
  have hl1 : tT.length * 8 ≤ 140737488355328 := hl1
  refine JJ_fact 1 rfl sl_ok ?_
  intro ho2
  refine JJ_fact 2 rfl sl_bytes ?_
  intro hl3
  have hl3 : s.Deps.length * 24 ≤ 140737488355328 := hl3
  refine JJ_fact 3 rfl sl_bytes ?_
  intro hl4
  have hl4 : s.Transfers.length * 88 ≤ 140737488355328 := hl4
  refine JJ_fact 4 rfl sl_bytes ?_
  intro hl5
  have hl5 : s.Boundary.length * 32 ≤ 140737488355328 := hl5
  have hv1 := hv.n
  have hv2 := hv.tl
  have hv3 := hv.bl
  have hv4 := hv.w
  have hv5 := hv.dep_len
  refine JK_seq ?_
  refine JK_region ?_
  refine JO_act rfl rfl rfl (OpA.box rfl rfl) ?_
  intro p6
  refine JO_act rfl rfl rfl (OpA.alloc rfl ze27) ?_
  intro p7
  refine JO_nil ?_
  refine JK_seq ?_
  refine JK_drawJ [0, 1, 0, 0, 8, 28, 0, 0, 128, 508, 0, 0, 2048, 8188, 16383, 0, 65535] [] fmix ?_
  refine JD_v [1] (wn rfl) rfl rfl (OpV.fieldAddr rfl rfl fo27_0 (i := 0) rfl (isPtr_pv _ _)) ?_
  refine JD_v [1] (wn rfl) rfl rfl (OpV.loadF rfl rfl sh3 (i := 0) rfl (reads_pv _ _) rfl) ?_
  refine JD_x [] [2] (fun lG => ((lG.getD 0 []).getD 0 undef)) [⟨some 2, some 5, [2], fun lG => Cr ((lG.getD 0 []).getD 0 undef) 0 []⟩] (wn rfl) rfl rfl rfl (fun G => by refine OpX.n3 (A' := []) (V' := fun g => (g.getD 0 undef)) (B' := fun g => [Cr (g.getD 0 undef) 0 []]) (by kernel_rfl) (by kernel_rfl) (by kernel_rfl) ?_; refine OpX.postR (OpX.ofA (by intro _ _ h; cases h) (OpA.buildSlice0 rfl sl23)) (fun g => ?_); exact Ent.take (is := [0]) rfl) ?_
  refine JD_v [1] (wn rfl) rfl rfl (OpV.fieldAddr rfl rfl fo27_1 (i := 0) rfl (isPtr_pv _ _)) ?_
  refine JD_v [1] (wn rfl) rfl rfl (OpV.loadF rfl rfl sh23 (i := 0) rfl (reads_pv _ _) rfl) ?_
  refine JD_x [4, 7] [5] (fun lG => ((lG.getD 0 []).getD 0 undef)) [⟨some 5, none, [5], fun lG => os (((lG.getD 0 []).getD 0 undef)) (s.Deps : List (List Int))⟩] (wn rfl) rfl rfl rfl (fun G => by refine OpX.n3 (A' := [sl (.slice sa1 s.Deps.length sk1) (s.Deps : List (List Int)), Cr ((G 2).getD 0 undef) 0 []]) (V' := fun g => (g.getD 0 undef)) (B' := fun g => [sl (.slice sa1 s.Deps.length sk1) (s.Deps : List (List Int)), os ((g.getD 0 undef)) (s.Deps : List (List Int))]) (by kernel_rfl) (by kernel_rfl) (by kernel_rfl) ?_; refine OpX.pre [1] rfl (Ent.crNil (α := List Int) _) ?_; refine OpX.seeL (L' := [(9, ((G 2).getD 0 undef)), (11, .slice sa1 s.Deps.length sk1)]) (Env.sub_all (by kernel_rfl)) ?_; refine OpX.postR (OpX.ofA (by intro _ _ h; cases h) (OpA.frame [0, 0] rfl (OpA.app0 (α := List Int) (ys := s.Deps) rfl rfl rfl sl23 sl23 sz23 rfl rfl rfl (by show _ * 24 ≤ 140737488355328; first | omega | (simp only [lens]; omega) | (simp only [lens] at *; omega))))) (fun g => ?_); exact Ent.take (is := [1, 0]) rfl) ?_
  refine JD_x [] [6] (fun lG => ((lG.getD 0 []).getD 0 undef)) [⟨some 6, some 9, [6], fun lG => Cr ((lG.getD 0 []).getD 0 undef) 0 []⟩] (wn rfl) rfl rfl rfl (fun G => by refine OpX.n3 (A' := []) (V' := fun g => (g.getD 0 undef)) (B' := fun g => [Cr (g.getD 0 undef) 0 []]) (by kernel_rfl) (by kernel_rfl) (by kernel_rfl) ?_; refine OpX.postR (OpX.ofA (by intro _ _ h; cases h) (OpA.buildSlice0 rfl sl24)) (fun g => ?_); exact Ent.take (is := [0]) rfl) ?_
  refine JD_v [1] (wn rfl) rfl rfl (OpV.fieldAddr rfl rfl fo27_2 (i := 0) rfl (isPtr_pv _ _)) ?_
  refine JD_v [1] (wn rfl) rfl rfl (OpV.loadF rfl rfl sh24 (i := 0) rfl (reads_pv _ _) rfl) ?_
  refine JD_x [5, 9] [9] (fun lG => ((lG.getD 0 []).getD 0 undef)) [⟨some 9, none, [9], fun lG => os (((lG.getD 0 []).getD 0 undef)) (s.Transfers : List GTransfer)⟩] (wn rfl) rfl rfl rfl (fun G => by refine OpX.n3 (A' := [sl (.slice sa2 s.Transfers.length sk2) (s.Transfers : List GTransfer), Cr ((G 6).getD 0 undef) 0 []]) (V' := fun g => (g.getD 0 undef)) (B' := fun g => [sl (.slice sa2 s.Transfers.length sk2) (s.Transfers : List GTransfer), os ((g.getD 0 undef)) (s.Transfers : List GTransfer)]) (by kernel_rfl) (by kernel_rfl) (by kernel_rfl) ?_; refine OpX.pre [1] rfl (Ent.crNil (α := GTransfer) _) ?_; refine OpX.seeL (L' := [(13, ((G 6).getD 0 undef)), (15, .slice sa2 s.Transfers.length sk2)]) (Env.sub_all (by kernel_rfl)) ?_; refine OpX.postR (OpX.ofA (by intro _ _ h; cases h) (OpA.frame [0, 0] rfl (OpA.app0 (α := GTransfer) (ys := s.Transfers) rfl rfl rfl sl24 sl24 sz24 rfl rfl rfl (by show _ * 88 ≤ 140737488355328; first | omega | (simp only [lens]; omega) | (simp only [lens] at *; omega))))) (fun g => ?_); exact Ent.take (is := [1, 0]) rfl) ?_
  refine JD_x [] [10] (fun lG => ((lG.getD 0 []).getD 0 undef)) [⟨some 10, some 13, [10], fun lG => Cr ((lG.getD 0 []).getD 0 undef) 0 []⟩] (wn rfl) rfl rfl rfl (fun G => by refine OpX.n3 (A' := []) (V' := fun g => (g.getD 0 undef)) (B' := fun g => [Cr (g.getD 0 undef) 0 []]) (by kernel_rfl) (by kernel_rfl) (by kernel_rfl) ?_; refine OpX.postR (OpX.ofA (by intro _ _ h; cases h) (OpA.buildSlice0 rfl sl25)) (fun g => ?_); exact Ent.take (is := [0]) rfl) ?_
  refine JD_v [1] (wn rfl) rfl rfl (OpV.fieldAddr rfl rfl fo27_3 (i := 0) rfl (isPtr_pv _ _)) ?_
  refine JD_v [1] (wn rfl) rfl rfl (OpV.loadF rfl rfl sh25 (i := 0) rfl (reads_pv _ _) rfl) ?_
  refine JD_x [6, 11] [13] (fun lG => ((lG.getD 0 []).getD 0 undef)) [⟨some 13, none, [13], fun lG => os (((lG.getD 0 []).getD 0 undef)) (s.Boundary : List GSet)⟩] (wn rfl) rfl rfl rfl (fun G => by refine OpX.n3 (A' := [sl (.slice sa3 s.Boundary.length sk3) (s.Boundary : List GSet), Cr ((G 10).getD 0 undef) 0 []]) (V' := fun g => (g.getD 0 undef)) (B' := fun g => [sl (.slice sa3 s.Boundary.length sk3) (s.Boundary : List GSet), os ((g.getD 0 undef)) (s.Boundary : List GSet)]) (by kernel_rfl) (by kernel_rfl) (by kernel_rfl) ?_; refine OpX.pre [1] rfl (Ent.crNil (α := GSet) _) ?_; refine OpX.seeL (L' := [(17, ((G 10).getD 0 undef)), (19, .slice sa3 s.Boundary.length sk3)]) (Env.sub_all (by kernel_rfl)) ?_; refine OpX.postR (OpX.ofA (by intro _ _ h; cases h) (OpA.frame [0, 0] rfl (OpA.app0 (α := GSet) (ys := s.Boundary) rfl rfl rfl sl25 sl25 sz25 rfl rfl rfl (by show _ * 32 ≤ 140737488355328; first | omega | (simp only [lens]; omega) | (simp only [lens] at *; omega))))) (fun g => ?_); exact Ent.take (is := [1, 0]) rfl) ?_
  refine JD_x [8, 10, 12] [5, 9, 13] (fun lG => .agg #[.int .i64 s.Width, ((lG.getD 0 []).getD 0 undef), ((lG.getD 1 []).getD 0 undef), ((lG.getD 2 []).getD 0 undef)]) [] (wn rfl) rfl rfl rfl (fun G => by refine OpX.n3 (A' := [os (((G 5).getD 0 undef)) (s.Deps : List (List Int)), os (((G 9).getD 0 undef)) (s.Transfers : List GTransfer), os (((G 13).getD 0 undef)) (s.Boundary : List GSet)]) (V' := fun g => .agg #[.int .i64 s.Width, ((G 5).getD 0 undef), ((G 9).getD 0 undef), ((G 13).getD 0 undef)]) (B' := fun g => [os (((G 5).getD 0 undef)) (s.Deps : List (List Int)), os (((G 9).getD 0 undef)) (s.Transfers : List GTransfer), os (((G 13).getD 0 undef)) (s.Boundary : List GSet)]) (by kernel_rfl) (by kernel_rfl) (by kernel_rfl) ?_; refine OpX.seeL (L' := [(8, .int .i64 s.Width), (12, ((G 5).getD 0 undef)), (16, ((G 9).getD 0 undef)), (20, ((G 13).getD 0 undef))]) (Env.sub_all (by kernel_rfl)) ?_; refine OpX.open 0 rfl os_slice ?_; intro aq15 kq16 eq17; rw [eq17]; refine OpX.open 1 rfl os_slice ?_; intro aq18 kq19 eq20; rw [eq20]; refine OpX.open 2 rfl os_slice ?_; intro aq21 kq22 eq23; rw [eq23]; refine OpX.postR (OpX.ofV (by intro _ _ h; cases h) (OpV.build (rs := #[.int .i64 s.Width, .slice aq15 ((s.Deps : List (List Int)).length) kq16, .slice aq18 ((s.Transfers : List GTransfer).length) kq19, .slice aq21 ((s.Boundary : List GSet).length) kq22]) rfl st27 (Env.evp_map rfl) rfl)) (fun g => ?_); exact Ent.take (is := [0, 0, 0]) rfl) ?_
  refine JD_x [] [15] (fun lG => ((lG.getD 0 []).getD 0 undef)) [⟨some 15, some 16, [15], fun lG => Cl ((lG.getD 0 []).getD 0 undef) [.int .i64 0, .slice none 0 0, .slice none 0 0, .slice none 0 0]⟩] (wn rfl) rfl rfl rfl (fun G => by refine OpX.n3 (A' := []) (V' := fun g => (g.getD 0 undef)) (B' := fun g => [Cl (g.getD 0 undef) [.int .i64 0, .slice none 0 0, .slice none 0 0, .slice none 0 0]]) (by kernel_rfl) (by kernel_rfl) (by kernel_rfl) ?_; refine OpX.postR (OpX.ofA (by intro _ _ h; cases h) (OpA.alloc rfl ze27)) (fun g => ?_); exact Ent.take (is := [0]) rfl) ?_
  refine JD_x0 [8, 10, 12, 13] [⟨some 16, none, [5, 9, 13, 15], fun lG => Cl ((lG.getD 3 []).getD 0 undef) [.int .i64 s.Width, ((lG.getD 0 []).getD 0 undef), ((lG.getD 1 []).getD 0 undef), ((lG.getD 2 []).getD 0 undef)]⟩] (wn rfl) rfl rfl rfl (fun G => by refine OpX.n3 (A' := [os (((G 5).getD 0 undef)) (s.Deps : List (List Int)), os (((G 9).getD 0 undef)) (s.Transfers : List GTransfer), os (((G 13).getD 0 undef)) (s.Boundary : List GSet), Cl ((G 15).getD 0 undef) [.int .i64 0, .slice none 0 0, .slice none 0 0, .slice none 0 0]]) (V' := fun g => undef) (B' := fun g => [os (((G 5).getD 0 undef)) (s.Deps : List (List Int)), os (((G 9).getD 0 undef)) (s.Transfers : List GTransfer), os (((G 13).getD 0 undef)) (s.Boundary : List GSet), Cl ((G 15).getD 0 undef) [.int .i64 s.Width, ((G 5).getD 0 undef), ((G 9).getD 0 undef), ((G 13).getD 0 undef)]]) (by kernel_rfl) (by kernel_rfl) (by kernel_rfl) ?_; refine OpX.fact 0 rfl os_one ?_; intro ho24; refine OpX.fact 1 rfl os_one ?_; intro ho25; refine OpX.fact 2 rfl os_one ?_; intro ho26; refine OpX.seeL (L' := [(5, ((G 15).getD 0 undef)), (21, .agg #[.int .i64 s.Width, ((G 5).getD 0 undef), ((G 9).getD 0 undef), ((G 13).getD 0 undef)])]) (Env.sub_all (by kernel_rfl)) ?_; refine OpX.postR (OpX.ofS (by intro _ _ h; cases h) rfl (OpS.frame [3] rfl (OpS.storeCl [.int .i64 s.Width, ((G 5).getD 0 undef), ((G 9).getD 0 undef), ((G 13).getD 0 undef)] [.int .i64 s.Width, ((G 5).getD 0 undef), ((G 9).getD 0 undef), ((G 13).getD 0 undef)] rfl rfl rfl sh27 rfl rfl (by simp only [List.all_cons, List.all_nil, ho24, ho25, ho26, Bool.and_true, Bool.true_and] <;> rfl) (Nat.le_of_ble_eq_true rfl) rfl))) (fun g => ?_); exact Ent.take (is := [1, 1, 1, 0]) rfl) ?_
  refine JD_nil ⟨by kernel_rfl, fun G => ?_⟩
  refine JJ_weaken (L' := [(0, tP), (4, p7), (5, ((G 15).getD 0 undef))]) (A' := [Cl p7 [.int .i64 0, .slice none 0 0, .slice none 0 0, .slice none 0 0], pv p6 [.int .i64 s.Width, .slice sa1 s.Deps.length sk1, .slice sa2 s.Transfers.length sk2, .slice sa3 s.Boundary.length sk3], Cl tP [.slice ta tT.length tk, .int .i64 tI], sl (.slice ta tT.length tk) (tT : List Int), sl (.slice sa1 s.Deps.length sk1) (s.Deps : List (List Int)), sl (.slice sa2 s.Transfers.length sk2) (s.Transfers : List GTransfer), sl (.slice sa3 s.Boundary.length sk3) (s.Boundary : List GSet), os (((G 5).getD 0 undef)) (s.Deps : List (List Int)), os (((G 9).getD 0 undef)) (s.Transfers : List GTransfer), os (((G 13).getD 0 undef)) (s.Boundary : List GSet), Cl ((G 15).getD 0 undef) [.int .i64 s.Width, ((G 5).getD 0 undef), ((G 9).getD 0 undef), ((G 13).getD 0 undef)]]) (Env.sub_all (by kernel_rfl)) (Ent.of_eq (by kernel_rfl)) ?_
  generalize ((G 5).getD 0 undef) = c9
  generalize ((G 9).getD 0 undef) = c11
  generalize ((G 13).getD 0 undef) = c13
  generalize ((G 15).getD 0 undef) = p14
  refine JJ_slice 7 rfl os_slice ?_
  rintro a27 k28 rfl
  refine JJ_slice 8 rfl os_slice ?_
  rintro a29 k30 rfl
  refine JJ_slice 9 rfl os_slice ?_
  rintro a31 k32 rfl
  refine JK_seq ?_
  refine JK_region ?_
  refine JO_q rfl rfl rfl (OpV.move rfl rfl) ?_
  refine JO_q rfl rfl rfl (OpV.fieldAddr rfl rfl fo27_1 (i := 10) rfl (isPtr_Cl _ _)) ?_
  refine JO_q rfl rfl rfl (OpV.loadF rfl rfl sh23 (i := 10) rfl (reads_Cl _ _) rfl) ?_
  refine JO_q rfl rfl rfl (OpV.len rfl rfl sl23) ?_
  refine letv (Tape_Next tT tI ((s.Deps.length : Nat) : Int)) fun rv33 hg34 => ?_
  have hc35 := fn8 tP ta tk tT tI (((s.Deps.length : Nat) : Int)) (by (try dsimp only) <;> first | (unfold i64ok; omega) | omega | assumption) (by (try dsimp only) <;> first | (unfold i64ok; omega) | omega | assumption) rv33 hg34
  refine JO_call [2, 2] rfl rfl rfl (OpC.fn rfl ca8 rfl) (hc35) rfl ?_
  rintro - ⟨he36, he37, he38⟩
  have he36 : -9223372036854775808 ≤ rv33.1 ∧ rv33.1 ≤ 9223372036854775807 := he36
  refine JO_q rfl rfl rfl (OpV.assign rfl rfl) ?_
  refine JO_nil ?_
  refine JK_seq ?_
  refine JK_seq ?_
  refine JK_region ?_
  refine JO_q rfl rfl rfl (OpV.move rfl rfl) ?_
  refine letv (Tape_Next tT rv33.2 6) fun rv39 hg40 => ?_
  have hc41 := fn8 tP ta tk tT rv33.2 6 (by (try dsimp only) <;> first | (unfold i64ok; omega) | omega | assumption) (by (try dsimp only) <;> first | (unfold i64ok; omega) | omega | assumption) rv39 hg40
  refine JO_call [0, 2] rfl rfl rfl (OpC.fn rfl ca8 rfl) (hc41) rfl ?_
  rintro - ⟨he42, he43, he44⟩
  have he42 : -9223372036854775808 ≤ rv39.1 ∧ rv39.1 ≤ 9223372036854775807 := he42
  refine JO_nil ?_
  refine JK_block ?_
  refine JK_seq ?_
  refine JK_region ?_
  refine JO_q rfl rfl rfl (OpV.eql rfl rfl rfl) ?_
  refine JO_q rfl rfl rfl (OpV.assign rfl rfl) ?_
  refine JO_nil ?_
  refine JK_cond (b := (rv39.1 == 0)) rfl (fun (h45 : (rv39.1 == 0) = true) => ?_) (fun (h45 : (rv39.1 == 0) = false) => ?_)
  · skip
    have g46 : rv39.1 = 0 := eq_of_beq h45
    refine JK_region ?_
    refine JO_q rfl rfl rfl (OpV.fieldAddr rfl rfl fo27_0 (i := 10) rfl (isPtr_Cl _ _)) ?_
    refine JO_q rfl rfl rfl (OpV.loadF rfl rfl sh3 (i := 10) rfl (reads_Cl _ _) rfl) ?_
    refine JO_q rfl rfl rfl (OpV.add rfl rfl rfl (by unfold i64ok; omega)) ?_
    refine JO_q rfl rfl rfl (OpV.fieldAddr rfl rfl fo27_0 (i := 10) rfl (isPtr_Cl _ _)) ?_
    refine JO_store rfl rfl (OpS.frame [10] rfl (OpS.storeClF [.int .i64 (s.Width + 1)] [.int .i64 (s.Width + 1), .slice a27 s.Deps.length k28, .slice a29 s.Transfers.length k30, .slice a31 s.Boundary.length k32] rfl rfl rfl sh3 rfl rfl rfl (Nat.le_of_ble_eq_true rfl) rfl)) ?_
    refine JO_nil ?_
    refine JK_blk ?_
    refine JK_seq ?_
    refine JK_region ?_
    refine JO_q rfl rfl rfl (OpV.loadA rfl rfl sh27 (i := 0) rfl (reads_Cl _ _) rfl) ?_
    refine JO_store rfl rfl (OpS.frame [2] rfl (OpS.storeCl [.int .i64 (s.Width + 1), .slice a27 s.Deps.length k28, .slice a29 s.Transfers.length k30, .slice a31 s.Boundary.length k32] [.int .i64 (s.Width + 1), .slice a27 s.Deps.length k28, .slice a29 s.Transfers.length k30, .slice a31 s.Boundary.length k32] rfl rfl rfl sh27 rfl rfl rfl (Nat.le_of_ble_eq_true rfl) rfl)) ?_
    refine JO_nil ?_
    refine JJ_loc [8] rfl (Ent.freeze _ _) ?_
    refine JJ_loc [9] rfl (Ent.freeze _ _) ?_
    refine JJ_loc [10] rfl (Ent.freeze _ _) ?_
    have hq : rr = ((GSystem.mk (s.Width + 1) s.Deps s.Transfers s.Boundary), rv39.2) := hrr.symm.trans (by simp only [Tape_SpoilSystem, h45, hg34, hg40, cs4])
    replace hrr := hrr.trans hq
    subst rr
    refine JK_return ((.slice a27 s.Deps.length k28, .slice a29 s.Transfers.length k30, .slice a31 s.Boundary.length k32)) rfl (.cellN 3 rfl sh27 rfl (reads_Cl _ _) rfl .nil) rfl (by refine ⟨?_, ?_⟩ <;> (try dsimp only) <;> first | omega | (unfold i64ok; omega) | (simp only [lens]; omega) | assumption | trivial) (Ent.take (is := [2, 1, 0, 5]) rfl)
  · skip
    have g47 : rv39.1 ≠ 0 := ne_of_beq_false h45
    refine JK_seq ?_
    refine JK_region ?_
    refine JO_q rfl rfl rfl (OpV.eql rfl rfl rfl) ?_
    refine JO_q rfl rfl rfl (OpV.assign rfl rfl) ?_
    refine JO_nil ?_
    refine JK_cond (b := (rv39.1 == 1)) rfl (fun (h48 : (rv39.1 == 1) = true) => ?_) (fun (h48 : (rv39.1 == 1) = false) => ?_)
    · skip
      have g49 : rv39.1 = 1 := eq_of_beq h48
      refine JJ_fact 10 rfl isP_Cl ?_
      intro hp50
      refine JJ_addFact hp50 ?_
      refine JJ_peekOL (rv33.1 : Int).toNat 8 rfl (by first | omega | (simp only [lens]; omega) | (simp only [lens] at *; omega)) ?_
      intro a52 k53
      refine JJ_fact 1 rfl sl_bytes ?_
      intro hl54
      have hl54 : (s.Deps.getD (rv33.1 : Int).toNat []).length * 8 ≤ 140737488355328 := hl54
      refine JJ_fact 1 rfl sl_ok ?_
      intro ho55
      refine letv (Tape_Next tT rv39.2 (((s.Deps.length : Nat) : Int) + 2)) fun rv58 hg59 => ?_
      have hn62 : (((s.Deps.getD (rv33.1 : Int).toNat []) ++ [(rv58.1 - 1)]) : List Int).length = ((s.Deps.getD (rv33.1 : Int).toNat []) : List Int).length + ([(rv58.1 - 1)] : List Int).length := List.length_append
      refine JK_drawJ [0, 1, 0, 0, 0, 16, 0, 112, 240, 504, 0, 0, 2048, 6144, 14336, 32760, 65528, 131064, 262136, 524287, 1048575] [some 20, none, none, some 15] fmix ?_
      refine JD_v [2] (wn rfl) rfl rfl (OpV.fieldAddr rfl rfl fo27_1 (i := 0) rfl (isPtr_fact _)) ?_
      refine JD_v [12] (wn rfl) rfl rfl (OpV.loadF rfl rfl sh23 (i := 0) rfl (reads_Cl _ _) rfl) ?_
      refine JD_v [] (wn rfl) rfl rfl (OpV.move rfl rfl) ?_
      refine JD_x [] [3] (fun lG => ((lG.getD 0 []).getD 0 undef)) [⟨some 3, some 9, [3], fun lG => Cr ((lG.getD 0 []).getD 0 undef) 0 []⟩] (wn rfl) rfl rfl rfl (fun G => by refine OpX.n3 (A' := []) (V' := fun g => (g.getD 0 undef)) (B' := fun g => [Cr (g.getD 0 undef) 0 []]) (by kernel_rfl) (by kernel_rfl) (by kernel_rfl) ?_; refine OpX.postR (OpX.ofA (by intro _ _ h; cases h) (OpA.buildSlice0 rfl sl22)) (fun g => ?_); exact Ent.take (is := [0]) rfl) ?_
      refine JD_v [2] (wn rfl) rfl rfl (OpV.fieldAddr rfl rfl fo27_1 (i := 0) rfl (isPtr_fact _)) ?_
      refine JD_v [12] (wn rfl) rfl rfl (OpV.loadF rfl rfl sh23 (i := 0) rfl (reads_Cl _ _) rfl) ?_
      refine JD_v [] (wn rfl) rfl rfl (OpV.move rfl rfl) ?_
      refine JD_v [0] (wn rfl) rfl rfl (OpV.indexAddr (m := 0) rfl rfl rfl sl23 rfl (isSl_oread _ _ _ _) (by first | omega | (simp only [lens]; omega) | (simp only [lens] at *; omega))) ?_
      refine JD_v [0] (wn rfl) rfl rfl (OpV.load rfl rfl sh22 (i := 0) rfl (reads_oread _ _ _ _) rfl) ?_
      refine JD_x [1, 13] [9] (fun lG => ((lG.getD 0 []).getD 0 undef)) [⟨some 9, some 18, [9], fun lG => os (((lG.getD 0 []).getD 0 undef)) ((s.Deps.getD (rv33.1 : Int).toNat []) : List Int)⟩] (wn rfl) rfl rfl rfl (fun G => by refine OpX.n3 (A' := [sl (.slice a52 ((s.Deps.getD (rv33.1 : Int).toNat []).length) k53) ((s.Deps.getD (rv33.1 : Int).toNat []) : List Int), Cr ((G 3).getD 0 undef) 0 []]) (V' := fun g => (g.getD 0 undef)) (B' := fun g => [sl (.slice a52 ((s.Deps.getD (rv33.1 : Int).toNat []).length) k53) ((s.Deps.getD (rv33.1 : Int).toNat []) : List Int), os ((g.getD 0 undef)) ((s.Deps.getD (rv33.1 : Int).toNat []) : List Int)]) (by kernel_rfl) (by kernel_rfl) (by kernel_rfl) ?_; refine OpX.pre [1] rfl (Ent.crNil (α := Int) _) ?_; refine OpX.seeL (L' := [(49, ((G 3).getD 0 undef)), (54, .slice a52 ((s.Deps.getD (rv33.1 : Int).toNat []).length) k53)]) (Env.sub_all (by kernel_rfl)) ?_; refine OpX.postR (OpX.ofA (by intro _ _ h; cases h) (OpA.frame [0, 0] rfl (OpA.app0 (α := Int) (ys := (s.Deps.getD (rv33.1 : Int).toNat [])) rfl rfl rfl sl22 sl22 sz22 rfl rfl rfl (by first | exact hv.app_bd (by simp) | exact hv.app_bd0)))) (fun g => ?_); exact Ent.take (is := [1, 0]) rfl) ?_
      refine JD_v [] (wn rfl) rfl rfl (OpV.move rfl rfl) ?_
      refine JD_v [2] (wn rfl) rfl rfl (OpV.fieldAddr rfl rfl fo27_1 (i := 0) rfl (isPtr_fact _)) ?_
      refine JD_v [12] (wn rfl) rfl rfl (OpV.loadF rfl rfl sh23 (i := 0) rfl (reads_Cl _ _) rfl) ?_
      refine JD_v [] (wn rfl) rfl rfl (OpV.len rfl rfl sl23) ?_
      refine JD_v [] (wn rfl) rfl rfl (OpV.add rfl rfl rfl (by unfold i64ok; omega)) ?_
      refine JD_x [3, 6] [] (fun lG => .int .i64 rv58.1) [⟨some 15, none, [], fun lG => SP.fact (i64ok rv58.1 ∧ (0 ≤ rv58.2 ∧ rv58.2 ≤ (tT.length : Int)) ∧ (0 ≤ rv58.1 ∧ (rv58.1 < (((s.Deps.length : Nat) : Int) + 2) ∨ rv58.1 = 0)))⟩, ⟨some 15, none, [], fun lG => Cl tP [.slice ta tT.length tk, .int .i64 rv58.2]⟩] (wn rfl) rfl rfl rfl (fun G => by refine OpX.n3 (A' := [Cl tP [.slice ta tT.length tk, .int .i64 rv39.2], sl (.slice ta tT.length tk) (tT : List Int)]) (V' := fun g => .int .i64 rv58.1) (B' := fun g => [sl (.slice ta tT.length tk) (tT : List Int), SP.fact (i64ok rv58.1 ∧ (0 ≤ rv58.2 ∧ rv58.2 ≤ (tT.length : Int)) ∧ (0 ≤ rv58.1 ∧ (rv58.1 < (((s.Deps.length : Nat) : Int) + 2) ∨ rv58.1 = 0))), Cl tP [.slice ta tT.length tk, .int .i64 rv58.2]]) (by kernel_rfl) (by kernel_rfl) (by kernel_rfl) ?_; refine OpX.postR (OpX.frame [0, 0] rfl (OpX.ofC (fun _ => []) (fun _ => ()) (fun _ => rfl) (by intro _ _ h; cases h) (OpC.fn rfl ca8 rfl) (fn8 tP ta tk tT rv39.2 ((((s.Deps.length : Nat) : Int) + 2)) (by (try dsimp only) <;> first | (unfold i64ok; omega) | omega | assumption) (by (try dsimp only) <;> first | (unfold i64ok; omega) | omega | assumption) rv58 hg59))) (fun g => ?_); exact Ent.take (is := [2, 0, 1]) rfl) ?_
      refine JD_x [15] [] (fun lG => .int .i64 (rv58.1 - 1)) [] (wn rfl) rfl rfl rfl (fun G => by refine OpX.n3 (A' := [SP.fact (i64ok rv58.1 ∧ (0 ≤ rv58.2 ∧ rv58.2 ≤ (tT.length : Int)) ∧ (0 ≤ rv58.1 ∧ (rv58.1 < (((s.Deps.length : Nat) : Int) + 2) ∨ rv58.1 = 0)))]) (V' := fun g => .int .i64 (rv58.1 - 1)) (B' := fun g => [SP.fact (i64ok rv58.1 ∧ (0 ≤ rv58.2 ∧ rv58.2 ≤ (tT.length : Int)) ∧ (0 ≤ rv58.1 ∧ (rv58.1 < (((s.Deps.length : Nat) : Int) + 2) ∨ rv58.1 = 0)))]) (by kernel_rfl) (by kernel_rfl) (by kernel_rfl) ?_; refine OpX.fact 0 rfl (fun h => h) ?_; rintro ⟨he63, he64, he65⟩; have he63 : -9223372036854775808 ≤ rv58.1 ∧ rv58.1 ≤ 9223372036854775807 := he63; refine OpX.postR (OpX.ofV (by intro _ _ h; cases h) (OpV.sub rfl rfl rfl (by unfold i64ok; omega))) (fun g => ?_); exact Ent.take (is := [0]) rfl) ?_
      refine JD_x [] [17] (fun lG => ((lG.getD 0 []).getD 0 undef)) [⟨some 17, some 18, [17], fun lG => Cr ((lG.getD 0 []).getD 0 undef) 1 [.int .i64 (rv58.1 - 1)]⟩] (wn rfl) rfl rfl rfl (fun G => by refine OpX.n3 (A' := []) (V' := fun g => (g.getD 0 undef)) (B' := fun g => [Cr (g.getD 0 undef) 1 [.int .i64 (rv58.1 - 1)]]) (by kernel_rfl) (by kernel_rfl) (by kernel_rfl) ?_; refine OpX.postR (OpX.ofA (by intro _ _ h; cases h) (OpA.buildSliceV [.int .i64 (rv58.1 - 1)] [.int .i64 (rv58.1 - 1)] rfl sl22 sz22 rfl (Env.evp_map rfl) rfl rfl rfl rfl)) (fun g => ?_); exact Ent.take (is := [0]) rfl) ?_
      refine JD_x [14, 15, 17] [18] (fun lG => ((lG.getD 0 []).getD 0 undef)) [⟨some 18, some 20, [18], fun lG => os (((lG.getD 0 []).getD 0 undef)) (((s.Deps.getD (rv33.1 : Int).toNat []) ++ [(rv58.1 - 1)]) : List Int)⟩] (wn rfl) rfl rfl rfl (fun G => by refine OpX.n3 (A' := [os (((G 9).getD 0 undef)) ((s.Deps.getD (rv33.1 : Int).toNat []) : List Int), SP.fact (i64ok rv58.1 ∧ (0 ≤ rv58.2 ∧ rv58.2 ≤ (tT.length : Int)) ∧ (0 ≤ rv58.1 ∧ (rv58.1 < (((s.Deps.length : Nat) : Int) + 2) ∨ rv58.1 = 0))), Cr ((G 17).getD 0 undef) 1 [.int .i64 (rv58.1 - 1)]]) (V' := fun g => (g.getD 0 undef)) (B' := fun g => [SP.fact (i64ok rv58.1 ∧ (0 ≤ rv58.2 ∧ rv58.2 ≤ (tT.length : Int)) ∧ (0 ≤ rv58.1 ∧ (rv58.1 < (((s.Deps.length : Nat) : Int) + 2) ∨ rv58.1 = 0))), os ((g.getD 0 undef)) (((s.Deps.getD (rv33.1 : Int).toNat []) ++ [(rv58.1 - 1)]) : List Int)]) (by kernel_rfl) (by kernel_rfl) (by kernel_rfl) ?_; refine OpX.fact 1 rfl (fun h => h) ?_; rintro ⟨he66, he67, he68⟩; have he66 : -9223372036854775808 ≤ rv58.1 ∧ rv58.1 ≤ 9223372036854775807 := he66; refine OpX.pre [2] rfl (Ent.crInt _ [(rv58.1 - 1)] _ _ rfl rfl (by intro x hx; rw [List.mem_singleton] at hx; subst hx; unfold i64ok; omega) (Nat.le_of_ble_eq_true rfl)) ?_; refine OpX.seeL (L' := [(55, ((G 9).getD 0 undef)), (63, ((G 17).getD 0 undef))]) (Env.sub_all (by kernel_rfl)) ?_; refine OpX.postR (OpX.ofA (by intro _ _ h; cases h) (OpA.frame [1, 0] rfl (OpA.appO (α := Int) (xs := (s.Deps.getD (rv33.1 : Int).toNat [])) (ys := [(rv58.1 - 1)]) rfl rfl rfl sl22 sl22 sz22 rfl rfl rfl (by first | exact hv.app_bd (by simp) | exact hv.app_bd0)))) (fun g => ?_); exact Ent.take (is := [1, 0]) rfl) ?_
      refine JD_x [0, 15] [] (fun lG => (eptr 1 (.slice a27 s.Deps.length k28) (rv33.1 : Int).toNat)) [] (wn rfl) rfl rfl rfl (fun G => by refine OpX.n3 (A' := [oread (.slice a27 s.Deps.length k28) (s.Deps : List (List Int)) (rv33.1 : Int).toNat [.slice a52 ((s.Deps.getD (rv33.1 : Int).toNat []).length) k53], SP.fact (i64ok rv58.1 ∧ (0 ≤ rv58.2 ∧ rv58.2 ≤ (tT.length : Int)) ∧ (0 ≤ rv58.1 ∧ (rv58.1 < (((s.Deps.length : Nat) : Int) + 2) ∨ rv58.1 = 0)))]) (V' := fun g => (eptr 1 (.slice a27 s.Deps.length k28) (rv33.1 : Int).toNat)) (B' := fun g => [oread (.slice a27 s.Deps.length k28) (s.Deps : List (List Int)) (rv33.1 : Int).toNat [.slice a52 ((s.Deps.getD (rv33.1 : Int).toNat []).length) k53], SP.fact (i64ok rv58.1 ∧ (0 ≤ rv58.2 ∧ rv58.2 ≤ (tT.length : Int)) ∧ (0 ≤ rv58.1 ∧ (rv58.1 < (((s.Deps.length : Nat) : Int) + 2) ∨ rv58.1 = 0)))]) (by kernel_rfl) (by kernel_rfl) (by kernel_rfl) ?_; refine OpX.fact 1 rfl (fun h => h) ?_; rintro ⟨he69, he70, he71⟩; have he69 : -9223372036854775808 ≤ rv58.1 ∧ rv58.1 ≤ 9223372036854775807 := he69; refine OpX.postR (OpX.ofV (by intro _ _ h; cases h) (OpV.indexAddr (m := 0) rfl rfl rfl sl23 rfl (isSl_oread _ _ _ _) (by first | omega | (simp only [lens]; omega) | (simp only [lens] at *; omega)))) (fun g => ?_); exact Ent.take (is := [0, 0]) rfl) ?_
      refine JD_x0 [0, 15, 18] [⟨some 20, none, [18], fun lG => sl (((lG.getD 0 []).getD 0 undef)) (((s.Deps.getD (rv33.1 : Int).toNat []) ++ [(rv58.1 - 1)]) : List Int)⟩, ⟨some 20, none, [], fun lG => os (.slice a27 s.Deps.length k28) ((s.Deps.set (rv33.1 : Int).toNat ((s.Deps.getD (rv33.1 : Int).toNat []) ++ [(rv58.1 - 1)])) : List (List Int))⟩] (wn rfl) rfl rfl rfl (fun G => by refine OpX.n3 (A' := [oread (.slice a27 s.Deps.length k28) (s.Deps : List (List Int)) (rv33.1 : Int).toNat [.slice a52 ((s.Deps.getD (rv33.1 : Int).toNat []).length) k53], SP.fact (i64ok rv58.1 ∧ (0 ≤ rv58.2 ∧ rv58.2 ≤ (tT.length : Int)) ∧ (0 ≤ rv58.1 ∧ (rv58.1 < (((s.Deps.length : Nat) : Int) + 2) ∨ rv58.1 = 0))), os (((G 18).getD 0 undef)) (((s.Deps.getD (rv33.1 : Int).toNat []) ++ [(rv58.1 - 1)]) : List Int)]) (V' := fun g => undef) (B' := fun g => [SP.fact (i64ok rv58.1 ∧ (0 ≤ rv58.2 ∧ rv58.2 ≤ (tT.length : Int)) ∧ (0 ≤ rv58.1 ∧ (rv58.1 < (((s.Deps.length : Nat) : Int) + 2) ∨ rv58.1 = 0))), sl (((G 18).getD 0 undef)) (((s.Deps.getD (rv33.1 : Int).toNat []) ++ [(rv58.1 - 1)]) : List Int), os (.slice a27 s.Deps.length k28) ((s.Deps.set (rv33.1 : Int).toNat ((s.Deps.getD (rv33.1 : Int).toNat []) ++ [(rv58.1 - 1)])) : List (List Int))]) (by kernel_rfl) (by kernel_rfl) (by kernel_rfl) ?_; refine OpX.fact 1 rfl (fun h => h) ?_; rintro ⟨he72, he73, he74⟩; have he72 : -9223372036854775808 ≤ rv58.1 ∧ rv58.1 ≤ 9223372036854775807 := he72; refine OpX.pre [0] rfl (Ent.oread _ _ _ _) ?_; refine OpX.pre [2] rfl (Ent.freeze _ _) ?_; refine OpX.fact 0 rfl sl_one ?_; intro ho75; refine OpX.seeL (L' := [(64, ((G 18).getD 0 undef)), (65, (eptr 1 (.slice a27 s.Deps.length k28) (rv33.1 : Int).toNat))]) (Env.sub_all (by kernel_rfl)) ?_; refine OpX.postR (OpX.ofS (by intro _ _ h; cases h) rfl (OpS.frame [1, 0] rfl (OpS.storeOs' (Rs := [sl (((G 18).getD 0 undef)) (((s.Deps.getD (rv33.1 : Int).toNat []) ++ [(rv58.1 - 1)]) : List Int)]) ((s.Deps.getD (rv33.1 : Int).toNat []) ++ [(rv58.1 - 1)]) [((G 18).getD 0 undef)] rfl rfl rfl sh22 (cells_of_one ho75) rfl (fun h => ⟨_, rfl, sepAll_get (i := 0) rfl h⟩) (by first | omega | (simp only [lens]; omega) | (simp only [lens] at *; omega))))) (fun g => ?_); exact Ent.take (is := [3, 1, 0]) rfl) ?_
      refine JD_nil ⟨by kernel_rfl, fun G => ?_⟩
      refine JJ_weaken (L' := [(4, p7), (5, p14)]) (A' := [sl (.slice a52 ((s.Deps.getD (rv33.1 : Int).toNat []).length) k53) ((s.Deps.getD (rv33.1 : Int).toNat []) : List Int), SP.fact (isP p14), Cl p7 [.int .i64 0, .slice none 0 0, .slice none 0 0, .slice none 0 0], pv p6 [.int .i64 s.Width, .slice sa1 s.Deps.length sk1, .slice sa2 s.Transfers.length sk2, .slice sa3 s.Boundary.length sk3], sl (.slice ta tT.length tk) (tT : List Int), sl (.slice sa1 s.Deps.length sk1) (s.Deps : List (List Int)), sl (.slice sa2 s.Transfers.length sk2) (s.Transfers : List GTransfer), sl (.slice sa3 s.Boundary.length sk3) (s.Boundary : List GSet), os (.slice a29 s.Transfers.length k30) (s.Transfers : List GTransfer), os (.slice a31 s.Boundary.length k32) (s.Boundary : List GSet), Cl p14 [.int .i64 s.Width, .slice a27 s.Deps.length k28, .slice a29 s.Transfers.length k30, .slice a31 s.Boundary.length k32], SP.fact (i64ok rv58.1 ∧ (0 ≤ rv58.2 ∧ rv58.2 ≤ (tT.length : Int)) ∧ (0 ≤ rv58.1 ∧ (rv58.1 < (((s.Deps.length : Nat) : Int) + 2) ∨ rv58.1 = 0))), Cl tP [.slice ta tT.length tk, .int .i64 rv58.2], sl (((G 18).getD 0 undef)) (((s.Deps.getD (rv33.1 : Int).toNat []) ++ [(rv58.1 - 1)]) : List Int), os (.slice a27 s.Deps.length k28) ((s.Deps.set (rv33.1 : Int).toNat ((s.Deps.getD (rv33.1 : Int).toNat []) ++ [(rv58.1 - 1)])) : List (List Int))]) (Env.sub_all (by kernel_rfl)) (Ent.of_eq (by kernel_rfl)) ?_
      generalize ((G 18).getD 0 undef) = c61
      refine JJ_fact 11 rfl (fun h => h) ?_
      rintro ⟨he76, he77, he78⟩
      have he76 : -9223372036854775808 ≤ rv58.1 ∧ rv58.1 ≤ 9223372036854775807 := he76
      refine JJ_keep [0, 2, 2, 3, 4, 5, 6, 7, 7, 7, 8, 8, 9] rfl ?_
      refine JJ_slice 11 rfl sl_slice ?_
      rintro a79 k80 rfl
      refine JJ_fact 11 rfl sl_bytes ?_
      intro hl81
      have hl81 : ((s.Deps.getD (rv33.1 : Int).toNat []) ++ [(rv58.1 - 1)]).length * 8 ≤ 140737488355328 := hl81
      refine JJ_fact 11 rfl sl_ok ?_
      intro ho82
      refine JK_blk ?_
      refine JK_seq ?_
      refine JK_region ?_
      refine JO_q rfl rfl rfl (OpV.loadA rfl rfl sh27 (i := 9) rfl (reads_Cl _ _) rfl) ?_
      refine JO_store rfl rfl (OpS.frame [1] rfl (OpS.storeCl [.int .i64 s.Width, .slice a27 s.Deps.length k28, .slice a29 s.Transfers.length k30, .slice a31 s.Boundary.length k32] [.int .i64 s.Width, .slice a27 s.Deps.length k28, .slice a29 s.Transfers.length k30, .slice a31 s.Boundary.length k32] rfl rfl rfl sh27 rfl rfl rfl (Nat.le_of_ble_eq_true rfl) rfl)) ?_
      refine JO_nil ?_
      refine JJ_loc [12] rfl (Ent.freeze _ _) ?_
      refine JJ_loc [8] rfl (Ent.freeze _ _) ?_
      refine JJ_loc [9] rfl (Ent.freeze _ _) ?_
      have hq : rr = ((GSystem.mk s.Width (s.Deps.set (rv33.1 : Int).toNat ((s.Deps.getD (rv33.1 : Int).toNat []) ++ [(rv58.1 - 1)])) s.Transfers s.Boundary), rv58.2) := hrr.symm.trans (by simp only [Tape_SpoilSystem, h45, h48, hg34, hg40, hg59, cs4])
      replace hrr := hrr.trans hq
      subst rr
      refine JK_return ((.slice a27 s.Deps.length k28, .slice a29 s.Transfers.length k30, .slice a31 s.Boundary.length k32)) rfl (.cellN 3 rfl sh27 rfl (reads_Cl _ _) rfl .nil) rfl (by refine ⟨?_, ?_⟩ <;> (try dsimp only) <;> first | omega | (unfold i64ok; omega) | (simp only [lens]; omega) | assumption | trivial) (Ent.take (is := [2, 1, 0, 11]) rfl)
    · skip
      have g83 : rv39.1 ≠ 1 := ne_of_beq_false h48
      refine JK_seq ?_
      refine JK_region ?_
      refine JO_q rfl rfl rfl (OpV.eql rfl rfl rfl) ?_
      refine JO_q rfl rfl rfl (OpV.assign rfl rfl) ?_
      refine JO_nil ?_
      refine JK_cond (b := (rv39.1 == 2)) rfl (fun (h84 : (rv39.1 == 2) = true) => ?_) (fun (h84 : (rv39.1 == 2) = false) => ?_)
      · skip
        have g85 : rv39.1 = 2 := eq_of_beq h84
        refine JJ_fact 10 rfl isP_Cl ?_
        intro hp86
        refine JJ_addFact hp86 ?_
        refine JJ_peekO_GTransfer (rv33.1 : Int).toNat 9 rfl (by first | omega | (simp only [lens]; omega) | (simp only [lens] at *; omega)) ?_
        intro a87 k88 a89 k90 a91 k92 hb93 hb94
        have hb93 : -9223372036854775808 ≤ ((s.Transfers.getD (rv33.1 : Int).toNat default).Gen).Width ∧ ((s.Transfers.getD (rv33.1 : Int).toNat default).Gen).Width ≤ 9223372036854775807 := hb93
        have hb94 : -9223372036854775808 ≤ ((s.Transfers.getD (rv33.1 : Int).toNat default).Kill).Width ∧ ((s.Transfers.getD (rv33.1 : Int).toNat default).Kill).Width ≤ 9223372036854775807 := hb94
        refine JJ_fact 1 rfl sl_bytes ?_
        intro hl95
        have hl95 : (((s.Transfers.getD (rv33.1 : Int).toNat default).Gen).Words).length * 8 ≤ 140737488355328 := hl95
        refine JJ_fact 2 rfl sl_bytes ?_
        intro hl96
        have hl96 : (((s.Transfers.getD (rv33.1 : Int).toNat default).Kill).Words).length * 8 ≤ 140737488355328 := hl96
        refine JJ_fact 3 rfl sl_bytes ?_
        intro hl97
        have hl97 : ((s.Transfers.getD (rv33.1 : Int).toNat default).Copies).length * 16 ≤ 140737488355328 := hl97
        refine letv (Tape_SpoilTransfer tT rv39.2 (s.Transfers.getD (rv33.1 : Int).toNat default)) fun rv101 hg102 => ?_
        refine JK_drawJ [0, 1, 0, 0, 0, 16, 0, 112, 240, 504, 1023, 2047] [some 11, none, none, none, none, some 9] fmix ?_
        refine JD_v [4] (wn rfl) rfl rfl (OpV.fieldAddr rfl rfl fo27_2 (i := 0) rfl (isPtr_fact _)) ?_
        refine JD_v [14] (wn rfl) rfl rfl (OpV.loadF rfl rfl sh24 (i := 0) rfl (reads_Cl _ _) rfl) ?_
        refine JD_v [] (wn rfl) rfl rfl (OpV.move rfl rfl) ?_
        refine JD_v [] (wn rfl) rfl rfl (OpV.move rfl rfl) ?_
        refine JD_v [4] (wn rfl) rfl rfl (OpV.fieldAddr rfl rfl fo27_2 (i := 0) rfl (isPtr_fact _)) ?_
        refine JD_v [14] (wn rfl) rfl rfl (OpV.loadF rfl rfl sh24 (i := 0) rfl (reads_Cl _ _) rfl) ?_
        refine JD_v [] (wn rfl) rfl rfl (OpV.move rfl rfl) ?_
        refine JD_v [0] (wn rfl) rfl rfl (OpV.indexAddr (m := 0) rfl rfl rfl sl24 rfl (isSl_oread _ _ _ _) (by first | omega | (simp only [lens]; omega) | (simp only [lens] at *; omega))) ?_
        refine JD_v [0] (wn rfl) rfl rfl (OpV.loadA rfl rfl sh54 (i := 0) rfl (reads_oread _ _ _ _) rfl) ?_
        refine JD_x [1, 2, 3, 5, 8] [9] (fun lG => .agg #[.int .i64 rv101.1.Gen.Width, ((lG.getD 0 []).getD 0 undef), .int .i64 rv101.1.Kill.Width, ((lG.getD 0 []).getD 1 undef), ((lG.getD 0 []).getD 2 undef)]) [⟨some 9, none, [], fun lG => SP.fact (i64ok rv101.1.Gen.Width ∧ i64ok rv101.1.Kill.Width ∧ (0 ≤ rv101.2 ∧ rv101.2 ≤ (tT.length : Int)))⟩, ⟨some 9, none, [9], fun lG => sl (((lG.getD 0 []).getD 0 undef)) (rv101.1.Gen.Words : List (BitVec 64))⟩, ⟨some 9, none, [9], fun lG => sl (((lG.getD 0 []).getD 1 undef)) (rv101.1.Kill.Words : List (BitVec 64))⟩, ⟨some 9, none, [9], fun lG => sl (((lG.getD 0 []).getD 2 undef)) (rv101.1.Copies : List GCopy)⟩, ⟨some 9, none, [], fun lG => Cl tP [.slice ta tT.length tk, .int .i64 rv101.2]⟩] (wn rfl) rfl rfl rfl (fun G => by refine OpX.n3 (A' := [sl (.slice a87 ((((s.Transfers.getD (rv33.1 : Int).toNat default).Gen).Words).length) k88) (((s.Transfers.getD (rv33.1 : Int).toNat default).Gen).Words : List (BitVec 64)), sl (.slice a89 ((((s.Transfers.getD (rv33.1 : Int).toNat default).Kill).Words).length) k90) (((s.Transfers.getD (rv33.1 : Int).toNat default).Kill).Words : List (BitVec 64)), sl (.slice a91 (((s.Transfers.getD (rv33.1 : Int).toNat default).Copies).length) k92) ((s.Transfers.getD (rv33.1 : Int).toNat default).Copies : List GCopy), Cl tP [.slice ta tT.length tk, .int .i64 rv39.2], sl (.slice ta tT.length tk) (tT : List Int)]) (V' := fun g => .agg #[.int .i64 rv101.1.Gen.Width, (g.getD 0 undef), .int .i64 rv101.1.Kill.Width, (g.getD 1 undef), (g.getD 2 undef)]) (B' := fun g => [sl (.slice a87 ((((s.Transfers.getD (rv33.1 : Int).toNat default).Gen).Words).length) k88) (((s.Transfers.getD (rv33.1 : Int).toNat default).Gen).Words : List (BitVec 64)), sl (.slice a89 ((((s.Transfers.getD (rv33.1 : Int).toNat default).Kill).Words).length) k90) (((s.Transfers.getD (rv33.1 : Int).toNat default).Kill).Words : List (BitVec 64)), sl (.slice a91 (((s.Transfers.getD (rv33.1 : Int).toNat default).Copies).length) k92) ((s.Transfers.getD (rv33.1 : Int).toNat default).Copies : List GCopy), sl (.slice ta tT.length tk) (tT : List Int), SP.fact (i64ok rv101.1.Gen.Width ∧ i64ok rv101.1.Kill.Width ∧ (0 ≤ rv101.2 ∧ rv101.2 ≤ (tT.length : Int))), sl ((g.getD 0 undef)) (rv101.1.Gen.Words : List (BitVec 64)), sl ((g.getD 1 undef)) (rv101.1.Kill.Words : List (BitVec 64)), sl ((g.getD 2 undef)) (rv101.1.Copies : List GCopy), Cl tP [.slice ta tT.length tk, .int .i64 rv101.2]]) (by kernel_rfl) (by kernel_rfl) (by kernel_rfl) ?_; refine OpX.postR (OpX.frame [3, 3, 0, 1, 2] rfl (OpX.ofC (fun g => [g.1, g.2.1, g.2.2]) (fun l => (l.getD 0 undef, l.getD 1 undef, l.getD 2 undef)) (fun _ => rfl) (by intro _ _ h; cases h) (OpC.fn rfl ca27 rfl) (fn27 tP ta tk tT rv39.2 ((s.Transfers.getD (rv33.1 : Int).toNat default)) a87 k88 a89 k90 a91 k92 (by (try dsimp only) <;> first | (unfold i64ok; omega) | omega | assumption) (by (try dsimp only) <;> first | (unfold i64ok; omega) | omega | assumption) (by (try dsimp only) <;> first | (unfold i64ok; omega) | omega | assumption) (by refine hv.tr_ok ?_; (try rw [List.nil_append]); exact getD_mem (by first | omega | (simp only [List.length_append, List.length_nil]; omega))) rv101 hg102))) (fun g => ?_); exact Ent.take (is := [5, 6, 7, 8, 0, 1, 2, 3, 4]) rfl) ?_
        refine JD_x [0, 15] [] (fun lG => (eptr 5 (.slice a29 s.Transfers.length k30) (rv33.1 : Int).toNat)) [] (wn rfl) rfl rfl rfl (fun G => by refine OpX.n3 (A' := [oread (.slice a29 s.Transfers.length k30) (s.Transfers : List GTransfer) (rv33.1 : Int).toNat [.int .i64 (((s.Transfers.getD (rv33.1 : Int).toNat default).Gen).Width), .slice a87 ((((s.Transfers.getD (rv33.1 : Int).toNat default).Gen).Words).length) k88, .int .i64 (((s.Transfers.getD (rv33.1 : Int).toNat default).Kill).Width), .slice a89 ((((s.Transfers.getD (rv33.1 : Int).toNat default).Kill).Words).length) k90, .slice a91 (((s.Transfers.getD (rv33.1 : Int).toNat default).Copies).length) k92], SP.fact (i64ok rv101.1.Gen.Width ∧ i64ok rv101.1.Kill.Width ∧ (0 ≤ rv101.2 ∧ rv101.2 ≤ (tT.length : Int)))]) (V' := fun g => (eptr 5 (.slice a29 s.Transfers.length k30) (rv33.1 : Int).toNat)) (B' := fun g => [oread (.slice a29 s.Transfers.length k30) (s.Transfers : List GTransfer) (rv33.1 : Int).toNat [.int .i64 (((s.Transfers.getD (rv33.1 : Int).toNat default).Gen).Width), .slice a87 ((((s.Transfers.getD (rv33.1 : Int).toNat default).Gen).Words).length) k88, .int .i64 (((s.Transfers.getD (rv33.1 : Int).toNat default).Kill).Width), .slice a89 ((((s.Transfers.getD (rv33.1 : Int).toNat default).Kill).Words).length) k90, .slice a91 (((s.Transfers.getD (rv33.1 : Int).toNat default).Copies).length) k92], SP.fact (i64ok rv101.1.Gen.Width ∧ i64ok rv101.1.Kill.Width ∧ (0 ≤ rv101.2 ∧ rv101.2 ≤ (tT.length : Int)))]) (by kernel_rfl) (by kernel_rfl) (by kernel_rfl) ?_; refine OpX.fact 1 rfl (fun h => h) ?_; rintro ⟨he103, he104, he105⟩; have he103 : -9223372036854775808 ≤ rv101.1.Gen.Width ∧ rv101.1.Gen.Width ≤ 9223372036854775807 := he103; have he104 : -9223372036854775808 ≤ rv101.1.Kill.Width ∧ rv101.1.Kill.Width ≤ 9223372036854775807 := he104; refine OpX.postR (OpX.ofV (by intro _ _ h; cases h) (OpV.indexAddr (m := 0) rfl rfl rfl sl24 rfl (isSl_oread _ _ _ _) (by first | omega | (simp only [lens]; omega) | (simp only [lens] at *; omega)))) (fun g => ?_); exact Ent.take (is := [0, 0]) rfl) ?_
        refine JD_x0 [0, 15, 16, 17, 18] [⟨some 11, none, [], fun lG => os (.slice a29 s.Transfers.length k30) ((s.Transfers.set (rv33.1 : Int).toNat rv101.1) : List GTransfer)⟩] (wn rfl) rfl rfl rfl (fun G => by refine OpX.n3 (A' := [oread (.slice a29 s.Transfers.length k30) (s.Transfers : List GTransfer) (rv33.1 : Int).toNat [.int .i64 (((s.Transfers.getD (rv33.1 : Int).toNat default).Gen).Width), .slice a87 ((((s.Transfers.getD (rv33.1 : Int).toNat default).Gen).Words).length) k88, .int .i64 (((s.Transfers.getD (rv33.1 : Int).toNat default).Kill).Width), .slice a89 ((((s.Transfers.getD (rv33.1 : Int).toNat default).Kill).Words).length) k90, .slice a91 (((s.Transfers.getD (rv33.1 : Int).toNat default).Copies).length) k92], SP.fact (i64ok rv101.1.Gen.Width ∧ i64ok rv101.1.Kill.Width ∧ (0 ≤ rv101.2 ∧ rv101.2 ≤ (tT.length : Int))), sl (((G 9).getD 0 undef)) (rv101.1.Gen.Words : List (BitVec 64)), sl (((G 9).getD 1 undef)) (rv101.1.Kill.Words : List (BitVec 64)), sl (((G 9).getD 2 undef)) (rv101.1.Copies : List GCopy)]) (V' := fun g => undef) (B' := fun g => [SP.fact (i64ok rv101.1.Gen.Width ∧ i64ok rv101.1.Kill.Width ∧ (0 ≤ rv101.2 ∧ rv101.2 ≤ (tT.length : Int))), sl (((G 9).getD 0 undef)) (rv101.1.Gen.Words : List (BitVec 64)), sl (((G 9).getD 1 undef)) (rv101.1.Kill.Words : List (BitVec 64)), sl (((G 9).getD 2 undef)) (rv101.1.Copies : List GCopy), os (.slice a29 s.Transfers.length k30) ((s.Transfers.set (rv33.1 : Int).toNat rv101.1) : List GTransfer)]) (by kernel_rfl) (by kernel_rfl) (by kernel_rfl) ?_; refine OpX.fact 1 rfl (fun h => h) ?_; rintro ⟨he106, he107, he108⟩; have he106 : -9223372036854775808 ≤ rv101.1.Gen.Width ∧ rv101.1.Gen.Width ≤ 9223372036854775807 := he106; have he107 : -9223372036854775808 ≤ rv101.1.Kill.Width ∧ rv101.1.Kill.Width ≤ 9223372036854775807 := he107; refine OpX.pre [0] rfl (Ent.oread _ _ _ _) ?_; refine OpX.seeL (L' := [(77, .agg #[.int .i64 rv101.1.Gen.Width, ((G 9).getD 0 undef), .int .i64 rv101.1.Kill.Width, ((G 9).getD 1 undef), ((G 9).getD 2 undef)]), (78, (eptr 5 (.slice a29 s.Transfers.length k30) (rv33.1 : Int).toNat))]) (Env.sub_all (by kernel_rfl)) ?_; refine OpX.postR (OpX.ofS (by intro _ _ h; cases h) rfl (OpS.frame [0, 1, 2, 3] rfl (OpS.storeOs' (Rs := [sl (((G 9).getD 0 undef)) (rv101.1.Gen.Words : List (BitVec 64)), sl (((G 9).getD 1 undef)) (rv101.1.Kill.Words : List (BitVec 64)), sl (((G 9).getD 2 undef)) (rv101.1.Copies : List GCopy)]) rv101.1 [.int .i64 rv101.1.Gen.Width, ((G 9).getD 0 undef), .int .i64 rv101.1.Kill.Width, ((G 9).getD 1 undef), ((G 9).getD 2 undef)] rfl rfl rfl sh54 rfl rfl (fun h => ⟨_, _, _, rfl, (by unfold i64ok; first | omega | (dsimp only; omega)), sepAll_get (i := 0) rfl h, (by unfold i64ok; first | omega | (dsimp only; omega)), sepAll_get (i := 1) rfl h, sepAll_get (i := 2) rfl h⟩) (by first | omega | (simp only [lens]; omega) | (simp only [lens] at *; omega))))) (fun g => ?_); exact Ent.take (is := [4, 1, 2, 3, 0]) rfl) ?_
        refine JD_nil ⟨by kernel_rfl, fun G => ?_⟩
        refine JJ_weaken (L' := [(4, p7), (5, p14)]) (A' := [sl (.slice a87 ((((s.Transfers.getD (rv33.1 : Int).toNat default).Gen).Words).length) k88) (((s.Transfers.getD (rv33.1 : Int).toNat default).Gen).Words : List (BitVec 64)), sl (.slice a89 ((((s.Transfers.getD (rv33.1 : Int).toNat default).Kill).Words).length) k90) (((s.Transfers.getD (rv33.1 : Int).toNat default).Kill).Words : List (BitVec 64)), sl (.slice a91 (((s.Transfers.getD (rv33.1 : Int).toNat default).Copies).length) k92) ((s.Transfers.getD (rv33.1 : Int).toNat default).Copies : List GCopy), SP.fact (isP p14), Cl p7 [.int .i64 0, .slice none 0 0, .slice none 0 0, .slice none 0 0], pv p6 [.int .i64 s.Width, .slice sa1 s.Deps.length sk1, .slice sa2 s.Transfers.length sk2, .slice sa3 s.Boundary.length sk3], sl (.slice ta tT.length tk) (tT : List Int), sl (.slice sa1 s.Deps.length sk1) (s.Deps : List (List Int)), sl (.slice sa2 s.Transfers.length sk2) (s.Transfers : List GTransfer), sl (.slice sa3 s.Boundary.length sk3) (s.Boundary : List GSet), os (.slice a27 s.Deps.length k28) (s.Deps : List (List Int)), os (.slice a31 s.Boundary.length k32) (s.Boundary : List GSet), Cl p14 [.int .i64 s.Width, .slice a27 s.Deps.length k28, .slice a29 s.Transfers.length k30, .slice a31 s.Boundary.length k32], SP.fact (i64ok rv101.1.Gen.Width ∧ i64ok rv101.1.Kill.Width ∧ (0 ≤ rv101.2 ∧ rv101.2 ≤ (tT.length : Int))), sl (((G 9).getD 0 undef)) (rv101.1.Gen.Words : List (BitVec 64)), sl (((G 9).getD 1 undef)) (rv101.1.Kill.Words : List (BitVec 64)), sl (((G 9).getD 2 undef)) (rv101.1.Copies : List GCopy), Cl tP [.slice ta tT.length tk, .int .i64 rv101.2], os (.slice a29 s.Transfers.length k30) ((s.Transfers.set (rv33.1 : Int).toNat rv101.1) : List GTransfer)]) (Env.sub_all (by kernel_rfl)) (Ent.of_eq (by kernel_rfl)) ?_
        generalize ((G 9).getD 0 undef) = c98
        generalize ((G 9).getD 1 undef) = c99
        generalize ((G 9).getD 2 undef) = c100
        refine JJ_fact 13 rfl (fun h => h) ?_
        rintro ⟨he109, he110, he111⟩
        have he109 : -9223372036854775808 ≤ rv101.1.Gen.Width ∧ rv101.1.Gen.Width ≤ 9223372036854775807 := he109
        have he110 : -9223372036854775808 ≤ rv101.1.Kill.Width ∧ rv101.1.Kill.Width ≤ 9223372036854775807 := he110
        refine JJ_keep [0, 1, 2, 4, 4, 5, 6, 7, 8, 9, 9, 9, 10, 11, 12, 13, 13] rfl ?_
        refine JJ_slice 12 rfl sl_slice ?_
        rintro a112 k113 rfl
        refine JJ_fact 12 rfl sl_bytes ?_
        intro hl114
        have hl114 : rv101.1.Gen.Words.length * 8 ≤ 140737488355328 := hl114
        refine JJ_slice 13 rfl sl_slice ?_
        rintro a115 k116 rfl
        refine JJ_fact 13 rfl sl_bytes ?_
        intro hl117
        have hl117 : rv101.1.Kill.Words.length * 8 ≤ 140737488355328 := hl117
        refine JJ_slice 14 rfl sl_slice ?_
        rintro a118 k119 rfl
        refine JJ_fact 14 rfl sl_bytes ?_
        intro hl120
        have hl120 : rv101.1.Copies.length * 16 ≤ 140737488355328 := hl120
        refine JK_blk ?_
        refine JK_seq ?_
        refine JK_region ?_
        refine JO_q rfl rfl rfl (OpV.loadA rfl rfl sh27 (i := 11) rfl (reads_Cl _ _) rfl) ?_
        refine JO_store rfl rfl (OpS.frame [3] rfl (OpS.storeCl [.int .i64 s.Width, .slice a27 s.Deps.length k28, .slice a29 s.Transfers.length k30, .slice a31 s.Boundary.length k32] [.int .i64 s.Width, .slice a27 s.Deps.length k28, .slice a29 s.Transfers.length k30, .slice a31 s.Boundary.length k32] rfl rfl rfl sh27 rfl rfl rfl (Nat.le_of_ble_eq_true rfl) rfl)) ?_
        refine JO_nil ?_
        refine JJ_loc [9] rfl (Ent.freeze _ _) ?_
        refine JJ_loc [16] rfl (Ent.freeze _ _) ?_
        refine JJ_loc [11] rfl (Ent.freeze _ _) ?_
        have hq : rr = ((GSystem.mk s.Width s.Deps (s.Transfers.set (rv33.1 : Int).toNat rv101.1) s.Boundary), rv101.2) := hrr.symm.trans (by simp only [Tape_SpoilSystem, h45, h48, h84, hg34, hg40, hg102, cs4])
        replace hrr := hrr.trans hq
        subst rr
        refine JK_return ((.slice a27 s.Deps.length k28, .slice a29 s.Transfers.length k30, .slice a31 s.Boundary.length k32)) rfl (.cellN 3 rfl sh27 rfl (reads_Cl _ _) rfl .nil) rfl (by refine ⟨?_, ?_⟩ <;> (try dsimp only) <;> first | omega | (unfold i64ok; omega) | (simp only [lens]; omega) | assumption | trivial) (Ent.take (is := [2, 1, 0, 16]) rfl)
      · skip
        have g121 : rv39.1 ≠ 2 := ne_of_beq_false h84
        refine JK_seq ?_
        refine JK_region ?_
        refine JO_q rfl rfl rfl (OpV.eql rfl rfl rfl) ?_
        refine JO_q rfl rfl rfl (OpV.assign rfl rfl) ?_
        refine JO_nil ?_
        refine JK_cond (b := (rv39.1 == 3)) rfl (fun (h122 : (rv39.1 == 3) = true) => ?_) (fun (h122 : (rv39.1 == 3) = false) => ?_)
        · skip
          have g123 : rv39.1 = 3 := eq_of_beq h122
          refine JJ_fact 10 rfl isP_Cl ?_
          intro hp124
          refine JJ_addFact hp124 ?_
          refine JJ_peekO_GSet (rv33.1 : Int).toNat 10 rfl (by first | omega | (simp only [lens]; omega) | (simp only [lens] at *; omega)) ?_
          intro a125 k126 hb127
          have hb127 : -9223372036854775808 ≤ (s.Boundary.getD (rv33.1 : Int).toNat default).Width ∧ (s.Boundary.getD (rv33.1 : Int).toNat default).Width ≤ 9223372036854775807 := hb127
          refine JJ_fact 1 rfl sl_bytes ?_
          intro hl128
          have hl128 : ((s.Boundary.getD (rv33.1 : Int).toNat default).Words).length * 8 ≤ 140737488355328 := hl128
          refine letv (Tape_SpoilSet tT rv39.2 (s.Boundary.getD (rv33.1 : Int).toNat default)) fun rv130 hg131 => ?_
          refine JK_drawJ [0, 1, 0, 0, 0, 16, 0, 112, 240, 504, 1023, 2047] [some 11, none, none, some 9] fmix ?_
          refine JD_v [2] (wn rfl) rfl rfl (OpV.fieldAddr rfl rfl fo27_3 (i := 0) rfl (isPtr_fact _)) ?_
          refine JD_v [12] (wn rfl) rfl rfl (OpV.loadF rfl rfl sh25 (i := 0) rfl (reads_Cl _ _) rfl) ?_
          refine JD_v [] (wn rfl) rfl rfl (OpV.move rfl rfl) ?_
          refine JD_v [] (wn rfl) rfl rfl (OpV.move rfl rfl) ?_
          refine JD_v [2] (wn rfl) rfl rfl (OpV.fieldAddr rfl rfl fo27_3 (i := 0) rfl (isPtr_fact _)) ?_
          refine JD_v [12] (wn rfl) rfl rfl (OpV.loadF rfl rfl sh25 (i := 0) rfl (reads_Cl _ _) rfl) ?_
          refine JD_v [] (wn rfl) rfl rfl (OpV.move rfl rfl) ?_
          refine JD_v [0] (wn rfl) rfl rfl (OpV.indexAddr (m := 0) rfl rfl rfl sl25 rfl (isSl_oread _ _ _ _) (by first | omega | (simp only [lens]; omega) | (simp only [lens] at *; omega))) ?_
          refine JD_v [0] (wn rfl) rfl rfl (OpV.loadA rfl rfl sh50 (i := 0) rfl (reads_oread _ _ _ _) rfl) ?_
          refine JD_x [1, 3, 6] [9] (fun lG => .agg #[.int .i64 rv130.1.Width, ((lG.getD 0 []).getD 0 undef)]) [⟨some 9, none, [], fun lG => SP.fact (i64ok rv130.1.Width ∧ (0 ≤ rv130.2 ∧ rv130.2 ≤ (tT.length : Int)))⟩, ⟨some 9, none, [9], fun lG => sl (((lG.getD 0 []).getD 0 undef)) (rv130.1.Words : List (BitVec 64))⟩, ⟨some 9, none, [], fun lG => Cl tP [.slice ta tT.length tk, .int .i64 rv130.2]⟩] (wn rfl) rfl rfl rfl (fun G => by refine OpX.n3 (A' := [sl (.slice a125 (((s.Boundary.getD (rv33.1 : Int).toNat default).Words).length) k126) ((s.Boundary.getD (rv33.1 : Int).toNat default).Words : List (BitVec 64)), Cl tP [.slice ta tT.length tk, .int .i64 rv39.2], sl (.slice ta tT.length tk) (tT : List Int)]) (V' := fun g => .agg #[.int .i64 rv130.1.Width, (g.getD 0 undef)]) (B' := fun g => [sl (.slice a125 (((s.Boundary.getD (rv33.1 : Int).toNat default).Words).length) k126) ((s.Boundary.getD (rv33.1 : Int).toNat default).Words : List (BitVec 64)), sl (.slice ta tT.length tk) (tT : List Int), SP.fact (i64ok rv130.1.Width ∧ (0 ≤ rv130.2 ∧ rv130.2 ≤ (tT.length : Int))), sl ((g.getD 0 undef)) (rv130.1.Words : List (BitVec 64)), Cl tP [.slice ta tT.length tk, .int .i64 rv130.2]]) (by kernel_rfl) (by kernel_rfl) (by kernel_rfl) ?_; refine OpX.postR (OpX.frame [1, 1, 0] rfl (OpX.ofC (fun g => [g]) (fun l => l.getD 0 undef) (fun _ => rfl) (by intro _ _ h; cases h) (OpC.fn rfl ca28 rfl) (fn28 tP ta tk tT rv39.2 ((s.Boundary.getD (rv33.1 : Int).toNat default)) a125 k126 (by (try dsimp only) <;> first | (unfold i64ok; omega) | omega | assumption) (by (try dsimp only) <;> first | (unfold i64ok; omega) | omega | assumption) (by refine hv.bd_ok ?_; (try rw [List.nil_append]); exact getD_mem (by first | omega | (simp only [List.length_append, List.length_nil]; omega))) rv130 hg131))) (fun g => ?_); exact Ent.take (is := [3, 4, 0, 1, 2]) rfl) ?_
          refine JD_x [0, 13] [] (fun lG => (eptr 2 (.slice a31 s.Boundary.length k32) (rv33.1 : Int).toNat)) [] (wn rfl) rfl rfl rfl (fun G => by refine OpX.n3 (A' := [oread (.slice a31 s.Boundary.length k32) (s.Boundary : List GSet) (rv33.1 : Int).toNat [.int .i64 ((s.Boundary.getD (rv33.1 : Int).toNat default).Width), .slice a125 (((s.Boundary.getD (rv33.1 : Int).toNat default).Words).length) k126], SP.fact (i64ok rv130.1.Width ∧ (0 ≤ rv130.2 ∧ rv130.2 ≤ (tT.length : Int)))]) (V' := fun g => (eptr 2 (.slice a31 s.Boundary.length k32) (rv33.1 : Int).toNat)) (B' := fun g => [oread (.slice a31 s.Boundary.length k32) (s.Boundary : List GSet) (rv33.1 : Int).toNat [.int .i64 ((s.Boundary.getD (rv33.1 : Int).toNat default).Width), .slice a125 (((s.Boundary.getD (rv33.1 : Int).toNat default).Words).length) k126], SP.fact (i64ok rv130.1.Width ∧ (0 ≤ rv130.2 ∧ rv130.2 ≤ (tT.length : Int)))]) (by kernel_rfl) (by kernel_rfl) (by kernel_rfl) ?_; refine OpX.fact 1 rfl (fun h => h) ?_; rintro ⟨he132, he133⟩; have he132 : -9223372036854775808 ≤ rv130.1.Width ∧ rv130.1.Width ≤ 9223372036854775807 := he132; refine OpX.postR (OpX.ofV (by intro _ _ h; cases h) (OpV.indexAddr (m := 0) rfl rfl rfl sl25 rfl (isSl_oread _ _ _ _) (by first | omega | (simp only [lens]; omega) | (simp only [lens] at *; omega)))) (fun g => ?_); exact Ent.take (is := [0, 0]) rfl) ?_
          refine JD_x0 [0, 13, 14] [⟨some 11, none, [], fun lG => os (.slice a31 s.Boundary.length k32) ((s.Boundary.set (rv33.1 : Int).toNat rv130.1) : List GSet)⟩] (wn rfl) rfl rfl rfl (fun G => by refine OpX.n3 (A' := [oread (.slice a31 s.Boundary.length k32) (s.Boundary : List GSet) (rv33.1 : Int).toNat [.int .i64 ((s.Boundary.getD (rv33.1 : Int).toNat default).Width), .slice a125 (((s.Boundary.getD (rv33.1 : Int).toNat default).Words).length) k126], SP.fact (i64ok rv130.1.Width ∧ (0 ≤ rv130.2 ∧ rv130.2 ≤ (tT.length : Int))), sl (((G 9).getD 0 undef)) (rv130.1.Words : List (BitVec 64))]) (V' := fun g => undef) (B' := fun g => [SP.fact (i64ok rv130.1.Width ∧ (0 ≤ rv130.2 ∧ rv130.2 ≤ (tT.length : Int))), sl (((G 9).getD 0 undef)) (rv130.1.Words : List (BitVec 64)), os (.slice a31 s.Boundary.length k32) ((s.Boundary.set (rv33.1 : Int).toNat rv130.1) : List GSet)]) (by kernel_rfl) (by kernel_rfl) (by kernel_rfl) ?_; refine OpX.fact 1 rfl (fun h => h) ?_; rintro ⟨he134, he135⟩; have he134 : -9223372036854775808 ≤ rv130.1.Width ∧ rv130.1.Width ≤ 9223372036854775807 := he134; refine OpX.pre [0] rfl (Ent.oread _ _ _ _) ?_; refine OpX.seeL (L' := [(90, .agg #[.int .i64 rv130.1.Width, ((G 9).getD 0 undef)]), (91, (eptr 2 (.slice a31 s.Boundary.length k32) (rv33.1 : Int).toNat))]) (Env.sub_all (by kernel_rfl)) ?_; refine OpX.postR (OpX.ofS (by intro _ _ h; cases h) rfl (OpS.frame [0, 1] rfl (OpS.storeOs' (Rs := [sl (((G 9).getD 0 undef)) (rv130.1.Words : List (BitVec 64))]) rv130.1 [.int .i64 rv130.1.Width, ((G 9).getD 0 undef)] rfl rfl rfl sh50 rfl rfl (fun h => ⟨_, rfl, (by unfold i64ok; first | omega | (dsimp only; omega)), sepAll_get (i := 0) rfl h⟩) (by first | omega | (simp only [lens]; omega) | (simp only [lens] at *; omega))))) (fun g => ?_); exact Ent.take (is := [2, 1, 0]) rfl) ?_
          refine JD_nil ⟨by kernel_rfl, fun G => ?_⟩
          refine JJ_weaken (L' := [(4, p7), (5, p14)]) (A' := [sl (.slice a125 (((s.Boundary.getD (rv33.1 : Int).toNat default).Words).length) k126) ((s.Boundary.getD (rv33.1 : Int).toNat default).Words : List (BitVec 64)), SP.fact (isP p14), Cl p7 [.int .i64 0, .slice none 0 0, .slice none 0 0, .slice none 0 0], pv p6 [.int .i64 s.Width, .slice sa1 s.Deps.length sk1, .slice sa2 s.Transfers.length sk2, .slice sa3 s.Boundary.length sk3], sl (.slice ta tT.length tk) (tT : List Int), sl (.slice sa1 s.Deps.length sk1) (s.Deps : List (List Int)), sl (.slice sa2 s.Transfers.length sk2) (s.Transfers : List GTransfer), sl (.slice sa3 s.Boundary.length sk3) (s.Boundary : List GSet), os (.slice a27 s.Deps.length k28) (s.Deps : List (List Int)), os (.slice a29 s.Transfers.length k30) (s.Transfers : List GTransfer), Cl p14 [.int .i64 s.Width, .slice a27 s.Deps.length k28, .slice a29 s.Transfers.length k30, .slice a31 s.Boundary.length k32], SP.fact (i64ok rv130.1.Width ∧ (0 ≤ rv130.2 ∧ rv130.2 ≤ (tT.length : Int))), sl (((G 9).getD 0 undef)) (rv130.1.Words : List (BitVec 64)), Cl tP [.slice ta tT.length tk, .int .i64 rv130.2], os (.slice a31 s.Boundary.length k32) ((s.Boundary.set (rv33.1 : Int).toNat rv130.1) : List GSet)]) (Env.sub_all (by kernel_rfl)) (Ent.of_eq (by kernel_rfl)) ?_
          generalize ((G 9).getD 0 undef) = c129
          refine JJ_fact 11 rfl (fun h => h) ?_
          rintro ⟨he136, he137⟩
          have he136 : -9223372036854775808 ≤ rv130.1.Width ∧ rv130.1.Width ≤ 9223372036854775807 := he136
          refine JJ_keep [0, 2, 2, 3, 4, 5, 6, 7, 7, 7, 8, 9, 9] rfl ?_
          refine JJ_slice 10 rfl sl_slice ?_
          rintro a138 k139 rfl
          refine JJ_fact 10 rfl sl_bytes ?_
          intro hl140
          have hl140 : rv130.1.Words.length * 8 ≤ 140737488355328 := hl140
          refine JK_blk ?_
          refine JK_seq ?_
          refine JK_region ?_
          refine JO_q rfl rfl rfl (OpV.loadA rfl rfl sh27 (i := 9) rfl (reads_Cl _ _) rfl) ?_
          refine JO_store rfl rfl (OpS.frame [1] rfl (OpS.storeCl [.int .i64 s.Width, .slice a27 s.Deps.length k28, .slice a29 s.Transfers.length k30, .slice a31 s.Boundary.length k32] [.int .i64 s.Width, .slice a27 s.Deps.length k28, .slice a29 s.Transfers.length k30, .slice a31 s.Boundary.length k32] rfl rfl rfl sh27 rfl rfl rfl (Nat.le_of_ble_eq_true rfl) rfl)) ?_
          refine JO_nil ?_
          refine JJ_loc [7] rfl (Ent.freeze _ _) ?_
          refine JJ_loc [8] rfl (Ent.freeze _ _) ?_
          refine JJ_loc [12] rfl (Ent.freeze _ _) ?_
          have hq : rr = ((GSystem.mk s.Width s.Deps s.Transfers (s.Boundary.set (rv33.1 : Int).toNat rv130.1)), rv130.2) := hrr.symm.trans (by simp only [Tape_SpoilSystem, h45, h48, h84, h122, hg34, hg40, hg131, cs4])
          replace hrr := hrr.trans hq
          subst rr
          refine JK_return ((.slice a27 s.Deps.length k28, .slice a29 s.Transfers.length k30, .slice a31 s.Boundary.length k32)) rfl (.cellN 3 rfl sh27 rfl (reads_Cl _ _) rfl .nil) rfl (by refine ⟨?_, ?_⟩ <;> (try dsimp only) <;> first | omega | (unfold i64ok; omega) | (simp only [lens]; omega) | assumption | trivial) (Ent.take (is := [2, 1, 0, 12]) rfl)
        · skip
          have g141 : rv39.1 ≠ 3 := ne_of_beq_false h122
          refine JK_seq ?_
          refine JK_region ?_
          refine JO_q rfl rfl rfl (OpV.eql rfl rfl rfl) ?_
          refine JO_q rfl rfl rfl (OpV.assign rfl rfl) ?_
          refine JO_nil ?_
          refine JK_cond (b := (rv39.1 == 4)) rfl (fun (h142 : (rv39.1 == 4) = true) => ?_) (fun (h142 : (rv39.1 == 4) = false) => ?_)
          · skip
            have g143 : rv39.1 = 4 := eq_of_beq h142
            refine JK_region ?_
            refine JO_q rfl rfl rfl (OpV.fieldAddr rfl rfl fo27_1 (i := 10) rfl (isPtr_Cl _ _)) ?_
            refine JO_q rfl rfl rfl (OpV.loadF rfl rfl sh23 (i := 10) rfl (reads_Cl _ _) rfl) ?_
            refine JO_act rfl rfl rfl (OpA.frame [7] rfl (OpA.sliceOs ((1 : Int).toNat) s.Deps.length rfl rfl sl23 rfl ⟨_, natc rfl (by omega)⟩ rfl (by first | omega | (simp only [lens]; omega) | (simp only [lens] at *; omega)) (by first | omega | (simp only [lens]; omega) | (simp only [lens] at *; omega)))) ?_
            intro c144
            refine JJ_slice 0 rfl os_slice ?_
            rintro a145 k146 rfl
            refine JJ_fact 0 rfl os_bytes ?_
            intro hl147
            have hl147 : ((s.Deps.take s.Deps.length).drop ((1 : Int).toNat)).length * 24 ≤ 140737488355328 := hl147
            have hn148 : ((s.Deps.take s.Deps.length).drop ((1 : Int).toNat)).length = s.Deps.length - ((1 : Int).toNat) := len_slice (by first | omega | (simp only [lens]; omega) | (simp only [lens] at *; omega)) (by first | omega | (simp only [lens]; omega) | (simp only [lens] at *; omega))
            refine JO_q rfl rfl rfl (OpV.fieldAddr rfl rfl fo27_1 (i := 10) rfl (isPtr_Cl _ _)) ?_
            refine JO_store rfl rfl (OpS.frame [10] rfl (OpS.storeClF [.slice a145 (((s.Deps.take s.Deps.length).drop ((1 : Int).toNat)).length) k146] [.int .i64 s.Width, .slice a145 (((s.Deps.take s.Deps.length).drop ((1 : Int).toNat)).length) k146, .slice a29 s.Transfers.length k30, .slice a31 s.Boundary.length k32] rfl rfl rfl sh23 rfl rfl rfl (Nat.le_of_ble_eq_true rfl) rfl)) ?_
            refine JO_nil ?_
            refine JK_blk ?_
            refine JK_seq ?_
            refine JK_region ?_
            refine JO_q rfl rfl rfl (OpV.loadA rfl rfl sh27 (i := 0) rfl (reads_Cl _ _) rfl) ?_
            refine JO_store rfl rfl (OpS.frame [3] rfl (OpS.storeCl [.int .i64 s.Width, .slice a145 (((s.Deps.take s.Deps.length).drop ((1 : Int).toNat)).length) k146, .slice a29 s.Transfers.length k30, .slice a31 s.Boundary.length k32] [.int .i64 s.Width, .slice a145 (((s.Deps.take s.Deps.length).drop ((1 : Int).toNat)).length) k146, .slice a29 s.Transfers.length k30, .slice a31 s.Boundary.length k32] rfl rfl rfl sh27 rfl rfl rfl (Nat.le_of_ble_eq_true rfl) rfl)) ?_
            refine JO_nil ?_
            refine JJ_loc [2] rfl (Ent.freeze _ _) ?_
            refine JJ_loc [9] rfl (Ent.freeze _ _) ?_
            refine JJ_loc [10] rfl (Ent.freeze _ _) ?_
            have hq : rr = ((GSystem.mk s.Width ((s.Deps.take s.Deps.length).drop ((1 : Int).toNat)) s.Transfers s.Boundary), rv39.2) := hrr.symm.trans (by simp only [Tape_SpoilSystem, h45, h48, h84, h122, h142, hg34, hg40, cs4])
            replace hrr := hrr.trans hq
            subst rr
            refine JK_return ((.slice a145 (((s.Deps.take s.Deps.length).drop ((1 : Int).toNat)).length) k146, .slice a29 s.Transfers.length k30, .slice a31 s.Boundary.length k32)) rfl (.cellN 3 rfl sh27 rfl (reads_Cl _ _) rfl .nil) rfl (by refine ⟨?_, ?_⟩ <;> (try dsimp only) <;> first | omega | (unfold i64ok; omega) | (simp only [lens]; omega) | assumption | trivial) (Ent.take (is := [2, 1, 0, 5]) rfl)
          · skip
            have g149 : rv39.1 ≠ 4 := ne_of_beq_false h142
            refine JJ_fact 10 rfl isP_Cl ?_
            intro hp150
            refine JJ_addFact hp150 ?_
            refine JJ_peekO_GTransfer (0 : Int).toNat 9 rfl (by first | omega | (simp only [lens]; omega) | (simp only [lens] at *; omega)) ?_
            intro a151 k152 a153 k154 a155 k156 hb157 hb158
            have hb157 : -9223372036854775808 ≤ ((s.Transfers.getD (0 : Int).toNat default).Gen).Width ∧ ((s.Transfers.getD (0 : Int).toNat default).Gen).Width ≤ 9223372036854775807 := hb157
            have hb158 : -9223372036854775808 ≤ ((s.Transfers.getD (0 : Int).toNat default).Kill).Width ∧ ((s.Transfers.getD (0 : Int).toNat default).Kill).Width ≤ 9223372036854775807 := hb158
            refine JJ_fact 1 rfl sl_bytes ?_
            intro hl159
            have hl159 : (((s.Transfers.getD (0 : Int).toNat default).Gen).Words).length * 8 ≤ 140737488355328 := hl159
            refine JJ_fact 2 rfl sl_bytes ?_
            intro hl160
            have hl160 : (((s.Transfers.getD (0 : Int).toNat default).Kill).Words).length * 8 ≤ 140737488355328 := hl160
            refine JJ_fact 3 rfl sl_bytes ?_
            intro hl161
            have hl161 : ((s.Transfers.getD (0 : Int).toNat default).Copies).length * 16 ≤ 140737488355328 := hl161
            have hn164 : ((s.Transfers ++ [(s.Transfers.getD (0 : Int).toNat default)]) : List GTransfer).length = (s.Transfers : List GTransfer).length + ([(s.Transfers.getD (0 : Int).toNat default)] : List GTransfer).length := List.length_append
            refine JK_drawJ [0, 1, 0, 4, 12, 28, 60, 127, 255, 511] [some 7, none, none, none, none, none, none, none, none, none, none, none, none, none, some 9] fmix ?_
            refine JD_v [4] (wn rfl) rfl rfl (OpV.fieldAddr rfl rfl fo27_2 (i := 0) rfl (isPtr_fact _)) ?_
            refine JD_v [14] (wn rfl) rfl rfl (OpV.loadF rfl rfl sh24 (i := 0) rfl (reads_Cl _ _) rfl) ?_
            refine JD_v [4] (wn rfl) rfl rfl (OpV.fieldAddr rfl rfl fo27_2 (i := 0) rfl (isPtr_fact _)) ?_
            refine JD_v [14] (wn rfl) rfl rfl (OpV.loadF rfl rfl sh24 (i := 0) rfl (reads_Cl _ _) rfl) ?_
            refine JD_v [0] (wn rfl) rfl rfl (OpV.indexAddr (m := 0) rfl rfl rfl sl24 rfl (isSl_oread _ _ _ _) (by first | omega | (simp only [lens]; omega) | (simp only [lens] at *; omega))) ?_
            refine JD_v [0] (wn rfl) rfl rfl (OpV.loadA rfl rfl sh54 (i := 0) rfl (reads_oread _ _ _ _) rfl) ?_
            refine JD_x [] [6] (fun lG => ((lG.getD 0 []).getD 0 undef)) [⟨some 6, some 7, [6], fun lG => Cr ((lG.getD 0 []).getD 0 undef) 1 [.int .i64 (((s.Transfers.getD (0 : Int).toNat default).Gen).Width), .slice a151 ((((s.Transfers.getD (0 : Int).toNat default).Gen).Words).length) k152, .int .i64 (((s.Transfers.getD (0 : Int).toNat default).Kill).Width), .slice a153 ((((s.Transfers.getD (0 : Int).toNat default).Kill).Words).length) k154, .slice a155 (((s.Transfers.getD (0 : Int).toNat default).Copies).length) k156]⟩] (wn rfl) rfl rfl rfl (fun G => by refine OpX.n3 (A' := []) (V' := fun g => (g.getD 0 undef)) (B' := fun g => [Cr (g.getD 0 undef) 1 [.int .i64 (((s.Transfers.getD (0 : Int).toNat default).Gen).Width), .slice a151 ((((s.Transfers.getD (0 : Int).toNat default).Gen).Words).length) k152, .int .i64 (((s.Transfers.getD (0 : Int).toNat default).Kill).Width), .slice a153 ((((s.Transfers.getD (0 : Int).toNat default).Kill).Words).length) k154, .slice a155 (((s.Transfers.getD (0 : Int).toNat default).Copies).length) k156]]) (by kernel_rfl) (by kernel_rfl) (by kernel_rfl) ?_; refine OpX.postR (OpX.ofA (by intro _ _ h; cases h) (OpA.buildSliceV [.agg #[.int .i64 (((s.Transfers.getD (0 : Int).toNat default).Gen).Width), .slice a151 ((((s.Transfers.getD (0 : Int).toNat default).Gen).Words).length) k152, .int .i64 (((s.Transfers.getD (0 : Int).toNat default).Kill).Width), .slice a153 ((((s.Transfers.getD (0 : Int).toNat default).Kill).Words).length) k154, .slice a155 (((s.Transfers.getD (0 : Int).toNat default).Copies).length) k156]] [.int .i64 (((s.Transfers.getD (0 : Int).toNat default).Gen).Width), .slice a151 ((((s.Transfers.getD (0 : Int).toNat default).Gen).Words).length) k152, .int .i64 (((s.Transfers.getD (0 : Int).toNat default).Kill).Width), .slice a153 ((((s.Transfers.getD (0 : Int).toNat default).Kill).Words).length) k154, .slice a155 (((s.Transfers.getD (0 : Int).toNat default).Copies).length) k156] rfl sl24 sz24 rfl (Env.evp_map rfl) rfl rfl rfl rfl)) (fun g => ?_); exact Ent.take (is := [0]) rfl) ?_
            refine JD_x [0, 1, 2, 3, 15] [7] (fun lG => ((lG.getD 0 []).getD 0 undef)) [⟨some 7, none, [7], fun lG => os (((lG.getD 0 []).getD 0 undef)) ((s.Transfers ++ [(s.Transfers.getD (0 : Int).toNat default)]) : List GTransfer)⟩] (wn rfl) rfl rfl rfl (fun G => by refine OpX.n3 (A' := [oread (.slice a29 s.Transfers.length k30) (s.Transfers : List GTransfer) (0 : Int).toNat [.int .i64 (((s.Transfers.getD (0 : Int).toNat default).Gen).Width), .slice a151 ((((s.Transfers.getD (0 : Int).toNat default).Gen).Words).length) k152, .int .i64 (((s.Transfers.getD (0 : Int).toNat default).Kill).Width), .slice a153 ((((s.Transfers.getD (0 : Int).toNat default).Kill).Words).length) k154, .slice a155 (((s.Transfers.getD (0 : Int).toNat default).Copies).length) k156], sl (.slice a151 ((((s.Transfers.getD (0 : Int).toNat default).Gen).Words).length) k152) (((s.Transfers.getD (0 : Int).toNat default).Gen).Words : List (BitVec 64)), sl (.slice a153 ((((s.Transfers.getD (0 : Int).toNat default).Kill).Words).length) k154) (((s.Transfers.getD (0 : Int).toNat default).Kill).Words : List (BitVec 64)), sl (.slice a155 (((s.Transfers.getD (0 : Int).toNat default).Copies).length) k156) ((s.Transfers.getD (0 : Int).toNat default).Copies : List GCopy), Cr ((G 6).getD 0 undef) 1 [.int .i64 (((s.Transfers.getD (0 : Int).toNat default).Gen).Width), .slice a151 ((((s.Transfers.getD (0 : Int).toNat default).Gen).Words).length) k152, .int .i64 (((s.Transfers.getD (0 : Int).toNat default).Kill).Width), .slice a153 ((((s.Transfers.getD (0 : Int).toNat default).Kill).Words).length) k154, .slice a155 (((s.Transfers.getD (0 : Int).toNat default).Copies).length) k156]]) (V' := fun g => (g.getD 0 undef)) (B' := fun g => [sl (.slice a151 ((((s.Transfers.getD (0 : Int).toNat default).Gen).Words).length) k152) (((s.Transfers.getD (0 : Int).toNat default).Gen).Words : List (BitVec 64)), sl (.slice a153 ((((s.Transfers.getD (0 : Int).toNat default).Kill).Words).length) k154) (((s.Transfers.getD (0 : Int).toNat default).Kill).Words : List (BitVec 64)), sl (.slice a155 (((s.Transfers.getD (0 : Int).toNat default).Copies).length) k156) ((s.Transfers.getD (0 : Int).toNat default).Copies : List GCopy), os ((g.getD 0 undef)) ((s.Transfers ++ [(s.Transfers.getD (0 : Int).toNat default)]) : List GTransfer)]) (by kernel_rfl) (by kernel_rfl) (by kernel_rfl) ?_; refine OpX.pre [0] rfl (Ent.oread _ _ _ _) ?_; refine OpX.pre [4, 1, 2, 3] rfl (Ent.cr1 (α := GTransfer) (A := [sl (.slice a151 ((((s.Transfers.getD (0 : Int).toNat default).Gen).Words).length) k152) (((s.Transfers.getD (0 : Int).toNat default).Gen).Words : List (BitVec 64)), sl (.slice a153 ((((s.Transfers.getD (0 : Int).toNat default).Kill).Words).length) k154) (((s.Transfers.getD (0 : Int).toNat default).Kill).Words : List (BitVec 64)), sl (.slice a155 (((s.Transfers.getD (0 : Int).toNat default).Copies).length) k156) ((s.Transfers.getD (0 : Int).toNat default).Copies : List GCopy)]) _ (s.Transfers.getD (0 : Int).toNat default) _ (Nat.le_of_ble_eq_true rfl) (fun h => ⟨_, _, _, rfl, (by unfold i64ok; first | omega | (dsimp only; omega)), sepAll_get (i := 0) rfl h, (by unfold i64ok; first | omega | (dsimp only; omega)), sepAll_get (i := 1) rfl h, sepAll_get (i := 2) rfl h⟩)) ?_; refine OpX.seeL (L' := [(30, .slice a29 s.Transfers.length k30), (35, ((G 6).getD 0 undef))]) (Env.sub_all (by kernel_rfl)) ?_; refine OpX.postR (OpX.ofA (by intro _ _ h; cases h) (OpA.frame [4, 0] rfl (OpA.appO (α := GTransfer) (xs := s.Transfers) (ys := [(s.Transfers.getD (0 : Int).toNat default)]) rfl rfl rfl sl24 sl24 sz24 rfl rfl rfl (by show (_ + _) * 88 ≤ 140737488355328; first | omega | (simp only [lens]; omega) | (simp only [lens] at *; omega))))) (fun g => ?_); exact Ent.take (is := [1, 2, 3, 0]) rfl) ?_
            refine JD_v [4] (wn rfl) rfl rfl (OpV.fieldAddr rfl rfl fo27_2 (i := 0) rfl (isPtr_fact _)) ?_
            refine JD_x0 [14, 16] [⟨some 9, none, [7], fun lG => Cl p14 [.int .i64 s.Width, .slice a27 s.Deps.length k28, ((lG.getD 0 []).getD 0 undef), .slice a31 s.Boundary.length k32]⟩] (wn rfl) rfl rfl rfl (fun G => by refine OpX.n3 (A' := [Cl p14 [.int .i64 s.Width, .slice a27 s.Deps.length k28, .slice a29 s.Transfers.length k30, .slice a31 s.Boundary.length k32], os (((G 7).getD 0 undef)) ((s.Transfers ++ [(s.Transfers.getD (0 : Int).toNat default)]) : List GTransfer)]) (V' := fun g => undef) (B' := fun g => [os (((G 7).getD 0 undef)) ((s.Transfers ++ [(s.Transfers.getD (0 : Int).toNat default)]) : List GTransfer), Cl p14 [.int .i64 s.Width, .slice a27 s.Deps.length k28, ((G 7).getD 0 undef), .slice a31 s.Boundary.length k32]]) (by kernel_rfl) (by kernel_rfl) (by kernel_rfl) ?_; refine OpX.fact 1 rfl os_one ?_; intro ho165; refine OpX.seeL (L' := [(36, ((G 7).getD 0 undef)), (37, fptr p14 2)]) (Env.sub_all (by kernel_rfl)) ?_; refine OpX.postR (OpX.ofS (by intro _ _ h; cases h) rfl (OpS.frame [0] rfl (OpS.storeClF [((G 7).getD 0 undef)] [.int .i64 s.Width, .slice a27 s.Deps.length k28, ((G 7).getD 0 undef), .slice a31 s.Boundary.length k32] rfl rfl rfl sh24 (cells_of_one ho165) rfl (by simp only [List.all_cons, List.all_nil, ho165, Bool.and_true, Bool.true_and] <;> rfl) (Nat.le_of_ble_eq_true rfl) rfl))) (fun g => ?_); exact Ent.take (is := [1, 0]) rfl) ?_
            refine JD_nil ⟨by kernel_rfl, fun G => ?_⟩
            refine JJ_weaken (L' := [(4, p7), (5, p14)]) (A' := [sl (.slice a151 ((((s.Transfers.getD (0 : Int).toNat default).Gen).Words).length) k152) (((s.Transfers.getD (0 : Int).toNat default).Gen).Words : List (BitVec 64)), sl (.slice a153 ((((s.Transfers.getD (0 : Int).toNat default).Kill).Words).length) k154) (((s.Transfers.getD (0 : Int).toNat default).Kill).Words : List (BitVec 64)), sl (.slice a155 (((s.Transfers.getD (0 : Int).toNat default).Copies).length) k156) ((s.Transfers.getD (0 : Int).toNat default).Copies : List GCopy), SP.fact (isP p14), Cl tP [.slice ta tT.length tk, .int .i64 rv39.2], Cl p7 [.int .i64 0, .slice none 0 0, .slice none 0 0, .slice none 0 0], pv p6 [.int .i64 s.Width, .slice sa1 s.Deps.length sk1, .slice sa2 s.Transfers.length sk2, .slice sa3 s.Boundary.length sk3], sl (.slice ta tT.length tk) (tT : List Int), sl (.slice sa1 s.Deps.length sk1) (s.Deps : List (List Int)), sl (.slice sa2 s.Transfers.length sk2) (s.Transfers : List GTransfer), sl (.slice sa3 s.Boundary.length sk3) (s.Boundary : List GSet), os (.slice a27 s.Deps.length k28) (s.Deps : List (List Int)), os (.slice a31 s.Boundary.length k32) (s.Boundary : List GSet), os (((G 7).getD 0 undef)) ((s.Transfers ++ [(s.Transfers.getD (0 : Int).toNat default)]) : List GTransfer), Cl p14 [.int .i64 s.Width, .slice a27 s.Deps.length k28, ((G 7).getD 0 undef), .slice a31 s.Boundary.length k32]]) (Env.sub_all (by kernel_rfl)) (Ent.of_eq (by kernel_rfl)) ?_
            generalize ((G 7).getD 0 undef) = c163
            refine JJ_keep [0, 1, 2, 4, 4, 4, 5, 6, 7, 8, 9, 9, 9, 9] rfl ?_
            refine JJ_slice 12 rfl os_slice ?_
            rintro a166 k167 rfl
            refine JJ_fact 12 rfl os_bytes ?_
            intro hl168
            have hl168 : (s.Transfers ++ [(s.Transfers.getD (0 : Int).toNat default)]).length * 88 ≤ 140737488355328 := hl168
            refine JK_blk ?_
            refine JK_seq ?_
            refine JK_region ?_
            refine JO_q rfl rfl rfl (OpV.loadA rfl rfl sh27 (i := 13) rfl (reads_Cl _ _) rfl) ?_
            refine JO_store rfl rfl (OpS.frame [4] rfl (OpS.storeCl [.int .i64 s.Width, .slice a27 s.Deps.length k28, .slice a166 ((s.Transfers ++ [(s.Transfers.getD (0 : Int).toNat default)]).length) k167, .slice a31 s.Boundary.length k32] [.int .i64 s.Width, .slice a27 s.Deps.length k28, .slice a166 ((s.Transfers ++ [(s.Transfers.getD (0 : Int).toNat default)]).length) k167, .slice a31 s.Boundary.length k32] rfl rfl rfl sh27 rfl rfl rfl (Nat.le_of_ble_eq_true rfl) rfl)) ?_
            refine JO_nil ?_
            refine JJ_loc [10] rfl (Ent.freeze _ _) ?_
            refine JJ_loc [12] rfl (Ent.freeze _ _) ?_
            refine JJ_loc [12] rfl (Ent.freeze _ _) ?_
            have hq : rr = ((GSystem.mk s.Width s.Deps (s.Transfers ++ [(s.Transfers.getD (0 : Int).toNat default)]) s.Boundary), rv39.2) := hrr.symm.trans (by simp only [Tape_SpoilSystem, h45, h48, h84, h122, h142, hg34, hg40, cs4])
            replace hrr := hrr.trans hq
            subst rr
            refine JK_return ((.slice a27 s.Deps.length k28, .slice a166 ((s.Transfers ++ [(s.Transfers.getD (0 : Int).toNat default)]).length) k167, .slice a31 s.Boundary.length k32)) rfl (.cellN 3 rfl sh27 rfl (reads_Cl _ _) rfl .nil) rfl (by refine ⟨?_, ?_⟩ <;> (try dsimp only) <;> first | omega | (unfold i64ok; omega) | (simp only [lens]; omega) | assumption | trivial) (Ent.take (is := [2, 1, 0, 7]) rfl)
end Go.SL.G
