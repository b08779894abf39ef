/- Part 4 of the walks: mirrors, plain laws and walks used by the last text of this claim. -/
import Derived.Test.YtaecnbagiemkbaaGreatDoorW3
import Derived.Test.YtaecnbagiemkbaaGreatDoorProg
set_option linter.unusedVariables false
set_option linter.unusedSimpArgs false
namespace Go.SL.G
open Go Go.SL Go.Proofs
set_option maxHeartbeats 20000000
set_option maxRecDepth 100000
theorem fn26 (bP : Value) (b : Gbuilder) (ba0 : Option Addr) (bk0 : Nat) (ba1 : Option Addr) (bk1 : Nat) (ba2 : Option Addr) (bk2 : Nat) (bm3 : Value) (p : GProgram) (pa0 : Option Addr) (pk0 : Nat) (n : GNode) (s : GStmt) (sa2 : Option Addr) (sk2 : Nat) (sa3 : Option Addr) (sk3 : Nat) (hn_0 : i64ok n.Kind) (hn_1 : i64ok n.Func) (hn_2 : i64ok n.Block) (hn_3 : i64ok n.Stmt) (hs_0 : i64ok s.Op) (hs_1 : s.Def.b.length ≤ 140737488355328) (hb : BOk b) (hn0 : 0 ≤ n.Func ∧ n.Func < (p.Funcs.length : Int) ∧ n.Stmt ≤ 100000) (ht0 : s.Op = 3 → 0 < s.Targets.length) (rr : Gbuilder) (hrr : bd_stmt b p n s = rr) : FT Tryz.prog 26 #[bP, .agg #[vl pa0 pk0 p.Funcs], .agg #[vi n.Kind, vi n.Func, vi n.Block, vi n.Stmt], .agg #[vi s.Op, .string (bs s.Def), vl sa2 sk2 s.Uses, vl sa3 sk3 s.Targets]] [Cl bP [vl ba0 bk0 b.g.Nodes, vl ba1 bk1 b.g.Succ, vl ba2 bk2 b.g.Pred, bm3], S ba0 bk0 b.g.Nodes, D ba1 bk1 b.g.Succ, D ba2 bk2 b.g.Pred, Mp ev_GNode vi ok_GNode bm3 b.number, S pa0 pk0 p.Funcs, S sa2 sk2 s.Uses, S sa3 sk3 s.Targets] (fun g : Value × Value × Value => (BOk rr) ∧ (rr.g.Succ.length = b.g.Succ.length)) (fun g => .tuple #[]) (fun g => [Cl bP [g.1, g.2.1, g.2.2, bm3], sl g.1 rr.g.Nodes, ds g.2.1 rr.g.Succ, ds g.2.2 rr.g.Pred, Mp ev_GNode vi ok_GNode bm3 rr.number]) := by
 refine FTi Tryz.func26 fun w0 M0 F0 => ?_
 unfold i64ok at hn_0 hn_1 hn_2 hn_3 hs_0
 refine Fb 32 1 fun _ => ?_
 refine FbD 24 2 fun _ => ?_
 refine FbD 24 3 fun _ => ?_
 refine Fb 40 5 fun _ => Fb 16 6 fun _ => ?_
 refine FoS 6 fun ho6 => ?_
 refine Fb 16 7 fun _ => ?_
 refine FoS 7 fun ho8 => ?_
 have hps := hb.ps
 have hn0 := hb.n0
 have hnb := hb.nb
 have hhe := hb.num n
 refine KS ?_
 refine Oa (Ab [vl pa0 pk0 p.Funcs]) fun p9 => Oa (Ab [vi n.Kind, vi n.Func, vi n.Block, vi n.Stmt]) fun p10 => Oa (Ab [vi s.Op, .string (bs s.Def), vl sa2 sk2 s.Uses, vl sa3 sk3 s.Targets]) fun p11 => KS ?_
 refine Jp 3 fun hp12 => ?_
 refine Kq [0, 1, 3, 7, 0, 31, 63] fmix ?_
 refine Qv [] Vm (Qv [0] (Vn 0) (Qv [0] (Vfa fo72_1 0) (Qv [4] (VldF sh70 0) (Qv [2] (VldA sh65 0) (Qv [8] (Vmk1 0 0 mt70 kk_GNode ze3 (ek := ev_GNode) (ev := vi) (ok := ok_GNode) (key := n) preK) (Qv [] Va ?_))))))
 refine Qn ⟨by kernel_rfl, ?_⟩
 refine KS ?_
 refine Oq Vm (Oq (Vfa fo65_1 2) (Oq (VldF sh3 2) (Oq (Vfa fo65_2 2) (Oq (VldF sh3 2) (Oq (Vfa fo65_3 2) (Oq (VldF sh3 2) (Oq Vadd ?_)))))))
 refine letv (bd_at b 3 n.Func n.Block (n.Stmt + 1)) fun rv13 hg14 => ?_
 have hc15 := fn25 bP b ba0 bk0 ba1 bk1 ba2 bk2 bm3 3 n.Func n.Block ((n.Stmt + 1)) pre pre pre pre (by assumption) rv13 hg14
 refine Oc [4, 4, 5, 5, 5] ca25 hc15 ?_
 rintro - ⟨he16, he17⟩
 unfold i64ok at he16
 refine Oq Va (KS ?_)
 refine Oq (Vfa fo44_0 5) (Oq (VldF sh3 5) (KS ?_))
 refine Oq Veql (Oq Va (KS ?_))
 refine Kc ?_ ?_
 ·intro h18
  have g19 := eq_of_beq h18
  refine KS ?_
  refine Kc ?_ ?_
  ·intro h20
   have g21 := eq_of_beq h20
   refine KS ?_
   refine Oq (Vfa fo44_3 5) (Oq (VldF sh36 5) (Oq (Vlen sl36) (Oq Vm (KS ?_))))
   refine Kl (γ := Nat × List GNode × List (List Int) × List (List Int) × (List (GNode × Int)) × Int × Option Addr × Nat × Option Addr × Nat × Option Addr × Nat) (fun (r22, b0_23, b1_24, b2_25, b3_26, v41_27, a28, k29, a30, k31, a32, k33) => ⟨[(0, bP), (5, p9), (6, p10), (8, vi ((mget b.number n).getD 0)), (39, vl sa3 sk3 s.Targets), (40, vi (s.Targets.length : Int)), (41, vi v41_27)], [D a32 k33 b2_25, D a30 k31 b1_24, S a28 k29 b0_23, Cl bP [vl a28 k29 b0_23, vl a30 k31 b1_24, vl a32 k33 b2_25, bm3], Mp ev_GNode vi ok_GNode bm3 b3_26, pv p10 [vi n.Kind, vi n.Func, vi n.Block, vi n.Stmt], pv p9 [vl pa0 pk0 p.Funcs], S pa0 pk0 p.Funcs, S sa3 sk3 s.Targets], bd_stmt_L0 p n s ((mget b.number n).getD 0) r22 b0_23 b1_24 b2_25 b3_26 v41_27 = bd_stmt_L0 p n s ((mget b.number n).getD 0) (((s.Targets.length : Int) - 0).toNat) b.g.Nodes b.g.Succ b.g.Pred b.number 0 ∧ r22 = ((s.Targets.length : Int) - v41_27).toNat ∧ (0 : Int) ≤ v41_27 ∧ v41_27 ≤ (s.Targets.length : Int) ∧ (-9223372036854775808 ≤ v41_27 ∧ v41_27 ≤ 9223372036854775807) ∧ BOk (Gbuilder.mk (GGraph.mk b0_23 b1_24 b2_25) b3_26) ∧ b1_24.length = b.g.Succ.length, r22⟩) (((s.Targets.length : Int) - 0).toNat, b.g.Nodes, b.g.Succ, b.g.Pred, b.number, 0, ba0, bk0, ba1, bk1, ba2, bk2) [2, 1, 6, 0, 0, 2, 3, 5, 7] ⟨rfl, rfl, aM1, aM1, aM1, hb, rfl⟩ ?_
   rintro ⟨r22, b0_23, b1_24, b2_25, b3_26, v41_27, a28, k29, a30, k31, a32, k33⟩ ⟨hM34, hr35, hi36, hi37, hk38, hv39, hv40⟩
   refine JJ_nx fun _ _ hL hA => ?_; dsimp only at hL hA; subst hL hA
   refine FbD 24 0 fun _ => ?_
   refine FbD 24 1 fun _ => ?_
   refine Fb 32 2 fun _ => Fb 40 7 fun _ => Fb 16 8 fun _ => ?_
   refine FoS 8 fun ho46 => ?_
   refine KS ?_
   refine Oq Vlss (KS ?_)
   refine Kc ?_ ?_
   ·intro h47
    have g48 := dt h47
    obtain ⟨r49, rfl⟩ := scc (n := r22) aM1
    refine KS ?_
    refine Oq (Vi sl36 8) ?_
    have hb50 := okS (i := v41_27.toNat) ho46 rng
    refine Oq (VldS sh9 8) (Oq Va (KS ?_))
    refine Oq Vm (Oq Vm (Oq Vm (Oq (VldA sh25 6) (Oq (Vfa fo65_1 5) (Oq (VldF sh3 5) (Oq Vm ?_))))))
    refine letv (bd_first (Gbuilder.mk (GGraph.mk b0_23 b1_24 b2_25) b3_26) p n.Func (s.Targets.getD v41_27.toNat default)) fun rv51 hg52 => ?_
    have hc53 := fn46 bP (Gbuilder.mk (GGraph.mk b0_23 b1_24 b2_25) b3_26) a28 k29 a30 k31 a32 k33 bm3 p pa0 pk0 n.Func ((s.Targets.getD v41_27.toNat default)) pre pre (by assumption) pre rv51 hg52
    refine Oc [3, 2, 1, 0, 1, 3] ca46 hc53 ?_
    rintro - ⟨he54, he55⟩
    unfold i64ok at he54
    have he55 : (0 ≤ rv51 ∧ rv51 < (b1_24.length : Int)) := he55
    refine letv (bd_edge (Gbuilder.mk (GGraph.mk b0_23 b1_24 b2_25) b3_26) ((mget b.number n).getD 0) rv51) fun rv59 hg60 => ?_
    have hc61 := fn24 bP (Gbuilder.mk (GGraph.mk b0_23 b1_24 b2_25) b3_26) a28 k29 a30 k31 a32 k33 bm3 (((mget b.number n).getD 0)) rv51 pre pre (by assumption) pre rv59 hg60
    refine Oc [0, 3, 0, 0, 0] ca24 hc61 ?_
    rintro ⟨c56, c57, c58⟩ ⟨he62, he63⟩
    have he63 : (rv59.g.Succ.length = b1_24.length) := he63
    refine Jo 1 ?_; rintro a64 k65 rfl
    refine Fb 32 1 fun _ => ?_
    refine Jo 2 ?_; rintro a67 k68 rfl
    refine FbD 24 2 fun _ => ?_
    refine Jo 3 ?_; rintro a70 k71 rfl
    refine FbD 24 3 fun _ => ?_
    refine KS ?_
    refine Oq Vadd (Oq Vm (KS ?_))
    exact Kg (r49, rv59.g.Nodes, rv59.g.Succ, rv59.g.Pred, rv59.number, (v41_27 + 1), a64, k65, a67, k68, a70, k71) [3, 2, 1, 0, 1, 2, 3, 4, 5] ⟨(q3 hM34 (by simp only [bd_stmt_L0, h47, hg52, hg60, cs4])), aM1, aM1, aM1, aM1, (by assumption), (by first | omega | (dsimp only at *; omega))⟩
   intro h47
   have g73 := df h47
   obtain rfl : r22 = 0 := by omega
   refine Ke ?_
   have hR74 := q2 hM34 (b0_23, b1_24, b2_25, b3_26) (by simp only [bd_stmt_L0, h47, cs4])
   refine KS ?_
   have hq := q4 hrr (Gbuilder.mk (GGraph.mk b0_23 b1_24 b2_25) b3_26) (by simp only [bd_stmt, h18, h20, h47, hg14, hR74, cs4]); subst hq
   exact Kz (vl a28 k29 b0_23, vl a30 k31 b1_24, vl a32 k33 b2_25) rfl .nil [3, 2, 1, 0, 1] ⟨(by assumption), (by first | omega | (dsimp only; omega))⟩
  intro h20
  exact absurd h20 (by first | (simp [h18]; done) | (simp only [bne, h18]; decide) | (simp only [bne, h18, Bool.not_true, Bool.not_false]; decide) | (exfalso; omega) | (intro hq; simp only [bne, hq, Bool.not_false, Bool.not_true, reduceCtorEq] at h18))
 intro h18
 have g75 := ne_of_beq_false h18
 refine KS ?_
 refine Oq Veql (Oq Va (KS ?_))
 refine Kc ?_ ?_
 ·intro h76
  have g77 := eq_of_beq h76
  refine KS ?_
  refine Oq (Vfa fo44_3 5) (Oq (VldF sh36 5) (Oq (Vlen sl36) (Oq Vm (KS ?_))))
  refine Kl (γ := Nat × List GNode × List (List Int) × List (List Int) × (List (GNode × Int)) × Int × Option Addr × Nat × Option Addr × Nat × Option Addr × Nat) (fun (r78, b0_79, b1_80, b2_81, b3_82, v41_83, a84, k85, a86, k87, a88, k89) => ⟨[(0, bP), (5, p9), (6, p10), (8, vi ((mget b.number n).getD 0)), (39, vl sa3 sk3 s.Targets), (40, vi (s.Targets.length : Int)), (41, vi v41_83)], [D a88 k89 b2_81, D a86 k87 b1_80, S a84 k85 b0_79, Cl bP [vl a84 k85 b0_79, vl a86 k87 b1_80, vl a88 k89 b2_81, bm3], Mp ev_GNode vi ok_GNode bm3 b3_82, pv p10 [vi n.Kind, vi n.Func, vi n.Block, vi n.Stmt], pv p9 [vl pa0 pk0 p.Funcs], S pa0 pk0 p.Funcs, S sa3 sk3 s.Targets], bd_stmt_L0 p n s ((mget b.number n).getD 0) r78 b0_79 b1_80 b2_81 b3_82 v41_83 = bd_stmt_L0 p n s ((mget b.number n).getD 0) (((s.Targets.length : Int) - 0).toNat) b.g.Nodes b.g.Succ b.g.Pred b.number 0 ∧ r78 = ((s.Targets.length : Int) - v41_83).toNat ∧ (0 : Int) ≤ v41_83 ∧ v41_83 ≤ (s.Targets.length : Int) ∧ (-9223372036854775808 ≤ v41_83 ∧ v41_83 ≤ 9223372036854775807) ∧ BOk (Gbuilder.mk (GGraph.mk b0_79 b1_80 b2_81) b3_82) ∧ b1_80.length = b.g.Succ.length, r78⟩) (((s.Targets.length : Int) - 0).toNat, b.g.Nodes, b.g.Succ, b.g.Pred, b.number, 0, ba0, bk0, ba1, bk1, ba2, bk2) [2, 1, 6, 0, 0, 2, 3, 5, 7] ⟨rfl, rfl, aM1, aM1, aM1, hb, rfl⟩ ?_
  rintro ⟨r78, b0_79, b1_80, b2_81, b3_82, v41_83, a84, k85, a86, k87, a88, k89⟩ ⟨hM90, hr91, hi92, hi93, hk94, hv95, hv96⟩
  refine JJ_nx fun _ _ hL hA => ?_; dsimp only at hL hA; subst hL hA
  refine FbD 24 0 fun _ => ?_
  refine FbD 24 1 fun _ => ?_
  refine Fb 32 2 fun _ => Fb 40 7 fun _ => Fb 16 8 fun _ => ?_
  refine FoS 8 fun ho102 => ?_
  refine KS ?_
  refine Oq Vlss (KS ?_)
  refine Kc ?_ ?_
  ·intro h103
   have g104 := dt h103
   obtain ⟨r105, rfl⟩ := scc (n := r78) aM1
   refine KS ?_
   refine Oq (Vi sl36 8) ?_
   have hb106 := okS (i := v41_83.toNat) ho102 rng
   refine Oq (VldS sh9 8) (Oq Va (KS ?_))
   refine Oq Vm (Oq Vm (Oq Vm (Oq (VldA sh25 6) (Oq (Vfa fo65_1 5) (Oq (VldF sh3 5) (Oq Vm ?_))))))
   refine letv (bd_first (Gbuilder.mk (GGraph.mk b0_79 b1_80 b2_81) b3_82) p n.Func (s.Targets.getD v41_83.toNat default)) fun rv107 hg108 => ?_
   have hc109 := fn46 bP (Gbuilder.mk (GGraph.mk b0_79 b1_80 b2_81) b3_82) a84 k85 a86 k87 a88 k89 bm3 p pa0 pk0 n.Func ((s.Targets.getD v41_83.toNat default)) pre pre (by assumption) pre rv107 hg108
   refine Oc [3, 2, 1, 0, 1, 3] ca46 hc109 ?_
   rintro - ⟨he110, he111⟩
   unfold i64ok at he110
   have he111 : (0 ≤ rv107 ∧ rv107 < (b1_80.length : Int)) := he111
   refine letv (bd_edge (Gbuilder.mk (GGraph.mk b0_79 b1_80 b2_81) b3_82) ((mget b.number n).getD 0) rv107) fun rv115 hg116 => ?_
   have hc117 := fn24 bP (Gbuilder.mk (GGraph.mk b0_79 b1_80 b2_81) b3_82) a84 k85 a86 k87 a88 k89 bm3 (((mget b.number n).getD 0)) rv107 pre pre (by assumption) pre rv115 hg116
   refine Oc [0, 3, 0, 0, 0] ca24 hc117 ?_
   rintro ⟨c112, c113, c114⟩ ⟨he118, he119⟩
   have he119 : (rv115.g.Succ.length = b1_80.length) := he119
   refine Jo 1 ?_; rintro a120 k121 rfl
   refine Fb 32 1 fun _ => ?_
   refine Jo 2 ?_; rintro a123 k124 rfl
   refine FbD 24 2 fun _ => ?_
   refine Jo 3 ?_; rintro a126 k127 rfl
   refine FbD 24 3 fun _ => ?_
   refine KS ?_
   refine Oq Vadd (Oq Vm (KS ?_))
   exact Kg (r105, rv115.g.Nodes, rv115.g.Succ, rv115.g.Pred, rv115.number, (v41_83 + 1), a120, k121, a123, k124, a126, k127) [3, 2, 1, 0, 1, 2, 3, 4, 5] ⟨(q3 hM90 (by simp only [bd_stmt_L0, h103, hg108, hg116, cs4])), aM1, aM1, aM1, aM1, (by assumption), (by first | omega | (dsimp only at *; omega))⟩
  intro h103
  have g129 := df h103
  obtain rfl : r78 = 0 := by omega
  refine Ke ?_
  have hR130 := q2 hM90 (b0_79, b1_80, b2_81, b3_82) (by simp only [bd_stmt_L0, h103, cs4])
  refine KS ?_
  have hq := q4 hrr (Gbuilder.mk (GGraph.mk b0_79 b1_80 b2_81) b3_82) (by simp only [bd_stmt, h18, h76, h103, hg14, hR130, cs4]); subst hq
  exact Kz (vl a84 k85 b0_79, vl a86 k87 b1_80, vl a88 k89 b2_81) rfl .nil [3, 2, 1, 0, 1] ⟨(by assumption), (by first | omega | (dsimp only; omega))⟩
 intro h76
 have g131 := ne_of_beq_false h76
 refine KS ?_
 refine Oq Veql (Oq Va (KS ?_))
 refine Kc ?_ ?_
 ·intro h132
  have g133 := eq_of_beq h132
  refine KS ?_
  refine Oq Vm (Oq Vm (Oq Vm (Oq (Vfa fo65_1 6) (Oq (VldF sh3 6) ?_))))
  refine letv (bd_at b 2 n.Func (-1) (-1)) fun rv134 hg135 => ?_
  have hc136 := fn25 bP b ba0 bk0 ba1 bk1 ba2 bk2 bm3 2 n.Func (-1) (-1) pre pre pre pre (by assumption) rv134 hg135
  refine Oc [0, 7, 0, 0, 0] ca25 hc136 ?_
  rintro - ⟨he137, he138⟩
  unfold i64ok at he137
  refine letv (bd_edge b ((mget b.number n).getD 0) rv134) fun rv142 hg143 => ?_
  have hc144 := fn24 bP b ba0 bk0 ba1 bk1 ba2 bk2 bm3 (((mget b.number n).getD 0)) rv134 pre pre (by assumption) pre rv142 hg143
  refine Oc [0, 7, 0, 0, 0] ca24 hc144 ?_
  rintro ⟨c139, c140, c141⟩ ⟨he145, he146⟩
  refine Jo 1 ?_; rintro a147 k148 rfl
  refine Fb 32 1 fun _ => ?_
  refine Jo 2 ?_; rintro a150 k151 rfl
  refine FbD 24 2 fun _ => ?_
  refine Jo 3 ?_; rintro a153 k154 rfl
  refine FbD 24 3 fun _ => ?_
  refine KS ?_
  have hq := q4 hrr rv142 (by simp only [bd_stmt, h18, h76, h132, hg14, hg135, hg143, cs4]); subst hq
  exact Kz (vl a147 k148 rv142.g.Nodes, vl a150 k151 rv142.g.Succ, vl a153 k154 rv142.g.Pred) rfl .nil [0, 0, 1, 1, 1] ⟨(by assumption), (by first | omega | (dsimp only; omega))⟩
 intro h132
 have g156 := ne_of_beq_false h132
 refine KS ?_
 refine Oq Veql (Oq Va (KS ?_))
 refine Kc ?_ ?_
 ·intro h157
  have g158 := eq_of_beq h157
  have ht1 := ht0 (by simpa using h157)
  refine KS ?_
  refine Oq (Vfa fo25_0 7) (Oq (VldF sh23 7) (Oq (Vf [p11]) ?_))
  refine JJ_ent (Ent.pall [5, 10, 11] rfl rfl) ?_
  refine letv (sc_IndexFunc_Func p.Funcs (fun x => bd_stmt_1 x s)) fun rv159 hg160 => ?_
  have hc161 := fn47 p.Funcs pa0 pk0 48 [p11] (fun x => bd_stmt_1 x s) [pv p11 [vi s.Op, .string (bs s.Def), vl sa2 sk2 s.Uses, vl sa3 sk3 s.Targets], S sa2 sk2 s.Uses, S sa3 sk3 s.Targets] ca48 (fun x hx a1 k1 hq0 => FT_pall (A1 := _) (fn48 x a1 k1 p11 s sa2 sk2 sa3 sk3 hq0 pre pre _ rfl)) rv159 hg160
  refine Oc [10, 0] ca47 hc161 ?_
  rintro - he162
  unfold i64ok at he162
  refine Oq Va (KS ?_)
  refine Oq Vm (Oq (Vfa fo65_1 7) (Oq (VldF sh3 7) (Oq (Vfa fo65_2 7) (Oq (VldF sh3 7) (Oq (Vfa fo65_3 7) (Oq (VldF sh3 7) ?_))))))
  refine letv (bd_at b 4 n.Func n.Block n.Stmt) fun rv163 hg164 => ?_
  have hc165 := fn25 bP b ba0 bk0 ba1 bk1 ba2 bk2 bm3 4 n.Func n.Block n.Stmt pre pre pre pre (by assumption) rv163 hg164
  refine Oc [1, 8, 1, 1, 1] ca25 hc165 ?_
  rintro - ⟨he166, he167⟩
  unfold i64ok at he166
  refine Oq Va (KS ?_)
  refine Oq Vm (Oq Vm (Oq Vm (Oq Vm ?_)))
  refine letv (bd_at b 1 rv159 (-1) (-1)) fun rv168 hg169 => ?_
  have hc170 := fn25 bP b ba0 bk0 ba1 bk1 ba2 bk2 bm3 1 rv159 (-1) (-1) pre pre pre pre (by assumption) rv168 hg169
  refine Oc [0, 8, 0, 0, 0] ca25 hc170 ?_
  rintro - ⟨he171, he172⟩
  unfold i64ok at he171
  refine letv (bd_edge b ((mget b.number n).getD 0) rv168) fun rv176 hg177 => ?_
  have hc178 := fn24 bP b ba0 bk0 ba1 bk1 ba2 bk2 bm3 (((mget b.number n).getD 0)) rv168 pre pre (by assumption) pre rv176 hg177
  refine Oc [0, 8, 0, 0, 0] ca24 hc178 ?_
  rintro ⟨c173, c174, c175⟩ ⟨he179, he180⟩
  refine Jo 1 ?_; rintro a181 k182 rfl
  refine Fb 32 1 fun _ => ?_
  refine Jo 2 ?_; rintro a184 k185 rfl
  refine FbD 24 2 fun _ => ?_
  refine Jo 3 ?_; rintro a187 k188 rfl
  refine FbD 24 3 fun _ => ?_
  refine KS ?_
  refine Oq Vm (Oq Vm (Oq Vm ?_))
  refine letv (bd_at rv176 2 rv159 (-1) (-1)) fun rv190 hg191 => ?_
  have hc192 := fn25 bP rv176 a181 k182 a184 k185 a187 k188 bm3 2 rv159 (-1) (-1) pre pre pre pre (by assumption) rv190 hg191
  refine Oc [0, 0, 1, 1, 1] ca25 hc192 ?_
  rintro - ⟨he193, he194⟩
  unfold i64ok at he193
  refine Oq Vm ?_
  refine letv (bd_edge rv176 rv190 rv163) fun rv198 hg199 => ?_
  have hc200 := fn24 bP rv176 a181 k182 a184 k185 a187 k188 bm3 rv190 rv163 pre pre (by assumption) pre rv198 hg199
  refine Oc [0, 3, 0, 0, 0] ca24 hc200 ?_
  rintro ⟨c195, c196, c197⟩ ⟨he201, he202⟩
  refine Jo 1 ?_; rintro a203 k204 rfl
  refine Fb 32 1 fun _ => ?_
  refine Jo 2 ?_; rintro a206 k207 rfl
  refine FbD 24 2 fun _ => ?_
  refine Jo 3 ?_; rintro a209 k210 rfl
  refine FbD 24 3 fun _ => ?_
  refine KS ?_
  refine Oq Vm (Oq Vm (Oq Vm ?_))
  refine letv (bd_edge rv198 rv163 rv13) fun rv215 hg216 => ?_
  have hc217 := fn24 bP rv198 a203 k204 a206 k207 a209 k210 bm3 rv163 rv13 pre pre (by assumption) pre rv215 hg216
  refine Oc [0, 0, 1, 1, 1] ca24 hc217 ?_
  rintro ⟨c212, c213, c214⟩ ⟨he218, he219⟩
  refine Jo 1 ?_; rintro a220 k221 rfl
  refine Fb 32 1 fun _ => ?_
  refine Jo 2 ?_; rintro a223 k224 rfl
  refine FbD 24 2 fun _ => ?_
  refine Jo 3 ?_; rintro a226 k227 rfl
  refine FbD 24 3 fun _ => ?_
  refine KS ?_
  have hq := q4 hrr rv215 (by simp only [bd_stmt, h18, h76, h132, h157, hg14, hg160, hg164, hg169, hg177, hg191, hg199, hg216, cs4]); subst hq
  exact Kz (vl a220 k221 rv215.g.Nodes, vl a223 k224 rv215.g.Succ, vl a226 k227 rv215.g.Pred) rfl .nil [0, 0, 1, 1, 1] ⟨(by assumption), (by first | omega | (dsimp only; omega))⟩
 intro h157
 have g229 := ne_of_beq_false h157
 refine KS ?_
 refine Oq Vm (Oq Vm (Oq Vm ?_))
 refine letv (bd_edge b ((mget b.number n).getD 0) rv13) fun rv233 hg234 => ?_
 have hc235 := fn24 bP b ba0 bk0 ba1 bk1 ba2 bk2 bm3 (((mget b.number n).getD 0)) rv13 pre pre (by assumption) pre rv233 hg234
 refine Oc [0, 7, 0, 0, 0] ca24 hc235 ?_
 rintro ⟨c230, c231, c232⟩ ⟨he236, he237⟩
 refine Jo 1 ?_; rintro a238 k239 rfl
 refine Fb 32 1 fun _ => ?_
 refine Jo 2 ?_; rintro a241 k242 rfl
 refine FbD 24 2 fun _ => ?_
 refine Jo 3 ?_; rintro a244 k245 rfl
 refine FbD 24 3 fun _ => ?_
 refine KS ?_
 have hq := q4 hrr rv233 (by simp only [bd_stmt, h18, h76, h132, h157, hg14, hg234, cs4]); subst hq
 exact Kz (vl a238 k239 rv233.g.Nodes, vl a241 k242 rv233.g.Succ, vl a244 k245 rv233.g.Pred) rfl .nil [0, 0, 1, 1, 1] ⟨(by assumption), (by first | omega | (dsimp only; omega))⟩
theorem fn83 (data : List Int) (dataa0 : Option Addr) (datak0 : Nat) (a : Int) (b : Int) (ha_0 : i64ok a) (hb_0 : i64ok b) (rr : List Int) (hrr : sc_insertionSortOrdered_int data a b = .ret rr) : FT Tryz.prog 83 #[vl dataa0 datak0 data, vi a, vi b] [O dataa0 datak0 data] (fun g : Unit => True) (fun g => .tuple #[]) (fun g => [os (vl dataa0 datak0 data) rr]) := by
 refine FTi Tryz.func83 fun w0 M0 F0 => ?_
 unfold i64ok at ha_0 hb_0
 refine Fb 8 0 fun _ => Fo 0 fun ho2 => ?_
 have hx0 := lrn rr; have H := hrr; unfold sc_insertionSortOrdered_int at H
 refine KS ?_
 refine Oq Vm ?_
 refine pC H hx0 fun hc3 H => ?_
 refine Oq Vadd (Oq Va (KS ?_))
 refine llH H hx0 fun X6 hX7 hx8 HL9 => ?_
 refine Kl (γ := Nat) (fun r4 => ⟨[(0, vl dataa0 datak0 data), (1, vi a), (2, vi b), (6, vi (a + 1))], [O dataa0 datak0 data], sc_insertionSortOrdered_int_L0 a b r4 = X6, r4⟩) 1 [0] hX7 ?_
 rintro r4 hM5
 refine JJ_nx fun _ _ hL hA => ?_; dsimp only at hL hA; subst hL hA
 refine Fb 8 0 fun _ => Fo 0 fun ho11 => ?_
 rcases r4 with _ | r4
 ·exact absurd (hM5.symm.trans rfl) hx8
 have H := hM5; rw [sc_insertionSortOrdered_int_L0] at H
 refine KS ?_
 refine Oq Vm (Oq Vm (Oq Vlss (KS ?_)))
 refine pF H hx8 fun h12 H => ?_
 refine KcF h12 ?_
 have g13 := df h12
 refine Ke ?_
 have H := llB H HL9
 have hq := rI H; subst hq
 exact Kz () rfl .nil [0] trivial
theorem fn49 (data : List Int) (dataa0 : Option Addr) (datak0 : Nat) (a : Int) (b : Int) (limit : Int) (ha_0 : i64ok a) (hb_0 : i64ok b) (hlimit_0 : i64ok limit) (rr : List Int) (hrr : sc_pdqsortOrdered_int data a b limit = .ret rr) : FT Tryz.prog 49 #[vl dataa0 datak0 data, vi a, vi b, vi limit] [O dataa0 datak0 data] (fun g : Unit => True) (fun g => .tuple #[]) (fun g => [os (vl dataa0 datak0 data) rr]) := by
 refine FTi Tryz.func49 fun w0 M0 F0 => ?_
 unfold i64ok at ha_0 hb_0 hlimit_0
 refine Fb 8 0 fun _ => Fo 0 fun ho2 => ?_
 have hx0 := lrn rr; have H := hrr; unfold sc_pdqsortOrdered_int at H
 refine KS ?_
 refine Oq Va (KS ?_)
 refine Oq Va (KS ?_)
 refine llH H hx0 fun X5 hX6 hx7 HL8 => ?_
 refine Kl (γ := Nat) (fun r3 => ⟨[(0, vl dataa0 datak0 data), (1, vi a), (2, vi b), (3, vi limit), (8, vb true), (9, vb true)], [O dataa0 datak0 data], sc_pdqsortOrdered_int_L0 data a b r3 = X5, r3⟩) 1 [0] hX6 ?_
 rintro r3 hM4
 refine JJ_nx fun _ _ hL hA => ?_; dsimp only at hL hA; subst hL hA
 refine Fb 8 0 fun _ => Fo 0 fun ho10 => ?_
 rcases r3 with _ | r3
 ·exact absurd (hM4.symm.trans rfl) hx7
 have H := hM4; rw [sc_pdqsortOrdered_int_L0] at H
 refine KS ?_
 refine Oq Vm (Oq Vm ?_)
 refine pC H hx7 fun hc11 H => ?_
 refine Oq Vsub (Oq Va (KS ?_))
 refine Oq Vm (Oq Vleq (KS ?_))
 refine pT H hx7 fun h12 H => ?_
 refine KcT h12 ?_
 have g13 := dt h12
 refine KS ?_
 refine Oq Vm (Oq Vm (Oq Vm ?_))
 refine lbH H hx7 fun rv14 hg15 H => ?_
 have hc16 := fn83 data dataa0 datak0 a b pre pre rv14 hg15
 refine Oc [0] ca83 hc16 ?_
 rintro - -
 refine Fb 8 0 fun _ => Fo 0 fun ho18 => KS ?_
 refine Fl 0 fun hn19 => ?_
 have H := llR H HL8
 have hq := rI H; subst hq
 exact Kr () rfl .nil [0] trivial
theorem fn93 (x : BitVec 64) (rr : Int) (hrr : bits_Len64 x = .ret rr) : FT Tryz.prog 93 #[u64 x] [] (fun g : Unit => i64ok rr) (fun g => vi rr) (fun g => []) := by
 refine FTi Tryz.func93 fun w0 M0 F0 => ?_
 have hx0 := lrn rr; have H := hrr; unfold bits_Len64 at H
 refine KS ?_
 refine Oq Va (KS ?_)
 refine Oq Vm (Oq (Vgeq (a := (x.toNat : Int)) (b := 4294967296)) (KS ?_))
 refine pF H hx0 fun h1 H => ?_
 refine KcF h1 ?_
 have g2 := df h1
 refine KS ?_
 refine Oq Vm (Oq (Vgeq (a := (x.toNat : Int)) (b := 65536)) (KS ?_))
 refine pF H hx0 fun h3 H => ?_
 refine KcF h3 ?_
 have g4 := df h3
 refine KS ?_
 refine Oq Vm (Oq (Vgeq (a := (x.toNat : Int)) (b := 256)) (KS ?_))
 refine pF H hx0 fun h5 H => ?_
 refine KcF h5 ?_
 have g6 := df h5
 refine KS ?_
 refine Oq Vm (Oq Vm (Oq (VcU8 un140 un5) ?_))
 refine pC H hx0 fun hc7 H => ?_
 refine Oq (Vix un9 (l := tab0)) ?_
 have hb8 := u8b (tab0.b.getD ((x.toNat : Int) : Int).toNat 0)
 refine Oq (VcK un5 un3) ?_
 refine pC H hx0 fun hc9 H => ?_
 refine Oq Vadd (Oq Va (KS ?_))
 have hq := rI H; subst hq
 exact Kr () rfl (.tmp rfl .nil) [] en
theorem fn50 (x : BitVec 64) (rr : Int) (hrr : bits_Len x = .ret rr) : FT Tryz.prog 50 #[u64 x] [] (fun g : Unit => i64ok rr) (fun g => vi rr) (fun g => []) := by
 refine FTi Tryz.func50 fun w0 M0 F0 => ?_
 have hx0 := lrn rr; have H := hrr; unfold bits_Len at H
 refine KS ?_
 refine Oq Va (KS ?_)
 refine Kf (KS ?_)
 refine Oq Vm ?_
 refine lbH H hx0 fun rv1 hg2 H => ?_
 have hc3 := fn93 x rv1 hg2
 refine Oc [] ca93 hc3 ?_
 rintro - he4
 unfold i64ok at he4
 refine Oq Va (KS ?_)
 have hq := rI H; subst hq
 exact Kr () rfl (.tmp rfl .nil) [] en
theorem fn27O (x : List Int) (xa0 : Option Addr) (xk0 : Nat) (rr : List Int) (hrr : sc_Sort_intO x = .ret rr) : FT Tryz.prog 27 #[vl xa0 xk0 x] [O xa0 xk0 x] (fun g : Unit => True) (fun g => .tuple #[]) (fun g => [os (vl xa0 xk0 x) rr]) := by
 refine FTi Tryz.func27 fun w0 M0 F0 => Fb 8 0 fun _ => Fo 0 fun ho2 => ?_
 have hx0 := lrn rr; have H := hrr; unfold sc_Sort_intO at H
 refine KS ?_
 refine Oq Vm (Oq (Vlen sl22) (Oq Va (KS ?_)))
 refine Oq Vm (Oq Vm (Oq Vm (Oq (VcU un3 un93) ?_)))
 refine lbH H hx0 fun rv3 hg4 H => ?_
 have hc5 := fn50 ((BitVec.ofInt 64 (x.length : Int))) rv3 hg4
 refine Oc [] ca50 hc5 ?_
 rintro - he6
 unfold i64ok at he6
 refine lbH H hx0 fun rv7 hg8 H => ?_
 have hc9 := fn49 x xa0 xk0 0 ((x.length : Int)) rv3 pre pre pre rv7 hg8
 refine Oc [0] ca49 hc9 ?_
 rintro - -
 refine Fb 8 0 fun _ => Fo 0 fun ho11 => KS ?_
 refine Fl 0 fun hn12 => ?_
 have hq := rI H; subst hq
 exact Kz () rfl .nil [0] trivial
def lay189_ren : Go.Shelf.Ren := ⟨(fun n => match n with | 125 => 50 | 128 => 92 | 129 => 93 | 189 => 27 | 215 => 115 | 216 => 89 | 257 => 49 | 294 => 83 | 295 => 84 | 296 => 85 | 297 => 86 | 298 => 87 | 299 => 88 | 300 => 90 | 301 => 91 | 328 => 110 | 329 => 111 | 330 => 112 | 331 => 113 | 332 => 114 | 343 => 123 | _ => 0), (fun n => match n with | 0 => 0 | 3 => 3 | 4 => 4 | 5 => 5 | 9 => 9 | 28 => 22 | 46 => 93 | 51 => 138 | 53 => 140 | 131 => 135 | 182 => 129 | 183 => 130 | 218 => 149 | 222 => 153 | 228 => 159 | 229 => 99 | _ => 0), (fun _ => 0)⟩
theorem lay189 : Go.Proofs.Lays.n189 Tryz.prog lay189_ren where
 mixed := by kernel_rfl
 f125 := by kernel_rfl
 f128 := by kernel_rfl
 f129 := by kernel_rfl
 f189 := by kernel_rfl
 f215 := by kernel_rfl
 f216 := by kernel_rfl
 f257 := by kernel_rfl
 f294 := by kernel_rfl
 f295 := by kernel_rfl
 f296 := by kernel_rfl
 f297 := by kernel_rfl
 f298 := by kernel_rfl
 f299 := by kernel_rfl
 f300 := by kernel_rfl
 f301 := by kernel_rfl
 f328 := by kernel_rfl
 f329 := by kernel_rfl
 f330 := by kernel_rfl
 f331 := by kernel_rfl
 f332 := by kernel_rfl
 f343 := by kernel_rfl
 t0 := by kernel_rfl
 a0 := fun w => rfl
 z0 := fun w => rfl
 v0 := fun w => rfl
 t3 := by kernel_rfl
 a3 := fun w => rfl
 z3 := fun w => rfl
 v3 := fun w => rfl
 t4 := by kernel_rfl
 a4 := fun w => rfl
 z4 := fun w => rfl
 v4 := fun w => rfl
 t5 := by kernel_rfl
 a5 := fun w => rfl
 z5 := fun w => rfl
 v5 := fun w => rfl
 t9 := by kernel_rfl
 a9 := fun w => rfl
 z9 := fun w => rfl
 v9 := fun w => rfl
 t28 := by kernel_rfl
 a28 := fun w => rfl
 z28 := fun w => rfl
 v28 := fun w => rfl
 t46 := by kernel_rfl
 a46 := fun w => rfl
 z46 := fun w => rfl
 v46 := fun w => rfl
 t51 := by kernel_rfl
 a51 := fun w => rfl
 z51 := fun w => rfl
 v51 := fun w => rfl
 t53 := by kernel_rfl
 a53 := fun w => rfl
 z53 := fun w => rfl
 v53 := fun w => rfl
 t131 := by kernel_rfl
 a131 := fun w => rfl
 z131 := fun w => rfl
 v131 := fun w => rfl
 t182 := by kernel_rfl
 a182 := fun w => rfl
 z182 := fun w => rfl
 v182 := fun w => rfl
 t183 := by kernel_rfl
 a183 := fun w => rfl
 z183 := fun w => rfl
 v183 := fun w => rfl
 t218 := by kernel_rfl
 a218 := fun w => rfl
 z218 := fun w => rfl
 v218 := fun w => rfl
 t222 := by kernel_rfl
 a222 := fun w => rfl
 z222 := fun w => rfl
 v222 := fun w => rfl
 t228 := by kernel_rfl
 a228 := fun w => rfl
 z228 := fun w => rfl
 v228 := fun w => rfl
 t229 := by kernel_rfl
 a229 := fun w => rfl
 z229 := fun w => rfl
 v229 := fun w => rfl
theorem fn27N : FT Tryz.prog 27 #[.slice none 0 0] [] (fun _ : Unit => True) (fun _ => .tuple #[]) (fun _ => []) := FT_nil (fn27O [] none 0 [] (by kernel_rfl))
theorem fn27 (x : List Int) (xa0 : Option Addr) (xk0 : Nat) (ha0 : x.length ≤ 65535) (rr : List Int) (hrr : sc_Sort_int x = rr) : FT Tryz.prog 27 #[vl xa0 xk0 x] [O xa0 xk0 x] (fun g : Unit => (rr.length = x.length)) (fun g => .tuple #[]) (fun g => [os (vl xa0 xk0 x) rr]) := by
 subst hrr
 exact FT_sort (fun blk off cap zs w h1 h2 h3 => Go.Proofs.Any.slices_Sort_int lay189 blk off cap zs w h1 h2 h3) fn27N xa0 xk0 x
theorem fn14 (p : GProgram) (pa0 : Option Addr) (pk0 : Nat) (kwLA : Option Addr) (kwLK : Nat) (hps : PSm p = true) (rr : GGraph × Int) (hrr : gh_Build p = rr) : FT Tryz.prog 14 #[.agg #[vl pa0 pk0 p.Funcs]] [S pa0 pk0 p.Funcs, pv (gp 0) [vl kwLA kwLK kwL], S kwLA kwLK kwL] (fun g : Value × Value × Value => i64ok rr.2 ∧ (rr.1.Pred.length = rr.1.Succ.length)) (fun g => .tuple #[.agg #[g.1, g.2.1, g.2.2], vi rr.2]) (fun g => [sl g.1 rr.1.Nodes, sl g.2.1 rr.1.Succ, sl g.2.2 rr.1.Pred]) := by
 refine FTi Tryz.func14 fun w0 M0 F0 => Fb 40 0 fun _ => Fb 16 2 fun _ => ?_
 refine FoS 2 fun ho3 => ?_
 refine KS ?_
 refine Oa (Ab [vl pa0 pk0 p.Funcs]) fun p4 => Oa (Al ze51 [.slice none 0 0, .slice none 0 0, .slice none 0 0]) fun p5 => Oq Va (KS ?_)
 refine Oq (VldA sh25 1) ?_
 refine letv (vd_Check p) fun rv6 hg7 => ?_
 have hc8 := fn22 p pa0 pk0 kwLA kwLK pre rv6 hg7
 refine Oc [2, 3, 4] ca22 hc8 ?_
 rintro - ⟨he9, he10, he11, he12, he13⟩
 unfold i64ok at he9 he10 he11 he12 he13
 refine Oq Vm (Oq Vx (Oq Vx (Oa (Al ze65 [vi 0, vi 0, vi 0, vi 0]) fun p14 => Ost (Scl [0] sh65 [vi rv6.1.Kind, vi rv6.1.Func, vi rv6.1.Block, vi rv6.1.Stmt]) (Oq Va (KS ?_)))))
 refine Oq Vm (Oq Vneq (KS ?_))
 refine Kc ?_ ?_
 ·intro h15
  have g16 := ne_of_bne h15
  refine KS ?_
  refine Oq (Vbd st51 [.slice none 0 0, .slice none 0 0, .slice none 0 0]) (Oq Vm (Ost (Scl [1] sh51 [.slice none 0 0, .slice none 0 0, .slice none 0 0]) (Oq Va (KS ?_))))
  refine Jl [] (Ent.slNil (α := GNode)) ?_
  refine Jl [] (Ent.slNil (α := List Int)) ?_
  have hq := q4 hrr ((GGraph.mk [] [] []), rv6.2) (by simp only [gh_Build, h15, hg7, cs4]); subst hq
  exact Kr (.slice none 0 0, .slice none 0 0, .slice none 0 0) rfl (.cellN 2 rfl sh51 rfl (reads_Cl _ _) rfl (.tmp rfl .nil)) [1, 0, 0] ⟨en, (by first | rfl | (dsimp only at *; omega))⟩
 intro h15
 have g17 := eq_of_bne_false h15
 have hVp := CheckV (by assumption) h15
 refine KS ?_
 refine Oq (VldA sh25 2) ?_
 refine letv (nd_List p) fun rv19 hg20 => ?_
 have hlp := ListV_pos hg20 (by assumption) (by assumption)
 have hc21 := fn23 p pa0 pk0 kwLA kwLK pre rv19 hg20
 refine Oc [3, 4, 5] ca23 hc21 ?_
 rintro c18 he22
 refine Jo 0 ?_; rintro a23 k24 rfl
 refine Fb 32 0 fun _ => ?_
 refine Oq Va (KS ?_)
 refine JK_drawK [0, 0, 2, 6, 0, 16, 48, 127, 0, 511, 1023, 2047] fmix ?_
 refine Dv [] Vm (Dv [] Vm (Dv [] (Vlen sl48) ?_))
 have hn27 := List.length_replicate (n := (rv19.length : Int).toNat) (a := ([] : List Int))
 refine Dx [] [] [0] (fun G => (G.g 3 0)) [fun G => ds (G.g 3 0) ((List.replicate (rv19.length : Int).toNat []) : List (List Int))] (fun G => xA (AmkD (α := List Int) sl49 sz49 [] innL0)) (Dv [] Vm (Dv [] (Vlen sl48) ?_))
 have hn29 := List.length_replicate (n := (rv19.length : Int).toNat) (a := ([] : List Int))
 refine Dx [] [] [0] (fun G => (G.g 6 0)) [fun G => ds (G.g 6 0) ((List.replicate (rv19.length : Int).toNat []) : List (List Int))] (fun G => xA (AmkD (α := List Int) sl49 sz49 [] innL0)) ?_
 refine Dx [7, 8] [] [0, 0] (fun G => .agg #[vl a23 k24 rv19, (G.g 3 0), (G.g 6 0)]) [] (fun G => xV (v := .agg #[vl a23 k24 rv19, (G.g 3 0), (G.g 6 0)]) (Vo 0 rfl (isO_ds _ _) fun aq30 kq31 eq32 => (by rw [eq32]; exact Vo 1 rfl (isO_ds _ _) fun aq33 kq34 eq35 => (by rw [eq35]; exact Vbd st51 [vl a23 k24 rv19, .slice aq30 (((List.replicate (rv19.length : Int).toNat []) : List (List Int)).length) kq31, .slice aq33 (((List.replicate (rv19.length : Int).toNat []) : List (List Int)).length) kq34])))) (Dx [] [] [0] (fun G => (G.g 8 0)) [fun G => Mp ev_GNode vi ok_GNode (G.g 8 0) ([] : List (GNode × Int))] (fun G => xA (Amp (κ := GNode) (ν := Int) (ek := ev_GNode) (ev := vi) (ok := ok_GNode))) ?_)
 refine Dx [7, 8, 9] [] [0, 0, 0] (fun G => .agg #[vl a23 k24 rv19, (G.g 3 0), (G.g 6 0), (G.g 8 0)]) [] (fun G => xV (v := .agg #[vl a23 k24 rv19, (G.g 3 0), (G.g 6 0), (G.g 8 0)]) (Vo 0 rfl (isO_ds _ _) fun aq37 kq38 eq39 => (by rw [eq39]; exact Vo 1 rfl (isO_ds _ _) fun aq40 kq41 eq42 => (by rw [eq42]; exact VoM 2 rfl fun bq43 eq44 => (by rw [eq44]; exact Vbd st72 [vl a23 k24 rv19, .slice aq37 (((List.replicate (rv19.length : Int).toNat []) : List (List Int)).length) kq38, .slice aq40 (((List.replicate (rv19.length : Int).toNat []) : List (List Int)).length) kq41, (mv bq43)]))))) (Dx [] [] [0] (fun G => (G.g 10 0)) [fun G => Cl (G.g 10 0) [vl a23 k24 rv19, (G.g 3 0), (G.g 6 0), (G.g 8 0)]] (fun G => xA (AbO [vl a23 k24 rv19, (G.g 3 0), (G.g 6 0), (G.g 8 0)])) (Dg [] (fun G => (G.g 10 0)) (fun G => Va) ?_))
 refine Dn ⟨by kernel_rfl, fun G => ?_⟩
 refine Jw2 [(1, p4), (2, p5), (6, vl a23 k24 rv19), (7, (G.g 10 0))] [0, 1, 2, 3, 4, 5, 6] [ds (G.g 3 0) ((List.replicate (rv19.length : Int).toNat []) : List (List Int)), ds (G.g 6 0) ((List.replicate (rv19.length : Int).toNat []) : List (List Int)), Mp ev_GNode vi ok_GNode (G.g 8 0) ([] : List (GNode × Int)), Cl (G.g 10 0) [vl a23 k24 rv19, (G.g 3 0), (G.g 6 0), (G.g 8 0)]] ?_
 generalize G.g 3 0 = c26, G.g 6 0 = c28, G.g 8 0 = p36, G.g 10 0 = p45
 refine Jo 7 ?_; rintro a46 k47 rfl
 refine FbD 24 7 fun _ => ?_
 refine Jo 8 ?_; rintro a49 k50 rfl
 refine KS ?_
 refine Oq Vm (Oq (Vlen sl48) (Oq Vm (KS ?_)))
 refine Kl (γ := Nat × (List (GNode × Int)) × Int) (fun (r51, b3_52, v37_53) => ⟨[(1, p4), (2, p5), (6, vl a23 k24 rv19), (7, p45), (35, vl a23 k24 rv19), (36, vi (rv19.length : Int)), (37, vi v37_53)], [S a23 k24 rv19, Cl p5 [.slice none 0 0, .slice none 0 0, .slice none 0 0], pv p4 [vl pa0 pk0 p.Funcs], S pa0 pk0 p.Funcs, pv (gp 0) [vl kwLA kwLK kwL], S kwLA kwLK kwL, D a46 k47 ((List.replicate (rv19.length : Int).toNat []) : List (List Int)), D a49 k50 ((List.replicate (rv19.length : Int).toNat []) : List (List Int)), Mp ev_GNode vi ok_GNode p36 b3_52, Cl p45 [vl a23 k24 rv19, vl a46 k47 (List.replicate (rv19.length : Int).toNat []), vl a49 k50 (List.replicate (rv19.length : Int).toNat []), p36]], gh_Build_L0 rv19 r51 b3_52 v37_53 = gh_Build_L0 rv19 (((rv19.length : Int) - 0).toNat) [] 0 ∧ r51 = ((rv19.length : Int) - v37_53).toNat ∧ (0 : Int) ≤ v37_53 ∧ v37_53 ≤ (rv19.length : Int) ∧ (-9223372036854775808 ≤ v37_53 ∧ v37_53 ≤ 9223372036854775807), r51⟩) (((rv19.length : Int) - 0).toNat, [], 0) [0, 2, 2, 3, 4, 5, 6, 6, 6, 6] ⟨rfl, rfl, aM1, aM1, aM1⟩ ?_
 rintro ⟨r51, b3_52, v37_53⟩ ⟨hM54, hr55, hi56, hi57, hk58⟩
 refine JJ_nx fun _ _ hL hA => ?_; dsimp only at hL hA; subst hL hA
 refine Fb 32 0 fun _ => Fb 40 3 fun _ => Fb 16 5 fun _ => ?_
 refine FoS 5 fun ho62 => ?_
 refine FbD 24 6 fun _ => ?_
 refine KS ?_
 refine Oq Vlss (KS ?_)
 refine Kc ?_ ?_
 ·intro h64
  have g65 := dt h64
  obtain ⟨r66, rfl⟩ := scc (n := r51) aM1
  refine KS ?_
  refine Oq Vm (Oq (Vi sl48 0) ?_)
  refine JJ_peek_GNode v37_53.toNat 0 rfl rng fun hb67 hb68 hb69 hb70 => ?_
  unfold i64ok at hb67 hb68 hb69 hb70
  refine Oq (VldA sh65 0) (Oa (Al ze65 [vi 0, vi 0, vi 0, vi 0]) fun p71 => Oq Va (Ost (Scl [0] sh65 [vi ((rv19.getD v37_53.toNat default).Kind), vi ((rv19.getD v37_53.toNat default).Func), vi ((rv19.getD v37_53.toNat default).Block), vi ((rv19.getD v37_53.toNat default).Stmt)]) (KS ?_)))
  refine Jp 11 fun hp72 => ?_
  refine JK_drawK [0, 1, 3, 7, 0, 0, 63] fmix ?_
  refine Dv [] Vm (Dv [0] (Vn 0) (Dv [0] (Vfa fo72_1 0) (Dv [12] (VldF sh70 0) (Dv [1] (VldA sh65 0) (Dv [] Vm (Dx0 [11] [11] [0] [fun G => Mp ev_GNode vi ok_GNode p36 (mset b3_52 (rv19.getD v37_53.toNat default) v37_53)] (fun G => xS (Smp [0] mt70 kk_GNode v37_53 (ek := ev_GNode) (ev := vi) (ok := ok_GNode) (key := (rv19.getD v37_53.toNat default)) preK)) ?_))))))
  refine Dn ⟨by kernel_rfl, fun G => ?_⟩
  refine Jw2 [(1, p4), (2, p5), (6, vl a23 k24 rv19), (7, p45), (35, vl a23 k24 rv19), (36, vi (rv19.length : Int)), (37, vi v37_53)] [0, 1, 2, 3, 4, 5, 6, 7, 8, 9, 10, 12] [Mp ev_GNode vi ok_GNode p36 (mset b3_52 (rv19.getD v37_53.toNat default) v37_53)] ?_
  refine Jk [1, 1, 2, 3, 3, 4, 5, 6, 7, 7, 7, 7] ?_
  refine KS ?_
  refine Oq Vadd (Oq Vm (KS ?_))
  exact Kg (r66, (mset b3_52 (rv19.getD v37_53.toNat default) v37_53), (v37_53 + 1)) [2, 3, 3, 4, 5, 6, 7, 7, 8, 7] ⟨(q3 hM54 (by simp only [gh_Build_L0, h64, cs4])), aM1, aM1, aM1, aM1⟩
 intro h64
 have g73 := df h64
 obtain rfl : r51 = 0 := by omega
 refine Ke ?_
 have hR74 := q2 hM54 b3_52 (by simp only [gh_Build_L0, h64, cs4])
 refine KS ?_
 refine Oq Vm (Oq (Vlen sl48) (Oq Vm (KS ?_)))
 refine Kl (γ := Nat × List GNode × List (List Int) × List (List Int) × (List (GNode × Int)) × Int × Option Addr × Nat × Option Addr × Nat × Option Addr × Nat) (fun (r75, b0_76, b1_77, b2_78, b3_79, v51_80, a81, k82, a83, k84, a85, k86) => ⟨[(1, p4), (2, p5), (6, vl a23 k24 rv19), (7, p45), (49, vl a23 k24 rv19), (50, vi (rv19.length : Int)), (51, vi v51_80)], [D a85 k86 b2_78, D a83 k84 b1_77, S a81 k82 b0_76, S a23 k24 rv19, Cl p5 [.slice none 0 0, .slice none 0 0, .slice none 0 0], pv p4 [vl pa0 pk0 p.Funcs], S pa0 pk0 p.Funcs, pv (gp 0) [vl kwLA kwLK kwL], S kwLA kwLK kwL, Mp ev_GNode vi ok_GNode p36 b3_79, Cl p45 [vl a81 k82 b0_76, vl a83 k84 b1_77, vl a85 k86 b2_78, p36]], gh_Build_L1 p rv19 r75 b0_76 b1_77 b2_78 b3_79 v51_80 = gh_Build_L1 p rv19 (((rv19.length : Int) - 0).toNat) rv19 (List.replicate (rv19.length : Int).toNat []) (List.replicate (rv19.length : Int).toNat []) b3_52 0 ∧ r75 = ((rv19.length : Int) - v51_80).toNat ∧ (0 : Int) ≤ v51_80 ∧ v51_80 ≤ (rv19.length : Int) ∧ (-9223372036854775808 ≤ v51_80 ∧ v51_80 ≤ 9223372036854775807) ∧ BOk (Gbuilder.mk (GGraph.mk b0_76 b1_77 b2_78) b3_79) ∧ (b1_77.length = rv19.length), r75⟩) (((rv19.length : Int) - 0).toNat, rv19, (List.replicate (rv19.length : Int).toNat []), (List.replicate (rv19.length : Int).toNat []), b3_52, 0, a23, k24, a46, k47, a49, k50) [7, 6, 0, 0, 1, 1, 2, 3, 4, 5, 5] ⟨rfl, rfl, aM1, aM1, aM1, (Bk_init (by assumption) aM1 aM1), (by simp only [List.length_replicate]; omega)⟩ ?_
 rintro ⟨r75, b0_76, b1_77, b2_78, b3_79, v51_80, a81, k82, a83, k84, a85, k86⟩ ⟨hM87, hr88, hi89, hi90, hk91, hv92, hv93⟩
 refine JJ_nx fun _ _ hL hA => ?_; dsimp only at hL hA; subst hL hA
 refine FbD 24 0 fun _ => ?_
 refine FbD 24 1 fun _ => ?_
 refine Fb 32 2 fun _ => Fb 32 3 fun _ => Fb 40 6 fun _ => Fb 16 8 fun _ => ?_
 refine FoS 8 fun ho100 => ?_
 refine KS ?_
 refine Oq Vlss (KS ?_)
 refine Kc ?_ ?_
 ·intro h101
  have g102 := dt h101
  have hN := List_inN (by assumption) (i := v51_80) aM1
  obtain ⟨hN1, hN2⟩ := hN
  have hhe := (‹BOk _›).num (rv19.getD v51_80.toNat default)
  dsimp only at hhe
  obtain ⟨r103, rfl⟩ := scc (n := r75) aM1
  refine KS ?_
  refine Oq (Vi sl48 3) ?_
  refine JJ_peek_GNode v51_80.toNat 3 rfl rng fun hb104 hb105 hb106 hb107 => ?_
  unfold i64ok at hb104 hb105 hb106 hb107
  refine Oq (VldA sh65 0) (Oa (Al ze65 [vi 0, vi 0, vi 0, vi 0]) fun p108 => Ost (Scl [0] sh65 [vi ((rv19.getD v51_80.toNat default).Kind), vi ((rv19.getD v51_80.toNat default).Func), vi ((rv19.getD v51_80.toNat default).Block), vi ((rv19.getD v51_80.toNat default).Stmt)]) (KS ?_))
  refine Oq (Vfa fo65_0 0) (Oq (VldF sh3 0) (KS ?_))
  refine Oq Veql (Oq Va (KS ?_))
  refine Kc ?_ ?_
  ·intro h109
   have g110 := eq_of_beq h109
   refine Jp 12 fun hp111 => ?_
   refine Jp 1 fun hp112 => ?_
   refine JK_drawK [0, 0, 2, 6, 14, 0, 62, 0, 0, 256, 896, 2047] fmix ?_
   refine Dv [] Vm (Dv [] Vm (Dv [1] (Vn 0) (Dv [1] (Vfa fo72_1 0) (Dv [14] (VldF sh70 0) (Dv [2] (VldA sh65 0) (Dv [13] (Vmk1 0 0 mt70 kk_GNode ze3 (ek := ev_GNode) (ev := vi) (ok := ok_GNode) (key := (rv19.getD v51_80.toNat default)) preK) (Dv [] Vm (Dv [0] (Vfa fo65_1 0) (Dv [2] (VldF sh3 0) ?_)))))))))
   refine letv (bd_at (Gbuilder.mk (GGraph.mk b0_76 b1_77 b2_78) b3_79) 3 ((rv19.getD v51_80.toNat default).Func) 0 0) fun rv113 hg114 => Dx [4, 5, 6, 13, 14] [] [3, 2, 3, 2, 1, 0] (fun G => vi rv113) [fun G => SP.fact (i64ok rv113 ∧ (0 ≤ rv113 ∧ rv113 < ((Gbuilder.mk (GGraph.mk b0_76 b1_77 b2_78) b3_79).g.Succ.length : Int)))] (fun G => xC [4, 2, 1, 0, 1] ca25 (fn25 p45 (Gbuilder.mk (GGraph.mk b0_76 b1_77 b2_78) b3_79) a81 k82 a83 k84 a85 k86 p36 3 ((rv19.getD v51_80.toNat default).Func) 0 0 pre pre pre pre (by assumption) rv113 hg114)) ?_
   refine letv (bd_edge (Gbuilder.mk (GGraph.mk b0_76 b1_77 b2_78) b3_79) ((mget b3_79 (rv19.getD v51_80.toNat default)).getD 0) rv113) fun rv118 hg119 => ?_
   refine Dx [4, 5, 6, 13, 14, 15] [4, 5, 13, 14] [6, 7, 0, 1, 1, 2, 2, 2] (fun G => .tuple #[]) [fun G => SP.fact ((BOk rv118) ∧ (rv118.g.Succ.length = (Gbuilder.mk (GGraph.mk b0_76 b1_77 b2_78) b3_79).g.Succ.length)), fun G => Cl p45 [(G.g 11 0), (G.g 11 1), (G.g 11 2), p36], fun G => sl (G.g 11 0) rv118.g.Nodes, fun G => ds (G.g 11 1) rv118.g.Succ, fun G => ds (G.g 11 2) rv118.g.Pred, fun G => Mp ev_GNode vi ok_GNode p36 rv118.number] (fun G => by refine xf 5 rfl ?_; rintro ⟨he120, he121⟩; unfold i64ok at he120; exact xC [4, 2, 1, 0, 1] ca24 (fn24 p45 (Gbuilder.mk (GGraph.mk b0_76 b1_77 b2_78) b3_79) a81 k82 a83 k84 a85 k86 p36 (((mget b3_79 (rv19.getD v51_80.toNat default)).getD 0)) rv113 pre pre (by assumption) (by dsimp only at *; omega) rv118 hg119)) ?_
   refine Dn ⟨by kernel_rfl, fun G => ?_⟩
   refine Jw2 [(1, p4), (2, p5), (6, vl a23 k24 rv19), (7, p45), (49, vl a23 k24 rv19), (50, vi (rv19.length : Int)), (51, vi v51_80)] [0, 1, 2, 3, 6, 7, 8, 9, 10, 11, 12] [SP.fact (i64ok rv113 ∧ (0 ≤ rv113 ∧ rv113 < ((Gbuilder.mk (GGraph.mk b0_76 b1_77 b2_78) b3_79).g.Succ.length : Int))), SP.fact ((BOk rv118) ∧ (rv118.g.Succ.length = (Gbuilder.mk (GGraph.mk b0_76 b1_77 b2_78) b3_79).g.Succ.length)), Cl p45 [(G.g 11 0), (G.g 11 1), (G.g 11 2), p36], sl (G.g 11 0) rv118.g.Nodes, ds (G.g 11 1) rv118.g.Succ, ds (G.g 11 2) rv118.g.Pred, Mp ev_GNode vi ok_GNode p36 rv118.number] ?_
   generalize G.g 11 0 = c115, G.g 11 1 = c116, G.g 11 2 = c117
   refine Jf 11 rfl ?_; rintro ⟨he122, he123⟩
   unfold i64ok at he122
   refine Jf 12 rfl ?_; rintro ⟨he124, he125⟩
   refine Jk [2, 2, 3, 4, 5, 5, 6, 7, 8, 11, 11, 12, 12, 12] ?_
   refine Jo 10 ?_; rintro a126 k127 rfl
   refine Fb 32 10 fun _ => ?_
   refine Jo 11 ?_; rintro a129 k130 rfl
   refine FbD 24 11 fun _ => ?_
   refine Jo 12 ?_; rintro a132 k133 rfl
   refine FbD 24 12 fun _ => ?_
   refine KS ?_
   refine Oq Vadd (Oq Vm (KS ?_))
   exact Kg (r103, rv118.g.Nodes, rv118.g.Succ, rv118.g.Pred, rv118.number, (v51_80 + 1), a126, k127, a129, k130, a132, k133) [12, 11, 10, 3, 4, 4, 5, 6, 7, 10, 8] ⟨(q3 hM87 (by simp only [gh_Build_L1, h101, h109, hg114, hg119, cs4])), aM1, aM1, aM1, aM1, (by assumption), (by first | omega | (dsimp only at *; omega))⟩
  intro h109
  have g135 := ne_of_beq_false h109
  refine KS ?_
  refine Oq Veql (Oq Va (KS ?_))
  refine Kc ?_ ?_
  ·intro h136
   have g137 := eq_of_beq h136
   have hN3 := hN2 (by have := eq_of_beq h136; omega) (by have := eq_of_beq h136; omega)
   refine Jp 0 fun hp138 => ?_
   refine JJ_peek_GFunc ((rv19.getD v51_80.toNat default).Func : Int).toNat 9 rfl rng fun a139 k140 hb141 => ?_
   refine Fb 40 1 fun _ => ?_
   refine JJ_peek_GBlock ((rv19.getD v51_80.toNat default).Block : Int).toNat 1 rfl rng fun a143 k144 hb145 => ?_
   refine Fb 72 1 fun _ => ?_
   refine JJ_peek_GStmt ((rv19.getD v51_80.toNat default).Stmt : Int).toNat 1 rfl rng fun a147 k148 a149 k150 hb151 hb152 => ?_
   unfold i64ok at hb151
   refine Fb 16 1 fun _ => ?_
   refine FoS 1 fun ho154 => ?_
   refine Fb 16 2 fun _ => ?_
   refine FoS 2 fun ho156 => ?_
   refine JK_drawK [0, 0, 0, 0, 8, 0, 32, 120, 248, 504, 0, 1024, 4088, 8184, 16376, 0, 32768, 131064, 262136, 524287] fmix ?_
   refine Dv [] Vm (Dv [15] (VldA sh25 0) (Dv [8] (VldA sh65 0) (Dv [15] (Vfa fo25_0 0) (Dv [15] (VldF sh23 0) (Dv [7] (Vfa fo65_1 0) (Dv [8] (VldF sh3 0) (Dv [16] (Vi sl23 0) (Dv [5] (Vfa fo39_1 0) (Dv [5] (VldF sh37 0) ?_)))))))))
   refine Dv [7] (Vfa fo65_2 0) (Dv [8] (VldF sh3 0) (Dv [6] (Vi sl37 0) (Dv [3] (Vfa fo42_1 0) (Dv [3] (VldF sh40 0) (Dv [7] (Vfa fo65_3 0) (Dv [8] (VldF sh3 0) (Dv [4] (Vi sl40 0) (Dv [0] (VldA sh44 0) ?_))))))))
   refine letv (bd_stmt (Gbuilder.mk (GGraph.mk b0_76 b1_77 b2_78) b3_79) p (rv19.getD v51_80.toNat default) (((((p.Funcs.getD ((rv19.getD v51_80.toNat default).Func : Int).toNat default).Blocks).getD ((rv19.getD v51_80.toNat default).Block : Int).toNat default).Stmts).getD ((rv19.getD v51_80.toNat default).Stmt : Int).toNat default)) fun rv160 hg161 => Dx [1, 2, 10, 11, 12, 16, 19, 20] [10, 11, 19, 20] [6, 7, 8, 9, 0, 1, 1, 2, 2, 2] (fun G => .tuple #[]) [fun G => SP.fact ((BOk rv160) ∧ (rv160.g.Succ.length = (Gbuilder.mk (GGraph.mk b0_76 b1_77 b2_78) b3_79).g.Succ.length)), fun G => Cl p45 [(G.g 19 0), (G.g 19 1), (G.g 19 2), p36], fun G => sl (G.g 19 0) rv160.g.Nodes, fun G => ds (G.g 19 1) rv160.g.Succ, fun G => ds (G.g 19 2) rv160.g.Pred, fun G => Mp ev_GNode vi ok_GNode p36 rv160.number] (fun G => xC [7, 4, 3, 2, 4, 3, 0, 1] ca26 (fn26 p45 (Gbuilder.mk (GGraph.mk b0_76 b1_77 b2_78) b3_79) a81 k82 a83 k84 a85 k86 p36 p pa0 pk0 ((rv19.getD v51_80.toNat default)) ((((((p.Funcs.getD ((rv19.getD v51_80.toNat default).Func : Int).toNat default).Blocks).getD ((rv19.getD v51_80.toNat default).Block : Int).toNat default).Stmts).getD ((rv19.getD v51_80.toNat default).Stmt : Int).toNat default)) a147 k148 a149 k150 pre pre pre pre pre pre (by assumption) pre (call_T hVp _ _ _) rv160 hg161)) ?_
   refine Dn ⟨by kernel_rfl, fun G => ?_⟩
   refine Jw2 [(1, p4), (2, p5), (6, vl a23 k24 rv19), (7, p45), (49, vl a23 k24 rv19), (50, vi (rv19.length : Int)), (51, vi v51_80)] [0, 1, 2, 3, 4, 5, 6, 7, 8, 9, 12, 13, 14, 15, 16, 17, 18] [SP.fact ((BOk rv160) ∧ (rv160.g.Succ.length = (Gbuilder.mk (GGraph.mk b0_76 b1_77 b2_78) b3_79).g.Succ.length)), Cl p45 [(G.g 19 0), (G.g 19 1), (G.g 19 2), p36], sl (G.g 19 0) rv160.g.Nodes, ds (G.g 19 1) rv160.g.Succ, ds (G.g 19 2) rv160.g.Pred, Mp ev_GNode vi ok_GNode p36 rv160.number] ?_
   generalize G.g 19 0 = c157, G.g 19 1 = c158, G.g 19 2 = c159
   refine Jf 17 rfl ?_; rintro ⟨he162, he163⟩
   refine Jk [0, 1, 2, 3, 4, 5, 6, 8, 8, 9, 10, 11, 11, 12, 13, 14, 16, 16, 17, 17, 17] ?_
   refine Jo 17 ?_; rintro a164 k165 rfl
   refine Fb 32 17 fun _ => ?_
   refine Jo 18 ?_; rintro a167 k168 rfl
   refine FbD 24 18 fun _ => ?_
   refine Jo 19 ?_; rintro a170 k171 rfl
   refine FbD 24 19 fun _ => ?_
   refine KS ?_
   refine Oq Vadd (Oq Vm (KS ?_))
   exact Kg (r103, rv160.g.Nodes, rv160.g.Succ, rv160.g.Pred, rv160.number, (v51_80 + 1), a164, k165, a167, k168, a170, k171) [19, 18, 17, 10, 11, 11, 12, 13, 14, 17, 15] ⟨(q3 hM87 (by simp only [gh_Build_L1, h101, h109, h136, hg161, cs4])), aM1, aM1, aM1, aM1, (by assumption), (by first | omega | (dsimp only at *; omega))⟩
  intro h136
  have g173 := ne_of_beq_false h136
  refine KS ?_
  refine Oq Vadd (Oq Vm (KS ?_))
  exact Kg (r103, b0_76, b1_77, b2_78, b3_79, (v51_80 + 1), a81, k82, a83, k84, a85, k86) [2, 2, 2, 3, 4, 4, 5, 6, 7, 8, 8] ⟨(q3 hM87 (by simp only [gh_Build_L1, h101, h109, h136, cs4])), aM1, aM1, aM1, aM1, (by assumption), (by first | omega | (dsimp only at *; omega))⟩
 intro h101
 have g174 := df h101
 obtain rfl : r75 = 0 := by omega
 refine Ke ?_
 have hR175 := q2 hM87 (b0_76, b1_77, b2_78, b3_79) (by simp only [gh_Build_L1, h101, cs4])
 refine KS ?_
 refine Oq Vm (Oq (Vlen sl48) (Oq Vm (KS ?_)))
 refine Kl (γ := Nat × List (List Int) × List (List Int) × Int) (fun (r176, b1_177, b2_178, v96_179) => ⟨[(2, p5), (7, p45), (95, vi (rv19.length : Int)), (96, vi v96_179)], [ds (vl a85 k86 b2_78) b2_178, ds (vl a83 k84 b1_77) b1_177, S a81 k82 b0_76, Cl p5 [.slice none 0 0, .slice none 0 0, .slice none 0 0], pv (gp 0) [vl kwLA kwLK kwL], S kwLA kwLK kwL, Mp ev_GNode vi ok_GNode p36 b3_79, Cl p45 [vl a81 k82 b0_76, vl a83 k84 b1_77, vl a85 k86 b2_78, p36]], gh_Build_L2 r176 b1_177 b2_178 v96_179 = gh_Build_L2 (((rv19.length : Int) - 0).toNat) b1_77 b2_78 0 ∧ r176 = ((rv19.length : Int) - v96_179).toNat ∧ (0 : Int) ≤ v96_179 ∧ v96_179 ≤ (rv19.length : Int) ∧ (-9223372036854775808 ≤ v96_179 ∧ v96_179 ≤ 9223372036854775807) ∧ (b1_177.length = b1_77.length ∧ b2_178.length = b1_77.length) ∧ (∀ l ∈ b1_177, (l.length : Int) ≤ 20000) ∧ (∀ l ∈ b2_178, (l.length : Int) ≤ 20000), r176⟩) (((rv19.length : Int) - 0).toNat, b1_77, b2_78, 0) [0, 0, 0, 2, 4, 5, 6, 6] ⟨rfl, rfl, aM1, aM1, aM1, ⟨rfl, BOk_ps (by assumption)⟩, (BOk_ls (by assumption)), (BOk_lp (by assumption))⟩ ?_
 rintro ⟨r176, b1_177, b2_178, v96_179⟩ ⟨hM180, hr181, hi182, hi183, hk184, hv185, hv186, hv187⟩
 refine JJ_nx fun _ _ hL hA => ?_; dsimp only at hL hA; subst hL hA
 refine FbD 24 0 fun _ => ?_
 refine FlD 0 fun hn189 => ?_
 refine FbD 24 1 fun _ => ?_
 refine FlD 1 fun hn191 => ?_
 refine Fb 32 2 fun _ => Fb 16 5 fun _ => ?_
 refine FoS 5 fun ho194 => ?_
 refine KS ?_
 refine Oq Vlss (KS ?_)
 refine Kc ?_ ?_
 ·intro h195
  have g196 := dt h195
  obtain ⟨r197, rfl⟩ := scc (n := r176) aM1
  refine KS ?_
  refine Oq Vm (Oq Va (KS ?_))
  refine Oq Vm (Oq (Vn 7) (Oq (Vfa fo72_0 7) (Oq (VfaF fo51_1 7) (Oq (VldF sh49 7) (Oq Vm (Oq (Vi sl49 1) ?_))))))
  refine JJ_openDL v96_179.toNat 1 rfl rng fun a198 k199 => ?_
  refine Fb 8 1 fun _ => Fo 1 fun ho201 => Oq (Vld sh22 0) ?_
  refine letv (sc_Sort_int (b1_177.getD v96_179.toNat [])) fun rv202 hg203 => ?_
  have hc204 := fn27 ((b1_177.getD v96_179.toNat [])) a198 k199 (lenS_2 (by assumption)) rv202 hg203
  refine Oc [1] ca27 hc204 ?_
  rintro - he205
  refine Fb 8 0 fun _ => Fo 0 fun ho207 => KS ?_
  refine Oq Vm (Oq (Vn 8) (Oq (Vfa fo72_0 8) (Oq (VfaF fo51_2 8) (Oq (VldF sh49 8) (Oq Vm (Oq (Vi sl49 2) ?_))))))
  refine JJ_openDL v96_179.toNat 2 rfl rng fun a208 k209 => ?_
  refine Fb 8 1 fun _ => Fo 1 fun ho211 => Oq (Vld sh22 0) ?_
  refine letv (sc_Sort_int (b2_178.getD v96_179.toNat [])) fun rv212 hg213 => ?_
  have hc214 := fn27 ((b2_178.getD v96_179.toNat [])) a208 k209 (lenS_2 (by assumption)) rv212 hg213
  refine Oc [1] ca27 hc214 ?_
  rintro - he215
  refine Fb 8 0 fun _ => Fo 0 fun ho217 => KS ?_
  refine Oq Vadd (Oq Vm (KS ?_))
  refine Jl [1, 0] (Ent.closeD (A := [os (vl a208 k209 (b2_178.getD v96_179.toNat [])) rv212]) _ _ _ _ rv212 innL) ?_
  refine Jl [2, 1] (Ent.closeD (A := [os (vl a198 k199 (b1_177.getD v96_179.toNat [])) rv202]) _ _ _ _ rv202 innL) ?_
  exact Kg (r197, (b1_177.set v96_179.toNat rv202), (b2_178.set v96_179.toNat rv212), (v96_179 + 1)) [1, 0, 0, 1, 1, 2, 3, 3] ⟨(q3 hM180 (by simp only [gh_Build_L2, h195, hg203, hg213, cs4])), aM1, aM1, aM1, aM1, (by (try simp only [List.length_set]); omega), (lenS_set0 (by assumption) (by assumption)), (lenS_set0 (by assumption) (by assumption))⟩
 intro h195
 have g218 := df h195
 obtain rfl : r176 = 0 := by omega
 refine Ke ?_
 have hR219 := q2 hM180 (b1_177, b2_178) (by simp only [gh_Build_L2, h195, cs4])
 refine KS ?_
 refine Oq Vm (Oq (Vn 7) (Oq (Vfa fo72_0 7) (Oq (VldG sh51 7 [vl a81 k82 b0_76, vl a83 k84 b1_77, vl a85 k86 b2_78]) (Ost (Scl [3] sh51 [vl a81 k82 b0_76, vl a83 k84 b1_77, vl a85 k86 b2_78]) (Oq Va (KS ?_))))))
 refine Jl [2] (Ent.dsF _ _) ?_
 refine Jl [2] (Ent.dsF _ _) ?_
 have hq := q4 hrr ((GGraph.mk b0_76 b1_177 b2_178), 0) (by simp only [gh_Build, h15, h64, h101, h195, hg7, hg20, hR74, hR175, hR219, cs4]); subst hq
 exact Kr (vl a81 k82 b0_76, vl a83 k84 b1_77, vl a85 k86 b2_78) rfl (.cellN 2 rfl sh51 rfl (reads_Cl _ _) rfl (.tmp rfl .nil)) [3, 1, 0] ⟨en, (by first | rfl | (dsimp only at *; omega))⟩
theorem fn116  (rr : List Str) (hrr : r4_Keywords = rr) : FT Tryz.prog 116 #[] [] (fun g : Value => True) (fun g => g) (fun g => [sl g rr]) := by
 refine FTi Tryz.func116 fun w0 M0 F0 => ?_
 refine KS ?_
 refine Oq Va (KS ?_)
 refine Oa (AsV sl36 sz36 [.string (bs (Str.mk [102, 117, 110, 99])), .string (bs (Str.mk [98, 108, 111, 99, 107])), .string (bs (Str.mk [101, 110, 100])), .string (bs (Str.mk [117, 115, 101])), .string (bs (Str.mk [99, 97, 108, 108])), .string (bs (Str.mk [115, 111, 117, 114, 99, 101])), .string (bs (Str.mk [115, 105, 110, 107])), .string (bs (Str.mk [115, 97, 110, 105, 116, 105, 122, 101])), .string (bs (Str.mk [103, 111, 116, 111])), .string (bs (Str.mk [98, 114, 97, 110, 99, 104])), .string (bs (Str.mk [114, 101, 116, 117, 114, 110]))] [.string (bs (Str.mk [102, 117, 110, 99])), .string (bs (Str.mk [98, 108, 111, 99, 107])), .string (bs (Str.mk [101, 110, 100])), .string (bs (Str.mk [117, 115, 101])), .string (bs (Str.mk [99, 97, 108, 108])), .string (bs (Str.mk [115, 111, 117, 114, 99, 101])), .string (bs (Str.mk [115, 105, 110, 107])), .string (bs (Str.mk [115, 97, 110, 105, 116, 105, 122, 101])), .string (bs (Str.mk [103, 111, 116, 111])), .string (bs (Str.mk [98, 114, 97, 110, 99, 104])), .string (bs (Str.mk [114, 101, 116, 117, 114, 110]))]) fun c1 => ?_
 refine Jo 0 ?_; rintro a2 k3 rfl
 refine Oq Va (KS ?_)
 refine Jl [0] (Ent.crOs (α := Str) (A := []) _ ([(Str.mk [102, 117, 110, 99]), (Str.mk [98, 108, 111, 99, 107]), (Str.mk [101, 110, 100]), (Str.mk [117, 115, 101]), (Str.mk [99, 97, 108, 108]), (Str.mk [115, 111, 117, 114, 99, 101]), (Str.mk [115, 105, 110, 107]), (Str.mk [115, 97, 110, 105, 116, 105, 122, 101]), (Str.mk [103, 111, 116, 111]), (Str.mk [98, 114, 97, 110, 99, 104]), (Str.mk [114, 101, 116, 117, 114, 110])] : List Str) _ aB1 (fun h => ⟨[.string (bs (Str.mk [102, 117, 110, 99]))], [.string (bs (Str.mk [98, 108, 111, 99, 107])), .string (bs (Str.mk [101, 110, 100])), .string (bs (Str.mk [117, 115, 101])), .string (bs (Str.mk [99, 97, 108, 108])), .string (bs (Str.mk [115, 111, 117, 114, 99, 101])), .string (bs (Str.mk [115, 105, 110, 107])), .string (bs (Str.mk [115, 97, 110, 105, 116, 105, 122, 101])), .string (bs (Str.mk [103, 111, 116, 111])), .string (bs (Str.mk [98, 114, 97, 110, 99, 104])), .string (bs (Str.mk [114, 101, 116, 117, 114, 110]))], rfl, (fun _ => ⟨rfl, by first | omega | (simp; done) | (dsimp only; omega) | exact lit_bl rfl⟩) h, ⟨[.string (bs (Str.mk [98, 108, 111, 99, 107]))], [.string (bs (Str.mk [101, 110, 100])), .string (bs (Str.mk [117, 115, 101])), .string (bs (Str.mk [99, 97, 108, 108])), .string (bs (Str.mk [115, 111, 117, 114, 99, 101])), .string (bs (Str.mk [115, 105, 110, 107])), .string (bs (Str.mk [115, 97, 110, 105, 116, 105, 122, 101])), .string (bs (Str.mk [103, 111, 116, 111])), .string (bs (Str.mk [98, 114, 97, 110, 99, 104])), .string (bs (Str.mk [114, 101, 116, 117, 114, 110]))], rfl, (fun _ => ⟨rfl, by first | omega | (simp; done) | (dsimp only; omega) | exact lit_bl rfl⟩) h, ⟨[.string (bs (Str.mk [101, 110, 100]))], [.string (bs (Str.mk [117, 115, 101])), .string (bs (Str.mk [99, 97, 108, 108])), .string (bs (Str.mk [115, 111, 117, 114, 99, 101])), .string (bs (Str.mk [115, 105, 110, 107])), .string (bs (Str.mk [115, 97, 110, 105, 116, 105, 122, 101])), .string (bs (Str.mk [103, 111, 116, 111])), .string (bs (Str.mk [98, 114, 97, 110, 99, 104])), .string (bs (Str.mk [114, 101, 116, 117, 114, 110]))], rfl, (fun _ => ⟨rfl, by first | omega | (simp; done) | (dsimp only; omega) | exact lit_bl rfl⟩) h, ⟨[.string (bs (Str.mk [117, 115, 101]))], [.string (bs (Str.mk [99, 97, 108, 108])), .string (bs (Str.mk [115, 111, 117, 114, 99, 101])), .string (bs (Str.mk [115, 105, 110, 107])), .string (bs (Str.mk [115, 97, 110, 105, 116, 105, 122, 101])), .string (bs (Str.mk [103, 111, 116, 111])), .string (bs (Str.mk [98, 114, 97, 110, 99, 104])), .string (bs (Str.mk [114, 101, 116, 117, 114, 110]))], rfl, (fun _ => ⟨rfl, by first | omega | (simp; done) | (dsimp only; omega) | exact lit_bl rfl⟩) h, ⟨[.string (bs (Str.mk [99, 97, 108, 108]))], [.string (bs (Str.mk [115, 111, 117, 114, 99, 101])), .string (bs (Str.mk [115, 105, 110, 107])), .string (bs (Str.mk [115, 97, 110, 105, 116, 105, 122, 101])), .string (bs (Str.mk [103, 111, 116, 111])), .string (bs (Str.mk [98, 114, 97, 110, 99, 104])), .string (bs (Str.mk [114, 101, 116, 117, 114, 110]))], rfl, (fun _ => ⟨rfl, by first | omega | (simp; done) | (dsimp only; omega) | exact lit_bl rfl⟩) h, ⟨[.string (bs (Str.mk [115, 111, 117, 114, 99, 101]))], [.string (bs (Str.mk [115, 105, 110, 107])), .string (bs (Str.mk [115, 97, 110, 105, 116, 105, 122, 101])), .string (bs (Str.mk [103, 111, 116, 111])), .string (bs (Str.mk [98, 114, 97, 110, 99, 104])), .string (bs (Str.mk [114, 101, 116, 117, 114, 110]))], rfl, (fun _ => ⟨rfl, by first | omega | (simp; done) | (dsimp only; omega) | exact lit_bl rfl⟩) h, ⟨[.string (bs (Str.mk [115, 105, 110, 107]))], [.string (bs (Str.mk [115, 97, 110, 105, 116, 105, 122, 101])), .string (bs (Str.mk [103, 111, 116, 111])), .string (bs (Str.mk [98, 114, 97, 110, 99, 104])), .string (bs (Str.mk [114, 101, 116, 117, 114, 110]))], rfl, (fun _ => ⟨rfl, by first | omega | (simp; done) | (dsimp only; omega) | exact lit_bl rfl⟩) h, ⟨[.string (bs (Str.mk [115, 97, 110, 105, 116, 105, 122, 101]))], [.string (bs (Str.mk [103, 111, 116, 111])), .string (bs (Str.mk [98, 114, 97, 110, 99, 104])), .string (bs (Str.mk [114, 101, 116, 117, 114, 110]))], rfl, (fun _ => ⟨rfl, by first | omega | (simp; done) | (dsimp only; omega) | exact lit_bl rfl⟩) h, ⟨[.string (bs (Str.mk [103, 111, 116, 111]))], [.string (bs (Str.mk [98, 114, 97, 110, 99, 104])), .string (bs (Str.mk [114, 101, 116, 117, 114, 110]))], rfl, (fun _ => ⟨rfl, by first | omega | (simp; done) | (dsimp only; omega) | exact lit_bl rfl⟩) h, ⟨[.string (bs (Str.mk [98, 114, 97, 110, 99, 104]))], [.string (bs (Str.mk [114, 101, 116, 117, 114, 110]))], rfl, (fun _ => ⟨rfl, by first | omega | (simp; done) | (dsimp only; omega) | exact lit_bl rfl⟩) h, ⟨[.string (bs (Str.mk [114, 101, 116, 117, 114, 110]))], [], rfl, (fun _ => ⟨rfl, by first | omega | (simp; done) | (dsimp only; omega) | exact lit_bl rfl⟩) h, rfl⟩⟩⟩⟩⟩⟩⟩⟩⟩⟩⟩)) ?_
 refine Jl [0] (Ent.freeze _ _) ?_
 have hq := q4 hrr [(Str.mk [102, 117, 110, 99]), (Str.mk [98, 108, 111, 99, 107]), (Str.mk [101, 110, 100]), (Str.mk [117, 115, 101]), (Str.mk [99, 97, 108, 108]), (Str.mk [115, 111, 117, 114, 99, 101]), (Str.mk [115, 105, 110, 107]), (Str.mk [115, 97, 110, 105, 116, 105, 122, 101]), (Str.mk [103, 111, 116, 111]), (Str.mk [98, 114, 97, 110, 99, 104]), (Str.mk [114, 101, 116, 117, 114, 110])] (by simp only [r4_Keywords, cs4]); subst hq
 exact Kr (.slice a2 11 k3) rfl (.tmp rfl .nil) [0] trivial
theorem fn62 (c : Int) (hc_0 : 0 ≤ c ∧ c ≤ 255) (rr : Bool) (hrr : r4_letter c = rr) : FT Tryz.prog 62 #[.int .u8 c] [] (fun g : Unit => True) (fun g => vb rr) (fun g => []) := by
 refine FTi Tryz.func62 fun w0 M0 F0 => ?_
 refine KS ?_
 refine Oq Va (KS ?_)
 refine Oq Vm (Oq Vgeq (Oq Vm ?_))
 refine Js 5 ?_ ?_
 ·intro h1
  have g2 := dt h1
  refine Oq Vm (Oq Vleq (Oq Vpt (Oq Vm ?_)))
  refine Js 9 ?_ ?_
  ·intro h3
   have g4 := dt h3
   refine Osk (Osk (Osk (Osk (Osk (Osk (Oq Vpt (Oq Vm (Osk (Osk ?_)))))))))
   refine Oq Vpt (Oq Va (KS ?_))
   have hq := q4 hrr true (by simp only [r4_letter, h1, h3, cs4]); subst hq
   exact Kr () rfl (.tmp rfl .nil) [] trivial
  intro h3
  have g5 := df h3
  refine Oq Vm (Oq Vgeq (Oq Vm ?_))
  refine Js 12 ?_ ?_
  ·intro h6
   have g7 := dt h6
   refine Oq Vm (Oq Vleq (Oq Vpt (Oq Vpf (Oq Vm ?_))))
   refine Js 17 ?_ ?_
   ·intro h8
    have g9 := dt h8
    refine Osk (Osk (Oq Vpt (Oq Va (KS ?_))))
    have hq := q4 hrr true (by simp only [r4_letter, h1, h3, h6, h8, cs4]); subst hq
    exact Kr () rfl (.tmp rfl .nil) [] trivial
   intro h8
   have g10 := df h8
   refine Oq Vm (Oq Veql (Oq Vpf (Oq Va (KS ?_))))
   have hq := q4 hrr (c == 95) (by simp only [r4_letter, h1, h3, h6, h8, cs4]); subst hq
   exact Kr () rfl (.tmp rfl .nil) [] trivial
  intro h6
  have g11 := df h6
  refine Osk (Osk (Oq Vpf (Oq Vpf (Oq Vm (Oq Vm (Oq Veql (Oq Vpf (Oq Va (KS ?_)))))))))
  have hq := q4 hrr (c == 95) (by simp only [r4_letter, h1, h3, h6, cs4]); subst hq
  exact Kr () rfl (.tmp rfl .nil) [] trivial
 intro h1
 have g12 := df h1
 refine Osk (Osk (Oq Vpf (Oq Vm (Oq Vm (Oq Vgeq (Oq Vm ?_))))))
 refine Js 12 ?_ ?_
 ·intro h13
  have g14 := dt h13
  refine Oq Vm (Oq Vleq (Oq Vpt (Oq Vpf (Oq Vm ?_))))
  refine Js 17 ?_ ?_
  ·intro h15
   have g16 := dt h15
   refine Osk (Osk (Oq Vpt (Oq Va (KS ?_))))
   have hq := q4 hrr true (by simp only [r4_letter, h1, h13, h15, cs4]); subst hq
   exact Kr () rfl (.tmp rfl .nil) [] trivial
  intro h15
  have g17 := df h15
  refine Oq Vm (Oq Veql (Oq Vpf (Oq Va (KS ?_))))
  have hq := q4 hrr (c == 95) (by simp only [r4_letter, h1, h13, h15, cs4]); subst hq
  exact Kr () rfl (.tmp rfl .nil) [] trivial
 intro h13
 have g18 := df h13
 refine Osk (Osk (Oq Vpf (Oq Vpf (Oq Vm (Oq Vm (Oq Veql (Oq Vpf (Oq Va (KS ?_)))))))))
 have hq := q4 hrr (c == 95) (by simp only [r4_letter, h1, h13, cs4]); subst hq
 exact Kr () rfl (.tmp rfl .nil) [] trivial
theorem fn63 (c : Int) (hc_0 : 0 ≤ c ∧ c ≤ 255) (rr : Bool) (hrr : r4_digit c = rr) : FT Tryz.prog 63 #[.int .u8 c] [] (fun g : Unit => True) (fun g => vb rr) (fun g => []) := by
 refine FTi Tryz.func63 fun w0 M0 F0 => ?_
 refine KS ?_
 refine Oq Va (KS ?_)
 refine Oq Vm (Oq Vgeq (Oq Vm ?_))
 refine Js 5 ?_ ?_
 ·intro h1
  have g2 := dt h1
  refine Oq Vm (Oq Vleq (Oq Vpt (Oq Va (KS ?_))))
  have hq := q4 hrr (decide (c ≤ 57)) (by simp only [r4_digit, h1, cs4]); subst hq
  exact Kr () rfl (.tmp rfl .nil) [] trivial
 intro h1
 have g3 := df h1
 refine Osk (Osk (Oq Vpf (Oq Va (KS ?_))))
 have hq := q4 hrr false (by simp only [r4_digit, h1, cs4]); subst hq
 exact Kr () rfl (.tmp rfl .nil) [] trivial
theorem fn94 (s : Str) (hs_0 : s.b.length ≤ 140737488355328) (rr : Bool) (hrr : r4_IsName s = rr) : FT Tryz.prog 94 #[.string (bs s)] [] (fun g : Unit => True) (fun g => vb rr) (fun g => []) := by
 refine FTi Tryz.func94 fun w0 M0 F0 => ?_
 refine KS ?_
 refine Oq Va (KS ?_)
 refine Oq Vm (Oq (VlS un9 (l := s)) (Oq Veql (Oq Vm ?_)))
 refine Js 9 ?_ ?_
 ·intro h1
  have g2 := eq_of_beq h1
  refine Osk (Osk (Osk (Oq Vpt (Oq Vm (Osk (Osk (Osk (Osk (Oq Vpt ?_)))))))))
  refine Oq Vm (Osk (Osk (Osk (Oq Vpt (KS ?_)))))
  refine Kt (KS ?_)
  refine Oq Va (KS ?_)
  have hq := q4 hrr false (by simp only [r4_IsName, h1, cs4]); subst hq
  exact Kr () rfl (.tmp rfl .nil) [] trivial
 intro h1
 have g3 := ne_of_beq_false h1
 refine Oq Vm (Oq (VlS un9 (l := s)) (Oq Vgtr (Oq Vpf (Oq Vm ?_))))
 refine Js 14 ?_ ?_
 ·intro h4
  have g5 := dt h4
  refine Osk (Osk (Osk (Osk (Oq Vpt (Oq Vm (Osk (Osk (Osk (Oq Vpt ?_)))))))))
  refine KS ?_
  refine Kt (KS ?_)
  refine Oq Va (KS ?_)
  have hq := q4 hrr false (by simp only [r4_IsName, h1, h4, cs4]); subst hq
  exact Kr () rfl (.tmp rfl .nil) [] trivial
 intro h4
 have g6 := df h4
 refine Oq Vm (Oq (Vix un9 (l := s)) ?_)
 have hb7 := u8b (s.b.getD (0 : Int).toNat 0)
 refine letv (r4_letter ((s.b.getD (0 : Int).toNat 0).toNat : Int)) fun rv8 hg9 => ?_
 have hc10 := fn62 (((s.b.getD (0 : Int).toNat 0).toNat : Int)) pre rv8 hg9
 refine Oc [] ca62 hc10 ?_
 rintro - -
 refine Oq Vnot (Oq Vpf (Oq Vm ?_))
 refine Js 20 ?_ ?_
 ·intro h11
  have h13 := not_true h11
  refine Osk (Osk (Osk (Oq Vpt (KS ?_))))
  refine Kt (KS ?_)
  refine Oq Va (KS ?_)
  have hq := q4 hrr false (by simp only [r4_IsName, h1, h4, h11, h13, hg9, cs4]); subst hq
  exact Kr () rfl (.tmp rfl .nil) [] trivial
 intro h11
 have h16 := not_false h11
 refine Oq Vm (Oq (Vix un9 (l := s)) ?_)
 have hb18 := u8b (s.b.getD (0 : Int).toNat 0)
 refine Oq Veql (Oq Vpf (KS ?_))
 refine Kc ?_ ?_
 ·intro h19
  have g20 := eq_of_beq h19
  refine KS ?_
  refine Oq Va (KS ?_)
  have hq := q4 hrr false (by simp only [r4_IsName, h1, h4, h11, h16, h19, hg9, cs4]); subst hq
  exact Kr () rfl (.tmp rfl .nil) [] trivial
 intro h19
 have g21 := ne_of_beq_false h19
 refine KS ?_
 refine Oq Va (KS ?_)
 refine Kl (γ := Nat × Int) (fun (r22, i_23) => ⟨[(0, .string (bs s)), (3, vi i_23)], [], r4_IsName_L0 s r22 i_23 = r4_IsName_L0 s (((s.b.length : Int) - 0).toNat) 0 ∧ r22 = ((s.b.length : Int) - i_23).toNat ∧ (0 : Int) ≤ i_23 ∧ i_23 ≤ (s.b.length : Int) ∧ (-9223372036854775808 ≤ i_23 ∧ i_23 ≤ 9223372036854775807), r22⟩) (((s.b.length : Int) - 0).toNat, 0) [] ⟨rfl, rfl, aM1, aM1, aM1⟩ ?_
 rintro ⟨r22, i_23⟩ ⟨hM24, hr25, hi26, hi27, hk28⟩
 refine JJ_nx fun _ _ hL hA => ?_; dsimp only at hL hA; subst hL hA
 refine KS ?_
 refine Oq Vm (Oq Vm (Oq (VlS un9 (l := s)) (Oq Vlss (KS ?_))))
 refine Kc ?_ ?_
 ·intro h29
  have g30 := dt h29
  obtain ⟨r31, rfl⟩ := scc (n := r22) aM1
  refine KS ?_
  refine Oq Vm (Oq Vm (Oq (Vix un9 (l := s)) ?_))
  have hb32 := u8b (s.b.getD i_23.toNat 0)
  refine letv (r4_letter ((s.b.getD i_23.toNat 0).toNat : Int)) fun rv33 hg34 => ?_
  have hc35 := fn62 (((s.b.getD i_23.toNat 0).toNat : Int)) pre rv33 hg34
  refine Oc [] ca62 hc35 ?_
  rintro - -
  refine Oq Vnot (Oq Vm ?_)
  refine Js 36 ?_ ?_
  ·intro h36
   have h38 := not_true h36
   refine Oq Vm (Oq Vm (Oq (Vix un9 (l := s)) ?_))
   have hb40 := u8b (s.b.getD i_23.toNat 0)
   refine letv (r4_digit ((s.b.getD i_23.toNat 0).toNat : Int)) fun rv41 hg42 => ?_
   have hc43 := fn63 (((s.b.getD i_23.toNat 0).toNat : Int)) pre rv41 hg42
   refine Oc [] ca63 hc43 ?_
   rintro - -
   refine Oq Vnot (Oq Vpt (KS ?_))
   refine Kc ?_ ?_
   ·intro h44
    have h46 := not_true h44
    refine KS ?_
    refine Oq Va (KS ?_)
    have hR48 := q2 hM24 (.ret false) (by simp only [r4_IsName_L0, h29, h36, h38, h44, h46, hg34, hg42, cs4])
    have hq := q4 hrr false (by simp only [r4_IsName, h1, h4, h11, h16, h19, h29, h36, h38, h44, h46, hg9, hg34, hg42, hR48, cs4]); subst hq
    exact Kr () rfl (.tmp rfl .nil) [] trivial
   intro h44
   have h50 := not_false h44
   refine KS ?_
   refine Oq Vm (Oq Vadd (Oq Va (KS ?_)))
   exact Kg (r31, (i_23 + 1)) [] ⟨(q3 hM24 (by simp only [r4_IsName_L0, h29, h36, h38, h44, h50, hg34, hg42, cs4])), aM1, aM1, aM1, aM1⟩
  intro h36
  have h53 := not_false h36
  refine Osk (Osk (Osk (Osk (Osk (Oq Vpf (KS ?_))))))
  refine Kf (KS ?_)
  refine Oq Vm (Oq Vadd (Oq Va (KS ?_)))
  exact Kg (r31, (i_23 + 1)) [] ⟨(q3 hM24 (by simp only [r4_IsName_L0, h29, h36, h53, hg34, cs4])), aM1, aM1, aM1, aM1⟩
 intro h29
 have g55 := df h29
 obtain rfl : r22 = 0 := by omega
 refine Ke ?_
 have hR56 := q2 hM24 (.brk ()) (by simp only [r4_IsName_L0, h29, cs4])
 refine KS ?_
 have hc58 := fn116  r4_Keywords rfl
 refine Oc [] ca116 hc58 ?_
 rintro c57 -
 refine Jo 0 ?_; rintro a59 k60 rfl
 refine Fb 16 0 fun _ => ?_
 refine FoS 0 fun ho62 => ?_
 refine Oq Va (KS ?_)
 refine Oq Va (KS ?_)
 refine Kl (γ := Nat × Int) (fun (r63, i_64) => ⟨[(0, .string (bs s)), (4, vl a59 k60 r4_Keywords), (5, vi i_64)], [S a59 k60 r4_Keywords], r4_IsName_L1 s r63 i_64 = r4_IsName_L1 s (((r4_Keywords.length : Int) - 0).toNat) 0 ∧ r63 = ((r4_Keywords.length : Int) - i_64).toNat ∧ (0 : Int) ≤ i_64 ∧ i_64 ≤ (r4_Keywords.length : Int) ∧ (-9223372036854775808 ≤ i_64 ∧ i_64 ≤ 9223372036854775807), r63⟩) (((r4_Keywords.length : Int) - 0).toNat, 0) [0] ⟨rfl, rfl, aM1, aM1, aM1⟩ ?_
 rintro ⟨r63, i_64⟩ ⟨hM65, hr66, hi67, hi68, hk69⟩
 refine JJ_nx fun _ _ hL hA => ?_; dsimp only at hL hA; subst hL hA
 refine Fb 16 0 fun _ => ?_
 refine FoS 0 fun ho71 => ?_
 refine KS ?_
 refine Oq Vm (Oq Vm (Oq (Vlen sl36) (Oq Vlss (KS ?_))))
 refine Kc ?_ ?_
 ·intro h72
  have g73 := dt h72
  obtain ⟨r74, rfl⟩ := scc (n := r63) aM1
  refine KS ?_
  refine Oq Vm (Oq Vm (Oq (Vi sl36 0) ?_))
  have hb75 := okS (i := i_64.toNat) ho71 rng
  refine Oq (VldS sh9 0) (Oq Vm (Oq (VeqS (l := (r4_Keywords.getD i_64.toNat default)) (m := s)) (KS ?_)))
  refine Kc ?_ ?_
  ·intro h76
   have g77 := eq_of_beq h76
   refine KS ?_
   refine Oq Va (KS ?_)
   have hR78 := q2 hM65 (.ret false) (by simp only [r4_IsName_L1, h72, h76, cs4])
   have hq := q4 hrr false (by simp only [r4_IsName, h1, h4, h11, h16, h19, h29, h72, h76, hg9, hR56, hR78, cs4]); subst hq
   exact Kr () rfl (.tmp rfl .nil) [] trivial
  intro h76
  have g79 := ne_of_beq_false h76
  refine KS ?_
  refine Oq Vm (Oq Vadd (Oq Va (KS ?_)))
  exact Kg (r74, (i_64 + 1)) [0] ⟨(q3 hM65 (by simp only [r4_IsName_L1, h72, h76, cs4])), aM1, aM1, aM1, aM1⟩
 intro h72
 have g80 := df h72
 obtain rfl : r63 = 0 := by omega
 refine Ke ?_
 have hR81 := q2 hM65 (.brk ()) (by simp only [r4_IsName_L1, h72, cs4])
 refine KS ?_
 refine Oq Va (KS ?_)
 have hq := q4 hrr true (by simp only [r4_IsName, h1, h4, h11, h16, h19, h29, h72, hg9, hR56, hR81, cs4]); subst hq
 exact Kr () rfl (.tmp rfl .nil) [] trivial
theorem fn117 (l : List Str) (la0 : Option Addr) (lk0 : Nat) (a : Int) (b : Int) (ha_0 : i64ok a) (hb_0 : i64ok b) (rr : Bool) (hrr : r4_namesOK l a b = rr) : FT Tryz.prog 117 #[vl la0 lk0 l, vi a, vi b] [S la0 lk0 l] (fun g : Unit => True) (fun g => vb rr) (fun g => []) := by
 refine FTi Tryz.func117 fun w0 M0 F0 => ?_
 unfold i64ok at ha_0 hb_0
 refine Fb 16 0 fun _ => ?_
 refine FoS 0 fun ho2 => ?_
 refine KS ?_
 refine Oq Va (KS ?_)
 refine Oq Va (KS ?_)
 refine Kl (γ := Nat × Int) (fun (r3, i_4) => ⟨[(0, vl la0 lk0 l), (1, vi a), (2, vi b), (7, vi i_4)], [S la0 lk0 l], r4_namesOK_L0 l r3 i_4 = r4_namesOK_L0 l (((l.length : Int) - 0).toNat) 0 ∧ r3 = ((l.length : Int) - i_4).toNat ∧ (0 : Int) ≤ i_4 ∧ i_4 ≤ (l.length : Int) ∧ (-9223372036854775808 ≤ i_4 ∧ i_4 ≤ 9223372036854775807), r3⟩) (((l.length : Int) - 0).toNat, 0) [0] ⟨rfl, rfl, aM1, aM1, aM1⟩ ?_
 rintro ⟨r3, i_4⟩ ⟨hM5, hr6, hi7, hi8, hk9⟩
 refine JJ_nx fun _ _ hL hA => ?_; dsimp only at hL hA; subst hL hA
 refine Fb 16 0 fun _ => ?_
 refine FoS 0 fun ho11 => ?_
 refine KS ?_
 refine Oq Vm (Oq Vm (Oq (Vlen sl36) (Oq Vlss (KS ?_))))
 refine Kc ?_ ?_
 ·intro h12
  have g13 := dt h12
  obtain ⟨r14, rfl⟩ := scc (n := r3) aM1
  refine KS ?_
  refine Oq Vm (Oq Vm (Oq (Vi sl36 0) ?_))
  have hb15 := okS (i := i_4.toNat) ho11 rng
  refine Oq (VldS sh9 0) ?_
  refine letv (r4_IsName (l.getD i_4.toNat default)) fun rv16 hg17 => ?_
  have hc18 := fn94 ((l.getD i_4.toNat default)) pre rv16 hg17
  refine Oc [] ca94 hc18 ?_
  rintro - -
  refine Oq Vnot (KS ?_)
  refine Kc ?_ ?_
  ·intro h19
   have h21 := not_true h19
   refine KS ?_
   refine Oq Va (KS ?_)
   have hR23 := q2 hM5 (.ret false) (by simp only [r4_namesOK_L0, h12, h19, h21, hg17, cs4])
   have hq := q4 hrr false (by simp only [r4_namesOK, h12, h19, h21, hg17, hR23, cs4]); subst hq
   exact Kr () rfl (.tmp rfl .nil) [] trivial
  intro h19
  have h25 := not_false h19
  refine KS ?_
  refine Oq Vm (Oq Vadd (Oq Va (KS ?_)))
  exact Kg (r14, (i_4 + 1)) [0] ⟨(q3 hM5 (by simp only [r4_namesOK_L0, h12, h19, h25, hg17, cs4])), aM1, aM1, aM1, aM1⟩
 intro h12
 have g27 := df h12
 obtain rfl : r3 = 0 := by omega
 refine Ke ?_
 have hR28 := q2 hM5 (.brk ()) (by simp only [r4_namesOK_L0, h12, cs4])
 refine KS ?_
 refine Oq Vm (Oq (Vlen sl36) (Oq Vm (Oq Vgeq (Oq Vm ?_))))
 refine Js 24 ?_ ?_
 ·intro h29
  have g30 := dt h29
  refine Oq Vm (Oq (Vlen sl36) (Oq Vm (Oq Vleq (Oq Vpt (Oq Va (KS ?_))))))
  have hq := q4 hrr (decide ((l.length : Int) ≤ b)) (by simp only [r4_namesOK, h12, h29, hR28, cs4]); subst hq
  exact Kr () rfl (.tmp rfl .nil) [] trivial
 intro h29
 have g31 := df h29
 refine Osk (Osk (Osk (Osk (Oq Vpf (Oq Va (KS ?_))))))
 have hq := q4 hrr false (by simp only [r4_namesOK, h12, h29, hR28, cs4]); subst hq
 exact Kr () rfl (.tmp rfl .nil) [] trivial
theorem fn95 (s : GStmt) (sa2 : Option Addr) (sk2 : Nat) (sa3 : Option Addr) (sk3 : Nat) (hs_0 : i64ok s.Op) (hs_1 : s.Def.b.length ≤ 140737488355328) (rr : Bool) (hrr : r4_stmtOK s = rr) : FT Tryz.prog 95 #[.agg #[vi s.Op, .string (bs s.Def), vl sa2 sk2 s.Uses, vl sa3 sk3 s.Targets]] [S sa2 sk2 s.Uses, S sa3 sk3 s.Targets] (fun g : Unit => True) (fun g => vb rr) (fun g => []) := by
 refine FTi Tryz.func95 fun w0 M0 F0 => ?_
 unfold i64ok at hs_0
 refine Fb 16 0 fun _ => ?_
 refine FoS 0 fun ho2 => ?_
 refine Fb 16 1 fun _ => ?_
 refine FoS 1 fun ho4 => ?_
 refine KS ?_
 refine Oa (Ab [vi s.Op, .string (bs s.Def), vl sa2 sk2 s.Uses, vl sa3 sk3 s.Targets]) fun p5 => Oq Va (KS ?_)
 refine Oq (Vfa fo44_1 0) (Oq (VldF sh9 0) ?_)
 refine letv (r4_IsName s.Def) fun rv6 hg7 => ?_
 have hc8 := fn94 s.Def pre rv6 hg7
 refine Oc [] ca94 hc8 ?_
 rintro - -
 refine Oq Va (KS ?_)
 refine Kq [0, 1, 3, 0, 8, 24, 7, 127] fmix ?_
 refine Qv [0] (Vfa fo44_2 0) (Qv [0] (VldF sh36 0) (Qv [] (Vlen sl36) (Qv [0] (Vfa fo44_3 0) (Qv [0] (VldF sh36 0) (Qv [] (Vlen sl36) (Qv [] Va (Qv [] Va ?_)))))))
 refine Qn ⟨by kernel_rfl, ?_⟩
 refine KS ?_
 refine Oq (Vfa fo44_2 0) (Oq (VldF sh36 0) ?_)
 refine letv (r4_namesOK s.Uses 0 4) fun rv9 hg10 => ?_
 have hc11 := fn117 s.Uses sa2 sk2 0 4 pre pre rv9 hg10
 refine Oc [1] ca117 hc11 ?_
 rintro - -
 refine Oq Vnot (Oq Vm ?_)
 refine Js 19 ?_ ?_
 ·intro h12
  have h14 := not_true h12
  refine Osk (Osk (Osk (Osk (Oq Vpt (KS ?_)))))
  refine Kt (KS ?_)
  refine Oq Va (KS ?_)
  have hq := q4 hrr false (by simp only [r4_stmtOK, h12, h14, hg7, hg10, cs4]); subst hq
  exact Kr () rfl (.tmp rfl .nil) [] trivial
 intro h12
 have h17 := not_false h12
 refine Oq (Vfa fo44_3 0) (Oq (VldF sh36 0) ?_)
 refine letv (r4_namesOK s.Targets 0 2) fun rv19 hg20 => ?_
 have hc21 := fn117 s.Targets sa3 sk3 0 2 pre pre rv19 hg20
 refine Oc [2] ca117 hc21 ?_
 rintro - -
 refine Oq Vnot (Oq Vpf (KS ?_))
 refine Kc ?_ ?_
 ·intro h22
  have h24 := not_true h22
  refine KS ?_
  refine Oq Va (KS ?_)
  have hq := q4 hrr false (by simp only [r4_stmtOK, h12, h17, h22, h24, hg7, hg10, hg20, cs4]); subst hq
  exact Kr () rfl (.tmp rfl .nil) [] trivial
 intro h22
 have h27 := not_false h22
 refine KS ?_
 refine Oq (Vfa fo44_0 0) (Oq (VldF sh3 0) (KS ?_))
 refine Oq Veql (Oq Va (KS ?_))
 refine Kc ?_ ?_
 ·intro h29
  have g30 := eq_of_beq h29
  refine KS ?_
  refine Oq Vm (Oq Vm ?_)
  refine Js 30 ?_ ?_
  ·intro h31
   refine Oq Vm (Oq Veql (Oq Vpt (Oq Va (KS ?_))))
   have hq := q4 hrr ((s.Targets.length : Int) == 0) (by simp only [r4_stmtOK, h12, h17, h22, h27, h29, h31, hg7, hg10, hg20, cs4]); subst hq
   exact Kr () rfl (.tmp rfl .nil) [] trivial
  intro h31
  refine Osk (Osk (Oq Vpf (Oq Va (KS ?_))))
  have hq := q4 hrr false (by simp only [r4_stmtOK, h12, h17, h22, h27, h29, h31, hg7, hg10, hg20, cs4]); subst hq
  exact Kr () rfl (.tmp rfl .nil) [] trivial
 intro h29
 have g34 := ne_of_beq_false h29
 refine KS ?_
 refine Oq Veql (Oq Va (KS ?_))
 refine Kc ?_ ?_
 ·intro h35
  have g36 := eq_of_beq h35
  refine KS ?_
  refine Oq (Vfa fo44_1 0) (Oq (VldF sh9 0) (Oq (VeqS (l := s.Def) (m := (Str.mk []))) (Oq Vm ?_)))
  refine Js 39 ?_ ?_
  ·intro h37
   have g38 := eq_of_beq h37
   refine Oq Vm (Oq Vgeq (Oq Vpt (Oq Vm ?_)))
   refine Js 43 ?_ ?_
   ·intro h39
    have g40 := dt h39
    refine Oq Vm (Oq Veql (Oq Vpt (Oq Va (KS ?_))))
    have hq := q4 hrr ((s.Targets.length : Int) == 0) (by simp only [r4_stmtOK, h12, h17, h22, h27, h29, h35, h37, h39, hg7, hg10, hg20, cs4]); subst hq
    exact Kr () rfl (.tmp rfl .nil) [] trivial
   intro h39
   have g41 := df h39
   refine Osk (Osk (Oq Vpf (Oq Va (KS ?_))))
   have hq := q4 hrr false (by simp only [r4_stmtOK, h12, h17, h22, h27, h29, h35, h37, h39, hg7, hg10, hg20, cs4]); subst hq
   exact Kr () rfl (.tmp rfl .nil) [] trivial
  intro h37
  have g42 := ne_of_beq_false h37
  refine Osk (Osk (Oq Vpf (Oq Vm (Osk (Osk (Oq Vpf (Oq Va (KS ?_))))))))
  have hq := q4 hrr false (by simp only [r4_stmtOK, h12, h17, h22, h27, h29, h35, h37, hg7, hg10, hg20, cs4]); subst hq
  exact Kr () rfl (.tmp rfl .nil) [] trivial
 intro h35
 have g43 := ne_of_beq_false h35
 refine KS ?_
 refine Oq Veql (Oq Va (KS ?_))
 refine Kc ?_ ?_
 ·intro h44
  have g45 := eq_of_beq h44
  refine KS ?_
  refine Oq (Vfa fo44_1 0) (Oq (VldF sh9 0) (Oq (VeqS (l := s.Def) (m := (Str.mk []))) (Oq Vm ?_)))
  refine Js 52 ?_ ?_
  ·intro h46
   have g47 := eq_of_beq h46
   refine Oq Vm (Oq Veql (Oq Vpt (Oq Vm ?_)))
   refine Js 56 ?_ ?_
   ·intro h48
    have g49 := eq_of_beq h48
    refine Oq Vm (Oq Veql (Oq Vpt (Oq Va (KS ?_))))
    have hq := q4 hrr ((s.Targets.length : Int) == 0) (by simp only [r4_stmtOK, h12, h17, h22, h27, h29, h35, h44, h46, h48, hg7, hg10, hg20, cs4]); subst hq
    exact Kr () rfl (.tmp rfl .nil) [] trivial
   intro h48
   have g50 := ne_of_beq_false h48
   refine Osk (Osk (Oq Vpf (Oq Va (KS ?_))))
   have hq := q4 hrr false (by simp only [r4_stmtOK, h12, h17, h22, h27, h29, h35, h44, h46, h48, hg7, hg10, hg20, cs4]); subst hq
   exact Kr () rfl (.tmp rfl .nil) [] trivial
  intro h46
  have g51 := ne_of_beq_false h46
  refine Osk (Osk (Oq Vpf (Oq Vm (Osk (Osk (Oq Vpf (Oq Va (KS ?_))))))))
  have hq := q4 hrr false (by simp only [r4_stmtOK, h12, h17, h22, h27, h29, h35, h44, h46, hg7, hg10, hg20, cs4]); subst hq
  exact Kr () rfl (.tmp rfl .nil) [] trivial
 intro h44
 have g52 := ne_of_beq_false h44
 refine KS ?_
 refine Oq Veql (Oq Va (KS ?_))
 refine Kc ?_ ?_
 ·intro h53
  have g54 := eq_of_beq h53
  refine KS ?_
  refine Kc ?_ ?_
  ·intro h55
   have g56 := eq_of_beq h55
   refine KS ?_
   refine Oq (Vfa fo44_1 0) (Oq (VldF sh9 0) (Oq (VeqS (l := s.Def) (m := (Str.mk []))) (Oq Vm ?_)))
   refine Js 66 ?_ ?_
   ·intro h57
    have g58 := eq_of_beq h57
    refine Oq Vm (Oq Veql (Oq Vpt (Oq Vm ?_)))
    refine Js 70 ?_ ?_
    ·intro h59
     have g60 := eq_of_beq h59
     refine Oq Vm (Oq Veql (Oq Vpt (Oq Va (KS ?_))))
     have hq := q4 hrr ((s.Targets.length : Int) == 1) (by simp only [r4_stmtOK, h12, h17, h22, h27, h29, h35, h44, h53, h55, h57, h59, hg7, hg10, hg20, cs4]); subst hq
     exact Kr () rfl (.tmp rfl .nil) [] trivial
    intro h59
    have g61 := ne_of_beq_false h59
    refine Osk (Osk (Oq Vpf (Oq Va (KS ?_))))
    have hq := q4 hrr false (by simp only [r4_stmtOK, h12, h17, h22, h27, h29, h35, h44, h53, h55, h57, h59, hg7, hg10, hg20, cs4]); subst hq
    exact Kr () rfl (.tmp rfl .nil) [] trivial
   intro h57
   have g62 := ne_of_beq_false h57
   refine Osk (Osk (Oq Vpf (Oq Vm (Osk (Osk (Oq Vpf (Oq Va (KS ?_))))))))
   have hq := q4 hrr false (by simp only [r4_stmtOK, h12, h17, h22, h27, h29, h35, h44, h53, h55, h57, hg7, hg10, hg20, cs4]); subst hq
   exact Kr () rfl (.tmp rfl .nil) [] trivial
  intro h55
  exact absurd h55 (by first | (simp [h53]; done) | (simp only [bne, h53]; decide) | (simp only [bne, h53, Bool.not_true, Bool.not_false]; decide) | (exfalso; omega) | (intro hq; simp only [bne, hq, Bool.not_false, Bool.not_true, reduceCtorEq] at h53))
 intro h53
 have g63 := ne_of_beq_false h53
 refine KS ?_
 refine Oq Veql (Oq Va (KS ?_))
 refine Kc ?_ ?_
 ·intro h64
  have g65 := eq_of_beq h64
  refine KS ?_
  refine Oq (Vfa fo44_1 0) (Oq (VldF sh9 0) (Oq (VeqS (l := s.Def) (m := (Str.mk []))) (Oq Vm ?_)))
  refine Js 66 ?_ ?_
  ·intro h66
   have g67 := eq_of_beq h66
   refine Oq Vm (Oq Veql (Oq Vpt (Oq Vm ?_)))
   refine Js 70 ?_ ?_
   ·intro h68
    have g69 := eq_of_beq h68
    refine Oq Vm (Oq Veql (Oq Vpt (Oq Va (KS ?_))))
    have hq := q4 hrr ((s.Targets.length : Int) == 1) (by simp only [r4_stmtOK, h12, h17, h22, h27, h29, h35, h44, h53, h64, h66, h68, hg7, hg10, hg20, cs4]); subst hq
    exact Kr () rfl (.tmp rfl .nil) [] trivial
   intro h68
   have g70 := ne_of_beq_false h68
   refine Osk (Osk (Oq Vpf (Oq Va (KS ?_))))
   have hq := q4 hrr false (by simp only [r4_stmtOK, h12, h17, h22, h27, h29, h35, h44, h53, h64, h66, h68, hg7, hg10, hg20, cs4]); subst hq
   exact Kr () rfl (.tmp rfl .nil) [] trivial
  intro h66
  have g71 := ne_of_beq_false h66
  refine Osk (Osk (Oq Vpf (Oq Vm (Osk (Osk (Oq Vpf (Oq Va (KS ?_))))))))
  have hq := q4 hrr false (by simp only [r4_stmtOK, h12, h17, h22, h27, h29, h35, h44, h53, h64, h66, hg7, hg10, hg20, cs4]); subst hq
  exact Kr () rfl (.tmp rfl .nil) [] trivial
 intro h64
 have g72 := ne_of_beq_false h64
 refine KS ?_
 refine Oq Veql (Oq Va (KS ?_))
 refine Kc ?_ ?_
 ·intro h73
  have g74 := eq_of_beq h73
  refine KS ?_
  refine Kc ?_ ?_
  ·intro h75
   have g76 := eq_of_beq h75
   refine KS ?_
   refine Oq Vm (Oq Vm ?_)
   refine Js 78 ?_ ?_
   ·intro h77
    refine Oq Vm (Oq Veql (Oq Vpt (Oq Vm ?_)))
    refine Js 82 ?_ ?_
    ·intro h79
     have g80 := eq_of_beq h79
     refine Oq Vm (Oq Veql (Oq Vpt (Oq Va (KS ?_))))
     have hq := q4 hrr ((s.Targets.length : Int) == 0) (by simp only [r4_stmtOK, h12, h17, h22, h27, h29, h35, h44, h53, h64, h73, h75, h77, h79, hg7, hg10, hg20, cs4]); subst hq
     exact Kr () rfl (.tmp rfl .nil) [] trivial
    intro h79
    have g81 := ne_of_beq_false h79
    refine Osk (Osk (Oq Vpf (Oq Va (KS ?_))))
    have hq := q4 hrr false (by simp only [r4_stmtOK, h12, h17, h22, h27, h29, h35, h44, h53, h64, h73, h75, h77, h79, hg7, hg10, hg20, cs4]); subst hq
    exact Kr () rfl (.tmp rfl .nil) [] trivial
   intro h77
   refine Osk (Osk (Oq Vpf (Oq Vm (Osk (Osk (Oq Vpf (Oq Va (KS ?_))))))))
   have hq := q4 hrr false (by simp only [r4_stmtOK, h12, h17, h22, h27, h29, h35, h44, h53, h64, h73, h75, h77, hg7, hg10, hg20, cs4]); subst hq
   exact Kr () rfl (.tmp rfl .nil) [] trivial
  intro h75
  exact absurd h75 (by first | (simp [h73]; done) | (simp only [bne, h73]; decide) | (simp only [bne, h73, Bool.not_true, Bool.not_false]; decide) | (exfalso; omega) | (intro hq; simp only [bne, hq, Bool.not_false, Bool.not_true, reduceCtorEq] at h73))
 intro h73
 have g83 := ne_of_beq_false h73
 refine KS ?_
 refine Oq Veql (Oq Va (KS ?_))
 refine Kc ?_ ?_
 ·intro h84
  have g85 := eq_of_beq h84
  refine KS ?_
  refine Oq Vm (Oq Vm ?_)
  refine Js 78 ?_ ?_
  ·intro h86
   refine Oq Vm (Oq Veql (Oq Vpt (Oq Vm ?_)))
   refine Js 82 ?_ ?_
   ·intro h88
    have g89 := eq_of_beq h88
    refine Oq Vm (Oq Veql (Oq Vpt (Oq Va (KS ?_))))
    have hq := q4 hrr ((s.Targets.length : Int) == 0) (by simp only [r4_stmtOK, h12, h17, h22, h27, h29, h35, h44, h53, h64, h73, h84, h86, h88, hg7, hg10, hg20, cs4]); subst hq
    exact Kr () rfl (.tmp rfl .nil) [] trivial
   intro h88
   have g90 := ne_of_beq_false h88
   refine Osk (Osk (Oq Vpf (Oq Va (KS ?_))))
   have hq := q4 hrr false (by simp only [r4_stmtOK, h12, h17, h22, h27, h29, h35, h44, h53, h64, h73, h84, h86, h88, hg7, hg10, hg20, cs4]); subst hq
   exact Kr () rfl (.tmp rfl .nil) [] trivial
  intro h86
  refine Osk (Osk (Oq Vpf (Oq Vm (Osk (Osk (Oq Vpf (Oq Va (KS ?_))))))))
  have hq := q4 hrr false (by simp only [r4_stmtOK, h12, h17, h22, h27, h29, h35, h44, h53, h64, h73, h84, h86, hg7, hg10, hg20, cs4]); subst hq
  exact Kr () rfl (.tmp rfl .nil) [] trivial
 intro h84
 have g92 := ne_of_beq_false h84
 refine KS ?_
 refine Oq Veql (Oq Va (KS ?_))
 refine Kc ?_ ?_
 ·intro h93
  have g94 := eq_of_beq h93
  refine KS ?_
  refine Oq (Vfa fo44_1 0) (Oq (VldF sh9 0) (Oq (VeqS (l := s.Def) (m := (Str.mk []))) (Oq Vm ?_)))
  refine Js 91 ?_ ?_
  ·intro h95
   have g96 := eq_of_beq h95
   refine Oq Vm (Oq Veql (Oq Vpt (Oq Vm ?_)))
   refine Js 95 ?_ ?_
   ·intro h97
    have g98 := eq_of_beq h97
    refine Oq Vm (Oq Veql (Oq Vpt (Oq Va (KS ?_))))
    have hq := q4 hrr ((s.Targets.length : Int) == 2) (by simp only [r4_stmtOK, h12, h17, h22, h27, h29, h35, h44, h53, h64, h73, h84, h93, h95, h97, hg7, hg10, hg20, cs4]); subst hq
    exact Kr () rfl (.tmp rfl .nil) [] trivial
   intro h97
   have g99 := ne_of_beq_false h97
   refine Osk (Osk (Oq Vpf (Oq Va (KS ?_))))
   have hq := q4 hrr false (by simp only [r4_stmtOK, h12, h17, h22, h27, h29, h35, h44, h53, h64, h73, h84, h93, h95, h97, hg7, hg10, hg20, cs4]); subst hq
   exact Kr () rfl (.tmp rfl .nil) [] trivial
  intro h95
  have g100 := ne_of_beq_false h95
  refine Osk (Osk (Oq Vpf (Oq Vm (Osk (Osk (Oq Vpf (Oq Va (KS ?_))))))))
  have hq := q4 hrr false (by simp only [r4_stmtOK, h12, h17, h22, h27, h29, h35, h44, h53, h64, h73, h84, h93, h95, hg7, hg10, hg20, cs4]); subst hq
  exact Kr () rfl (.tmp rfl .nil) [] trivial
 intro h93
 have g101 := ne_of_beq_false h93
 refine KS ?_
 refine Oq Veql (Oq Va (KS ?_))
 refine Kc ?_ ?_
 ·intro h102
  have g103 := eq_of_beq h102
  refine KS ?_
  refine Oq (Vfa fo44_1 0) (Oq (VldF sh9 0) (Oq (VeqS (l := s.Def) (m := (Str.mk []))) (Oq Vm ?_)))
  refine Js 104 ?_ ?_
  ·intro h104
   have g105 := eq_of_beq h104
   refine Oq Vm (Oq Veql (Oq Vpt (Oq Vm ?_)))
   refine Js 108 ?_ ?_
   ·intro h106
    have g107 := eq_of_beq h106
    refine Oq Vm (Oq Veql (Oq Vpt (Oq Va (KS ?_))))
    have hq := q4 hrr ((s.Targets.length : Int) == 0) (by simp only [r4_stmtOK, h12, h17, h22, h27, h29, h35, h44, h53, h64, h73, h84, h93, h102, h104, h106, hg7, hg10, hg20, cs4]); subst hq
    exact Kr () rfl (.tmp rfl .nil) [] trivial
   intro h106
   have g108 := ne_of_beq_false h106
   refine Osk (Osk (Oq Vpf (Oq Va (KS ?_))))
   have hq := q4 hrr false (by simp only [r4_stmtOK, h12, h17, h22, h27, h29, h35, h44, h53, h64, h73, h84, h93, h102, h104, h106, hg7, hg10, hg20, cs4]); subst hq
   exact Kr () rfl (.tmp rfl .nil) [] trivial
  intro h104
  have g109 := ne_of_beq_false h104
  refine Osk (Osk (Oq Vpf (Oq Vm (Osk (Osk (Oq Vpf (Oq Va (KS ?_))))))))
  have hq := q4 hrr false (by simp only [r4_stmtOK, h12, h17, h22, h27, h29, h35, h44, h53, h64, h73, h84, h93, h102, h104, hg7, hg10, hg20, cs4]); subst hq
  exact Kr () rfl (.tmp rfl .nil) [] trivial
 intro h102
 have g110 := ne_of_beq_false h102
 refine KS ?_
 refine Oq Va (KS ?_)
 have hq := q4 hrr false (by simp only [r4_stmtOK, h12, h17, h22, h27, h29, h35, h44, h53, h64, h73, h84, h93, h102, hg7, hg10, hg20, cs4]); subst hq
 exact Kr () rfl (.tmp rfl .nil) [] trivial
theorem fn51 (p : GProgram) (pa0 : Option Addr) (pk0 : Nat) (rr : Bool) (hrr : r4_Valid p = rr) : FT Tryz.prog 51 #[.agg #[vl pa0 pk0 p.Funcs]] [S pa0 pk0 p.Funcs] (fun g : Unit => True) (fun g => vb rr) (fun g => []) := by
 refine FTi Tryz.func51 fun w0 M0 F0 => Fb 40 0 fun _ => ?_
 refine KS ?_
 refine Oa (Ab [vl pa0 pk0 p.Funcs]) fun p2 => Oq Va (KS ?_)
 refine Oq (Vfa fo25_0 0) (Oq (VldF sh23 0) (Oq (Vlen sl23) (Oq Vlss (Oq Vm ?_))))
 refine Js 12 ?_ ?_
 ·intro h3
  have g4 := dt h3
  refine Osk (Osk (Osk (Osk (Oq Vpt (KS ?_)))))
  refine Kt (KS ?_)
  refine Oq Va (KS ?_)
  have hq := q4 hrr false (by simp only [r4_Valid, h3, cs4]); subst hq
  exact Kr () rfl (.tmp rfl .nil) [] trivial
 intro h3
 have g5 := df h3
 refine Oq (Vfa fo25_0 0) (Oq (VldF sh23 0) (Oq (Vlen sl23) (Oq Vgtr (Oq Vpf (KS ?_)))))
 refine Kc ?_ ?_
 ·intro h6
  have g7 := dt h6
  refine KS ?_
  refine Oq Va (KS ?_)
  have hq := q4 hrr false (by simp only [r4_Valid, h3, h6, cs4]); subst hq
  exact Kr () rfl (.tmp rfl .nil) [] trivial
 intro h6
 have g8 := df h6
 refine KS ?_
 refine Oq Va (KS ?_)
 refine Kl (γ := Nat × Int) (fun (r9, i_10) => ⟨[(1, p2), (3, vi i_10)], [pv p2 [vl pa0 pk0 p.Funcs], S pa0 pk0 p.Funcs], r4_Valid_L0 p r9 i_10 = r4_Valid_L0 p (((p.Funcs.length : Int) - 0).toNat) 0 ∧ r9 = ((p.Funcs.length : Int) - i_10).toNat ∧ (0 : Int) ≤ i_10 ∧ i_10 ≤ (p.Funcs.length : Int) ∧ (-9223372036854775808 ≤ i_10 ∧ i_10 ≤ 9223372036854775807), r9⟩) (((p.Funcs.length : Int) - 0).toNat, 0) [0, 1] ⟨rfl, rfl, aM1, aM1, aM1⟩ ?_
 rintro ⟨r9, i_10⟩ ⟨hM11, hr12, hi13, hi14, hk15⟩
 refine JJ_nx fun _ _ hL hA => ?_; dsimp only at hL hA; subst hL hA
 refine Fb 40 1 fun _ => KS ?_
 refine Oq Vm (Oq (Vfa fo25_0 0) (Oq (VldF sh23 0) (Oq (Vlen sl23) (Oq Vlss (KS ?_)))))
 refine Kc ?_ ?_
 ·intro h17
  have g18 := dt h17
  obtain ⟨r19, rfl⟩ := scc (n := r9) aM1
  refine KS ?_
  refine Oq (Vfa fo25_0 0) (Oq (VldF sh23 0) (Oq Vm (Oq (Vi sl23 1) ?_)))
  refine JJ_peek_GFunc i_10.toNat 1 rfl rng fun a20 k21 hb22 => ?_
  refine Fb 40 1 fun _ => ?_
  refine Oq (VldA sh39 0) (Oa (Al ze39 [.string (bs (Str.mk [])), .slice none 0 0]) fun p24 => Ost (Scl [0] sh39 [.string (bs ((p.Funcs.getD i_10.toNat default).Name)), vl a20 k21 ((p.Funcs.getD i_10.toNat default).Blocks)]) (KS ?_))
  refine Oq (Vfa fo39_0 0) (Oq (VldF sh9 0) ?_)
  refine letv (r4_IsName ((p.Funcs.getD i_10.toNat default).Name)) fun rv25 hg26 => ?_
  have hc27 := fn94 ((p.Funcs.getD i_10.toNat default).Name) pre rv25 hg26
  refine Oc [] ca94 hc27 ?_
  rintro - -
  refine Oq Vnot (Oq Vm ?_)
  refine Js 34 ?_ ?_
  ·intro h28
   have h30 := not_true h28
   refine Osk (Osk (Osk (Osk (Oq Vpt (Oq Vm (Osk (Osk (Osk (Osk ?_)))))))))
   refine Oq Vpt (KS ?_)
   refine Kt (KS ?_)
   refine Oq Va (KS ?_)
   have hR32 := q2 hM11 (.ret false) (by simp only [r4_Valid_L0, h17, h28, h30, hg26, cs4])
   have hq := q4 hrr false (by simp only [r4_Valid, h3, h6, h17, h28, h30, hg26, hR32, cs4]); subst hq
   exact Kr () rfl (.tmp rfl .nil) [] trivial
  intro h28
  have h34 := not_false h28
  refine Oq (Vfa fo39_1 0) (Oq (VldF sh37 0) (Oq (Vlen sl37) (Oq Vlss (Oq Vpf (Oq Vm ?_)))))
  refine Js 40 ?_ ?_
  ·intro h36
   have g37 := dt h36
   refine Osk (Osk (Osk (Osk (Oq Vpt (KS ?_)))))
   refine Kt (KS ?_)
   refine Oq Va (KS ?_)
   have hR38 := q2 hM11 (.ret false) (by simp only [r4_Valid_L0, h17, h28, h34, h36, hg26, cs4])
   have hq := q4 hrr false (by simp only [r4_Valid, h3, h6, h17, h28, h34, h36, hg26, hR38, cs4]); subst hq
   exact Kr () rfl (.tmp rfl .nil) [] trivial
  intro h36
  have g39 := df h36
  refine Oq (Vfa fo39_1 0) (Oq (VldF sh37 0) (Oq (Vlen sl37) (Oq Vgtr (Oq Vpf (KS ?_)))))
  refine Kc ?_ ?_
  ·intro h40
   have g41 := dt h40
   refine KS ?_
   refine Oq Va (KS ?_)
   have hR42 := q2 hM11 (.ret false) (by simp only [r4_Valid_L0, h17, h28, h34, h36, h40, hg26, cs4])
   have hq := q4 hrr false (by simp only [r4_Valid, h3, h6, h17, h28, h34, h36, h40, hg26, hR42, cs4]); subst hq
   exact Kr () rfl (.tmp rfl .nil) [] trivial
  intro h40
  have g43 := df h40
  refine KS ?_
  refine Oq Va (KS ?_)
  refine Kl (γ := Nat × Int) (fun (r44, k_45) => ⟨[(1, p2), (3, vi i_10), (4, p24), (5, vi k_45)], [Cl p24 [.string (bs ((p.Funcs.getD i_10.toNat default).Name)), vl a20 k21 ((p.Funcs.getD i_10.toNat default).Blocks)], S a20 k21 ((p.Funcs.getD i_10.toNat default).Blocks), pv p2 [vl pa0 pk0 p.Funcs], S pa0 pk0 p.Funcs], r4_Valid_L1 ((p.Funcs.getD i_10.toNat default).Blocks) r44 k_45 = r4_Valid_L1 ((p.Funcs.getD i_10.toNat default).Blocks) ((((((p.Funcs.getD i_10.toNat default).Blocks).length : Int) : Int) - 0).toNat) 0 ∧ r44 = (((((p.Funcs.getD i_10.toNat default).Blocks).length : Int) : Int) - k_45).toNat ∧ (0 : Int) ≤ k_45 ∧ (k_45 ≤ (((p.Funcs.getD i_10.toNat default).Blocks).length : Int) ∨ k_45 = 0) ∧ (-9223372036854775808 ≤ k_45 ∧ k_45 ≤ 9223372036854775807), r44⟩) ((((((p.Funcs.getD i_10.toNat default).Blocks).length : Int) : Int) - 0).toNat, 0) [0, 1, 2, 3] ⟨rfl, rfl, aM1, (.inr rfl), aM1⟩ ?_
  rintro ⟨r44, k_45⟩ ⟨hM46, hr47, hi48, hi49, hk50⟩
  refine JJ_nx fun _ _ hL hA => ?_; dsimp only at hL hA; subst hL hA
  refine Fb 40 1 fun _ => Fb 40 3 fun _ => KS ?_
  refine Oq Vm (Oq (Vfa fo39_1 0) (Oq (VldF sh37 0) (Oq (Vlen sl37) (Oq Vlss (KS ?_)))))
  refine Kc ?_ ?_
  ·intro h53
   have g54 := dt h53
   obtain ⟨r55, rfl⟩ := scc (n := r44) aM1
   refine KS ?_
   refine Oq (Vfa fo39_1 0) (Oq (VldF sh37 0) (Oq Vm (Oq (Vi sl37 1) ?_)))
   refine JJ_peek_GBlock k_45.toNat 1 rfl rng fun a56 k57 hb58 => ?_
   refine Fb 72 1 fun _ => ?_
   refine Oq (VldA sh42 0) (Oa (Al ze42 [.string (bs (Str.mk [])), .slice none 0 0]) fun p60 => Ost (Scl [0] sh42 [.string (bs ((((p.Funcs.getD i_10.toNat default).Blocks).getD k_45.toNat default).Name)), .slice a56 (((((p.Funcs.getD i_10.toNat default).Blocks).getD k_45.toNat default).Stmts).length) k57]) (KS ?_))
   refine Oq (Vfa fo42_0 0) (Oq (VldF sh9 0) ?_)
   refine letv (r4_IsName ((((p.Funcs.getD i_10.toNat default).Blocks).getD k_45.toNat default).Name)) fun rv61 hg62 => ?_
   have hc63 := fn94 ((((p.Funcs.getD i_10.toNat default).Blocks).getD k_45.toNat default).Name) pre rv61 hg62
   refine Oc [] ca94 hc63 ?_
   rintro - -
   refine Oq Vnot (Oq Vm ?_)
   refine Js 62 ?_ ?_
   ·intro h64
    have h66 := not_true h64
    refine Osk (Osk (Osk (Osk (Oq Vpt (Oq Vm (Osk (Osk (Osk (Osk ?_)))))))))
    refine Oq Vpt (KS ?_)
    refine Kt (KS ?_)
    refine Oq Va (KS ?_)
    have hR68 := q2 hM46 (.ret false) (by simp only [r4_Valid_L1, h53, h64, h66, hg62, cs4])
    have hR69 := q2 hM11 (.ret false) (by simp only [r4_Valid_L0, h17, h28, h34, h36, h40, h53, h64, h66, hg26, hg62, hR68, cs4])
    have hq := q4 hrr false (by simp only [r4_Valid, h3, h6, h17, h28, h34, h36, h40, h53, h64, h66, hg26, hg62, hR68, hR69, cs4]); subst hq
    exact Kr () rfl (.tmp rfl .nil) [] trivial
   intro h64
   have h71 := not_false h64
   refine Oq (Vfa fo42_1 0) (Oq (VldF sh40 0) (Oq (Vlen sl40) (Oq Vlss (Oq Vpf (Oq Vm ?_)))))
   refine Js 68 ?_ ?_
   ·intro h73
    have g74 := dt h73
    refine Osk (Osk (Osk (Osk (Oq Vpt (KS ?_)))))
    refine Kt (KS ?_)
    refine Oq Va (KS ?_)
    have hR75 := q2 hM46 (.ret false) (by simp only [r4_Valid_L1, h53, h64, h71, h73, hg62, cs4])
    have hR76 := q2 hM11 (.ret false) (by simp only [r4_Valid_L0, h17, h28, h34, h36, h40, h53, h64, h71, h73, hg26, hg62, hR75, cs4])
    have hq := q4 hrr false (by simp only [r4_Valid, h3, h6, h17, h28, h34, h36, h40, h53, h64, h71, h73, hg26, hg62, hR75, hR76, cs4]); subst hq
    exact Kr () rfl (.tmp rfl .nil) [] trivial
   intro h73
   have g77 := df h73
   refine Oq (Vfa fo42_1 0) (Oq (VldF sh40 0) (Oq (Vlen sl40) (Oq Vgtr (Oq Vpf (KS ?_)))))
   refine Kc ?_ ?_
   ·intro h78
    have g79 := dt h78
    refine KS ?_
    refine Oq Va (KS ?_)
    have hR80 := q2 hM46 (.ret false) (by simp only [r4_Valid_L1, h53, h64, h71, h73, h78, hg62, cs4])
    have hR81 := q2 hM11 (.ret false) (by simp only [r4_Valid_L0, h17, h28, h34, h36, h40, h53, h64, h71, h73, h78, hg26, hg62, hR80, cs4])
    have hq := q4 hrr false (by simp only [r4_Valid, h3, h6, h17, h28, h34, h36, h40, h53, h64, h71, h73, h78, hg26, hg62, hR80, hR81, cs4]); subst hq
    exact Kr () rfl (.tmp rfl .nil) [] trivial
   intro h78
   have g82 := df h78
   refine KS ?_
   refine Oq Va (KS ?_)
   refine Kl (γ := Nat × Int) (fun (r83, j_84) => ⟨[(1, p2), (3, vi i_10), (4, p24), (5, vi k_45), (6, p60), (7, vi j_84)], [Cl p60 [.string (bs ((((p.Funcs.getD i_10.toNat default).Blocks).getD k_45.toNat default).Name)), .slice a56 (((((p.Funcs.getD i_10.toNat default).Blocks).getD k_45.toNat default).Stmts).length) k57], S a56 k57 ((((p.Funcs.getD i_10.toNat default).Blocks).getD k_45.toNat default).Stmts), Cl p24 [.string (bs ((p.Funcs.getD i_10.toNat default).Name)), vl a20 k21 ((p.Funcs.getD i_10.toNat default).Blocks)], S a20 k21 ((p.Funcs.getD i_10.toNat default).Blocks), pv p2 [vl pa0 pk0 p.Funcs], S pa0 pk0 p.Funcs], r4_Valid_L2 ((((p.Funcs.getD i_10.toNat default).Blocks).getD k_45.toNat default).Stmts) r83 j_84 = r4_Valid_L2 ((((p.Funcs.getD i_10.toNat default).Blocks).getD k_45.toNat default).Stmts) ((((((((p.Funcs.getD i_10.toNat default).Blocks).getD k_45.toNat default).Stmts).length : Int) : Int) - 0).toNat) 0 ∧ r83 = (((((((p.Funcs.getD i_10.toNat default).Blocks).getD k_45.toNat default).Stmts).length : Int) : Int) - j_84).toNat ∧ (0 : Int) ≤ j_84 ∧ (j_84 ≤ (((((p.Funcs.getD i_10.toNat default).Blocks).getD k_45.toNat default).Stmts).length : Int) ∨ j_84 = 0) ∧ (-9223372036854775808 ≤ j_84 ∧ j_84 ≤ 9223372036854775807), r83⟩) ((((((((p.Funcs.getD i_10.toNat default).Blocks).getD k_45.toNat default).Stmts).length : Int) : Int) - 0).toNat, 0) [0, 1, 2, 2, 3, 4] ⟨rfl, rfl, aM1, (.inr rfl), aM1⟩ ?_
   rintro ⟨r83, j_84⟩ ⟨hM85, hr86, hi87, hi88, hk89⟩
   refine JJ_nx fun _ _ hL hA => ?_; dsimp only at hL hA; subst hL hA
   refine Fb 72 1 fun _ => Fb 40 3 fun _ => Fb 40 5 fun _ => KS ?_
   refine Oq Vm (Oq (Vfa fo42_1 0) (Oq (VldF sh40 0) (Oq (Vlen sl40) (Oq Vlss (KS ?_)))))
   refine Kc ?_ ?_
   ·intro h93
    have g94 := dt h93
    obtain ⟨r95, rfl⟩ := scc (n := r83) aM1
    refine KS ?_
    refine Oq (Vfa fo42_1 0) (Oq (VldF sh40 0) (Oq Vm (Oq (Vi sl40 1) ?_)))
    refine JJ_peek_GStmt j_84.toNat 1 rfl rng fun a96 k97 a98 k99 hb100 hb101 => ?_
    unfold i64ok at hb100
    refine Fb 16 1 fun _ => ?_
    refine FoS 1 fun ho103 => ?_
    refine Fb 16 2 fun _ => ?_
    refine FoS 2 fun ho105 => ?_
    refine Oq (VldA sh44 0) ?_
    refine letv (r4_stmtOK (((((p.Funcs.getD i_10.toNat default).Blocks).getD k_45.toNat default).Stmts).getD j_84.toNat default)) fun rv106 hg107 => ?_
    have hc108 := fn95 ((((((p.Funcs.getD i_10.toNat default).Blocks).getD k_45.toNat default).Stmts).getD j_84.toNat default)) a96 k97 a98 k99 pre pre rv106 hg107
    refine Oc [1, 2] ca95 hc108 ?_
    rintro - -
    refine Oq Vnot (KS ?_)
    refine Kc ?_ ?_
    ·intro h109
     have h111 := not_true h109
     refine KS ?_
     refine Oq Va (KS ?_)
     have hR113 := q2 hM85 (.ret false) (by simp only [r4_Valid_L2, h93, h109, h111, hg107, cs4])
     have hR114 := q2 hM46 (.ret false) (by simp only [r4_Valid_L1, h53, h64, h71, h73, h78, h93, h109, h111, hg62, hg107, hR113, cs4])
     have hR115 := q2 hM11 (.ret false) (by simp only [r4_Valid_L0, h17, h28, h34, h36, h40, h53, h64, h71, h73, h78, h93, h109, h111, hg26, hg62, hg107, hR113, hR114, cs4])
     have hq := q4 hrr false (by simp only [r4_Valid, h3, h6, h17, h28, h34, h36, h40, h53, h64, h71, h73, h78, h93, h109, h111, hg26, hg62, hg107, hR113, hR114, hR115, cs4]); subst hq
     exact Kr () rfl (.tmp rfl .nil) [] trivial
    intro h109
    have h117 := not_false h109
    refine KS ?_
    refine Oq Vm (Oq Vadd (Oq Va (KS ?_)))
    exact Kg (r95, (j_84 + 1)) [3, 3, 4, 4, 5, 6] ⟨(q3 hM85 (by simp only [r4_Valid_L2, h93, h109, h117, hg107, cs4])), aM1, aM1, aM1, aM1⟩
   intro h93
   have g119 := df h93
   obtain rfl : r83 = 0 := by omega
   refine Ke ?_
   have hR120 := q2 hM85 (.brk ()) (by simp only [r4_Valid_L2, h93, cs4])
   refine KS ?_
   refine Oq Vm (Oq Vadd (Oq Va (KS ?_)))
   exact Kg (r55, (k_45 + 1)) [2, 2, 3, 4] ⟨(q3 hM46 (by simp only [r4_Valid_L1, h53, h64, h71, h73, h78, h93, hg62, hR120, cs4])), aM1, aM1, aM1, aM1⟩
  intro h53
  have g121 := df h53
  obtain rfl : r44 = 0 := by omega
  refine Ke ?_
  have hR122 := q2 hM46 (.brk ()) (by simp only [r4_Valid_L1, h53, cs4])
  refine KS ?_
  refine Oq Vm (Oq Vadd (Oq Va (KS ?_)))
  exact Kg (r19, (i_10 + 1)) [2, 3] ⟨(q3 hM11 (by simp only [r4_Valid_L0, h17, h28, h34, h36, h40, h53, hg26, hR122, cs4])), aM1, aM1, aM1, aM1⟩
 intro h17
 have g123 := df h17
 obtain rfl : r9 = 0 := by omega
 refine Ke ?_
 have hR124 := q2 hM11 (.brk ()) (by simp only [r4_Valid_L0, h17, cs4])
 refine KS ?_
 refine Oq Va (KS ?_)
 have hq := q4 hrr true (by simp only [r4_Valid, h3, h6, h17, hR124, cs4]); subst hq
 exact Kr () rfl (.tmp rfl .nil) [] trivial
theorem fn61 (l : List Str) (la0 : Option Addr) (lk0 : Nat) (s : Str) (hs_0 : s.b.length ≤ 140737488355328) (rr : Int) (hrr : r4_Place l s = rr) : FT Tryz.prog 61 #[vl la0 lk0 l, .string (bs s)] [S la0 lk0 l] (fun g : Unit => i64ok rr) (fun g => vi rr) (fun g => []) := by
 refine FTi Tryz.func61 fun w0 M0 F0 => Fb 16 0 fun _ => ?_
 refine FoS 0 fun ho2 => ?_
 refine KS ?_
 refine Oq Va (KS ?_)
 refine Oq Va (KS ?_)
 refine Kl (γ := Nat × Int) (fun (r3, i_4) => ⟨[(0, vl la0 lk0 l), (1, .string (bs s)), (5, vi i_4)], [S la0 lk0 l], r4_Place_L0 l s r3 i_4 = r4_Place_L0 l s (((l.length : Int) - 0).toNat) 0 ∧ r3 = ((l.length : Int) - i_4).toNat ∧ (0 : Int) ≤ i_4 ∧ i_4 ≤ (l.length : Int) ∧ (-9223372036854775808 ≤ i_4 ∧ i_4 ≤ 9223372036854775807), r3⟩) (((l.length : Int) - 0).toNat, 0) [0] ⟨rfl, rfl, aM1, aM1, aM1⟩ ?_
 rintro ⟨r3, i_4⟩ ⟨hM5, hr6, hi7, hi8, hk9⟩
 refine JJ_nx fun _ _ hL hA => ?_; dsimp only at hL hA; subst hL hA
 refine Fb 16 0 fun _ => ?_
 refine FoS 0 fun ho11 => ?_
 refine KS ?_
 refine Oq Vm (Oq Vm (Oq (Vlen sl36) (Oq Vlss (KS ?_))))
 refine Kc ?_ ?_
 ·intro h12
  have g13 := dt h12
  obtain ⟨r14, rfl⟩ := scc (n := r3) aM1
  refine KS ?_
  refine Oq Vm (Oq Vm (Oq (Vi sl36 0) ?_))
  have hb15 := okS (i := i_4.toNat) ho11 rng
  refine Oq (VldS sh9 0) (Oq Vm (Oq (VeqS (l := (l.getD i_4.toNat default)) (m := s)) (KS ?_)))
  refine Kc ?_ ?_
  ·intro h16
   have g17 := eq_of_beq h16
   refine KS ?_
   refine Oq Vm (Oq Va (KS ?_))
   have hR18 := q2 hM5 (.ret i_4) (by simp only [r4_Place_L0, h12, h16, cs4])
   have hq := q4 hrr i_4 (by simp only [r4_Place, h12, h16, hR18, cs4]); subst hq
   exact Kr () rfl (.tmp rfl .nil) [] en
  intro h16
  have g19 := ne_of_beq_false h16
  refine KS ?_
  refine Oq Vm (Oq Vadd (Oq Va (KS ?_)))
  exact Kg (r14, (i_4 + 1)) [0] ⟨(q3 hM5 (by simp only [r4_Place_L0, h12, h16, cs4])), aM1, aM1, aM1, aM1⟩
 intro h12
 have g20 := df h12
 obtain rfl : r3 = 0 := by omega
 refine Ke ?_
 have hR21 := q2 hM5 (.brk ()) (by simp only [r4_Place_L0, h12, cs4])
 refine KS ?_
 refine Oq Va (KS ?_)
 have hq := q4 hrr (-1) (by simp only [r4_Place, h12, hR21, cs4]); subst hq
 exact Kr () rfl (.tmp rfl .nil) [] en
theorem fn52 (l : List Str) (la0 : Option Addr) (lk0 : Nat) (rr : Int) (hrr : r4_repeated l = rr) : FT Tryz.prog 52 #[vl la0 lk0 l] [S la0 lk0 l] (fun g : Unit => i64ok rr) (fun g => vi rr) (fun g => []) := by
 refine FTi Tryz.func52 fun w0 M0 F0 => Fb 16 0 fun _ => ?_
 refine FoS 0 fun ho2 => ?_
 refine KS ?_
 refine Oq Va (KS ?_)
 refine Oq Va (KS ?_)
 refine Kl (γ := Nat × Int) (fun (r3, i_4) => ⟨[(0, vl la0 lk0 l), (3, vi i_4)], [S la0 lk0 l], r4_repeated_L0 l r3 i_4 = r4_repeated_L0 l (((l.length : Int) - 0).toNat) 0 ∧ r3 = ((l.length : Int) - i_4).toNat ∧ (0 : Int) ≤ i_4 ∧ i_4 ≤ (l.length : Int) ∧ (-9223372036854775808 ≤ i_4 ∧ i_4 ≤ 9223372036854775807), r3⟩) (((l.length : Int) - 0).toNat, 0) [0] ⟨rfl, rfl, aM1, aM1, aM1⟩ ?_
 rintro ⟨r3, i_4⟩ ⟨hM5, hr6, hi7, hi8, hk9⟩
 refine JJ_nx fun _ _ hL hA => ?_; dsimp only at hL hA; subst hL hA
 refine Fb 16 0 fun _ => ?_
 refine FoS 0 fun ho11 => ?_
 refine KS ?_
 refine Oq Vm (Oq Vm (Oq (Vlen sl36) (Oq Vlss (KS ?_))))
 refine Kc ?_ ?_
 ·intro h12
  have g13 := dt h12
  obtain ⟨r14, rfl⟩ := scc (n := r3) aM1
  refine KS ?_
  refine JK_drawK [0, 0, 3, 0, 0, 24, 56, 127, 255] fmix ?_
  refine Dv [] Vm (Dv [] Vm (Dx [0] [] [1, 0] (fun G => (G.g 2 0)) [fun G => sl (G.g 2 0) ((l.take (i_4.toNat)).drop 0)] (fun G => xA (Asl [0] sl36 0 (i_4.toNat))) (Dv [] Vm (Dv [] Vm (Dv [0] (Vi sl36 0) ?_)))))
  have hb16 := okS (i := i_4.toNat) ho11 rng
  refine Dv [0] (VldS sh9 0) ?_
  refine letv (r4_Place ((l.take (i_4.toNat)).drop 0) (l.getD i_4.toNat default)) fun rv20 hg21 => ?_
  refine Dx [1] [] [1, 0] (fun G => vi rv20) [fun G => SP.fact (i64ok rv20)] (fun G => xD [0] ca61 rfl rfl rfl (FT_open (γ := Unit) (I := fun g => i64ok rv20) (V := fun g => vi rv20) (B := fun g => []) (R := sl (G.g 2 0) ((l.take (i_4.toNat)).drop 0)) sl_slice (fun aq17 kq18 eq19 => by rw [eq19]; exact FT_ent (Ent.take (is := [0]) rfl) (fn61 (((l.take (i_4.toNat)).drop 0)) aq17 kq18 ((l.getD i_4.toNat default)) pre rv20 hg21)))) (Dv [] Vgeq ?_)
  refine Dn ⟨by kernel_rfl, fun G => ?_⟩
  refine Jw2 [(0, vl la0 lk0 l), (3, vi i_4), (18, vb (decide (0 ≤ rv20)))] [0] [sl (G.g 2 0) ((l.take (i_4.toNat)).drop 0), SP.fact (i64ok rv20)] ?_
  generalize G.g 2 0 = c15
  refine Jf 2 rfl ?_; rintro he22
  unfold i64ok at he22
  refine Jk [0, 1] ?_
  refine Jo 1 ?_; rintro a23 k24 rfl
  refine Fb 16 1 fun _ => ?_
  refine FoS 1 fun ho26 => ?_
  refine Kc ?_ ?_
  ·intro h27
   have g28 := dt h27
   refine KS ?_
   refine Oq Vm (Oq Va (KS ?_))
   have hR29 := q2 hM5 (.ret i_4) (by simp only [r4_repeated_L0, h12, h27, hg21, cs4])
   have hq := q4 hrr i_4 (by simp only [r4_repeated, h12, h27, hg21, hR29, cs4]); subst hq
   exact Kr () rfl (.tmp rfl .nil) [] en
  intro h27
  have g30 := df h27
  refine KS ?_
  refine Oq Vm (Oq Vadd (Oq Va (KS ?_)))
  exact Kg (r14, (i_4 + 1)) [0] ⟨(q3 hM5 (by simp only [r4_repeated_L0, h12, h27, hg21, cs4])), aM1, aM1, aM1, aM1⟩
 intro h12
 have g31 := df h12
 obtain rfl : r3 = 0 := by omega
 refine Ke ?_
 have hR32 := q2 hM5 (.brk ()) (by simp only [r4_repeated_L0, h12, cs4])
 refine KS ?_
 refine Oq Va (KS ?_)
 have hq := q4 hrr (-1) (by simp only [r4_repeated, h12, hR32, cs4]); subst hq
 exact Kr () rfl (.tmp rfl .nil) [] en
theorem fn53 (p : GProgram) (pa0 : Option Addr) (pk0 : Nat) (rr : List Str) (hrr : r4_funcNames p = rr) : FT Tryz.prog 53 #[.agg #[vl pa0 pk0 p.Funcs]] [S pa0 pk0 p.Funcs] (fun g : Value => True) (fun g => g) (fun g => [sl g rr]) := by
 refine FTi Tryz.func53 fun w0 M0 F0 => Fb 40 0 fun _ => ?_
 refine KS ?_
 refine Oa (Ab [vl pa0 pk0 p.Funcs]) fun p2 => Oq Va (KS ?_)
 refine Oq Va (KS ?_)
 refine Oq Va (KS ?_)
 refine Jl [] (Ent.osNil (α := Str)) ?_
 refine Kl (γ := Nat × List Str × Int × Option Addr × Nat) (fun (r3, out_4, i_5, a6, k7) => ⟨[(1, p2), (3, vl a6 k7 out_4), (4, vi i_5)], [O a6 k7 out_4, pv p2 [vl pa0 pk0 p.Funcs], S pa0 pk0 p.Funcs], r4_funcNames_L0 p r3 out_4 i_5 = r4_funcNames_L0 p (((p.Funcs.length : Int) - 0).toNat) [] 0 ∧ r3 = ((p.Funcs.length : Int) - i_5).toNat ∧ (0 : Int) ≤ i_5 ∧ i_5 ≤ (p.Funcs.length : Int) ∧ (-9223372036854775808 ≤ i_5 ∧ i_5 ≤ 9223372036854775807) ∧ ((out_4.length : Int) ≤ i_5), r3⟩) (((p.Funcs.length : Int) - 0).toNat, [], 0, none, 0) [0, 0, 1] ⟨rfl, rfl, aM1, aM1, aM1, iv0⟩ ?_
 rintro ⟨r3, out_4, i_5, a6, k7⟩ ⟨hM8, hr9, hi10, hi11, hk12, hv13⟩
 refine JJ_nx fun _ _ hL hA => ?_; dsimp only at hL hA; subst hL hA
 refine Fb 16 0 fun _ => ?_
 refine FoS 0 fun ho15 => ?_
 refine Fb 40 2 fun _ => KS ?_
 refine Oq Vm (Oq (Vfa fo25_0 1) (Oq (VldF sh23 1) (Oq (Vlen sl23) (Oq Vlss (KS ?_)))))
 refine Kc ?_ ?_
 ·intro h17
  have g18 := dt h17
  obtain ⟨r19, rfl⟩ := scc (n := r3) aM1
  refine KS ?_
  refine Oq Vm (Oq (Vfa fo25_0 1) (Oq (VldF sh23 1) (Oq Vm (Oq (Vi sl23 2) ?_))))
  refine JJ_peek_GFunc i_5.toNat 2 rfl rng fun a20 k21 hb22 => ?_
  refine Fb 40 1 fun _ => ?_
  refine Oq (Vfa fo39_0 0) (Oq (VldF sh9 0) (Oa (AsV sl36 sz36 [.string (bs ((p.Funcs.getD i_5.toNat default).Name))] [.string (bs ((p.Funcs.getD i_5.toNat default).Name))]) fun c24 => ?_))
  refine Jo 0 ?_; rintro a25 k26 rfl
  refine Jl [0] (Ent.cr1 (α := Str) (A := []) _ ((p.Funcs.getD i_5.toNat default).Name) _ aB1 (fun _ => ⟨rfl, aS1⟩)) ?_
  refine Oa (ApO [3, 0] sl36 sl36 sz36) fun c27 => ?_
  refine Jo 0 ?_; rintro a28 k29 rfl
  refine Fb 16 0 fun _ => ?_
  refine FoS 0 fun ho31 => ?_
  have hn32 := la out_4 ([(p.Funcs.getD i_5.toNat default).Name] : List Str)
  refine Oq Va (KS ?_)
  refine Oq Vm (Oq Vadd (Oq Va (KS ?_)))
  exact Kg (r19, (out_4 ++ [(p.Funcs.getD i_5.toNat default).Name]), (i_5 + 1), a28, k29) [0, 2, 3] ⟨(q3 hM8 (by simp only [r4_funcNames_L0, h17, cs4])), aM1, aM1, aM1, aM1, iv1⟩
 intro h17
 have g33 := df h17
 obtain rfl : r3 = 0 := by omega
 refine Ke ?_
 have hR34 := q2 hM8 out_4 (by simp only [r4_funcNames_L0, h17, cs4])
 refine KS ?_
 refine Oq Vm (Oq Va (KS ?_))
 refine Jl [0] (Ent.freeze _ _) ?_
 have hq := q4 hrr out_4 (by simp only [r4_funcNames, h17, hR34, cs4]); subst hq
 exact Kr (vl a6 k7 out_4) rfl (.tmp rfl .nil) [0] trivial
theorem fn54 (f : GFunc) (fa1 : Option Addr) (fk1 : Nat) (hf_0 : f.Name.b.length ≤ 140737488355328) (rr : List Str) (hrr : r4_BlockNames f = rr) : FT Tryz.prog 54 #[.agg #[.string (bs f.Name), vl fa1 fk1 f.Blocks]] [S fa1 fk1 f.Blocks] (fun g : Value => True) (fun g => g) (fun g => [sl g rr]) := by
 refine FTi Tryz.func54 fun w0 M0 F0 => Fb 40 0 fun _ => ?_
 refine KS ?_
 refine Oa (Ab [.string (bs f.Name), vl fa1 fk1 f.Blocks]) fun p2 => Oq Va (KS ?_)
 refine Oq Va (KS ?_)
 refine Oq Va (KS ?_)
 refine Jl [] (Ent.osNil (α := Str)) ?_
 refine Kl (γ := Nat × List Str × Int × Option Addr × Nat) (fun (r3, out_4, k_5, a6, k7) => ⟨[(1, p2), (3, vl a6 k7 out_4), (4, vi k_5)], [O a6 k7 out_4, pv p2 [.string (bs f.Name), vl fa1 fk1 f.Blocks], S fa1 fk1 f.Blocks], r4_BlockNames_L0 f r3 out_4 k_5 = r4_BlockNames_L0 f (((f.Blocks.length : Int) - 0).toNat) [] 0 ∧ r3 = ((f.Blocks.length : Int) - k_5).toNat ∧ (0 : Int) ≤ k_5 ∧ k_5 ≤ (f.Blocks.length : Int) ∧ (-9223372036854775808 ≤ k_5 ∧ k_5 ≤ 9223372036854775807) ∧ ((out_4.length : Int) ≤ k_5), r3⟩) (((f.Blocks.length : Int) - 0).toNat, [], 0, none, 0) [0, 0, 1] ⟨rfl, rfl, aM1, aM1, aM1, iv0⟩ ?_
 rintro ⟨r3, out_4, k_5, a6, k7⟩ ⟨hM8, hr9, hi10, hi11, hk12, hv13⟩
 refine JJ_nx fun _ _ hL hA => ?_; dsimp only at hL hA; subst hL hA
 refine Fb 16 0 fun _ => ?_
 refine FoS 0 fun ho15 => ?_
 refine Fb 40 2 fun _ => KS ?_
 refine Oq Vm (Oq (Vfa fo39_1 1) (Oq (VldF sh37 1) (Oq (Vlen sl37) (Oq Vlss (KS ?_)))))
 refine Kc ?_ ?_
 ·intro h17
  have g18 := dt h17
  obtain ⟨r19, rfl⟩ := scc (n := r3) aM1
  refine KS ?_
  refine Oq Vm (Oq (Vfa fo39_1 1) (Oq (VldF sh37 1) (Oq Vm (Oq (Vi sl37 2) ?_))))
  refine JJ_peek_GBlock k_5.toNat 2 rfl rng fun a20 k21 hb22 => ?_
  refine Fb 72 1 fun _ => ?_
  refine Oq (Vfa fo42_0 0) (Oq (VldF sh9 0) (Oa (AsV sl36 sz36 [.string (bs ((f.Blocks.getD k_5.toNat default).Name))] [.string (bs ((f.Blocks.getD k_5.toNat default).Name))]) fun c24 => ?_))
  refine Jo 0 ?_; rintro a25 k26 rfl
  refine Jl [0] (Ent.cr1 (α := Str) (A := []) _ ((f.Blocks.getD k_5.toNat default).Name) _ aB1 (fun _ => ⟨rfl, aS1⟩)) ?_
  refine Oa (ApO [3, 0] sl36 sl36 sz36) fun c27 => ?_
  refine Jo 0 ?_; rintro a28 k29 rfl
  refine Fb 16 0 fun _ => ?_
  refine FoS 0 fun ho31 => ?_
  have hn32 := la out_4 ([(f.Blocks.getD k_5.toNat default).Name] : List Str)
  refine Oq Va (KS ?_)
  refine Oq Vm (Oq Vadd (Oq Va (KS ?_)))
  exact Kg (r19, (out_4 ++ [(f.Blocks.getD k_5.toNat default).Name]), (k_5 + 1), a28, k29) [0, 2, 3] ⟨(q3 hM8 (by simp only [r4_BlockNames_L0, h17, cs4])), aM1, aM1, aM1, aM1, iv1⟩
 intro h17
 have g33 := df h17
 obtain rfl : r3 = 0 := by omega
 refine Ke ?_
 have hR34 := q2 hM8 out_4 (by simp only [r4_BlockNames_L0, h17, cs4])
 refine KS ?_
 refine Oq Vm (Oq Va (KS ?_))
 refine Jl [0] (Ent.freeze _ _) ?_
 have hq := q4 hrr out_4 (by simp only [r4_BlockNames, h17, hR34, cs4]); subst hq
 exact Kr (vl a6 k7 out_4) rfl (.tmp rfl .nil) [0] trivial
theorem fn96 (op : Int) (hop_0 : i64ok op) (rr : Bool) (hrr : r4_Terminator op = rr) : FT Tryz.prog 96 #[vi op] [] (fun g : Unit => True) (fun g => vb rr) (fun g => []) := by
 refine FTi Tryz.func96 fun w0 M0 F0 => ?_
 unfold i64ok at hop_0
 refine KS ?_
 refine Oq Va (KS ?_)
 refine Oq Vm (Oq Veql (Oq Vm ?_))
 refine Js 5 ?_ ?_
 ·intro h1
  have g2 := eq_of_beq h1
  refine Osk (Osk (Oq Vpt (Oq Vm (Osk (Osk (Oq Vpt (Oq Va (KS ?_))))))))
  have hq := q4 hrr true (by simp only [r4_Terminator, h1, cs4]); subst hq
  exact Kr () rfl (.tmp rfl .nil) [] trivial
 intro h1
 have g3 := ne_of_beq_false h1
 refine Oq Vm (Oq Veql (Oq Vpf (Oq Vm ?_)))
 refine Js 9 ?_ ?_
 ·intro h4
  have g5 := eq_of_beq h4
  refine Osk (Osk (Oq Vpt (Oq Va (KS ?_))))
  have hq := q4 hrr true (by simp only [r4_Terminator, h1, h4, cs4]); subst hq
  exact Kr () rfl (.tmp rfl .nil) [] trivial
 intro h4
 have g6 := ne_of_beq_false h4
 refine Oq Vm (Oq Veql (Oq Vpf (Oq Va (KS ?_))))
 have hq := q4 hrr (op == 9) (by simp only [r4_Terminator, h1, h4, cs4]); subst hq
 exact Kr () rfl (.tmp rfl .nil) [] trivial
theorem fn55 (p : GProgram) (pa0 : Option Addr) (pk0 : Nat) (f : GFunc) (fa1 : Option Addr) (fk1 : Nat) (s : GStmt) (sa2 : Option Addr) (sk2 : Nat) (sa3 : Option Addr) (sk3 : Nat) (last : Bool) (hf_0 : f.Name.b.length ≤ 140737488355328) (hs_0 : i64ok s.Op) (hs_1 : s.Def.b.length ≤ 140737488355328) (rr : Int) (hrr : r4_stmtErr p f s last = rr) : FT Tryz.prog 55 #[.agg #[vl pa0 pk0 p.Funcs], .agg #[.string (bs f.Name), vl fa1 fk1 f.Blocks], .agg #[vi s.Op, .string (bs s.Def), vl sa2 sk2 s.Uses, vl sa3 sk3 s.Targets], vb last] [S pa0 pk0 p.Funcs, S fa1 fk1 f.Blocks, S sa2 sk2 s.Uses, S sa3 sk3 s.Targets] (fun g : Unit => i64ok rr) (fun g => vi rr) (fun g => []) := by
 refine FTi Tryz.func55 fun w0 M0 F0 => ?_
 unfold i64ok at hs_0
 refine Fb 40 0 fun _ => Fb 40 1 fun _ => Fb 16 2 fun _ => ?_
 refine FoS 2 fun ho4 => ?_
 refine Fb 16 3 fun _ => ?_
 refine FoS 3 fun ho6 => ?_
 refine KS ?_
 refine Oa (Ab [vl pa0 pk0 p.Funcs]) fun p7 => Oa (Ab [.string (bs f.Name), vl fa1 fk1 f.Blocks]) fun p8 => Oa (Ab [vi s.Op, .string (bs s.Def), vl sa2 sk2 s.Uses, vl sa3 sk3 s.Targets]) fun p9 => Oq Va (KS ?_)
 refine Oq (Vfa fo44_0 0) (Oq (VldF sh3 0) ?_)
 refine letv (r4_Terminator s.Op) fun rv10 hg11 => ?_
 have hc12 := fn96 s.Op pre rv10 hg11
 refine Oc [] ca96 hc12 ?_
 rintro - -
 refine Oq Vm (Oq (Vnb un4) (KS ?_))
 refine Kc ?_ ?_
 ·intro h13
  refine KS ?_
  refine Oq Va (KS ?_)
  have hq := q4 hrr 4 (by simp only [r4_stmtErr, h13, hg11, cs4]); subst hq
  exact Kr () rfl (.tmp rfl .nil) [] en
 intro h13
 refine KS ?_
 refine Oq (VldA sh39 1) ?_
 refine letv (r4_BlockNames f) fun rv17 hg18 => ?_
 have hc19 := fn54 f fa1 fk1 pre rv17 hg18
 refine Oc [4] ca54 hc19 ?_
 rintro c16 -
 refine Jo 0 ?_; rintro a20 k21 rfl
 refine Fb 16 0 fun _ => ?_
 refine FoS 0 fun ho23 => ?_
 refine Oq Va (KS ?_)
 refine Oq (Vfa fo44_0 1) (Oq (VldF sh3 1) (Oq Veql (KS ?_)))
 refine Kc ?_ ?_
 ·intro h24
  have g25 := eq_of_beq h24
  refine KS ?_
  refine Oq (VldA sh25 3) ?_
  refine letv (r4_funcNames p) fun rv27 hg28 => ?_
  have hc29 := fn53 p pa0 pk0 rv27 hg28
  refine Oc [4] ca53 hc29 ?_
  rintro c26 -
  refine Jo 0 ?_; rintro a30 k31 rfl
  refine Fb 16 0 fun _ => ?_
  refine FoS 0 fun ho33 => ?_
  refine Oq Va (KS ?_)
  refine Oq Va (KS ?_)
  refine Kl (γ := Nat × Int) (fun (r34, i_35) => ⟨[(6, p9), (9, vl a30 k31 rv27), (10, vi i_35)], [S a30 k31 rv27, pv p9 [vi s.Op, .string (bs s.Def), vl sa2 sk2 s.Uses, vl sa3 sk3 s.Targets], S sa2 sk2 s.Uses, S sa3 sk3 s.Targets], r4_stmtErr_L0 s rv27 r34 i_35 = r4_stmtErr_L0 s rv27 (((s.Targets.length : Int) - 0).toNat) 0 ∧ r34 = ((s.Targets.length : Int) - i_35).toNat ∧ (0 : Int) ≤ i_35 ∧ i_35 ≤ (s.Targets.length : Int) ∧ (-9223372036854775808 ≤ i_35 ∧ i_35 ≤ 9223372036854775807), r34⟩) (((s.Targets.length : Int) - 0).toNat, 0) [0, 2, 7, 8] ⟨rfl, rfl, aM1, aM1, aM1⟩ ?_
  rintro ⟨r34, i_35⟩ ⟨hM36, hr37, hi38, hi39, hk40⟩
  refine JJ_nx fun _ _ hL hA => ?_; dsimp only at hL hA; subst hL hA
  refine Fb 16 0 fun _ => ?_
  refine FoS 0 fun ho42 => ?_
  refine Fb 16 2 fun _ => ?_
  refine FoS 2 fun ho44 => ?_
  refine Fb 16 3 fun _ => ?_
  refine FoS 3 fun ho46 => ?_
  refine KS ?_
  refine Oq Vm (Oq (Vfa fo44_3 1) (Oq (VldF sh36 1) (Oq (Vlen sl36) (Oq Vlss (KS ?_)))))
  refine Kc ?_ ?_
  ·intro h47
   have g48 := dt h47
   obtain ⟨r49, rfl⟩ := scc (n := r34) aM1
   refine KS ?_
   refine Oq Vm (Oq (Vfa fo44_3 1) (Oq (VldF sh36 1) (Oq Vm (Oq (Vi sl36 3) ?_))))
   have hb50 := okS (i := i_35.toNat) ho46 rng
   refine Oq (VldS sh9 3) ?_
   refine letv (r4_Place rv27 (s.Targets.getD i_35.toNat default)) fun rv51 hg52 => ?_
   have hc53 := fn61 rv27 a30 k31 ((s.Targets.getD i_35.toNat default)) pre rv51 hg52
   refine Oc [0] ca61 hc53 ?_
   rintro - he54
   unfold i64ok at he54
   refine Oq Vlss (KS ?_)
   refine Kc ?_ ?_
   ·intro h55
    have g56 := dt h55
    refine KS ?_
    refine Oq Va (KS ?_)
    have hR57 := q2 hM36 (.ret 5) (by simp only [r4_stmtErr_L0, h47, h55, hg52, cs4])
    have hq := q4 hrr 5 (by simp only [r4_stmtErr, h13, h24, h47, h55, hg11, hg18, hg28, hg52, hR57, cs4]); subst hq
    exact Kr () rfl (.tmp rfl .nil) [] en
   intro h55
   have g58 := df h55
   refine KS ?_
   refine Oq Vm (Oq Vadd (Oq Va (KS ?_)))
   exact Kg (r49, (i_35 + 1)) [0, 1, 2, 3] ⟨(q3 hM36 (by simp only [r4_stmtErr_L0, h47, h55, hg52, cs4])), aM1, aM1, aM1, aM1⟩
  intro h47
  have g59 := df h47
  obtain rfl : r34 = 0 := by omega
  refine Ke ?_
  have hR60 := q2 hM36 (.brk ()) (by simp only [r4_stmtErr_L0, h47, cs4])
  refine KS ?_
  refine Oq Va (KS ?_)
  have hq := q4 hrr 0 (by simp only [r4_stmtErr, h13, h24, h47, hg11, hg18, hg28, hR60, cs4]); subst hq
  exact Kr () rfl (.tmp rfl .nil) [] en
 intro h24
 have g61 := ne_of_beq_false h24
 refine KS ?_
 refine Oq Va (KS ?_)
 refine Kl (γ := Nat × Int) (fun (r62, i_63) => ⟨[(6, p9), (9, vl a20 k21 rv17), (10, vi i_63)], [S a20 k21 rv17, pv p9 [vi s.Op, .string (bs s.Def), vl sa2 sk2 s.Uses, vl sa3 sk3 s.Targets], S sa2 sk2 s.Uses, S sa3 sk3 s.Targets], r4_stmtErr_L0 s rv17 r62 i_63 = r4_stmtErr_L0 s rv17 (((s.Targets.length : Int) - 0).toNat) 0 ∧ r62 = ((s.Targets.length : Int) - i_63).toNat ∧ (0 : Int) ≤ i_63 ∧ i_63 ≤ (s.Targets.length : Int) ∧ (-9223372036854775808 ≤ i_63 ∧ i_63 ≤ 9223372036854775807), r62⟩) (((s.Targets.length : Int) - 0).toNat, 0) [0, 1, 6, 7] ⟨rfl, rfl, aM1, aM1, aM1⟩ ?_
 rintro ⟨r62, i_63⟩ ⟨hM64, hr65, hi66, hi67, hk68⟩
 refine JJ_nx fun _ _ hL hA => ?_; dsimp only at hL hA; subst hL hA
 refine Fb 16 0 fun _ => ?_
 refine FoS 0 fun ho70 => ?_
 refine Fb 16 2 fun _ => ?_
 refine FoS 2 fun ho72 => ?_
 refine Fb 16 3 fun _ => ?_
 refine FoS 3 fun ho74 => ?_
 refine KS ?_
 refine Oq Vm (Oq (Vfa fo44_3 1) (Oq (VldF sh36 1) (Oq (Vlen sl36) (Oq Vlss (KS ?_)))))
 refine Kc ?_ ?_
 ·intro h75
  have g76 := dt h75
  obtain ⟨r77, rfl⟩ := scc (n := r62) aM1
  refine KS ?_
  refine Oq Vm (Oq (Vfa fo44_3 1) (Oq (VldF sh36 1) (Oq Vm (Oq (Vi sl36 3) ?_))))
  have hb78 := okS (i := i_63.toNat) ho74 rng
  refine Oq (VldS sh9 3) ?_
  refine letv (r4_Place rv17 (s.Targets.getD i_63.toNat default)) fun rv79 hg80 => ?_
  have hc81 := fn61 rv17 a20 k21 ((s.Targets.getD i_63.toNat default)) pre rv79 hg80
  refine Oc [0] ca61 hc81 ?_
  rintro - he82
  unfold i64ok at he82
  refine Oq Vlss (KS ?_)
  refine Kc ?_ ?_
  ·intro h83
   have g84 := dt h83
   refine KS ?_
   refine Oq Va (KS ?_)
   have hR85 := q2 hM64 (.ret 5) (by simp only [r4_stmtErr_L0, h75, h83, hg80, cs4])
   have hq := q4 hrr 5 (by simp only [r4_stmtErr, h13, h24, h75, h83, hg11, hg18, hg80, hR85, cs4]); subst hq
   exact Kr () rfl (.tmp rfl .nil) [] en
  intro h83
  have g86 := df h83
  refine KS ?_
  refine Oq Vm (Oq Vadd (Oq Va (KS ?_)))
  exact Kg (r77, (i_63 + 1)) [0, 1, 2, 3] ⟨(q3 hM64 (by simp only [r4_stmtErr_L0, h75, h83, hg80, cs4])), aM1, aM1, aM1, aM1⟩
 intro h75
 have g87 := df h75
 obtain rfl : r62 = 0 := by omega
 refine Ke ?_
 have hR88 := q2 hM64 (.brk ()) (by simp only [r4_stmtErr_L0, h75, cs4])
 refine KS ?_
 refine Oq Va (KS ?_)
 have hq := q4 hrr 0 (by simp only [r4_stmtErr, h13, h24, h75, hg11, hg18, hR88, cs4]); subst hq
 exact Kr () rfl (.tmp rfl .nil) [] en
theorem fn56 (p : GProgram) (pa0 : Option Addr) (pk0 : Nat) (rr : Int × Int) (hrr : r4_Sizes p = rr) : FT Tryz.prog 56 #[.agg #[vl pa0 pk0 p.Funcs]] [S pa0 pk0 p.Funcs] (fun g : Unit => i64ok rr.1 ∧ i64ok rr.2) (fun g => .tuple #[vi rr.1, vi rr.2]) (fun g => []) := by
 refine FTi Tryz.func56 fun w0 M0 F0 => Fb 40 0 fun _ => ?_
 refine KS ?_
 refine Oa (Ab [vl pa0 pk0 p.Funcs]) fun p2 => Oq Va (Oq Va (KS ?_))
 refine Oq Va (Oq Va (KS ?_))
 refine Oq (VldA sh25 0) ?_
 refine letv (r4_Valid p) fun rv3 hg4 => ?_
 have hc5 := fn51 p pa0 pk0 rv3 hg4
 refine Oc [1] ca51 hc5 ?_
 rintro - -
 refine Oq Vnot (KS ?_)
 refine Kc ?_ ?_
 ·intro h6
  have h8 := not_true h6
  refine KS ?_
  refine Oq Va (Oq Va (KS ?_))
  have hq := q4 hrr (0, 0) (by simp only [r4_Sizes, h6, h8, hg4, cs4]); subst hq
  exact Kr () rfl (.tmp rfl (.tmp rfl .nil)) [] en
 intro h6
 have h11 := not_false h6
 try have hVb := PVal_b (p := p) (by simp only [h6, h11, hg4])
 refine KS ?_
 refine Oq Va (KS ?_)
 refine Kl (γ := Nat × Int × Int × Int) (fun (r13, nd_14, edges_15, i_16) => ⟨[(1, p2), (4, vi nd_14), (5, vi edges_15), (6, vi i_16)], [pv p2 [vl pa0 pk0 p.Funcs], S pa0 pk0 p.Funcs], r4_Sizes_L0 p r13 nd_14 edges_15 i_16 = r4_Sizes_L0 p (((p.Funcs.length : Int) - 0).toNat) 0 0 0 ∧ r13 = ((p.Funcs.length : Int) - i_16).toNat ∧ (0 : Int) ≤ i_16 ∧ i_16 ≤ (p.Funcs.length : Int) ∧ (-9223372036854775808 ≤ nd_14 ∧ nd_14 ≤ 9223372036854775807) ∧ (-9223372036854775808 ≤ edges_15 ∧ edges_15 ≤ 9223372036854775807) ∧ (-9223372036854775808 ≤ i_16 ∧ i_16 ≤ 9223372036854775807) ∧ (0 ≤ nd_14 ∧ nd_14 ≤ 1100 * i_16 ∧ 0 ≤ edges_15 ∧ edges_15 ≤ 1700 * i_16), r13⟩) (((p.Funcs.length : Int) - 0).toNat, 0, 0, 0) [0, 1] ⟨rfl, rfl, aM1, aM1, aM1, aM1, aM1, iv0⟩ ?_
 rintro ⟨r13, nd_14, edges_15, i_16⟩ ⟨hM17, hr18, hi19, hi20, hk21, hk22, hk23, hv24⟩
 refine JJ_nx fun _ _ hL hA => ?_; dsimp only at hL hA; subst hL hA
 refine Fb 40 1 fun _ => KS ?_
 refine Oq Vm (Oq (Vfa fo25_0 0) (Oq (VldF sh23 0) (Oq (Vlen sl23) (Oq Vlss (KS ?_)))))
 refine Kc ?_ ?_
 ·intro h26
  have g27 := dt h26
  have hVf := hVb.2 i_16.toNat
  obtain ⟨r28, rfl⟩ := scc (n := r13) aM1
  refine KS ?_
  refine Oq Vm (Oq Vadd (Oq Vm (Oq Vadd (Oq Va (Oq Va (KS ?_))))))
  refine Oq Va (KS ?_)
  refine Kl (γ := Nat × Int × Int × Int) (fun (r29, nd_30, edges_31, k_32) => ⟨[(1, p2), (6, vi i_16), (4, vi nd_30), (5, vi edges_31), (7, vi k_32)], [pv p2 [vl pa0 pk0 p.Funcs], S pa0 pk0 p.Funcs], r4_Sizes_L1 p i_16 r29 nd_30 edges_31 k_32 = r4_Sizes_L1 p i_16 ((((((p.Funcs.getD i_16.toNat default).Blocks).length : Int) : Int) - 0).toNat) (nd_14 + 2) (edges_15 + 1) 0 ∧ r29 = (((((p.Funcs.getD i_16.toNat default).Blocks).length : Int) : Int) - k_32).toNat ∧ (0 : Int) ≤ k_32 ∧ (k_32 ≤ (((p.Funcs.getD i_16.toNat default).Blocks).length : Int) ∨ k_32 = 0) ∧ (-9223372036854775808 ≤ nd_30 ∧ nd_30 ≤ 9223372036854775807) ∧ (-9223372036854775808 ≤ edges_31 ∧ edges_31 ≤ 9223372036854775807) ∧ (-9223372036854775808 ≤ k_32 ∧ k_32 ≤ 9223372036854775807) ∧ (0 ≤ nd_30 ∧ nd_30 ≤ (nd_14 + 2) + 66 * k_32 ∧ 0 ≤ edges_31 ∧ edges_31 ≤ (edges_15 + 1) + 98 * k_32), r29⟩) ((((((p.Funcs.getD i_16.toNat default).Blocks).length : Int) : Int) - 0).toNat, (nd_14 + 2), (edges_15 + 1), 0) [0, 1] ⟨rfl, rfl, aM1, (.inr rfl), aM1, aM1, aM1, iv0⟩ ?_
  rintro ⟨r29, nd_30, edges_31, k_32⟩ ⟨hM33, hr34, hi35, hi36, hk37, hk38, hk39, hv40⟩
  refine JJ_nx fun _ _ hL hA => ?_; dsimp only at hL hA; subst hL hA
  refine Fb 40 1 fun _ => KS ?_
  refine Oq Vm (Oq (Vfa fo25_0 0) (Oq (VldF sh23 0) (Oq Vm (Oq (Vi sl23 1) ?_))))
  refine JJ_peek_GFunc i_16.toNat 1 rfl rng fun a42 k43 hb44 => ?_
  refine Fb 40 1 fun _ => ?_
  refine Oq (Vfa fo39_1 0) (Oq (VldF sh37 0) (Oq (Vlen sl37) (Oq Vlss (KS ?_))))
  refine Kc ?_ ?_
  ·intro h46
   have g47 := dt h46
   have hVk := hVf.2 k_32.toNat
   obtain ⟨r48, rfl⟩ := scc (n := r29) aM1
   refine KS ?_
   refine Oq (Vfa fo25_0 2) (Oq (VldF sh23 2) (Oq Vm (Oq (Vi sl23 3) (Oq (Vfa fo39_1 0) (Oq (VldF sh37 0) (Oq Vm (Oq (Vi sl37 1) ?_)))))))
   refine JJ_peek_GBlock k_32.toNat 1 rfl rng fun a49 k50 hb51 => ?_
   refine Fb 72 1 fun _ => ?_
   refine Oq (Vfa fo42_1 0) (Oq (VldF sh40 0) (Oq Va (KS ?_)))
   refine Oq Va (KS ?_)
   refine Kl (γ := Nat × Int × Int × Int) (fun (r53, nd_54, edges_55, j_56) => ⟨[(1, p2), (6, vi i_16), (4, vi nd_54), (5, vi edges_55), (7, vi k_32), (8, .slice a49 (((((p.Funcs.getD i_16.toNat default).Blocks).getD k_32.toNat default).Stmts).length) k50), (9, vi j_56)], [S a49 k50 ((((p.Funcs.getD i_16.toNat default).Blocks).getD k_32.toNat default).Stmts), pv p2 [vl pa0 pk0 p.Funcs], S pa0 pk0 p.Funcs], r4_Sizes_L2 ((((p.Funcs.getD i_16.toNat default).Blocks).getD k_32.toNat default).Stmts) r53 nd_54 edges_55 j_56 = r4_Sizes_L2 ((((p.Funcs.getD i_16.toNat default).Blocks).getD k_32.toNat default).Stmts) ((((((((p.Funcs.getD i_16.toNat default).Blocks).getD k_32.toNat default).Stmts).length : Int) : Int) - 0).toNat) nd_30 edges_31 0 ∧ r53 = (((((((p.Funcs.getD i_16.toNat default).Blocks).getD k_32.toNat default).Stmts).length : Int) : Int) - j_56).toNat ∧ (0 : Int) ≤ j_56 ∧ (j_56 ≤ (((((p.Funcs.getD i_16.toNat default).Blocks).getD k_32.toNat default).Stmts).length : Int) ∨ j_56 = 0) ∧ (-9223372036854775808 ≤ nd_54 ∧ nd_54 ≤ 9223372036854775807) ∧ (-9223372036854775808 ≤ edges_55 ∧ edges_55 ≤ 9223372036854775807) ∧ (-9223372036854775808 ≤ j_56 ∧ j_56 ≤ 9223372036854775807) ∧ (0 ≤ nd_54 ∧ nd_54 ≤ nd_30 + 2 * j_56 ∧ 0 ≤ edges_55 ∧ edges_55 ≤ edges_31 + 3 * j_56), r53⟩) ((((((((p.Funcs.getD i_16.toNat default).Blocks).getD k_32.toNat default).Stmts).length : Int) : Int) - 0).toNat, nd_30, edges_31, 0) [1, 4, 5] ⟨rfl, rfl, aM1, (.inr rfl), aM1, aM1, aM1, iv0⟩ ?_
   rintro ⟨r53, nd_54, edges_55, j_56⟩ ⟨hM57, hr58, hi59, hi60, hk61, hk62, hk63, hv64⟩
   refine JJ_nx fun _ _ hL hA => ?_; dsimp only at hL hA; subst hL hA
   refine Fb 72 0 fun _ => Fb 40 2 fun _ => KS ?_
   refine Oq Vm (Oq Vm (Oq (Vlen sl40) (Oq Vlss (KS ?_))))
   refine Kc ?_ ?_
   ·intro h67
    have g68 := dt h67
    have hVs := hVk.2 j_56.toNat
    obtain ⟨r69, rfl⟩ := scc (n := r53) aM1
    refine KS ?_
    refine Oq Vm (Oq Vadd (Oq Va (KS ?_)))
    refine Oq Vm (Oq Vm (Oq (Vi sl40 0) ?_))
    refine JJ_peek_GStmt j_56.toNat 0 rfl rng fun a70 k71 a72 k73 hb74 hb75 => ?_
    unfold i64ok at hb74
    refine Fb 16 1 fun _ => ?_
    refine FoS 1 fun ho77 => ?_
    refine Fb 16 2 fun _ => ?_
    refine FoS 2 fun ho79 => ?_
    refine Oq (Vfa fo44_0 0) (Oq (VldF sh3 0) (KS ?_))
    refine Oq Veql (Oq Va (KS ?_))
    refine Kc ?_ ?_
    ·intro h80
     have g81 := eq_of_beq h80
     refine KS ?_
     refine Oq Vm (Oq Vadd (Oq Vm (Oq Vadd (Oq Va (Oq Va (KS ?_))))))
     refine Oq Vm (Oq Vadd (Oq Va (KS ?_)))
     exact Kg (r69, ((nd_54 + 1) + 1), (edges_55 + 3), (j_56 + 1)) [3, 4, 5] ⟨(q3 hM57 (by simp only [r4_Sizes_L2, h67, h80, cs4])), aM1, aM1, aM1, aM1, aM1, aM1, iv1⟩
    intro h80
    have g82 := ne_of_beq_false h80
    refine KS ?_
    refine Oq Veql (Oq Va (KS ?_))
    refine Kc ?_ ?_
    ·intro h83
     have g84 := eq_of_beq h83
     refine KS ?_
     refine Oq Vm (Oq Vadd (Oq Va (KS ?_)))
     refine Oq Vm (Oq Vadd (Oq Va (KS ?_)))
     exact Kg (r69, (nd_54 + 1), (edges_55 + 2), (j_56 + 1)) [3, 4, 5] ⟨(q3 hM57 (by simp only [r4_Sizes_L2, h67, h80, h83, cs4])), aM1, aM1, aM1, aM1, aM1, aM1, iv1⟩
    intro h83
    have g85 := ne_of_beq_false h83
    refine KS ?_
    refine Oq Vm (Oq Vadd (Oq Va (KS ?_)))
    refine Oq Vm (Oq Vadd (Oq Va (KS ?_)))
    exact Kg (r69, (nd_54 + 1), (edges_55 + 1), (j_56 + 1)) [3, 4, 5] ⟨(q3 hM57 (by simp only [r4_Sizes_L2, h67, h80, h83, cs4])), aM1, aM1, aM1, aM1, aM1, aM1, iv1⟩
   intro h67
   have g86 := df h67
   obtain rfl : r53 = 0 := by omega
   refine Ke ?_
   have hR87 := q2 hM57 (nd_54, edges_55) (by simp only [r4_Sizes_L2, h67, cs4])
   refine KS ?_
   refine Oq Vm (Oq Vadd (Oq Va (KS ?_)))
   exact Kg (r48, nd_54, edges_55, (k_32 + 1)) [1, 2] ⟨(q3 hM33 (by simp only [r4_Sizes_L1, h46, h67, hR87, cs4])), aM1, aM1, aM1, aM1, aM1, aM1, iv1⟩
  intro h46
  have g88 := df h46
  obtain rfl : r29 = 0 := by omega
  refine Ke ?_
  have hR89 := q2 hM33 (nd_30, edges_31) (by simp only [r4_Sizes_L1, h46, cs4])
  refine KS ?_
  refine Oq Vm (Oq Vadd (Oq Va (KS ?_)))
  exact Kg (r28, nd_30, edges_31, (i_16 + 1)) [2, 3] ⟨(q3 hM17 (by simp only [r4_Sizes_L0, h26, h46, hR89, cs4])), aM1, aM1, aM1, aM1, aM1, aM1, iv1⟩
 intro h26
 have g90 := df h26
 obtain rfl : r13 = 0 := by omega
 refine Ke ?_
 have hR91 := q2 hM17 (nd_14, edges_15) (by simp only [r4_Sizes_L0, h26, cs4])
 refine KS ?_
 refine Oq Vm (Oq Vm (Oq Va (Oq Va (KS ?_))))
 have hq := q4 hrr (nd_14, edges_15) (by simp only [r4_Sizes, h6, h11, h26, hg4, hR91, cs4]); subst hq
 exact Kr () rfl (.tmp rfl (.tmp rfl .nil)) [] en
theorem fn57 (p : GProgram) (pa0 : Option Addr) (pk0 : Nat) (rr : List Str) (hrr : r4_Variables p = rr) : FT Tryz.prog 57 #[.agg #[vl pa0 pk0 p.Funcs]] [S pa0 pk0 p.Funcs] (fun g : Value => True) (fun g => g) (fun g => [sl g rr]) := by
 refine FTi Tryz.func57 fun w0 M0 F0 => Fb 40 0 fun _ => ?_
 refine KS ?_
 refine Oa (Ab [vl pa0 pk0 p.Funcs]) fun p2 => Oq Va (KS ?_)
 refine Oq Va (KS ?_)
 refine Oq (VldA sh25 0) ?_
 refine letv (r4_Valid p) fun rv3 hg4 => ?_
 have hc5 := fn51 p pa0 pk0 rv3 hg4
 refine Oc [1] ca51 hc5 ?_
 rintro - -
 refine Oq Vnot (KS ?_)
 refine Kc ?_ ?_
 ·intro h6
  have h8 := not_true h6
  refine KS ?_
  refine Oq Va (KS ?_)
  refine Jl [] (Ent.slNil (α := Str)) ?_
  have hq := q4 hrr ([] : List Str) (by simp only [r4_Variables, h6, h8, hg4, cs4]); subst hq
  exact Kr (.slice none 0 0) rfl (.tmp rfl .nil) [0] trivial
 intro h6
 have h11 := not_false h6
 try have hVb := PVal_b (p := p) (by simp only [h6, h11, hg4])
 refine KS ?_
 refine Oq Va (KS ?_)
 refine Jl [] (Ent.osNil (α := Str)) ?_
 refine Kl (γ := Nat × List Str × Int × Option Addr × Nat) (fun (r13, out_14, i_15, a16, k17) => ⟨[(1, p2), (3, vl a16 k17 out_14), (4, vi i_15)], [O a16 k17 out_14, pv p2 [vl pa0 pk0 p.Funcs], S pa0 pk0 p.Funcs], r4_Variables_L0 p r13 out_14 i_15 = r4_Variables_L0 p (((p.Funcs.length : Int) - 0).toNat) [] 0 ∧ r13 = ((p.Funcs.length : Int) - i_15).toNat ∧ (0 : Int) ≤ i_15 ∧ i_15 ≤ (p.Funcs.length : Int) ∧ (-9223372036854775808 ≤ i_15 ∧ i_15 ≤ 9223372036854775807) ∧ ((out_14.length : Int) ≤ 3000 * i_15), r13⟩) (((p.Funcs.length : Int) - 0).toNat, [], 0, none, 0) [0, 0, 1] ⟨rfl, rfl, aM1, aM1, aM1, iv0⟩ ?_
 rintro ⟨r13, out_14, i_15, a16, k17⟩ ⟨hM18, hr19, hi20, hi21, hk22, hv23⟩
 refine JJ_nx fun _ _ hL hA => ?_; dsimp only at hL hA; subst hL hA
 refine Fb 16 0 fun _ => ?_
 refine FoS 0 fun ho25 => ?_
 refine Fb 40 2 fun _ => KS ?_
 refine Oq Vm (Oq (Vfa fo25_0 1) (Oq (VldF sh23 1) (Oq (Vlen sl23) (Oq Vlss (KS ?_)))))
 refine Kc ?_ ?_
 ·intro h27
  have g28 := dt h27
  have hVf := hVb.2 i_15.toNat
  obtain ⟨r29, rfl⟩ := scc (n := r13) aM1
  refine KS ?_
  refine Oq Va (KS ?_)
  refine Kl (γ := Nat × List Str × Int × Option Addr × Nat) (fun (r30, out_31, k_32, a33, k34) => ⟨[(1, p2), (3, vl a33 k34 out_31), (4, vi i_15), (5, vi k_32)], [O a33 k34 out_31, pv p2 [vl pa0 pk0 p.Funcs], S pa0 pk0 p.Funcs], r4_Variables_L1 p i_15 r30 out_31 k_32 = r4_Variables_L1 p i_15 ((((((p.Funcs.getD i_15.toNat default).Blocks).length : Int) : Int) - 0).toNat) out_14 0 ∧ r30 = (((((p.Funcs.getD i_15.toNat default).Blocks).length : Int) : Int) - k_32).toNat ∧ (0 : Int) ≤ k_32 ∧ (k_32 ≤ (((p.Funcs.getD i_15.toNat default).Blocks).length : Int) ∨ k_32 = 0) ∧ (-9223372036854775808 ≤ k_32 ∧ k_32 ≤ 9223372036854775807) ∧ ((out_31.length : Int) ≤ (out_14.length : Int) + 180 * k_32), r30⟩) ((((((p.Funcs.getD i_15.toNat default).Blocks).length : Int) : Int) - 0).toNat, out_14, 0, a16, k17) [0, 0, 1] ⟨rfl, rfl, aM1, (.inr rfl), aM1, iv0⟩ ?_
  rintro ⟨r30, out_31, k_32, a33, k34⟩ ⟨hM35, hr36, hi37, hi38, hk39, hv40⟩
  refine JJ_nx fun _ _ hL hA => ?_; dsimp only at hL hA; subst hL hA
  refine Fb 16 0 fun _ => ?_
  refine FoS 0 fun ho42 => ?_
  refine Fb 40 2 fun _ => KS ?_
  refine Oq Vm (Oq (Vfa fo25_0 1) (Oq (VldF sh23 1) (Oq Vm (Oq (Vi sl23 2) ?_))))
  refine JJ_peek_GFunc i_15.toNat 2 rfl rng fun a44 k45 hb46 => ?_
  refine Fb 40 1 fun _ => ?_
  refine Oq (Vfa fo39_1 0) (Oq (VldF sh37 0) (Oq (Vlen sl37) (Oq Vlss (KS ?_))))
  refine Kc ?_ ?_
  ·intro h48
   have g49 := dt h48
   have hVk := hVf.2 k_32.toNat
   obtain ⟨r50, rfl⟩ := scc (n := r30) aM1
   refine KS ?_
   refine Oq (Vfa fo25_0 3) (Oq (VldF sh23 3) (Oq Vm (Oq (Vi sl23 4) (Oq (Vfa fo39_1 0) (Oq (VldF sh37 0) (Oq Vm (Oq (Vi sl37 1) ?_)))))))
   refine JJ_peek_GBlock k_32.toNat 1 rfl rng fun a51 k52 hb53 => ?_
   refine Fb 72 1 fun _ => ?_
   refine Oq (Vfa fo42_1 0) (Oq (VldF sh40 0) (Oq Va (KS ?_)))
   refine Oq Va (KS ?_)
   refine Kl (γ := Nat × List Str × Int × Option Addr × Nat) (fun (r55, out_56, j_57, a58, k59) => ⟨[(1, p2), (3, vl a58 k59 out_56), (4, vi i_15), (5, vi k_32), (6, .slice a51 (((((p.Funcs.getD i_15.toNat default).Blocks).getD k_32.toNat default).Stmts).length) k52), (7, vi j_57)], [O a58 k59 out_56, S a51 k52 ((((p.Funcs.getD i_15.toNat default).Blocks).getD k_32.toNat default).Stmts), pv p2 [vl pa0 pk0 p.Funcs], S pa0 pk0 p.Funcs], r4_Variables_L2 ((((p.Funcs.getD i_15.toNat default).Blocks).getD k_32.toNat default).Stmts) r55 out_56 j_57 = r4_Variables_L2 ((((p.Funcs.getD i_15.toNat default).Blocks).getD k_32.toNat default).Stmts) ((((((((p.Funcs.getD i_15.toNat default).Blocks).getD k_32.toNat default).Stmts).length : Int) : Int) - 0).toNat) out_31 0 ∧ r55 = (((((((p.Funcs.getD i_15.toNat default).Blocks).getD k_32.toNat default).Stmts).length : Int) : Int) - j_57).toNat ∧ (0 : Int) ≤ j_57 ∧ (j_57 ≤ (((((p.Funcs.getD i_15.toNat default).Blocks).getD k_32.toNat default).Stmts).length : Int) ∨ j_57 = 0) ∧ (-9223372036854775808 ≤ j_57 ∧ j_57 ≤ 9223372036854775807) ∧ ((out_56.length : Int) ≤ (out_31.length : Int) + 5 * j_57), r55⟩) ((((((((p.Funcs.getD i_15.toNat default).Blocks).getD k_32.toNat default).Stmts).length : Int) : Int) - 0).toNat, out_31, 0, a33, k34) [4, 1, 4, 5] ⟨rfl, rfl, aM1, (.inr rfl), aM1, iv0⟩ ?_
   rintro ⟨r55, out_56, j_57, a58, k59⟩ ⟨hM60, hr61, hi62, hi63, hk64, hv65⟩
   refine JJ_nx fun _ _ hL hA => ?_; dsimp only at hL hA; subst hL hA
   refine Fb 16 0 fun _ => ?_
   refine FoS 0 fun ho67 => ?_
   refine Fb 72 1 fun _ => Fb 40 3 fun _ => KS ?_
   refine Oq Vm (Oq Vm (Oq (Vlen sl40) (Oq Vlss (KS ?_))))
   refine Kc ?_ ?_
   ·intro h70
    have g71 := dt h70
    have hVs := hVk.2 j_57.toNat
    obtain ⟨r72, rfl⟩ := scc (n := r55) aM1
    refine KS ?_
    refine Oq Vm (Oq Vm (Oq (Vi sl40 1) ?_))
    refine JJ_peek_GStmt j_57.toNat 1 rfl rng fun a73 k74 a75 k76 hb77 hb78 => ?_
    unfold i64ok at hb77
    refine Fb 16 1 fun _ => ?_
    refine FoS 1 fun ho80 => ?_
    refine Fb 16 2 fun _ => ?_
    refine FoS 2 fun ho82 => ?_
    refine Oq (Vfa fo44_2 0) (Oq (VldF sh36 0) (Oq Va (KS ?_)))
    refine Oq Vm (Oq Vm (Oq (Vi sl40 4) (Oq (Vfa fo44_1 0) (Oq (VldF sh9 0) (Oq (VneS (l := (((((p.Funcs.getD i_15.toNat default).Blocks).getD k_32.toNat default).Stmts).getD j_57.toNat default).Def) (m := (Str.mk []))) (KS ?_))))))
    refine Kc ?_ ?_
    ·intro h83
     have g84 := ne_of_bne h83
     refine JK_drawK [0, 0, 3, 7, 15, 31, 0, 0, 192, 448, 960, 2047, 4095] fmix ?_
     refine Dv [] Vm (Dv [] Vm (Dv [4] (Vi sl40 0) (Dv [0] (Vfa fo44_1 0) (Dv [0] (VldF sh9 0) (Dx [] [] [0] (fun G => (G.g 5 0)) [fun G => Cr (G.g 5 0) 1 [.string (bs ((((((p.Funcs.getD i_15.toNat default).Blocks).getD k_32.toNat default).Stmts).getD j_57.toNat default).Def))]] (fun G => xA (AsV sl36 sz36 [.string (bs ((((((p.Funcs.getD i_15.toNat default).Blocks).getD k_32.toNat default).Stmts).getD j_57.toNat default).Def))] [.string (bs ((((((p.Funcs.getD i_15.toNat default).Blocks).getD k_32.toNat default).Stmts).getD j_57.toNat default).Def))])) (Dv [] Vm (Dv [] Vm (Dv [4] (Vi sl40 0) (Dv [0] (Vfa fo44_2 0) ?_)))))))))
     refine Dv [0] (VldF sh36 0) ?_
     have hn87 : ([(((((p.Funcs.getD i_15.toNat default).Blocks).getD k_32.toNat default).Stmts).getD j_57.toNat default).Def] ++ (((((p.Funcs.getD i_15.toNat default).Blocks).getD k_32.toNat default).Stmts).getD j_57.toNat default).Uses : List Str).length = 1 + ((((((p.Funcs.getD i_15.toNat default).Blocks).getD k_32.toNat default).Stmts).getD j_57.toNat default).Uses).length := la ([(((((p.Funcs.getD i_15.toNat default).Blocks).getD k_32.toNat default).Stmts).getD j_57.toNat default).Def] : List Str) ((((((p.Funcs.getD i_15.toNat default).Blocks).getD k_32.toNat default).Stmts).getD j_57.toNat default).Uses)
     refine Dx [1, 7] [7] [1, 0] (fun G => (G.g 11 0)) [fun G => os (G.g 11 0) (([(((((p.Funcs.getD i_15.toNat default).Blocks).getD k_32.toNat default).Stmts).getD j_57.toNat default).Def] ++ (((((p.Funcs.getD i_15.toNat default).Blocks).getD k_32.toNat default).Stmts).getD j_57.toNat default).Uses) : List Str)] (fun G => xp [1] rfl (Ent.cr1 (α := Str) (A := []) _ ((((((p.Funcs.getD i_15.toNat default).Blocks).getD k_32.toNat default).Stmts).getD j_57.toNat default).Def) _ aB1 (fun _ => ⟨rfl, aS1⟩)) (xA (Ap [0, 0] sl36 sl36 sz36))) (Dg [] (fun G => (G.g 11 0)) (fun G => Va) ?_)
     refine Dn ⟨by kernel_rfl, fun G => ?_⟩
     refine Jw2 [(1, p2), (3, vl a58 k59 out_56), (4, vi i_15), (5, vi k_32), (6, .slice a51 (((((p.Funcs.getD i_15.toNat default).Blocks).getD k_32.toNat default).Stmts).length) k52), (7, vi j_57), (8, (G.g 11 0))] [0, 1, 2, 3, 4, 5, 6] [os (G.g 11 0) (([(((((p.Funcs.getD i_15.toNat default).Blocks).getD k_32.toNat default).Stmts).getD j_57.toNat default).Def] ++ (((((p.Funcs.getD i_15.toNat default).Blocks).getD k_32.toNat default).Stmts).getD j_57.toNat default).Uses) : List Str)] ?_
     generalize G.g 11 0 = c86
     refine Jo 7 ?_; rintro a88 k89 rfl
     refine Fb 16 7 fun _ => ?_
     refine FoS 7 fun ho91 => ?_
     refine KS ?_
     refine Oq Va (KS ?_)
     refine Kl (γ := Nat × List Str × Int × Option Addr × Nat) (fun (r92, out_93, n_94, a95, k96) => ⟨[(1, p2), (3, vl a95 k96 out_93), (4, vi i_15), (5, vi k_32), (6, .slice a51 (((((p.Funcs.getD i_15.toNat default).Blocks).getD k_32.toNat default).Stmts).length) k52), (7, vi j_57), (8, .slice a88 (([(((((p.Funcs.getD i_15.toNat default).Blocks).getD k_32.toNat default).Stmts).getD j_57.toNat default).Def] ++ (((((p.Funcs.getD i_15.toNat default).Blocks).getD k_32.toNat default).Stmts).getD j_57.toNat default).Uses).length) k89), (9, vi n_94)], [O a95 k96 out_93, S a51 k52 ((((p.Funcs.getD i_15.toNat default).Blocks).getD k_32.toNat default).Stmts), pv p2 [vl pa0 pk0 p.Funcs], S pa0 pk0 p.Funcs, O a88 k89 (([(((((p.Funcs.getD i_15.toNat default).Blocks).getD k_32.toNat default).Stmts).getD j_57.toNat default).Def] ++ (((((p.Funcs.getD i_15.toNat default).Blocks).getD k_32.toNat default).Stmts).getD j_57.toNat default).Uses) : List Str)], r4_Variables_L3 ([(((((p.Funcs.getD i_15.toNat default).Blocks).getD k_32.toNat default).Stmts).getD j_57.toNat default).Def] ++ (((((p.Funcs.getD i_15.toNat default).Blocks).getD k_32.toNat default).Stmts).getD j_57.toNat default).Uses) r92 out_93 n_94 = r4_Variables_L3 ([(((((p.Funcs.getD i_15.toNat default).Blocks).getD k_32.toNat default).Stmts).getD j_57.toNat default).Def] ++ (((((p.Funcs.getD i_15.toNat default).Blocks).getD k_32.toNat default).Stmts).getD j_57.toNat default).Uses) ((((([(((((p.Funcs.getD i_15.toNat default).Blocks).getD k_32.toNat default).Stmts).getD j_57.toNat default).Def] ++ (((((p.Funcs.getD i_15.toNat default).Blocks).getD k_32.toNat default).Stmts).getD j_57.toNat default).Uses).length : Int) : Int) - 0).toNat) out_56 0 ∧ r92 = (((([(((((p.Funcs.getD i_15.toNat default).Blocks).getD k_32.toNat default).Stmts).getD j_57.toNat default).Def] ++ (((((p.Funcs.getD i_15.toNat default).Blocks).getD k_32.toNat default).Stmts).getD j_57.toNat default).Uses).length : Int) : Int) - n_94).toNat ∧ (0 : Int) ≤ n_94 ∧ (n_94 ≤ (([(((((p.Funcs.getD i_15.toNat default).Blocks).getD k_32.toNat default).Stmts).getD j_57.toNat default).Def] ++ (((((p.Funcs.getD i_15.toNat default).Blocks).getD k_32.toNat default).Stmts).getD j_57.toNat default).Uses).length : Int) ∨ n_94 = 0) ∧ (-9223372036854775808 ≤ n_94 ∧ n_94 ≤ 9223372036854775807) ∧ ((out_93.length : Int) ≤ (out_56.length : Int) + n_94), r92⟩) ((((([(((((p.Funcs.getD i_15.toNat default).Blocks).getD k_32.toNat default).Stmts).getD j_57.toNat default).Def] ++ (((((p.Funcs.getD i_15.toNat default).Blocks).getD k_32.toNat default).Stmts).getD j_57.toNat default).Uses).length : Int) : Int) - 0).toNat, out_56, 0, a58, k59) [3, 3, 4, 5, 6] ⟨rfl, rfl, aM1, (.inr rfl), aM1, iv0⟩ ?_
     rintro ⟨r92, out_93, n_94, a95, k96⟩ ⟨hM97, hr98, hi99, hi100, hk101, hv102⟩
     refine JJ_nx fun _ _ hL hA => ?_; dsimp only at hL hA; subst hL hA
     refine Fb 16 0 fun _ => ?_
     refine FoS 0 fun ho104 => ?_
     refine Fb 72 1 fun _ => Fb 40 3 fun _ => Fb 16 4 fun _ => ?_
     refine FoS 4 fun ho108 => ?_
     refine KS ?_
     refine Oq Vm (Oq Vm (Oq (Vlen sl36) (Oq Vlss (KS ?_))))
     refine Kc ?_ ?_
     ·intro h109
      have g110 := dt h109
      obtain ⟨r111, rfl⟩ := scc (n := r92) aM1
      refine KS ?_
      refine Oq Vm (Oq Vm (Oq Vm (Oq (Vi sl36 4) ?_)))
      have hb112 := okS (i := n_94.toNat) ho108 rng
      refine Oq (VldS sh9 4) ?_
      refine letv (r4_Place out_93 (([(((((p.Funcs.getD i_15.toNat default).Blocks).getD k_32.toNat default).Stmts).getD j_57.toNat default).Def] ++ (((((p.Funcs.getD i_15.toNat default).Blocks).getD k_32.toNat default).Stmts).getD j_57.toNat default).Uses).getD n_94.toNat default)) fun rv113 hg114 => ?_
      refine Oc [0] ca61 (FT_borrow (A := _) (fun _ _ h => by cases h) (FT_ent (Ent.take (is := [0]) rfl) (fn61 out_93 a95 k96 ((([(((((p.Funcs.getD i_15.toNat default).Blocks).getD k_32.toNat default).Stmts).getD j_57.toNat default).Def] ++ (((((p.Funcs.getD i_15.toNat default).Blocks).getD k_32.toNat default).Stmts).getD j_57.toNat default).Uses).getD n_94.toNat default)) pre rv113 hg114))) ?_ (ht := rfl)
      rintro - he115
      unfold i64ok at he115
      refine Oq Vlss (KS ?_)
      refine Kc ?_ ?_
      ·intro h116
       have g117 := dt h116
       refine KS ?_
       refine Oq Vm (Oq Vm (Oq Vm (Oq (Vi sl36 4) ?_)))
       have hb118 := okS (i := n_94.toNat) ho108 rng
       refine Oq (VldS sh9 4) (Oa (AsV sl36 sz36 [.string (bs (([(((((p.Funcs.getD i_15.toNat default).Blocks).getD k_32.toNat default).Stmts).getD j_57.toNat default).Def] ++ (((((p.Funcs.getD i_15.toNat default).Blocks).getD k_32.toNat default).Stmts).getD j_57.toNat default).Uses).getD n_94.toNat default))] [.string (bs (([(((((p.Funcs.getD i_15.toNat default).Blocks).getD k_32.toNat default).Stmts).getD j_57.toNat default).Def] ++ (((((p.Funcs.getD i_15.toNat default).Blocks).getD k_32.toNat default).Stmts).getD j_57.toNat default).Uses).getD n_94.toNat default))]) fun c119 => ?_)
       refine Jo 0 ?_; rintro a120 k121 rfl
       refine Jl [0] (Ent.cr1 (α := Str) (A := []) _ (([(((((p.Funcs.getD i_15.toNat default).Blocks).getD k_32.toNat default).Stmts).getD j_57.toNat default).Def] ++ (((((p.Funcs.getD i_15.toNat default).Blocks).getD k_32.toNat default).Stmts).getD j_57.toNat default).Uses).getD n_94.toNat default) _ aB1 (fun _ => ⟨rfl, aS1⟩)) ?_
       refine Oa (ApO [1, 0] sl36 sl36 sz36) fun c122 => ?_
       refine Jo 0 ?_; rintro a123 k124 rfl
       refine Fb 16 0 fun _ => ?_
       refine FoS 0 fun ho126 => ?_
       have hn127 := la out_93 ([(([(((((p.Funcs.getD i_15.toNat default).Blocks).getD k_32.toNat default).Stmts).getD j_57.toNat default).Def] ++ (((((p.Funcs.getD i_15.toNat default).Blocks).getD k_32.toNat default).Stmts).getD j_57.toNat default).Uses).getD n_94.toNat default)] : List Str)
       refine Oq Va (KS ?_)
       refine Oq Vm (Oq Vadd (Oq Va (KS ?_)))
       exact Kg (r111, (out_93 ++ [(([(((((p.Funcs.getD i_15.toNat default).Blocks).getD k_32.toNat default).Stmts).getD j_57.toNat default).Def] ++ (((((p.Funcs.getD i_15.toNat default).Blocks).getD k_32.toNat default).Stmts).getD j_57.toNat default).Uses).getD n_94.toNat default)]), (n_94 + 1), a123, k124) [0, 0, 1, 2, 3] ⟨(q3 hM97 (by simp only [r4_Variables_L3, h109, h116, hg114, cs4])), aM1, aM1, aM1, aM1, iv1⟩
      intro h116
      have g128 := df h116
      refine KS ?_
      refine Oq Vm (Oq Vadd (Oq Va (KS ?_)))
      exact Kg (r111, out_93, (n_94 + 1), a95, k96) [0, 0, 1, 2, 3] ⟨(q3 hM97 (by simp only [r4_Variables_L3, h109, h116, hg114, cs4])), aM1, aM1, aM1, aM1, iv1⟩
     intro h109
     have g129 := df h109
     obtain rfl : r92 = 0 := by omega
     refine Ke ?_
     have hR130 := q2 hM97 out_93 (by simp only [r4_Variables_L3, h109, cs4])
     refine KS ?_
     refine Oq Vm (Oq Vadd (Oq Va (KS ?_)))
     exact Kg (r72, out_93, (j_57 + 1), a95, k96) [0, 0, 1, 2] ⟨(q3 hM60 (by simp only [r4_Variables_L2, h70, h83, h109, hR130, cs4])), aM1, aM1, aM1, aM1, iv1⟩
    intro h83
    have g131 := eq_of_bne_false h83
    refine KS ?_
    refine Oq Va (KS ?_)
    refine Kl (γ := Nat × List Str × Int × Option Addr × Nat) (fun (r132, out_133, n_134, a135, k136) => ⟨[(1, p2), (3, vl a135 k136 out_133), (4, vi i_15), (5, vi k_32), (6, .slice a51 (((((p.Funcs.getD i_15.toNat default).Blocks).getD k_32.toNat default).Stmts).length) k52), (7, vi j_57), (8, .slice a73 (((((((p.Funcs.getD i_15.toNat default).Blocks).getD k_32.toNat default).Stmts).getD j_57.toNat default).Uses).length) k74), (9, vi n_134)], [O a135 k136 out_133, S a73 k74 ((((((p.Funcs.getD i_15.toNat default).Blocks).getD k_32.toNat default).Stmts).getD j_57.toNat default).Uses), S a51 k52 ((((p.Funcs.getD i_15.toNat default).Blocks).getD k_32.toNat default).Stmts), pv p2 [vl pa0 pk0 p.Funcs], S pa0 pk0 p.Funcs], r4_Variables_L3 ((((((p.Funcs.getD i_15.toNat default).Blocks).getD k_32.toNat default).Stmts).getD j_57.toNat default).Uses) r132 out_133 n_134 = r4_Variables_L3 ((((((p.Funcs.getD i_15.toNat default).Blocks).getD k_32.toNat default).Stmts).getD j_57.toNat default).Uses) ((((((((((p.Funcs.getD i_15.toNat default).Blocks).getD k_32.toNat default).Stmts).getD j_57.toNat default).Uses).length : Int) : Int) - 0).toNat) out_56 0 ∧ r132 = (((((((((p.Funcs.getD i_15.toNat default).Blocks).getD k_32.toNat default).Stmts).getD j_57.toNat default).Uses).length : Int) : Int) - n_134).toNat ∧ (0 : Int) ≤ n_134 ∧ (n_134 ≤ (((((((p.Funcs.getD i_15.toNat default).Blocks).getD k_32.toNat default).Stmts).getD j_57.toNat default).Uses).length : Int) ∨ n_134 = 0) ∧ (-9223372036854775808 ≤ n_134 ∧ n_134 ≤ 9223372036854775807) ∧ ((out_133.length : Int) ≤ (out_56.length : Int) + n_134), r132⟩) ((((((((((p.Funcs.getD i_15.toNat default).Blocks).getD k_32.toNat default).Stmts).getD j_57.toNat default).Uses).length : Int) : Int) - 0).toNat, out_56, 0, a58, k59) [3, 1, 3, 4, 5] ⟨rfl, rfl, aM1, (.inr rfl), aM1, iv0⟩ ?_
    rintro ⟨r132, out_133, n_134, a135, k136⟩ ⟨hM137, hr138, hi139, hi140, hk141, hv142⟩
    refine JJ_nx fun _ _ hL hA => ?_; dsimp only at hL hA; subst hL hA
    refine Fb 16 0 fun _ => ?_
    refine FoS 0 fun ho144 => ?_
    refine Fb 16 1 fun _ => ?_
    refine FoS 1 fun ho146 => ?_
    refine Fb 72 2 fun _ => Fb 40 4 fun _ => KS ?_
    refine Oq Vm (Oq Vm (Oq (Vlen sl36) (Oq Vlss (KS ?_))))
    refine Kc ?_ ?_
    ·intro h149
     have g150 := dt h149
     obtain ⟨r151, rfl⟩ := scc (n := r132) aM1
     refine KS ?_
     refine Oq Vm (Oq Vm (Oq Vm (Oq (Vi sl36 1) ?_)))
     have hb152 := okS (i := n_134.toNat) ho146 rng
     refine Oq (VldS sh9 1) ?_
     refine letv (r4_Place out_133 (((((((p.Funcs.getD i_15.toNat default).Blocks).getD k_32.toNat default).Stmts).getD j_57.toNat default).Uses).getD n_134.toNat default)) fun rv153 hg154 => ?_
     refine Oc [0] ca61 (FT_borrow (A := _) (fun _ _ h => by cases h) (FT_ent (Ent.take (is := [0]) rfl) (fn61 out_133 a135 k136 ((((((((p.Funcs.getD i_15.toNat default).Blocks).getD k_32.toNat default).Stmts).getD j_57.toNat default).Uses).getD n_134.toNat default)) pre rv153 hg154))) ?_ (ht := rfl)
     rintro - he155
     unfold i64ok at he155
     refine Oq Vlss (KS ?_)
     refine Kc ?_ ?_
     ·intro h156
      have g157 := dt h156
      refine KS ?_
      refine Oq Vm (Oq Vm (Oq Vm (Oq (Vi sl36 1) ?_)))
      have hb158 := okS (i := n_134.toNat) ho146 rng
      refine Oq (VldS sh9 1) (Oa (AsV sl36 sz36 [.string (bs (((((((p.Funcs.getD i_15.toNat default).Blocks).getD k_32.toNat default).Stmts).getD j_57.toNat default).Uses).getD n_134.toNat default))] [.string (bs (((((((p.Funcs.getD i_15.toNat default).Blocks).getD k_32.toNat default).Stmts).getD j_57.toNat default).Uses).getD n_134.toNat default))]) fun c159 => ?_)
      refine Jo 0 ?_; rintro a160 k161 rfl
      refine Jl [0] (Ent.cr1 (α := Str) (A := []) _ (((((((p.Funcs.getD i_15.toNat default).Blocks).getD k_32.toNat default).Stmts).getD j_57.toNat default).Uses).getD n_134.toNat default) _ aB1 (fun _ => ⟨rfl, aS1⟩)) ?_
      refine Oa (ApO [1, 0] sl36 sl36 sz36) fun c162 => ?_
      refine Jo 0 ?_; rintro a163 k164 rfl
      refine Fb 16 0 fun _ => ?_
      refine FoS 0 fun ho166 => ?_
      have hn167 := la out_133 ([(((((((p.Funcs.getD i_15.toNat default).Blocks).getD k_32.toNat default).Stmts).getD j_57.toNat default).Uses).getD n_134.toNat default)] : List Str)
      refine Oq Va (KS ?_)
      refine Oq Vm (Oq Vadd (Oq Va (KS ?_)))
      exact Kg (r151, (out_133 ++ [(((((((p.Funcs.getD i_15.toNat default).Blocks).getD k_32.toNat default).Stmts).getD j_57.toNat default).Uses).getD n_134.toNat default)]), (n_134 + 1), a163, k164) [0, 0, 1, 2, 3] ⟨(q3 hM137 (by simp only [r4_Variables_L3, h149, h156, hg154, cs4])), aM1, aM1, aM1, aM1, iv1⟩
     intro h156
     have g168 := df h156
     refine KS ?_
     refine Oq Vm (Oq Vadd (Oq Va (KS ?_)))
     exact Kg (r151, out_133, (n_134 + 1), a135, k136) [0, 0, 1, 2, 3] ⟨(q3 hM137 (by simp only [r4_Variables_L3, h149, h156, hg154, cs4])), aM1, aM1, aM1, aM1, iv1⟩
    intro h149
    have g169 := df h149
    obtain rfl : r132 = 0 := by omega
    refine Ke ?_
    have hR170 := q2 hM137 out_133 (by simp only [r4_Variables_L3, h149, cs4])
    refine KS ?_
    refine Oq Vm (Oq Vadd (Oq Va (KS ?_)))
    exact Kg (r72, out_133, (j_57 + 1), a135, k136) [0, 1, 2, 3] ⟨(q3 hM60 (by simp only [r4_Variables_L2, h70, h83, h149, hR170, cs4])), aM1, aM1, aM1, aM1, iv1⟩
   intro h70
   have g171 := df h70
   obtain rfl : r55 = 0 := by omega
   refine Ke ?_
   have hR172 := q2 hM60 out_56 (by simp only [r4_Variables_L2, h70, cs4])
   refine KS ?_
   refine Oq Vm (Oq Vadd (Oq Va (KS ?_)))
   exact Kg (r50, out_56, (k_32 + 1), a58, k59) [0, 1, 2] ⟨(q3 hM35 (by simp only [r4_Variables_L1, h48, h70, hR172, cs4])), aM1, aM1, aM1, aM1, iv1⟩
  intro h48
  have g173 := df h48
  obtain rfl : r30 = 0 := by omega
  refine Ke ?_
  have hR174 := q2 hM35 out_31 (by simp only [r4_Variables_L1, h48, cs4])
  refine KS ?_
  refine Oq Vm (Oq Vadd (Oq Va (KS ?_)))
  exact Kg (r29, out_31, (i_15 + 1), a33, k34) [2, 2, 3] ⟨(q3 hM18 (by simp only [r4_Variables_L0, h27, h48, hR174, cs4])), aM1, aM1, aM1, aM1, iv1⟩
 intro h27
 have g175 := df h27
 obtain rfl : r13 = 0 := by omega
 refine Ke ?_
 have hR176 := q2 hM18 out_14 (by simp only [r4_Variables_L0, h27, cs4])
 refine KS ?_
 refine Oq Vm (Oq Va (KS ?_))
 refine Jl [0] (Ent.freeze _ _) ?_
 have hq := q4 hrr out_14 (by simp only [r4_Variables, h6, h11, h27, hg4, hR176, cs4]); subst hq
 exact Kr (vl a16 k17 out_14) rfl (.tmp rfl .nil) [0] trivial
theorem fn28 (p : GProgram) (pa0 : Option Addr) (pk0 : Nat) (rr : GNode × Int) (hrr : r4_Check p = rr) : FT Tryz.prog 28 #[.agg #[vl pa0 pk0 p.Funcs]] [S pa0 pk0 p.Funcs] (fun g : Unit => i64ok rr.1.Kind ∧ i64ok rr.1.Func ∧ i64ok rr.1.Block ∧ i64ok rr.1.Stmt ∧ i64ok rr.2) (fun g => .tuple #[.agg #[vi rr.1.Kind, vi rr.1.Func, vi rr.1.Block, vi rr.1.Stmt], vi rr.2]) (fun g => []) := by
 refine FTi Tryz.func28 fun w0 M0 F0 => Fb 40 0 fun _ => ?_
 refine KS ?_
 refine Oa (Ab [vl pa0 pk0 p.Funcs]) fun p2 => Oa (Al ze65 [vi 0, vi 0, vi 0, vi 0]) fun p3 => Oq Va (KS ?_)
 refine Oq (VldA sh25 1) ?_
 refine letv (r4_Valid p) fun rv4 hg5 => ?_
 have hc6 := fn51 p pa0 pk0 rv4 hg5
 refine Oc [2] ca51 hc6 ?_
 rintro - -
 refine Oq Vnot (KS ?_)
 refine Kc ?_ ?_
 ·intro h7
  have h9 := not_true h7
  refine KS ?_
  refine Oq (Vbd st65 [vi 0, vi 0, vi 0, vi 0]) (Ost (Scl [0] sh65 [vi 0, vi 0, vi 0, vi 0]) (Oq Va (KS ?_)))
  have hq := q4 hrr ((GNode.mk 0 0 0 0), 1) (by simp only [r4_Check, h7, h9, hg5, cs4]); subst hq
  exact Kr () rfl (.cellN 0 rfl sh65 rfl (reads_Cl _ _) rfl (.tmp rfl .nil)) [] en
 intro h7
 have h12 := not_false h7
 refine KS ?_
 refine Oq (VldA sh25 1) ?_
 refine letv (r4_funcNames p) fun rv15 hg16 => ?_
 have hc17 := fn53 p pa0 pk0 rv15 hg16
 refine Oc [2] ca53 hc17 ?_
 rintro c14 -
 refine Jo 0 ?_; rintro a18 k19 rfl
 refine Fb 16 0 fun _ => ?_
 refine FoS 0 fun ho21 => ?_
 refine letv (r4_repeated rv15) fun rv22 hg23 => ?_
 have hc24 := fn52 rv15 a18 k19 rv22 hg23
 refine Oc [0] ca52 hc24 ?_
 rintro - he25
 unfold i64ok at he25
 refine Oq Va (KS ?_)
 refine Oq Vm (Oq Vgeq (KS ?_))
 refine Kc ?_ ?_
 ·intro h26
  have g27 := dt h26
  refine KS ?_
  refine Oq Vm (Oq (Vbd st65 [vi 1, vi rv22, vi (-1), vi (-1)]) (Ost (Scl [1] sh65 [vi 1, vi rv22, vi (-1), vi (-1)]) (Oq Va (KS ?_))))
  have hq := q4 hrr ((GNode.mk 1 rv22 (-1) (-1)), 6) (by simp only [r4_Check, h7, h12, h26, hg5, hg16, hg23, cs4]); subst hq
  exact Kr () rfl (.cellN 0 rfl sh65 rfl (reads_Cl _ _) rfl (.tmp rfl .nil)) [] en
 intro h26
 have g28 := df h26
 refine KS ?_
 refine Oq Va (KS ?_)
 refine Kl (γ := Nat × Int) (fun (r29, i_30) => ⟨[(1, p2), (2, p3), (5, vi i_30)], [Cl p3 [vi 0, vi 0, vi 0, vi 0], pv p2 [vl pa0 pk0 p.Funcs], S pa0 pk0 p.Funcs], r4_Check_L0 p r29 i_30 = r4_Check_L0 p (((p.Funcs.length : Int) - 0).toNat) 0 ∧ r29 = ((p.Funcs.length : Int) - i_30).toNat ∧ (0 : Int) ≤ i_30 ∧ i_30 ≤ (p.Funcs.length : Int) ∧ (-9223372036854775808 ≤ i_30 ∧ i_30 ≤ 9223372036854775807), r29⟩) (((p.Funcs.length : Int) - 0).toNat, 0) [1, 1, 2] ⟨rfl, rfl, aM1, aM1, aM1⟩ ?_
 rintro ⟨r29, i_30⟩ ⟨hM31, hr32, hi33, hi34, hk35⟩
 refine JJ_nx fun _ _ hL hA => ?_; dsimp only at hL hA; subst hL hA
 refine Fb 40 2 fun _ => KS ?_
 refine Oq Vm (Oq (Vfa fo25_0 1) (Oq (VldF sh23 1) (Oq (Vlen sl23) (Oq Vlss (KS ?_)))))
 refine Kc ?_ ?_
 ·intro h37
  have g38 := dt h37
  obtain ⟨r39, rfl⟩ := scc (n := r29) aM1
  refine KS ?_
  refine Oq (Vfa fo25_0 1) (Oq (VldF sh23 1) (Oq Vm (Oq (Vi sl23 2) ?_)))
  refine JJ_peek_GFunc i_30.toNat 2 rfl rng fun a40 k41 hb42 => ?_
  refine Fb 40 1 fun _ => ?_
  refine Oq (VldA sh39 0) (Oa (Al ze39 [.string (bs (Str.mk [])), .slice none 0 0]) fun p44 => Ost (Scl [0] sh39 [.string (bs ((p.Funcs.getD i_30.toNat default).Name)), vl a40 k41 ((p.Funcs.getD i_30.toNat default).Blocks)]) (KS ?_))
  refine Oq (VldA sh39 0) ?_
  refine letv (r4_BlockNames (p.Funcs.getD i_30.toNat default)) fun rv46 hg47 => ?_
  have hc48 := fn54 ((p.Funcs.getD i_30.toNat default)) a40 k41 pre rv46 hg47
  refine Oc [2] ca54 hc48 ?_
  rintro c45 -
  refine Jo 0 ?_; rintro a49 k50 rfl
  refine Fb 16 0 fun _ => ?_
  refine FoS 0 fun ho52 => ?_
  refine letv (r4_repeated rv46) fun rv53 hg54 => ?_
  have hc55 := fn52 rv46 a49 k50 rv53 hg54
  refine Oc [0] ca52 hc55 ?_
  rintro - he56
  unfold i64ok at he56
  refine Oq Va (KS ?_)
  refine Oq Vm (Oq Vgeq (KS ?_))
  refine Kc ?_ ?_
  ·intro h57
   have g58 := dt h57
   refine KS ?_
   refine Oq Vm (Oq Vm (Oq (Vbd st65 [vi 3, vi i_30, vi rv53, vi (-1)]) (Ost (Scl [4] sh65 [vi 3, vi i_30, vi rv53, vi (-1)]) (Oq Va (KS ?_)))))
   have hR59 := q2 hM31 (.ret ((GNode.mk 3 i_30 rv53 (-1)), 6)) (by simp only [r4_Check_L0, h37, h57, hg47, hg54, cs4])
   have hq := q4 hrr ((GNode.mk 3 i_30 rv53 (-1)), 6) (by simp only [r4_Check, h7, h12, h26, h37, h57, hg5, hg16, hg23, hg47, hg54, hR59, cs4]); subst hq
   exact Kr () rfl (.cellN 0 rfl sh65 rfl (reads_Cl _ _) rfl (.tmp rfl .nil)) [] en
  intro h57
  have g60 := df h57
  refine KS ?_
  refine Oq Va (KS ?_)
  refine Kl (γ := Nat × Int) (fun (r61, k_62) => ⟨[(1, p2), (2, p3), (5, vi i_30), (6, p44), (8, vi k_62)], [Cl p44 [.string (bs ((p.Funcs.getD i_30.toNat default).Name)), vl a40 k41 ((p.Funcs.getD i_30.toNat default).Blocks)], S a40 k41 ((p.Funcs.getD i_30.toNat default).Blocks), Cl p3 [vi 0, vi 0, vi 0, vi 0], pv p2 [vl pa0 pk0 p.Funcs], S pa0 pk0 p.Funcs], r4_Check_L1 p i_30 ((p.Funcs.getD i_30.toNat default).Name) ((p.Funcs.getD i_30.toNat default).Blocks) r61 k_62 = r4_Check_L1 p i_30 ((p.Funcs.getD i_30.toNat default).Name) ((p.Funcs.getD i_30.toNat default).Blocks) ((((((p.Funcs.getD i_30.toNat default).Blocks).length : Int) : Int) - 0).toNat) 0 ∧ r61 = (((((p.Funcs.getD i_30.toNat default).Blocks).length : Int) : Int) - k_62).toNat ∧ (0 : Int) ≤ k_62 ∧ (k_62 ≤ (((p.Funcs.getD i_30.toNat default).Blocks).length : Int) ∨ k_62 = 0) ∧ (-9223372036854775808 ≤ k_62 ∧ k_62 ≤ 9223372036854775807), r61⟩) ((((((p.Funcs.getD i_30.toNat default).Blocks).length : Int) : Int) - 0).toNat, 0) [1, 2, 3, 3, 4] ⟨rfl, rfl, aM1, (.inr rfl), aM1⟩ ?_
  rintro ⟨r61, k_62⟩ ⟨hM63, hr64, hi65, hi66, hk67⟩
  refine JJ_nx fun _ _ hL hA => ?_; dsimp only at hL hA; subst hL hA
  refine Fb 40 1 fun _ => Fb 40 4 fun _ => KS ?_
  refine Oq Vm (Oq (Vfa fo39_1 0) (Oq (VldF sh37 0) (Oq (Vlen sl37) (Oq Vlss (KS ?_)))))
  refine Kc ?_ ?_
  ·intro h70
   have g71 := dt h70
   obtain ⟨r72, rfl⟩ := scc (n := r61) aM1
   refine KS ?_
   refine Oq (Vfa fo39_1 0) (Oq (VldF sh37 0) (Oq Vm (Oq (Vi sl37 1) ?_)))
   refine JJ_peek_GBlock k_62.toNat 1 rfl rng fun a73 k74 hb75 => ?_
   refine Fb 72 1 fun _ => ?_
   refine Oq (Vfa fo42_1 0) (Oq (VldF sh40 0) (Oq Va (KS ?_)))
   refine Oq Va (KS ?_)
   refine Kl (γ := Nat × Int) (fun (r77, j_78) => ⟨[(1, p2), (2, p3), (5, vi i_30), (6, p44), (8, vi k_62), (9, .slice a73 (((((p.Funcs.getD i_30.toNat default).Blocks).getD k_62.toNat default).Stmts).length) k74), (10, vi j_78)], [S a73 k74 ((((p.Funcs.getD i_30.toNat default).Blocks).getD k_62.toNat default).Stmts), Cl p44 [.string (bs ((p.Funcs.getD i_30.toNat default).Name)), vl a40 k41 ((p.Funcs.getD i_30.toNat default).Blocks)], S a40 k41 ((p.Funcs.getD i_30.toNat default).Blocks), Cl p3 [vi 0, vi 0, vi 0, vi 0], pv p2 [vl pa0 pk0 p.Funcs], S pa0 pk0 p.Funcs], r4_Check_L2 p i_30 ((p.Funcs.getD i_30.toNat default).Name) ((p.Funcs.getD i_30.toNat default).Blocks) k_62 ((((p.Funcs.getD i_30.toNat default).Blocks).getD k_62.toNat default).Stmts) r77 j_78 = r4_Check_L2 p i_30 ((p.Funcs.getD i_30.toNat default).Name) ((p.Funcs.getD i_30.toNat default).Blocks) k_62 ((((p.Funcs.getD i_30.toNat default).Blocks).getD k_62.toNat default).Stmts) ((((((((p.Funcs.getD i_30.toNat default).Blocks).getD k_62.toNat default).Stmts).length : Int) : Int) - 0).toNat) 0 ∧ r77 = (((((((p.Funcs.getD i_30.toNat default).Blocks).getD k_62.toNat default).Stmts).length : Int) : Int) - j_78).toNat ∧ (0 : Int) ≤ j_78 ∧ (j_78 ≤ (((((p.Funcs.getD i_30.toNat default).Blocks).getD k_62.toNat default).Stmts).length : Int) ∨ j_78 = 0) ∧ (-9223372036854775808 ≤ j_78 ∧ j_78 ≤ 9223372036854775807), r77⟩) ((((((((p.Funcs.getD i_30.toNat default).Blocks).getD k_62.toNat default).Stmts).length : Int) : Int) - 0).toNat, 0) [1, 2, 2, 3, 3, 4] ⟨rfl, rfl, aM1, (.inr rfl), aM1⟩ ?_
   rintro ⟨r77, j_78⟩ ⟨hM79, hr80, hi81, hi82, hk83⟩
   refine JJ_nx fun _ _ hL hA => ?_; dsimp only at hL hA; subst hL hA
   refine Fb 72 0 fun _ => Fb 40 2 fun _ => Fb 40 5 fun _ => KS ?_
   refine Oq Vm (Oq Vm (Oq (Vlen sl40) (Oq Vlss (KS ?_))))
   refine Kc ?_ ?_
   ·intro h87
    have g88 := dt h87
    obtain ⟨r89, rfl⟩ := scc (n := r77) aM1
    refine KS ?_
    refine JJ_peek_GStmt j_78.toNat 0 rfl rng fun a90 k91 a92 k93 hb94 hb95 => ?_
    unfold i64ok at hb94
    refine Fb 16 1 fun _ => ?_
    refine FoS 1 fun ho97 => ?_
    refine Fb 16 2 fun _ => ?_
    refine FoS 2 fun ho99 => ?_
    refine JK_drawK [0, 0, 0, 0, 12, 28, 0, 0, 128, 384, 960, 2047, 4095] fmix ?_
    refine Dv [7] (VldA sh25 0) (Dv [4] (VldA sh39 0) (Dv [] Vm (Dv [] Vm (Dv [3] (Vi sl40 0) (Dv [0] (VldA sh44 0) (Dv [] Vm (Dv [] Vm (Dv [] (Vlen sl40) (Dv [] Vsub ?_)))))))))
    refine Dv [] Veql ?_
    refine letv (r4_stmtErr p (p.Funcs.getD i_30.toNat default) (((((p.Funcs.getD i_30.toNat default).Blocks).getD k_62.toNat default).Stmts).getD j_78.toNat default) (j_78 == ((((((p.Funcs.getD i_30.toNat default).Blocks).getD k_62.toNat default).Stmts).length : Int) - 1))) fun rv100 hg101 => ?_
    refine Dx [1, 2, 5, 8] [] [1, 2, 3, 4, 0] (fun G => vi rv100) [fun G => SP.fact (i64ok rv100)] (fun G => xC [3, 2, 0, 1] ca55 (fn55 p pa0 pk0 ((p.Funcs.getD i_30.toNat default)) a40 k41 ((((((p.Funcs.getD i_30.toNat default).Blocks).getD k_62.toNat default).Stmts).getD j_78.toNat default)) a90 k91 a92 k93 ((j_78 == ((((((p.Funcs.getD i_30.toNat default).Blocks).getD k_62.toNat default).Stmts).length : Int) - 1))) pre pre pre rv100 hg101)) (Dv [] Va ?_)
    refine Dn ⟨by kernel_rfl, fun G => ?_⟩
    refine Jw2 [(1, p2), (2, p3), (5, vi i_30), (6, p44), (8, vi k_62), (9, .slice a73 (((((p.Funcs.getD i_30.toNat default).Blocks).getD k_62.toNat default).Stmts).length) k74), (10, vi j_78), (11, vi rv100)] [0, 1, 2, 3, 4, 5, 6, 7, 8] [SP.fact (i64ok rv100)] ?_
    refine Jf 9 rfl ?_; rintro he102
    unfold i64ok at he102
    refine Jk [0, 1, 2, 3, 4, 4, 5, 5, 6] ?_
    refine KS ?_
    refine Oq Vm (Oq Vneq (KS ?_))
    refine Kc ?_ ?_
    ·intro h103
     have g104 := ne_of_bne h103
     refine KS ?_
     refine Oq Vm (Oq Vm (Oq Vm (Oq (Vbd st65 [vi 3, vi i_30, vi k_62, vi j_78]) (Oq Vm (Ost (Scl [6] sh65 [vi 3, vi i_30, vi k_62, vi j_78]) (Oq Va (KS ?_)))))))
     have hR105 := q2 hM79 (.ret ((GNode.mk 3 i_30 k_62 j_78), rv100)) (by simp only [r4_Check_L2, h87, h103, hg101, cs4])
     have hR106 := q2 hM63 (.ret ((GNode.mk 3 i_30 k_62 j_78), rv100)) (by simp only [r4_Check_L1, h70, h87, h103, hg101, hR105, cs4])
     have hR107 := q2 hM31 (.ret ((GNode.mk 3 i_30 k_62 j_78), rv100)) (by simp only [r4_Check_L0, h37, h57, h70, h87, h103, hg47, hg54, hg101, hR105, hR106, cs4])
     have hq := q4 hrr ((GNode.mk 3 i_30 k_62 j_78), rv100) (by simp only [r4_Check, h7, h12, h26, h37, h57, h70, h87, h103, hg5, hg16, hg23, hg47, hg54, hg101, hR105, hR106, hR107, cs4]); subst hq
     exact Kr () rfl (.cellN 0 rfl sh65 rfl (reads_Cl _ _) rfl (.tmp rfl .nil)) [] en
    intro h103
    have g108 := eq_of_bne_false h103
    refine KS ?_
    refine Oq Vm (Oq Vadd (Oq Va (KS ?_)))
    exact Kg (r89, (j_78 + 1)) [3, 4, 4, 5, 5, 6] ⟨(q3 hM79 (by simp only [r4_Check_L2, h87, h103, hg101, cs4])), aM1, aM1, aM1, aM1⟩
   intro h87
   have g109 := df h87
   obtain rfl : r77 = 0 := by omega
   refine Ke ?_
   have hR110 := q2 hM79 (.brk ()) (by simp only [r4_Check_L2, h87, cs4])
   refine KS ?_
   refine Oq Vm (Oq Vadd (Oq Va (KS ?_)))
   exact Kg (r72, (k_62 + 1)) [1, 1, 2, 2, 3] ⟨(q3 hM63 (by simp only [r4_Check_L1, h70, h87, hR110, cs4])), aM1, aM1, aM1, aM1⟩
  intro h70
  have g111 := df h70
  obtain rfl : r61 = 0 := by omega
  refine Ke ?_
  have hR112 := q2 hM63 (.brk ()) (by simp only [r4_Check_L1, h70, cs4])
  refine KS ?_
  refine Oq Vm (Oq Vadd (Oq Va (KS ?_)))
  exact Kg (r39, (i_30 + 1)) [2, 2, 3] ⟨(q3 hM31 (by simp only [r4_Check_L0, h37, h57, h70, hg47, hg54, hR112, cs4])), aM1, aM1, aM1, aM1⟩
 intro h37
 have g113 := df h37
 obtain rfl : r29 = 0 := by omega
 refine Ke ?_
 have hR114 := q2 hM31 (.brk ()) (by simp only [r4_Check_L0, h37, cs4])
 refine KS ?_
 refine Oq (VldA sh25 1) ?_
 refine letv (r4_Sizes p) fun rv115 hg116 => ?_
 have hc117 := fn56 p pa0 pk0 rv115 hg116
 refine Oc [2] ca56 hc117 ?_
 rintro - ⟨he118, he119⟩
 unfold i64ok at he118 he119
 refine Oq Vm (Oq Vx (Oq Vx (Oq Va (Oq Va (KS ?_)))))
 refine Oq (VldA sh25 1) ?_
 refine letv (r4_Variables p) fun rv121 hg122 => ?_
 have hc123 := fn57 p pa0 pk0 rv121 hg122
 refine Oc [2] ca57 hc123 ?_
 rintro c120 -
 refine Jo 0 ?_; rintro a124 k125 rfl
 refine Fb 16 0 fun _ => ?_
 refine FoS 0 fun ho127 => ?_
 refine Oq (Vlen sl36) (Oq Vgtr (Oq Vm ?_))
 refine Js 92 ?_ ?_
 ·intro h128
  have g129 := dt h128
  refine Osk (Osk (Oq Vpt (Oq Vm (Osk (Osk (Oq Vpt (KS ?_)))))))
  refine Kt (KS ?_)
  refine Oq (Vbd st65 [vi 0, vi 0, vi 0, vi 0]) (Ost (Scl [1] sh65 [vi 0, vi 0, vi 0, vi 0]) (Oq Va (KS ?_)))
  have hq := q4 hrr ((GNode.mk 0 0 0 0), 7) (by simp only [r4_Check, h7, h12, h26, h37, h128, hg5, hg16, hg23, hR114, hg116, hg122, cs4]); subst hq
  exact Kr () rfl (.cellN 0 rfl sh65 rfl (reads_Cl _ _) rfl (.tmp rfl .nil)) [] en
 intro h128
 have g130 := df h128
 refine Oq Vm (Oq Vgtr (Oq Vpf (Oq Vm ?_)))
 refine Js 96 ?_ ?_
 ·intro h131
  have g132 := dt h131
  refine Osk (Osk (Oq Vpt (KS ?_)))
  refine Kt (KS ?_)
  refine Oq (Vbd st65 [vi 0, vi 0, vi 0, vi 0]) (Ost (Scl [1] sh65 [vi 0, vi 0, vi 0, vi 0]) (Oq Va (KS ?_)))
  have hq := q4 hrr ((GNode.mk 0 0 0 0), 7) (by simp only [r4_Check, h7, h12, h26, h37, h128, h131, hg5, hg16, hg23, hR114, hg116, hg122, cs4]); subst hq
  exact Kr () rfl (.cellN 0 rfl sh65 rfl (reads_Cl _ _) rfl (.tmp rfl .nil)) [] en
 intro h131
 have g133 := df h131
 refine Oq Vm (Oq Vgtr (Oq Vpf (KS ?_)))
 refine Kc ?_ ?_
 ·intro h134
  have g135 := dt h134
  refine KS ?_
  refine Oq (Vbd st65 [vi 0, vi 0, vi 0, vi 0]) (Ost (Scl [1] sh65 [vi 0, vi 0, vi 0, vi 0]) (Oq Va (KS ?_)))
  have hq := q4 hrr ((GNode.mk 0 0 0 0), 7) (by simp only [r4_Check, h7, h12, h26, h37, h128, h131, h134, hg5, hg16, hg23, hR114, hg116, hg122, cs4]); subst hq
  exact Kr () rfl (.cellN 0 rfl sh65 rfl (reads_Cl _ _) rfl (.tmp rfl .nil)) [] en
 intro h134
 have g136 := df h134
 refine KS ?_
 refine Oq (Vbd st65 [vi 0, vi 0, vi 0, vi 0]) (Ost (Scl [1] sh65 [vi 0, vi 0, vi 0, vi 0]) (Oq Va (KS ?_)))
 have hq := q4 hrr ((GNode.mk 0 0 0 0), 0) (by simp only [r4_Check, h7, h12, h26, h37, h128, h131, h134, hg5, hg16, hg23, hR114, hg116, hg122, cs4]); subst hq
 exact Kr () rfl (.cellN 0 rfl sh65 rfl (reads_Cl _ _) rfl (.tmp rfl .nil)) [] en
theorem fn29 (p : GProgram) (pa0 : Option Addr) (pk0 : Nat) (rr : List GNode) (hrr : r7_List p = rr) : FT Tryz.prog 29 #[.agg #[vl pa0 pk0 p.Funcs]] [S pa0 pk0 p.Funcs] (fun g : Value => (rr.length ≤ 20000)) (fun g => g) (fun g => [sl g rr]) := by
 refine FTi Tryz.func29 fun w0 M0 F0 => Fb 40 0 fun _ => ?_
 refine KS ?_
 refine Oa (Ab [vl pa0 pk0 p.Funcs]) fun p2 => Oq Va (KS ?_)
 refine Oq Va (KS ?_)
 refine Oq (VldA sh25 0) ?_
 refine letv (r4_Check p) fun rv3 hg4 => ?_
 have hc5 := fn28 p pa0 pk0 rv3 hg4
 refine Oc [1] ca28 hc5 ?_
 rintro - ⟨he6, he7, he8, he9, he10⟩
 unfold i64ok at he6 he7 he8 he9 he10
 refine Oq Vm (Oq Vx (Oq Vx (Oa (Al ze65 [vi 0, vi 0, vi 0, vi 0]) fun p11 => Ost (Scl [0] sh65 [vi rv3.1.Kind, vi rv3.1.Func, vi rv3.1.Block, vi rv3.1.Stmt]) (Oq Va (KS ?_)))))
 refine Oq Vm (Oq Vneq (KS ?_))
 refine Kc ?_ ?_
 ·intro h12
  have g13 := ne_of_bne h12
  refine KS ?_
  refine Oq Va (KS ?_)
  refine Jl [] (Ent.slNil (α := GNode)) ?_
  have hq := q4 hrr ([] : List GNode) (by simp only [r7_List, h12, hg4, cs4]); subst hq
  exact Kr (.slice none 0 0) rfl (.tmp rfl .nil) [0] en
 intro h12
 have g14 := eq_of_bne_false h12
 have hVb := PVal_b (p := p) (Check7_b (by assumption) (by assumption))
 refine KS ?_
 refine Oq Va (KS ?_)
 refine Jl [] (Ent.osNil (α := GNode)) ?_
 refine Kl (γ := Nat × List GNode × Int × Option Addr × Nat) (fun (r15, out_16, i_17, a18, k19) => ⟨[(1, p2), (3, vl a18 k19 out_16), (6, vi i_17)], [O a18 k19 out_16, pv p2 [vl pa0 pk0 p.Funcs], S pa0 pk0 p.Funcs], r7_List_L0 p r15 out_16 i_17 = r7_List_L0 p (((p.Funcs.length : Int) - 0).toNat) [] 0 ∧ r15 = ((p.Funcs.length : Int) - i_17).toNat ∧ (0 : Int) ≤ i_17 ∧ i_17 ≤ (p.Funcs.length : Int) ∧ (-9223372036854775808 ≤ i_17 ∧ i_17 ≤ 9223372036854775807) ∧ ((out_16.length : Int) ≤ 1100 * i_17), r15⟩) (((p.Funcs.length : Int) - 0).toNat, [], 0, none, 0) [0, 1, 2] ⟨rfl, rfl, aM1, aM1, aM1, iv0⟩ ?_
 rintro ⟨r15, out_16, i_17, a18, k19⟩ ⟨hM20, hr21, hi22, hi23, hk24, hv25⟩
 refine JJ_nx fun _ _ hL hA => ?_; dsimp only at hL hA; subst hL hA
 refine Fb 32 0 fun _ => Fb 40 2 fun _ => KS ?_
 refine Oq Vm (Oq (Vfa fo25_0 1) (Oq (VldF sh23 1) (Oq (Vlen sl23) (Oq Vlss (KS ?_)))))
 refine Kc ?_ ?_
 ·intro h28
  have g29 := dt h28
  have hVf := hVb.2 i_17.toNat
  have hb8 : i_17 ≤ 7 := by have := hVb.1; omega
  obtain ⟨r30, rfl⟩ := scc (n := r15) aM1
  refine KS ?_
  refine Oq Vm (Oq Vm (Oq (Vbd st65 [vi 1, vi i_17, vi (-1), vi (-1)]) (Oa (AsV sl48 sz48 [.agg #[vi 1, vi i_17, vi (-1), vi (-1)]] [vi 1, vi i_17, vi (-1), vi (-1)]) fun c31 => ?_)))
  refine Jo 0 ?_; rintro a32 k33 rfl
  refine Jl [0] (Ent.cr1 (α := GNode) (A := []) _ (GNode.mk 1 i_17 (-1) (-1)) _ aB1 (fun h => ⟨rfl, aL1, aL1, aL1, aL1⟩)) ?_
  refine Oa (ApO [1, 0] sl48 sl48 sz48) fun c34 => ?_
  refine Jo 0 ?_; rintro a35 k36 rfl
  refine Fb 32 0 fun _ => ?_
  have hn38 := la out_16 ([(GNode.mk 1 i_17 (-1) (-1))] : List GNode)
  refine Oq Va (KS ?_)
  refine Oq Va (KS ?_)
  refine Kl (γ := Nat × List GNode × Int × Option Addr × Nat) (fun (r39, out_40, k_41, a42, k43) => ⟨[(1, p2), (6, vi i_17), (3, vl a42 k43 out_40), (7, vi k_41)], [O a42 k43 out_40, pv p2 [vl pa0 pk0 p.Funcs], S pa0 pk0 p.Funcs], r7_List_L1 p i_17 r39 out_40 k_41 = r7_List_L1 p i_17 ((((((p.Funcs.getD i_17.toNat default).Blocks).length : Int) : Int) - 0).toNat) (out_16 ++ [(GNode.mk 1 i_17 (-1) (-1))]) 0 ∧ r39 = (((((p.Funcs.getD i_17.toNat default).Blocks).length : Int) : Int) - k_41).toNat ∧ (0 : Int) ≤ k_41 ∧ (k_41 ≤ (((p.Funcs.getD i_17.toNat default).Blocks).length : Int) ∨ k_41 = 0) ∧ (-9223372036854775808 ≤ k_41 ∧ k_41 ≤ 9223372036854775807) ∧ ((out_40.length : Int) ≤ 1100 * i_17 + 1 + 66 * k_41), r39⟩) ((((((p.Funcs.getD i_17.toNat default).Blocks).length : Int) : Int) - 0).toNat, (out_16 ++ [(GNode.mk 1 i_17 (-1) (-1))]), 0, a35, k36) [0, 0, 1] ⟨rfl, rfl, aM1, (.inr rfl), aM1, iv0⟩ ?_
  rintro ⟨r39, out_40, k_41, a42, k43⟩ ⟨hM44, hr45, hi46, hi47, hk48, hv49⟩
  refine JJ_nx fun _ _ hL hA => ?_; dsimp only at hL hA; subst hL hA
  refine Fb 32 0 fun _ => Fb 40 2 fun _ => KS ?_
  refine Oq Vm (Oq (Vfa fo25_0 1) (Oq (VldF sh23 1) (Oq Vm (Oq (Vi sl23 2) ?_))))
  refine JJ_peek_GFunc i_17.toNat 2 rfl rng fun a52 k53 hb54 => ?_
  refine Fb 40 1 fun _ => ?_
  refine Oq (Vfa fo39_1 0) (Oq (VldF sh37 0) (Oq (Vlen sl37) (Oq Vlss (KS ?_))))
  refine Kc ?_ ?_
  ·intro h56
   have g57 := dt h56
   have hVk := hVf.2 k_41.toNat
   have hb16 : k_41 ≤ 15 := by have := hVf.1; omega
   obtain ⟨r58, rfl⟩ := scc (n := r39) aM1
   refine KS ?_
   refine Oq (Vfa fo25_0 3) (Oq (VldF sh23 3) (Oq Vm (Oq (Vi sl23 4) (Oq (Vfa fo39_1 0) (Oq (VldF sh37 0) (Oq Vm (Oq (Vi sl37 1) ?_)))))))
   refine JJ_peek_GBlock k_41.toNat 1 rfl rng fun a59 k60 hb61 => ?_
   refine Fb 72 1 fun _ => ?_
   refine Oq (Vfa fo42_1 0) (Oq (VldF sh40 0) (Oq Va (KS ?_)))
   refine Oq Va (KS ?_)
   refine Kl (γ := Nat × List GNode × Int × Option Addr × Nat) (fun (r63, out_64, j_65, a66, k67) => ⟨[(1, p2), (6, vi i_17), (3, vl a66 k67 out_64), (7, vi k_41), (8, .slice a59 (((((p.Funcs.getD i_17.toNat default).Blocks).getD k_41.toNat default).Stmts).length) k60), (9, vi j_65)], [O a66 k67 out_64, S a59 k60 ((((p.Funcs.getD i_17.toNat default).Blocks).getD k_41.toNat default).Stmts), pv p2 [vl pa0 pk0 p.Funcs], S pa0 pk0 p.Funcs], r7_List_L2 i_17 k_41 ((((p.Funcs.getD i_17.toNat default).Blocks).getD k_41.toNat default).Stmts) r63 out_64 j_65 = r7_List_L2 i_17 k_41 ((((p.Funcs.getD i_17.toNat default).Blocks).getD k_41.toNat default).Stmts) ((((((((p.Funcs.getD i_17.toNat default).Blocks).getD k_41.toNat default).Stmts).length : Int) : Int) - 0).toNat) out_40 0 ∧ r63 = (((((((p.Funcs.getD i_17.toNat default).Blocks).getD k_41.toNat default).Stmts).length : Int) : Int) - j_65).toNat ∧ (0 : Int) ≤ j_65 ∧ (j_65 ≤ (((((p.Funcs.getD i_17.toNat default).Blocks).getD k_41.toNat default).Stmts).length : Int) ∨ j_65 = 0) ∧ (-9223372036854775808 ≤ j_65 ∧ j_65 ≤ 9223372036854775807) ∧ ((out_64.length : Int) ≤ 1100 * i_17 + 1 + 66 * k_41 + 2 * j_65), r63⟩) ((((((((p.Funcs.getD i_17.toNat default).Blocks).getD k_41.toNat default).Stmts).length : Int) : Int) - 0).toNat, out_40, 0, a42, k43) [4, 1, 4, 5] ⟨rfl, rfl, aM1, (.inr rfl), aM1, iv0⟩ ?_
   rintro ⟨r63, out_64, j_65, a66, k67⟩ ⟨hM68, hr69, hi70, hi71, hk72, hv73⟩
   refine JJ_nx fun _ _ hL hA => ?_; dsimp only at hL hA; subst hL hA
   refine Fb 32 0 fun _ => Fb 72 1 fun _ => Fb 40 3 fun _ => KS ?_
   refine Oq Vm (Oq Vm (Oq (Vlen sl40) (Oq Vlss (KS ?_))))
   refine Kc ?_ ?_
   ·intro h77
    have g78 := dt h77
    have hb32 : j_65 ≤ 31 := by have := hVk.1; omega
    obtain ⟨r79, rfl⟩ := scc (n := r63) aM1
    refine KS ?_
    refine Oq Vm (Oq Vm (Oq Vm (Oq Vm (Oq (Vbd st65 [vi 3, vi i_17, vi k_41, vi j_65]) (Oa (AsV sl48 sz48 [.agg #[vi 3, vi i_17, vi k_41, vi j_65]] [vi 3, vi i_17, vi k_41, vi j_65]) fun c80 => ?_)))))
    refine Jo 0 ?_; rintro a81 k82 rfl
    refine Jl [0] (Ent.cr1 (α := GNode) (A := []) _ (GNode.mk 3 i_17 k_41 j_65) _ aB1 (fun h => ⟨rfl, aL1, aL1, aL1, aL1⟩)) ?_
    refine Oa (ApO [1, 0] sl48 sl48 sz48) fun c83 => ?_
    refine Jo 0 ?_; rintro a84 k85 rfl
    refine Fb 32 0 fun _ => ?_
    have hn87 := la out_64 ([(GNode.mk 3 i_17 k_41 j_65)] : List GNode)
    refine Oq Va (KS ?_)
    refine Oq Vm (Oq Vm (Oq (Vi sl40 1) ?_))
    refine JJ_peek_GStmt j_65.toNat 1 rfl rng fun a88 k89 a90 k91 hb92 hb93 => ?_
    unfold i64ok at hb92
    refine Fb 16 1 fun _ => ?_
    refine FoS 1 fun ho95 => ?_
    refine Fb 16 2 fun _ => ?_
    refine FoS 2 fun ho97 => ?_
    refine Oq (Vfa fo44_0 0) (Oq (VldF sh3 0) (Oq Veql (KS ?_)))
    refine Kc ?_ ?_
    ·intro h98
     have g99 := eq_of_beq h98
     refine KS ?_
     refine Oq Vm (Oq Vm (Oq Vm (Oq Vm (Oq (Vbd st65 [vi 4, vi i_17, vi k_41, vi j_65]) (Oa (AsV sl48 sz48 [.agg #[vi 4, vi i_17, vi k_41, vi j_65]] [vi 4, vi i_17, vi k_41, vi j_65]) fun c100 => ?_)))))
     refine Jo 0 ?_; rintro a101 k102 rfl
     refine Jl [0] (Ent.cr1 (α := GNode) (A := []) _ (GNode.mk 4 i_17 k_41 j_65) _ aB1 (fun h => ⟨rfl, aL1, aL1, aL1, aL1⟩)) ?_
     refine Oa (ApO [4, 0] sl48 sl48 sz48) fun c103 => ?_
     refine Jo 0 ?_; rintro a104 k105 rfl
     refine Fb 32 0 fun _ => ?_
     have hn107 := la ((out_64 ++ [(GNode.mk 3 i_17 k_41 j_65)]) : List GNode) ([(GNode.mk 4 i_17 k_41 j_65)] : List GNode)
     refine Oq Va (KS ?_)
     refine Oq Vm (Oq Vadd (Oq Va (KS ?_)))
     exact Kg (r79, ((out_64 ++ [(GNode.mk 3 i_17 k_41 j_65)]) ++ [(GNode.mk 4 i_17 k_41 j_65)]), (j_65 + 1), a104, k105) [0, 3, 4, 5] ⟨(q3 hM68 (by simp only [r7_List_L2, h77, h98, cs4])), aM1, aM1, aM1, aM1, iv1⟩
    intro h98
    have g108 := ne_of_beq_false h98
    refine KS ?_
    refine Oq Vm (Oq Vadd (Oq Va (KS ?_)))
    exact Kg (r79, (out_64 ++ [(GNode.mk 3 i_17 k_41 j_65)]), (j_65 + 1), a84, k85) [3, 3, 4, 5] ⟨(q3 hM68 (by simp only [r7_List_L2, h77, h98, cs4])), aM1, aM1, aM1, aM1, iv1⟩
   intro h77
   have g109 := df h77
   obtain rfl : r63 = 0 := by omega
   refine Ke ?_
   have hR110 := q2 hM68 out_64 (by simp only [r7_List_L2, h77, cs4])
   refine KS ?_
   refine Oq Vm (Oq Vadd (Oq Va (KS ?_)))
   exact Kg (r58, out_64, (k_41 + 1), a66, k67) [0, 1, 2] ⟨(q3 hM44 (by simp only [r7_List_L1, h56, h77, hR110, cs4])), aM1, aM1, aM1, aM1, iv1⟩
  intro h56
  have g111 := df h56
  obtain rfl : r39 = 0 := by omega
  refine Ke ?_
  have hR112 := q2 hM44 out_40 (by simp only [r7_List_L1, h56, cs4])
  refine KS ?_
  refine Oq Vm (Oq Vm (Oq (Vbd st65 [vi 2, vi i_17, vi (-1), vi (-1)]) (Oa (AsV sl48 sz48 [.agg #[vi 2, vi i_17, vi (-1), vi (-1)]] [vi 2, vi i_17, vi (-1), vi (-1)]) fun c113 => ?_)))
  refine Jo 0 ?_; rintro a114 k115 rfl
  refine Jl [0] (Ent.cr1 (α := GNode) (A := []) _ (GNode.mk 2 i_17 (-1) (-1)) _ aB1 (fun h => ⟨rfl, aL1, aL1, aL1, aL1⟩)) ?_
  refine Oa (ApO [3, 0] sl48 sl48 sz48) fun c116 => ?_
  refine Jo 0 ?_; rintro a117 k118 rfl
  refine Fb 32 0 fun _ => ?_
  have hn120 := la out_40 ([(GNode.mk 2 i_17 (-1) (-1))] : List GNode)
  refine Oq Va (KS ?_)
  refine Oq Vm (Oq Vadd (Oq Va (KS ?_)))
  exact Kg (r30, (out_40 ++ [(GNode.mk 2 i_17 (-1) (-1))]), (i_17 + 1), a117, k118) [0, 2, 3] ⟨(q3 hM20 (by simp only [r7_List_L0, h28, h56, hR112, cs4])), aM1, aM1, aM1, aM1, iv1⟩
 intro h28
 have g121 := df h28
 obtain rfl : r15 = 0 := by omega
 refine Ke ?_
 have hR122 := q2 hM20 out_16 (by simp only [r7_List_L0, h28, cs4])
 refine KS ?_
 refine Oq Vm (Oq Va (KS ?_))
 refine Jl [0] (Ent.freeze _ _) ?_
 have hq := q4 hrr out_16 (by simp only [r7_List, h12, h28, hg4, hR122, cs4]); subst hq
 exact Kr (vl a18 k19 out_16) rfl (.tmp rfl .nil) [0] en
theorem fn97 (l : List GNode) (la0 : Option Addr) (lk0 : Nat) (n : GNode) (hn_0 : i64ok n.Kind) (hn_1 : i64ok n.Func) (hn_2 : i64ok n.Block) (hn_3 : i64ok n.Stmt) (rr : Int) (hrr : r7_Index l n = rr) : FT Tryz.prog 97 #[vl la0 lk0 l, .agg #[vi n.Kind, vi n.Func, vi n.Block, vi n.Stmt]] [S la0 lk0 l] (fun g : Unit => i64ok rr ∧ (-1 ≤ rr ∧ rr < (l.length : Int))) (fun g => vi rr) (fun g => []) := by
 refine FTi Tryz.func97 fun w0 M0 F0 => ?_
 unfold i64ok at hn_0 hn_1 hn_2 hn_3
 refine Fb 32 0 fun _ => KS ?_
 refine Oa (Ab [vi n.Kind, vi n.Func, vi n.Block, vi n.Stmt]) fun p2 => Oq Va (KS ?_)
 refine Oq Va (KS ?_)
 refine Kl (γ := Nat × Int) (fun (r3, i_4) => ⟨[(0, vl la0 lk0 l), (3, p2), (5, vi i_4)], [pv p2 [vi n.Kind, vi n.Func, vi n.Block, vi n.Stmt], S la0 lk0 l], r7_Index_L0 l n r3 i_4 = r7_Index_L0 l n (((l.length : Int) - 0).toNat) 0 ∧ r3 = ((l.length : Int) - i_4).toNat ∧ (0 : Int) ≤ i_4 ∧ i_4 ≤ (l.length : Int) ∧ (-9223372036854775808 ≤ i_4 ∧ i_4 ≤ 9223372036854775807), r3⟩) (((l.length : Int) - 0).toNat, 0) [0, 1] ⟨rfl, rfl, aM1, aM1, aM1⟩ ?_
 rintro ⟨r3, i_4⟩ ⟨hM5, hr6, hi7, hi8, hk9⟩
 refine JJ_nx fun _ _ hL hA => ?_; dsimp only at hL hA; subst hL hA
 refine Fb 32 1 fun _ => KS ?_
 refine Oq Vm (Oq Vm (Oq (Vlen sl48) (Oq Vlss (KS ?_))))
 refine Kc ?_ ?_
 ·intro h11
  have g12 := dt h11
  obtain ⟨r13, rfl⟩ := scc (n := r3) aM1
  refine KS ?_
  refine JJ_peek_GNode i_4.toNat 1 rfl rng fun hb14 hb15 hb16 hb17 => ?_
  unfold i64ok at hb14 hb15 hb16 hb17
  refine Kq [0, 0, 3, 7, 0, 31] fmix ?_
  refine Qv [] Vm (Qv [] Vm (Qv [2] (Vi sl48 0) (Qv [0] (VldA sh65 0) (Qv [1] (VldA sh65 0) (Qv [] (VeqA eqi65 (l := [(l.getD i_4.toNat default).Kind, (l.getD i_4.toNat default).Func, (l.getD i_4.toNat default).Block, (l.getD i_4.toNat default).Stmt]) (m := [n.Kind, n.Func, n.Block, n.Stmt])) ?_)))))
  refine Qn ⟨by kernel_rfl, ?_⟩
  refine Kc ?_ ?_
  ·intro h18
   have g19 := eq_of_beq h18
   refine KS ?_
   refine Oq Vm (Oq Va (KS ?_))
   have hR20 := q2 hM5 (.ret i_4) (by simp only [r7_Index_L0, h11, h18, cs4])
   have hq := q4 hrr i_4 (by simp only [r7_Index, h11, h18, hR20, cs4]); subst hq
   exact Kr () rfl (.tmp rfl .nil) [] en
  intro h18
  have g21 := ne_of_beq_false h18
  refine KS ?_
  refine Oq Vm (Oq Vadd (Oq Va (KS ?_)))
  exact Kg (r13, (i_4 + 1)) [1, 2] ⟨(q3 hM5 (by simp only [r7_Index_L0, h11, h18, cs4])), aM1, aM1, aM1, aM1⟩
 intro h11
 have g22 := df h11
 obtain rfl : r3 = 0 := by omega
 refine Ke ?_
 have hR23 := q2 hM5 (.brk ()) (by simp only [r7_Index_L0, h11, cs4])
 refine KS ?_
 refine Oq Va (KS ?_)
 have hq := q4 hrr (-1) (by simp only [r7_Index, h11, hR23, cs4]); subst hq
 exact Kr () rfl (.tmp rfl .nil) [] en
theorem fn58 (l : List GNode) (la0 : Option Addr) (lk0 : Nat) (f : Int) (b : Int) (s : Int) (hf_0 : i64ok f) (hb_0 : i64ok b) (hs_0 : i64ok s) (rr : Int) (hrr : r7_stmtNode l f b s = rr) : FT Tryz.prog 58 #[vl la0 lk0 l, vi f, vi b, vi s] [S la0 lk0 l] (fun g : Unit => i64ok rr) (fun g => vi rr) (fun g => []) := by
 refine FTi Tryz.func58 fun w0 M0 F0 => ?_
 unfold i64ok at hf_0 hb_0 hs_0
 refine Fb 32 0 fun _ => KS ?_
 refine Oq Va (KS ?_)
 refine Oq Vm (Oq Vm (Oq Vm (Oq Vm (Oq (Vbd st65 [vi 3, vi f, vi b, vi s]) ?_))))
 refine letv (r7_Index l (GNode.mk 3 f b s)) fun rv2 hg3 => ?_
 have hc4 := fn97 l la0 lk0 ((GNode.mk 3 f b s)) pre pre pre pre rv2 hg3
 refine Oc [0] ca97 hc4 ?_
 rintro - ⟨he5, he6⟩
 unfold i64ok at he5
 refine Oq Va (KS ?_)
 have hq := q4 hrr rv2 (by simp only [r7_stmtNode, hg3, cs4]); subst hq
 exact Kr () rfl (.tmp rfl .nil) [] en
theorem fn59 (l : List GNode) (la0 : Option Addr) (lk0 : Nat) (f : Int) (hf_0 : i64ok f) (rr : Int × Int) (hrr : r7_ends l f = rr) : FT Tryz.prog 59 #[vl la0 lk0 l, vi f] [S la0 lk0 l] (fun g : Unit => i64ok rr.1 ∧ i64ok rr.2) (fun g => .tuple #[vi rr.1, vi rr.2]) (fun g => []) := by
 refine FTi Tryz.func59 fun w0 M0 F0 => ?_
 unfold i64ok at hf_0
 refine Fb 32 0 fun _ => KS ?_
 refine Oq Va (Oq Va (KS ?_))
 refine Oq Vm (Oq Vm (Oq (Vbd st65 [vi 1, vi f, vi (-1), vi (-1)]) ?_))
 refine letv (r7_Index l (GNode.mk 1 f (-1) (-1))) fun rv2 hg3 => ?_
 have hc4 := fn97 l la0 lk0 ((GNode.mk 1 f (-1) (-1))) pre pre pre pre rv2 hg3
 refine Oc [0] ca97 hc4 ?_
 rintro - ⟨he5, he6⟩
 unfold i64ok at he5
 refine Oq Vm (Oq Vm (Oq (Vbd st65 [vi 2, vi f, vi (-1), vi (-1)]) ?_))
 refine letv (r7_Index l (GNode.mk 2 f (-1) (-1))) fun rv7 hg8 => ?_
 have hc9 := fn97 l la0 lk0 ((GNode.mk 2 f (-1) (-1))) pre pre pre pre rv7 hg8
 refine Oc [0] ca97 hc9 ?_
 rintro - ⟨he10, he11⟩
 unfold i64ok at he10
 refine Oq Va (Oq Va (KS ?_))
 have hq := q4 hrr (rv2, rv7) (by simp only [r7_ends, hg3, hg8, cs4]); subst hq
 exact Kr () rfl (.tmp rfl (.tmp rfl .nil)) [] en
theorem fn60 (p : GProgram) (pa0 : Option Addr) (pk0 : Nat) (name : Str) (hname_0 : name.b.length ≤ 140737488355328) (rr : Int) (hrr : r7_function p name = rr) : FT Tryz.prog 60 #[.agg #[vl pa0 pk0 p.Funcs], .string (bs name)] [S pa0 pk0 p.Funcs] (fun g : Unit => i64ok rr) (fun g => vi rr) (fun g => []) := by
 refine FTi Tryz.func60 fun w0 M0 F0 => Fb 40 0 fun _ => ?_
 refine KS ?_
 refine Oa (Ab [vl pa0 pk0 p.Funcs]) fun p2 => Oq Va (KS ?_)
 refine Oq Va (KS ?_)
 refine Kl (γ := Nat × Int) (fun (r3, i_4) => ⟨[(1, .string (bs name)), (2, p2), (5, vi i_4)], [pv p2 [vl pa0 pk0 p.Funcs], S pa0 pk0 p.Funcs], r7_function_L0 p name r3 i_4 = r7_function_L0 p name (((p.Funcs.length : Int) - 0).toNat) 0 ∧ r3 = ((p.Funcs.length : Int) - i_4).toNat ∧ (0 : Int) ≤ i_4 ∧ i_4 ≤ (p.Funcs.length : Int) ∧ (-9223372036854775808 ≤ i_4 ∧ i_4 ≤ 9223372036854775807), r3⟩) (((p.Funcs.length : Int) - 0).toNat, 0) [0, 1] ⟨rfl, rfl, aM1, aM1, aM1⟩ ?_
 rintro ⟨r3, i_4⟩ ⟨hM5, hr6, hi7, hi8, hk9⟩
 refine JJ_nx fun _ _ hL hA => ?_; dsimp only at hL hA; subst hL hA
 refine Fb 40 1 fun _ => KS ?_
 refine Oq Vm (Oq (Vfa fo25_0 0) (Oq (VldF sh23 0) (Oq (Vlen sl23) (Oq Vlss (KS ?_)))))
 refine Kc ?_ ?_
 ·intro h11
  have g12 := dt h11
  obtain ⟨r13, rfl⟩ := scc (n := r3) aM1
  refine KS ?_
  refine Oq (Vfa fo25_0 0) (Oq (VldF sh23 0) (Oq Vm (Oq (Vi sl23 1) ?_)))
  refine JJ_peek_GFunc i_4.toNat 1 rfl rng fun a14 k15 hb16 => ?_
  refine Fb 40 1 fun _ => ?_
  refine Oq (Vfa fo39_0 0) (Oq (VldF sh9 0) (Oq Vm (Oq (VeqS (l := (p.Funcs.getD i_4.toNat default).Name) (m := name)) (KS ?_))))
  refine Kc ?_ ?_
  ·intro h18
   have g19 := eq_of_beq h18
   refine KS ?_
   refine Oq Vm (Oq Va (KS ?_))
   have hR20 := q2 hM5 (.ret i_4) (by simp only [r7_function_L0, h11, h18, cs4])
   have hq := q4 hrr i_4 (by simp only [r7_function, h11, h18, hR20, cs4]); subst hq
   exact Kr () rfl (.tmp rfl .nil) [] en
  intro h18
  have g21 := ne_of_beq_false h18
  refine KS ?_
  refine Oq Vm (Oq Vadd (Oq Va (KS ?_)))
  exact Kg (r13, (i_4 + 1)) [2, 3] ⟨(q3 hM5 (by simp only [r7_function_L0, h11, h18, cs4])), aM1, aM1, aM1, aM1⟩
 intro h11
 have g22 := df h11
 obtain rfl : r3 = 0 := by omega
 refine Ke ?_
 have hR23 := q2 hM5 (.brk ()) (by simp only [r7_function_L0, h11, cs4])
 refine KS ?_
 refine Oq Va (KS ?_)
 have hq := q4 hrr (-1) (by simp only [r7_function, h11, hR23, cs4]); subst hq
 exact Kr () rfl (.tmp rfl .nil) [] en
theorem fn30 (p : GProgram) (pa0 : Option Addr) (pk0 : Nat) (l : List GNode) (la0 : Option Addr) (lk0 : Nat) (i : Int) (hi_0 : i64ok i) (hck : CkP p) (hl : l = nF 0 p.Funcs) (hi0 : 0 ≤ i ∧ i < (l.length : Int) ∧ l.length ≤ 20000) (rr : List Int) (hrr : r7_successors p l i = rr) : FT Tryz.prog 30 #[.agg #[vl pa0 pk0 p.Funcs], vl la0 lk0 l, vi i] [S pa0 pk0 p.Funcs, S la0 lk0 l] (fun g : Value => (∀ x ∈ rr, 0 ≤ x ∧ x < (l.length : Int))) (fun g => g) (fun g => [sl g rr]) := by
 refine FTi Tryz.func30 fun w0 M0 F0 => ?_
 unfold i64ok at hi_0
 refine Fb 40 0 fun _ => Fb 32 1 fun _ => ?_
 have hni := NI_of hck hl (i := i) aM1
 obtain ⟨hn1, hn2, hn4, hn5⟩ := hni
 refine KS ?_
 refine Oa (Ab [vl pa0 pk0 p.Funcs]) fun p3 => Oq Va (KS ?_)
 refine Oq Vm (Oq Vm (Oq (Vi sl48 2) ?_))
 refine JJ_peek_GNode i.toNat 2 rfl rng fun hb4 hb5 hb6 hb7 => ?_
 unfold i64ok at hb4 hb5 hb6 hb7
 refine Oq (VldA sh65 0) (Oa (Al ze65 [vi 0, vi 0, vi 0, vi 0]) fun p8 => Ost (Scl [0] sh65 [vi ((l.getD i.toNat default).Kind), vi ((l.getD i.toNat default).Func), vi ((l.getD i.toNat default).Block), vi ((l.getD i.toNat default).Stmt)]) (KS ?_))
 refine Oq (Vfa fo65_0 0) (Oq (VldF sh3 0) (Oq Veql (KS ?_)))
 refine Kc ?_ ?_
 ·intro h9
  have g10 := eq_of_beq h9
  refine KS ?_
  refine Oq Vm (Oq (Vfa fo65_1 0) (Oq (VldF sh3 0) ?_))
  refine letv (r7_stmtNode l ((l.getD i.toNat default).Func) 0 0) fun rv11 hg12 => ?_
  have hc13 := fn58 l la0 lk0 ((l.getD i.toNat default).Func) 0 0 pre pre pre rv11 hg12
  refine Oc [4] ca58 hc13 ?_
  rintro - he14
  unfold i64ok at he14
  refine Oa (AsV sl22 sz22 [vi rv11] [vi rv11]) fun c15 => ?_
  refine Jo 0 ?_; rintro a16 k17 rfl
  refine Oq Va (KS ?_)
  refine Jl [0] (Ent.crInt _ [rv11] _ _ rfl rfl (by intro x hx; rw [List.mem_singleton] at hx; subst hx; unfold i64ok; omega) aB1) ?_
  refine Jl [0] (Ent.freeze _ _) ?_
  have hq := q4 hrr [rv11] (by simp only [r7_successors, h9, hg12, cs4]); subst hq
  exact Kr (.slice a16 1 k17) rfl (.tmp rfl .nil) [0] (suc_rg hck hl aM1 hrr)
 intro h9
 have g18 := ne_of_beq_false h9
 refine KS ?_
 refine Oq (Vfa fo65_0 0) (Oq (VldF sh3 0) (Oq Veql (KS ?_)))
 refine Kc ?_ ?_
 ·intro h19
  have g20 := eq_of_beq h19
  refine KS ?_
  refine Oq Va (KS ?_)
  refine Oq Va (KS ?_)
  refine Jl [] (Ent.osNil (α := Int)) ?_
  refine Kl (γ := Nat × List Int × Int × Option Addr × Nat) (fun (r21, out_22, k_23, a24, k25) => ⟨[(1, vl la0 lk0 l), (3, p3), (7, p8), (8, vl a24 k25 out_22), (9, vi k_23)], [O a24 k25 out_22, Cl p8 [vi ((l.getD i.toNat default).Kind), vi ((l.getD i.toNat default).Func), vi ((l.getD i.toNat default).Block), vi ((l.getD i.toNat default).Stmt)], pv p3 [vl pa0 pk0 p.Funcs], S pa0 pk0 p.Funcs, S la0 lk0 l], r7_successors_L0 p l i r21 out_22 k_23 = r7_successors_L0 p l i (((l.length : Int) - 0).toNat) [] 0 ∧ r21 = ((l.length : Int) - k_23).toNat ∧ (0 : Int) ≤ k_23 ∧ k_23 ≤ (l.length : Int) ∧ (-9223372036854775808 ≤ k_23 ∧ k_23 ≤ 9223372036854775807) ∧ ((out_22.length : Int) ≤ k_23), r21⟩) (((l.length : Int) - 0).toNat, [], 0, none, 0) [0, 0, 1, 2, 3] ⟨rfl, rfl, aM1, aM1, aM1, iv0⟩ ?_
  rintro ⟨r21, out_22, k_23, a24, k25⟩ ⟨hM26, hr27, hi28, hi29, hk30, hv31⟩
  refine JJ_nx fun _ _ hL hA => ?_; dsimp only at hL hA; subst hL hA
  refine Fb 8 0 fun _ => Fo 0 fun ho33 => Fb 40 3 fun _ => Fb 32 4 fun _ => KS ?_
  refine Oq Vm (Oq Vm (Oq (Vlen sl48) (Oq Vlss (KS ?_))))
  refine Kc ?_ ?_
  ·intro h36
   have g37 := dt h36
   obtain ⟨r38, rfl⟩ := scc (n := r21) aM1
   refine KS ?_
   refine JJ_peek_GNode k_23.toNat 4 rfl rng fun hb39 hb40 hb41 hb42 => ?_
   unfold i64ok at hb39 hb40 hb41 hb42
   refine bool_split ((l.getD k_23.toNat default).Kind == 4) ?_ ?_
   ·intro h43
    have g44 := eq_of_beq h43
    have hk4 := NI_of hck hl (i := k_23) aM1
    obtain ⟨hk1, hk2, -, hk5⟩ := hk4
    have hk3 := hk2 (by have := eq_of_beq h43; omega) (by have := eq_of_beq h43; omega)
    have hT4 := hk5 (eq_of_beq h43)
    refine JJ_peek_GFunc ((l.getD k_23.toNat default).Func : Int).toNat 4 rfl rng fun a45 k46 hb47 => ?_
    refine Fb 40 1 fun _ => ?_
    refine JJ_peek_GBlock ((l.getD k_23.toNat default).Block : Int).toNat 1 rfl rng fun a49 k50 hb51 => ?_
    refine Fb 72 1 fun _ => ?_
    refine JJ_peek_GStmt ((l.getD k_23.toNat default).Stmt : Int).toNat 1 rfl rng fun a53 k54 a55 k56 hb57 hb58 => ?_
    unfold i64ok at hb57
    refine Fb 16 1 fun _ => ?_
    refine FoS 1 fun ho60 => ?_
    refine Fb 16 2 fun _ => ?_
    refine FoS 2 fun ho62 => ?_
    refine Jp 9 fun hp63 => ?_
    refine JJ_peek_GFunc ((l.getD i.toNat default).Func : Int).toNat 12 rfl rng fun a64 k65 hb66 => ?_
    refine Fb 40 1 fun _ => ?_
    refine Kq [0, 0, 3, 7, 15, 31, 63, 127, 255, 127, 127, 1663, 3711, 7807, 16383, 32767, 65535, 127, 127, 393343, 917631, 1966207, 4194303, 8388607, 16777215, 127, 127, 100663423, 234881151, 503316607, 1073741823, 2147483647, 4294967295, 8589934591, 17179869183, 127, 34359738495, 127, 137438953599, 515396075647, 1065151889535, 2164663517311, 4398046511103, 8796093022207] fmix ?_
    refine Qv [] Vm (Qv [] Vm (Qv [15] (Vi sl48 0) (Qv [10] (Vfa fo65_0 0) (Qv [10] (VldF sh3 0) (Qb h43 [] Veql (Qv [] Vm (Qv [13] (Vfa fo25_0 0) (Qv [13] (VldF sh23 0) (Qv [] Vm ?_)))))))))
    refine Qv [] Vm (Qv [15] (Vi sl48 0) (Qv [10] (Vfa fo65_1 0) (Qv [10] (VldF sh3 0) (Qv [14] (Vi sl23 0) (Qv [8] (Vfa fo39_1 0) (Qv [8] (VldF sh37 0) (Qv [] Vm (Qv [] Vm (Qv [15] (Vi sl48 0) ?_)))))))))
    refine Qv [10] (Vfa fo65_2 0) (Qv [10] (VldF sh3 0) (Qv [9] (Vi sl37 0) (Qv [6] (Vfa fo42_1 0) (Qv [6] (VldF sh40 0) (Qv [] Vm (Qv [] Vm (Qv [15] (Vi sl48 0) (Qv [10] (Vfa fo65_3 0) (Qv [10] (VldF sh3 0) ?_)))))))))
    refine Qv [7] (Vi sl40 0) (Qv [3] (Vfa fo44_3 0) (Qv [3] (VldF sh36 0) (Qv [5] (Vi sl36 0) ?_)))
    have hb68 := okS (i := (0 : Int).toNat) ho62 rng
    refine Qv [5] (VldS sh9 0) (Qv [13] (Vfa fo25_0 0) (Qv [13] (VldF sh23 0) (Qv [2] (Vfa fo65_1 0) (Qv [12] (VldF sh3 0) (Qv [14] (Vi sl23 0) (Qv [0] (Vfa fo39_0 0) (Qv [0] (VldF sh9 0) (Qv [] (VeqS (l := (((((((p.Funcs.getD ((l.getD k_23.toNat default).Func : Int).toNat default).Blocks).getD ((l.getD k_23.toNat default).Block : Int).toNat default).Stmts).getD ((l.getD k_23.toNat default).Stmt : Int).toNat default).Targets).getD (0 : Int).toNat default)) (m := (p.Funcs.getD ((l.getD i.toNat default).Func : Int).toNat default).Name)) (Qv [] Vpt ?_)))))))))
    refine Qn ⟨by kernel_rfl, ?_⟩
    refine Kc ?_ ?_
    ·intro h69
     have g70 := eq_of_beq h69
     refine KS ?_
     refine Oq Vm (Oq Vm (Oa (AsV sl22 sz22 [vi k_23] [vi k_23]) fun c71 => ?_))
     refine Jo 0 ?_; rintro a72 k73 rfl
     refine Jl [0] (Ent.crInt _ [k_23] _ _ rfl rfl (by intro x hx; rw [List.mem_singleton] at hx; subst hx; unfold i64ok; omega) aB1) ?_
     refine Oa (ApO [12, 0] sl22 sl22 sz22) fun c74 => ?_
     refine Jo 0 ?_; rintro a75 k76 rfl
     refine Fb 8 0 fun _ => Fo 0 fun ho78 => ?_
     have hn79 := la out_22 ([k_23] : List Int)
     refine Oq Va (KS ?_)
     refine Oq Vm (Oq Vadd (Oq Va (KS ?_)))
     exact Kg (r38, (out_22 ++ [k_23]), (k_23 + 1), a75, k76) [0, 11, 11, 12, 13] ⟨(q3 hM26 (by simp only [r7_successors_L0, h36, h43, h69, cs4])), aM1, aM1, aM1, aM1, iv1⟩
    intro h69
    have g80 := ne_of_beq_false h69
    refine KS ?_
    refine Oq Vm (Oq Vadd (Oq Va (KS ?_)))
    exact Kg (r38, out_22, (k_23 + 1), a24, k25) [11, 11, 11, 12, 13] ⟨(q3 hM26 (by simp only [r7_successors_L0, h36, h43, h69, cs4])), aM1, aM1, aM1, aM1, iv1⟩
   intro h43
   have g81 := ne_of_beq_false h43
   refine Kq [0, 0, 3, 7, 15, 31, 63, 127, 255, 127, 127, 1663, 3711, 7807, 16383, 32767, 65535, 127, 127, 393343, 917631, 1966207, 4194303, 8388607, 16777215, 127, 127, 100663423, 234881151, 503316607, 1073741823, 2147483647, 4294967295, 8589934591, 17179869183, 127, 34359738495, 127, 137438953599, 515396075647, 1065151889535, 2164663517311, 4398046511103, 8796093022207] fmix ?_
   refine Qv [] Vm (Qv [] Vm (Qv [5] (Vi sl48 0) (Qv [0] (Vfa fo65_0 0) (Qv [0] (VldF sh3 0) (Qb h43 [] Veql (Qv [] Vm (Qs (Qs (Qs ?_)))))))))
   refine Qs (Qs (Qs (Qs (Qs (Qs (Qs (Qs (Qs (Qs ?_)))))))))
   refine Qs (Qs (Qs (Qs (Qs (Qs (Qs (Qs (Qs (Qs ?_)))))))))
   refine Qs (Qs (Qs (Qs (Qs (Qs (Qs (Qs (Qs (Qs ?_)))))))))
   refine Qs (Qs (Qs (Qv [] Vpf ?_)))
   refine Qn ⟨by kernel_rfl, ?_⟩
   refine Kf (KS ?_)
   refine Oq Vm (Oq Vadd (Oq Va (KS ?_)))
   exact Kg (r38, out_22, (k_23 + 1), a24, k25) [1, 1, 1, 2, 3] ⟨(q3 hM26 (by simp only [r7_successors_L0, h36, h43, cs4])), aM1, aM1, aM1, aM1, iv1⟩
  intro h36
  have g82 := df h36
  obtain rfl : r21 = 0 := by omega
  refine Ke ?_
  have hR83 := q2 hM26 out_22 (by simp only [r7_successors_L0, h36, cs4])
  refine KS ?_
  refine Oq Vm (Oq Va (KS ?_))
  refine Jl [0] (Ent.freeze _ _) ?_
  have hq := q4 hrr out_22 (by simp only [r7_successors, h9, h19, h36, hR83, cs4]); subst hq
  exact Kr (vl a24 k25 out_22) rfl (.tmp rfl .nil) [0] (suc_rg hck hl aM1 hrr)
 intro h19
 have g84 := ne_of_beq_false h19
 have hn3 := hn2 (by assumption) (by simpa using h19)
 refine KS ?_
 refine Jp 0 fun hp85 => ?_
 refine JJ_peek_GFunc ((l.getD i.toNat default).Func : Int).toNat 4 rfl rng fun a86 k87 hb88 => ?_
 refine Fb 40 1 fun _ => ?_
 refine JJ_peek_GBlock ((l.getD i.toNat default).Block : Int).toNat 1 rfl rng fun a90 k91 hb92 => ?_
 refine Fb 72 1 fun _ => ?_
 refine JJ_peek_GStmt ((l.getD i.toNat default).Stmt : Int).toNat 1 rfl rng fun a94 k95 a96 k97 hb98 hb99 => ?_
 unfold i64ok at hb98
 refine Fb 16 1 fun _ => ?_
 refine FoS 1 fun ho101 => ?_
 refine Fb 16 2 fun _ => ?_
 refine FoS 2 fun ho103 => ?_
 refine JK_drawK [0, 1, 0, 4, 15, 31, 63, 0, 128, 511, 1023, 2047, 0, 4096, 16383, 32767, 0, 131071] fmix ?_
 refine Dv [10] (Vfa fo25_0 0) (Dv [10] (VldF sh23 0) (Dv [7] (Vfa fo65_1 0) (Dv [8] (VldF sh3 0) (Dv [11] (Vi sl23 0) (Dv [5] (Vfa fo39_1 0) (Dv [5] (VldF sh37 0) (Dv [7] (Vfa fo65_2 0) (Dv [8] (VldF sh3 0) (Dv [6] (Vi sl37 0) ?_)))))))))
 refine Dv [3] (Vfa fo42_1 0) (Dv [3] (VldF sh40 0) (Dv [7] (Vfa fo65_3 0) (Dv [8] (VldF sh3 0) (Dv [4] (Vi sl40 0) (Dv [0] (VldA sh44 0) (Dx [] [] [0] (fun G => (G.g 16 0)) [fun G => Cl (G.g 16 0) [vi 0, .string (bs (Str.mk [])), .slice none 0 0, .slice none 0 0]] (fun G => xA (Al ze44 [vi 0, .string (bs (Str.mk [])), .slice none 0 0, .slice none 0 0])) (Dx0 [13] [13] [0] [fun G => Cl (G.g 16 0) [vi ((((((p.Funcs.getD ((l.getD i.toNat default).Func : Int).toNat default).Blocks).getD ((l.getD i.toNat default).Block : Int).toNat default).Stmts).getD ((l.getD i.toNat default).Stmt : Int).toNat default).Op), .string (bs ((((((p.Funcs.getD ((l.getD i.toNat default).Func : Int).toNat default).Blocks).getD ((l.getD i.toNat default).Block : Int).toNat default).Stmts).getD ((l.getD i.toNat default).Stmt : Int).toNat default).Def)), .slice a94 (((((((p.Funcs.getD ((l.getD i.toNat default).Func : Int).toNat default).Blocks).getD ((l.getD i.toNat default).Block : Int).toNat default).Stmts).getD ((l.getD i.toNat default).Stmt : Int).toNat default).Uses).length) k95, .slice a96 (((((((p.Funcs.getD ((l.getD i.toNat default).Func : Int).toNat default).Blocks).getD ((l.getD i.toNat default).Block : Int).toNat default).Stmts).getD ((l.getD i.toNat default).Stmt : Int).toNat default).Targets).length) k97]] (fun G => xS (Scl [0] sh44 [vi ((((((p.Funcs.getD ((l.getD i.toNat default).Func : Int).toNat default).Blocks).getD ((l.getD i.toNat default).Block : Int).toNat default).Stmts).getD ((l.getD i.toNat default).Stmt : Int).toNat default).Op), .string (bs ((((((p.Funcs.getD ((l.getD i.toNat default).Func : Int).toNat default).Blocks).getD ((l.getD i.toNat default).Block : Int).toNat default).Stmts).getD ((l.getD i.toNat default).Stmt : Int).toNat default).Def)), .slice a94 (((((((p.Funcs.getD ((l.getD i.toNat default).Func : Int).toNat default).Blocks).getD ((l.getD i.toNat default).Block : Int).toNat default).Stmts).getD ((l.getD i.toNat default).Stmt : Int).toNat default).Uses).length) k95, .slice a96 (((((((p.Funcs.getD ((l.getD i.toNat default).Func : Int).toNat default).Blocks).getD ((l.getD i.toNat default).Block : Int).toNat default).Stmts).getD ((l.getD i.toNat default).Stmt : Int).toNat default).Targets).length) k97])) ?_)))))))
 refine Dn ⟨by kernel_rfl, fun G => ?_⟩
 refine Jw2 [(1, vl la0 lk0 l), (3, p3), (7, p8), (10, (G.g 16 0))] [0, 1, 2, 3, 4, 5, 6, 7, 8, 9, 10, 11, 12] [Cl (G.g 16 0) [vi ((((((p.Funcs.getD ((l.getD i.toNat default).Func : Int).toNat default).Blocks).getD ((l.getD i.toNat default).Block : Int).toNat default).Stmts).getD ((l.getD i.toNat default).Stmt : Int).toNat default).Op), .string (bs ((((((p.Funcs.getD ((l.getD i.toNat default).Func : Int).toNat default).Blocks).getD ((l.getD i.toNat default).Block : Int).toNat default).Stmts).getD ((l.getD i.toNat default).Stmt : Int).toNat default).Def)), .slice a94 (((((((p.Funcs.getD ((l.getD i.toNat default).Func : Int).toNat default).Blocks).getD ((l.getD i.toNat default).Block : Int).toNat default).Stmts).getD ((l.getD i.toNat default).Stmt : Int).toNat default).Uses).length) k95, .slice a96 (((((((p.Funcs.getD ((l.getD i.toNat default).Func : Int).toNat default).Blocks).getD ((l.getD i.toNat default).Block : Int).toNat default).Stmts).getD ((l.getD i.toNat default).Stmt : Int).toNat default).Targets).length) k97]] ?_
 generalize G.g 16 0 = p104
 refine Jk [0, 1, 2, 3, 4, 5, 6, 8, 8, 9, 10, 11, 12] ?_
 refine KS ?_
 refine Oq Vm (Oq (Vfa fo65_1 7) (Oq (VldF sh3 7) ?_))
 refine letv (r7_ends l ((l.getD i.toNat default).Func)) fun rv105 hg106 => ?_
 have hc107 := fn59 l la0 lk0 ((l.getD i.toNat default).Func) pre rv105 hg106
 refine Oc [11] ca59 hc107 ?_
 rintro - ⟨he108, he109⟩
 unfold i64ok at he108 he109
 refine Oq Vm (Oq Vx (Oq Vx (Oq Va (Oq Va (KS ?_)))))
 refine Oq (Vfa fo44_0 12) (Oq (VldF sh3 12) (Oq Veql (Oq Va (KS ?_))))
 refine Kc ?_ ?_
 ·intro h110
  have g111 := eq_of_beq h110
  refine KS ?_
  refine Oq Vm (Oa (AsV sl22 sz22 [vi rv105.2] [vi rv105.2]) fun c112 => ?_)
  refine Jo 0 ?_; rintro a113 k114 rfl
  refine Oq Va (KS ?_)
  refine Jl [0] (Ent.crInt _ [rv105.2] _ _ rfl rfl (by intro x hx; rw [List.mem_singleton] at hx; subst hx; unfold i64ok; omega) aB1) ?_
  refine Jl [0] (Ent.freeze _ _) ?_
  have hq := q4 hrr [rv105.2] (by simp only [r7_successors, h9, h19, h110, hg106, cs4]); subst hq
  exact Kr (.slice a113 1 k114) rfl (.tmp rfl .nil) [0] (suc_rg hck hl aM1 hrr)
 intro h110
 have g115 := ne_of_beq_false h110
 refine KS ?_
 refine Oq (Vfa fo44_0 12) (Oq (VldF sh3 12) (Oq Veql (Oq Vm ?_)))
 refine Js 120 ?_ ?_
 ·intro h116
  have g117 := eq_of_beq h116
  have hT0 := hn4 (eq_of_beq h116)
  refine Oq (Vfa fo65_0 7) (Oq (VldF sh3 7) (Oq Veql (Oq Vpt (Oq Va (KS ?_)))))
  refine Kc ?_ ?_
  ·intro h118
   have g119 := eq_of_beq h118
   refine KS ?_
   refine Jp 12 fun hp120 => ?_
   refine JK_drawK [0, 0, 0, 4, 12, 28, 62, 127, 255, 511, 511, 1023, 4095] fmix ?_
   refine Dv [] Vm (Dv [10] (VldA sh25 0) (Dv [0] (Vfa fo44_3 0) (Dv [13] (VldF sh36 0) (Dv [3] (Vi sl36 0) ?_))))
   have hb121 := okS (i := (0 : Int).toNat) ho103 rng
   refine Dv [3] (VldS sh9 0) ?_
   refine letv (r7_function p (((((((p.Funcs.getD ((l.getD i.toNat default).Func : Int).toNat default).Blocks).getD ((l.getD i.toNat default).Block : Int).toNat default).Stmts).getD ((l.getD i.toNat default).Stmt : Int).toNat default).Targets).getD (0 : Int).toNat default)) fun rv122 hg123 => Dx [11] [] [1, 0] (fun G => vi rv122) [fun G => SP.fact (i64ok rv122)] (fun G => xC [0] ca60 (fn60 p pa0 pk0 ((((((((p.Funcs.getD ((l.getD i.toNat default).Func : Int).toNat default).Blocks).getD ((l.getD i.toNat default).Block : Int).toNat default).Stmts).getD ((l.getD i.toNat default).Stmt : Int).toNat default).Targets).getD (0 : Int).toNat default)) pre rv122 hg123)) ?_
   refine letv (r7_ends l rv122) fun rv124 hg125 => ?_
   refine Dx [12, 14] [] [1, 2, 0] (fun G => .tuple #[vi rv124.1, vi rv124.2]) [fun G => SP.fact (i64ok rv124.1 ∧ i64ok rv124.2)] (fun G => by refine xf 1 rfl ?_; rintro he126; unfold i64ok at he126; exact xC [0] ca59 (fn59 l la0 lk0 rv122 pre rv124 hg125)) (Dv [] Vm (Dv [] Vx (Dv [] Vx (Dv [] Va (Dv [] Va ?_)))))
   refine Dn ⟨by kernel_rfl, fun G => ?_⟩
   refine Jw2 [(13, vi rv124.1)] [0, 1, 2, 3, 4, 5, 6, 7, 8, 9, 10, 11, 12, 13] [SP.fact (i64ok rv122), SP.fact (i64ok rv124.1 ∧ i64ok rv124.2)] ?_
   refine Jf 14 rfl ?_; rintro he127
   unfold i64ok at he127
   refine Jf 15 rfl ?_; rintro ⟨he128, he129⟩
   unfold i64ok at he128 he129
   refine Jk [1, 2, 3, 4, 5, 6, 7, 8, 8, 9, 10, 11, 12] ?_
   refine KS ?_
   refine Oq Vm (Oa (AsV sl22 sz22 [vi rv124.1] [vi rv124.1]) fun c130 => ?_)
   refine Jo 0 ?_; rintro a131 k132 rfl
   refine Oq Va (KS ?_)
   refine Jl [0] (Ent.crInt _ [rv124.1] _ _ rfl rfl (by intro x hx; rw [List.mem_singleton] at hx; subst hx; unfold i64ok; omega) aB1) ?_
   refine Jl [0] (Ent.freeze _ _) ?_
   have hq := q4 hrr [rv124.1] (by simp only [r7_successors, h9, h19, h110, h116, h118, hg106, hg123, hg125, cs4]); subst hq
   exact Kr (.slice a131 1 k132) rfl (.tmp rfl .nil) [0] (suc_rg hck hl aM1 hrr)
  intro h118
  have g133 := ne_of_beq_false h118
  refine KS ?_
  refine Oq (Vfa fo44_0 12) (Oq (VldF sh3 12) (Oq Veql (Oq Vm ?_)))
  refine Js 142 ?_ ?_
  ·intro h134
   have g135 := eq_of_beq h134
   refine Osk (Osk (Osk (Oq Vpt (Oq Va (KS ?_)))))
   refine Kt (KS ?_)
   refine Oq Va (KS ?_)
   refine Oq Va (KS ?_)
   refine Jl [] (Ent.osNil (α := Int)) ?_
   refine Kl (γ := Nat × List Int × Int × Option Addr × Nat) (fun (r136, out_137, t_138, a139, k140) => ⟨[(1, vl la0 lk0 l), (3, p3), (7, p8), (10, p104), (15, vl a139 k140 out_137), (16, vi t_138)], [O a139 k140 out_137, S a94 k95 ((((((p.Funcs.getD ((l.getD i.toNat default).Func : Int).toNat default).Blocks).getD ((l.getD i.toNat default).Block : Int).toNat default).Stmts).getD ((l.getD i.toNat default).Stmt : Int).toNat default).Uses), S a96 k97 ((((((p.Funcs.getD ((l.getD i.toNat default).Func : Int).toNat default).Blocks).getD ((l.getD i.toNat default).Block : Int).toNat default).Stmts).getD ((l.getD i.toNat default).Stmt : Int).toNat default).Targets), Cl p8 [vi ((l.getD i.toNat default).Kind), vi ((l.getD i.toNat default).Func), vi ((l.getD i.toNat default).Block), vi ((l.getD i.toNat default).Stmt)], pv p3 [vl pa0 pk0 p.Funcs], S pa0 pk0 p.Funcs, S la0 lk0 l, Cl p104 [vi ((((((p.Funcs.getD ((l.getD i.toNat default).Func : Int).toNat default).Blocks).getD ((l.getD i.toNat default).Block : Int).toNat default).Stmts).getD ((l.getD i.toNat default).Stmt : Int).toNat default).Op), .string (bs ((((((p.Funcs.getD ((l.getD i.toNat default).Func : Int).toNat default).Blocks).getD ((l.getD i.toNat default).Block : Int).toNat default).Stmts).getD ((l.getD i.toNat default).Stmt : Int).toNat default).Def)), .slice a94 (((((((p.Funcs.getD ((l.getD i.toNat default).Func : Int).toNat default).Blocks).getD ((l.getD i.toNat default).Block : Int).toNat default).Stmts).getD ((l.getD i.toNat default).Stmt : Int).toNat default).Uses).length) k95, .slice a96 (((((((p.Funcs.getD ((l.getD i.toNat default).Func : Int).toNat default).Blocks).getD ((l.getD i.toNat default).Block : Int).toNat default).Stmts).getD ((l.getD i.toNat default).Stmt : Int).toNat default).Targets).length) k97]], r7_successors_L1 p l i r136 out_137 t_138 = r7_successors_L1 p l i ((((((((((p.Funcs.getD ((l.getD i.toNat default).Func : Int).toNat default).Blocks).getD ((l.getD i.toNat default).Block : Int).toNat default).Stmts).getD ((l.getD i.toNat default).Stmt : Int).toNat default).Targets).length : Int) : Int) - 0).toNat) [] 0 ∧ r136 = (((((((((p.Funcs.getD ((l.getD i.toNat default).Func : Int).toNat default).Blocks).getD ((l.getD i.toNat default).Block : Int).toNat default).Stmts).getD ((l.getD i.toNat default).Stmt : Int).toNat default).Targets).length : Int) : Int) - t_138).toNat ∧ (0 : Int) ≤ t_138 ∧ (t_138 ≤ (((((((p.Funcs.getD ((l.getD i.toNat default).Func : Int).toNat default).Blocks).getD ((l.getD i.toNat default).Block : Int).toNat default).Stmts).getD ((l.getD i.toNat default).Stmt : Int).toNat default).Targets).length : Int) ∨ t_138 = 0) ∧ (-9223372036854775808 ≤ t_138 ∧ t_138 ≤ 9223372036854775807) ∧ ((out_137.length : Int) ≤ t_138), r136⟩) ((((((((((p.Funcs.getD ((l.getD i.toNat default).Func : Int).toNat default).Blocks).getD ((l.getD i.toNat default).Block : Int).toNat default).Stmts).getD ((l.getD i.toNat default).Stmt : Int).toNat default).Targets).length : Int) : Int) - 0).toNat, [], 0, none, 0) [0, 1, 2, 7, 8, 9, 10, 11] ⟨rfl, rfl, aM1, (.inr rfl), aM1, iv0⟩ ?_
   rintro ⟨r136, out_137, t_138, a139, k140⟩ ⟨hM141, hr142, hi143, hi144, hk145, hv146⟩
   refine JJ_nx fun _ _ hL hA => ?_; dsimp only at hL hA; subst hL hA
   refine Fb 8 0 fun _ => Fo 0 fun ho148 => Fb 16 1 fun _ => ?_
   refine FoS 1 fun ho150 => ?_
   refine Fb 16 2 fun _ => ?_
   refine FoS 2 fun ho152 => ?_
   refine Fb 40 5 fun _ => Fb 32 6 fun _ => KS ?_
   refine Oq Vm (Oq (Vfa fo44_3 7) (Oq (VldF sh36 7) (Oq (Vlen sl36) (Oq Vlss (KS ?_)))))
   refine Kc ?_ ?_
   ·intro h155
    have g156 := dt h155
    obtain ⟨r157, rfl⟩ := scc (n := r136) aM1
    refine KS ?_
    refine Jp 3 fun hp158 => ?_
    refine JJ_peek_GFunc ((l.getD i.toNat default).Func : Int).toNat 6 rfl rng fun a159 k160 hb161 => ?_
    refine Fb 40 1 fun _ => ?_
    refine Jp 10 fun hp163 => ?_
    refine JK_drawK [0, 0, 0, 4, 0, 16, 0, 64, 240, 496, 1008, 0, 2048, 0, 14336, 30720, 65520, 131070, 262142, 524287, 1048575] fmix ?_
    refine Dv [] Vm (Dv [] Vm (Dv [3] (Vfa fo65_1 0) (Dv [7] (VldF sh3 0) (Dv [8] (Vfa fo25_0 0) (Dv [8] (VldF sh23 0) (Dv [3] (Vfa fo65_1 0) (Dv [7] (VldF sh3 0) (Dv [9] (Vi sl23 0) (Dv [1] (VldA sh39 0) ?_)))))))))
    refine letv (r4_BlockNames (p.Funcs.getD ((l.getD i.toNat default).Func : Int).toNat default)) fun rv165 hg166 => ?_
    refine Dx [2] [] [2, 0, 1] (fun G => (G.g 10 0)) [fun G => SP.fact (True), fun G => sl (G.g 10 0) rv165] (fun G => xC [0] ca54 (fn54 ((p.Funcs.getD ((l.getD i.toNat default).Func : Int).toNat default)) a159 k160 pre rv165 hg166)) (Dv [0] (Vfa fo44_3 0) (Dv [11] (VldF sh36 0) (Dv [] Vm (Dv [6] (Vi sl36 0) ?_))))
    have hb167 := okS (i := t_138.toNat) ho152 rng
    refine Dv [6] (VldS sh9 0) ?_
    refine letv (r4_Place rv165 (((((((p.Funcs.getD ((l.getD i.toNat default).Func : Int).toNat default).Blocks).getD ((l.getD i.toNat default).Block : Int).toNat default).Stmts).getD ((l.getD i.toNat default).Stmt : Int).toNat default).Targets).getD t_138.toNat default)) fun rv171 hg172 => ?_
    refine Dx [13] [] [1, 0] (fun G => vi rv171) [fun G => SP.fact (i64ok rv171)] (fun G => xD [0] ca61 rfl rfl rfl (FT_open (γ := Unit) (I := fun g => i64ok rv171) (V := fun g => vi rv171) (B := fun g => []) (R := sl (G.g 10 0) rv165) sl_slice (fun aq168 kq169 eq170 => by rw [eq170]; exact FT_ent (Ent.take (is := [0]) rfl) (fn61 rv165 aq168 kq169 ((((((((p.Funcs.getD ((l.getD i.toNat default).Func : Int).toNat default).Blocks).getD ((l.getD i.toNat default).Block : Int).toNat default).Stmts).getD ((l.getD i.toNat default).Stmt : Int).toNat default).Targets).getD t_138.toNat default)) pre rv171 hg172)))) ?_
    refine letv (r7_stmtNode l ((l.getD i.toNat default).Func) rv171 0) fun rv173 hg174 => ?_
    refine Dx [10, 14] [] [1, 2, 0] (fun G => vi rv173) [fun G => SP.fact (i64ok rv173)] (fun G => by refine xf 1 rfl ?_; rintro he175; unfold i64ok at he175; exact xC [0] ca58 (fn58 l la0 lk0 ((l.getD i.toNat default).Func) rv171 0 pre pre pre rv173 hg174)) (Dx [] [] [0] (fun G => (G.g 18 0)) [fun G => Cr (G.g 18 0) 1 [vi rv173]] (fun G => xA (AsV sl22 sz22 [vi rv173] [vi rv173])) ?_)
    have hn178 := la out_137 ([rv173] : List Int)
    refine Dx [4, 15, 16] [4, 16] [1, 0] (fun G => (G.g 19 0)) [fun G => os (G.g 19 0) ((out_137 ++ [rv173]) : List Int)] (fun G => by refine xf 1 rfl ?_; rintro he179; unfold i64ok at he179; exact xp [2] rfl (Ent.crInt _ [rv173] _ _ rfl rfl (by intro x hx; rw [List.mem_singleton] at hx; subst hx; unfold i64ok; omega) aB1) (xA (ApO [1, 0] sl22 sl22 sz22))) (Dg [] (fun G => (G.g 19 0)) (fun G => Va) ?_)
    refine Dn ⟨by kernel_rfl, fun G => ?_⟩
    refine Jw2 [(1, vl la0 lk0 l), (3, p3), (7, p8), (10, p104), (16, vi t_138), (15, (G.g 19 0))] [0, 1, 2, 3, 5, 6, 7, 8, 9, 10, 11] [SP.fact (True), sl (G.g 10 0) rv165, SP.fact (i64ok rv171), SP.fact (i64ok rv173), os (G.g 19 0) ((out_137 ++ [rv173]) : List Int)] ?_
    generalize G.g 10 0 = c164, G.g 19 0 = c177
    refine Jf 13 rfl ?_; rintro he180
    unfold i64ok at he180
    refine Jf 14 rfl ?_; rintro he181
    unfold i64ok at he181
    refine Jk [1, 2, 4, 5, 6, 6, 7, 8, 9, 10, 13] ?_
    refine Jo 9 ?_; rintro a182 k183 rfl
    refine Fb 16 9 fun _ => ?_
    refine FoS 9 fun ho185 => ?_
    refine Jo 10 ?_; rintro a186 k187 rfl
    refine Fb 8 10 fun _ => Fo 10 fun ho189 => KS ?_
    refine Oq Vm (Oq Vadd (Oq Va (KS ?_)))
    exact Kg (r157, (out_137 ++ [rv173]), (t_138 + 1), a186, k187) [10, 2, 3, 4, 4, 5, 6, 7] ⟨(q3 hM141 (by simp only [r7_successors_L1, h155, hg166, hg172, hg174, cs4])), aM1, aM1, aM1, aM1, iv1⟩
   intro h155
   have g190 := df h155
   obtain rfl : r136 = 0 := by omega
   refine Ke ?_
   have hR191 := q2 hM141 out_137 (by simp only [r7_successors_L1, h155, cs4])
   refine KS ?_
   refine Oq Vm (Oq Va (KS ?_))
   refine Jl [0] (Ent.freeze _ _) ?_
   have hq := q4 hrr out_137 (by simp only [r7_successors, h9, h19, h110, h116, h118, h134, h155, hg106, hR191, cs4]); subst hq
   exact Kr (vl a139 k140 out_137) rfl (.tmp rfl .nil) [0] (suc_rg hck hl aM1 hrr)
  intro h134
  have g192 := ne_of_beq_false h134
  refine Oq (Vfa fo44_0 12) (Oq (VldF sh3 12) (Oq Veql (Oq Vpf (Oq Va (KS ?_)))))
  refine Kc ?_ ?_
  ·intro h193
   have g194 := eq_of_beq h193
   refine KS ?_
   refine Oq Va (KS ?_)
   refine Oq Va (KS ?_)
   refine Jl [] (Ent.osNil (α := Int)) ?_
   refine Kl (γ := Nat × List Int × Int × Option Addr × Nat) (fun (r195, out_196, t_197, a198, k199) => ⟨[(1, vl la0 lk0 l), (3, p3), (7, p8), (10, p104), (15, vl a198 k199 out_196), (16, vi t_197)], [O a198 k199 out_196, S a94 k95 ((((((p.Funcs.getD ((l.getD i.toNat default).Func : Int).toNat default).Blocks).getD ((l.getD i.toNat default).Block : Int).toNat default).Stmts).getD ((l.getD i.toNat default).Stmt : Int).toNat default).Uses), S a96 k97 ((((((p.Funcs.getD ((l.getD i.toNat default).Func : Int).toNat default).Blocks).getD ((l.getD i.toNat default).Block : Int).toNat default).Stmts).getD ((l.getD i.toNat default).Stmt : Int).toNat default).Targets), Cl p8 [vi ((l.getD i.toNat default).Kind), vi ((l.getD i.toNat default).Func), vi ((l.getD i.toNat default).Block), vi ((l.getD i.toNat default).Stmt)], pv p3 [vl pa0 pk0 p.Funcs], S pa0 pk0 p.Funcs, S la0 lk0 l, Cl p104 [vi ((((((p.Funcs.getD ((l.getD i.toNat default).Func : Int).toNat default).Blocks).getD ((l.getD i.toNat default).Block : Int).toNat default).Stmts).getD ((l.getD i.toNat default).Stmt : Int).toNat default).Op), .string (bs ((((((p.Funcs.getD ((l.getD i.toNat default).Func : Int).toNat default).Blocks).getD ((l.getD i.toNat default).Block : Int).toNat default).Stmts).getD ((l.getD i.toNat default).Stmt : Int).toNat default).Def)), .slice a94 (((((((p.Funcs.getD ((l.getD i.toNat default).Func : Int).toNat default).Blocks).getD ((l.getD i.toNat default).Block : Int).toNat default).Stmts).getD ((l.getD i.toNat default).Stmt : Int).toNat default).Uses).length) k95, .slice a96 (((((((p.Funcs.getD ((l.getD i.toNat default).Func : Int).toNat default).Blocks).getD ((l.getD i.toNat default).Block : Int).toNat default).Stmts).getD ((l.getD i.toNat default).Stmt : Int).toNat default).Targets).length) k97]], r7_successors_L1 p l i r195 out_196 t_197 = r7_successors_L1 p l i ((((((((((p.Funcs.getD ((l.getD i.toNat default).Func : Int).toNat default).Blocks).getD ((l.getD i.toNat default).Block : Int).toNat default).Stmts).getD ((l.getD i.toNat default).Stmt : Int).toNat default).Targets).length : Int) : Int) - 0).toNat) [] 0 ∧ r195 = (((((((((p.Funcs.getD ((l.getD i.toNat default).Func : Int).toNat default).Blocks).getD ((l.getD i.toNat default).Block : Int).toNat default).Stmts).getD ((l.getD i.toNat default).Stmt : Int).toNat default).Targets).length : Int) : Int) - t_197).toNat ∧ (0 : Int) ≤ t_197 ∧ (t_197 ≤ (((((((p.Funcs.getD ((l.getD i.toNat default).Func : Int).toNat default).Blocks).getD ((l.getD i.toNat default).Block : Int).toNat default).Stmts).getD ((l.getD i.toNat default).Stmt : Int).toNat default).Targets).length : Int) ∨ t_197 = 0) ∧ (-9223372036854775808 ≤ t_197 ∧ t_197 ≤ 9223372036854775807) ∧ ((out_196.length : Int) ≤ t_197), r195⟩) ((((((((((p.Funcs.getD ((l.getD i.toNat default).Func : Int).toNat default).Blocks).getD ((l.getD i.toNat default).Block : Int).toNat default).Stmts).getD ((l.getD i.toNat default).Stmt : Int).toNat default).Targets).length : Int) : Int) - 0).toNat, [], 0, none, 0) [0, 1, 2, 7, 8, 9, 10, 11] ⟨rfl, rfl, aM1, (.inr rfl), aM1, iv0⟩ ?_
   rintro ⟨r195, out_196, t_197, a198, k199⟩ ⟨hM200, hr201, hi202, hi203, hk204, hv205⟩
   refine JJ_nx fun _ _ hL hA => ?_; dsimp only at hL hA; subst hL hA
   refine Fb 8 0 fun _ => Fo 0 fun ho207 => Fb 16 1 fun _ => ?_
   refine FoS 1 fun ho209 => ?_
   refine Fb 16 2 fun _ => ?_
   refine FoS 2 fun ho211 => ?_
   refine Fb 40 5 fun _ => Fb 32 6 fun _ => KS ?_
   refine Oq Vm (Oq (Vfa fo44_3 7) (Oq (VldF sh36 7) (Oq (Vlen sl36) (Oq Vlss (KS ?_)))))
   refine Kc ?_ ?_
   ·intro h214
    have g215 := dt h214
    obtain ⟨r216, rfl⟩ := scc (n := r195) aM1
    refine KS ?_
    refine Jp 3 fun hp217 => ?_
    refine JJ_peek_GFunc ((l.getD i.toNat default).Func : Int).toNat 6 rfl rng fun a218 k219 hb220 => ?_
    refine Fb 40 1 fun _ => ?_
    refine Jp 10 fun hp222 => ?_
    refine JK_drawK [0, 0, 0, 4, 0, 16, 0, 64, 240, 496, 1008, 0, 2048, 0, 14336, 30720, 65520, 131070, 262142, 524287, 1048575] fmix ?_
    refine Dv [] Vm (Dv [] Vm (Dv [3] (Vfa fo65_1 0) (Dv [7] (VldF sh3 0) (Dv [8] (Vfa fo25_0 0) (Dv [8] (VldF sh23 0) (Dv [3] (Vfa fo65_1 0) (Dv [7] (VldF sh3 0) (Dv [9] (Vi sl23 0) (Dv [1] (VldA sh39 0) ?_)))))))))
    refine letv (r4_BlockNames (p.Funcs.getD ((l.getD i.toNat default).Func : Int).toNat default)) fun rv224 hg225 => ?_
    refine Dx [2] [] [2, 0, 1] (fun G => (G.g 10 0)) [fun G => SP.fact (True), fun G => sl (G.g 10 0) rv224] (fun G => xC [0] ca54 (fn54 ((p.Funcs.getD ((l.getD i.toNat default).Func : Int).toNat default)) a218 k219 pre rv224 hg225)) (Dv [0] (Vfa fo44_3 0) (Dv [11] (VldF sh36 0) (Dv [] Vm (Dv [6] (Vi sl36 0) ?_))))
    have hb226 := okS (i := t_197.toNat) ho211 rng
    refine Dv [6] (VldS sh9 0) ?_
    refine letv (r4_Place rv224 (((((((p.Funcs.getD ((l.getD i.toNat default).Func : Int).toNat default).Blocks).getD ((l.getD i.toNat default).Block : Int).toNat default).Stmts).getD ((l.getD i.toNat default).Stmt : Int).toNat default).Targets).getD t_197.toNat default)) fun rv230 hg231 => ?_
    refine Dx [13] [] [1, 0] (fun G => vi rv230) [fun G => SP.fact (i64ok rv230)] (fun G => xD [0] ca61 rfl rfl rfl (FT_open (γ := Unit) (I := fun g => i64ok rv230) (V := fun g => vi rv230) (B := fun g => []) (R := sl (G.g 10 0) rv224) sl_slice (fun aq227 kq228 eq229 => by rw [eq229]; exact FT_ent (Ent.take (is := [0]) rfl) (fn61 rv224 aq227 kq228 ((((((((p.Funcs.getD ((l.getD i.toNat default).Func : Int).toNat default).Blocks).getD ((l.getD i.toNat default).Block : Int).toNat default).Stmts).getD ((l.getD i.toNat default).Stmt : Int).toNat default).Targets).getD t_197.toNat default)) pre rv230 hg231)))) ?_
    refine letv (r7_stmtNode l ((l.getD i.toNat default).Func) rv230 0) fun rv232 hg233 => ?_
    refine Dx [10, 14] [] [1, 2, 0] (fun G => vi rv232) [fun G => SP.fact (i64ok rv232)] (fun G => by refine xf 1 rfl ?_; rintro he234; unfold i64ok at he234; exact xC [0] ca58 (fn58 l la0 lk0 ((l.getD i.toNat default).Func) rv230 0 pre pre pre rv232 hg233)) (Dx [] [] [0] (fun G => (G.g 18 0)) [fun G => Cr (G.g 18 0) 1 [vi rv232]] (fun G => xA (AsV sl22 sz22 [vi rv232] [vi rv232])) ?_)
    have hn237 := la out_196 ([rv232] : List Int)
    refine Dx [4, 15, 16] [4, 16] [1, 0] (fun G => (G.g 19 0)) [fun G => os (G.g 19 0) ((out_196 ++ [rv232]) : List Int)] (fun G => by refine xf 1 rfl ?_; rintro he238; unfold i64ok at he238; exact xp [2] rfl (Ent.crInt _ [rv232] _ _ rfl rfl (by intro x hx; rw [List.mem_singleton] at hx; subst hx; unfold i64ok; omega) aB1) (xA (ApO [1, 0] sl22 sl22 sz22))) (Dg [] (fun G => (G.g 19 0)) (fun G => Va) ?_)
    refine Dn ⟨by kernel_rfl, fun G => ?_⟩
    refine Jw2 [(1, vl la0 lk0 l), (3, p3), (7, p8), (10, p104), (16, vi t_197), (15, (G.g 19 0))] [0, 1, 2, 3, 5, 6, 7, 8, 9, 10, 11] [SP.fact (True), sl (G.g 10 0) rv224, SP.fact (i64ok rv230), SP.fact (i64ok rv232), os (G.g 19 0) ((out_196 ++ [rv232]) : List Int)] ?_
    generalize G.g 10 0 = c223, G.g 19 0 = c236
    refine Jf 13 rfl ?_; rintro he239
    unfold i64ok at he239
    refine Jf 14 rfl ?_; rintro he240
    unfold i64ok at he240
    refine Jk [1, 2, 4, 5, 6, 6, 7, 8, 9, 10, 13] ?_
    refine Jo 9 ?_; rintro a241 k242 rfl
    refine Fb 16 9 fun _ => ?_
    refine FoS 9 fun ho244 => ?_
    refine Jo 10 ?_; rintro a245 k246 rfl
    refine Fb 8 10 fun _ => Fo 10 fun ho248 => KS ?_
    refine Oq Vm (Oq Vadd (Oq Va (KS ?_)))
    exact Kg (r216, (out_196 ++ [rv232]), (t_197 + 1), a245, k246) [10, 2, 3, 4, 4, 5, 6, 7] ⟨(q3 hM200 (by simp only [r7_successors_L1, h214, hg225, hg231, hg233, cs4])), aM1, aM1, aM1, aM1, iv1⟩
   intro h214
   have g249 := df h214
   obtain rfl : r195 = 0 := by omega
   refine Ke ?_
   have hR250 := q2 hM200 out_196 (by simp only [r7_successors_L1, h214, cs4])
   refine KS ?_
   refine Oq Vm (Oq Va (KS ?_))
   refine Jl [0] (Ent.freeze _ _) ?_
   have hq := q4 hrr out_196 (by simp only [r7_successors, h9, h19, h110, h116, h118, h134, h193, h214, hg106, hR250, cs4]); subst hq
   exact Kr (vl a198 k199 out_196) rfl (.tmp rfl .nil) [0] (suc_rg hck hl aM1 hrr)
  intro h193
  have g251 := ne_of_beq_false h193
  refine KS ?_
  refine Oq Vm (Oq (Vfa fo65_1 7) (Oq (VldF sh3 7) (Oq (Vfa fo65_2 7) (Oq (VldF sh3 7) (Oq (Vfa fo65_3 7) (Oq (VldF sh3 7) (Oq Vadd ?_)))))))
  refine letv (r7_stmtNode l ((l.getD i.toNat default).Func) ((l.getD i.toNat default).Block) ((l.getD i.toNat default).Stmt + 1)) fun rv252 hg253 => ?_
  have hc254 := fn58 l la0 lk0 ((l.getD i.toNat default).Func) ((l.getD i.toNat default).Block) (((l.getD i.toNat default).Stmt + 1)) pre pre pre rv252 hg253
  refine Oc [11] ca58 hc254 ?_
  rintro - he255
  unfold i64ok at he255
  refine Oa (AsV sl22 sz22 [vi rv252] [vi rv252]) fun c256 => ?_
  refine Jo 0 ?_; rintro a257 k258 rfl
  refine Oq Va (KS ?_)
  refine Jl [0] (Ent.crInt _ [rv252] _ _ rfl rfl (by intro x hx; rw [List.mem_singleton] at hx; subst hx; unfold i64ok; omega) aB1) ?_
  refine Jl [0] (Ent.freeze _ _) ?_
  have hq := q4 hrr [rv252] (by simp only [r7_successors, h9, h19, h110, h116, h118, h134, h193, hg106, hg253, cs4]); subst hq
  exact Kr (.slice a257 1 k258) rfl (.tmp rfl .nil) [0] (suc_rg hck hl aM1 hrr)
 intro h116
 have g259 := ne_of_beq_false h116
 refine Osk (Osk (Osk (Oq Vpf (Oq Va (KS ?_)))))
 refine Kf (KS ?_)
 refine Oq (Vfa fo44_0 12) (Oq (VldF sh3 12) (Oq Veql (Oq Vm ?_)))
 refine Js 142 ?_ ?_
 ·intro h260
  have g261 := eq_of_beq h260
  refine Osk (Osk (Osk (Oq Vpt (Oq Va (KS ?_)))))
  refine Kt (KS ?_)
  refine Oq Va (KS ?_)
  refine Oq Va (KS ?_)
  refine Jl [] (Ent.osNil (α := Int)) ?_
  refine Kl (γ := Nat × List Int × Int × Option Addr × Nat) (fun (r262, out_263, t_264, a265, k266) => ⟨[(1, vl la0 lk0 l), (3, p3), (7, p8), (10, p104), (15, vl a265 k266 out_263), (16, vi t_264)], [O a265 k266 out_263, S a94 k95 ((((((p.Funcs.getD ((l.getD i.toNat default).Func : Int).toNat default).Blocks).getD ((l.getD i.toNat default).Block : Int).toNat default).Stmts).getD ((l.getD i.toNat default).Stmt : Int).toNat default).Uses), S a96 k97 ((((((p.Funcs.getD ((l.getD i.toNat default).Func : Int).toNat default).Blocks).getD ((l.getD i.toNat default).Block : Int).toNat default).Stmts).getD ((l.getD i.toNat default).Stmt : Int).toNat default).Targets), Cl p8 [vi ((l.getD i.toNat default).Kind), vi ((l.getD i.toNat default).Func), vi ((l.getD i.toNat default).Block), vi ((l.getD i.toNat default).Stmt)], pv p3 [vl pa0 pk0 p.Funcs], S pa0 pk0 p.Funcs, S la0 lk0 l, Cl p104 [vi ((((((p.Funcs.getD ((l.getD i.toNat default).Func : Int).toNat default).Blocks).getD ((l.getD i.toNat default).Block : Int).toNat default).Stmts).getD ((l.getD i.toNat default).Stmt : Int).toNat default).Op), .string (bs ((((((p.Funcs.getD ((l.getD i.toNat default).Func : Int).toNat default).Blocks).getD ((l.getD i.toNat default).Block : Int).toNat default).Stmts).getD ((l.getD i.toNat default).Stmt : Int).toNat default).Def)), .slice a94 (((((((p.Funcs.getD ((l.getD i.toNat default).Func : Int).toNat default).Blocks).getD ((l.getD i.toNat default).Block : Int).toNat default).Stmts).getD ((l.getD i.toNat default).Stmt : Int).toNat default).Uses).length) k95, .slice a96 (((((((p.Funcs.getD ((l.getD i.toNat default).Func : Int).toNat default).Blocks).getD ((l.getD i.toNat default).Block : Int).toNat default).Stmts).getD ((l.getD i.toNat default).Stmt : Int).toNat default).Targets).length) k97]], r7_successors_L1 p l i r262 out_263 t_264 = r7_successors_L1 p l i ((((((((((p.Funcs.getD ((l.getD i.toNat default).Func : Int).toNat default).Blocks).getD ((l.getD i.toNat default).Block : Int).toNat default).Stmts).getD ((l.getD i.toNat default).Stmt : Int).toNat default).Targets).length : Int) : Int) - 0).toNat) [] 0 ∧ r262 = (((((((((p.Funcs.getD ((l.getD i.toNat default).Func : Int).toNat default).Blocks).getD ((l.getD i.toNat default).Block : Int).toNat default).Stmts).getD ((l.getD i.toNat default).Stmt : Int).toNat default).Targets).length : Int) : Int) - t_264).toNat ∧ (0 : Int) ≤ t_264 ∧ (t_264 ≤ (((((((p.Funcs.getD ((l.getD i.toNat default).Func : Int).toNat default).Blocks).getD ((l.getD i.toNat default).Block : Int).toNat default).Stmts).getD ((l.getD i.toNat default).Stmt : Int).toNat default).Targets).length : Int) ∨ t_264 = 0) ∧ (-9223372036854775808 ≤ t_264 ∧ t_264 ≤ 9223372036854775807) ∧ ((out_263.length : Int) ≤ t_264), r262⟩) ((((((((((p.Funcs.getD ((l.getD i.toNat default).Func : Int).toNat default).Blocks).getD ((l.getD i.toNat default).Block : Int).toNat default).Stmts).getD ((l.getD i.toNat default).Stmt : Int).toNat default).Targets).length : Int) : Int) - 0).toNat, [], 0, none, 0) [0, 1, 2, 7, 8, 9, 10, 11] ⟨rfl, rfl, aM1, (.inr rfl), aM1, iv0⟩ ?_
  rintro ⟨r262, out_263, t_264, a265, k266⟩ ⟨hM267, hr268, hi269, hi270, hk271, hv272⟩
  refine JJ_nx fun _ _ hL hA => ?_; dsimp only at hL hA; subst hL hA
  refine Fb 8 0 fun _ => Fo 0 fun ho274 => Fb 16 1 fun _ => ?_
  refine FoS 1 fun ho276 => ?_
  refine Fb 16 2 fun _ => ?_
  refine FoS 2 fun ho278 => ?_
  refine Fb 40 5 fun _ => Fb 32 6 fun _ => KS ?_
  refine Oq Vm (Oq (Vfa fo44_3 7) (Oq (VldF sh36 7) (Oq (Vlen sl36) (Oq Vlss (KS ?_)))))
  refine Kc ?_ ?_
  ·intro h281
   have g282 := dt h281
   obtain ⟨r283, rfl⟩ := scc (n := r262) aM1
   refine KS ?_
   refine Jp 3 fun hp284 => ?_
   refine JJ_peek_GFunc ((l.getD i.toNat default).Func : Int).toNat 6 rfl rng fun a285 k286 hb287 => ?_
   refine Fb 40 1 fun _ => ?_
   refine Jp 10 fun hp289 => ?_
   refine JK_drawK [0, 0, 0, 4, 0, 16, 0, 64, 240, 496, 1008, 0, 2048, 0, 14336, 30720, 65520, 131070, 262142, 524287, 1048575] fmix ?_
   refine Dv [] Vm (Dv [] Vm (Dv [3] (Vfa fo65_1 0) (Dv [7] (VldF sh3 0) (Dv [8] (Vfa fo25_0 0) (Dv [8] (VldF sh23 0) (Dv [3] (Vfa fo65_1 0) (Dv [7] (VldF sh3 0) (Dv [9] (Vi sl23 0) (Dv [1] (VldA sh39 0) ?_)))))))))
   refine letv (r4_BlockNames (p.Funcs.getD ((l.getD i.toNat default).Func : Int).toNat default)) fun rv291 hg292 => ?_
   refine Dx [2] [] [2, 0, 1] (fun G => (G.g 10 0)) [fun G => SP.fact (True), fun G => sl (G.g 10 0) rv291] (fun G => xC [0] ca54 (fn54 ((p.Funcs.getD ((l.getD i.toNat default).Func : Int).toNat default)) a285 k286 pre rv291 hg292)) (Dv [0] (Vfa fo44_3 0) (Dv [11] (VldF sh36 0) (Dv [] Vm (Dv [6] (Vi sl36 0) ?_))))
   have hb293 := okS (i := t_264.toNat) ho278 rng
   refine Dv [6] (VldS sh9 0) ?_
   refine letv (r4_Place rv291 (((((((p.Funcs.getD ((l.getD i.toNat default).Func : Int).toNat default).Blocks).getD ((l.getD i.toNat default).Block : Int).toNat default).Stmts).getD ((l.getD i.toNat default).Stmt : Int).toNat default).Targets).getD t_264.toNat default)) fun rv297 hg298 => ?_
   refine Dx [13] [] [1, 0] (fun G => vi rv297) [fun G => SP.fact (i64ok rv297)] (fun G => xD [0] ca61 rfl rfl rfl (FT_open (γ := Unit) (I := fun g => i64ok rv297) (V := fun g => vi rv297) (B := fun g => []) (R := sl (G.g 10 0) rv291) sl_slice (fun aq294 kq295 eq296 => by rw [eq296]; exact FT_ent (Ent.take (is := [0]) rfl) (fn61 rv291 aq294 kq295 ((((((((p.Funcs.getD ((l.getD i.toNat default).Func : Int).toNat default).Blocks).getD ((l.getD i.toNat default).Block : Int).toNat default).Stmts).getD ((l.getD i.toNat default).Stmt : Int).toNat default).Targets).getD t_264.toNat default)) pre rv297 hg298)))) ?_
   refine letv (r7_stmtNode l ((l.getD i.toNat default).Func) rv297 0) fun rv299 hg300 => ?_
   refine Dx [10, 14] [] [1, 2, 0] (fun G => vi rv299) [fun G => SP.fact (i64ok rv299)] (fun G => by refine xf 1 rfl ?_; rintro he301; unfold i64ok at he301; exact xC [0] ca58 (fn58 l la0 lk0 ((l.getD i.toNat default).Func) rv297 0 pre pre pre rv299 hg300)) (Dx [] [] [0] (fun G => (G.g 18 0)) [fun G => Cr (G.g 18 0) 1 [vi rv299]] (fun G => xA (AsV sl22 sz22 [vi rv299] [vi rv299])) ?_)
   have hn304 := la out_263 ([rv299] : List Int)
   refine Dx [4, 15, 16] [4, 16] [1, 0] (fun G => (G.g 19 0)) [fun G => os (G.g 19 0) ((out_263 ++ [rv299]) : List Int)] (fun G => by refine xf 1 rfl ?_; rintro he305; unfold i64ok at he305; exact xp [2] rfl (Ent.crInt _ [rv299] _ _ rfl rfl (by intro x hx; rw [List.mem_singleton] at hx; subst hx; unfold i64ok; omega) aB1) (xA (ApO [1, 0] sl22 sl22 sz22))) (Dg [] (fun G => (G.g 19 0)) (fun G => Va) ?_)
   refine Dn ⟨by kernel_rfl, fun G => ?_⟩
   refine Jw2 [(1, vl la0 lk0 l), (3, p3), (7, p8), (10, p104), (16, vi t_264), (15, (G.g 19 0))] [0, 1, 2, 3, 5, 6, 7, 8, 9, 10, 11] [SP.fact (True), sl (G.g 10 0) rv291, SP.fact (i64ok rv297), SP.fact (i64ok rv299), os (G.g 19 0) ((out_263 ++ [rv299]) : List Int)] ?_
   generalize G.g 10 0 = c290, G.g 19 0 = c303
   refine Jf 13 rfl ?_; rintro he306
   unfold i64ok at he306
   refine Jf 14 rfl ?_; rintro he307
   unfold i64ok at he307
   refine Jk [1, 2, 4, 5, 6, 6, 7, 8, 9, 10, 13] ?_
   refine Jo 9 ?_; rintro a308 k309 rfl
   refine Fb 16 9 fun _ => ?_
   refine FoS 9 fun ho311 => ?_
   refine Jo 10 ?_; rintro a312 k313 rfl
   refine Fb 8 10 fun _ => Fo 10 fun ho315 => KS ?_
   refine Oq Vm (Oq Vadd (Oq Va (KS ?_)))
   exact Kg (r283, (out_263 ++ [rv299]), (t_264 + 1), a312, k313) [10, 2, 3, 4, 4, 5, 6, 7] ⟨(q3 hM267 (by simp only [r7_successors_L1, h281, hg292, hg298, hg300, cs4])), aM1, aM1, aM1, aM1, iv1⟩
  intro h281
  have g316 := df h281
  obtain rfl : r262 = 0 := by omega
  refine Ke ?_
  have hR317 := q2 hM267 out_263 (by simp only [r7_successors_L1, h281, cs4])
  refine KS ?_
  refine Oq Vm (Oq Va (KS ?_))
  refine Jl [0] (Ent.freeze _ _) ?_
  have hq := q4 hrr out_263 (by simp only [r7_successors, h9, h19, h110, h116, h260, h281, hg106, hR317, cs4]); subst hq
  exact Kr (vl a265 k266 out_263) rfl (.tmp rfl .nil) [0] (suc_rg hck hl aM1 hrr)
 intro h260
 have g318 := ne_of_beq_false h260
 refine Oq (Vfa fo44_0 12) (Oq (VldF sh3 12) (Oq Veql (Oq Vpf (Oq Va (KS ?_)))))
 refine Kc ?_ ?_
 ·intro h319
  have g320 := eq_of_beq h319
  refine KS ?_
  refine Oq Va (KS ?_)
  refine Oq Va (KS ?_)
  refine Jl [] (Ent.osNil (α := Int)) ?_
  refine Kl (γ := Nat × List Int × Int × Option Addr × Nat) (fun (r321, out_322, t_323, a324, k325) => ⟨[(1, vl la0 lk0 l), (3, p3), (7, p8), (10, p104), (15, vl a324 k325 out_322), (16, vi t_323)], [O a324 k325 out_322, S a94 k95 ((((((p.Funcs.getD ((l.getD i.toNat default).Func : Int).toNat default).Blocks).getD ((l.getD i.toNat default).Block : Int).toNat default).Stmts).getD ((l.getD i.toNat default).Stmt : Int).toNat default).Uses), S a96 k97 ((((((p.Funcs.getD ((l.getD i.toNat default).Func : Int).toNat default).Blocks).getD ((l.getD i.toNat default).Block : Int).toNat default).Stmts).getD ((l.getD i.toNat default).Stmt : Int).toNat default).Targets), Cl p8 [vi ((l.getD i.toNat default).Kind), vi ((l.getD i.toNat default).Func), vi ((l.getD i.toNat default).Block), vi ((l.getD i.toNat default).Stmt)], pv p3 [vl pa0 pk0 p.Funcs], S pa0 pk0 p.Funcs, S la0 lk0 l, Cl p104 [vi ((((((p.Funcs.getD ((l.getD i.toNat default).Func : Int).toNat default).Blocks).getD ((l.getD i.toNat default).Block : Int).toNat default).Stmts).getD ((l.getD i.toNat default).Stmt : Int).toNat default).Op), .string (bs ((((((p.Funcs.getD ((l.getD i.toNat default).Func : Int).toNat default).Blocks).getD ((l.getD i.toNat default).Block : Int).toNat default).Stmts).getD ((l.getD i.toNat default).Stmt : Int).toNat default).Def)), .slice a94 (((((((p.Funcs.getD ((l.getD i.toNat default).Func : Int).toNat default).Blocks).getD ((l.getD i.toNat default).Block : Int).toNat default).Stmts).getD ((l.getD i.toNat default).Stmt : Int).toNat default).Uses).length) k95, .slice a96 (((((((p.Funcs.getD ((l.getD i.toNat default).Func : Int).toNat default).Blocks).getD ((l.getD i.toNat default).Block : Int).toNat default).Stmts).getD ((l.getD i.toNat default).Stmt : Int).toNat default).Targets).length) k97]], r7_successors_L1 p l i r321 out_322 t_323 = r7_successors_L1 p l i ((((((((((p.Funcs.getD ((l.getD i.toNat default).Func : Int).toNat default).Blocks).getD ((l.getD i.toNat default).Block : Int).toNat default).Stmts).getD ((l.getD i.toNat default).Stmt : Int).toNat default).Targets).length : Int) : Int) - 0).toNat) [] 0 ∧ r321 = (((((((((p.Funcs.getD ((l.getD i.toNat default).Func : Int).toNat default).Blocks).getD ((l.getD i.toNat default).Block : Int).toNat default).Stmts).getD ((l.getD i.toNat default).Stmt : Int).toNat default).Targets).length : Int) : Int) - t_323).toNat ∧ (0 : Int) ≤ t_323 ∧ (t_323 ≤ (((((((p.Funcs.getD ((l.getD i.toNat default).Func : Int).toNat default).Blocks).getD ((l.getD i.toNat default).Block : Int).toNat default).Stmts).getD ((l.getD i.toNat default).Stmt : Int).toNat default).Targets).length : Int) ∨ t_323 = 0) ∧ (-9223372036854775808 ≤ t_323 ∧ t_323 ≤ 9223372036854775807) ∧ ((out_322.length : Int) ≤ t_323), r321⟩) ((((((((((p.Funcs.getD ((l.getD i.toNat default).Func : Int).toNat default).Blocks).getD ((l.getD i.toNat default).Block : Int).toNat default).Stmts).getD ((l.getD i.toNat default).Stmt : Int).toNat default).Targets).length : Int) : Int) - 0).toNat, [], 0, none, 0) [0, 1, 2, 7, 8, 9, 10, 11] ⟨rfl, rfl, aM1, (.inr rfl), aM1, iv0⟩ ?_
  rintro ⟨r321, out_322, t_323, a324, k325⟩ ⟨hM326, hr327, hi328, hi329, hk330, hv331⟩
  refine JJ_nx fun _ _ hL hA => ?_; dsimp only at hL hA; subst hL hA
  refine Fb 8 0 fun _ => Fo 0 fun ho333 => Fb 16 1 fun _ => ?_
  refine FoS 1 fun ho335 => ?_
  refine Fb 16 2 fun _ => ?_
  refine FoS 2 fun ho337 => ?_
  refine Fb 40 5 fun _ => Fb 32 6 fun _ => KS ?_
  refine Oq Vm (Oq (Vfa fo44_3 7) (Oq (VldF sh36 7) (Oq (Vlen sl36) (Oq Vlss (KS ?_)))))
  refine Kc ?_ ?_
  ·intro h340
   have g341 := dt h340
   obtain ⟨r342, rfl⟩ := scc (n := r321) aM1
   refine KS ?_
   refine Jp 3 fun hp343 => ?_
   refine JJ_peek_GFunc ((l.getD i.toNat default).Func : Int).toNat 6 rfl rng fun a344 k345 hb346 => ?_
   refine Fb 40 1 fun _ => ?_
   refine Jp 10 fun hp348 => ?_
   refine JK_drawK [0, 0, 0, 4, 0, 16, 0, 64, 240, 496, 1008, 0, 2048, 0, 14336, 30720, 65520, 131070, 262142, 524287, 1048575] fmix ?_
   refine Dv [] Vm (Dv [] Vm (Dv [3] (Vfa fo65_1 0) (Dv [7] (VldF sh3 0) (Dv [8] (Vfa fo25_0 0) (Dv [8] (VldF sh23 0) (Dv [3] (Vfa fo65_1 0) (Dv [7] (VldF sh3 0) (Dv [9] (Vi sl23 0) (Dv [1] (VldA sh39 0) ?_)))))))))
   refine letv (r4_BlockNames (p.Funcs.getD ((l.getD i.toNat default).Func : Int).toNat default)) fun rv350 hg351 => ?_
   refine Dx [2] [] [2, 0, 1] (fun G => (G.g 10 0)) [fun G => SP.fact (True), fun G => sl (G.g 10 0) rv350] (fun G => xC [0] ca54 (fn54 ((p.Funcs.getD ((l.getD i.toNat default).Func : Int).toNat default)) a344 k345 pre rv350 hg351)) (Dv [0] (Vfa fo44_3 0) (Dv [11] (VldF sh36 0) (Dv [] Vm (Dv [6] (Vi sl36 0) ?_))))
   have hb352 := okS (i := t_323.toNat) ho337 rng
   refine Dv [6] (VldS sh9 0) ?_
   refine letv (r4_Place rv350 (((((((p.Funcs.getD ((l.getD i.toNat default).Func : Int).toNat default).Blocks).getD ((l.getD i.toNat default).Block : Int).toNat default).Stmts).getD ((l.getD i.toNat default).Stmt : Int).toNat default).Targets).getD t_323.toNat default)) fun rv356 hg357 => ?_
   refine Dx [13] [] [1, 0] (fun G => vi rv356) [fun G => SP.fact (i64ok rv356)] (fun G => xD [0] ca61 rfl rfl rfl (FT_open (γ := Unit) (I := fun g => i64ok rv356) (V := fun g => vi rv356) (B := fun g => []) (R := sl (G.g 10 0) rv350) sl_slice (fun aq353 kq354 eq355 => by rw [eq355]; exact FT_ent (Ent.take (is := [0]) rfl) (fn61 rv350 aq353 kq354 ((((((((p.Funcs.getD ((l.getD i.toNat default).Func : Int).toNat default).Blocks).getD ((l.getD i.toNat default).Block : Int).toNat default).Stmts).getD ((l.getD i.toNat default).Stmt : Int).toNat default).Targets).getD t_323.toNat default)) pre rv356 hg357)))) ?_
   refine letv (r7_stmtNode l ((l.getD i.toNat default).Func) rv356 0) fun rv358 hg359 => ?_
   refine Dx [10, 14] [] [1, 2, 0] (fun G => vi rv358) [fun G => SP.fact (i64ok rv358)] (fun G => by refine xf 1 rfl ?_; rintro he360; unfold i64ok at he360; exact xC [0] ca58 (fn58 l la0 lk0 ((l.getD i.toNat default).Func) rv356 0 pre pre pre rv358 hg359)) (Dx [] [] [0] (fun G => (G.g 18 0)) [fun G => Cr (G.g 18 0) 1 [vi rv358]] (fun G => xA (AsV sl22 sz22 [vi rv358] [vi rv358])) ?_)
   have hn363 := la out_322 ([rv358] : List Int)
   refine Dx [4, 15, 16] [4, 16] [1, 0] (fun G => (G.g 19 0)) [fun G => os (G.g 19 0) ((out_322 ++ [rv358]) : List Int)] (fun G => by refine xf 1 rfl ?_; rintro he364; unfold i64ok at he364; exact xp [2] rfl (Ent.crInt _ [rv358] _ _ rfl rfl (by intro x hx; rw [List.mem_singleton] at hx; subst hx; unfold i64ok; omega) aB1) (xA (ApO [1, 0] sl22 sl22 sz22))) (Dg [] (fun G => (G.g 19 0)) (fun G => Va) ?_)
   refine Dn ⟨by kernel_rfl, fun G => ?_⟩
   refine Jw2 [(1, vl la0 lk0 l), (3, p3), (7, p8), (10, p104), (16, vi t_323), (15, (G.g 19 0))] [0, 1, 2, 3, 5, 6, 7, 8, 9, 10, 11] [SP.fact (True), sl (G.g 10 0) rv350, SP.fact (i64ok rv356), SP.fact (i64ok rv358), os (G.g 19 0) ((out_322 ++ [rv358]) : List Int)] ?_
   generalize G.g 10 0 = c349, G.g 19 0 = c362
   refine Jf 13 rfl ?_; rintro he365
   unfold i64ok at he365
   refine Jf 14 rfl ?_; rintro he366
   unfold i64ok at he366
   refine Jk [1, 2, 4, 5, 6, 6, 7, 8, 9, 10, 13] ?_
   refine Jo 9 ?_; rintro a367 k368 rfl
   refine Fb 16 9 fun _ => ?_
   refine FoS 9 fun ho370 => ?_
   refine Jo 10 ?_; rintro a371 k372 rfl
   refine Fb 8 10 fun _ => Fo 10 fun ho374 => KS ?_
   refine Oq Vm (Oq Vadd (Oq Va (KS ?_)))
   exact Kg (r342, (out_322 ++ [rv358]), (t_323 + 1), a371, k372) [10, 2, 3, 4, 4, 5, 6, 7] ⟨(q3 hM326 (by simp only [r7_successors_L1, h340, hg351, hg357, hg359, cs4])), aM1, aM1, aM1, aM1, iv1⟩
  intro h340
  have g375 := df h340
  obtain rfl : r321 = 0 := by omega
  refine Ke ?_
  have hR376 := q2 hM326 out_322 (by simp only [r7_successors_L1, h340, cs4])
  refine KS ?_
  refine Oq Vm (Oq Va (KS ?_))
  refine Jl [0] (Ent.freeze _ _) ?_
  have hq := q4 hrr out_322 (by simp only [r7_successors, h9, h19, h110, h116, h260, h319, h340, hg106, hR376, cs4]); subst hq
  exact Kr (vl a324 k325 out_322) rfl (.tmp rfl .nil) [0] (suc_rg hck hl aM1 hrr)
 intro h319
 have g377 := ne_of_beq_false h319
 refine KS ?_
 refine Oq Vm (Oq (Vfa fo65_1 7) (Oq (VldF sh3 7) (Oq (Vfa fo65_2 7) (Oq (VldF sh3 7) (Oq (Vfa fo65_3 7) (Oq (VldF sh3 7) (Oq Vadd ?_)))))))
 refine letv (r7_stmtNode l ((l.getD i.toNat default).Func) ((l.getD i.toNat default).Block) ((l.getD i.toNat default).Stmt + 1)) fun rv378 hg379 => ?_
 have hc380 := fn58 l la0 lk0 ((l.getD i.toNat default).Func) ((l.getD i.toNat default).Block) (((l.getD i.toNat default).Stmt + 1)) pre pre pre rv378 hg379
 refine Oc [11] ca58 hc380 ?_
 rintro - he381
 unfold i64ok at he381
 refine Oa (AsV sl22 sz22 [vi rv378] [vi rv378]) fun c382 => ?_
 refine Jo 0 ?_; rintro a383 k384 rfl
 refine Oq Va (KS ?_)
 refine Jl [0] (Ent.crInt _ [rv378] _ _ rfl rfl (by intro x hx; rw [List.mem_singleton] at hx; subst hx; unfold i64ok; omega) aB1) ?_
 refine Jl [0] (Ent.freeze _ _) ?_
 have hq := q4 hrr [rv378] (by simp only [r7_successors, h9, h19, h110, h116, h260, h319, hg106, hg379, cs4]); subst hq
 exact Kr (.slice a383 1 k384) rfl (.tmp rfl .nil) [0] (suc_rg hck hl aM1 hrr)
theorem fn31 (l : List Int) (la0 : Option Addr) (lk0 : Nat) (n : Int) (hn_0 : i64ok n) (hl0 : l.length ≤ 1000000000) (rr : List Int) (hrr : r7_Insert l n = rr) : FT Tryz.prog 31 #[vl la0 lk0 l, vi n] [S la0 lk0 l] (fun g : Value => (rr.length ≤ l.length + 1)) (fun g => g) (fun g => [sl g rr]) := by
 refine FTi Tryz.func31 fun w0 M0 F0 => ?_
 unfold i64ok at hn_0
 refine Fb 8 0 fun _ => Fo 0 fun ho2 => KS ?_
 refine Oq Va (KS ?_)
 refine Oq Va (KS ?_)
 refine Kl (γ := Nat × Int) (fun (r3, i_4) => ⟨[(0, vl la0 lk0 l), (1, vi n), (5, vi i_4)], [S la0 lk0 l], r7_Insert_L0 l n r3 i_4 = r7_Insert_L0 l n (((l.length : Int) - 0).toNat) 0 ∧ r3 = ((l.length : Int) - i_4).toNat ∧ (0 : Int) ≤ i_4 ∧ i_4 ≤ (l.length : Int) ∧ (-9223372036854775808 ≤ i_4 ∧ i_4 ≤ 9223372036854775807), r3⟩) (((l.length : Int) - 0).toNat, 0) [0] ⟨rfl, rfl, aM1, aM1, aM1⟩ ?_
 rintro ⟨r3, i_4⟩ ⟨hM5, hr6, hi7, hi8, hk9⟩
 refine JJ_nx fun _ _ hL hA => ?_; dsimp only at hL hA; subst hL hA
 refine Fb 8 0 fun _ => Fo 0 fun ho11 => KS ?_
 refine Oq Vm (Oq Vm (Oq (Vlen sl22) (Oq Vlss (Oq Vm ?_))))
 refine Js 11 ?_ ?_
 ·intro h12
  have g13 := dt h12
  obtain ⟨r14, rfl⟩ := scc (n := r3) aM1
  refine Oq Vm (Oq Vm (Oq (Vi sl22 0) ?_))
  have hb15 := ok1 (i := i_4.toNat) ho11 rng
  refine Oq (VldI sh3 0) (Oq Vm (Oq Vlss (Oq Vpt (KS ?_))))
  refine Kc ?_ ?_
  ·intro h16
   have g17 := dt h16
   refine KS ?_
   refine Oq Vm (Oq Vadd (Oq Va (KS ?_)))
   exact Kg (r14, (i_4 + 1)) [0] ⟨(q3 hM5 (by simp only [r7_Insert_L0, h12, h16, cs4])), aM1, aM1, aM1, aM1⟩
  intro h16
  have g18 := df h16
  refine Ke ?_
  have hR19 := q2 hM5 i_4 (by simp only [r7_Insert_L0, h12, h16, cs4])
  refine KS ?_
  refine Oq Vm (Oq Vm (Oq (Vlen sl22) (Oq Vlss (Oq Vm ?_))))
  refine Js 25 ?_ ?_
  ·intro h20
   have g21 := dt h20
   refine Oq Vm (Oq Vm (Oq (Vi sl22 0) ?_))
   have hb22 := ok1 (i := i_4.toNat) ho11 rng
   refine Oq (VldI sh3 0) (Oq Vm (Oq Veql (Oq Vpt (KS ?_))))
   refine Kc ?_ ?_
   ·intro h23
    have g24 := eq_of_beq h23
    refine KS ?_
    refine Oq Vm (Oq Va (KS ?_))
    have hq := q4 hrr l (by simp only [r7_Insert, h12, h16, h20, h23, hR19, cs4]); subst hq
    exact Kr (vl la0 lk0 l) rfl (.tmp rfl .nil) [0] en
   intro h23
   have g25 := ne_of_beq_false h23
   refine KS ?_
   refine Oa (As0 sl22) fun c26 => ?_
   refine Jo 0 ?_; rintro a27 k28 rfl
   refine Oq Vm (Oq Vm (Oa (Asl [1] sl22 0 (i_4.toNat)) fun c29 => ?_))
   refine Jo 0 ?_; rintro a30 k31 rfl
   refine Fb 8 0 fun _ => Fo 0 fun ho33 => ?_
   have hn34 : ((l.take (i_4.toNat)).drop 0).length = (i_4.toNat) - 0 := len_slice rng rng
   refine Jl [1] (Ent.crNil (α := Int) _) ?_
   refine Oa (Ap0 [0, 0] sl22 sl22 sz22) fun c35 => ?_
   refine Jo 0 ?_; rintro a36 k37 rfl
   refine Oq Va (KS ?_)
   refine Oq Vm (Oq Vm (Oa (AsV sl22 sz22 [vi n] [vi n]) fun c38 => ?_))
   refine Jo 0 ?_; rintro a39 k40 rfl
   refine Jl [0] (Ent.crInt _ [n] _ _ rfl rfl (by intro x hx; rw [List.mem_singleton] at hx; subst hx; unfold i64ok; omega) aB1) ?_
   refine Oa (ApO [1, 0] sl22 sl22 sz22) fun c41 => ?_
   refine Jo 0 ?_; rintro a42 k43 rfl
   refine Fb 8 0 fun _ => Fo 0 fun ho45 => ?_
   have hn46 := la ((l.take (i_4.toNat)).drop 0) ([n] : List Int)
   refine Oq Va (KS ?_)
   refine Oq Vm (Oq Vm (Oq Vm (Oa (Asl [2] sl22 (i_4.toNat) l.length) fun c47 => ?_)))
   refine Jo 0 ?_; rintro a48 k49 rfl
   refine Fb 8 0 fun _ => Fo 0 fun ho51 => ?_
   have hn52 : ((l.take l.length).drop (i_4.toNat)).length = l.length - (i_4.toNat) := len_slice rng rng
   refine Oa (Ap [1, 0] sl22 sl22 sz22) fun c53 => ?_
   refine Jo 0 ?_; rintro a54 k55 rfl
   refine Fb 8 0 fun _ => Fo 0 fun ho57 => ?_
   have hn58 := la ((((l.take (i_4.toNat)).drop 0) ++ [n]) : List Int) ((l.take l.length).drop (i_4.toNat))
   refine Oq Va (KS ?_)
   refine Jl [0] (Ent.freeze _ _) ?_
   have hq := q4 hrr ((((l.take (i_4.toNat)).drop 0) ++ [n]) ++ ((l.take l.length).drop (i_4.toNat))) (by simp only [r7_Insert, h12, h16, h20, h23, hR19, cs4]); subst hq
   exact Kr (.slice a54 (((((l.take (i_4.toNat)).drop 0) ++ [n]) ++ ((l.take l.length).drop (i_4.toNat))).length) k55) rfl (.tmp rfl .nil) [0] en
  intro h20
  exact absurd h20 (by first | (simp [h12]; done) | (simp only [bne, h12]; decide) | (simp only [bne, h12, Bool.not_true, Bool.not_false]; decide) | (exfalso; omega) | (intro hq; simp only [bne, hq, Bool.not_false, Bool.not_true, reduceCtorEq] at h12))
 intro h12
 have g59 := df h12
 obtain rfl : r3 = 0 := by omega
 refine Osk (Osk (Osk (Osk (Osk (Osk (Oq Vpf (KS ?_)))))))
 refine Kf ?_
 refine Ke ?_
 have hR60 := q2 hM5 i_4 (by simp only [r7_Insert_L0, h12, cs4])
 refine KS ?_
 refine Oq Vm (Oq Vm (Oq (Vlen sl22) (Oq Vlss (Oq Vm ?_))))
 refine Js 25 ?_ ?_
 ·intro h61
  exact absurd h61 (by first | (simp [h12]; done) | (simp only [bne, h12]; decide) | (simp only [bne, h12, Bool.not_true, Bool.not_false]; decide) | (exfalso; omega) | (intro hq; simp only [bne, hq, Bool.not_false, Bool.not_true, reduceCtorEq] at h12))
 intro h61
 have g62 := df h61
 refine Osk (Osk (Osk (Osk (Osk (Osk (Oq Vpf (KS ?_)))))))
 refine Kf (KS ?_)
 refine Oa (As0 sl22) fun c63 => ?_
 refine Jo 0 ?_; rintro a64 k65 rfl
 refine Oq Vm (Oq Vm (Oa (Asl [1] sl22 0 (i_4.toNat)) fun c66 => ?_))
 refine Jo 0 ?_; rintro a67 k68 rfl
 refine Fb 8 0 fun _ => Fo 0 fun ho70 => ?_
 have hn71 : ((l.take (i_4.toNat)).drop 0).length = (i_4.toNat) - 0 := len_slice rng rng
 refine Jl [1] (Ent.crNil (α := Int) _) ?_
 refine Oa (Ap0 [0, 0] sl22 sl22 sz22) fun c72 => ?_
 refine Jo 0 ?_; rintro a73 k74 rfl
 refine Oq Va (KS ?_)
 refine Oq Vm (Oq Vm (Oa (AsV sl22 sz22 [vi n] [vi n]) fun c75 => ?_))
 refine Jo 0 ?_; rintro a76 k77 rfl
 refine Jl [0] (Ent.crInt _ [n] _ _ rfl rfl (by intro x hx; rw [List.mem_singleton] at hx; subst hx; unfold i64ok; omega) aB1) ?_
 refine Oa (ApO [1, 0] sl22 sl22 sz22) fun c78 => ?_
 refine Jo 0 ?_; rintro a79 k80 rfl
 refine Fb 8 0 fun _ => Fo 0 fun ho82 => ?_
 have hn83 := la ((l.take (i_4.toNat)).drop 0) ([n] : List Int)
 refine Oq Va (KS ?_)
 refine Oq Vm (Oq Vm (Oq Vm (Oa (Asl [2] sl22 (i_4.toNat) l.length) fun c84 => ?_)))
 refine Jo 0 ?_; rintro a85 k86 rfl
 refine Fb 8 0 fun _ => Fo 0 fun ho88 => ?_
 have hn89 : ((l.take l.length).drop (i_4.toNat)).length = l.length - (i_4.toNat) := len_slice rng rng
 refine Oa (Ap [1, 0] sl22 sl22 sz22) fun c90 => ?_
 refine Jo 0 ?_; rintro a91 k92 rfl
 refine Fb 8 0 fun _ => Fo 0 fun ho94 => ?_
 have hn95 := la ((((l.take (i_4.toNat)).drop 0) ++ [n]) : List Int) ((l.take l.length).drop (i_4.toNat))
 refine Oq Va (KS ?_)
 refine Jl [0] (Ent.freeze _ _) ?_
 have hq := q4 hrr ((((l.take (i_4.toNat)).drop 0) ++ [n]) ++ ((l.take l.length).drop (i_4.toNat))) (by simp only [r7_Insert, h12, h61, hR60, cs4]); subst hq
 exact Kr (.slice a91 (((((l.take (i_4.toNat)).drop 0) ++ [n]) ++ ((l.take l.length).drop (i_4.toNat))).length) k92) rfl (.tmp rfl .nil) [0] en
theorem fn15 (p : GProgram) (pa0 : Option Addr) (pk0 : Nat) (rr : GGraph × Int) (hrr : r7_Build p = rr) : FT Tryz.prog 15 #[.agg #[vl pa0 pk0 p.Funcs]] [S pa0 pk0 p.Funcs] (fun g : Value × Value × Value => i64ok rr.2) (fun g => .tuple #[.agg #[g.1, g.2.1, g.2.2], vi rr.2]) (fun g => [sl g.1 rr.1.Nodes, sl g.2.1 rr.1.Succ, sl g.2.2 rr.1.Pred]) := by
 refine FTi Tryz.func15 fun w0 M0 F0 => Fb 40 0 fun _ => ?_
 refine KS ?_
 refine Oa (Ab [vl pa0 pk0 p.Funcs]) fun p2 => Oa (Al ze51 [.slice none 0 0, .slice none 0 0, .slice none 0 0]) fun p3 => Oq Va (KS ?_)
 refine Oq (VldA sh25 1) ?_
 refine letv (r4_Check p) fun rv4 hg5 => ?_
 have hc6 := fn28 p pa0 pk0 rv4 hg5
 refine Oc [2] ca28 hc6 ?_
 rintro - ⟨he7, he8, he9, he10, he11⟩
 unfold i64ok at he7 he8 he9 he10 he11
 refine Oq Vm (Oq Vx (Oq Vx (Oa (Al ze65 [vi 0, vi 0, vi 0, vi 0]) fun p12 => Ost (Scl [0] sh65 [vi rv4.1.Kind, vi rv4.1.Func, vi rv4.1.Block, vi rv4.1.Stmt]) (Oq Va (KS ?_)))))
 refine Oq Vm (Oq Vneq (KS ?_))
 refine Kc ?_ ?_
 ·intro h13
  have g14 := ne_of_bne h13
  refine KS ?_
  refine Oq (Vbd st51 [.slice none 0 0, .slice none 0 0, .slice none 0 0]) (Oq Vm (Ost (Scl [1] sh51 [.slice none 0 0, .slice none 0 0, .slice none 0 0]) (Oq Va (KS ?_))))
  refine Jl [] (Ent.slNil (α := GNode)) ?_
  refine Jl [] (Ent.slNil (α := List Int)) ?_
  have hq := q4 hrr ((GGraph.mk [] [] []), rv4.2) (by simp only [r7_Build, h13, hg5, cs4]); subst hq
  exact Kr (.slice none 0 0, .slice none 0 0, .slice none 0 0) rfl (.cellN 2 rfl sh51 rfl (reads_Cl _ _) rfl (.tmp rfl .nil)) [1, 0, 0] en
 intro h13
 have g15 := eq_of_bne_false h13
 have hck0 := Ck0_t (by assumption) h13
 have hck := CkP_of hck0
 refine KS ?_
 refine Oq (VldA sh25 2) ?_
 refine letv (r7_List p) fun rv17 hg18 => ?_
 have hl7 := l7_of hck0 hg18
 have hl8 : rv17.length = (nF 0 p.Funcs).length := congrArg List.length hl7
 have hc19 := fn29 p pa0 pk0 rv17 hg18
 refine Oc [3] ca29 hc19 ?_
 rintro c16 he20
 refine Jo 0 ?_; rintro a21 k22 rfl
 refine Fb 32 0 fun _ => ?_
 refine Oq Va (KS ?_)
 refine JK_drawK [0, 0, 2, 6, 0, 16, 48, 127, 0, 511] fmix ?_
 refine Dv [] Vm (Dv [] Vm (Dv [] (Vlen sl48) ?_))
 have hn25 := List.length_replicate (n := (rv17.length : Int).toNat) (a := ([] : List Int))
 refine Dx [] [] [0] (fun G => (G.g 3 0)) [fun G => os (G.g 3 0) ((List.replicate (rv17.length : Int).toNat []) : List (List Int))] (fun G => xA (Amk (α := List Int) sl49 sz49 [] (fun _ _ => ⟨_, rfl, slrd_nil⟩))) (Dv [] Vm (Dv [] (Vlen sl48) ?_))
 have hn27 := List.length_replicate (n := (rv17.length : Int).toNat) (a := ([] : List Int))
 refine Dx [] [] [0] (fun G => (G.g 6 0)) [fun G => os (G.g 6 0) ((List.replicate (rv17.length : Int).toNat []) : List (List Int))] (fun G => xA (Amk (α := List Int) sl49 sz49 [] (fun _ _ => ⟨_, rfl, slrd_nil⟩))) ?_
 refine Dx [5, 6] [] [0, 0] (fun G => .agg #[vl a21 k22 rv17, (G.g 3 0), (G.g 6 0)]) [] (fun G => xV (v := .agg #[vl a21 k22 rv17, (G.g 3 0), (G.g 6 0)]) (Vo 0 rfl (isO_os _ _) fun aq28 kq29 eq30 => (by rw [eq30]; exact Vo 1 rfl (isO_os _ _) fun aq31 kq32 eq33 => (by rw [eq33]; exact Vbd st51 [vl a21 k22 rv17, .slice aq28 (((List.replicate (rv17.length : Int).toNat []) : List (List Int)).length) kq29, .slice aq31 (((List.replicate (rv17.length : Int).toNat []) : List (List Int)).length) kq32])))) (Dx [] [] [0] (fun G => (G.g 8 0)) [fun G => Cl (G.g 8 0) [.slice none 0 0, .slice none 0 0, .slice none 0 0]] (fun G => xA (Al ze51 [.slice none 0 0, .slice none 0 0, .slice none 0 0])) (Dx0 [5, 6, 7] [7] [1, 1, 0] [fun G => Cl (G.g 8 0) [vl a21 k22 rv17, (G.g 3 0), (G.g 6 0)]] (fun G => x1 0 rfl os_one fun ho35 => (x1 1 rfl os_one fun ho36 => (xS (Scl [2] sh51 [vl a21 k22 rv17, (G.g 3 0), (G.g 6 0)] (v := .agg #[vl a21 k22 rv17, (G.g 3 0), (G.g 6 0)]) (h1 := show [vl a21 k22 rv17, (G.g 3 0), (G.g 6 0)].all (·.oneCell') = true from (by simp only [List.all_cons, List.all_nil, ho35, ho36, Bool.and_true, Bool.true_and] <;> rfl)))))) ?_))
 refine Dn ⟨by kernel_rfl, fun G => ?_⟩
 refine Jw2 [(1, p2), (2, p3), (6, vl a21 k22 rv17), (7, (G.g 8 0))] [0, 1, 2, 3, 4] [os (G.g 3 0) ((List.replicate (rv17.length : Int).toNat []) : List (List Int)), os (G.g 6 0) ((List.replicate (rv17.length : Int).toNat []) : List (List Int)), Cl (G.g 8 0) [vl a21 k22 rv17, (G.g 3 0), (G.g 6 0)]] ?_
 generalize G.g 3 0 = c24, G.g 6 0 = c26, G.g 8 0 = p34
 refine Jo 5 ?_; rintro a37 k38 rfl
 refine Fb 24 5 fun _ => ?_
 refine Jo 6 ?_; rintro a40 k41 rfl
 refine KS ?_
 refine Oq Va (KS ?_)
 refine Kl (γ := Nat × List (List Int) × List (List Int) × Int × Option Addr × Nat × Option Addr × Nat) (fun (r42, g1_43, g2_44, i_45, a46, k47, a48, k49) => ⟨[(1, p2), (2, p3), (6, vl a21 k22 rv17), (7, p34), (8, vi i_45)], [O a48 k49 g2_44, O a46 k47 g1_43, S a21 k22 rv17, Cl p3 [.slice none 0 0, .slice none 0 0, .slice none 0 0], pv p2 [vl pa0 pk0 p.Funcs], S pa0 pk0 p.Funcs, Cl p34 [vl a21 k22 rv17, vl a46 k47 g1_43, vl a48 k49 g2_44]], r7_Build_L0 p rv17 r42 g1_43 g2_44 i_45 = r7_Build_L0 p rv17 (((rv17.length : Int) - 0).toNat) (List.replicate (rv17.length : Int).toNat []) (List.replicate (rv17.length : Int).toNat []) 0 ∧ r42 = ((rv17.length : Int) - i_45).toNat ∧ (0 : Int) ≤ i_45 ∧ i_45 ≤ (rv17.length : Int) ∧ (-9223372036854775808 ≤ i_45 ∧ i_45 ≤ 9223372036854775807) ∧ VF g1_43 g2_44 (nF 0 p.Funcs).length ∧ (g1_43.length = (nF 0 p.Funcs).length ∧ g2_44.length = (nF 0 p.Funcs).length), r42⟩) (((rv17.length : Int) - 0).toNat, (List.replicate (rv17.length : Int).toNat []), (List.replicate (rv17.length : Int).toNat []), 0, a37, k38, a40, k41) [6, 5, 0, 2, 2, 3, 4] ⟨rfl, rfl, aM1, aM1, aM1, (by rw [← hl8]; exact VF_rep _), (by simp only [List.length_replicate]; omega)⟩ ?_
 rintro ⟨r42, g1_43, g2_44, i_45, a46, k47, a48, k49⟩ ⟨hM50, hr51, hi52, hi53, hk54, hv55, hv56⟩
 refine JJ_nx fun _ _ hL hA => ?_; dsimp only at hL hA; subst hL hA
 refine Fb 24 0 fun _ => Fb 24 1 fun _ => Fb 32 2 fun _ => Fb 40 5 fun _ => KS ?_
 refine Oq Vm (Oq Vm (Oq (Vlen sl48) (Oq Vlss (KS ?_))))
 refine Kc ?_ ?_
 ·intro h61
  have g62 := dt h61
  obtain ⟨r63, rfl⟩ := scc (n := r42) aM1
  refine KS ?_
  refine Oq (VldA sh25 4) (Oq Vm (Oq Vm ?_))
  refine letv (r7_successors p rv17 i_45) fun rv65 hg66 => ?_
  have hc67 := fn30 p pa0 pk0 rv17 a21 k22 i_45 pre hck hl7 pre rv65 hg66
  refine Oc [5, 2] ca30 hc67 ?_
  rintro c64 he68
  refine Jo 0 ?_; rintro a69 k70 rfl
  refine Fb 8 0 fun _ => Fo 0 fun ho72 => ?_
  refine Oq Va (KS ?_)
  refine Oq Va (KS ?_)
  refine Kl (γ := Nat × List (List Int) × List (List Int) × Int) (fun (r73, g1_74, g2_75, k_76) => ⟨[(1, p2), (2, p3), (6, vl a21 k22 rv17), (7, p34), (8, vi i_45), (9, vl a69 k70 rv65), (10, vi k_76)], [S a69 k70 rv65, os (vl a48 k49 g2_44) g2_75, os (vl a46 k47 g1_43) g1_74, S a21 k22 rv17, Cl p3 [.slice none 0 0, .slice none 0 0, .slice none 0 0], pv p2 [vl pa0 pk0 p.Funcs], S pa0 pk0 p.Funcs, Cl p34 [vl a21 k22 rv17, vl a46 k47 g1_43, vl a48 k49 g2_44]], r7_Build_L1 i_45 rv65 r73 g1_74 g2_75 k_76 = r7_Build_L1 i_45 rv65 (((rv65.length : Int) - 0).toNat) g1_43 g2_44 0 ∧ r73 = ((rv65.length : Int) - k_76).toNat ∧ (0 : Int) ≤ k_76 ∧ k_76 ≤ (rv65.length : Int) ∧ (-9223372036854775808 ≤ k_76 ∧ k_76 ≤ 9223372036854775807) ∧ VF g1_74 g2_75 (nF 0 p.Funcs).length ∧ (g1_74.length = (nF 0 p.Funcs).length ∧ g2_75.length = (nF 0 p.Funcs).length), r73⟩) (((rv65.length : Int) - 0).toNat, g1_43, g2_44, 0) [0, 1, 1, 1, 2, 2, 3, 4] ⟨rfl, rfl, aM1, aM1, aM1, (by assumption), (by (try simp only [List.length_set]); omega)⟩ ?_
  rintro ⟨r73, g1_74, g2_75, k_76⟩ ⟨hM77, hr78, hi79, hi80, hk81, hv82, hv83⟩
  refine JJ_nx fun _ _ hL hA => ?_; dsimp only at hL hA; subst hL hA
  refine Fb 8 0 fun _ => Fo 0 fun ho85 => Fb 24 1 fun _ => Fl 1 fun hn87 => ?_
  refine Fb 24 2 fun _ => Fl 2 fun hn89 => ?_
  refine Fb 32 3 fun _ => Fb 40 6 fun _ => KS ?_
  refine Oq Vm (Oq Vm (Oq (Vlen sl22) (Oq Vlss (KS ?_))))
  refine Kc ?_ ?_
  ·intro h92
   have g93 := dt h92
   have hbr := ‹∀ x ∈ rv65, 0 ≤ x ∧ x < _› _ (getD_mem (xs := rv65) (i := k_76.toNat) (d := 0) aM1)
   obtain ⟨r94, rfl⟩ := scc (n := r73) aM1
   refine KS ?_
   refine Jp 7 fun hp95 => ?_
   refine JJ_peekOL i_45.toNat 3 rfl rng fun a96 k97 => ?_
   refine Fb 8 1 fun _ => Fo 1 fun ho99 => ?_
   refine JK_drawK [0, 1, 0, 0, 8, 0, 56, 120, 0, 0, 768, 1792, 4088, 8191, 16383] fmix ?_
   refine Dv [2] (Vfa fo51_1 0) (Dv [9] (VldF sh49 0) (Dv [] Vm (Dv [2] (Vfa fo51_1 0) (Dv [9] (VldF sh49 0) (Dv [] Vm (Dv [0] (Vi sl49 0) (Dv [0] (Vld sh22 0) (Dv [] Vm (Dv [] Vm ?_)))))))))
   refine Dv [3] (Vi sl22 0) ?_
   have hb100 := ok1 (i := k_76.toNat) ho85 rng
   refine Dv [3] (VldI sh3 0) ?_
   refine letv (r7_Insert (g1_74.getD i_45.toNat []) (rv65.getD k_76.toNat 0)) fun rv102 hg103 => ?_
   refine Dx [1] [] [2, 0, 1] (fun G => (G.g 12 0)) [fun G => SP.fact ((rv102.length ≤ (g1_74.getD i_45.toNat []).length + 1)), fun G => sl (G.g 12 0) rv102] (fun G => xC [0] ca31 (fn31 ((g1_74.getD i_45.toNat [])) a96 k97 ((rv65.getD k_76.toNat 0)) pre (by first | exact VF_lS9 (by assumption) aM1 _ | exact VF_lP9 (by assumption) aM1 _) rv102 hg103)) (Dv [0] (Vi sl49 0) ?_)
   refine Dx0 [0, 10, 11] [0] [2, 1, 0] [fun G => os (vl a46 k47 g1_43) (g1_74.set i_45.toNat rv102)] (fun G => by refine xf 1 rfl ?_; rintro he104; exact xp [0] rfl (Ent.oread _ _ _ _) (x1 2 rfl sl_one fun ho105 => (xS (OpS.frame [0, 1] rfl (OpS.storeOs' (Rs := [sl (G.g 12 0) rv102]) rv102 [(G.g 12 0)] rfl rfl rfl sh22 (cells_of_one ho105) rfl (fun h => ⟨_, rfl, sepAll_get (i := 0) rfl h⟩) rng))))) ?_
   refine Dn ⟨by kernel_rfl, fun G => ?_⟩
   refine Jw2 [(1, p2), (2, p3), (6, vl a21 k22 rv17), (7, p34), (8, vi i_45), (9, vl a69 k70 rv65), (10, vi k_76)] [1, 2, 3, 4, 5, 6, 7, 8, 9] [SP.fact ((rv102.length ≤ (g1_74.getD i_45.toNat []).length + 1)), sl (G.g 12 0) rv102, os (vl a46 k47 g1_43) (g1_74.set i_45.toNat rv102)] ?_
   generalize G.g 12 0 = c101
   refine Jf 9 rfl ?_; rintro he106
   refine Jk [0, 2, 3, 3, 4, 4, 5, 6, 7, 8] ?_
   refine Jo 8 ?_; rintro a107 k108 rfl
   refine Fb 8 8 fun _ => Fo 8 fun ho110 => ?_
   refine Jp 7 fun hp111 => ?_
   refine JJ_peekOL ((rv65.getD k_76.toNat 0) : Int).toNat 3 rfl rng fun a112 k113 => ?_
   refine Fb 8 1 fun _ => Fo 1 fun ho115 => ?_
   refine JK_drawK [0, 1, 0, 0, 12, 28, 0, 64, 0, 0, 768, 1792, 4032, 8128, 0, 32704, 65535, 131071] fmix ?_
   refine Dv [2] (Vfa fo51_2 0) (Dv [9] (VldF sh49 0) (Dv [] Vm (Dv [] Vm (Dv [4] (Vi sl22 0) ?_))))
   have hb116 := ok1 (i := k_76.toNat) ho85 rng
   refine Dv [4] (VldI sh3 0) (Dv [2] (Vfa fo51_2 0) (Dv [9] (VldF sh49 0) (Dv [] Vm (Dv [] Vm (Dv [4] (Vi sl22 0) ?_)))))
   have hb117 := ok1 (i := k_76.toNat) ho85 rng
   refine Dv [4] (VldI sh3 0) (Dv [0] (Vi sl49 0) (Dv [0] (Vld sh22 0) (Dv [] Vm ?_)))
   refine letv (r7_Insert (g2_75.getD ((rv65.getD k_76.toNat 0) : Int).toNat []) i_45) fun rv119 hg120 => Dx [1] [] [2, 0, 1] (fun G => (G.g 15 0)) [fun G => SP.fact ((rv119.length ≤ (g2_75.getD ((rv65.getD k_76.toNat 0) : Int).toNat []).length + 1)), fun G => sl (G.g 15 0) rv119] (fun G => xC [0] ca31 (fn31 ((g2_75.getD ((rv65.getD k_76.toNat 0) : Int).toNat [])) a112 k113 i_45 pre (by first | exact VF_lS9 (by assumption) aM1 _ | exact VF_lP9 (by assumption) aM1 _) rv119 hg120)) ?_
   refine Dx [0, 12] [] [0, 0] (fun G => (eptr 1 (vl a48 k49 g2_44) ((rv65.getD k_76.toNat 0) : Int).toNat)) [] (fun G => by refine xf 1 rfl ?_; rintro he121; exact xV (Vi sl49 0)) ?_
   refine Dx0 [0, 12, 13] [0] [2, 1, 0] [fun G => os (vl a48 k49 g2_44) (g2_75.set ((rv65.getD k_76.toNat 0) : Int).toNat rv119)] (fun G => by refine xf 1 rfl ?_; rintro he122; exact xp [0] rfl (Ent.oread _ _ _ _) (x1 2 rfl sl_one fun ho123 => (xS (OpS.frame [0, 1] rfl (OpS.storeOs' (Rs := [sl (G.g 15 0) rv119]) rv119 [(G.g 15 0)] rfl rfl rfl sh22 (cells_of_one ho123) rfl (fun h => ⟨_, rfl, sepAll_get (i := 0) rfl h⟩) rng))))) ?_
   refine Dn ⟨by kernel_rfl, fun G => ?_⟩
   refine Jw2 [(1, p2), (2, p3), (6, vl a21 k22 rv17), (7, p34), (8, vi i_45), (9, vl a69 k70 rv65), (10, vi k_76)] [1, 2, 3, 4, 5, 6, 7, 8, 9, 10, 11] [SP.fact ((rv119.length ≤ (g2_75.getD ((rv65.getD k_76.toNat 0) : Int).toNat []).length + 1)), sl (G.g 15 0) rv119, os (vl a48 k49 g2_44) (g2_75.set ((rv65.getD k_76.toNat 0) : Int).toNat rv119)] ?_
   generalize G.g 15 0 = c118
   refine Jf 11 rfl ?_; rintro he124
   refine Jk [0, 2, 3, 4, 5, 5, 6, 7, 7, 8, 9, 10] ?_
   refine Jo 10 ?_; rintro a125 k126 rfl
   refine Fb 8 10 fun _ => Fo 10 fun ho128 => KS ?_
   refine Oq Vm (Oq Vadd (Oq Va (KS ?_)))
   exact Kg (r94, (g1_74.set i_45.toNat rv102), (g2_75.set ((rv65.getD k_76.toNat 0) : Int).toNat rv119), (k_76 + 1)) [2, 11, 9, 3, 4, 4, 5, 6] ⟨(q3 hM77 (by simp only [r7_Build_L1, h92, hg103, hg120, cs4])), aM1, aM1, aM1, aM1, (VF_ins' (by assumption) (by assumption) (by assumption) aM1 aM1), (by (try simp only [List.length_set]); omega)⟩
  intro h92
  have g129 := df h92
  obtain rfl : r73 = 0 := by omega
  refine Ke ?_
  have hR130 := q2 hM77 (g1_74, g2_75) (by simp only [r7_Build_L1, h92, cs4])
  refine KS ?_
  refine Oq Vm (Oq Vadd (Oq Va (KS ?_)))
  refine Fl 2 fun hn131 => ?_; (try unfold vl); rw [← hn131]
  refine Fl 1 fun hn132 => ?_; (try unfold vl); rw [← hn132]
  exact Kg (r63, g1_74, g2_75, (i_45 + 1), a46, k47, a48, k49) [1, 1, 1, 2, 2, 3, 4] ⟨(q3 hM50 (by simp only [r7_Build_L0, h61, h92, hg66, hR130, cs4])), aM1, aM1, aM1, aM1, (by assumption), (by (try simp only [List.length_set]); omega)⟩
 intro h61
 have g133 := df h61
 obtain rfl : r42 = 0 := by omega
 refine Ke ?_
 have hR134 := q2 hM50 (g1_43, g2_44) (by simp only [r7_Build_L0, h61, cs4])
 refine KS ?_
 refine Oq (VldA sh51 6) (Ost (Scl [3] sh51 [vl a21 k22 rv17, vl a46 k47 g1_43, vl a48 k49 g2_44]) (Oq Va (KS ?_)))
 refine Jl [2] (Ent.freeze _ _) ?_
 refine Jl [2] (Ent.freeze _ _) ?_
 have hq := q4 hrr ((GGraph.mk rv17 g1_43 g2_44), 0) (by simp only [r7_Build, h13, h61, hg5, hg18, hR134, cs4]); subst hq
 exact Kr (vl a21 k22 rv17, vl a46 k47 g1_43, vl a48 k49 g2_44) rfl (.cellN 2 rfl sh51 rfl (reads_Cl _ _) rfl (.tmp rfl .nil)) [3, 1, 0] en
theorem fn19 (a : List Int) (aa0 : Option Addr) (ak0 : Nat) (b : List Int) (ba0 : Option Addr) (bk0 : Nat) (rr : Bool) (hrr : r7_Ints a b = rr) : FT Tryz.prog 19 #[vl aa0 ak0 a, vl ba0 bk0 b] [S aa0 ak0 a, S ba0 bk0 b] (fun g : Unit => True) (fun g => vb rr) (fun g => []) := by
 refine FTi Tryz.func19 fun w0 M0 F0 => Fb 8 0 fun _ => Fo 0 fun ho2 => Fb 8 1 fun _ => Fo 1 fun ho4 => ?_
 refine KS ?_
 refine Oq Va (KS ?_)
 refine Oq Vm (Oq (Vlen sl22) (Oq Vm (Oq (Vlen sl22) (Oq Vneq (KS ?_)))))
 refine Kc ?_ ?_
 ·intro h5
  have g6 := ne_of_bne h5
  refine KS ?_
  refine Oq Va (KS ?_)
  have hq := q4 hrr false (by simp only [r7_Ints, h5, cs4]); subst hq
  exact Kr () rfl (.tmp rfl .nil) [] trivial
 intro h5
 have g7 := eq_of_bne_false h5
 refine KS ?_
 refine Oq Va (KS ?_)
 refine Kl (γ := Nat × Int) (fun (r8, i_9) => ⟨[(0, vl aa0 ak0 a), (1, vl ba0 bk0 b), (5, vi i_9)], [S aa0 ak0 a, S ba0 bk0 b], r7_Ints_L0 a b r8 i_9 = r7_Ints_L0 a b (((a.length : Int) - 0).toNat) 0 ∧ r8 = ((a.length : Int) - i_9).toNat ∧ (0 : Int) ≤ i_9 ∧ i_9 ≤ (a.length : Int) ∧ (-9223372036854775808 ≤ i_9 ∧ i_9 ≤ 9223372036854775807), r8⟩) (((a.length : Int) - 0).toNat, 0) [0, 1] ⟨rfl, rfl, aM1, aM1, aM1⟩ ?_
 rintro ⟨r8, i_9⟩ ⟨hM10, hr11, hi12, hi13, hk14⟩
 refine JJ_nx fun _ _ hL hA => ?_; dsimp only at hL hA; subst hL hA
 refine Fb 8 0 fun _ => Fo 0 fun ho16 => Fb 8 1 fun _ => Fo 1 fun ho18 => KS ?_
 refine Oq Vm (Oq Vm (Oq (Vlen sl22) (Oq Vlss (KS ?_))))
 refine Kc ?_ ?_
 ·intro h19
  have g20 := dt h19
  obtain ⟨r21, rfl⟩ := scc (n := r8) aM1
  refine KS ?_
  refine Kq [0, 0, 3, 7, 0, 0, 48, 112, 255] fmix ?_
  refine Qv [] Vm (Qv [] Vm (Qv [0] (Vi sl22 0) ?_))
  have hb22 := ok1 (i := i_9.toNat) ho16 rng
  refine Qv [0] (VldI sh3 0) (Qv [] Vm (Qv [] Vm (Qv [1] (Vi sl22 0) ?_)))
  have hb23 := ok1 (i := i_9.toNat) ho18 rng
  refine Qv [1] (VldI sh3 0) (Qv [] Vneq ?_)
  refine Qn ⟨by kernel_rfl, ?_⟩
  refine Kc ?_ ?_
  ·intro h24
   have g25 := ne_of_bne h24
   refine KS ?_
   refine Oq Va (KS ?_)
   have hR26 := q2 hM10 (.ret false) (by simp only [r7_Ints_L0, h19, h24, cs4])
   have hq := q4 hrr false (by simp only [r7_Ints, h5, h19, h24, hR26, cs4]); subst hq
   exact Kr () rfl (.tmp rfl .nil) [] trivial
  intro h24
  have g27 := eq_of_bne_false h24
  refine KS ?_
  refine Oq Vm (Oq Vadd (Oq Va (KS ?_)))
  exact Kg (r21, (i_9 + 1)) [0, 1] ⟨(q3 hM10 (by simp only [r7_Ints_L0, h19, h24, cs4])), aM1, aM1, aM1, aM1⟩
 intro h19
 have g28 := df h19
 obtain rfl : r8 = 0 := by omega
 refine Ke ?_
 have hR29 := q2 hM10 (.brk ()) (by simp only [r7_Ints_L0, h19, cs4])
 refine KS ?_
 refine Oq Va (KS ?_)
 have hq := q4 hrr true (by simp only [r7_Ints, h5, h19, hR29, cs4]); subst hq
 exact Kr () rfl (.tmp rfl .nil) [] trivial
theorem fn32 (a : List (List Int)) (aa0 : Option Addr) (ak0 : Nat) (b : List (List Int)) (ba0 : Option Addr) (bk0 : Nat) (rr : Bool) (hrr : r7_SameLists a b = rr) : FT Tryz.prog 32 #[vl aa0 ak0 a, vl ba0 bk0 b] [S aa0 ak0 a, S ba0 bk0 b] (fun g : Unit => True) (fun g => vb rr) (fun g => []) := by
 refine FTi Tryz.func32 fun w0 M0 F0 => Fb 24 0 fun _ => Fb 24 1 fun _ => ?_
 refine KS ?_
 refine Oq Va (KS ?_)
 refine Oq Vm (Oq (Vlen sl49) (Oq Vm (Oq (Vlen sl49) (Oq Vneq (KS ?_)))))
 refine Kc ?_ ?_
 ·intro h3
  have g4 := ne_of_bne h3
  refine KS ?_
  refine Oq Va (KS ?_)
  have hq := q4 hrr false (by simp only [r7_SameLists, h3, cs4]); subst hq
  exact Kr () rfl (.tmp rfl .nil) [] trivial
 intro h3
 have g5 := eq_of_bne_false h3
 refine KS ?_
 refine Oq Va (KS ?_)
 refine Kl (γ := Nat × Int) (fun (r6, i_7) => ⟨[(0, vl aa0 ak0 a), (1, vl ba0 bk0 b), (5, vi i_7)], [S aa0 ak0 a, S ba0 bk0 b], r7_SameLists_L0 a b r6 i_7 = r7_SameLists_L0 a b (((a.length : Int) - 0).toNat) 0 ∧ r6 = ((a.length : Int) - i_7).toNat ∧ (0 : Int) ≤ i_7 ∧ i_7 ≤ (a.length : Int) ∧ (-9223372036854775808 ≤ i_7 ∧ i_7 ≤ 9223372036854775807), r6⟩) (((a.length : Int) - 0).toNat, 0) [0, 1] ⟨rfl, rfl, aM1, aM1, aM1⟩ ?_
 rintro ⟨r6, i_7⟩ ⟨hM8, hr9, hi10, hi11, hk12⟩
 refine JJ_nx fun _ _ hL hA => ?_; dsimp only at hL hA; subst hL hA
 refine Fb 24 0 fun _ => Fb 24 1 fun _ => KS ?_
 refine Oq Vm (Oq Vm (Oq (Vlen sl49) (Oq Vlss (KS ?_))))
 refine Kc ?_ ?_
 ·intro h15
  have g16 := dt h15
  obtain ⟨r17, rfl⟩ := scc (n := r6) aM1
  refine KS ?_
  refine JJ_peekL i_7.toNat 0 rfl rng fun a18 k19 => ?_
  refine Fb 8 1 fun _ => Fo 1 fun ho21 => ?_
  refine JJ_peekL i_7.toNat 3 rfl rng fun a22 k23 => ?_
  refine Fb 8 1 fun _ => Fo 1 fun ho25 => ?_
  refine JK_drawK [0, 0, 3, 7, 0, 0, 48, 112, 255, 511] fmix ?_
  refine Dv [] Vm (Dv [] Vm (Dv [4] (Vi sl49 0) (Dv [2] (Vld sh22 0) (Dv [] Vm (Dv [] Vm (Dv [5] (Vi sl49 0) (Dv [0] (Vld sh22 0) ?_)))))))
  refine letv (r7_Ints (a.getD i_7.toNat []) (b.getD i_7.toNat [])) fun rv26 hg27 => ?_
  refine Dx [1, 3] [] [1, 2, 0] (fun G => vb rv26) [fun G => SP.fact (True)] (fun G => xC [1, 0] ca19 (fn19 ((a.getD i_7.toNat [])) a18 k19 ((b.getD i_7.toNat [])) a22 k23 rv26 hg27)) (Dv [] Vnot ?_)
  refine Dn ⟨by kernel_rfl, fun G => ?_⟩
  refine Jw2 [(0, vl aa0 ak0 a), (1, vl ba0 bk0 b), (5, vi i_7), (26, vb (!rv26))] [0, 1, 2, 3, 4, 5] [SP.fact (True)] ?_
  refine Jk [0, 1, 2, 3, 4, 5] ?_
  refine Kc ?_ ?_
  ·intro h28
   have h30 := not_true h28
   refine KS ?_
   refine Oq Va (KS ?_)
   have hR32 := q2 hM8 (.ret false) (by simp only [r7_SameLists_L0, h15, h28, h30, hg27, cs4])
   have hq := q4 hrr false (by simp only [r7_SameLists, h3, h15, h28, h30, hg27, hR32, cs4]); subst hq
   exact Kr () rfl (.tmp rfl .nil) [] trivial
  intro h28
  have h34 := not_false h28
  refine KS ?_
  refine Oq Vm (Oq Vadd (Oq Va (KS ?_)))
  exact Kg (r17, (i_7 + 1)) [4, 5] ⟨(q3 hM8 (by simp only [r7_SameLists_L0, h15, h28, h34, hg27, cs4])), aM1, aM1, aM1, aM1⟩
 intro h15
 have g36 := df h15
 obtain rfl : r6 = 0 := by omega
 refine Ke ?_
 have hR37 := q2 hM8 (.brk ()) (by simp only [r7_SameLists_L0, h15, cs4])
 refine KS ?_
 refine Oq Va (KS ?_)
 have hq := q4 hrr true (by simp only [r7_SameLists, h3, h15, hR37, cs4]); subst hq
 exact Kr () rfl (.tmp rfl .nil) [] trivial
theorem fn16 (a : GGraph) (aa0 : Option Addr) (ak0 : Nat) (aa1 : Option Addr) (ak1 : Nat) (aa2 : Option Addr) (ak2 : Nat) (b : GGraph) (ba0 : Option Addr) (bk0 : Nat) (ba1 : Option Addr) (bk1 : Nat) (ba2 : Option Addr) (bk2 : Nat) (rr : Bool) (hrr : r7_SameGraph a b = rr) : FT Tryz.prog 16 #[.agg #[vl aa0 ak0 a.Nodes, vl aa1 ak1 a.Succ, vl aa2 ak2 a.Pred], .agg #[vl ba0 bk0 b.Nodes, vl ba1 bk1 b.Succ, vl ba2 bk2 b.Pred]] [S aa0 ak0 a.Nodes, S aa1 ak1 a.Succ, S aa2 ak2 a.Pred, S ba0 bk0 b.Nodes, S ba1 bk1 b.Succ, S ba2 bk2 b.Pred] (fun g : Unit => True) (fun g => vb rr) (fun g => []) := by
 refine FTi Tryz.func16 fun w0 M0 F0 => Fb 32 0 fun _ => Fb 24 1 fun _ => Fb 24 2 fun _ => Fb 32 3 fun _ => Fb 24 4 fun _ => Fb 24 5 fun _ => ?_
 refine KS ?_
 refine Oa (Ab [vl aa0 ak0 a.Nodes, vl aa1 ak1 a.Succ, vl aa2 ak2 a.Pred]) fun p7 => Oa (Ab [vl ba0 bk0 b.Nodes, vl ba1 bk1 b.Succ, vl ba2 bk2 b.Pred]) fun p8 => Oq Va (KS ?_)
 refine Oq (Vfa fo51_0 1) (Oq (VldF sh48 1) (Oq (Vlen sl48) (Oq (Vfa fo51_0 0) (Oq (VldF sh48 0) (Oq (Vlen sl48) (Oq Vneq (Oq Vm ?_)))))))
 refine Js 13 ?_ ?_
 ·intro h9
  have g10 := ne_of_bne h9
  refine Osk (Osk (Osk (Osk (Osk (Osk (Oq Vpt (Oq Vm (Osk (Osk ?_)))))))))
  refine Osk (Osk (Osk (Osk (Oq Vpt (KS ?_)))))
  refine Kt (KS ?_)
  refine Oq Va (KS ?_)
  have hq := q4 hrr false (by simp only [r7_SameGraph, h9, cs4]); subst hq
  exact Kr () rfl (.tmp rfl .nil) [] trivial
 intro h9
 have g11 := eq_of_bne_false h9
 refine Oq (Vfa fo51_1 1) (Oq (VldF sh49 1) (Oq (Vfa fo51_1 0) (Oq (VldF sh49 0) ?_)))
 refine letv (r7_SameLists a.Succ b.Succ) fun rv12 hg13 => ?_
 have hc14 := fn32 a.Succ aa1 ak1 b.Succ ba1 bk1 rv12 hg13
 refine Oc [3, 6] ca32 hc14 ?_
 rintro - -
 refine Oq Vnot (Oq Vpf (Oq Vm ?_))
 refine Js 21 ?_ ?_
 ·intro h15
  have h17 := not_true h15
  refine Osk (Osk (Osk (Osk (Osk (Osk (Oq Vpt (KS ?_)))))))
  refine Kt (KS ?_)
  refine Oq Va (KS ?_)
  have hq := q4 hrr false (by simp only [r7_SameGraph, h9, h15, h17, hg13, cs4]); subst hq
  exact Kr () rfl (.tmp rfl .nil) [] trivial
 intro h15
 have h20 := not_false h15
 refine Oq (Vfa fo51_2 1) (Oq (VldF sh49 1) (Oq (Vfa fo51_2 0) (Oq (VldF sh49 0) ?_)))
 refine letv (r7_SameLists a.Pred b.Pred) fun rv22 hg23 => ?_
 have hc24 := fn32 a.Pred aa2 ak2 b.Pred ba2 bk2 rv22 hg23
 refine Oc [4, 7] ca32 hc24 ?_
 rintro - -
 refine Oq Vnot (Oq Vpf (KS ?_))
 refine Kc ?_ ?_
 ·intro h25
  have h27 := not_true h25
  refine KS ?_
  refine Oq Va (KS ?_)
  have hq := q4 hrr false (by simp only [r7_SameGraph, h9, h15, h20, h25, h27, hg13, hg23, cs4]); subst hq
  exact Kr () rfl (.tmp rfl .nil) [] trivial
 intro h25
 have h30 := not_false h25
 refine KS ?_
 refine Oq Va (KS ?_)
 refine Kl (γ := Nat × Int) (fun (r32, i_33) => ⟨[(2, p7), (3, p8), (5, vi i_33)], [pv p8 [vl ba0 bk0 b.Nodes, vl ba1 bk1 b.Succ, vl ba2 bk2 b.Pred], pv p7 [vl aa0 ak0 a.Nodes, vl aa1 ak1 a.Succ, vl aa2 ak2 a.Pred], S aa0 ak0 a.Nodes, S aa1 ak1 a.Succ, S aa2 ak2 a.Pred, S ba0 bk0 b.Nodes, S ba1 bk1 b.Succ, S ba2 bk2 b.Pred], r7_SameGraph_L0 a b r32 i_33 = r7_SameGraph_L0 a b (((a.Nodes.length : Int) - 0).toNat) 0 ∧ r32 = ((a.Nodes.length : Int) - i_33).toNat ∧ (0 : Int) ≤ i_33 ∧ i_33 ≤ (a.Nodes.length : Int) ∧ (-9223372036854775808 ≤ i_33 ∧ i_33 ≤ 9223372036854775807), r32⟩) (((a.Nodes.length : Int) - 0).toNat, 0) [0, 1, 2, 3, 4, 5, 6, 7] ⟨rfl, rfl, aM1, aM1, aM1⟩ ?_
 rintro ⟨r32, i_33⟩ ⟨hM34, hr35, hi36, hi37, hk38⟩
 refine JJ_nx fun _ _ hL hA => ?_; dsimp only at hL hA; subst hL hA
 refine Fb 32 2 fun _ => Fb 24 3 fun _ => Fb 24 4 fun _ => Fb 32 5 fun _ => Fb 24 6 fun _ => Fb 24 7 fun _ => KS ?_
 refine Oq Vm (Oq (Vfa fo51_0 1) (Oq (VldF sh48 1) (Oq (Vlen sl48) (Oq Vlss (KS ?_)))))
 refine Kc ?_ ?_
 ·intro h45
  have g46 := dt h45
  obtain ⟨r47, rfl⟩ := scc (n := r32) aM1
  refine KS ?_
  refine JJ_peek_GNode i_33.toNat 2 rfl rng fun hb48 hb49 hb50 hb51 => ?_
  unfold i64ok at hb48 hb49 hb50 hb51
  refine JJ_peek_GNode i_33.toNat 6 rfl rng fun hb52 hb53 hb54 hb55 => ?_
  unfold i64ok at hb52 hb53 hb54 hb55
  refine Kq [0, 1, 0, 7, 15, 0, 32, 0, 224, 480, 1023] fmix ?_
  refine Qv [3] (Vfa fo51_0 0) (Qv [3] (VldF sh48 0) (Qv [] Vm (Qv [4] (Vi sl48 0) (Qv [1] (VldA sh65 0) (Qv [2] (Vfa fo51_0 0) (Qv [2] (VldF sh48 0) (Qv [] Vm (Qv [7] (Vi sl48 0) (Qv [0] (VldA sh65 0) ?_)))))))))
  refine Qv [] (VneA eqi65 (l := [(a.Nodes.getD i_33.toNat default).Kind, (a.Nodes.getD i_33.toNat default).Func, (a.Nodes.getD i_33.toNat default).Block, (a.Nodes.getD i_33.toNat default).Stmt]) (m := [(b.Nodes.getD i_33.toNat default).Kind, (b.Nodes.getD i_33.toNat default).Func, (b.Nodes.getD i_33.toNat default).Block, (b.Nodes.getD i_33.toNat default).Stmt])) ?_
  refine Qn ⟨by kernel_rfl, ?_⟩
  refine Kc ?_ ?_
  ·intro h56
   have g57 := ne_of_bne h56
   refine KS ?_
   refine Oq Va (KS ?_)
   have hR58 := q2 hM34 (.ret false) (by simp only [r7_SameGraph_L0, h45, h56, cs4])
   have hq := q4 hrr false (by simp only [r7_SameGraph, h9, h15, h20, h25, h30, h45, h56, hg13, hg23, hR58, cs4]); subst hq
   exact Kr () rfl (.tmp rfl .nil) [] trivial
  intro h56
  have g59 := eq_of_bne_false h56
  refine KS ?_
  refine Oq Vm (Oq Vadd (Oq Va (KS ?_)))
  exact Kg (r47, (i_33 + 1)) [2, 3, 4, 5, 6, 7, 8, 9] ⟨(q3 hM34 (by simp only [r7_SameGraph_L0, h45, h56, cs4])), aM1, aM1, aM1, aM1⟩
 intro h45
 have g60 := df h45
 obtain rfl : r32 = 0 := by omega
 refine Ke ?_
 have hR61 := q2 hM34 (.brk ()) (by simp only [r7_SameGraph_L0, h45, cs4])
 refine KS ?_
 refine Oq Va (KS ?_)
 have hq := q4 hrr true (by simp only [r7_SameGraph, h9, h15, h20, h25, h30, h45, hg13, hg23, hR61, cs4]); subst hq
 exact Kr () rfl (.tmp rfl .nil) [] trivial
theorem fn6 (p : GProgram) (pa0 : Option Addr) (pk0 : Nat) (kwLA : Option Addr) (kwLK : Nat) (hps : PSm p = true) (rr : Bool) (hrr : w8_builds p = rr) : FT Tryz.prog 6 #[.agg #[vl pa0 pk0 p.Funcs]] [S pa0 pk0 p.Funcs, pv (gp 0) [vl kwLA kwLK kwL], S kwLA kwLK kwL] (fun g : Unit => True) (fun g => vb rr) (fun g => []) := by
 refine FTi Tryz.func6 fun w0 M0 F0 => Fb 40 0 fun _ => Fb 16 2 fun _ => ?_
 refine FoS 2 fun ho3 => ?_
 refine KS ?_
 refine Oa (Ab [vl pa0 pk0 p.Funcs]) fun p4 => Oq Va (KS ?_)
 refine Oq (VldA sh25 0) ?_
 refine letv (gh_Build p) fun rv8 hg9 => ?_
 have hc10 := fn14 p pa0 pk0 kwLA kwLK pre rv8 hg9
 refine Oc [1, 2, 3] ca14 hc10 ?_
 rintro ⟨c5, c6, c7⟩ ⟨he11, he12⟩
 unfold i64ok at he11
 refine Jo 0 ?_; rintro a13 k14 rfl
 refine Fb 32 0 fun _ => ?_
 refine Jo 1 ?_; rintro a16 k17 rfl
 refine Fb 24 1 fun _ => ?_
 refine Jo 2 ?_; rintro a19 k20 rfl
 refine Fb 24 2 fun _ => ?_
 refine Oq Vm (Oq Vx (Oq Vx (Oa (Al ze51 [.slice none 0 0, .slice none 0 0, .slice none 0 0]) fun p22 => Ost (Scl [0] sh51 [vl a13 k14 rv8.1.Nodes, vl a16 k17 rv8.1.Succ, vl a19 k20 rv8.1.Pred]) (Oq Va (KS ?_)))))
 refine Oq (VldA sh25 4) ?_
 refine letv (r7_Build p) fun rv26 hg27 => ?_
 have hc28 := fn15 p pa0 pk0 rv26 hg27
 refine Oc [5] ca15 hc28 ?_
 rintro ⟨c23, c24, c25⟩ he29
 unfold i64ok at he29
 refine Jo 0 ?_; rintro a30 k31 rfl
 refine Fb 32 0 fun _ => ?_
 refine Jo 1 ?_; rintro a33 k34 rfl
 refine Fb 24 1 fun _ => ?_
 refine Jo 2 ?_; rintro a36 k37 rfl
 refine Fb 24 2 fun _ => ?_
 refine Oq Vm (Oq Vx (Oq Vx (Oa (Al ze51 [.slice none 0 0, .slice none 0 0, .slice none 0 0]) fun p39 => Ost (Scl [0] sh51 [vl a30 k31 rv26.1.Nodes, vl a33 k34 rv26.1.Succ, vl a36 k37 rv26.1.Pred]) (Oq Va (KS ?_)))))
 refine Oq Vm (Oq Vm (Oq Veql (Oq Vm ?_)))
 refine Js 20 ?_ ?_
 ·intro h40
  have g41 := eq_of_beq h40
  refine Oq (VldA sh51 4) (Oq (VldA sh51 0) ?_)
  refine letv (r7_SameGraph rv8.1 rv26.1) fun rv42 hg43 => ?_
  have hc44 := fn16 rv8.1 a13 k14 a16 k17 a19 k20 rv26.1 a30 k31 a33 k34 a36 k37 rv42 hg43
  refine Oc [5, 6, 7, 1, 2, 3] ca16 hc44 ?_
  rintro - -
  refine Oq Vpt (Oq Va (KS ?_))
  have hq := q4 hrr rv42 (by simp only [w8_builds, h40, hg9, hg27, hg43, cs4]); subst hq
  exact Kr () rfl (.tmp rfl .nil) [] trivial
 intro h40
 have g45 := ne_of_beq_false h40
 refine Osk (Osk (Osk (Oq Vpf (Oq Va (KS ?_)))))
 have hq := q4 hrr false (by simp only [w8_builds, h40, hg9, hg27, cs4]); subst hq
 exact Kr () rfl (.tmp rfl .nil) [] trivial
end Go.SL.G
