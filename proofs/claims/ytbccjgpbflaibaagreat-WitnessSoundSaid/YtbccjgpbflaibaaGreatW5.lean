/- Part 5 of the walks: mirrors, plain laws and walks used by the last text of this claim. -/
import Derived.Test.YtbccjgpbflaibaaGreatW4
import Derived.Test.YtbccjgpbflaibaaGreatProg
set_option linter.unusedVariables false
set_option linter.unusedSimpArgs false
namespace Go.SL.G
open Go Go.SL Go.Proofs
set_option maxHeartbeats 20000000
set_option maxRecDepth 100000
theorem fn90 (p : GProgram) (pa0 : Option Addr) (pk0 : Nat) (n : GNode) (hn_0 : i64ok n.Kind) (hn_1 : i64ok n.Func) (hn_2 : i64ok n.Block) (hn_3 : i64ok n.Stmt) (rr : GStmt × Bool) (hrr : r7_Stmt p n = .ret rr) : FT Tryz.prog 90 #[.agg #[vl pa0 pk0 p.Funcs], .agg #[vi n.Kind, vi n.Func, vi n.Block, vi n.Stmt]] [S pa0 pk0 p.Funcs] (fun g : Value × Value => i64ok rr.1.Op ∧ rr.1.Def.b.length ≤ 140737488355328) (fun g => .tuple #[.agg #[vi rr.1.Op, .string (bs rr.1.Def), g.1, g.2], vb rr.2]) (fun g => [sl g.1 rr.1.Uses, sl g.2 rr.1.Targets]) := by
 refine FTi Tryz.func90 fun w0 M0 F0 => ?_
 unfold i64ok at hn_0 hn_1 hn_2 hn_3
 refine Fb 40 0 fun _ => ?_
 have hx0 := lrn rr; have H := hrr; unfold r7_Stmt at H
 refine KS ?_
 refine Oa (Ab [vl pa0 pk0 p.Funcs]) fun p2 => Oa (Ab [vi n.Kind, vi n.Func, vi n.Block, vi n.Stmt]) fun p3 => Oa (Al ze140 [vi 0, .string (bs (Str.mk [])), .slice none 0 0, .slice none 0 0]) fun p4 => Oq Va (KS ?_)
 refine Oq (VldA sh84 2) (Oq (VldA sh142 1) ?_)
 refine lbH H hx0 fun rv5 hg6 H => ?_
 have hc7 := fn131 p pa0 pk0 n pre pre pre pre rv5 hg6
 refine Oc [3] ca131 hc7 ?_
 rintro - he8
 unfold i64ok at he8
 refine Oq Vlss (Oq Vm ?_)
 refine pF H hx0 fun h9 H => ?_
 refine JsF 10 h9 ?_
 have g10 := df h9
 refine Oq (Vfa fo142_0 1) (Oq (VldF sh3 1) (Oq Vneq (Oq Vm ?_)))
 refine JsH 14 H ?_ ?_
 ·intro h11 H
  have g12 := ne_of_bne h11
  refine Oq (Vfa fo142_0 1) (Oq (VldF sh3 1) (Oq Vneq (Oq Vpt (Oq Vpf (KS ?_)))))
  refine pT H hx0 fun h13 H => ?_
  refine KcT h13 ?_
  have g14 := ne_of_bne h13
  refine KS ?_
  refine Oq (Vbd st140 [vi 0, .string (bs (Str.mk [])), .slice none 0 0, .slice none 0 0]) (Ost (Scl [0] sh140 [vi 0, .string (bs (Str.mk [])), .slice none 0 0, .slice none 0 0]) (Oq Va (KS ?_)))
  refine Jl [] (Ent.slNil (α := Str)) ?_
  have hq := rI H; subst hq
  exact Kr (.slice none 0 0, .slice none 0 0) rfl (.cellN 1 rfl sh140 rfl (reads_Cl _ _) rfl (.tmp rfl .nil)) [0, 0] en
 intro h11 H
 have g15 := eq_of_bne_false h11
 refine Osk (Osk (Osk (Oq Vpf (Oq Vpf (KS ?_)))))
 refine Kf (KS ?_)
 refine pC H hx0 fun hc16 H => ?_
 refine JJ_peek_GFunc n.Func.toNat 3 rfl rng fun a17 k18 hb19 => ?_
 refine Fb 40 1 fun _ => ?_
 refine pC H hx0 fun hc21 H => ?_
 refine pC H hx0 fun hc22 H => ?_
 refine JJ_peek_GBlock n.Block.toNat 1 rfl rng fun a23 k24 hb25 => ?_
 refine Fb 72 1 fun _ => ?_
 refine pC H hx0 fun hc27 H => ?_
 refine pC H hx0 fun hc28 H => ?_
 refine JJ_peek_GStmt n.Stmt.toNat 1 rfl rng fun a29 k30 a31 k32 hb33 hb34 => ?_
 unfold i64ok at hb33
 refine Fb 16 1 fun _ => ?_
 refine FoS 1 fun ho36 => ?_
 refine Fb 16 2 fun _ => ?_
 refine FoS 2 fun ho38 => ?_
 refine JK_drawK [0, 1, 0, 4, 15, 31, 63, 0, 128, 511, 1023, 2047, 0, 4096, 16383, 32767, 65535, 131071] fmix ?_
 refine Dv [9] (Vfa fo84_0 0) (Dv [9] (VldF sh82 0) (Dv [8] (Vfa fo142_1 0) (Dv [8] (VldF sh3 0) (Dv [10] (Vi sl82 0) (Dv [5] (Vfa fo126_1 0) (Dv [5] (VldF sh124 0) (Dv [8] (Vfa fo142_2 0) (Dv [8] (VldF sh3 0) (Dv [6] (Vi sl124 0) ?_)))))))))
 refine Dv [3] (Vfa fo168_1 0) (Dv [3] (VldF sh166 0) (Dv [8] (Vfa fo142_3 0) (Dv [8] (VldF sh3 0) (Dv [4] (Vi sl166 0) (Dv [0] (VldA sh140 0) (Dx0 [7] [7] [0] [fun G => Cl p4 [vi ((((((p.Funcs.getD n.Func.toNat default).Blocks).getD n.Block.toNat default).Stmts).getD n.Stmt.toNat default).Op), .string (bs ((((((p.Funcs.getD n.Func.toNat default).Blocks).getD n.Block.toNat default).Stmts).getD n.Stmt.toNat default).Def)), .slice a29 (((((((p.Funcs.getD n.Func.toNat default).Blocks).getD n.Block.toNat default).Stmts).getD n.Stmt.toNat default).Uses).length) k30, .slice a31 (((((((p.Funcs.getD n.Func.toNat default).Blocks).getD n.Block.toNat default).Stmts).getD n.Stmt.toNat default).Targets).length) k32]] (fun G => xS (Scl [0] sh140 [vi ((((((p.Funcs.getD n.Func.toNat default).Blocks).getD n.Block.toNat default).Stmts).getD n.Stmt.toNat default).Op), .string (bs ((((((p.Funcs.getD n.Func.toNat default).Blocks).getD n.Block.toNat default).Stmts).getD n.Stmt.toNat default).Def)), .slice a29 (((((((p.Funcs.getD n.Func.toNat default).Blocks).getD n.Block.toNat default).Stmts).getD n.Stmt.toNat default).Uses).length) k30, .slice a31 (((((((p.Funcs.getD n.Func.toNat default).Blocks).getD n.Block.toNat default).Stmts).getD n.Stmt.toNat default).Targets).length) k32])) (Dv [] Va ?_)))))))
 refine Dn ⟨by kernel_rfl, fun G => ?_⟩
 refine Jw2 [(4, p4), (5, vb true)] [0, 1, 2, 3, 4, 5, 6, 8, 9, 10] [Cl p4 [vi ((((((p.Funcs.getD n.Func.toNat default).Blocks).getD n.Block.toNat default).Stmts).getD n.Stmt.toNat default).Op), .string (bs ((((((p.Funcs.getD n.Func.toNat default).Blocks).getD n.Block.toNat default).Stmts).getD n.Stmt.toNat default).Def)), .slice a29 (((((((p.Funcs.getD n.Func.toNat default).Blocks).getD n.Block.toNat default).Stmts).getD n.Stmt.toNat default).Uses).length) k30, .slice a31 (((((((p.Funcs.getD n.Func.toNat default).Blocks).getD n.Block.toNat default).Stmts).getD n.Stmt.toNat default).Targets).length) k32]] ?_
 refine pC H hx0 fun hc39 H => ?_
 have hq := rI H; subst hq
 exact Kr (.slice a29 (((((((p.Funcs.getD n.Func.toNat default).Blocks).getD n.Block.toNat default).Stmts).getD n.Stmt.toNat default).Uses).length) k30, .slice a31 (((((((p.Funcs.getD n.Func.toNat default).Blocks).getD n.Block.toNat default).Stmts).getD n.Stmt.toNat default).Targets).length) k32) rfl (.cellN 10 rfl sh140 rfl (reads_Cl _ _) rfl (.tmp rfl .nil)) [1, 2] en
theorem fn88 (p : GProgram) (pa0 : Option Addr) (pk0 : Nat) (kind : Int) (hkind_0 : i64ok kind) (rr : List GFact × Int) (hrr : r7_Facts p kind = .ret rr) : FT Tryz.prog 88 #[.agg #[vl pa0 pk0 p.Funcs], vi kind] [S pa0 pk0 p.Funcs] (fun g : Value => i64ok rr.2) (fun g => .tuple #[g, vi rr.2]) (fun g => [sl g rr.1]) := by
 refine FTi Tryz.func88 fun w0 M0 F0 => ?_
 unfold i64ok at hkind_0
 refine Fb 40 0 fun _ => ?_
 have hx0 := lrn rr; have H := hrr; unfold r7_Facts at H
 refine KS ?_
 refine Oa (Ab [vl pa0 pk0 p.Funcs]) fun p2 => Oq Va (Oq Va (KS ?_))
 refine Oq (VldA sh84 0) ?_
 refine lbH H hx0 fun rv3 hg4 H => ?_
 have hc5 := fn125 p pa0 pk0 rv3 hg4
 refine Oc [1] ca125 hc5 ?_
 rintro - ⟨he6, he7, he8, he9, he10⟩
 unfold i64ok at he6 he7 he8 he9 he10
 refine Oq Vm (Oq Vx (Oq Vx (Oa (Al ze142 [vi 0, vi 0, vi 0, vi 0]) fun p11 => Ost (Scl [0] sh142 [vi rv3.1.Kind, vi rv3.1.Func, vi rv3.1.Block, vi rv3.1.Stmt]) (Oq Va (KS ?_)))))
 refine Oq Vm (Oq Vneq (KS ?_))
 refine pF H hx0 fun h12 H => ?_
 refine KcF h12 ?_
 have g13 := eq_of_bne_false h12
 refine KS ?_
 refine Oq Vm (Oq Vlss (Oq Vm ?_))
 refine pF H hx0 fun h14 H => ?_
 refine JsF 25 h14 ?_
 have g15 := df h14
 refine Oq Vm (Oq Vgtr (Oq Vpf (KS ?_)))
 refine pF H hx0 fun h16 H => ?_
 refine KcF h16 ?_
 have g17 := df h16
 refine KS ?_
 refine Oq (VldA sh84 1) ?_
 refine lbH H hx0 fun rv19 hg20 H => ?_
 have hc21 := fn126 p pa0 pk0 rv19 hg20
 refine Oc [2] ca126 hc21 ?_
 rintro c18 -
 refine Jo 0 ?_; rintro a22 k23 rfl
 refine Fb 16 0 fun _ => ?_
 refine FoS 0 fun ho25 => ?_
 refine Oq Va (KS ?_)
 refine Oq Va (KS ?_)
 refine Oq Vm (Oq Vneq (KS ?_))
 refine pF H hx0 fun h26 H => ?_
 refine KcF h26 ?_
 have g27 := eq_of_bne_false h26
 refine KS ?_
 refine Oq (VldA sh84 2) ?_
 refine lbH H hx0 fun rv29 hg30 H => ?_
 have hc31 := fn127 p pa0 pk0 rv29 hg30
 refine Oc [3] ca127 hc31 ?_
 rintro c28 -
 refine Jo 0 ?_; rintro a32 k33 rfl
 refine Fb 32 0 fun _ => ?_
 refine Oq Va (KS ?_)
 refine Oq Va (KS ?_)
 refine Jl [] (Ent.osNil (α := GFact)) ?_
 refine llH H hx0 fun X45 hX46 hx47 HL48 => ?_
 refine Kl (γ := Nat × List GFact × Int × Option Addr × Nat) (fun (r35, out_36, i_37, a38, k39) => ⟨[(2, p2), (8, vl a22 k23 rv19), (9, vl a38 k39 out_36), (11, vl a32 k33 rv29), (12, vi i_37)], [O a38 k39 out_36, S a32 k33 rv29, S a22 k23 rv19, pv p2 [vl pa0 pk0 p.Funcs], S pa0 pk0 p.Funcs], r7_Facts_L1 p rv19 rv29 r35 out_36 i_37 = X45 ∧ r35 = ((rv29.length : Int) - i_37).toNat ∧ (0 : Int) ≤ i_37 ∧ i_37 ≤ (rv29.length : Int) ∧ (-9223372036854775808 ≤ i_37 ∧ i_37 ≤ 9223372036854775807), r35⟩) (((rv29.length : Int) - 0).toNat, [], 0, none, 0) [0, 0, 1, 3, 4] ⟨hX46, rfl, aM1, aM1, aM1⟩ ?_
 rintro ⟨r35, out_36, i_37, a38, k39⟩ ⟨hM40, hr41, hi42, hi43, hk44⟩
 refine JJ_nx fun _ _ hL hA => ?_; dsimp only at hL hA; subst hL hA
 refine Fb 16 0 fun _ => Fb 32 1 fun _ => Fb 16 2 fun _ => ?_
 refine FoS 2 fun ho52 => ?_
 refine Fb 40 4 fun _ => KS ?_
 refine Oq Vm (Oq Vm (Oq (Vlen sl133) (Oq Vlss (KS ?_))))
 refine Kc ?_ ?_
 ·intro h54
  have g55 := dt h54
  obtain ⟨r56, rfl⟩ := scc (n := r35) aM1
  have H := hM40; (try dsimp only at H); rw [r7_Facts_L1] at H
  refine KS ?_
  refine pC H hx47 fun hc57 H => ?_
  refine JJ_peek_GNode i_37.toNat 1 rfl rng fun hb58 hb59 hb60 hb61 => ?_
  unfold i64ok at hb58 hb59 hb60 hb61
  refine JK_drawK [0, 0, 0, 6, 14, 31, 63, 127, 127, 0, 767, 2047] fmix ?_
  refine Dv [4] (VldA sh84 0) (Dv [] Vm (Dv [] Vm (Dv [2] (Vi sl133 0) (Dv [0] (VldA sh142 0) ?_))))
  refine pC H hx47 fun hc66 H => ?_
  refine lbH H hx47 fun rv64 hg65 H => ?_
  refine Dx [5] [] [3, 0, 1, 2] (fun G => .tuple #[.agg #[vi rv64.1.Op, .string (bs rv64.1.Def), (G.g 5 0), (G.g 5 1)], vb rv64.2]) [fun G => SP.fact (i64ok rv64.1.Op ∧ rv64.1.Def.b.length ≤ 140737488355328), fun G => sl (G.g 5 0) rv64.1.Uses, fun G => sl (G.g 5 1) rv64.1.Targets] (fun G => xC [0] ca90 (fn90 p pa0 pk0 ((rv29.getD i_37.toNat default)) pre pre pre pre rv64 hg65)) (Dg [] (fun G => .tuple #[.agg #[vi rv64.1.Op, .string (bs rv64.1.Def), (G.g 5 0), (G.g 5 1)], vb rv64.2]) (fun G => Vm) (Dg [] (fun G => .agg #[vi rv64.1.Op, .string (bs rv64.1.Def), (G.g 5 0), (G.g 5 1)]) (fun G => Vx) (Dv [] Vx (Dx [] [] [0] (fun G => (G.g 9 0)) [fun G => Cl (G.g 9 0) [vi 0, .string (bs (Str.mk [])), .slice none 0 0, .slice none 0 0]] (fun G => xA (Al ze140 [vi 0, .string (bs (Str.mk [])), .slice none 0 0, .slice none 0 0])) (Dx0 [7, 8, 9] [9] [1, 2, 0] [fun G => Cl (G.g 9 0) [vi rv64.1.Op, .string (bs rv64.1.Def), (G.g 5 0), (G.g 5 1)]] (fun G => x1 0 rfl sl_one fun ho68 => (x1 1 rfl sl_one fun ho69 => (xS (Scl [2] sh140 [vi rv64.1.Op, .string (bs rv64.1.Def), (G.g 5 0), (G.g 5 1)] (v := .agg #[vi rv64.1.Op, .string (bs rv64.1.Def), (G.g 5 0), (G.g 5 1)]) (h1 := show [vi rv64.1.Op, .string (bs rv64.1.Def), (G.g 5 0), (G.g 5 1)].all (·.oneCell') = true from (by simp only [List.all_cons, List.all_nil, ho68, ho69, Bool.and_true, Bool.true_and] <;> rfl)))))) (Dv [] Va ?_))))))
  refine Dn ⟨by kernel_rfl, fun G => ?_⟩
  refine Jw2 [(2, p2), (8, vl a22 k23 rv19), (9, vl a38 k39 out_36), (11, vl a32 k33 rv29), (12, vi i_37), (13, (G.g 9 0)), (14, vb rv64.2)] [0, 1, 2, 3, 4, 5] [SP.fact (i64ok rv64.1.Op ∧ rv64.1.Def.b.length ≤ 140737488355328), sl (G.g 5 0) rv64.1.Uses, sl (G.g 5 1) rv64.1.Targets, Cl (G.g 9 0) [vi rv64.1.Op, .string (bs rv64.1.Def), (G.g 5 0), (G.g 5 1)]] ?_
  generalize G.g 5 0 = c62, G.g 5 1 = c63, G.g 9 0 = p67
  refine Jf 6 rfl ?_; rintro ⟨he70, he71⟩
  unfold i64ok at he70
  refine Jk [0, 1, 1, 2, 3, 4, 6, 7, 8] ?_
  refine Jo 6 ?_; rintro a72 k73 rfl
  refine Fb 16 6 fun _ => ?_
  refine FoS 6 fun ho75 => ?_
  refine Jo 7 ?_; rintro a76 k77 rfl
  refine Fb 16 7 fun _ => ?_
  refine FoS 7 fun ho79 => ?_
  refine KS ?_
  refine Oq Vm (Oq Vm ?_)
  refine JsH 62 H ?_ ?_
  ·intro h80 H
   refine Oq Vm (Oq Vm (Oq (Vi sl133 2) (Oq (Vfa fo142_0 0) (Oq (VldF sh3 0) (Oq Veql (Oq Vpt (Oq Vm ?_)))))))
   refine pC H hx47 fun hc83 H => ?_
   refine pT H hx47 fun h82 H => ?_
   refine JsT 70 h82 ?_
   have g84 := eq_of_beq h82
   refine Oq (VldA sh140 8) ?_
   refine lbH H hx47 fun rv85 hg86 H => ?_
   have hc87 := fn128 rv64.1 a72 k73 a76 k77 pre pre rv85 hg86
   refine Oc [6, 7] ca128 hc87 ?_
   rintro - -
   refine Oq Vpt (KS ?_)
   refine KcH H ?_ ?_
   ·intro h88 H
    refine KS ?_
    refine Oq Vm (Oq Vm (Oq Vm (Oq (Vfa fo140_1 8) (Oq (VldF sh9 8) ?_))))
    refine lbH H hx47 fun rv90 hg91 H => ?_
    have hc92 := fn129 rv19 a22 k23 rv64.1.Def pre rv90 hg91
    refine Oc [3] ca129 hc92 ?_
    rintro - he93
    unfold i64ok at he93
    refine Oq (Vbd st174 [vi i_37, vi rv90]) (Oa (AsV sl130 sz130 [.agg #[vi i_37, vi rv90]] [vi i_37, vi rv90]) fun c94 => ?_)
    refine Jo 0 ?_; rintro a95 k96 rfl
    refine Jl [0] (Ent.cr1 (α := GFact) (A := []) _ (GFact.mk i_37 rv90) _ aB1 (fun h => ⟨rfl, aL1, aL1⟩)) ?_
    refine pC H hx47 fun hc97 H => ?_
    refine Oa (ApO [2, 0] sl130 sl130 sz130) fun c98 => ?_
    refine Jo 0 ?_; rintro a99 k100 rfl
    refine Fb 16 0 fun _ => ?_
    have hn102 := la out_36 ([(GFact.mk i_37 rv90)] : List GFact)
    refine Oq Va (KS ?_)
    refine Oq Vm (Oq Vadd (Oq Va (KS ?_)))
    refine pC H hx47 fun hc103 H => ?_
    exact Kg (r56, (out_36 ++ [(GFact.mk i_37 rv90)]), (i_37 + 1), a99, k100) [0, 1, 2, 3, 4] ⟨H, aM1, aM1, aM1, aM1⟩
   intro h88 H
   refine KS ?_
   refine Oq Vm (Oq Vadd (Oq Va (KS ?_)))
   refine pC H hx47 fun hc105 H => ?_
   exact Kg (r56, out_36, (i_37 + 1), a38, k39) [1, 1, 2, 3, 4] ⟨H, aM1, aM1, aM1, aM1⟩
  intro h80 H
  refine Osk (Osk (Osk (Osk (Osk (Osk (Oq Vpf (Oq Vm (Osk (Osk ?_)))))))))
  refine Oq Vpf (KS ?_)
  refine Kf (KS ?_)
  refine Oq Vm (Oq Vadd (Oq Va (KS ?_)))
  refine pC H hx47 fun hc107 H => ?_
  exact Kg (r56, out_36, (i_37 + 1), a38, k39) [1, 1, 2, 3, 4] ⟨H, aM1, aM1, aM1, aM1⟩
 intro h54
 have g108 := df h54
 obtain rfl : r35 = 0 := by omega
 have H := hM40; (try dsimp only at H); rw [r7_Facts_L1] at H
 refine Ke ?_
 have H := llB H HL48
 refine KS ?_
 refine Oq Vm (Oq (Vlen sl130) (Oq Vgtr (KS ?_)))
 refine pF H hx0 fun h109 H => ?_
 refine KcF h109 ?_
 have g110 := df h109
 refine KS ?_
 refine Oq Vm (Oq Va (Oq Va (KS ?_)))
 refine Jl [0] (Ent.freeze _ _) ?_
 have hq := rI H; subst hq
 exact Kr (vl a38 k39 out_36) rfl (.tmp rfl (.tmp rfl .nil)) [0] en
theorem fn164 (l : List GNode) (la0 : Option Addr) (lk0 : Nat) (f : Int) (b : Int) (s : Int) (hf_0 : i64ok f) (hb_0 : i64ok b) (hs_0 : i64ok s) (rr : Int) (hrr : r7_stmtNode l f b s = .ret rr) : FT Tryz.prog 164 #[vl la0 lk0 l, vi f, vi b, vi s] [S la0 lk0 l] (fun g : Unit => i64ok rr) (fun g => vi rr) (fun g => []) := by
 refine FTi Tryz.func164 fun w0 M0 F0 => ?_
 unfold i64ok at hf_0 hb_0 hs_0
 refine Fb 32 0 fun _ => ?_
 have hx0 := lrn rr; have H := hrr; unfold r7_stmtNode at H
 refine KS ?_
 refine Oq Va (KS ?_)
 refine Oq Vm (Oq Vm (Oq Vm (Oq Vm (Oq (Vbd st142 [vi 3, vi f, vi b, vi s]) ?_))))
 refine lbH H hx0 fun rv2 hg3 H => ?_
 have hc4 := fn167 l la0 lk0 ((GNode.mk 3 f b s)) pre pre pre pre rv2 hg3
 refine Oc [0] ca167 hc4 ?_
 rintro - he5
 unfold i64ok at he5
 refine Oq Va (KS ?_)
 have hq := rI H; subst hq
 exact Kr () rfl (.tmp rfl .nil) [] en
theorem fn165 (l : List GNode) (la0 : Option Addr) (lk0 : Nat) (f : Int) (hf_0 : i64ok f) (rr : Int × Int) (hrr : r7_ends l f = .ret rr) : FT Tryz.prog 165 #[vl la0 lk0 l, vi f] [S la0 lk0 l] (fun g : Unit => i64ok rr.1 ∧ i64ok rr.2) (fun g => .tuple #[vi rr.1, vi rr.2]) (fun g => []) := by
 refine FTi Tryz.func165 fun w0 M0 F0 => ?_
 unfold i64ok at hf_0
 refine Fb 32 0 fun _ => ?_
 have hx0 := lrn rr; have H := hrr; unfold r7_ends at H
 refine KS ?_
 refine Oq Va (Oq Va (KS ?_))
 refine Oq Vm (Oq Vm (Oq (Vbd st142 [vi 1, vi f, vi (-1), vi (-1)]) ?_))
 refine lbH H hx0 fun rv2 hg3 H => ?_
 have hc4 := fn167 l la0 lk0 ((GNode.mk 1 f (-1) (-1))) pre pre pre pre rv2 hg3
 refine Oc [0] ca167 hc4 ?_
 rintro - he5
 unfold i64ok at he5
 refine Oq Vm (Oq Vm (Oq (Vbd st142 [vi 2, vi f, vi (-1), vi (-1)]) ?_))
 refine lbH H hx0 fun rv6 hg7 H => ?_
 have hc8 := fn167 l la0 lk0 ((GNode.mk 2 f (-1) (-1))) pre pre pre pre rv6 hg7
 refine Oc [0] ca167 hc8 ?_
 rintro - he9
 unfold i64ok at he9
 refine Oq Va (Oq Va (KS ?_))
 have hq := rI H; subst hq
 exact Kr () rfl (.tmp rfl (.tmp rfl .nil)) [] en
theorem fn130 (p : GProgram) (pa0 : Option Addr) (pk0 : Nat) (l : List GNode) (la0 : Option Addr) (lk0 : Nat) (i : Int) (hi_0 : i64ok i) (rr : List Int) (hrr : r7_successors p l i = .ret rr) : FT Tryz.prog 130 #[.agg #[vl pa0 pk0 p.Funcs], vl la0 lk0 l, vi i] [S pa0 pk0 p.Funcs, S la0 lk0 l] (fun g : Value => True) (fun g => g) (fun g => [sl g rr]) := by
 refine FTi Tryz.func130 fun w0 M0 F0 => ?_
 unfold i64ok at hi_0
 refine Fb 40 0 fun _ => Fb 32 1 fun _ => ?_
 have hx0 := lrn rr; have H := hrr; unfold r7_successors at H
 refine KS ?_
 refine Oa (Ab [vl pa0 pk0 p.Funcs]) fun p3 => Oq Va (KS ?_)
 refine Oq Vm (Oq Vm ?_)
 refine pC H hx0 fun hc4 H => ?_
 refine Oq (Vi sl133 2) ?_
 refine JJ_peek_GNode i.toNat 2 rfl rng fun hb5 hb6 hb7 hb8 => ?_
 unfold i64ok at hb5 hb6 hb7 hb8
 refine Oq (VldA sh142 0) (Oa (Al ze142 [vi 0, vi 0, vi 0, vi 0]) fun p9 => Ost (Scl [0] sh142 [vi ((l.getD i.toNat default).Kind), vi ((l.getD i.toNat default).Func), vi ((l.getD i.toNat default).Block), vi ((l.getD i.toNat default).Stmt)]) (KS ?_))
 refine Oq (Vfa fo142_0 0) (Oq (VldF sh3 0) (Oq Veql (KS ?_)))
 refine pC H hx0 fun hc11 H => ?_
 refine KcH H ?_ ?_
 ·intro h10 H
  have g12 := eq_of_beq h10
  refine KS ?_
  refine Oq Vm (Oq (Vfa fo142_1 0) (Oq (VldF sh3 0) ?_))
  refine lbH H hx0 fun rv13 hg14 H => ?_
  have hc15 := fn164 l la0 lk0 ((l.getD i.toNat default).Func) 0 0 pre pre pre rv13 hg14
  refine Oc [4] ca164 hc15 ?_
  rintro - he16
  unfold i64ok at he16
  refine Oa (AsV sl22 sz22 [vi rv13] [vi rv13]) fun c17 => ?_
  refine Jo 0 ?_; rintro a18 k19 rfl
  refine Oq Va (KS ?_)
  refine Jl [0] (Ent.crInt _ [rv13] _ _ rfl rfl (by intro x hx; rw [List.mem_singleton] at hx; subst hx; unfold i64ok; omega) aB1) ?_
  refine Jl [0] (Ent.freeze _ _) ?_
  have hq := rI H; subst hq
  exact Kr (.slice a18 1 k19) rfl (.tmp rfl .nil) [0] trivial
 intro h10 H
 have g20 := ne_of_beq_false h10
 refine KS ?_
 refine Oq (Vfa fo142_0 0) (Oq (VldF sh3 0) (Oq Veql (KS ?_)))
 refine KcH H ?_ ?_
 ·intro h21 H
  have g22 := eq_of_beq h21
  refine KS ?_
  refine Oq Va (KS ?_)
  refine Oq Va (KS ?_)
  refine llH H hx0 fun X30 hX31 hx32 HL33 => ?_
  refine Kl (γ := Nat × Int) (fun (r23, k_24) => ⟨[(1, vl la0 lk0 l), (3, p3), (7, p9), (8, .slice none 0 0), (9, vi k_24)], [Cl p9 [vi ((l.getD i.toNat default).Kind), vi ((l.getD i.toNat default).Func), vi ((l.getD i.toNat default).Block), vi ((l.getD i.toNat default).Stmt)], pv p3 [vl pa0 pk0 p.Funcs], S pa0 pk0 p.Funcs, S la0 lk0 l], r7_successors_L0 l r23 k_24 = X30 ∧ r23 = ((l.length : Int) - k_24).toNat ∧ (0 : Int) ≤ k_24 ∧ k_24 ≤ (l.length : Int) ∧ (-9223372036854775808 ≤ k_24 ∧ k_24 ≤ 9223372036854775807), r23⟩) (((l.length : Int) - 0).toNat, 0) [0, 1, 2, 3] ⟨hX31, rfl, aM1, aM1, aM1⟩ ?_
  rintro ⟨r23, k_24⟩ ⟨hM25, hr26, hi27, hi28, hk29⟩
  refine JJ_nx fun _ _ hL hA => ?_; dsimp only at hL hA; subst hL hA
  refine Fb 40 2 fun _ => Fb 32 3 fun _ => KS ?_
  refine Oq Vm (Oq Vm (Oq (Vlen sl133) (Oq Vlss (KS ?_))))
  refine Kc ?_ ?_
  ·intro h36
   have g37 := dt h36
   obtain ⟨r38, rfl⟩ := scc (n := r23) aM1
   have H := hM25; (try dsimp only at H); rw [r7_successors_L0] at H
   refine KS ?_
   refine pC H hx32 fun hc39 H => ?_
   refine JJ_peek_GNode k_24.toNat 3 rfl rng fun hb40 hb41 hb42 hb43 => ?_
   unfold i64ok at hb40 hb41 hb42 hb43
   refine Kq [0, 0, 3, 7, 15, 31, 63, 127, 255, 127, 127, 1663, 3711, 7807, 16383, 32767, 65535, 127, 127, 393343, 917631, 1966207, 4194303, 8388607, 16777215, 127, 127, 100663423, 234881151, 503316607, 1073741823, 2147483647, 4294967295, 8589934591, 17179869183, 127, 34359738495, 127, 137438953599, 515396075647, 1065151889535, 2164663517311, 4398046511103, 8796093022207] fmix ?_
   refine Qv [] Vm (Qv [] Vm (Qv [4] (Vi sl133 0) (Qv [0] (Vfa fo142_0 0) (Qv [0] (VldF sh3 0) (Qv [] Veql ?_)))))
   refine pC H hx32 fun hc45 H => ?_
   refine pF H hx32 fun h44 H => ?_
   have g46 := ne_of_beq_false h44
   refine Qb h44 [] Vm (Qs (Qs (Qs (Qs (Qs (Qs (Qs (Qs (Qs ?_)))))))))
   refine Qs (Qs (Qs (Qs (Qs (Qs (Qs (Qs (Qs (Qs ?_)))))))))
   refine Qs (Qs (Qs (Qs (Qs (Qs (Qs (Qs (Qs (Qs ?_)))))))))
   refine Qs (Qs (Qs (Qs (Qs (Qs (Qs (Qv [] Vpf ?_)))))))
   refine Qn ⟨by kernel_rfl, ?_⟩
   refine Kf (KS ?_)
   refine Oq Vm (Oq Vadd (Oq Va (KS ?_)))
   refine pC H hx32 fun hc47 H => ?_
   exact Kg (r38, (k_24 + 1)) [1, 1, 2, 3] ⟨H, aM1, aM1, aM1, aM1⟩
  intro h36
  have g48 := df h36
  obtain rfl : r23 = 0 := by omega
  have H := hM25; (try dsimp only at H); rw [r7_successors_L0] at H
  refine Ke ?_
  have H := llB H HL33
  refine KS ?_
  refine Oq Vm (Oq Va (KS ?_))
  refine Jl [] (Ent.slNil (α := Int)) ?_
  have hq := rI H; subst hq
  exact Kr (.slice none 0 0) rfl (.tmp rfl .nil) [0] trivial
 intro h21 H
 have g49 := ne_of_beq_false h21
 refine KS ?_
 refine Jp 0 fun hp50 => ?_
 refine pC H hx0 fun hc51 H => ?_
 refine JJ_peek_GFunc ((l.getD i.toNat default).Func : Int).toNat 4 rfl rng fun a52 k53 hb54 => ?_
 refine Fb 40 1 fun _ => ?_
 refine pC H hx0 fun hc56 H => ?_
 refine pC H hx0 fun hc57 H => ?_
 refine JJ_peek_GBlock ((l.getD i.toNat default).Block : Int).toNat 1 rfl rng fun a58 k59 hb60 => ?_
 refine Fb 72 1 fun _ => ?_
 refine pC H hx0 fun hc62 H => ?_
 refine pC H hx0 fun hc63 H => ?_
 refine JJ_peek_GStmt ((l.getD i.toNat default).Stmt : Int).toNat 1 rfl rng fun a64 k65 a66 k67 hb68 hb69 => ?_
 unfold i64ok at hb68
 refine Fb 16 1 fun _ => ?_
 refine FoS 1 fun ho71 => ?_
 refine Fb 16 2 fun _ => ?_
 refine FoS 2 fun ho73 => ?_
 refine JK_drawK [0, 1, 0, 4, 15, 31, 63, 0, 128, 511, 1023, 2047, 0, 4096, 16383, 32767, 0, 131071] fmix ?_
 refine Dv [10] (Vfa fo84_0 0) (Dv [10] (VldF sh82 0) (Dv [7] (Vfa fo142_1 0) (Dv [8] (VldF sh3 0) (Dv [11] (Vi sl82 0) (Dv [5] (Vfa fo126_1 0) (Dv [5] (VldF sh124 0) (Dv [7] (Vfa fo142_2 0) (Dv [8] (VldF sh3 0) (Dv [6] (Vi sl124 0) ?_)))))))))
 refine Dv [3] (Vfa fo168_1 0) (Dv [3] (VldF sh166 0) (Dv [7] (Vfa fo142_3 0) (Dv [8] (VldF sh3 0) (Dv [4] (Vi sl166 0) (Dv [0] (VldA sh140 0) (Dx [] [] [0] (fun G => (G.g 16 0)) [fun G => Cl (G.g 16 0) [vi 0, .string (bs (Str.mk [])), .slice none 0 0, .slice none 0 0]] (fun G => xA (Al ze140 [vi 0, .string (bs (Str.mk [])), .slice none 0 0, .slice none 0 0])) (Dx0 [13] [13] [0] [fun G => Cl (G.g 16 0) [vi ((((((p.Funcs.getD ((l.getD i.toNat default).Func : Int).toNat default).Blocks).getD ((l.getD i.toNat default).Block : Int).toNat default).Stmts).getD ((l.getD i.toNat default).Stmt : Int).toNat default).Op), .string (bs ((((((p.Funcs.getD ((l.getD i.toNat default).Func : Int).toNat default).Blocks).getD ((l.getD i.toNat default).Block : Int).toNat default).Stmts).getD ((l.getD i.toNat default).Stmt : Int).toNat default).Def)), .slice a64 (((((((p.Funcs.getD ((l.getD i.toNat default).Func : Int).toNat default).Blocks).getD ((l.getD i.toNat default).Block : Int).toNat default).Stmts).getD ((l.getD i.toNat default).Stmt : Int).toNat default).Uses).length) k65, .slice a66 (((((((p.Funcs.getD ((l.getD i.toNat default).Func : Int).toNat default).Blocks).getD ((l.getD i.toNat default).Block : Int).toNat default).Stmts).getD ((l.getD i.toNat default).Stmt : Int).toNat default).Targets).length) k67]] (fun G => xS (Scl [0] sh140 [vi ((((((p.Funcs.getD ((l.getD i.toNat default).Func : Int).toNat default).Blocks).getD ((l.getD i.toNat default).Block : Int).toNat default).Stmts).getD ((l.getD i.toNat default).Stmt : Int).toNat default).Op), .string (bs ((((((p.Funcs.getD ((l.getD i.toNat default).Func : Int).toNat default).Blocks).getD ((l.getD i.toNat default).Block : Int).toNat default).Stmts).getD ((l.getD i.toNat default).Stmt : Int).toNat default).Def)), .slice a64 (((((((p.Funcs.getD ((l.getD i.toNat default).Func : Int).toNat default).Blocks).getD ((l.getD i.toNat default).Block : Int).toNat default).Stmts).getD ((l.getD i.toNat default).Stmt : Int).toNat default).Uses).length) k65, .slice a66 (((((((p.Funcs.getD ((l.getD i.toNat default).Func : Int).toNat default).Blocks).getD ((l.getD i.toNat default).Block : Int).toNat default).Stmts).getD ((l.getD i.toNat default).Stmt : Int).toNat default).Targets).length) k67])) ?_)))))))
 refine Dn ⟨by kernel_rfl, fun G => ?_⟩
 refine Jw2 [(1, vl la0 lk0 l), (3, p3), (7, p9), (10, (G.g 16 0))] [0, 1, 2, 3, 4, 5, 6, 7, 8, 9, 10, 11, 12] [Cl (G.g 16 0) [vi ((((((p.Funcs.getD ((l.getD i.toNat default).Func : Int).toNat default).Blocks).getD ((l.getD i.toNat default).Block : Int).toNat default).Stmts).getD ((l.getD i.toNat default).Stmt : Int).toNat default).Op), .string (bs ((((((p.Funcs.getD ((l.getD i.toNat default).Func : Int).toNat default).Blocks).getD ((l.getD i.toNat default).Block : Int).toNat default).Stmts).getD ((l.getD i.toNat default).Stmt : Int).toNat default).Def)), .slice a64 (((((((p.Funcs.getD ((l.getD i.toNat default).Func : Int).toNat default).Blocks).getD ((l.getD i.toNat default).Block : Int).toNat default).Stmts).getD ((l.getD i.toNat default).Stmt : Int).toNat default).Uses).length) k65, .slice a66 (((((((p.Funcs.getD ((l.getD i.toNat default).Func : Int).toNat default).Blocks).getD ((l.getD i.toNat default).Block : Int).toNat default).Stmts).getD ((l.getD i.toNat default).Stmt : Int).toNat default).Targets).length) k67]] ?_
 generalize G.g 16 0 = p74
 refine Jk [0, 1, 2, 3, 4, 5, 6, 8, 8, 9, 10, 11, 12] ?_
 refine KS ?_
 refine Oq Vm (Oq (Vfa fo142_1 7) (Oq (VldF sh3 7) ?_))
 refine pC H hx0 fun hc77 H => ?_
 refine lbH H hx0 fun rv75 hg76 H => ?_
 have hc78 := fn165 l la0 lk0 ((l.getD i.toNat default).Func) pre rv75 hg76
 refine Oc [11] ca165 hc78 ?_
 rintro - ⟨he79, he80⟩
 unfold i64ok at he79 he80
 refine Oq Vm (Oq Vx (Oq Vx (Oq Va (Oq Va (KS ?_)))))
 refine Oq (Vfa fo140_0 12) (Oq (VldF sh3 12) (Oq Veql (Oq Va (KS ?_))))
 refine KcH H ?_ ?_
 ·intro h81 H
  have g82 := eq_of_beq h81
  refine KS ?_
  refine Oq Vm (Oa (AsV sl22 sz22 [vi rv75.2] [vi rv75.2]) fun c83 => ?_)
  refine Jo 0 ?_; rintro a84 k85 rfl
  refine Oq Va (KS ?_)
  refine Jl [0] (Ent.crInt _ [rv75.2] _ _ rfl rfl (by intro x hx; rw [List.mem_singleton] at hx; subst hx; unfold i64ok; omega) aB1) ?_
  refine Jl [0] (Ent.freeze _ _) ?_
  have hq := rI H; subst hq
  exact Kr (.slice a84 1 k85) rfl (.tmp rfl .nil) [0] trivial
 intro h81 H
 have g86 := ne_of_beq_false h81
 refine KS ?_
 refine Oq (Vfa fo140_0 12) (Oq (VldF sh3 12) (Oq Veql (Oq Vm ?_)))
 refine pF H hx0 fun h87 H => ?_
 refine JsF 120 h87 ?_
 have g88 := ne_of_beq_false h87
 refine Osk (Osk (Osk (Oq Vpf (Oq Va (KS ?_)))))
 refine Kf (KS ?_)
 refine Oq (Vfa fo140_0 12) (Oq (VldF sh3 12) (Oq Veql (Oq Vm ?_)))
 refine pF H hx0 fun h89 H => ?_
 refine JsF 142 h89 ?_
 have g90 := ne_of_beq_false h89
 refine Oq (Vfa fo140_0 12) (Oq (VldF sh3 12) (Oq Veql (Oq Vpf (Oq Va (KS ?_)))))
 refine pF H hx0 fun h91 H => ?_
 refine KcF h91 ?_
 have g92 := ne_of_beq_false h91
 refine KS ?_
 refine Oq Vm (Oq (Vfa fo142_1 7) (Oq (VldF sh3 7) (Oq (Vfa fo142_2 7) (Oq (VldF sh3 7) (Oq (Vfa fo142_3 7) (Oq (VldF sh3 7) ?_))))))
 refine pC H hx0 fun hc93 H => ?_
 refine Oq Vadd ?_
 refine lbH H hx0 fun rv94 hg95 H => ?_
 have hc96 := fn164 l la0 lk0 ((l.getD i.toNat default).Func) ((l.getD i.toNat default).Block) (((l.getD i.toNat default).Stmt + 1)) pre pre pre rv94 hg95
 refine Oc [11] ca164 hc96 ?_
 rintro - he97
 unfold i64ok at he97
 refine Oa (AsV sl22 sz22 [vi rv94] [vi rv94]) fun c98 => ?_
 refine Jo 0 ?_; rintro a99 k100 rfl
 refine Oq Va (KS ?_)
 refine Jl [0] (Ent.crInt _ [rv94] _ _ rfl rfl (by intro x hx; rw [List.mem_singleton] at hx; subst hx; unfold i64ok; omega) aB1) ?_
 refine Jl [0] (Ent.freeze _ _) ?_
 have hq := rI H; subst hq
 exact Kr (.slice a99 1 k100) rfl (.tmp rfl .nil) [0] trivial
theorem fn28 (l : List Int) (la0 : Option Addr) (lk0 : Nat) (n : Int) (hn_0 : i64ok n) (hl0 : l.length ≤ 1000000000) (rr : List Int) (hrr : r7_Insert l n = rr) : FT Tryz.prog 28 #[vl la0 lk0 l, vi n] [S la0 lk0 l] (fun g : Value => (rr.length ≤ l.length + 1)) (fun g => g) (fun g => [sl g rr]) := by
 refine FTi Tryz.func28 fun w0 M0 F0 => ?_
 unfold i64ok at hn_0
 refine Fb 8 0 fun _ => Fo 0 fun ho2 => KS ?_
 refine Oq Va (KS ?_)
 refine Oq Va (KS ?_)
 refine Kl (γ := Nat × Int) (fun (r3, i_4) => ⟨[(0, vl la0 lk0 l), (1, vi n), (5, vi i_4)], [S la0 lk0 l], r7_Insert_L0 l n r3 i_4 = r7_Insert_L0 l n (((l.length : Int) - 0).toNat) 0 ∧ r3 = ((l.length : Int) - i_4).toNat ∧ (0 : Int) ≤ i_4 ∧ i_4 ≤ (l.length : Int) ∧ (-9223372036854775808 ≤ i_4 ∧ i_4 ≤ 9223372036854775807), r3⟩) (((l.length : Int) - 0).toNat, 0) [0] ⟨rfl, rfl, aM1, aM1, aM1⟩ ?_
 rintro ⟨r3, i_4⟩ ⟨hM5, hr6, hi7, hi8, hk9⟩
 refine JJ_nx fun _ _ hL hA => ?_; dsimp only at hL hA; subst hL hA
 refine Fb 8 0 fun _ => Fo 0 fun ho11 => KS ?_
 refine Oq Vm (Oq Vm (Oq (Vlen sl22) (Oq Vlss (Oq Vm ?_))))
 refine Js 11 ?_ ?_
 ·intro h12
  have g13 := dt h12
  obtain ⟨r14, rfl⟩ := scc (n := r3) aM1
  refine Oq Vm (Oq Vm (Oq (Vi sl22 0) ?_))
  have hb15 := ok1 (i := i_4.toNat) ho11 rng
  refine Oq (VldI sh3 0) (Oq Vm (Oq Vlss (Oq Vpt (KS ?_))))
  refine Kc ?_ ?_
  ·intro h16
   have g17 := dt h16
   refine KS ?_
   refine Oq Vm (Oq Vadd (Oq Va (KS ?_)))
   exact Kg (r14, (i_4 + 1)) [0] ⟨(q3 hM5 (by simp only [r7_Insert_L0, h12, h16, cs4])), aM1, aM1, aM1, aM1⟩
  intro h16
  have g18 := df h16
  refine Ke ?_
  have hR19 := q2 hM5 i_4 (by simp only [r7_Insert_L0, h12, h16, cs4])
  refine KS ?_
  refine Oq Vm (Oq Vm (Oq (Vlen sl22) (Oq Vlss (Oq Vm ?_))))
  refine Js 25 ?_ ?_
  ·intro h20
   have g21 := dt h20
   refine Oq Vm (Oq Vm (Oq (Vi sl22 0) ?_))
   have hb22 := ok1 (i := i_4.toNat) ho11 rng
   refine Oq (VldI sh3 0) (Oq Vm (Oq Veql (Oq Vpt (KS ?_))))
   refine Kc ?_ ?_
   ·intro h23
    have g24 := eq_of_beq h23
    refine KS ?_
    refine Oq Vm (Oq Va (KS ?_))
    have hq := q4 hrr l (by simp only [r7_Insert, h12, h16, h20, h23, hR19, cs4]); subst hq
    exact Kr (vl la0 lk0 l) rfl (.tmp rfl .nil) [0] en
   intro h23
   have g25 := ne_of_beq_false h23
   refine KS ?_
   refine Oa (As0 sl22) fun c26 => ?_
   refine Jo 0 ?_; rintro a27 k28 rfl
   refine Oq Vm (Oq Vm (Oa (Asl [1] sl22 0 (i_4.toNat)) fun c29 => ?_))
   refine Jo 0 ?_; rintro a30 k31 rfl
   refine Fb 8 0 fun _ => Fo 0 fun ho33 => ?_
   have hn34 : ((l.take (i_4.toNat)).drop 0).length = (i_4.toNat) - 0 := len_slice rng rng
   refine Jl [1] (Ent.crNil (α := Int) _) ?_
   refine Oa (Ap0 [0, 0] sl22 sl22 sz22) fun c35 => ?_
   refine Jo 0 ?_; rintro a36 k37 rfl
   refine Oq Va (KS ?_)
   refine Oq Vm (Oq Vm (Oa (AsV sl22 sz22 [vi n] [vi n]) fun c38 => ?_))
   refine Jo 0 ?_; rintro a39 k40 rfl
   refine Jl [0] (Ent.crInt _ [n] _ _ rfl rfl (by intro x hx; rw [List.mem_singleton] at hx; subst hx; unfold i64ok; omega) aB1) ?_
   refine Oa (ApO [1, 0] sl22 sl22 sz22) fun c41 => ?_
   refine Jo 0 ?_; rintro a42 k43 rfl
   refine Fb 8 0 fun _ => Fo 0 fun ho45 => ?_
   have hn46 := la ((l.take (i_4.toNat)).drop 0) ([n] : List Int)
   refine Oq Va (KS ?_)
   refine Oq Vm (Oq Vm (Oq Vm (Oa (Asl [2] sl22 (i_4.toNat) l.length) fun c47 => ?_)))
   refine Jo 0 ?_; rintro a48 k49 rfl
   refine Fb 8 0 fun _ => Fo 0 fun ho51 => ?_
   have hn52 : ((l.take l.length).drop (i_4.toNat)).length = l.length - (i_4.toNat) := len_slice rng rng
   refine Oa (Ap [1, 0] sl22 sl22 sz22) fun c53 => ?_
   refine Jo 0 ?_; rintro a54 k55 rfl
   refine Fb 8 0 fun _ => Fo 0 fun ho57 => ?_
   have hn58 := la ((((l.take (i_4.toNat)).drop 0) ++ [n]) : List Int) ((l.take l.length).drop (i_4.toNat))
   refine Oq Va (KS ?_)
   refine Jl [0] (Ent.freeze _ _) ?_
   have hq := q4 hrr ((((l.take (i_4.toNat)).drop 0) ++ [n]) ++ ((l.take l.length).drop (i_4.toNat))) (by simp only [r7_Insert, h12, h16, h20, h23, hR19, cs4]); subst hq
   exact Kr (.slice a54 (((((l.take (i_4.toNat)).drop 0) ++ [n]) ++ ((l.take l.length).drop (i_4.toNat))).length) k55) rfl (.tmp rfl .nil) [0] en
  intro h20
  exact absurd h20 (by first | (simp [h12]; done) | (simp only [bne, h12]; decide) | (simp only [bne, h12, Bool.not_true, Bool.not_false]; decide) | (exfalso; omega) | (intro hq; simp only [bne, hq, Bool.not_false, Bool.not_true, reduceCtorEq] at h12))
 intro h12
 have g59 := df h12
 obtain rfl : r3 = 0 := by omega
 refine Osk (Osk (Osk (Osk (Osk (Osk (Oq Vpf (KS ?_)))))))
 refine Kf ?_
 refine Ke ?_
 have hR60 := q2 hM5 i_4 (by simp only [r7_Insert_L0, h12, cs4])
 refine KS ?_
 refine Oq Vm (Oq Vm (Oq (Vlen sl22) (Oq Vlss (Oq Vm ?_))))
 refine Js 25 ?_ ?_
 ·intro h61
  exact absurd h61 (by first | (simp [h12]; done) | (simp only [bne, h12]; decide) | (simp only [bne, h12, Bool.not_true, Bool.not_false]; decide) | (exfalso; omega) | (intro hq; simp only [bne, hq, Bool.not_false, Bool.not_true, reduceCtorEq] at h12))
 intro h61
 have g62 := df h61
 refine Osk (Osk (Osk (Osk (Osk (Osk (Oq Vpf (KS ?_)))))))
 refine Kf (KS ?_)
 refine Oa (As0 sl22) fun c63 => ?_
 refine Jo 0 ?_; rintro a64 k65 rfl
 refine Oq Vm (Oq Vm (Oa (Asl [1] sl22 0 (i_4.toNat)) fun c66 => ?_))
 refine Jo 0 ?_; rintro a67 k68 rfl
 refine Fb 8 0 fun _ => Fo 0 fun ho70 => ?_
 have hn71 : ((l.take (i_4.toNat)).drop 0).length = (i_4.toNat) - 0 := len_slice rng rng
 refine Jl [1] (Ent.crNil (α := Int) _) ?_
 refine Oa (Ap0 [0, 0] sl22 sl22 sz22) fun c72 => ?_
 refine Jo 0 ?_; rintro a73 k74 rfl
 refine Oq Va (KS ?_)
 refine Oq Vm (Oq Vm (Oa (AsV sl22 sz22 [vi n] [vi n]) fun c75 => ?_))
 refine Jo 0 ?_; rintro a76 k77 rfl
 refine Jl [0] (Ent.crInt _ [n] _ _ rfl rfl (by intro x hx; rw [List.mem_singleton] at hx; subst hx; unfold i64ok; omega) aB1) ?_
 refine Oa (ApO [1, 0] sl22 sl22 sz22) fun c78 => ?_
 refine Jo 0 ?_; rintro a79 k80 rfl
 refine Fb 8 0 fun _ => Fo 0 fun ho82 => ?_
 have hn83 := la ((l.take (i_4.toNat)).drop 0) ([n] : List Int)
 refine Oq Va (KS ?_)
 refine Oq Vm (Oq Vm (Oq Vm (Oa (Asl [2] sl22 (i_4.toNat) l.length) fun c84 => ?_)))
 refine Jo 0 ?_; rintro a85 k86 rfl
 refine Fb 8 0 fun _ => Fo 0 fun ho88 => ?_
 have hn89 : ((l.take l.length).drop (i_4.toNat)).length = l.length - (i_4.toNat) := len_slice rng rng
 refine Oa (Ap [1, 0] sl22 sl22 sz22) fun c90 => ?_
 refine Jo 0 ?_; rintro a91 k92 rfl
 refine Fb 8 0 fun _ => Fo 0 fun ho94 => ?_
 have hn95 := la ((((l.take (i_4.toNat)).drop 0) ++ [n]) : List Int) ((l.take l.length).drop (i_4.toNat))
 refine Oq Va (KS ?_)
 refine Jl [0] (Ent.freeze _ _) ?_
 have hq := q4 hrr ((((l.take (i_4.toNat)).drop 0) ++ [n]) ++ ((l.take l.length).drop (i_4.toNat))) (by simp only [r7_Insert, h12, h61, hR60, cs4]); subst hq
 exact Kr (.slice a91 (((((l.take (i_4.toNat)).drop 0) ++ [n]) ++ ((l.take l.length).drop (i_4.toNat))).length) k92) rfl (.tmp rfl .nil) [0] en
theorem fn89 (p : GProgram) (pa0 : Option Addr) (pk0 : Nat) (rr : GGraph × Int) (hrr : r7_Build p = .ret rr) : FT Tryz.prog 89 #[.agg #[vl pa0 pk0 p.Funcs]] [S pa0 pk0 p.Funcs] (fun g : Value × Value × Value => i64ok rr.2) (fun g => .tuple #[.agg #[g.1, g.2.1, g.2.2], vi rr.2]) (fun g => [sl g.1 rr.1.Nodes, sl g.2.1 rr.1.Succ, sl g.2.2 rr.1.Pred]) := by
 refine FTi Tryz.func89 fun w0 M0 F0 => Fb 40 0 fun _ => ?_
 have hx0 := lrn rr; have H := hrr; unfold r7_Build at H
 refine KS ?_
 refine Oa (Ab [vl pa0 pk0 p.Funcs]) fun p2 => Oa (Al ze135 [.slice none 0 0, .slice none 0 0, .slice none 0 0]) fun p3 => Oq Va (KS ?_)
 refine Oq (VldA sh84 1) ?_
 refine lbH H hx0 fun rv4 hg5 H => ?_
 have hc6 := fn125 p pa0 pk0 rv4 hg5
 refine Oc [2] ca125 hc6 ?_
 rintro - ⟨he7, he8, he9, he10, he11⟩
 unfold i64ok at he7 he8 he9 he10 he11
 refine Oq Vm (Oq Vx (Oq Vx (Oa (Al ze142 [vi 0, vi 0, vi 0, vi 0]) fun p12 => Ost (Scl [0] sh142 [vi rv4.1.Kind, vi rv4.1.Func, vi rv4.1.Block, vi rv4.1.Stmt]) (Oq Va (KS ?_)))))
 refine Oq Vm (Oq Vneq (KS ?_))
 refine pF H hx0 fun h13 H => ?_
 refine KcF h13 ?_
 have g14 := eq_of_bne_false h13
 refine KS ?_
 refine Oq (VldA sh84 2) ?_
 refine lbH H hx0 fun rv16 hg17 H => ?_
 have hc18 := fn127 p pa0 pk0 rv16 hg17
 refine Oc [3] ca127 hc18 ?_
 rintro c15 -
 refine Jo 0 ?_; rintro a19 k20 rfl
 refine Fb 32 0 fun _ => ?_
 refine Oq Va (KS ?_)
 refine JK_drawK [0, 0, 2, 6, 0, 16, 48, 127, 0, 511] fmix ?_
 refine Dv [] Vm (Dv [] Vm (Dv [] (Vlen sl133) ?_))
 refine pC H hx0 fun hc22 H => ?_
 have hn24 := List.length_replicate (n := (rv16.length : Int).toNat) (a := ([] : List Int))
 refine Dx [] [] [0] (fun G => (G.g 3 0)) [fun G => os (G.g 3 0) ((List.replicate (rv16.length : Int).toNat []) : List (List Int))] (fun G => xA (Amk (α := List Int) sl23 sz23 [] (fun _ _ => ⟨_, rfl, slrd_nil⟩))) (Dv [] Vm (Dv [] (Vlen sl133) ?_))
 have hn26 := List.length_replicate (n := (rv16.length : Int).toNat) (a := ([] : List Int))
 refine Dx [] [] [0] (fun G => (G.g 6 0)) [fun G => os (G.g 6 0) ((List.replicate (rv16.length : Int).toNat []) : List (List Int))] (fun G => xA (Amk (α := List Int) sl23 sz23 [] (fun _ _ => ⟨_, rfl, slrd_nil⟩))) ?_
 refine Dx [5, 6] [] [0, 0] (fun G => .agg #[vl a19 k20 rv16, (G.g 3 0), (G.g 6 0)]) [] (fun G => xV (v := .agg #[vl a19 k20 rv16, (G.g 3 0), (G.g 6 0)]) (Vo 0 rfl (isO_os _ _) fun aq27 kq28 eq29 => (by rw [eq29]; exact Vo 1 rfl (isO_os _ _) fun aq30 kq31 eq32 => (by rw [eq32]; exact Vbd st135 [vl a19 k20 rv16, .slice aq27 (((List.replicate (rv16.length : Int).toNat []) : List (List Int)).length) kq28, .slice aq30 (((List.replicate (rv16.length : Int).toNat []) : List (List Int)).length) kq31])))) (Dx [] [] [0] (fun G => (G.g 8 0)) [fun G => Cl (G.g 8 0) [.slice none 0 0, .slice none 0 0, .slice none 0 0]] (fun G => xA (Al ze135 [.slice none 0 0, .slice none 0 0, .slice none 0 0])) (Dx0 [5, 6, 7] [7] [1, 1, 0] [fun G => Cl (G.g 8 0) [vl a19 k20 rv16, (G.g 3 0), (G.g 6 0)]] (fun G => x1 0 rfl os_one fun ho34 => (x1 1 rfl os_one fun ho35 => (xS (Scl [2] sh135 [vl a19 k20 rv16, (G.g 3 0), (G.g 6 0)] (v := .agg #[vl a19 k20 rv16, (G.g 3 0), (G.g 6 0)]) (h1 := show [vl a19 k20 rv16, (G.g 3 0), (G.g 6 0)].all (·.oneCell') = true from (by simp only [List.all_cons, List.all_nil, ho34, ho35, Bool.and_true, Bool.true_and] <;> rfl)))))) ?_))
 refine Dn ⟨by kernel_rfl, fun G => ?_⟩
 refine Jw2 [(1, p2), (2, p3), (6, vl a19 k20 rv16), (7, (G.g 8 0))] [0, 1, 2, 3, 4] [os (G.g 3 0) ((List.replicate (rv16.length : Int).toNat []) : List (List Int)), os (G.g 6 0) ((List.replicate (rv16.length : Int).toNat []) : List (List Int)), Cl (G.g 8 0) [vl a19 k20 rv16, (G.g 3 0), (G.g 6 0)]] ?_
 generalize G.g 3 0 = c23, G.g 6 0 = c25, G.g 8 0 = p33
 refine Jo 5 ?_; rintro a36 k37 rfl
 refine Fb 24 5 fun _ => ?_
 refine Jo 6 ?_; rintro a39 k40 rfl
 refine KS ?_
 refine Oq Va (KS ?_)
 refine pC H hx0 fun hc54 H => ?_
 refine llH H hx0 fun X55 hX56 hx57 HL58 => ?_
 refine Kl (γ := Nat × List (List Int) × List (List Int) × Int × Option Addr × Nat × Option Addr × Nat) (fun (r41, g1_42, g2_43, i_44, a45, k46, a47, k48) => ⟨[(1, p2), (2, p3), (6, vl a19 k20 rv16), (7, p33), (8, vi i_44)], [O a47 k48 g2_43, O a45 k46 g1_42, S a19 k20 rv16, Cl p3 [.slice none 0 0, .slice none 0 0, .slice none 0 0], pv p2 [vl pa0 pk0 p.Funcs], S pa0 pk0 p.Funcs, Cl p33 [vl a19 k20 rv16, vl a45 k46 g1_42, vl a47 k48 g2_43]], r7_Build_L0 p rv16 r41 g1_42 g2_43 i_44 = X55 ∧ r41 = ((rv16.length : Int) - i_44).toNat ∧ (0 : Int) ≤ i_44 ∧ i_44 ≤ (rv16.length : Int) ∧ (-9223372036854775808 ≤ i_44 ∧ i_44 ≤ 9223372036854775807), r41⟩) (((rv16.length : Int) - 0).toNat, (List.replicate (rv16.length : Int).toNat []), (List.replicate (rv16.length : Int).toNat []), 0, a36, k37, a39, k40) [6, 5, 0, 2, 2, 3, 4] ⟨hX56, rfl, aM1, aM1, aM1⟩ ?_
 rintro ⟨r41, g1_42, g2_43, i_44, a45, k46, a47, k48⟩ ⟨hM49, hr50, hi51, hi52, hk53⟩
 refine JJ_nx fun _ _ hL hA => ?_; dsimp only at hL hA; subst hL hA
 refine Fb 24 0 fun _ => Fb 24 1 fun _ => Fb 32 2 fun _ => Fb 40 5 fun _ => KS ?_
 refine Oq Vm (Oq Vm (Oq (Vlen sl133) (Oq Vlss (KS ?_))))
 refine Kc ?_ ?_
 ·intro h63
  have g64 := dt h63
  obtain ⟨r65, rfl⟩ := scc (n := r41) aM1
  have H := hM49; (try dsimp only at H); rw [r7_Build_L0] at H
  refine KS ?_
  refine Oq (VldA sh84 4) (Oq Vm (Oq Vm ?_))
  refine lbH H hx57 fun rv67 hg68 H => ?_
  have hc69 := fn130 p pa0 pk0 rv16 a19 k20 i_44 pre rv67 hg68
  refine Oc [5, 2] ca130 hc69 ?_
  rintro c66 -
  refine Jo 0 ?_; rintro a70 k71 rfl
  refine Fb 8 0 fun _ => Fo 0 fun ho73 => ?_
  refine Oq Va (KS ?_)
  refine Oq Va (KS ?_)
  refine llH H hx57 fun X83 hX84 hx85 HL86 => ?_
  refine Kl (γ := Nat × List (List Int) × List (List Int) × Int) (fun (r74, g1_75, g2_76, k_77) => ⟨[(1, p2), (2, p3), (6, vl a19 k20 rv16), (7, p33), (8, vi i_44), (9, vl a70 k71 rv67), (10, vi k_77)], [S a70 k71 rv67, os (vl a47 k48 g2_43) g2_76, os (vl a45 k46 g1_42) g1_75, S a19 k20 rv16, Cl p3 [.slice none 0 0, .slice none 0 0, .slice none 0 0], pv p2 [vl pa0 pk0 p.Funcs], S pa0 pk0 p.Funcs, Cl p33 [vl a19 k20 rv16, vl a45 k46 g1_42, vl a47 k48 g2_43]], r7_Build_L1 i_44 rv67 r74 g1_75 g2_76 k_77 = X83 ∧ r74 = ((rv67.length : Int) - k_77).toNat ∧ (0 : Int) ≤ k_77 ∧ k_77 ≤ (rv67.length : Int) ∧ (-9223372036854775808 ≤ k_77 ∧ k_77 ≤ 9223372036854775807), r74⟩) (((rv67.length : Int) - 0).toNat, g1_42, g2_43, 0) [0, 1, 1, 1, 2, 2, 3, 4] ⟨hX84, rfl, aM1, aM1, aM1⟩ ?_
  rintro ⟨r74, g1_75, g2_76, k_77⟩ ⟨hM78, hr79, hi80, hi81, hk82⟩
  refine JJ_nx fun _ _ hL hA => ?_; dsimp only at hL hA; subst hL hA
  refine Fb 8 0 fun _ => Fo 0 fun ho88 => Fb 24 1 fun _ => Fl 1 fun hn90 => ?_
  refine Fb 24 2 fun _ => Fl 2 fun hn92 => ?_
  refine Fb 32 3 fun _ => Fb 40 6 fun _ => KS ?_
  refine Oq Vm (Oq Vm (Oq (Vlen sl22) (Oq Vlss (KS ?_))))
  refine Kc ?_ ?_
  ·intro h95
   have g96 := dt h95
   obtain ⟨r97, rfl⟩ := scc (n := r74) aM1
   have H := hM78; (try dsimp only at H); rw [r7_Build_L1] at H
   refine KS ?_
   refine Jp 7 fun hp98 => ?_
   refine pC H hx85 fun hc99 H => ?_
   refine JJ_peekOL i_44.toNat 3 rfl rng fun a100 k101 => ?_
   refine Fb 8 1 fun _ => Fo 1 fun ho103 => ?_
   refine JK_drawK [0, 1, 0, 0, 8, 0, 56, 120, 0, 0, 768, 1792, 4088, 8191, 16383] fmix ?_
   refine Dv [2] (Vfa fo135_1 0) (Dv [9] (VldF sh23 0) (Dv [] Vm (Dv [2] (Vfa fo135_1 0) (Dv [9] (VldF sh23 0) (Dv [] Vm (Dv [0] (Vi sl23 0) (Dv [0] (Vld sh22 0) (Dv [] Vm (Dv [] Vm ?_)))))))))
   refine pC H hx85 fun hc104 H => ?_
   refine pC H hx85 fun hc105 H => ?_
   refine Dv [3] (Vi sl22 0) ?_
   have hb106 := ok1 (i := k_77.toNat) ho88 rng
   refine Dv [3] (VldI sh3 0) ?_
   refine pC H hx85 fun hc107 H => ?_
   refine lvH H fun rv109 hg110 H => ?_
   refine Dx [1] [] [2, 0, 1] (fun G => (G.g 12 0)) [fun G => SP.fact ((rv109.length ≤ (g1_75.getD i_44.toNat []).length + 1)), fun G => sl (G.g 12 0) rv109] (fun G => xC [0] ca28 (fn28 ((g1_75.getD i_44.toNat [])) a100 k101 ((rv67.getD k_77.toNat 0)) pre pre rv109 hg110)) (Dv [0] (Vi sl23 0) ?_)
   refine Dx0 [0, 10, 11] [0] [2, 1, 0] [fun G => os (vl a45 k46 g1_42) (g1_75.set i_44.toNat rv109)] (fun G => by refine xf 1 rfl ?_; rintro he111; exact xp [0] rfl (Ent.oread _ _ _ _) (x1 2 rfl sl_one fun ho112 => (xS (OpS.frame [0, 1] rfl (OpS.storeOs' (Rs := [sl (G.g 12 0) rv109]) rv109 [(G.g 12 0)] rfl rfl rfl sh22 (cells_of_one ho112) rfl (fun h => ⟨_, rfl, sepAll_get (i := 0) rfl h⟩) rng))))) ?_
   refine Dn ⟨by kernel_rfl, fun G => ?_⟩
   refine Jw2 [(1, p2), (2, p3), (6, vl a19 k20 rv16), (7, p33), (8, vi i_44), (9, vl a70 k71 rv67), (10, vi k_77)] [1, 2, 3, 4, 5, 6, 7, 8, 9] [SP.fact ((rv109.length ≤ (g1_75.getD i_44.toNat []).length + 1)), sl (G.g 12 0) rv109, os (vl a45 k46 g1_42) (g1_75.set i_44.toNat rv109)] ?_
   generalize G.g 12 0 = c108
   refine Jf 9 rfl ?_; rintro he113
   refine Jk [0, 2, 3, 3, 4, 4, 5, 6, 7, 8] ?_
   refine Jo 8 ?_; rintro a114 k115 rfl
   refine Fb 8 8 fun _ => Fo 8 fun ho117 => ?_
   refine Jp 7 fun hp118 => ?_
   refine pC H hx85 fun hc119 H => ?_
   refine pC H hx85 fun hc120 H => ?_
   refine pC H hx85 fun hc121 H => ?_
   refine pC H hx85 fun hc122 H => ?_
   refine JJ_peekOL ((rv67.getD k_77.toNat 0) : Int).toNat 3 rfl rng fun a123 k124 => ?_
   refine Fb 8 1 fun _ => Fo 1 fun ho126 => ?_
   refine JK_drawK [0, 1, 0, 0, 12, 28, 0, 64, 0, 0, 768, 1792, 4032, 8128, 0, 32704, 65535, 131071] fmix ?_
   refine Dv [2] (Vfa fo135_2 0) (Dv [9] (VldF sh23 0) (Dv [] Vm (Dv [] Vm (Dv [4] (Vi sl22 0) ?_))))
   have hb127 := ok1 (i := k_77.toNat) ho88 rng
   refine Dv [4] (VldI sh3 0) (Dv [2] (Vfa fo135_2 0) (Dv [9] (VldF sh23 0) (Dv [] Vm (Dv [] Vm (Dv [4] (Vi sl22 0) ?_)))))
   have hb128 := ok1 (i := k_77.toNat) ho88 rng
   refine Dv [4] (VldI sh3 0) (Dv [0] (Vi sl23 0) (Dv [0] (Vld sh22 0) (Dv [] Vm ?_)))
   refine pC H hx85 fun hc129 H => ?_
   refine pC H hx85 fun hc130 H => ?_
   refine lvH H fun rv132 hg133 H => ?_
   refine Dx [1] [] [2, 0, 1] (fun G => (G.g 15 0)) [fun G => SP.fact ((rv132.length ≤ (g2_76.getD ((rv67.getD k_77.toNat 0) : Int).toNat []).length + 1)), fun G => sl (G.g 15 0) rv132] (fun G => xC [0] ca28 (fn28 ((g2_76.getD ((rv67.getD k_77.toNat 0) : Int).toNat [])) a123 k124 i_44 pre pre rv132 hg133)) ?_
   refine Dx [0, 12] [] [0, 0] (fun G => (eptr 1 (vl a47 k48 g2_43) ((rv67.getD k_77.toNat 0) : Int).toNat)) [] (fun G => by refine xf 1 rfl ?_; rintro he134; exact xV (Vi sl23 0)) ?_
   refine Dx0 [0, 12, 13] [0] [2, 1, 0] [fun G => os (vl a47 k48 g2_43) (g2_76.set ((rv67.getD k_77.toNat 0) : Int).toNat rv132)] (fun G => by refine xf 1 rfl ?_; rintro he135; exact xp [0] rfl (Ent.oread _ _ _ _) (x1 2 rfl sl_one fun ho136 => (xS (OpS.frame [0, 1] rfl (OpS.storeOs' (Rs := [sl (G.g 15 0) rv132]) rv132 [(G.g 15 0)] rfl rfl rfl sh22 (cells_of_one ho136) rfl (fun h => ⟨_, rfl, sepAll_get (i := 0) rfl h⟩) rng))))) ?_
   refine Dn ⟨by kernel_rfl, fun G => ?_⟩
   refine Jw2 [(1, p2), (2, p3), (6, vl a19 k20 rv16), (7, p33), (8, vi i_44), (9, vl a70 k71 rv67), (10, vi k_77)] [1, 2, 3, 4, 5, 6, 7, 8, 9, 10, 11] [SP.fact ((rv132.length ≤ (g2_76.getD ((rv67.getD k_77.toNat 0) : Int).toNat []).length + 1)), sl (G.g 15 0) rv132, os (vl a47 k48 g2_43) (g2_76.set ((rv67.getD k_77.toNat 0) : Int).toNat rv132)] ?_
   generalize G.g 15 0 = c131
   refine Jf 11 rfl ?_; rintro he137
   refine Jk [0, 2, 3, 4, 5, 5, 6, 7, 7, 8, 9, 10] ?_
   refine Jo 10 ?_; rintro a138 k139 rfl
   refine Fb 8 10 fun _ => Fo 10 fun ho141 => KS ?_
   refine Oq Vm (Oq Vadd (Oq Va (KS ?_)))
   refine pC H hx85 fun hc142 H => ?_
   refine pC H hx85 fun hc143 H => ?_
   exact Kg (r97, (g1_75.set i_44.toNat rv109), (g2_76.set ((rv67.getD k_77.toNat 0) : Int).toNat rv132), (k_77 + 1)) [2, 11, 9, 3, 4, 4, 5, 6] ⟨H, aM1, aM1, aM1, aM1⟩
  intro h95
  have g144 := df h95
  obtain rfl : r74 = 0 := by omega
  have H := hM78; (try dsimp only at H); rw [r7_Build_L1] at H
  refine Ke ?_
  have H := llB H HL86
  dsimp only at H
  refine KS ?_
  refine Oq Vm (Oq Vadd (Oq Va (KS ?_)))
  refine Fl 2 fun hn145 => ?_; (try unfold vl); rw [← hn145]
  refine Fl 1 fun hn146 => ?_; (try unfold vl); rw [← hn146]
  refine pC H hx57 fun hc147 H => ?_
  exact Kg (r65, g1_75, g2_76, (i_44 + 1), a45, k46, a47, k48) [1, 1, 1, 2, 2, 3, 4] ⟨H, aM1, aM1, aM1, aM1⟩
 intro h63
 have g148 := df h63
 obtain rfl : r41 = 0 := by omega
 have H := hM49; (try dsimp only at H); rw [r7_Build_L0] at H
 refine Ke ?_
 have H := llB H HL58
 dsimp only at H
 refine KS ?_
 refine Oq (VldA sh135 6) (Ost (Scl [3] sh135 [vl a19 k20 rv16, vl a45 k46 g1_42, vl a47 k48 g2_43]) (Oq Va (KS ?_)))
 refine Jl [2] (Ent.freeze _ _) ?_
 refine Jl [2] (Ent.freeze _ _) ?_
 have hq := rI H; subst hq
 exact Kr (vl a19 k20 rv16, vl a45 k46 g1_42, vl a47 k48 g2_43) rfl (.cellN 2 rfl sh135 rfl (reads_Cl _ _) rfl (.tmp rfl .nil)) [3, 1, 0] en
theorem fn132 (width : Int) (hwidth_0 : i64ok width) (rr : GTransfer) (hrr : r1_Identity width = .ret rr) : FT Tryz.prog 132 #[vi width] [] (fun g : Value × Value × Value => i64ok rr.Gen.Width ∧ i64ok rr.Kill.Width) (fun g => .agg #[vi rr.Gen.Width, g.1, vi rr.Kill.Width, g.2.1, g.2.2]) (fun g => [sl g.1 rr.Gen.Words, sl g.2.1 rr.Kill.Words, os g.2.2 rr.Copies]) := by
 refine FTi Tryz.func132 fun w0 M0 F0 => ?_
 unfold i64ok at hwidth_0
 have hx0 := lrn rr; have H := hrr; unfold r1_Identity at H
 refine KS ?_
 refine Oa (Al ze65 [vi 0, .slice none 0 0, vi 0, .slice none 0 0, .slice none 0 0]) fun p1 => KS ?_
 refine Oq Vm ?_
 refine pC H hx0 fun hc2 H => ?_
 refine lvH H fun rv4 hg5 H => ?_
 have hc6 := fn29 width pre pre rv4 hg5
 refine Oc [] ca29 hc6 ?_
 rintro c3 ⟨he7, he8, he9⟩
 unfold i64ok at he7
 refine Jo 0 ?_; rintro a10 k11 rfl
 refine Fb 8 0 fun _ => Oq Vm ?_
 have hc14 := fn29 width pre pre rv4 hg5
 refine Oc [] ca29 hc14 ?_
 rintro c13 ⟨he15, he16, he17⟩
 unfold i64ok at he15
 refine Jo 0 ?_; rintro a18 k19 rfl
 refine Oq (Vbd st65 [vi rv4.Width, vl a10 k11 rv4.Words, vi rv4.Width, vl a18 k19 rv4.Words, .slice none 0 0]) (Ost (Scl [2] sh65 [vi rv4.Width, vl a10 k11 rv4.Words, vi rv4.Width, vl a18 k19 rv4.Words, .slice none 0 0]) (KS ?_))
 refine Jl [] (Ent.osNil (α := GCopy)) ?_
 refine Jl [3] (Ent.freeze _ _) ?_
 refine Jl [3] (Ent.freeze _ _) ?_
 refine pC H hx0 fun hc20 H => ?_
 have hq := rI H; subst hq
 exact Kr (vl a10 k11 rv4.Words, vl a18 k19 rv4.Words, .slice none 0 0) rfl (.cellN 3 rfl sh65 rfl (reads_Cl _ _) rfl .nil) [1, 0, 2] en
theorem fn168 (x : GTable) (xa1 : Option Addr) (xk1 : Nat) (xa2 : Option Addr) (xk2 : Nat) (hx_0 : i64ok x.Zero.Width) (rr : GTransfer × Bool) (hrr : r1_function x = .ret rr) : FT Tryz.prog 168 #[.agg #[vi x.Zero.Width, vl xa1 xk1 x.Zero.Words, vl xa2 xk2 x.One]] [S xa1 xk1 x.Zero.Words, S xa2 xk2 x.One] (fun g : Value × Value × Value => i64ok rr.1.Gen.Width ∧ i64ok rr.1.Kill.Width) (fun g => .tuple #[.agg #[vi rr.1.Gen.Width, g.1, vi rr.1.Kill.Width, g.2.1, g.2.2], vb rr.2]) (fun g => [sl g.1 rr.1.Gen.Words, sl g.2.1 rr.1.Kill.Words, sl g.2.2 rr.1.Copies]) := by
 refine FTi Tryz.func168 fun w0 M0 F0 => ?_
 unfold i64ok at hx_0
 refine Fb 8 0 fun _ => Fb 32 1 fun _ => ?_
 have hx0 := lrn rr; have H := hrr; unfold r1_function at H
 refine KS ?_
 refine Oa (Ab [vi x.Zero.Width, vl xa1 xk1 x.Zero.Words, vl xa2 xk2 x.One]) fun p3 => Oa (Al ze65 [vi 0, .slice none 0 0, vi 0, .slice none 0 0, .slice none 0 0]) fun p4 => Oq Va (KS ?_)
 refine Oq (Vfa fo210_0 1) (Oq (VfaF fo42_0 1) (Oq (VldF sh3 1) (Oq Va (KS ?_))))
 refine JK_drawK [0, 1, 0, 4, 15, 0, 63] fmix ?_
 refine Dv [1] (Vfa fo210_0 0) (Dv [1] (VldG sh42 0 [vi x.Zero.Width, vl xa1 xk1 x.Zero.Words]) (Dv [] Vm ?_))
 refine pC H hx0 fun hc5 H => ?_
 refine lvH H fun rv7 hg8 H => ?_
 refine Dx [] [] [0, 1] (fun G => .agg #[vi rv7.Width, (G.g 3 0)]) [fun G => SP.fact (i64ok rv7.Width ∧ (rv7.Width = x.Zero.Width) ∧ (rv7.Words.length = (((x.Zero.Width : Int) + 63) / 64).toNat)), fun G => os (G.g 3 0) rv7.Words] (fun G => xC [] ca29 (fn29 x.Zero.Width pre pre rv7 hg8)) ?_
 refine Dx [5] [] [0] (fun G => .agg #[vi x.Zero.Width, vl xa1 xk1 x.Zero.Words, vi rv7.Width, (G.g 3 0), .slice none 0 0]) [] (fun G => xV (v := .agg #[vi x.Zero.Width, vl xa1 xk1 x.Zero.Words, vi rv7.Width, (G.g 3 0), .slice none 0 0]) (Vo 0 rfl (isO_os _ _) fun aq9 kq10 eq11 => (by rw [eq11]; exact Vbd st65 [vi x.Zero.Width, vl xa1 xk1 x.Zero.Words, vi rv7.Width, .slice aq9 ((rv7.Words : List (BitVec 64)).length) kq10, .slice none 0 0]))) (Dx [] [] [0] (fun G => (G.g 5 0)) [fun G => Cl (G.g 5 0) [vi 0, .slice none 0 0, vi 0, .slice none 0 0, .slice none 0 0]] (fun G => xA (Al ze65 [vi 0, .slice none 0 0, vi 0, .slice none 0 0, .slice none 0 0])) (Dx0 [5, 6] [6] [1, 0] [fun G => Cl (G.g 5 0) [vi x.Zero.Width, vl xa1 xk1 x.Zero.Words, vi rv7.Width, (G.g 3 0), .slice none 0 0]] (fun G => x1 0 rfl os_one fun ho13 => (xS (Scl [1] sh65 [vi x.Zero.Width, vl xa1 xk1 x.Zero.Words, vi rv7.Width, (G.g 3 0), .slice none 0 0] (v := .agg #[vi x.Zero.Width, vl xa1 xk1 x.Zero.Words, vi rv7.Width, (G.g 3 0), .slice none 0 0]) (h1 := show [vi x.Zero.Width, vl xa1 xk1 x.Zero.Words, vi rv7.Width, (G.g 3 0), .slice none 0 0].all (·.oneCell') = true from (by simp only [List.all_cons, List.all_nil, ho13, Bool.and_true, Bool.true_and] <;> rfl))))) ?_))
 refine Dn ⟨by kernel_rfl, fun G => ?_⟩
 refine Jw2 [(1, p3), (2, p4), (4, vi x.Zero.Width), (5, (G.g 5 0))] [0, 1, 2, 3] [SP.fact (i64ok rv7.Width ∧ (rv7.Width = x.Zero.Width) ∧ (rv7.Words.length = (((x.Zero.Width : Int) + 63) / 64).toNat)), os (G.g 3 0) rv7.Words, Cl (G.g 5 0) [vi x.Zero.Width, vl xa1 xk1 x.Zero.Words, vi rv7.Width, (G.g 3 0), .slice none 0 0]] ?_
 generalize G.g 3 0 = c6, G.g 5 0 = p12
 refine Jf 4 rfl ?_; rintro ⟨he14, he15, he16⟩
 unfold i64ok at he14
 refine Jk [0, 0, 1, 2, 4, 4] ?_
 refine Jo 4 ?_; rintro a17 k18 rfl
 refine Fb 8 4 fun _ => KS ?_
 refine Oq Va (KS ?_)
 refine llH H hx0 fun X32 hX33 hx34 HL35 => ?_
 refine Kl (γ := Nat × Int × List (BitVec 64) × Int × Option Addr × Nat) (fun (r20, t2_21, t3_22, a_23, a24, k25) => ⟨[(1, p3), (2, p4), (4, vi x.Zero.Width), (5, p12), (6, vi a_23)], [O a24 k25 t3_22, Cl p4 [vi 0, .slice none 0 0, vi 0, .slice none 0 0, .slice none 0 0], pv p3 [vi x.Zero.Width, vl xa1 xk1 x.Zero.Words, vl xa2 xk2 x.One], S xa1 xk1 x.Zero.Words, S xa2 xk2 x.One, Cl p12 [vi x.Zero.Width, vl xa1 xk1 x.Zero.Words, vi t2_21, vl a24 k25 t3_22, .slice none 0 0]], r1_function_L0 x r20 t2_21 t3_22 a_23 = X32 ∧ r20 = ((x.Zero.Width : Int) - a_23).toNat ∧ (0 : Int) ≤ a_23 ∧ (a_23 ≤ x.Zero.Width ∨ a_23 = 0) ∧ (-9223372036854775808 ≤ t2_21 ∧ t2_21 ≤ 9223372036854775807) ∧ (-9223372036854775808 ≤ a_23 ∧ a_23 ≤ 9223372036854775807), r20⟩) (((x.Zero.Width : Int) - 0).toNat, rv7.Width, rv7.Words, 0, a17, k18) [4, 0, 0, 1, 2, 3] ⟨hX33, rfl, aM1, (.inr rfl), aM1, aM1⟩ ?_
 rintro ⟨r20, t2_21, t3_22, a_23, a24, k25⟩ ⟨hM26, hr27, hi28, hi29, hk30, hk31⟩
 refine JJ_nx fun _ _ hL hA => ?_; dsimp only at hL hA; subst hL hA
 refine Fb 8 0 fun _ => Fb 8 3 fun _ => Fb 32 4 fun _ => KS ?_
 refine Oq Vm (Oq Vm (Oq Vlss (KS ?_)))
 refine Kc ?_ ?_
 ·intro h39
  have g40 := dt h39
  obtain ⟨r41, rfl⟩ := scc (n := r20) aM1
  have H := hM26; (try dsimp only at H); rw [r1_function_L0] at H
  refine KS ?_
  refine Oq (Vfa fo210_1 2) (Oq (VldF sh25 2) (Oq Vm ?_))
  refine pC H hx34 fun hc42 H => ?_
  refine Oq (Vi sl25 4) ?_
  refine JJ_peek_GSet a_23.toNat 4 rfl rng fun a43 k44 hb45 => ?_
  unfold i64ok at hb45
  refine Fb 8 1 fun _ => ?_
  refine Oq (VldA sh42 0) (Oq Vm ?_)
  refine pC H hx34 fun hc49 H => ?_
  refine lvH H fun rv47 hg48 H => ?_
  have hc50 := fn21 ((x.One.getD a_23.toNat default)) a43 k44 a_23 pre pre rv47 hg48
  refine Oc [1] ca21 hc50 ?_
  rintro - -
  refine Oq Vnot (Oq Vm ?_)
  refine pF H hx34 fun h51 H => ?_
  refine JsF 29 h51 ?_
  have h53 := not_false h51
  refine Oq (Vfa fo210_0 4) (Oq (VldG sh42 4 [vi x.Zero.Width, vl xa1 xk1 x.Zero.Words]) (Oq Vm ?_))
  refine lvH H fun rv55 hg56 H => ?_
  have hc57 := fn21 x.Zero xa1 xk1 a_23 pre pre rv55 hg56
  refine Oc [5] ca21 hc57 ?_
  rintro - -
  refine Oq Vpf (KS ?_)
  refine KcH H ?_ ?_
  ·intro h58 H
   refine KS ?_
   refine Oq (Vfa fo65_1 7) (Oq (VldG sh42 7 [vi t2_21, vl a24 k25 t3_22]) (Oq Vm ?_))
   refine pC H hx34 fun hc60 H => ?_
   refine pC H hx34 fun hc61 H => ?_
   refine lvH H fun rv63 hg64 H => ?_
   refine Oc [2] ca41 (FT_borrow (A := _) hlx (FT_ent (Ent.take (is := [0]) rfl) (fn41 ((GSet.mk t2_21 t3_22)) a24 k25 a_23 pre pre pre pre rv63 hg64))) ?_ (ht := rfl)
   rintro c62 ⟨he65, he66, he67⟩
   unfold i64ok at he65
   have he66 : (rv63.Width = t2_21) := he66
   have he67 : (rv63.Words.length = ((t2_21 + 63) / 64).toNat) := he67
   refine Jo 1 ?_; rintro a68 k69 rfl
   refine Fb 8 1 fun _ => ?_
   refine Oq (Vfa fo65_1 8) (Ost (SclF [8] sh42 [vi x.Zero.Width, vl xa1 xk1 x.Zero.Words, vi rv63.Width, vl a68 k69 rv63.Words, .slice none 0 0]) (KS ?_))
   refine Oq Va (KS ?_)
   refine llH H hx34 fun X78 hX79 hx80 HL81 => ?_
   refine Kl (γ := Nat × Int) (fun (r71, b_72) => ⟨[(1, p3), (2, p4), (4, vi x.Zero.Width), (5, p12), (6, vi a_23), (7, vi b_72)], [Cl p12 [vi x.Zero.Width, vl xa1 xk1 x.Zero.Words, vi rv63.Width, vl a68 k69 rv63.Words, .slice none 0 0], O a68 k69 rv63.Words, Cl p4 [vi 0, .slice none 0 0, vi 0, .slice none 0 0, .slice none 0 0], pv p3 [vi x.Zero.Width, vl xa1 xk1 x.Zero.Words, vl xa2 xk2 x.One], S xa1 xk1 x.Zero.Words, S xa2 xk2 x.One], r1_function_L1 a_23 r71 b_72 = X78 ∧ r71 = ((x.Zero.Width : Int) - b_72).toNat ∧ (0 : Int) ≤ b_72 ∧ (b_72 ≤ x.Zero.Width ∨ b_72 = 0) ∧ (-9223372036854775808 ≤ b_72 ∧ b_72 ≤ 9223372036854775807), r71⟩) (((x.Zero.Width : Int) - 0).toNat, 0) [0, 1, 3, 3, 4, 5] ⟨hX79, rfl, aM1, (.inr rfl), aM1⟩ ?_
   rintro ⟨r71, b_72⟩ ⟨hM73, hr74, hi75, hi76, hk77⟩
   refine JJ_nx fun _ _ hL hA => ?_; dsimp only at hL hA; subst hL hA
   refine Fb 8 1 fun _ => Fb 8 4 fun _ => Fb 32 5 fun _ => KS ?_
   refine Oq Vm (Oq Vm (Oq Vlss (KS ?_)))
   refine Kc ?_ ?_
   ·intro h85
    have g86 := dt h85
    obtain ⟨r87, rfl⟩ := scc (n := r71) aM1
    have H := hM73; (try dsimp only at H); rw [r1_function_L1] at H
    refine KS ?_
    refine Oq Vm (Oq Vm (Oq Vneq (Oq Vm ?_)))
    refine pF H hx80 fun h88 H => ?_
    refine JsF 48 h88 ?_
    have g89 := eq_of_bne_false h88
    refine Osk (Osk (Osk (Osk (Osk (Osk (Osk (Oq Vpf (Oq Vm (Osk ?_)))))))))
    refine Osk (Osk (Osk (Osk (Oq Vpf (KS ?_)))))
    refine Kf (KS ?_)
    refine Oq Vm (Oq Vadd (Oq Va (KS ?_)))
    refine pC H hx80 fun hc90 H => ?_
    exact Kg (r87, (b_72 + 1)) [0, 0, 0, 0, 1, 2] ⟨H, aM1, aM1, aM1, aM1⟩
   intro h85
   have g91 := df h85
   obtain rfl : r71 = 0 := by omega
   have H := hM73; (try dsimp only at H); rw [r1_function_L1] at H
   refine Ke ?_
   have H := llB H HL81
   refine KS ?_
   refine Oq Vm (Oq Vadd (Oq Va (KS ?_)))
   refine pC H hx34 fun hc92 H => ?_
   exact Kg (r41, rv63.Width, rv63.Words, (a_23 + 1), a68, k69) [1, 1, 1, 2, 3, 0] ⟨H, aM1, aM1, aM1, aM1, aM1⟩
  intro h58 H
  refine KS ?_
  refine Oq Va (KS ?_)
  refine llH H hx34 fun X101 hX102 hx103 HL104 => ?_
  refine Kl (γ := Nat × Int) (fun (r94, b_95) => ⟨[(1, p3), (2, p4), (4, vi x.Zero.Width), (5, p12), (6, vi a_23), (7, vi b_95)], [O a24 k25 t3_22, Cl p4 [vi 0, .slice none 0 0, vi 0, .slice none 0 0, .slice none 0 0], pv p3 [vi x.Zero.Width, vl xa1 xk1 x.Zero.Words, vl xa2 xk2 x.One], S xa1 xk1 x.Zero.Words, S xa2 xk2 x.One, Cl p12 [vi x.Zero.Width, vl xa1 xk1 x.Zero.Words, vi t2_21, vl a24 k25 t3_22, .slice none 0 0]], r1_function_L1 a_23 r94 b_95 = X101 ∧ r94 = ((x.Zero.Width : Int) - b_95).toNat ∧ (0 : Int) ≤ b_95 ∧ (b_95 ≤ x.Zero.Width ∨ b_95 = 0) ∧ (-9223372036854775808 ≤ b_95 ∧ b_95 ≤ 9223372036854775807), r94⟩) (((x.Zero.Width : Int) - 0).toNat, 0) [2, 2, 2, 3, 4, 5] ⟨hX102, rfl, aM1, (.inr rfl), aM1⟩ ?_
  rintro ⟨r94, b_95⟩ ⟨hM96, hr97, hi98, hi99, hk100⟩
  refine JJ_nx fun _ _ hL hA => ?_; dsimp only at hL hA; subst hL hA
  refine Fb 8 0 fun _ => Fb 8 3 fun _ => Fb 32 4 fun _ => KS ?_
  refine Oq Vm (Oq Vm (Oq Vlss (KS ?_)))
  refine Kc ?_ ?_
  ·intro h108
   have g109 := dt h108
   obtain ⟨r110, rfl⟩ := scc (n := r94) aM1
   have H := hM96; (try dsimp only at H); rw [r1_function_L1] at H
   refine KS ?_
   refine Oq Vm (Oq Vm (Oq Vneq (Oq Vm ?_)))
   refine pF H hx103 fun h111 H => ?_
   refine JsF 48 h111 ?_
   have g112 := eq_of_bne_false h111
   refine Osk (Osk (Osk (Osk (Osk (Osk (Osk (Oq Vpf (Oq Vm (Osk ?_)))))))))
   refine Osk (Osk (Osk (Osk (Oq Vpf (KS ?_)))))
   refine Kf (KS ?_)
   refine Oq Vm (Oq Vadd (Oq Va (KS ?_)))
   refine pC H hx103 fun hc113 H => ?_
   exact Kg (r110, (b_95 + 1)) [0, 0, 0, 1, 2, 3] ⟨H, aM1, aM1, aM1, aM1⟩
  intro h108
  have g114 := df h108
  obtain rfl : r94 = 0 := by omega
  have H := hM96; (try dsimp only at H); rw [r1_function_L1] at H
  refine Ke ?_
  have H := llB H HL104
  refine KS ?_
  refine Oq Vm (Oq Vadd (Oq Va (KS ?_)))
  refine pC H hx34 fun hc115 H => ?_
  exact Kg (r41, t2_21, t3_22, (a_23 + 1), a24, k25) [0, 0, 0, 1, 2, 3] ⟨H, aM1, aM1, aM1, aM1, aM1⟩
 intro h39
 have g116 := df h39
 obtain rfl : r20 = 0 := by omega
 have H := hM26; (try dsimp only at H); rw [r1_function_L0] at H
 refine Ke ?_
 have H := llB H HL35
 dsimp only at H
 refine KS ?_
 refine Jp 5 fun hp117 => ?_
 refine JK_drawK [0, 0, 2, 6, 14, 1, 63] fmix ?_
 refine Dv [6] (VldA sh65 0) (Dv [0] (Vfa fo65_2 0) (Dv [6] (VldF sh63 0) (Dv [] (Vlen sl63) (Dv [] Vleq (Dx0 [2] [2] [0] [fun G => Cl p4 [vi x.Zero.Width, vl xa1 xk1 x.Zero.Words, vi t2_21, vl a24 k25 t3_22, .slice none 0 0]] (fun G => xS (Scl [0] sh65 [vi x.Zero.Width, vl xa1 xk1 x.Zero.Words, vi t2_21, vl a24 k25 t3_22, .slice none 0 0])) (Dv [] Va ?_))))))
 refine Dn ⟨by kernel_rfl, fun G => ?_⟩
 refine Jw2 [(2, p4), (3, vb (decide (((0 : Nat) : Int) ≤ 64)))] [0, 1, 3, 4, 5, 6] [Cl p4 [vi x.Zero.Width, vl xa1 xk1 x.Zero.Words, vi t2_21, vl a24 k25 t3_22, .slice none 0 0]] ?_
 refine Jk [1, 1, 2, 3, 4, 4] ?_
 refine Jl [0] (Ent.freeze _ _) ?_
 refine Jl [] (Ent.slNil (α := GCopy)) ?_
 have hq := rI H; subst hq
 exact Kr (vl xa1 xk1 x.Zero.Words, vl a24 k25 t3_22, .slice none 0 0) rfl (.cellN 6 rfl sh65 rfl (reads_Cl _ _) rfl (.tmp rfl .nil)) [3, 1, 0] en
theorem fn169 (t : GTransfer) (ta1 : Option Addr) (tk1 : Nat) (ta3 : Option Addr) (tk3 : Nat) (ta4 : Option Addr) (tk4 : Nat) (ht_0 : i64ok t.Gen.Width) (ht_2 : i64ok t.Kill.Width) (rr : GTable) (hrr : r1_table t = .ret rr) : FT Tryz.prog 169 #[.agg #[vi t.Gen.Width, vl ta1 tk1 t.Gen.Words, vi t.Kill.Width, vl ta3 tk3 t.Kill.Words, vl ta4 tk4 t.Copies]] [S ta1 tk1 t.Gen.Words, S ta3 tk3 t.Kill.Words, S ta4 tk4 t.Copies] (fun g : Value × Value => i64ok rr.Zero.Width) (fun g => .agg #[vi rr.Zero.Width, g.1, g.2]) (fun g => [sl g.1 rr.Zero.Words, sl g.2 rr.One]) := by
 refine FTi Tryz.func169 fun w0 M0 F0 => ?_
 unfold i64ok at ht_0 ht_2
 refine Fb 8 0 fun _ => Fb 8 1 fun _ => Fb 16 2 fun _ => ?_
 have hx0 := lrn rr; have H := hrr; unfold r1_table at H
 refine KS ?_
 refine Oa (Ab [vi t.Gen.Width, vl ta1 tk1 t.Gen.Words, vi t.Kill.Width, vl ta3 tk3 t.Kill.Words, vl ta4 tk4 t.Copies]) fun p4 => Oa (Al ze210 [vi 0, .slice none 0 0, .slice none 0 0]) fun p5 => KS ?_
 refine Oq (Vfa fo65_0 1) (Oq (VldG sh42 1 [vi t.Gen.Width, vl ta1 tk1 t.Gen.Words]) (Oq (Vbd st210 [vi t.Gen.Width, vl ta1 tk1 t.Gen.Words, .slice none 0 0]) (Oa (Al ze210 [vi 0, .slice none 0 0, .slice none 0 0]) fun p6 => Ost (Scl [0] sh210 [vi t.Gen.Width, vl ta1 tk1 t.Gen.Words, .slice none 0 0]) (KS ?_))))
 refine Oq Va (KS ?_)
 refine Jl [] (Ent.osNil (α := GSet)) ?_
 refine llH H hx0 fun X17 hX18 hx19 HL20 => ?_
 refine Kl (γ := Nat × List GSet × Int × Option Addr × Nat) (fun (r7, x2_8, b_9, a10, k11) => ⟨[(1, p4), (2, p5), (3, p6), (4, vi b_9)], [O a10 k11 x2_8, Cl p6 [vi t.Gen.Width, vl ta1 tk1 t.Gen.Words, vl a10 k11 x2_8], Cl p5 [vi 0, .slice none 0 0, .slice none 0 0], pv p4 [vi t.Gen.Width, vl ta1 tk1 t.Gen.Words, vi t.Kill.Width, vl ta3 tk3 t.Kill.Words, vl ta4 tk4 t.Copies], S ta1 tk1 t.Gen.Words, S ta3 tk3 t.Kill.Words, S ta4 tk4 t.Copies], r1_table_L0 t r7 x2_8 b_9 = X17 ∧ r7 = ((t.Gen.Width : Int) - b_9).toNat ∧ (0 : Int) ≤ b_9 ∧ (b_9 ≤ t.Gen.Width ∨ b_9 = 0) ∧ (-9223372036854775808 ≤ b_9 ∧ b_9 ≤ 9223372036854775807), r7⟩) (((t.Gen.Width : Int) - 0).toNat, [], 0, none, 0) [0, 0, 0, 0, 1, 2, 3] ⟨hX18, rfl, aM1, (.inr rfl), aM1⟩ ?_
 rintro ⟨r7, x2_8, b_9, a10, k11⟩ ⟨hM12, hr13, hi14, hi15, hk16⟩
 refine JJ_nx fun _ _ hL hA => ?_; dsimp only at hL hA; subst hL hA
 refine Fb 32 0 fun _ => Fb 8 4 fun _ => Fb 8 5 fun _ => Fb 16 6 fun _ => KS ?_
 refine Oq Vm (Oq (Vfa fo65_0 3) (Oq (VfaF fo42_0 3) (Oq (VldF sh3 3) (Oq Vlss (KS ?_)))))
 refine Kc ?_ ?_
 ·intro h25
  have g26 := dt h25
  obtain ⟨r27, rfl⟩ := scc (n := r7) aM1
  have H := hM12; (try dsimp only at H); rw [r1_table_L0] at H
  refine KS ?_
  refine Jp 1 fun hp28 => ?_
  refine JK_drawK [0, 1, 0, 0, 8, 24, 56, 0, 248, 508, 1020, 2047, 4095, 8191] fmix ?_
  refine Dv [0] (Vfa fo210_1 0) (Dv [2] (VldF sh25 0) (Dv [4] (VldA sh65 0) (Dv [4] (Vfa fo65_0 0) (Dv [4] (VfaF fo42_0 0) (Dv [4] (VldF sh3 0) ?_)))))
  refine pC H hx19 fun hc29 H => ?_
  refine lvH H fun rv31 hg32 H => ?_
  refine Dx [] [] [0, 1] (fun G => .agg #[vi rv31.Width, (G.g 6 0)]) [fun G => SP.fact (i64ok rv31.Width ∧ (rv31.Width = t.Gen.Width) ∧ (rv31.Words.length = (((t.Gen.Width : Int) + 63) / 64).toNat)), fun G => os (G.g 6 0) rv31.Words] (fun G => xC [] ca29 (fn29 t.Gen.Width pre pre rv31 hg32)) (Dv [] Vm ?_)
  refine pC H hx19 fun hc36 H => ?_
  refine pC H hx19 fun hc37 H => ?_
  refine lvH H fun rv39 hg40 H => ?_
  refine Dx [8, 9] [] [3, 1, 0, 1] (fun G => .agg #[vi rv39.Width, (G.g 8 0)]) [fun G => SP.fact (i64ok rv39.Width ∧ (rv39.Width = rv31.Width) ∧ (rv39.Words.length = ((rv31.Width + 63) / 64).toNat)), fun G => os (G.g 8 0) rv39.Words] (fun G => by refine xf 0 rfl ?_; rintro ⟨he41, he42, he43⟩; unfold i64ok at he41; exact xD [1] ca41 rfl rfl rfl (FT_open (γ := Value) (I := fun g => i64ok rv39.Width ∧ (rv39.Width = rv31.Width) ∧ (rv39.Words.length = ((rv31.Width + 63) / 64).toNat)) (V := fun g => .agg #[vi rv39.Width, g]) (B := fun g => [os (G.g 6 0) rv31.Words, os g rv39.Words]) (R := os (G.g 6 0) rv31.Words) os_slice (fun aq33 kq34 eq35 => by rw [eq35]; exact FT_ent (Ent.take (is := [0]) rfl) (FT_borrow (A := _) hlx (FT_ent (Ent.take (is := [0]) rfl) (fn41 rv31 aq33 kq34 b_9 pre pre pre pre rv39 hg40)))))) ?_
  refine pC H hx19 fun hc47 H => ?_
  refine pC H hx19 fun hc48 H => ?_
  refine lvH H fun rv50 hg51 H => ?_
  refine Dx [5, 6, 7, 8, 10, 11] [11] [3, 4, 5, 6, 7, 2, 0, 1] (fun G => .agg #[vi rv50.Width, (G.g 9 0)]) [fun G => sl (G.g 8 0) rv39.Words, fun G => SP.fact (i64ok rv50.Width), fun G => sl (G.g 9 0) rv50.Words] (fun G => by refine xf 3 rfl ?_; rintro ⟨he52, he53, he54⟩; unfold i64ok at he52; refine xf 4 rfl ?_; rintro ⟨he55, he56, he57⟩; unfold i64ok at he55; exact xp [5] rfl (Ent.freeze _ _) (xD [0, 1, 2, 3] ca153 rfl rfl rfl (FT_open (γ := Value) (I := fun g => i64ok rv50.Width) (V := fun g => .agg #[vi rv50.Width, g]) (B := fun g => [sl g rv50.Words]) (R := sl (G.g 8 0) rv39.Words) sl_slice (fun aq44 kq45 eq46 => by rw [eq46]; exact FT_ent (Ent.take (is := [1, 2, 3, 0]) rfl) (fn153 t ta1 tk1 ta3 tk3 ta4 tk4 rv39 aq44 kq45 pre pre pre pre pre rv50 hg51))))) (Dx [] [] [0] (fun G => (G.g 10 0)) [fun G => Cr (G.g 10 0) 1 [vi rv50.Width, (G.g 9 0)]] (fun G => xA (AsV sl25 sz25 [.agg #[vi rv50.Width, (G.g 9 0)]] [vi rv50.Width, (G.g 9 0)])) ?_)
  refine pC H hx19 fun hc59 H => ?_
  have hn61 := la x2_8 ([rv50] : List GSet)
  refine Dx [1, 13, 14, 15] [1, 15] [2, 1, 0] (fun G => (G.g 11 0)) [fun G => os (G.g 11 0) ((x2_8 ++ [rv50]) : List GSet)] (fun G => by refine xf 1 rfl ?_; rintro he62; unfold i64ok at he62; exact xp [3, 2] rfl (Ent.cr1 (α := GSet) (A := [sl (G.g 9 0) rv50.Words]) _ rv50 _ aB1 (fun h => ⟨_, rfl, aL1, sepAll_get (i := 0) rfl h⟩)) (xA (ApO [2, 0] sl25 sl25 sz25))) (Dv [0] (Vfa fo210_1 0) (Dx0 [2, 16] [2] [1, 0] [fun G => Cl p6 [vi t.Gen.Width, vl ta1 tk1 t.Gen.Words, (G.g 11 0)]] (fun G => x1 1 rfl os_one fun ho63 => (xS (OpS.frame [0] rfl (OpS.storeClF [(G.g 11 0)] [vi t.Gen.Width, vl ta1 tk1 t.Gen.Words, (G.g 11 0)] rfl rfl rfl sh25 (cells_of_one ho63) rfl (by simp only [List.all_cons, List.all_nil, ho63, Bool.and_true, Bool.true_and] <;> rfl) aB1 rfl)))) ?_))
  refine Dn ⟨by kernel_rfl, fun G => ?_⟩
  refine Jw2 [(1, p4), (2, p5), (3, p6), (4, vi b_9)] [0, 3, 4, 5, 6, 7] [SP.fact (i64ok rv31.Width ∧ (rv31.Width = t.Gen.Width) ∧ (rv31.Words.length = (((t.Gen.Width : Int) + 63) / 64).toNat)), os (G.g 6 0) rv31.Words, SP.fact (i64ok rv39.Width ∧ (rv39.Width = rv31.Width) ∧ (rv39.Words.length = ((rv31.Width + 63) / 64).toNat)), sl (G.g 8 0) rv39.Words, SP.fact (i64ok rv50.Width), sl (G.g 9 0) rv50.Words, os (G.g 11 0) ((x2_8 ++ [rv50]) : List GSet), Cl p6 [vi t.Gen.Width, vl ta1 tk1 t.Gen.Words, (G.g 11 0)]] ?_
  generalize G.g 6 0 = c30, G.g 8 0 = c38, G.g 9 0 = c49, G.g 11 0 = c60
  refine Jf 6 rfl ?_; rintro ⟨he64, he65, he66⟩
  unfold i64ok at he64
  refine Jf 8 rfl ?_; rintro ⟨he67, he68, he69⟩
  unfold i64ok at he67
  refine Jf 10 rfl ?_; rintro he70
  unfold i64ok at he70
  refine Jk [1, 1, 2, 3, 4, 6, 7, 9, 10, 10] ?_
  refine Jo 5 ?_; rintro a71 k72 rfl
  refine Fb 8 5 fun _ => ?_
  refine Jo 6 ?_; rintro a74 k75 rfl
  refine Fb 8 6 fun _ => ?_
  refine Jo 7 ?_; rintro a77 k78 rfl
  refine Fb 8 7 fun _ => ?_
  refine Jo 8 ?_; rintro a80 k81 rfl
  refine Fb 32 8 fun _ => KS ?_
  refine Oq Vm (Oq Vadd (Oq Va (KS ?_)))
  refine pC H hx19 fun hc83 H => ?_
  exact Kg (r27, (x2_8 ++ [rv50]), (b_9 + 1), a80, k81) [8, 8, 0, 0, 1, 2, 3] ⟨H, aM1, aM1, aM1, aM1⟩
 intro h25
 have g84 := df h25
 obtain rfl : r7 = 0 := by omega
 have H := hM12; (try dsimp only at H); rw [r1_table_L0] at H
 refine Ke ?_
 have H := llB H HL20
 refine KS ?_
 refine Oq (VldA sh210 1) (Ost (Scl [2] sh210 [vi t.Gen.Width, vl ta1 tk1 t.Gen.Words, vl a10 k11 x2_8]) (KS ?_))
 refine Jl [1] (Ent.freeze _ _) ?_
 have hq := rI H; subst hq
 exact Kr (vl ta1 tk1 t.Gen.Words, vl a10 k11 x2_8) rfl (.cellN 1 rfl sh210 rfl (reads_Cl _ _) rfl .nil) [4, 0] en
theorem fn133 (t : GTransfer) (ta1 : Option Addr) (tk1 : Nat) (ta3 : Option Addr) (tk3 : Nat) (ta4 : Option Addr) (tk4 : Nat) (ht_0 : i64ok t.Gen.Width) (ht_2 : i64ok t.Kill.Width) (rr : GTransfer × Int) (hrr : r1_Canon t = .ret rr) : FT Tryz.prog 133 #[.agg #[vi t.Gen.Width, vl ta1 tk1 t.Gen.Words, vi t.Kill.Width, vl ta3 tk3 t.Kill.Words, vl ta4 tk4 t.Copies]] [S ta1 tk1 t.Gen.Words, S ta3 tk3 t.Kill.Words, S ta4 tk4 t.Copies] (fun g : Value × Value × Value => i64ok rr.1.Gen.Width ∧ i64ok rr.1.Kill.Width ∧ i64ok rr.2) (fun g => .tuple #[.agg #[vi rr.1.Gen.Width, g.1, vi rr.1.Kill.Width, g.2.1, g.2.2], vi rr.2]) (fun g => [sl g.1 rr.1.Gen.Words, sl g.2.1 rr.1.Kill.Words, sl g.2.2 rr.1.Copies]) := by
 refine FTi Tryz.func133 fun w0 M0 F0 => ?_
 unfold i64ok at ht_0 ht_2
 refine Fb 8 0 fun _ => Fb 8 1 fun _ => Fb 16 2 fun _ => ?_
 have hx0 := lrn rr; have H := hrr; unfold r1_Canon at H
 refine KS ?_
 refine Oa (Ab [vi t.Gen.Width, vl ta1 tk1 t.Gen.Words, vi t.Kill.Width, vl ta3 tk3 t.Kill.Words, vl ta4 tk4 t.Copies]) fun p4 => Oa (Al ze65 [vi 0, .slice none 0 0, vi 0, .slice none 0 0, .slice none 0 0]) fun p5 => Oq Va (KS ?_)
 refine Oq (VldA sh65 1) ?_
 refine lvH H fun rv6 hg7 H => ?_
 have hc8 := fn68 t ta1 tk1 ta3 tk3 ta4 tk4 pre pre rv6 hg7
 refine Oc [2, 3, 4] ca68 hc8 ?_
 rintro - -
 refine Oq Vnot (KS ?_)
 refine pF H hx0 fun h9 H => ?_
 refine KcF h9 ?_
 have h11 := not_false h9
 refine KS ?_
 refine Oq (VldA sh65 1) ?_
 refine lbH H hx0 fun rv15 hg16 H => ?_
 have hc17 := fn169 t ta1 tk1 ta3 tk3 ta4 tk4 pre pre rv15 hg16
 refine Oc [2, 3, 4] ca169 hc17 ?_
 rintro ⟨c13, c14⟩ he18
 unfold i64ok at he18
 refine Jo 0 ?_; rintro a19 k20 rfl
 refine Fb 8 0 fun _ => ?_
 refine Jo 1 ?_; rintro a22 k23 rfl
 refine Fb 32 1 fun _ => ?_
 refine lbH H hx0 fun rv28 hg29 H => ?_
 have hc30 := fn168 rv15 a19 k20 a22 k23 pre rv28 hg29
 refine Oc [0, 1] ca168 hc30 ?_
 rintro ⟨c25, c26, c27⟩ ⟨he31, he32⟩
 unfold i64ok at he31 he32
 refine Jo 0 ?_; rintro a33 k34 rfl
 refine Fb 8 0 fun _ => ?_
 refine Jo 1 ?_; rintro a36 k37 rfl
 refine Fb 8 1 fun _ => ?_
 refine Jo 2 ?_; rintro a39 k40 rfl
 refine Fb 16 2 fun _ => ?_
 refine Oq Vm (Oq Vx (Oq Vx (Oa (Al ze65 [vi 0, .slice none 0 0, vi 0, .slice none 0 0, .slice none 0 0]) fun p42 => Ost (Scl [0] sh65 [vi rv28.1.Gen.Width, vl a33 k34 rv28.1.Gen.Words, vi rv28.1.Kill.Width, vl a36 k37 rv28.1.Kill.Words, vl a39 k40 rv28.1.Copies]) (Oq Va (KS ?_)))))
 refine Oq (VldA sh65 0) (Ost (Scl [6] sh65 [vi rv28.1.Gen.Width, vl a33 k34 rv28.1.Gen.Words, vi rv28.1.Kill.Width, vl a36 k37 rv28.1.Kill.Words, vl a39 k40 rv28.1.Copies]) (Oq Va (KS ?_)))
 have hq := rI H; subst hq
 exact Kr (vl a33 k34 rv28.1.Gen.Words, vl a36 k37 rv28.1.Kill.Words, vl a39 k40 rv28.1.Copies) rfl (.cellN 0 rfl sh65 rfl (reads_Cl _ _) rfl (.tmp rfl .nil)) [2, 3, 4] en
theorem fn134 (l : List GFact) (la0 : Option Addr) (lk0 : Nat) (v : Int) (hv_0 : i64ok v) (rr : GSet) (hrr : r10_bits l v = .ret rr) : FT Tryz.prog 134 #[vl la0 lk0 l, vi v] [S la0 lk0 l] (fun g : Value => i64ok rr.Width) (fun g => .agg #[vi rr.Width, g]) (fun g => [sl g rr.Words]) := by
 refine FTi Tryz.func134 fun w0 M0 F0 => ?_
 unfold i64ok at hv_0
 refine Fb 16 0 fun _ => ?_
 have hx0 := lrn rr; have H := hrr; unfold r10_bits at H
 refine KS ?_
 refine Oa (Al ze42 [vi 0, .slice none 0 0]) fun p2 => KS ?_
 refine Oq Vm (Oq (Vlen sl130) ?_)
 refine pC H hx0 fun hc3 H => ?_
 refine lvH H fun rv5 hg6 H => ?_
 have hc7 := fn29 ((l.length : Int)) pre pre rv5 hg6
 refine Oc [] ca29 hc7 ?_
 rintro c4 ⟨he8, he9, he10⟩
 unfold i64ok at he8
 refine Jo 0 ?_; rintro a11 k12 rfl
 refine Fb 8 0 fun _ => ?_
 refine Oa (Al ze42 [vi 0, .slice none 0 0]) fun p14 => Ost (Scl [0] sh42 [vi rv5.Width, vl a11 k12 rv5.Words]) (KS ?_)
 refine Oq Va (KS ?_)
 refine llH H hx0 fun X27 hX28 hx29 HL30 => ?_
 refine Kl (γ := Nat × Int × List (BitVec 64) × Int × Option Addr × Nat) (fun (r15, s0_16, s1_17, i_18, a19, k20) => ⟨[(0, vl la0 lk0 l), (1, vi v), (4, p2), (5, p14), (6, vi i_18)], [O a19 k20 s1_17, Cl p14 [vi s0_16, vl a19 k20 s1_17], Cl p2 [vi 0, .slice none 0 0], S la0 lk0 l], r10_bits_L0 l v r15 s0_16 s1_17 i_18 = X27 ∧ r15 = ((l.length : Int) - i_18).toNat ∧ (0 : Int) ≤ i_18 ∧ i_18 ≤ (l.length : Int) ∧ (-9223372036854775808 ≤ s0_16 ∧ s0_16 ≤ 9223372036854775807) ∧ (-9223372036854775808 ≤ i_18 ∧ i_18 ≤ 9223372036854775807), r15⟩) (((l.length : Int) - 0).toNat, rv5.Width, rv5.Words, 0, a11, k12) [1, 0, 0, 0] ⟨hX28, rfl, aM1, aM1, aM1, aM1⟩ ?_
 rintro ⟨r15, s0_16, s1_17, i_18, a19, k20⟩ ⟨hM21, hr22, hi23, hi24, hk25, hk26⟩
 refine JJ_nx fun _ _ hL hA => ?_; dsimp only at hL hA; subst hL hA
 refine Fb 8 0 fun _ => Fb 16 3 fun _ => KS ?_
 refine Oq Vm (Oq Vm (Oq (Vlen sl130) (Oq Vlss (KS ?_))))
 refine Kc ?_ ?_
 ·intro h33
  have g34 := dt h33
  obtain ⟨r35, rfl⟩ := scc (n := r15) aM1
  have H := hM21; (try dsimp only at H); rw [r10_bits_L0] at H
  refine KS ?_
  refine Oq Vm (Oq Vm ?_)
  refine pC H hx29 fun hc36 H => ?_
  refine Oq (Vi sl130 3) ?_
  refine JJ_peek_GFact i_18.toNat 3 rfl rng fun hb37 hb38 => ?_
  unfold i64ok at hb37 hb38
  refine Oq (Vfa fo174_1 0) (Oq (VldF sh3 0) (Oq Vm (Oq Veql (KS ?_))))
  refine pC H hx29 fun hc40 H => ?_
  refine pT H hx29 fun h39 H => ?_
  refine KcT h39 ?_
  have g41 := eq_of_beq h39
  refine KS ?_
  refine Oq (VldA sh42 2) (Oq Vm ?_)
  refine pC H hx29 fun hc42 H => ?_
  refine pC H hx29 fun hc43 H => ?_
  refine lvH H fun rv45 hg46 H => ?_
  refine Oc [1] ca41 (FT_borrow (A := _) hlx (FT_ent (Ent.take (is := [0]) rfl) (fn41 ((GSet.mk s0_16 s1_17)) a19 k20 i_18 pre pre pre pre rv45 hg46))) ?_ (ht := rfl)
  rintro c44 ⟨he47, he48, he49⟩
  unfold i64ok at he47
  have he48 : (rv45.Width = s0_16) := he48
  have he49 : (rv45.Words.length = ((s0_16 + 63) / 64).toNat) := he49
  refine Jo 1 ?_; rintro a50 k51 rfl
  refine Fb 8 1 fun _ => ?_
  refine Ost (Scl [3] sh42 [vi rv45.Width, vl a50 k51 rv45.Words]) (KS ?_)
  refine Oq Vm (Oq Vadd (Oq Va (KS ?_)))
  refine pC H hx29 fun hc53 H => ?_
  exact Kg (r35, rv45.Width, rv45.Words, (i_18 + 1), a50, k51) [2, 0, 2, 2] ⟨H, aM1, aM1, aM1, aM1, aM1⟩
 intro h33
 have g54 := df h33
 obtain rfl : r15 = 0 := by omega
 have H := hM21; (try dsimp only at H); rw [r10_bits_L0] at H
 refine Ke ?_
 have H := llB H HL30
 dsimp only at H
 refine KS ?_
 refine Oq (VldA sh42 1) (Ost (Scl [2] sh42 [vi s0_16, vl a19 k20 s1_17]) (KS ?_))
 refine Jl [1] (Ent.freeze _ _) ?_
 have hq := rI H; subst hq
 exact Kr (vl a19 k20 s1_17) rfl (.cellN 1 rfl sh42 rfl (reads_Cl _ _) rfl .nil) [0] en
theorem fn92 (p : GProgram) (pa0 : Option Addr) (pk0 : Nat) (kind : Int) (l : List GFact) (la0 : Option Addr) (lk0 : Nat) (node : Int) (s : GStmt) (sa2 : Option Addr) (sk2 : Nat) (sa3 : Option Addr) (sk3 : Nat) (hkind_0 : i64ok kind) (hnode_0 : i64ok node) (hs_0 : i64ok s.Op) (hs_1 : s.Def.b.length ≤ 140737488355328) (rr : GTransfer) (hrr : r10_transfer p kind l node s = .ret rr) : FT Tryz.prog 92 #[.agg #[vl pa0 pk0 p.Funcs], vi kind, vl la0 lk0 l, vi node, .agg #[vi s.Op, .string (bs s.Def), vl sa2 sk2 s.Uses, vl sa3 sk3 s.Targets]] [S pa0 pk0 p.Funcs, S la0 lk0 l, S sa2 sk2 s.Uses, S sa3 sk3 s.Targets] (fun g : Value × Value × Value => i64ok rr.Gen.Width ∧ i64ok rr.Kill.Width) (fun g => .agg #[vi rr.Gen.Width, g.1, vi rr.Kill.Width, g.2.1, g.2.2]) (fun g => [sl g.1 rr.Gen.Words, sl g.2.1 rr.Kill.Words, sl g.2.2 rr.Copies]) := by
 refine FTi Tryz.func92 fun w0 M0 F0 => ?_
 unfold i64ok at hkind_0 hnode_0 hs_0
 refine Fb 40 0 fun _ => Fb 16 1 fun _ => Fb 16 2 fun _ => ?_
 refine FoS 2 fun ho4 => ?_
 refine Fb 16 3 fun _ => ?_
 refine FoS 3 fun ho6 => ?_
 have hx0 := lrn rr; have H := hrr; unfold r10_transfer at H
 refine KS ?_
 refine Oa (Ab [vl pa0 pk0 p.Funcs]) fun p7 => Oa (Ab [vi s.Op, .string (bs s.Def), vl sa2 sk2 s.Uses, vl sa3 sk3 s.Targets]) fun p8 => Oa (Al ze65 [vi 0, .slice none 0 0, vi 0, .slice none 0 0, .slice none 0 0]) fun p9 => KS ?_
 refine Oq Vm (Oq (Vlen sl130) ?_)
 refine lbH H hx0 fun rv13 hg14 H => ?_
 have hc15 := fn132 ((l.length : Int)) pre rv13 hg14
 refine Oc [] ca132 hc15 ?_
 rintro ⟨c10, c11, c12⟩ ⟨he16, he17⟩
 unfold i64ok at he16 he17
 refine Jo 0 ?_; rintro a18 k19 rfl
 refine Fb 8 0 fun _ => ?_
 refine Jo 1 ?_; rintro a21 k22 rfl
 refine Fb 8 1 fun _ => ?_
 refine Jo 2 ?_; rintro a24 k25 rfl
 refine Fb 16 2 fun _ => ?_
 refine Oa (Al ze65 [vi 0, .slice none 0 0, vi 0, .slice none 0 0, .slice none 0 0]) fun p27 => Ost (Scl [0] sh65 [vi rv13.Gen.Width, vl a18 k19 rv13.Gen.Words, vi rv13.Kill.Width, vl a21 k22 rv13.Kill.Words, vl a24 k25 rv13.Copies]) (KS ?_)
 refine Oq (VldA sh84 6) ?_
 refine lbH H hx0 fun rv29 hg30 H => ?_
 have hc31 := fn126 p pa0 pk0 rv29 hg30
 refine Oc [7] ca126 hc31 ?_
 rintro c28 -
 refine Jo 0 ?_; rintro a32 k33 rfl
 refine Fb 16 0 fun _ => ?_
 refine FoS 0 fun ho35 => ?_
 refine Oq Va (KS ?_)
 refine Oq Vm (Oq Veql (KS ?_))
 refine pF H hx0 fun h36 H => ?_
 refine KcF h36 ?_
 have g37 := ne_of_beq_false h36
 refine KS ?_
 refine Oq (VldA sh140 6) ?_
 refine lbH H hx0 fun rv38 hg39 H => ?_
 have hc40 := fn128 s sa2 sk2 sa3 sk3 pre pre rv38 hg39
 refine Oc [10, 11] ca128 hc40 ?_
 rintro - -
 refine Oq Vnot (KS ?_)
 refine KcH H ?_ ?_
 ·intro h41 H
  have h43 := not_true h41
  refine KS ?_
  refine Oq (VldA sh65 1) ?_
  refine Jl [4] (Ent.freeze _ _) ?_
  refine lbH H hx0 fun rv48 hg49 H => ?_
  have hc50 := fn133 rv13 a18 k19 a21 k22 a24 k25 pre pre rv48 hg49
  refine Oc [3, 4, 0] ca133 hc50 ?_
  rintro ⟨c45, c46, c47⟩ ⟨he51, he52, he53⟩
  unfold i64ok at he51 he52 he53
  refine Jo 0 ?_; rintro a54 k55 rfl
  refine Fb 8 0 fun _ => ?_
  refine Jo 1 ?_; rintro a57 k58 rfl
  refine Fb 8 1 fun _ => ?_
  refine Jo 2 ?_; rintro a60 k61 rfl
  refine Fb 16 2 fun _ => ?_
  refine Oq Vm (Oq Vx (Oq Vx (Oa (Al ze65 [vi 0, .slice none 0 0, vi 0, .slice none 0 0, .slice none 0 0]) fun p63 => Ost (Scl [0] sh65 [vi rv48.1.Gen.Width, vl a54 k55 rv48.1.Gen.Words, vi rv48.1.Kill.Width, vl a57 k58 rv48.1.Kill.Words, vl a60 k61 rv48.1.Copies]) (Oq Va (KS ?_)))))
  refine Oq (VldA sh65 0) (Ost (Scl [9] sh65 [vi rv48.1.Gen.Width, vl a54 k55 rv48.1.Gen.Words, vi rv48.1.Kill.Width, vl a57 k58 rv48.1.Kill.Words, vl a60 k61 rv48.1.Copies]) (KS ?_))
  have hq := rI H; subst hq
  exact Kr (vl a54 k55 rv48.1.Gen.Words, vl a57 k58 rv48.1.Kill.Words, vl a60 k61 rv48.1.Copies) rfl (.cellN 0 rfl sh65 rfl (reads_Cl _ _) rfl .nil) [2, 3, 4] en
 intro h41 H
 have h65 := not_false h41
 refine KS ?_
 refine Oq Vm (Oq (Vfa fo140_1 6) (Oq (VldF sh9 6) ?_))
 refine lbH H hx0 fun rv67 hg68 H => ?_
 have hc69 := fn129 rv29 a32 k33 s.Def pre rv67 hg68
 refine Oc [0] ca129 hc69 ?_
 rintro - he70
 unfold i64ok at he70
 refine Oq Va (KS ?_)
 refine Oq Vm (Oq Vm ?_)
 refine lbH H hx0 fun rv72 hg73 H => ?_
 have hc74 := fn134 l la0 lk0 rv67 pre rv72 hg73
 refine Oc [9] ca134 hc74 ?_
 rintro c71 he75
 unfold i64ok at he75
 refine Jo 0 ?_; rintro a76 k77 rfl
 refine Fb 8 0 fun _ => ?_
 refine Oq (Vfa fo65_1 2) (Ost (SclF [2] sh42 [vi rv13.Gen.Width, vl a18 k19 rv13.Gen.Words, vi rv72.Width, vl a76 k77 rv72.Words, vl a24 k25 rv13.Copies]) (KS ?_))
 refine Oq Vm (Oq Veql (Oq Va (KS ?_)))
 refine pT H hx0 fun h79 H => ?_
 refine KcT h79 ?_
 have g80 := eq_of_beq h79
 refine KS ?_
 refine Oq Va (KS ?_)
 refine llH H hx0 fun X93 hX94 hx95 HL96 => ?_
 refine Kl (γ := Nat × Int × List (BitVec 64) × Int × Option Addr × Nat) (fun (r81, t0_82, t1_83, i_84, a85, k86) => ⟨[(2, vl la0 lk0 l), (3, vi node), (10, p9), (11, p27), (17, vi i_84)], [S a85 k86 t1_83, Cl p27 [vi t0_82, vl a85 k86 t1_83, vi rv72.Width, vl a76 k77 rv72.Words, vl a24 k25 rv13.Copies], S a76 k77 rv72.Words, O a24 k25 rv13.Copies, Cl p9 [vi 0, .slice none 0 0, vi 0, .slice none 0 0, .slice none 0 0], S la0 lk0 l], r10_transfer_L1 l node r81 t0_82 t1_83 i_84 = X93 ∧ r81 = ((l.length : Int) - i_84).toNat ∧ (0 : Int) ≤ i_84 ∧ i_84 ≤ (l.length : Int) ∧ (-9223372036854775808 ≤ t0_82 ∧ t0_82 ≤ 9223372036854775807) ∧ (-9223372036854775808 ≤ i_84 ∧ i_84 ≤ 9223372036854775807), r81⟩) (((l.length : Int) - 0).toNat, rv13.Gen.Width, rv13.Gen.Words, 0, a18, k19) [3, 0, 0, 4, 4, 7] ⟨hX94, rfl, aM1, aM1, aM1, aM1⟩ ?_
 rintro ⟨r81, t0_82, t1_83, i_84, a85, k86⟩ ⟨hM87, hr88, hi89, hi90, hk91, hk92⟩
 refine JJ_nx fun _ _ hL hA => ?_; dsimp only at hL hA; subst hL hA
 refine Fb 8 0 fun _ => Fb 8 2 fun _ => Fb 16 3 fun _ => Fb 16 5 fun _ => KS ?_
 refine Oq Vm (Oq Vm (Oq (Vlen sl130) (Oq Vlss (KS ?_))))
 refine Kc ?_ ?_
 ·intro h101
  have g102 := dt h101
  obtain ⟨r103, rfl⟩ := scc (n := r81) aM1
  have H := hM87; (try dsimp only at H); rw [r10_transfer_L1] at H
  refine KS ?_
  refine Oq Vm (Oq Vm ?_)
  refine pC H hx95 fun hc104 H => ?_
  refine Oq (Vi sl130 5) ?_
  refine JJ_peek_GFact i_84.toNat 5 rfl rng fun hb105 hb106 => ?_
  unfold i64ok at hb105 hb106
  refine Oq (Vfa fo174_0 0) (Oq (VldF sh3 0) (Oq Vm (Oq Veql (KS ?_))))
  refine pC H hx95 fun hc108 H => ?_
  refine pT H hx95 fun h107 H => ?_
  refine KcT h107 ?_
  have g109 := eq_of_beq h107
  refine KS ?_
  refine Oq (Vfa fo65_0 2) (Oq (VldG sh42 2 [vi t0_82, vl a85 k86 t1_83]) (Oq Vm ?_))
  refine pC H hx95 fun hc110 H => ?_
  refine pC H hx95 fun hc111 H => ?_
  refine lvH H fun rv113 hg114 H => ?_
  have hc115 := fn41 ((GSet.mk t0_82 t1_83)) a85 k86 i_84 pre pre pre pre rv113 hg114
  refine Oc [1] ca41 hc115 ?_
  rintro c112 ⟨he116, he117, he118⟩
  unfold i64ok at he116
  have he117 : (rv113.Width = t0_82) := he117
  have he118 : (rv113.Words.length = ((t0_82 + 63) / 64).toNat) := he118
  refine Jo 0 ?_; rintro a119 k120 rfl
  refine Fb 8 0 fun _ => ?_
  refine Oq (Vfa fo65_0 3) (Ost (SclF [3] sh42 [vi rv113.Width, vl a119 k120 rv113.Words, vi rv72.Width, vl a76 k77 rv72.Words, vl a24 k25 rv13.Copies]) (KS ?_))
  refine Oq Vm (Oq Vadd (Oq Va (KS ?_)))
  refine Jl [1] (Ent.freeze _ _) ?_
  refine pC H hx95 fun hc122 H => ?_
  exact Kg (r103, rv113.Width, rv113.Words, (i_84 + 1), a119, k120) [0, 1, 3, 4, 4, 4] ⟨H, aM1, aM1, aM1, aM1, aM1⟩
 intro h101
 have g123 := df h101
 obtain rfl : r81 = 0 := by omega
 have H := hM87; (try dsimp only at H); rw [r10_transfer_L1] at H
 refine Ke ?_
 have H := llB H HL96
 dsimp only at H
 refine KS ?_
 refine Oq (VldA sh65 1) ?_
 refine Jl [3] (Ent.freeze _ _) ?_
 refine lbH H hx0 fun rv127 hg128 H => ?_
 have hc129 := fn133 ((GTransfer.mk (GSet.mk t0_82 t1_83) rv72 rv13.Copies)) a85 k86 a76 k77 a24 k25 pre pre rv127 hg128
 refine Oc [1, 3, 0] ca133 hc129 ?_
 rintro ⟨c124, c125, c126⟩ ⟨he130, he131, he132⟩
 unfold i64ok at he130 he131 he132
 refine Jo 0 ?_; rintro a133 k134 rfl
 refine Fb 8 0 fun _ => ?_
 refine Jo 1 ?_; rintro a136 k137 rfl
 refine Fb 8 1 fun _ => ?_
 refine Jo 2 ?_; rintro a139 k140 rfl
 refine Fb 16 2 fun _ => ?_
 refine Oq Vm (Oq Vx (Oq Vx (Oa (Al ze65 [vi 0, .slice none 0 0, vi 0, .slice none 0 0, .slice none 0 0]) fun p142 => Ost (Scl [0] sh65 [vi rv127.1.Gen.Width, vl a133 k134 rv127.1.Gen.Words, vi rv127.1.Kill.Width, vl a136 k137 rv127.1.Kill.Words, vl a139 k140 rv127.1.Copies]) (Oq Va (KS ?_)))))
 refine Oq (VldA sh65 0) (Ost (Scl [8] sh65 [vi rv127.1.Gen.Width, vl a133 k134 rv127.1.Gen.Words, vi rv127.1.Kill.Width, vl a136 k137 rv127.1.Kill.Words, vl a139 k140 rv127.1.Copies]) (KS ?_))
 have hq := rI H; subst hq
 exact Kr (vl a133 k134 rv127.1.Gen.Words, vl a136 k137 rv127.1.Kill.Words, vl a139 k140 rv127.1.Copies) rfl (.cellN 0 rfl sh65 rfl (reads_Cl _ _) rfl .nil) [2, 3, 4] en
theorem fn51 (p : GProgram) (pa0 : Option Addr) (pk0 : Nat) (kind : Int) (hkind_0 : i64ok kind) (rr : GSystem × Int) (hrr : r10_Of p kind = .ret rr) : FT Tryz.prog 51 #[.agg #[vl pa0 pk0 p.Funcs], vi kind] [S pa0 pk0 p.Funcs] (fun g : Value × Value × Value => i64ok rr.1.Width ∧ i64ok rr.2) (fun g => .tuple #[.agg #[vi rr.1.Width, g.1, g.2.1, g.2.2], vi rr.2]) (fun g => [sl g.1 rr.1.Deps, sl g.2.1 rr.1.Transfers, sl g.2.2 rr.1.Boundary]) := by
 refine FTi Tryz.func51 fun w0 M0 F0 => ?_
 unfold i64ok at hkind_0
 refine Fb 40 0 fun _ => ?_
 have hx0 := lrn rr; have H := hrr; unfold r10_Of at H
 refine KS ?_
 refine Oa (Ab [vl pa0 pk0 p.Funcs]) fun p2 => Oa (Al ze27 [vi 0, .slice none 0 0, .slice none 0 0, .slice none 0 0]) fun p3 => Oq Va (KS ?_)
 refine Oq (VldA sh84 1) (Oq Vm ?_)
 refine lbH H hx0 fun rv5 hg6 H => ?_
 have hc7 := fn88 p pa0 pk0 kind pre rv5 hg6
 refine Oc [2] ca88 hc7 ?_
 rintro c4 he8
 unfold i64ok at he8
 refine Jo 0 ?_; rintro a9 k10 rfl
 refine Fb 16 0 fun _ => ?_
 refine Oq Vm (Oq Vx (Oq Vx (Oq Va (Oq Va (KS ?_)))))
 refine Oq Vm (Oq Vneq (KS ?_))
 refine pF H hx0 fun h12 H => ?_
 refine KcF h12 ?_
 have g13 := eq_of_bne_false h12
 refine KS ?_
 refine Oq (VldA sh84 2) ?_
 refine lbH H hx0 fun rv17 hg18 H => ?_
 have hc19 := fn89 p pa0 pk0 rv17 hg18
 refine Oc [3] ca89 hc19 ?_
 rintro ⟨c14, c15, c16⟩ he20
 unfold i64ok at he20
 refine Jo 0 ?_; rintro a21 k22 rfl
 refine Fb 32 0 fun _ => ?_
 refine Jo 1 ?_; rintro a24 k25 rfl
 refine Fb 24 1 fun _ => ?_
 refine Jo 2 ?_; rintro a27 k28 rfl
 refine Fb 24 2 fun _ => ?_
 refine Oq Vm (Oq Vx (Oq Vx (Oa (Al ze135 [.slice none 0 0, .slice none 0 0, .slice none 0 0]) fun p30 => Ost (Scl [0] sh135 [vl a21 k22 rv17.1.Nodes, vl a24 k25 rv17.1.Succ, vl a27 k28 rv17.1.Pred]) (Oq Va (KS ?_)))))
 refine Oq Vm (Oq (Vlen sl130) (Oq (Vbd st27 [vi (rv5.1.length : Int), .slice none 0 0, .slice none 0 0, .slice none 0 0]) (Oa (Al ze27 [vi 0, .slice none 0 0, .slice none 0 0, .slice none 0 0]) fun p31 => Ost (Scl [0] sh27 [vi (rv5.1.length : Int), .slice none 0 0, .slice none 0 0, .slice none 0 0]) (KS ?_))))
 refine Oq Va (KS ?_)
 refine Jl [] (Ent.osNil (α := (List Int))) ?_
 refine Jl [] (Ent.osNil (α := GTransfer)) ?_
 refine Jl [] (Ent.osNil (α := GSet)) ?_
 refine llH H hx0 fun X48 hX49 hx50 HL51 => ?_
 refine Kl (γ := Nat × List (List Int) × List GTransfer × List GSet × Int × Option Addr × Nat × Option Addr × Nat × Option Addr × Nat) (fun (r32, s1_33, s2_34, s3_35, i_36, a37, k38, a39, k40, a41, k42) => ⟨[(1, vi kind), (2, p2), (4, p3), (6, vl a9 k10 rv5.1), (8, p30), (10, p31), (11, vi i_36)], [O a41 k42 s3_35, O a39 k40 s2_34, O a37 k38 s1_33, Cl p31 [vi (rv5.1.length : Int), vl a37 k38 s1_33, vl a39 k40 s2_34, vl a41 k42 s3_35], Cl p30 [vl a21 k22 rv17.1.Nodes, vl a24 k25 rv17.1.Succ, vl a27 k28 rv17.1.Pred], S a21 k22 rv17.1.Nodes, S a24 k25 rv17.1.Succ, S a27 k28 rv17.1.Pred, S a9 k10 rv5.1, Cl p3 [vi 0, .slice none 0 0, .slice none 0 0, .slice none 0 0], pv p2 [vl pa0 pk0 p.Funcs], S pa0 pk0 p.Funcs], r10_Of_L0 p kind rv5.1 rv17.1.Nodes rv17.1.Pred r32 s1_33 s2_34 s3_35 i_36 = X48 ∧ r32 = ((rv17.1.Nodes.length : Int) - i_36).toNat ∧ (0 : Int) ≤ i_36 ∧ i_36 ≤ (rv17.1.Nodes.length : Int) ∧ (-9223372036854775808 ≤ i_36 ∧ i_36 ≤ 9223372036854775807), r32⟩) (((rv17.1.Nodes.length : Int) - 0).toNat, [], [], [], 0, none, 0, none, 0, none, 0) [0, 0, 0, 0, 0, 0, 1, 2, 3, 4, 4, 5] ⟨hX49, rfl, aM1, aM1, aM1⟩ ?_
 rintro ⟨r32, s1_33, s2_34, s3_35, i_36, a37, k38, a39, k40, a41, k42⟩ ⟨hM43, hr44, hi45, hi46, hk47⟩
 refine JJ_nx fun _ _ hL hA => ?_; dsimp only at hL hA; subst hL hA
 refine Fb 32 0 fun _ => Fb 88 1 fun _ => Fb 24 2 fun _ => Fb 32 5 fun _ => Fb 24 6 fun _ => Fb 24 7 fun _ => Fb 16 8 fun _ => Fb 40 11 fun _ => KS ?_
 refine Oq Vm (Oq (Vfa fo135_0 4) (Oq (VldF sh133 4) (Oq (Vlen sl133) (Oq Vlss (KS ?_)))))
 refine Kc ?_ ?_
 ·intro h60
  have g61 := dt h60
  obtain ⟨r62, rfl⟩ := scc (n := r32) aM1
  have H := hM43; (try dsimp only at H); rw [r10_Of_L0] at H
  refine KS ?_
  refine Oq (Vfa fo135_2 4) (Oq (VldF sh23 4) (Oq Vm ?_))
  refine pC H hx50 fun hc63 H => ?_
  refine Oq (Vi sl23 7) ?_
  refine JJ_peekL i_36.toNat 7 rfl rng fun a64 k65 => ?_
  refine Fb 8 1 fun _ => Fo 1 fun ho67 => ?_
  refine Oq (Vld sh22 0) (Oq Va (KS ?_))
  refine Oq Vm (Oq Veql (KS ?_))
  refine pC H hx50 fun hc69 H => ?_
  refine pF H hx50 fun h68 H => ?_
  refine KcF h68 ?_
  have g70 := ne_of_beq_false h68
  refine KS ?_
  refine Oa (Al ze140 [vi 0, .string (bs (Str.mk [])), .slice none 0 0, .slice none 0 0]) fun p71 => KS ?_
  refine Oq (Vfa fo135_0 7) (Oq (VldF sh133 7) (Oq Vm ?_))
  refine pC H hx50 fun hc72 H => ?_
  refine Oq (Vi sl133 8) ?_
  refine JJ_peek_GNode i_36.toNat 8 rfl rng fun hb73 hb74 hb75 hb76 => ?_
  unfold i64ok at hb73 hb74 hb75 hb76
  refine Oq (Vfa fo142_0 0) (Oq (VldF sh3 0) (Oq Veql (KS ?_)))
  refine pC H hx50 fun hc78 H => ?_
  refine KcH H ?_ ?_
  ·intro h77 H
   have g79 := eq_of_beq h77
   refine Jp 8 fun hp80 => ?_
   refine JK_drawK [0, 0, 2, 0, 14, 30, 63, 127, 255, 255, 511] fmix ?_
   refine Dv [15] (VldA sh84 0) (Dv [0] (Vfa fo135_0 0) (Dv [9] (VldF sh133 0) (Dv [] Vm (Dv [10] (Vi sl133 0) (Dv [1] (VldA sh142 0) ?_)))))
   refine pC H hx50 fun hc85 H => ?_
   refine lbH H hx50 fun rv83 hg84 H => ?_
   refine Dx [16] [] [3, 0, 1, 2] (fun G => .tuple #[.agg #[vi rv83.1.Op, .string (bs rv83.1.Def), (G.g 6 0), (G.g 6 1)], vb rv83.2]) [fun G => SP.fact (i64ok rv83.1.Op ∧ rv83.1.Def.b.length ≤ 140737488355328), fun G => sl (G.g 6 0) rv83.1.Uses, fun G => sl (G.g 6 1) rv83.1.Targets] (fun G => xC [0] ca90 (fn90 p pa0 pk0 ((rv17.1.Nodes.getD i_36.toNat default)) pre pre pre pre rv83 hg84)) (Dg [] (fun G => .tuple #[.agg #[vi rv83.1.Op, .string (bs rv83.1.Def), (G.g 6 0), (G.g 6 1)], vb rv83.2]) (fun G => Vm) (Dg [] (fun G => .agg #[vi rv83.1.Op, .string (bs rv83.1.Def), (G.g 6 0), (G.g 6 1)]) (fun G => Vx) (Dv [] Vx (Dx0 [2, 18, 19] [2] [1, 2, 0] [fun G => Cl p71 [vi rv83.1.Op, .string (bs rv83.1.Def), (G.g 6 0), (G.g 6 1)]] (fun G => x1 1 rfl sl_one fun ho86 => (x1 2 rfl sl_one fun ho87 => (xS (Scl [0] sh140 [vi rv83.1.Op, .string (bs rv83.1.Def), (G.g 6 0), (G.g 6 1)] (v := .agg #[vi rv83.1.Op, .string (bs rv83.1.Def), (G.g 6 0), (G.g 6 1)]) (h1 := show [vi rv83.1.Op, .string (bs rv83.1.Def), (G.g 6 0), (G.g 6 1)].all (·.oneCell') = true from (by simp only [List.all_cons, List.all_nil, ho86, ho87, Bool.and_true, Bool.true_and] <;> rfl)))))) ?_))))
   refine Dn ⟨by kernel_rfl, fun G => ?_⟩
   refine Jw2 [(1, vi kind), (2, p2), (4, p3), (6, vl a9 k10 rv5.1), (8, p30), (10, p31), (11, vi i_36), (12, vl a64 k65 (rv17.1.Pred.getD i_36.toNat [])), (13, p71)] [0, 1, 3, 4, 5, 6, 7, 8, 9, 10, 11, 12, 13, 14, 15, 16] [SP.fact (i64ok rv83.1.Op ∧ rv83.1.Def.b.length ≤ 140737488355328), sl (G.g 6 0) rv83.1.Uses, sl (G.g 6 1) rv83.1.Targets, Cl p71 [vi rv83.1.Op, .string (bs rv83.1.Def), (G.g 6 0), (G.g 6 1)]] ?_
   generalize G.g 6 0 = c81, G.g 6 1 = c82
   refine Jf 16 rfl ?_; rintro ⟨he88, he89⟩
   unfold i64ok at he88
   refine Jk [1, 2, 3, 4, 4, 4, 4, 4, 4, 5, 6, 7, 8, 8, 9, 11, 12, 13] ?_
   refine Jo 15 ?_; rintro a90 k91 rfl
   refine Fb 16 15 fun _ => ?_
   refine FoS 15 fun ho93 => ?_
   refine Jo 16 ?_; rintro a94 k95 rfl
   refine Fb 16 16 fun _ => ?_
   refine FoS 16 fun ho97 => ?_
   refine KS ?_
   refine Oq Vm (Oq (Vlen sl130) ?_)
   refine pC H hx50 fun hc98 H => ?_
   refine lvH H fun rv100 hg101 H => ?_
   have hc102 := fn29 ((rv5.1.length : Int)) pre pre rv100 hg101
   refine Oc [] ca29 hc102 ?_
   rintro c99 ⟨he103, he104, he105⟩
   unfold i64ok at he103
   refine Jo 0 ?_; rintro a106 k107 rfl
   refine Fb 8 0 fun _ => ?_
   refine Oa (Al ze42 [vi 0, .slice none 0 0]) fun p109 => Ost (Scl [0] sh42 [vi rv100.Width, vl a106 k107 rv100.Words]) (KS ?_)
   refine Oq Vm (Oq Veql (Oq Vm ?_))
   refine pF H hx50 fun h110 H => ?_
   refine JsF 74 h110 ?_
   have g111 := ne_of_beq_false h110
   refine Osk (Osk (Oq Vpf (KS ?_)))
   refine Kf (KS ?_)
   refine Jp 8 fun hp112 => ?_
   refine JK_drawK [0, 1, 0, 0, 12, 28, 63, 127, 255] fmix ?_
   refine Dv [0] (Vfa fo27_1 0) (Dv [9] (VldF sh23 0) (Dx [] [] [0] (fun G => (G.g 2 0)) [fun G => Cr (G.g 2 0) 0 []] (fun G => xA (As0 sl22)) (Dv [] Vm (Dx [5, 21] [21] [1, 0] (fun G => (G.g 4 0)) [fun G => os (G.g 4 0) ((rv17.1.Pred.getD i_36.toNat []) : List Int)] (fun G => xp [1] rfl (Ent.crNil (α := Int) _) (xA (Ap0 [0, 0] sl22 sl22 sz22))) (Dx [22] [] [1, 0] (fun G => (G.g 5 0)) [fun G => Cr (G.g 5 0) 1 [(G.g 4 0)]] (fun G => x1 0 rfl os_one fun ho116 => (xA (AsV sl23 sz23 [(G.g 4 0)] [(G.g 4 0)] (hv := congrArg (fun a : Array Value => Nat.beq a.size 1 && true) ((show ∀ v : Value, v.oneCell' = true → v.cells = #[v] from fun v h => by cases v <;> first | rfl | cases h) _ ho116)) (hc := congrArg (fun a : Array Value => a.toList ++ []) ((show ∀ v : Value, v.oneCell' = true → v.cells = #[v] from fun v h => by cases v <;> first | rfl | cases h) _ ho116))))) ?_)))))
   refine pC H hx50 fun hc117 H => ?_
   have hn119 := la s1_33 ([(rv17.1.Pred.getD i_36.toNat [])] : List (List Int))
   refine Dx [8, 22, 23] [8, 22, 23] [1, 0] (fun G => (G.g 6 0)) [fun G => sl (G.g 4 0) ((rv17.1.Pred.getD i_36.toNat []) : List Int), fun G => os (G.g 6 0) ((s1_33 ++ [(rv17.1.Pred.getD i_36.toNat [])]) : List (List Int))] (fun G => xp [1] rfl (Ent.freeze _ _) (xp [2, 0] rfl (Ent.cr1 (α := List Int) (A := [sl (G.g 4 0) ((rv17.1.Pred.getD i_36.toNat []) : List Int)]) _ (rv17.1.Pred.getD i_36.toNat []) _ aB1 (fun h => ⟨_, rfl, sepAll_get (i := 0) rfl h⟩)) (xA (ApO [3, 0] sl23 sl23 sz23)))) (Dv [0] (Vfa fo27_1 0) (Dx0 [9, 25] [9] [1, 0] [fun G => Cl p31 [vi (rv5.1.length : Int), (G.g 6 0), vl a39 k40 s2_34, vl a41 k42 s3_35]] (fun G => x1 1 rfl os_one fun ho120 => (xS (OpS.frame [0] rfl (OpS.storeClF [(G.g 6 0)] [vi (rv5.1.length : Int), (G.g 6 0), vl a39 k40 s2_34, vl a41 k42 s3_35] rfl rfl rfl sh23 (cells_of_one ho120) rfl (by simp only [List.all_cons, List.all_nil, ho120, Bool.and_true, Bool.true_and] <;> rfl) aB1 rfl)))) ?_))
   refine Dn ⟨by kernel_rfl, fun G => ?_⟩
   refine Jw2 [(1, vi kind), (2, p2), (4, p3), (6, vl a9 k10 rv5.1), (8, p30), (10, p31), (11, vi i_36), (13, p71), (14, p109)] [0, 1, 2, 3, 4, 5, 6, 7, 10, 11, 12, 13, 14, 15, 16, 17, 18, 19, 20] [sl (G.g 4 0) ((rv17.1.Pred.getD i_36.toNat []) : List Int), os (G.g 6 0) ((s1_33 ++ [(rv17.1.Pred.getD i_36.toNat [])]) : List (List Int)), Cl p31 [vi (rv5.1.length : Int), (G.g 6 0), vl a39 k40 s2_34, vl a41 k42 s3_35]] ?_
   generalize G.g 4 0 = c114, G.g 6 0 = c118
   refine Jk [1, 1, 1, 2, 3, 4, 4, 4, 4, 5, 6, 7, 8, 8, 9, 10, 11, 12, 12, 13, 13] ?_
   refine Jo 18 ?_; rintro a121 k122 rfl
   refine Jo 19 ?_; rintro a123 k124 rfl
   refine Fb 24 19 fun _ => KS ?_
   refine Jp 20 fun hp126 => ?_
   refine JK_drawK [0, 1, 0, 0, 0, 0, 0, 124, 252, 511, 1023, 2047] fmix ?_
   refine Dv [0] (Vfa fo27_2 0) (Dv [21] (VldF sh24 0) (Dv [14] (VldA sh84 0) (Dv [] Vm (Dv [] Vm (Dv [] Vm (Dv [18] (VldA sh140 0) ?_))))))
   refine lbH H hx50 fun rv130 hg131 H => ?_
   refine Dx [12, 15, 16, 17] [] [4, 5, 6, 7, 0, 1, 2, 3] (fun G => .agg #[vi rv130.Gen.Width, (G.g 7 0), vi rv130.Kill.Width, (G.g 7 1), (G.g 7 2)]) [fun G => SP.fact (i64ok rv130.Gen.Width ∧ i64ok rv130.Kill.Width), fun G => sl (G.g 7 0) rv130.Gen.Words, fun G => sl (G.g 7 1) rv130.Kill.Words, fun G => sl (G.g 7 2) rv130.Copies] (fun G => xC [1, 0, 2, 3] ca92 (fn92 p pa0 pk0 kind rv5.1 a9 k10 i_36 rv83.1 a90 k91 a94 k95 pre pre pre pre rv130 hg131)) (Dx [] [] [0] (fun G => (G.g 8 0)) [fun G => Cr (G.g 8 0) 1 [vi rv130.Gen.Width, (G.g 7 0), vi rv130.Kill.Width, (G.g 7 1), (G.g 7 2)]] (fun G => xA (AsV sl24 sz24 [.agg #[vi rv130.Gen.Width, (G.g 7 0), vi rv130.Kill.Width, (G.g 7 1), (G.g 7 2)]] [vi rv130.Gen.Width, (G.g 7 0), vi rv130.Kill.Width, (G.g 7 1), (G.g 7 2)])) ?_)
   refine pC H hx50 fun hc133 H => ?_
   have hn135 := la s2_34 ([rv130] : List GTransfer)
   refine Dx [7, 22, 23, 24, 25, 26] [7, 26] [4, 1, 2, 3, 0] (fun G => (G.g 9 0)) [fun G => os (G.g 9 0) ((s2_34 ++ [rv130]) : List GTransfer)] (fun G => by refine xf 1 rfl ?_; rintro ⟨he136, he137⟩; unfold i64ok at he136 he137; exact xp [5, 2, 3, 4] rfl (Ent.cr1 (α := GTransfer) (A := [sl (G.g 7 0) rv130.Gen.Words, sl (G.g 7 1) rv130.Kill.Words, sl (G.g 7 2) rv130.Copies]) _ rv130 _ aB1 (fun h => ⟨_, _, _, rfl, aL1, sepAll_get (i := 0) rfl h, aL1, sepAll_get (i := 1) rfl h, sepAll_get (i := 2) rfl h⟩)) (xA (ApO [4, 0] sl24 sl24 sz24))) (Dv [0] (Vfa fo27_2 0) (Dx0 [21, 27] [21] [1, 0] [fun G => Cl p31 [vi (rv5.1.length : Int), vl a123 k124 (s1_33 ++ [(rv17.1.Pred.getD i_36.toNat [])]), (G.g 9 0), vl a41 k42 s3_35]] (fun G => x1 1 rfl os_one fun ho138 => (xS (OpS.frame [0] rfl (OpS.storeClF [(G.g 9 0)] [vi (rv5.1.length : Int), vl a123 k124 (s1_33 ++ [(rv17.1.Pred.getD i_36.toNat [])]), (G.g 9 0), vl a41 k42 s3_35] rfl rfl rfl sh24 (cells_of_one ho138) rfl (by simp only [List.all_cons, List.all_nil, ho138, Bool.and_true, Bool.true_and] <;> rfl) aB1 rfl)))) ?_))
   refine Dn ⟨by kernel_rfl, fun G => ?_⟩
   refine Jw2 [(1, vi kind), (2, p2), (4, p3), (6, vl a9 k10 rv5.1), (8, p30), (10, p31), (11, vi i_36), (14, p109)] [0, 1, 2, 3, 4, 5, 6, 8, 9, 10, 11, 12, 13, 14, 15, 16, 17, 18, 19, 20] [SP.fact (i64ok rv130.Gen.Width ∧ i64ok rv130.Kill.Width), sl (G.g 7 0) rv130.Gen.Words, sl (G.g 7 1) rv130.Kill.Words, sl (G.g 7 2) rv130.Copies, os (G.g 9 0) ((s2_34 ++ [rv130]) : List GTransfer), Cl p31 [vi (rv5.1.length : Int), vl a123 k124 (s1_33 ++ [(rv17.1.Pred.getD i_36.toNat [])]), (G.g 9 0), vl a41 k42 s3_35]] ?_
   generalize G.g 7 0 = c127, G.g 7 1 = c128, G.g 7 2 = c129, G.g 9 0 = c134
   refine Jf 20 rfl ?_; rintro ⟨he139, he140⟩
   unfold i64ok at he139 he140
   refine Jk [1, 1, 1, 2, 3, 4, 4, 4, 5, 6, 7, 8, 8, 9, 10, 11, 12, 12, 13, 14, 15, 16, 17, 17] ?_
   refine Jo 19 ?_; rintro a141 k142 rfl
   refine Fb 8 19 fun _ => ?_
   refine Jo 20 ?_; rintro a144 k145 rfl
   refine Fb 8 20 fun _ => ?_
   refine Jo 21 ?_; rintro a147 k148 rfl
   refine Fb 16 21 fun _ => ?_
   refine Jo 22 ?_; rintro a150 k151 rfl
   refine Fb 88 22 fun _ => KS ?_
   refine Oq (Vfa fo27_3 23) (Oq (VldF sh25 23) (Oq (VldA sh42 0) (Oa (AsV sl25 sz25 [.agg #[vi rv100.Width, vl a106 k107 rv100.Words]] [vi rv100.Width, vl a106 k107 rv100.Words]) fun c153 => ?_)))
   refine Jo 0 ?_; rintro a154 k155 rfl
   refine Jl [2] (Ent.freeze _ _) ?_
   refine Jl [1, 0] (Ent.cr1 (α := GSet) (A := [S a106 k107 rv100.Words]) _ rv100 _ aB1 (fun h => ⟨_, rfl, aL1, sepAll_get (i := 0) rfl h⟩)) ?_
   refine pC H hx50 fun hc156 H => ?_
   refine Oa (ApO [7, 0] sl25 sl25 sz25) fun c157 => ?_
   refine Jo 0 ?_; rintro a158 k159 rfl
   refine Fb 32 0 fun _ => ?_
   have hn161 := la s3_35 ([rv100] : List GSet)
   refine Oq (Vfa fo27_3 24) (Ost (SclF [24] sh25 [vi (rv5.1.length : Int), vl a123 k124 (s1_33 ++ [(rv17.1.Pred.getD i_36.toNat [])]), vl a150 k151 (s2_34 ++ [rv130]), vl a158 k159 (s3_35 ++ [rv100])]) (KS ?_))
   refine Oq Vm (Oq Vadd (Oq Va (KS ?_)))
   refine pC H hx50 fun hc162 H => ?_
   exact Kg (r62, (s1_33 ++ [(rv17.1.Pred.getD i_36.toNat [])]), (s2_34 ++ [rv130]), (s3_35 ++ [rv100]), (i_36 + 1), a123, k124, a150, k151, a158, k159) [1, 23, 19, 0, 6, 6, 7, 8, 9, 10, 10, 11] ⟨H, aM1, aM1, aM1, aM1⟩
  intro h77 H
  have g163 := ne_of_beq_false h77
  refine KS ?_
  refine Oq Vm (Oq (Vlen sl130) ?_)
  refine pC H hx50 fun hc164 H => ?_
  refine lvH H fun rv166 hg167 H => ?_
  have hc168 := fn29 ((rv5.1.length : Int)) pre pre rv166 hg167
  refine Oc [] ca29 hc168 ?_
  rintro c165 ⟨he169, he170, he171⟩
  unfold i64ok at he169
  refine Jo 0 ?_; rintro a172 k173 rfl
  refine Fb 8 0 fun _ => ?_
  refine Oa (Al ze42 [vi 0, .slice none 0 0]) fun p175 => Ost (Scl [0] sh42 [vi rv166.Width, vl a172 k173 rv166.Words]) (KS ?_)
  refine Oq Vm (Oq Veql (Oq Vm ?_))
  refine pF H hx50 fun h176 H => ?_
  refine JsF 74 h176 ?_
  have g177 := ne_of_beq_false h176
  refine Osk (Osk (Oq Vpf (KS ?_)))
  refine Kf (KS ?_)
  refine Jp 9 fun hp178 => ?_
  refine JK_drawK [0, 1, 0, 0, 12, 28, 63, 127, 255] fmix ?_
  refine Dv [0] (Vfa fo27_1 0) (Dv [10] (VldF sh23 0) (Dx [] [] [0] (fun G => (G.g 2 0)) [fun G => Cr (G.g 2 0) 0 []] (fun G => xA (As0 sl22)) (Dv [] Vm (Dx [6, 19] [19] [1, 0] (fun G => (G.g 4 0)) [fun G => os (G.g 4 0) ((rv17.1.Pred.getD i_36.toNat []) : List Int)] (fun G => xp [1] rfl (Ent.crNil (α := Int) _) (xA (Ap0 [0, 0] sl22 sl22 sz22))) (Dx [20] [] [1, 0] (fun G => (G.g 5 0)) [fun G => Cr (G.g 5 0) 1 [(G.g 4 0)]] (fun G => x1 0 rfl os_one fun ho182 => (xA (AsV sl23 sz23 [(G.g 4 0)] [(G.g 4 0)] (hv := congrArg (fun a : Array Value => Nat.beq a.size 1 && true) ((show ∀ v : Value, v.oneCell' = true → v.cells = #[v] from fun v h => by cases v <;> first | rfl | cases h) _ ho182)) (hc := congrArg (fun a : Array Value => a.toList ++ []) ((show ∀ v : Value, v.oneCell' = true → v.cells = #[v] from fun v h => by cases v <;> first | rfl | cases h) _ ho182))))) ?_)))))
  refine pC H hx50 fun hc183 H => ?_
  have hn185 := la s1_33 ([(rv17.1.Pred.getD i_36.toNat [])] : List (List Int))
  refine Dx [9, 20, 21] [9, 20, 21] [1, 0] (fun G => (G.g 6 0)) [fun G => sl (G.g 4 0) ((rv17.1.Pred.getD i_36.toNat []) : List Int), fun G => os (G.g 6 0) ((s1_33 ++ [(rv17.1.Pred.getD i_36.toNat [])]) : List (List Int))] (fun G => xp [1] rfl (Ent.freeze _ _) (xp [2, 0] rfl (Ent.cr1 (α := List Int) (A := [sl (G.g 4 0) ((rv17.1.Pred.getD i_36.toNat []) : List Int)]) _ (rv17.1.Pred.getD i_36.toNat []) _ aB1 (fun h => ⟨_, rfl, sepAll_get (i := 0) rfl h⟩)) (xA (ApO [3, 0] sl23 sl23 sz23)))) (Dv [0] (Vfa fo27_1 0) (Dx0 [10, 23] [10] [1, 0] [fun G => Cl p31 [vi (rv5.1.length : Int), (G.g 6 0), vl a39 k40 s2_34, vl a41 k42 s3_35]] (fun G => x1 1 rfl os_one fun ho186 => (xS (OpS.frame [0] rfl (OpS.storeClF [(G.g 6 0)] [vi (rv5.1.length : Int), (G.g 6 0), vl a39 k40 s2_34, vl a41 k42 s3_35] rfl rfl rfl sh23 (cells_of_one ho186) rfl (by simp only [List.all_cons, List.all_nil, ho186, Bool.and_true, Bool.true_and] <;> rfl) aB1 rfl)))) ?_))
  refine Dn ⟨by kernel_rfl, fun G => ?_⟩
  refine Jw2 [(1, vi kind), (2, p2), (4, p3), (6, vl a9 k10 rv5.1), (8, p30), (10, p31), (11, vi i_36), (13, p71), (14, p175)] [0, 1, 2, 3, 4, 5, 6, 7, 8, 11, 12, 13, 14, 15, 16, 17, 18] [sl (G.g 4 0) ((rv17.1.Pred.getD i_36.toNat []) : List Int), os (G.g 6 0) ((s1_33 ++ [(rv17.1.Pred.getD i_36.toNat [])]) : List (List Int)), Cl p31 [vi (rv5.1.length : Int), (G.g 6 0), vl a39 k40 s2_34, vl a41 k42 s3_35]] ?_
  generalize G.g 4 0 = c180, G.g 6 0 = c184
  refine Jk [1, 1, 1, 2, 2, 3, 4, 4, 4, 4, 5, 6, 7, 8, 8, 9, 10, 11, 11] ?_
  refine Jo 16 ?_; rintro a187 k188 rfl
  refine Jo 17 ?_; rintro a189 k190 rfl
  refine Fb 24 17 fun _ => KS ?_
  refine Jp 18 fun hp192 => ?_
  refine JK_drawK [0, 1, 0, 0, 0, 0, 0, 124, 252, 511, 1023, 2047] fmix ?_
  refine Dv [0] (Vfa fo27_2 0) (Dv [19] (VldF sh24 0) (Dv [15] (VldA sh84 0) (Dv [] Vm (Dv [] Vm (Dv [] Vm (Dv [4] (VldA sh140 0) ?_))))))
  refine lbH H hx50 fun rv196 hg197 H => ?_
  refine Dx [13, 16] [] [5, 6, 4, 0, 1, 2, 3] (fun G => .agg #[vi rv196.Gen.Width, (G.g 7 0), vi rv196.Kill.Width, (G.g 7 1), (G.g 7 2)]) [fun G => sl (.slice none 0 0) ([] : List Str), fun G => SP.fact (i64ok rv196.Gen.Width ∧ i64ok rv196.Kill.Width), fun G => sl (G.g 7 0) rv196.Gen.Words, fun G => sl (G.g 7 1) rv196.Kill.Words, fun G => sl (G.g 7 2) rv196.Copies] (fun G => xp [] rfl (Ent.slNil (α := Str)) (xC [2, 1, 0, 0] ca92 (fn92 p pa0 pk0 kind rv5.1 a9 k10 i_36 ((GStmt.mk 0 (Str.mk []) [] [])) none 0 none 0 pre pre pre pre rv196 hg197))) (Dx [] [] [0] (fun G => (G.g 8 0)) [fun G => Cr (G.g 8 0) 1 [vi rv196.Gen.Width, (G.g 7 0), vi rv196.Kill.Width, (G.g 7 1), (G.g 7 2)]] (fun G => xA (AsV sl24 sz24 [.agg #[vi rv196.Gen.Width, (G.g 7 0), vi rv196.Kill.Width, (G.g 7 1), (G.g 7 2)]] [vi rv196.Gen.Width, (G.g 7 0), vi rv196.Kill.Width, (G.g 7 1), (G.g 7 2)])) ?_)
  refine pC H hx50 fun hc199 H => ?_
  have hn201 := la s2_34 ([rv196] : List GTransfer)
  refine Dx [8, 21, 22, 23, 24, 25] [8, 25] [4, 1, 2, 3, 0] (fun G => (G.g 9 0)) [fun G => os (G.g 9 0) ((s2_34 ++ [rv196]) : List GTransfer)] (fun G => by refine xf 1 rfl ?_; rintro ⟨he202, he203⟩; unfold i64ok at he202 he203; exact xp [5, 2, 3, 4] rfl (Ent.cr1 (α := GTransfer) (A := [sl (G.g 7 0) rv196.Gen.Words, sl (G.g 7 1) rv196.Kill.Words, sl (G.g 7 2) rv196.Copies]) _ rv196 _ aB1 (fun h => ⟨_, _, _, rfl, aL1, sepAll_get (i := 0) rfl h, aL1, sepAll_get (i := 1) rfl h, sepAll_get (i := 2) rfl h⟩)) (xA (ApO [4, 0] sl24 sl24 sz24))) (Dv [0] (Vfa fo27_2 0) (Dx0 [19, 26] [19] [1, 0] [fun G => Cl p31 [vi (rv5.1.length : Int), vl a189 k190 (s1_33 ++ [(rv17.1.Pred.getD i_36.toNat [])]), (G.g 9 0), vl a41 k42 s3_35]] (fun G => x1 1 rfl os_one fun ho204 => (xS (OpS.frame [0] rfl (OpS.storeClF [(G.g 9 0)] [vi (rv5.1.length : Int), vl a189 k190 (s1_33 ++ [(rv17.1.Pred.getD i_36.toNat [])]), (G.g 9 0), vl a41 k42 s3_35] rfl rfl rfl sh24 (cells_of_one ho204) rfl (by simp only [List.all_cons, List.all_nil, ho204, Bool.and_true, Bool.true_and] <;> rfl) aB1 rfl)))) ?_))
  refine Dn ⟨by kernel_rfl, fun G => ?_⟩
  refine Jw2 [(1, vi kind), (2, p2), (4, p3), (6, vl a9 k10 rv5.1), (8, p30), (10, p31), (11, vi i_36), (14, p175)] [0, 1, 2, 3, 4, 5, 6, 7, 9, 10, 11, 12, 13, 14, 15, 16, 17, 18] [sl (.slice none 0 0) ([] : List Str), SP.fact (i64ok rv196.Gen.Width ∧ i64ok rv196.Kill.Width), sl (G.g 7 0) rv196.Gen.Words, sl (G.g 7 1) rv196.Kill.Words, sl (G.g 7 2) rv196.Copies, os (G.g 9 0) ((s2_34 ++ [rv196]) : List GTransfer), Cl p31 [vi (rv5.1.length : Int), vl a189 k190 (s1_33 ++ [(rv17.1.Pred.getD i_36.toNat [])]), (G.g 9 0), vl a41 k42 s3_35]] ?_
  generalize G.g 7 0 = c193, G.g 7 1 = c194, G.g 7 2 = c195, G.g 9 0 = c200
  refine Jf 19 rfl ?_; rintro ⟨he205, he206⟩
  unfold i64ok at he205 he206
  refine Jk [1, 1, 1, 2, 2, 3, 4, 4, 4, 5, 6, 7, 8, 8, 9, 10, 11, 11, 13, 14, 15, 16, 16] ?_
  refine Jo 18 ?_; rintro a207 k208 rfl
  refine Fb 8 18 fun _ => ?_
  refine Jo 19 ?_; rintro a210 k211 rfl
  refine Fb 8 19 fun _ => ?_
  refine Jo 20 ?_; rintro a213 k214 rfl
  refine Fb 16 20 fun _ => ?_
  refine Jo 21 ?_; rintro a216 k217 rfl
  refine Fb 88 21 fun _ => KS ?_
  refine Oq (Vfa fo27_3 22) (Oq (VldF sh25 22) (Oq (VldA sh42 0) (Oa (AsV sl25 sz25 [.agg #[vi rv166.Width, vl a172 k173 rv166.Words]] [vi rv166.Width, vl a172 k173 rv166.Words]) fun c219 => ?_)))
  refine Jo 0 ?_; rintro a220 k221 rfl
  refine Jl [2] (Ent.freeze _ _) ?_
  refine Jl [1, 0] (Ent.cr1 (α := GSet) (A := [S a172 k173 rv166.Words]) _ rv166 _ aB1 (fun h => ⟨_, rfl, aL1, sepAll_get (i := 0) rfl h⟩)) ?_
  refine pC H hx50 fun hc222 H => ?_
  refine Oa (ApO [8, 0] sl25 sl25 sz25) fun c223 => ?_
  refine Jo 0 ?_; rintro a224 k225 rfl
  refine Fb 32 0 fun _ => ?_
  have hn227 := la s3_35 ([rv166] : List GSet)
  refine Oq (Vfa fo27_3 23) (Ost (SclF [23] sh25 [vi (rv5.1.length : Int), vl a189 k190 (s1_33 ++ [(rv17.1.Pred.getD i_36.toNat [])]), vl a216 k217 (s2_34 ++ [rv196]), vl a224 k225 (s3_35 ++ [rv166])]) (KS ?_))
  refine Oq Vm (Oq Vadd (Oq Va (KS ?_)))
  refine pC H hx50 fun hc228 H => ?_
  exact Kg (r62, (s1_33 ++ [(rv17.1.Pred.getD i_36.toNat [])]), (s2_34 ++ [rv196]), (s3_35 ++ [rv166]), (i_36 + 1), a189, k190, a216, k217, a224, k225) [1, 22, 17, 0, 7, 7, 8, 9, 10, 11, 11, 12] ⟨H, aM1, aM1, aM1, aM1⟩
 intro h60
 have g229 := df h60
 obtain rfl : r32 = 0 := by omega
 have H := hM43; (try dsimp only at H); rw [r10_Of_L0] at H
 refine Ke ?_
 have H := llB H HL51
 dsimp only at H
 refine KS ?_
 refine Oq (VldA sh27 3) (Ost (Scl [9] sh27 [vi (rv5.1.length : Int), vl a37 k38 s1_33, vl a39 k40 s2_34, vl a41 k42 s3_35]) (Oq Va (KS ?_)))
 refine Jl [3] (Ent.freeze _ _) ?_
 refine Jl [3] (Ent.freeze _ _) ?_
 refine Jl [3] (Ent.freeze _ _) ?_
 have hq := rI H; subst hq
 exact Kr (vl a37 k38 s1_33, vl a39 k40 s2_34, vl a41 k42 s3_35) rfl (.cellN 3 rfl sh27 rfl (reads_Cl _ _) rfl (.tmp rfl .nil)) [2, 1, 0] en
theorem fn52 (a : List GHop) (aa0 : Option Addr) (ak0 : Nat) (b : List GHop) (ba0 : Option Addr) (bk0 : Nat) (rr : Bool) (hrr : w16_sameHops a b = .ret rr) : FT Tryz.prog 52 #[vl aa0 ak0 a, vl ba0 bk0 b] [S aa0 ak0 a, S ba0 bk0 b] (fun g : Unit => True) (fun g => vb rr) (fun g => []) := by
 refine FTi Tryz.func52 fun w0 M0 F0 => Fb 16 0 fun _ => Fb 16 1 fun _ => ?_
 have hx0 := lrn rr; have H := hrr; unfold w16_sameHops at H
 refine KS ?_
 refine Oq Va (KS ?_)
 refine Oq Vm (Oq (Vlen sl28) (Oq Vm (Oq (Vlen sl28) (Oq Vneq (KS ?_)))))
 refine pF H hx0 fun h3 H => ?_
 refine KcF h3 ?_
 have g4 := eq_of_bne_false h3
 refine KS ?_
 refine Oq Va (KS ?_)
 refine llH H hx0 fun X12 hX13 hx14 HL15 => ?_
 refine Kl (γ := Nat × Int) (fun (r5, i_6) => ⟨[(0, vl aa0 ak0 a), (1, vl ba0 bk0 b), (5, vi i_6)], [S aa0 ak0 a, S ba0 bk0 b], w16_sameHops_L0 a b r5 i_6 = X12 ∧ r5 = ((a.length : Int) - i_6).toNat ∧ (0 : Int) ≤ i_6 ∧ i_6 ≤ (a.length : Int) ∧ (-9223372036854775808 ≤ i_6 ∧ i_6 ≤ 9223372036854775807), r5⟩) (((a.length : Int) - 0).toNat, 0) [0, 1] ⟨hX13, rfl, aM1, aM1, aM1⟩ ?_
 rintro ⟨r5, i_6⟩ ⟨hM7, hr8, hi9, hi10, hk11⟩
 refine JJ_nx fun _ _ hL hA => ?_; dsimp only at hL hA; subst hL hA
 refine Fb 16 0 fun _ => Fb 16 1 fun _ => KS ?_
 refine Oq Vm (Oq Vm (Oq (Vlen sl28) (Oq Vlss (KS ?_))))
 refine Kc ?_ ?_
 ·intro h18
  have g19 := dt h18
  obtain ⟨r20, rfl⟩ := scc (n := r5) aM1
  have H := hM7; (try dsimp only at H); rw [w16_sameHops_L0] at H
  refine KS ?_
  refine pC H hx14 fun hc21 H => ?_
  refine JJ_peek_GHop i_6.toNat 0 rfl rng fun hb22 hb23 => ?_
  unfold i64ok at hb22 hb23
  refine pC H hx14 fun hc24 H => ?_
  refine pC H hx14 fun hc25 H => ?_
  refine JJ_peek_GHop i_6.toNat 2 rfl rng fun hb26 hb27 => ?_
  unfold i64ok at hb26 hb27
  refine Kq [0, 0, 3, 7, 0, 0, 48, 112, 255] fmix ?_
  refine Qv [] Vm (Qv [] Vm (Qv [2] (Vi sl28 0) (Qv [1] (VldA sh37 0) (Qv [] Vm (Qv [] Vm (Qv [3] (Vi sl28 0) (Qv [0] (VldA sh37 0) (Qv [] (VneA eqi37 (l := [(a.getD i_6.toNat default).Node, (a.getD i_6.toNat default).Bit]) (m := [(b.getD i_6.toNat default).Node, (b.getD i_6.toNat default).Bit])) ?_))))))))
  refine Qn ⟨by kernel_rfl, ?_⟩
  refine pC H hx14 fun hc29 H => ?_
  refine pF H hx14 fun h28 H => ?_
  refine KcF h28 ?_
  have g30 := eq_of_bne_false h28
  refine KS ?_
  refine Oq Vm (Oq Vadd (Oq Va (KS ?_)))
  refine pC H hx14 fun hc31 H => ?_
  exact Kg (r20, (i_6 + 1)) [2, 3] ⟨H, aM1, aM1, aM1, aM1⟩
 intro h18
 have g32 := df h18
 obtain rfl : r5 = 0 := by omega
 have H := hM7; (try dsimp only at H); rw [w16_sameHops_L0] at H
 refine Ke ?_
 have H := llB H HL15
 refine KS ?_
 refine Oq Va (KS ?_)
 have hq := rI H; subst hq
 exact Kr () rfl (.tmp rfl .nil) [] trivial
theorem fn20O  (rr : Bool) (hrr : w16_saneO = .ret rr) : FT Tryz.prog 20 #[] [] (fun g : Unit => True) (fun g => vb rr) (fun g => []) := by
 refine FTi Tryz.func20 fun w0 M0 F0 => ?_
 have hx0 := lrn rr; have H := hrr; unfold w16_saneO at H
 refine KS ?_
 refine Oq Va (KS ?_)
 refine lbH H hx0 fun rv2 hg3 H => ?_
 have hc4 := fn50 ((Str.mk [102, 117, 110, 99, 32, 109, 59, 32, 98, 108, 111, 99, 107, 32, 98, 59, 32, 120, 32, 61, 32, 121, 59, 32, 117, 115, 101, 32, 120, 59, 32, 114, 101, 116, 117, 114, 110, 59, 32, 101, 110, 100])) pre rv2 hg3
 refine Oc [] ca50 hc4 ?_
 rintro c1 ⟨he5, he6, he7⟩
 unfold i64ok at he5 he6 he7
 refine Jo 0 ?_; rintro a8 k9 rfl
 refine Fb 40 0 fun _ => ?_
 refine Oq Vm (Oq Vx (Oq Vx (Oq Vx (Oq Vx (Oa (Al ze84 [.slice none 0 0]) fun p11 => Ost (Scl [0] sh84 [vl a8 k9 rv2.1.Funcs]) (Oq Va (Oq Va (Oq Va ?_))))))))
 refine KS ?_
 refine Oq (VldA sh84 0) ?_
 refine lbH H hx0 fun rv15 hg16 H => ?_
 have hc17 := fn51 rv2.1 a8 k9 1 pre rv15 hg16
 refine Oc [1] ca51 hc17 ?_
 rintro ⟨c12, c13, c14⟩ ⟨he18, he19⟩
 unfold i64ok at he18 he19
 refine Jo 0 ?_; rintro a20 k21 rfl
 refine Fb 24 0 fun _ => ?_
 refine Jo 1 ?_; rintro a23 k24 rfl
 refine Fb 88 1 fun _ => ?_
 refine Jo 2 ?_; rintro a26 k27 rfl
 refine Fb 32 2 fun _ => ?_
 refine Oq Vm (Oq Vx (Oq Vx (Oa (Al ze27 [vi 0, .slice none 0 0, .slice none 0 0, .slice none 0 0]) fun p29 => Ost (Scl [0] sh27 [vi rv15.1.Width, vl a20 k21 rv15.1.Deps, vl a23 k24 rv15.1.Transfers, vl a26 k27 rv15.1.Boundary]) (Oq Va (KS ?_)))))
 refine Oq (VldA sh27 0) ?_
 refine lbH H hx0 fun rv31 hg32 H => ?_
 have hc33 := fn25 rv15.1 a20 k21 a23 k24 a26 k27 3 0 pre pre pre rv31 hg32
 refine Oc [1, 2, 3] ca25 hc33 ?_
 rintro c30 he34
 unfold i64ok at he34
 refine Jo 0 ?_; rintro a35 k36 rfl
 refine Fb 16 0 fun _ => ?_
 refine Oq Vm (Oq Vx (Oq Vx (Oq Vx (Oq Va (Oq Va (Oq Va (KS ?_)))))))
 refine Oq (Vbd st37 [vi 2, vi 0]) (Oq (Vbd st37 [vi 3, vi 0]) (Oa (AsV sl28 sz28 [.agg #[vi 2, vi 0], .agg #[vi 3, vi 0]] [vi 2, vi 0, vi 3, vi 0]) fun c38 => ?_))
 refine Jo 0 ?_; rintro a39 k40 rfl
 refine Oq Va (KS ?_)
 refine Oq Vm (Oq Veql (Oq Vm ?_))
 refine pT H hx0 fun h41 H => ?_
 refine JsT 33 h41 ?_
 have g42 := eq_of_beq h41
 refine Oq Vm (Oq Vpt (Oq Vm ?_))
 refine pT H hx0 fun h43 H => ?_
 refine JsT 36 h43 ?_
 refine Oq Vm (Oq Vm ?_)
 refine Jl [0] (Ent.crOs (α := GHop) (A := []) _ ([(GHop.mk 2 0), (GHop.mk 3 0)] : List GHop) _ aB1 (fun h => ⟨[vi 2, vi 0], [vi 3, vi 0], rfl, (fun h => ⟨rfl, aL1, aL1⟩) h, ⟨[vi 3, vi 0], [], rfl, (fun h => ⟨rfl, aL1, aL1⟩) h, rfl⟩⟩)) ?_
 refine Jl [0] (Ent.freeze _ _) ?_
 refine lbH H hx0 fun rv45 hg46 H => ?_
 have hc47 := fn52 rv31.1 a35 k36 ([(GHop.mk 2 0), (GHop.mk 3 0)]) a39 k40 rv45 hg46
 refine Oc [1, 0] ca52 hc47 ?_
 rintro - -
 refine Oq Vpt (Oq Vm ?_)
 refine pT H hx0 fun h48 H => ?_
 refine JsT 41 h48 ?_
 refine Oq (VldA sh27 2) (Oq Vm ?_)
 refine lvH H fun rv50 hg51 H => ?_
 have hc52 := fn14 rv15.1 a20 k21 a23 k24 a26 k27 3 0 ([(GHop.mk 2 0), (GHop.mk 3 0)]) a39 k40 pre pre pre rv50 hg51
 refine Oc [3, 4, 5, 0] ca14 hc52 ?_
 rintro - -
 refine Oq Vpt (Oq Va (KS ?_))
 have hq := rI H; subst hq
 exact Kr () rfl (.tmp rfl .nil) [] trivial
theorem w16_sane_c : w16_saneO = .ret true := by kernel_rfl
theorem fn20  (rr : Bool) (hrr : w16_sane = rr) : FT Tryz.prog 20 #[] [] (fun g : Unit => True) (fun g => vb rr) (fun g => []) := by
 subst hrr; exact fn20O  true w16_sane_c
theorem fn7 (l : List Int) (la0 : Option Addr) (lk0 : Nat) (rr : Unit) (hrr : g_New l = rr) : FT Tryz.prog 7 #[vl la0 lk0 l] [S la0 lk0 l] (fun g : Value => True) (fun g => g) (fun g => [Cl g [vl la0 lk0 l, vi 0]]) := by
 refine FTi Tryz.func7 fun w0 M0 F0 => Fb 8 0 fun _ => Fo 0 fun ho2 => ?_
 refine KS ?_
 refine Oq Va (KS ?_)
 refine Oq Vm (Oq (Vbd st60 [vl la0 lk0 l, vi 0]) (Oa (AbO [vl la0 lk0 l, vi 0]) fun p3 => Oq Va (KS ?_)))
 have hq := q4 hrr () (by simp only [g_New, cs4]); subst hq
 exact Kr p3 rfl (.tmp rfl .nil) [0] trivial
theorem fn27 (tP : Value) (ta : Option Addr) (tk : Nat) (tT : List Int) (tI : Int) (htI : 0 ≤ tI ∧ tI ≤ (tT.length : Int)) (rr : Int × Int) (hrr : tp_Width tT tI = rr) : FT Tryz.prog 27 #[tP] [Cl tP [vl ta tk tT, vi tI], S ta tk tT] (fun g : Unit => i64ok rr.1 ∧ (0 ≤ rr.2 ∧ rr.2 ≤ (tT.length : Int)) ∧ (0 ≤ rr.1 ∧ rr.1 ≤ 8)) (fun g => vi rr.1) (fun g => [Cl tP [vl ta tk tT, vi rr.2]]) := by
 refine FTi Tryz.func27 fun w0 M0 F0 => Fb 8 1 fun _ => Fo 1 fun ho2 => ?_
 refine KS ?_
 refine Oq Va (KS ?_)
 refine Oa (AsV sl22 sz22 [vi 3, vi 1, vi 4, vi 2, vi 6, vi 0, vi 8] [vi 3, vi 1, vi 4, vi 2, vi 6, vi 0, vi 8]) fun c3 => ?_
 refine Jo 0 ?_; rintro a4 k5 rfl
 refine Oq Vm ?_
 refine letv (tp_Next tT tI 7) fun rv6 hg7 => ?_
 have hc8 := fn9 tP ta tk tT tI 7 pre pre rv6 hg7
 refine Oc [1, 1] ca9 hc8 ?_
 rintro - ⟨he9, he10, he11⟩
 unfold i64ok at he9
 refine Jl [1] (Ent.crInt _ [3, 1, 4, 2, 6, 0, 8] _ _ rfl rfl (by intro x hx; simp only [List.mem_cons, List.not_mem_nil, or_false] at hx; rcases hx with rfl | rfl | rfl | rfl | rfl | rfl | rfl <;> (unfold i64ok; omega)) aB1) ?_
 refine Oq (Vi sl22 0) (Oq (VldI sh3 0) (Oq Va (KS ?_)))
 have hq := q4 hrr (([3, 1, 4, 2, 6, 0, 8].getD rv6.1.toNat 0), rv6.2) (by simp only [tp_Width, hg7, cs4]); subst hq
 exact Kr () rfl (.tmp rfl .nil) [1] ⟨(by rw [← hrr]; exact width_ok _ _), en, (by rw [← hrr]; exact width_rng _ _)⟩
theorem fn30 (tP : Value) (ta : Option Addr) (tk : Nat) (tT : List Int) (tI : Int) (width : Int) (htI : 0 ≤ tI ∧ tI ≤ (tT.length : Int)) (hwidth_0 : i64ok width) (hw0 : 0 ≤ width ∧ width ≤ 1000) (rr : GTransfer × Int) (hrr : tp_Transfer tT tI width = rr) : FT Tryz.prog 30 #[tP, vi width] [Cl tP [vl ta tk tT, vi tI], S ta tk tT] (fun g : Value × Value × Value => i64ok rr.1.Gen.Width ∧ i64ok rr.1.Kill.Width ∧ (0 ≤ rr.2 ∧ rr.2 ≤ (tT.length : Int)) ∧ (rr.1.Gen.Width = width) ∧ (rr.1.Kill.Width = width) ∧ (rr.1.Copies.length ≤ 12)) (fun g => .agg #[vi rr.1.Gen.Width, g.1, vi rr.1.Kill.Width, g.2.1, g.2.2]) (fun g => [sl g.1 rr.1.Gen.Words, sl g.2.1 rr.1.Kill.Words, sl g.2.2 rr.1.Copies, Cl tP [vl ta tk tT, vi rr.2]]) := by
 refine FTi Tryz.func30 fun w0 M0 F0 => ?_
 unfold i64ok at hwidth_0
 refine Fb 8 1 fun _ => Fo 1 fun ho2 => KS ?_
 refine Oa (Al ze65 [vi 0, .slice none 0 0, vi 0, .slice none 0 0, .slice none 0 0]) fun p3 => KS ?_
 refine Oq Vm ?_
 refine letv (r1_Empty width) fun rv5 hg6 => ?_
 have hc7 := fn29 width pre pre rv5 hg6
 refine Oc [] ca29 hc7 ?_
 rintro c4 ⟨he8, he9, he10⟩
 unfold i64ok at he8
 refine Jo 0 ?_; rintro a11 k12 rfl
 refine Fb 8 0 fun _ => Oq Vm ?_
 have hc15 := fn29 width pre pre rv5 hg6
 refine Oc [] ca29 hc15 ?_
 rintro c14 ⟨he16, he17, he18⟩
 unfold i64ok at he16
 refine Jo 0 ?_; rintro a19 k20 rfl
 refine Oq (Vbd st65 [vi rv5.Width, vl a11 k12 rv5.Words, vi rv5.Width, vl a19 k20 rv5.Words, .slice none 0 0]) (Oa (Al ze65 [vi 0, .slice none 0 0, vi 0, .slice none 0 0, .slice none 0 0]) fun p21 => Ost (Scl [0] sh65 [vi rv5.Width, vl a11 k12 rv5.Words, vi rv5.Width, vl a19 k20 rv5.Words, .slice none 0 0]) (KS ?_))
 refine Oq Va (KS ?_)
 refine Kl (γ := Nat × Int × Int × List (BitVec 64) × Int × List (BitVec 64) × Int × Option Addr × Nat × Option Addr × Nat) (fun (r22, ti_23, f0_24, f1_25, f2_26, f3_27, b_28, a29, k30, a31, k32) => ⟨[(0, tP), (1, vi width), (4, p3), (5, p21), (6, vi b_28)], [O a31 k32 f3_27, O a29 k30 f1_25, Cl p21 [vi f0_24, vl a29 k30 f1_25, vi f2_26, vl a31 k32 f3_27, .slice none 0 0], Cl p3 [vi 0, .slice none 0 0, vi 0, .slice none 0 0, .slice none 0 0], Cl tP [vl ta tk tT, vi ti_23], S ta tk tT], tp_Transfer_L0 tT r22 ti_23 f0_24 f1_25 f2_26 f3_27 b_28 = tp_Transfer_L0 tT (((width : Int) - 0).toNat) tI rv5.Width rv5.Words rv5.Width rv5.Words 0 ∧ r22 = ((width : Int) - b_28).toNat ∧ (0 : Int) ≤ b_28 ∧ (b_28 ≤ width ∨ b_28 = 0) ∧ (-9223372036854775808 ≤ ti_23 ∧ ti_23 ≤ 9223372036854775807) ∧ (0 ≤ ti_23 ∧ ti_23 ≤ (tT.length : Int)) ∧ (-9223372036854775808 ≤ f0_24 ∧ f0_24 ≤ 9223372036854775807) ∧ (-9223372036854775808 ≤ f2_26 ∧ f2_26 ≤ 9223372036854775807) ∧ (-9223372036854775808 ≤ b_28 ∧ b_28 ≤ 9223372036854775807) ∧ f0_24 = width ∧ f1_25.length = (((width : Int) + 63) / 64).toNat ∧ f2_26 = width ∧ f3_27.length = (((width : Int) + 63) / 64).toNat, r22⟩) (((width : Int) - 0).toNat, tI, rv5.Width, rv5.Words, rv5.Width, rv5.Words, 0, a11, k12, a19, k20) [1, 1, 0, 0, 0, 0] ⟨rfl, rfl, aM1, (.inr rfl), aM1, aM1, aM1, aM1, aM1, iv0, iv0, iv0, iv0⟩ ?_
 rintro ⟨r22, ti_23, f0_24, f1_25, f2_26, f3_27, b_28, a29, k30, a31, k32⟩ ⟨hM33, hr34, hi35, hi36, hk37, ht38, hk39, hk40, hk41, hv42, hv43, hv44, hv45⟩
 refine JJ_nx fun _ _ hL hA => ?_; dsimp only at hL hA; subst hL hA
 refine Fb 8 0 fun _ => Fb 8 1 fun _ => Fb 8 5 fun _ => Fo 5 fun ho49 => KS ?_
 refine Oq Vm (Oq Vm (Oq Vlss (KS ?_)))
 refine Kc ?_ ?_
 ·intro h50
  have g51 := dt h50
  obtain ⟨r52, rfl⟩ := scc (n := r22) aM1
  refine KS ?_
  refine Oq Vm ?_
  refine letv (tp_Next tT ti_23 6) fun rv53 hg54 => ?_
  have hc55 := fn9 tP ta tk tT ti_23 6 pre pre rv53 hg54
  refine Oc [4, 4] ca9 hc55 ?_
  rintro - ⟨he56, he57, he58⟩
  unfold i64ok at he56
  refine KS ?_
  refine Oq Veql (Oq Va (KS ?_))
  refine Kc ?_ ?_
  ·intro h59
   have g60 := eq_of_beq h59
   refine KS ?_
   refine Oq (Vfa fo65_0 3) (Oq (VldG sh42 3 [vi f0_24, vl a29 k30 f1_25]) (Oq Vm ?_))
   refine letv (r1_Put (GSet.mk f0_24 f1_25) b_28) fun rv62 hg63 => ?_
   refine Oc [2] ca41 (FT_borrow (A := _) hlx (FT_ent (Ent.take (is := [0]) rfl) (fn41 ((GSet.mk f0_24 f1_25)) a29 k30 b_28 pre pre pre pre rv62 hg63))) ?_ (ht := rfl)
   rintro c61 ⟨he64, he65, he66⟩
   unfold i64ok at he64
   have he65 : (rv62.Width = f0_24) := he65
   have he66 : (rv62.Words.length = ((f0_24 + 63) / 64).toNat) := he66
   refine Jo 1 ?_; rintro a67 k68 rfl
   refine Fb 8 1 fun _ => ?_
   refine Oq (Vfa fo65_0 4) (Ost (SclF [4] sh42 [vi rv62.Width, vl a67 k68 rv62.Words, vi f2_26, vl a31 k32 f3_27, .slice none 0 0]) (KS ?_))
   refine Oq Vm (Oq Vadd (Oq Va (KS ?_)))
   exact Kg (r52, rv53.2, rv62.Width, rv62.Words, f2_26, f3_27, (b_28 + 1), a67, k68, a31, k32) [4, 2, 0, 2, 1, 1] ⟨(q3 hM33 (by simp only [tp_Transfer_L0, h50, h59, hg54, hg63, cs4])), aM1, aM1, aM1, aM1, aM1, aM1, aM1, aM1, iv1, iv1, iv1, iv1⟩
  intro h59
  have g70 := ne_of_beq_false h59
  refine KS ?_
  refine Oq Veql (Oq Va (KS ?_))
  refine Kc ?_ ?_
  ·intro h71
   have g72 := eq_of_beq h71
   refine KS ?_
   refine Kc ?_ ?_
   ·intro h73
    have g74 := eq_of_beq h73
    refine KS ?_
    refine Oq (Vfa fo65_1 3) (Oq (VldG sh42 3 [vi f2_26, vl a31 k32 f3_27]) (Oq Vm ?_))
    refine letv (r1_Put (GSet.mk f2_26 f3_27) b_28) fun rv76 hg77 => ?_
    refine Oc [1] ca41 (FT_borrow (A := _) hlx (FT_ent (Ent.take (is := [0]) rfl) (fn41 ((GSet.mk f2_26 f3_27)) a31 k32 b_28 pre pre pre pre rv76 hg77))) ?_ (ht := rfl)
    rintro c75 ⟨he78, he79, he80⟩
    unfold i64ok at he78
    have he79 : (rv76.Width = f2_26) := he79
    have he80 : (rv76.Words.length = ((f2_26 + 63) / 64).toNat) := he80
    refine Jo 1 ?_; rintro a81 k82 rfl
    refine Fb 8 1 fun _ => ?_
    refine Oq (Vfa fo65_1 4) (Ost (SclF [4] sh42 [vi f0_24, vl a29 k30 f1_25, vi rv76.Width, vl a81 k82 rv76.Words, .slice none 0 0]) (KS ?_))
    refine Oq Vm (Oq Vadd (Oq Va (KS ?_)))
    exact Kg (r52, rv53.2, f0_24, f1_25, rv76.Width, rv76.Words, (b_28 + 1), a29, k30, a81, k82) [2, 3, 0, 2, 1, 1] ⟨(q3 hM33 (by simp only [tp_Transfer_L0, h50, h59, h71, h73, hg54, hg77, cs4])), aM1, aM1, aM1, aM1, aM1, aM1, aM1, aM1, iv1, iv1, iv1, iv1⟩
   intro h73
   exact absurd h73 (by first | (simp [h71]; done) | (simp only [bne, h71]; decide) | (simp only [bne, h71, Bool.not_true, Bool.not_false]; decide) | (exfalso; omega) | (intro hq; simp only [bne, hq, Bool.not_false, Bool.not_true, reduceCtorEq] at h71))
  intro h71
  have g84 := ne_of_beq_false h71
  refine KS ?_
  refine Oq Veql (Oq Va (KS ?_))
  refine Kc ?_ ?_
  ·intro h85
   have g86 := eq_of_beq h85
   refine KS ?_
   refine Oq (Vfa fo65_1 3) (Oq (VldG sh42 3 [vi f2_26, vl a31 k32 f3_27]) (Oq Vm ?_))
   refine letv (r1_Put (GSet.mk f2_26 f3_27) b_28) fun rv88 hg89 => ?_
   refine Oc [1] ca41 (FT_borrow (A := _) hlx (FT_ent (Ent.take (is := [0]) rfl) (fn41 ((GSet.mk f2_26 f3_27)) a31 k32 b_28 pre pre pre pre rv88 hg89))) ?_ (ht := rfl)
   rintro c87 ⟨he90, he91, he92⟩
   unfold i64ok at he90
   have he91 : (rv88.Width = f2_26) := he91
   have he92 : (rv88.Words.length = ((f2_26 + 63) / 64).toNat) := he92
   refine Jo 1 ?_; rintro a93 k94 rfl
   refine Fb 8 1 fun _ => ?_
   refine Oq (Vfa fo65_1 4) (Ost (SclF [4] sh42 [vi f0_24, vl a29 k30 f1_25, vi rv88.Width, vl a93 k94 rv88.Words, .slice none 0 0]) (KS ?_))
   refine Oq Vm (Oq Vadd (Oq Va (KS ?_)))
   exact Kg (r52, rv53.2, f0_24, f1_25, rv88.Width, rv88.Words, (b_28 + 1), a29, k30, a93, k94) [2, 3, 0, 2, 1, 1] ⟨(q3 hM33 (by simp only [tp_Transfer_L0, h50, h59, h71, h85, hg54, hg89, cs4])), aM1, aM1, aM1, aM1, aM1, aM1, aM1, aM1, iv1, iv1, iv1, iv1⟩
  intro h85
  have g96 := ne_of_beq_false h85
  refine KS ?_
  refine Oq Vm (Oq Vadd (Oq Va (KS ?_)))
  exact Kg (r52, rv53.2, f0_24, f1_25, f2_26, f3_27, (b_28 + 1), a29, k30, a31, k32) [1, 1, 1, 1, 0, 0] ⟨(q3 hM33 (by simp only [tp_Transfer_L0, h50, h59, h71, h85, hg54, cs4])), aM1, aM1, aM1, aM1, aM1, aM1, aM1, aM1, iv1, iv1, iv1, iv1⟩
 intro h50
 have g97 := df h50
 obtain rfl : r22 = 0 := by omega
 refine Ke ?_
 have hR98 := q2 hM33 (ti_23, f0_24, f1_25, f2_26, f3_27) (by simp only [tp_Transfer_L0, h50, cs4])
 refine KS ?_
 refine Oq Va (KS ?_)
 refine Jl [] (Ent.osNil (α := GCopy)) ?_
 refine Kl (γ := Nat × Int × List GCopy × Int × Option Addr × Nat) (fun (r99, ti_100, f4_101, a_102, a103, k104) => ⟨[(0, tP), (1, vi width), (4, p3), (5, p21), (7, vi a_102)], [O a103 k104 f4_101, O a31 k32 f3_27, O a29 k30 f1_25, Cl p21 [vi f0_24, vl a29 k30 f1_25, vi f2_26, vl a31 k32 f3_27, vl a103 k104 f4_101], Cl p3 [vi 0, .slice none 0 0, vi 0, .slice none 0 0, .slice none 0 0], Cl tP [vl ta tk tT, vi ti_100], S ta tk tT], tp_Transfer_L1 tT width r99 ti_100 f4_101 a_102 = tp_Transfer_L1 tT width (((width : Int) - 0).toNat) ti_23 [] 0 ∧ r99 = ((width : Int) - a_102).toNat ∧ (0 : Int) ≤ a_102 ∧ (a_102 ≤ width ∨ a_102 = 0) ∧ (-9223372036854775808 ≤ ti_100 ∧ ti_100 ≤ 9223372036854775807) ∧ (0 ≤ ti_100 ∧ ti_100 ≤ (tT.length : Int)) ∧ (-9223372036854775808 ≤ a_102 ∧ a_102 ≤ 9223372036854775807) ∧ f4_101.length ≤ 12, r99⟩) (((width : Int) - 0).toNat, ti_23, [], 0, none, 0) [0, 0, 0, 0, 0, 0, 0] ⟨rfl, rfl, aM1, (.inr rfl), aM1, aM1, aM1, iv0⟩ ?_
 rintro ⟨r99, ti_100, f4_101, a_102, a103, k104⟩ ⟨hM105, hr106, hi107, hi108, hk109, ht110, hk111, hv112⟩
 refine JJ_nx fun _ _ hL hA => ?_; dsimp only at hL hA; subst hL hA
 refine Fb 16 0 fun _ => Fb 8 1 fun _ => Fb 8 2 fun _ => Fb 8 6 fun _ => Fo 6 fun ho117 => KS ?_
 refine Oq Vm (Oq Vm (Oq Vlss (KS ?_)))
 refine Kc ?_ ?_
 ·intro h118
  have g119 := dt h118
  obtain ⟨r120, rfl⟩ := scc (n := r99) aM1
  refine KS ?_
  refine Oq Va (KS ?_)
  refine Kl (γ := Nat × Int × List GCopy × Int × Option Addr × Nat) (fun (r121, ti_122, f4_123, b_124, a125, k126) => ⟨[(0, tP), (1, vi width), (4, p3), (5, p21), (7, vi a_102), (8, vi b_124)], [O a125 k126 f4_123, O a31 k32 f3_27, O a29 k30 f1_25, Cl p21 [vi f0_24, vl a29 k30 f1_25, vi f2_26, vl a31 k32 f3_27, vl a125 k126 f4_123], Cl p3 [vi 0, .slice none 0 0, vi 0, .slice none 0 0, .slice none 0 0], Cl tP [vl ta tk tT, vi ti_122], S ta tk tT], tp_Transfer_L2 tT width a_102 r121 ti_122 f4_123 b_124 = tp_Transfer_L2 tT width a_102 (((width : Int) - 0).toNat) ti_100 f4_101 0 ∧ r121 = ((width : Int) - b_124).toNat ∧ (0 : Int) ≤ b_124 ∧ (b_124 ≤ width ∨ b_124 = 0) ∧ (-9223372036854775808 ≤ ti_122 ∧ ti_122 ≤ 9223372036854775807) ∧ (0 ≤ ti_122 ∧ ti_122 ≤ (tT.length : Int)) ∧ (-9223372036854775808 ≤ b_124 ∧ b_124 ≤ 9223372036854775807) ∧ f4_123.length ≤ 12, r121⟩) (((width : Int) - 0).toNat, ti_100, f4_101, 0, a103, k104) [0, 0, 0, 0, 0, 0, 0] ⟨rfl, rfl, aM1, (.inr rfl), aM1, aM1, aM1, iv0⟩ ?_
  rintro ⟨r121, ti_122, f4_123, b_124, a125, k126⟩ ⟨hM127, hr128, hi129, hi130, hk131, ht132, hk133, hv134⟩
  refine JJ_nx fun _ _ hL hA => ?_; dsimp only at hL hA; subst hL hA
  refine Fb 16 0 fun _ => Fb 8 1 fun _ => Fb 8 2 fun _ => Fb 8 6 fun _ => Fo 6 fun ho139 => KS ?_
  refine Oq Vm (Oq Vm (Oq Vlss (Oq Vm ?_)))
  refine Js 44 ?_ ?_
  ·intro h140
   have g141 := dt h140
   obtain ⟨r142, rfl⟩ := scc (n := r121) aM1
   refine Oq (Vfa fo65_2 3) (Oq (VldF sh63 3) (Oq (Vlen sl63) (Oq Vlss (Oq Vpt (KS ?_)))))
   refine Kc ?_ ?_
   ·intro h143
    have g144 := dt h143
    refine KS ?_
    refine Oq Vm (Oq Vm (Oq Vmul ?_))
    refine letv (tp_Next tT ti_122 (2 * width)) fun rv145 hg146 => ?_
    have hc147 := fn9 tP ta tk tT ti_122 ((2 * width)) pre pre rv145 hg146
    refine Oc [5, 5] ca9 hc147 ?_
    rintro - ⟨he148, he149, he150⟩
    unfold i64ok at he148
    refine Oq Veql (KS ?_)
    refine Kc ?_ ?_
    ·intro h151
     have g152 := eq_of_beq h151
     refine KS ?_
     refine Oq (Vfa fo65_2 4) (Oq (VldF sh63 4) (Oq Vm (Oq Vm (Oq (Vbd st105 [vi a_102, vi b_124]) (Oa (AsV sl63 sz63 [.agg #[vi a_102, vi b_124]] [vi a_102, vi b_124]) fun c153 => ?_)))))
     refine Jo 0 ?_; rintro a154 k155 rfl
     refine Jl [0] (Ent.cr1 (α := GCopy) (A := []) _ (GCopy.mk a_102 b_124) _ aB1 (fun h => ⟨rfl, aL1, aL1⟩)) ?_
     refine Oa (ApO [2, 0] sl63 sl63 sz63) fun c156 => ?_
     refine Jo 0 ?_; rintro a157 k158 rfl
     refine Fb 16 0 fun _ => ?_
     have hn160 := la f4_123 ([(GCopy.mk a_102 b_124)] : List GCopy)
     refine Oq (Vfa fo65_2 4) (Ost (SclF [4] sh63 [vi f0_24, vl a29 k30 f1_25, vi f2_26, vl a31 k32 f3_27, vl a157 k158 (f4_123 ++ [(GCopy.mk a_102 b_124)])]) (KS ?_))
     refine Oq Vm (Oq Vadd (Oq Va (KS ?_)))
     exact Kg (r142, rv145.2, (f4_123 ++ [(GCopy.mk a_102 b_124)]), (b_124 + 1), a157, k158) [1, 2, 2, 0, 1, 0, 0] ⟨(q3 hM127 (by simp only [tp_Transfer_L2, h140, h143, h151, hg146, cs4])), aM1, aM1, aM1, aM1, aM1, aM1, iv1⟩
    intro h151
    have g161 := ne_of_beq_false h151
    refine KS ?_
    refine Oq Vm (Oq Vadd (Oq Va (KS ?_)))
    exact Kg (r142, rv145.2, f4_123, (b_124 + 1), a125, k126) [1, 1, 1, 1, 1, 0, 0] ⟨(q3 hM127 (by simp only [tp_Transfer_L2, h140, h143, h151, hg146, cs4])), aM1, aM1, aM1, aM1, aM1, aM1, iv1⟩
   intro h143
   have g162 := df h143
   refine Ke ?_
   have hR163 := q2 hM127 (ti_122, f4_123) (by simp only [tp_Transfer_L2, h140, h143, cs4])
   refine KS ?_
   refine Oq Vm (Oq Vadd (Oq Va (KS ?_)))
   exact Kg (r120, ti_122, f4_123, (a_102 + 1), a125, k126) [0, 0, 0, 0, 0, 0, 0] ⟨(q3 hM105 (by simp only [tp_Transfer_L1, h118, h140, h143, hR163, cs4])), aM1, aM1, aM1, aM1, aM1, aM1, iv1⟩
  intro h140
  have g164 := df h140
  obtain rfl : r121 = 0 := by omega
  refine Osk (Osk (Osk (Osk (Oq Vpf (KS ?_)))))
  refine Kf ?_
  refine Ke ?_
  have hR165 := q2 hM127 (ti_122, f4_123) (by simp only [tp_Transfer_L2, h140, cs4])
  refine KS ?_
  refine Oq Vm (Oq Vadd (Oq Va (KS ?_)))
  exact Kg (r120, ti_122, f4_123, (a_102 + 1), a125, k126) [0, 0, 0, 0, 0, 0, 0] ⟨(q3 hM105 (by simp only [tp_Transfer_L1, h118, h140, hR165, cs4])), aM1, aM1, aM1, aM1, aM1, aM1, iv1⟩
 intro h118
 have g166 := df h118
 obtain rfl : r99 = 0 := by omega
 refine Ke ?_
 have hR167 := q2 hM105 (ti_100, f4_101) (by simp only [tp_Transfer_L1, h118, cs4])
 refine KS ?_
 refine Oq (VldA sh65 3) (Ost (Scl [4] sh65 [vi f0_24, vl a29 k30 f1_25, vi f2_26, vl a31 k32 f3_27, vl a103 k104 f4_101]) (KS ?_))
 refine Jl [3] (Ent.freeze _ _) ?_
 refine Jl [3] (Ent.freeze _ _) ?_
 refine Jl [3] (Ent.freeze _ _) ?_
 have hq := q4 hrr ((GTransfer.mk (GSet.mk f0_24 f1_25) (GSet.mk f2_26 f3_27) f4_101), ti_100) (by simp only [tp_Transfer, h50, h118, hg6, hR98, hR167, cs4]); subst hq
 exact Kr (vl a29 k30 f1_25, vl a31 k32 f3_27, vl a103 k104 f4_101) rfl (.cellN 3 rfl sh65 rfl (reads_Cl _ _) rfl .nil) [2, 1, 0, 5] en
theorem fn8 (tP : Value) (ta : Option Addr) (tk : Nat) (tT : List Int) (tI : Int) (n : Int) (htI : 0 ≤ tI ∧ tI ≤ (tT.length : Int)) (hn_0 : i64ok n) (hn0 : 0 ≤ n ∧ n ≤ 1000) (rr : GSystem × Int) (hrr : tp_System tT tI n = rr) : FT Tryz.prog 8 #[tP, vi n] [Cl tP [vl ta tk tT, vi tI], S ta tk tT] (fun g : Value × Value × Value => i64ok rr.1.Width ∧ (0 ≤ rr.2 ∧ rr.2 ≤ (tT.length : Int)) ∧ (rr.1.Deps.length ≤ 1001)) (fun g => .agg #[vi rr.1.Width, g.1, g.2.1, g.2.2]) (fun g => [sl g.1 rr.1.Deps, sl g.2.1 rr.1.Transfers, sl g.2.2 rr.1.Boundary, Cl tP [vl ta tk tT, vi rr.2]]) := by
 refine FTi Tryz.func8 fun w0 M0 F0 => ?_
 unfold i64ok at hn_0
 refine Fb 8 1 fun _ => Fo 1 fun ho2 => KS ?_
 refine Oa (Al ze27 [vi 0, .slice none 0 0, .slice none 0 0, .slice none 0 0]) fun p3 => KS ?_
 refine Oq Vm ?_
 refine letv (tp_Width tT tI) fun rv4 hg5 => ?_
 have hc6 := fn27 tP ta tk tT tI pre rv4 hg5
 refine Oc [1, 1] ca27 hc6 ?_
 rintro - ⟨he7, he8, he9⟩
 unfold i64ok at he7
 refine Oq Vrem (Oq (Vbd st27 [vi (rv4.1 % 5), .slice none 0 0, .slice none 0 0, .slice none 0 0]) (Oa (Al ze27 [vi 0, .slice none 0 0, .slice none 0 0, .slice none 0 0]) fun p10 => Ost (Scl [0] sh27 [vi (rv4.1 % 5), .slice none 0 0, .slice none 0 0, .slice none 0 0]) (KS ?_)))
 refine Oq Vm (Oq Vm ?_)
 refine letv (tp_Next tT rv4.2 n) fun rv11 hg12 => ?_
 have hc13 := fn9 tP ta tk tT rv4.2 n pre pre rv11 hg12
 refine Oc [1, 2] ca9 hc13 ?_
 rintro - ⟨he14, he15, he16⟩
 unfold i64ok at he14
 refine Oq Vadd (Oq Va (KS ?_))
 refine Oq Va (KS ?_)
 refine Jl [] (Ent.osNil (α := (List Int))) ?_
 refine Jl [] (Ent.osNil (α := GTransfer)) ?_
 refine Jl [] (Ent.osNil (α := GSet)) ?_
 refine Kl (γ := Nat × Int × List (List Int) × List GTransfer × List GSet × Int × Option Addr × Nat × Option Addr × Nat × Option Addr × Nat) (fun (r17, ti_18, s1_19, s2_20, s3_21, i_22, a23, k24, a25, k26, a27, k28) => ⟨[(0, tP), (4, p3), (5, p10), (1, vi (1 + rv11.1)), (6, vi i_22)], [O a27 k28 s3_21, O a25 k26 s2_20, O a23 k24 s1_19, Cl tP [vl ta tk tT, vi ti_18], Cl p10 [vi (rv4.1 % 5), vl a23 k24 s1_19, vl a25 k26 s2_20, vl a27 k28 s3_21], Cl p3 [vi 0, .slice none 0 0, .slice none 0 0, .slice none 0 0], S ta tk tT], tp_System_L0 tT (1 + rv11.1) (rv4.1 % 5) r17 ti_18 s1_19 s2_20 s3_21 i_22 = tp_System_L0 tT (1 + rv11.1) (rv4.1 % 5) ((((1 + rv11.1) : Int) - 0).toNat) rv11.2 [] [] [] 0 ∧ r17 = (((1 + rv11.1) : Int) - i_22).toNat ∧ (0 : Int) ≤ i_22 ∧ i_22 ≤ (1 + rv11.1) ∧ (-9223372036854775808 ≤ ti_18 ∧ ti_18 ≤ 9223372036854775807) ∧ (0 ≤ ti_18 ∧ ti_18 ≤ (tT.length : Int)) ∧ (-9223372036854775808 ≤ i_22 ∧ i_22 ≤ 9223372036854775807) ∧ (s1_19.length : Int) = i_22 ∧ (s2_20.length : Int) = i_22 ∧ (s3_21.length : Int) = i_22, r17⟩) ((((1 + rv11.1) : Int) - 0).toNat, rv11.2, [], [], [], 0, none, 0, none, 0, none, 0) [0, 0, 0, 0, 0, 0, 0] ⟨rfl, rfl, aM1, aM1, aM1, aM1, aM1, iv0, iv0, iv0⟩ ?_
 rintro ⟨r17, ti_18, s1_19, s2_20, s3_21, i_22, a23, k24, a25, k26, a27, k28⟩ ⟨hM29, hr30, hi31, hi32, hk33, ht34, hk35, hv36, hv37, hv38⟩
 refine JJ_nx fun _ _ hL hA => ?_; dsimp only at hL hA; subst hL hA
 refine Fb 32 0 fun _ => Fb 88 1 fun _ => Fb 24 2 fun _ => Fb 8 6 fun _ => Fo 6 fun ho43 => KS ?_
 refine Oq Vm (Oq Vm (Oq Vlss (KS ?_)))
 refine Kc ?_ ?_
 ·intro h44
  have g45 := dt h44
  obtain ⟨r46, rfl⟩ := scc (n := r17) aM1
  refine KS ?_
  refine Oq Va (KS ?_)
  refine Oq Vm ?_
  refine letv (tp_Next tT ti_18 4) fun rv47 hg48 => ?_
  have hc49 := fn9 tP ta tk tT ti_18 4 pre pre rv47 hg48
  refine Oc [3, 5] ca9 hc49 ?_
  rintro - ⟨he50, he51, he52⟩
  unfold i64ok at he50
  refine Oq Va (KS ?_)
  refine Jl [] (Ent.slNil (α := Int)) ?_
  refine Kl (γ := Nat × Int × List Int × Int × Option Addr × Nat) (fun (r53, ti_54, d_55, k_56, a57, k58) => ⟨[(0, tP), (4, p3), (5, p10), (1, vi (1 + rv11.1)), (6, vi i_22), (7, vl a57 k58 d_55), (8, vi k_56)], [S a57 k58 d_55, Cl tP [vl ta tk tT, vi ti_54], O a27 k28 s3_21, O a25 k26 s2_20, O a23 k24 s1_19, Cl p10 [vi (rv4.1 % 5), vl a23 k24 s1_19, vl a25 k26 s2_20, vl a27 k28 s3_21], Cl p3 [vi 0, .slice none 0 0, .slice none 0 0, .slice none 0 0], S ta tk tT], tp_System_L1 tT (1 + rv11.1) r53 ti_54 d_55 k_56 = tp_System_L1 tT (1 + rv11.1) (rv47.1.toNat) rv47.2 [] rv47.1 ∧ r53 = k_56.toNat ∧ k_56 ≤ (rv47.1 : Int) ∧ (-9223372036854775808 ≤ ti_54 ∧ ti_54 ≤ 9223372036854775807) ∧ (0 ≤ ti_54 ∧ ti_54 ≤ (tT.length : Int)) ∧ (-9223372036854775808 ≤ k_56 ∧ k_56 ≤ 9223372036854775807) ∧ (d_55.length : Int) + k_56 ≤ 4, r53⟩) (rv47.1.toNat, rv47.2, [], rv47.1, none, 0) [0, 1, 1, 1, 1, 1, 1, 1] ⟨rfl, rfl, aM1, aM1, aM1, aM1, iv0⟩ ?_
  rintro ⟨r53, ti_54, d_55, k_56, a57, k58⟩ ⟨hM59, hr60, hi61, hk62, ht63, hk64, hv65⟩
  refine JJ_nx fun _ _ hL hA => ?_; dsimp only at hL hA; subst hL hA
  refine Fb 8 0 fun _ => Fo 0 fun ho67 => Fb 32 2 fun _ => Fb 88 3 fun _ => Fb 24 4 fun _ => Fb 8 7 fun _ => Fo 7 fun ho72 => KS ?_
  refine Oq Vm (Oq Vgtr (KS ?_))
  refine Kc ?_ ?_
  ·intro h73
   have g74 := dt h73
   obtain ⟨r75, rfl⟩ := scc (n := r53) aM1
   refine KS ?_
   refine Oq Vm (Oq Vm (Oq Vm ?_))
   refine letv (tp_Next tT ti_54 (1 + rv11.1)) fun rv76 hg77 => ?_
   have hc78 := fn9 tP ta tk tT ti_54 ((1 + rv11.1)) pre pre rv76 hg77
   refine Oc [1, 6] ca9 hc78 ?_
   rintro - ⟨he79, he80, he81⟩
   unfold i64ok at he79
   refine letv (r7_Insert d_55 rv76.1) fun rv83 hg84 => ?_
   have hc85 := fn28 d_55 a57 k58 rv76.1 pre pre rv83 hg84
   refine Oc [1] ca28 hc85 ?_
   rintro c82 he86
   refine Jo 0 ?_; rintro a87 k88 rfl
   refine Fb 8 0 fun _ => Fo 0 fun ho90 => ?_
   refine Oq Va (KS ?_)
   refine Oq Vm (Oq Vsub (Oq Va (KS ?_)))
   exact Kg (r75, rv76.2, rv83, (k_56 - 1), a87, k88) [0, 1, 2, 2, 2, 2, 2, 2] ⟨(q3 hM59 (by simp only [tp_System_L1, h73, hg77, hg84, cs4])), aM1, aM1, aM1, aM1, aM1, iv1⟩
  intro h73
  have g91 := df h73
  obtain rfl : r53 = 0 := by omega
  refine Ke ?_
  have hR92 := q2 hM59 (ti_54, d_55) (by simp only [tp_System_L1, h73, cs4])
  refine KS ?_
  refine Oq (Vfa fo27_0 5) (Oq (VldF sh3 5) ?_)
  refine letv (r1_Empty (rv4.1 % 5)) fun rv94 hg95 => ?_
  have hc96 := fn29 ((rv4.1 % 5)) pre pre rv94 hg95
  refine Oc [] ca29 hc96 ?_
  rintro c93 ⟨he97, he98, he99⟩
  unfold i64ok at he97
  refine Jo 0 ?_; rintro a100 k101 rfl
  refine Fb 8 0 fun _ => ?_
  refine Oa (Al ze42 [vi 0, .slice none 0 0]) fun p103 => Ost (Scl [0] sh42 [vi rv94.Width, vl a100 k101 rv94.Words]) (KS ?_)
  refine Oq Vm ?_
  refine letv (tp_Next tT ti_54 3) fun rv104 hg105 => ?_
  have hc106 := fn9 tP ta tk tT ti_54 3 pre pre rv104 hg105
  refine Oc [3, 8] ca9 hc106 ?_
  rintro - ⟨he107, he108, he109⟩
  unfold i64ok at he107
  refine Oq Veql (KS ?_)
  refine Kc ?_ ?_
  ·intro h110
   have g111 := eq_of_beq h110
   refine KS ?_
   refine Oq Vm (Oq (Vfa fo27_0 7) (Oq (VldF sh3 7) ?_))
   refine letv (tp_Set tT rv104.2 (rv4.1 % 5)) fun rv113 hg114 => ?_
   have hc115 := fn13 tP ta tk tT rv104.2 ((rv4.1 % 5)) pre pre pre rv113 hg114
   refine Oc [0, 8] ca13 hc115 ?_
   rintro c112 ⟨he116, he117, he118, he119⟩
   unfold i64ok at he116
   refine Jo 0 ?_; rintro a120 k121 rfl
   refine Fb 8 0 fun _ => ?_
   refine Ost (Scl [2] sh42 [vi rv113.1.Width, vl a120 k121 rv113.1.Words]) (KS ?_)
   refine Jp 8 fun hp123 => ?_
   refine JK_drawK [0, 1, 0, 4, 15, 0, 32, 0, 128, 511, 0, 1024, 0, 0, 8192, 29695, 62463, 131071, 27775, 524287, 1048575, 2097151, 4194303, 8388607] fmix ?_
   refine Dv [0] (Vfa fo27_1 0) (Dv [9] (VldF sh23 0) (Dv [] Vm (Dx [] [] [0] (fun G => (G.g 3 0)) [fun G => Cr (G.g 3 0) 1 [vl a57 k58 d_55]] (fun G => xA (AsV sl23 sz23 [vl a57 k58 d_55] [vl a57 k58 d_55])) ?_)))
   have hn126 := la s1_19 ([d_55] : List (List Int))
   refine Dx [5, 8, 12] [8, 12] [1, 0] (fun G => (G.g 4 0)) [fun G => os (G.g 4 0) ((s1_19 ++ [d_55]) : List (List Int))] (fun G => xp [2, 0] rfl (Ent.cr1 (α := List Int) (A := [S a57 k58 d_55]) _ d_55 _ aB1 (fun h => ⟨_, rfl, sepAll_get (i := 0) rfl h⟩)) (xA (ApO [3, 0] sl23 sl23 sz23))) (Dv [0] (Vfa fo27_3 0) (Dv [9] (VldF sh25 0) (Dv [1] (VldA sh42 0) (Dx [] [] [0] (fun G => (G.g 8 0)) [fun G => Cr (G.g 8 0) 1 [vi rv113.1.Width, vl a120 k121 rv113.1.Words]] (fun G => xA (AsV sl25 sz25 [.agg #[vi rv113.1.Width, vl a120 k121 rv113.1.Words]] [vi rv113.1.Width, vl a120 k121 rv113.1.Words])) ?_))))
   have hn129 := la s3_21 ([rv113.1] : List GSet)
   refine Dx [2, 6, 14] [2, 6, 14] [1, 0] (fun G => (G.g 9 0)) [fun G => S a120 k121 rv113.1.Words, fun G => os (G.g 9 0) ((s3_21 ++ [rv113.1]) : List GSet)] (fun G => xp [0] rfl (Ent.freeze _ _) (xp [2, 0] rfl (Ent.cr1 (α := GSet) (A := [S a120 k121 rv113.1.Words]) _ rv113.1 _ aB1 (fun h => ⟨_, rfl, aL1, sepAll_get (i := 0) rfl h⟩)) (xA (ApO [3, 0] sl25 sl25 sz25)))) (Dv [0] (Vfa fo27_2 0) (Dv [9] (VldF sh24 0) (Dv [] Vm (Dv [0] (Vfa fo27_0 0) (Dv [9] (VldF sh3 0) ?_)))))
   refine letv (tp_Transfer tT rv113.2 (rv4.1 % 5)) fun rv133 hg134 => ?_
   refine Dx [3, 11] [3] [5, 0, 1, 2, 3, 4] (fun G => .agg #[vi rv133.1.Gen.Width, (G.g 15 0), vi rv133.1.Kill.Width, (G.g 15 1), (G.g 15 2)]) [fun G => SP.fact (i64ok rv133.1.Gen.Width ∧ i64ok rv133.1.Kill.Width ∧ (0 ≤ rv133.2 ∧ rv133.2 ≤ (tT.length : Int)) ∧ (rv133.1.Gen.Width = (rv4.1 % 5)) ∧ (rv133.1.Kill.Width = (rv4.1 % 5)) ∧ (rv133.1.Copies.length ≤ 12)), fun G => sl (G.g 15 0) rv133.1.Gen.Words, fun G => sl (G.g 15 1) rv133.1.Kill.Words, fun G => sl (G.g 15 2) rv133.1.Copies, fun G => Cl tP [vl ta tk tT, vi rv133.2]] (fun G => xC [0, 0] ca30 (fn30 tP ta tk tT rv113.2 ((rv4.1 % 5)) pre pre pre rv133 hg134)) (Dx [] [] [0] (fun G => (G.g 16 0)) [fun G => Cr (G.g 16 0) 1 [vi rv133.1.Gen.Width, (G.g 15 0), vi rv133.1.Kill.Width, (G.g 15 1), (G.g 15 2)]] (fun G => xA (AsV sl24 sz24 [.agg #[vi rv133.1.Gen.Width, (G.g 15 0), vi rv133.1.Kill.Width, (G.g 15 1), (G.g 15 2)]] [vi rv133.1.Gen.Width, (G.g 15 0), vi rv133.1.Kill.Width, (G.g 15 1), (G.g 15 2)])) ?_)
   have hn137 := la s2_20 ([rv133.1] : List GTransfer)
   refine Dx [7, 17, 18, 19, 20, 22] [7, 22] [4, 1, 2, 3, 0] (fun G => (G.g 17 0)) [fun G => os (G.g 17 0) ((s2_20 ++ [rv133.1]) : List GTransfer)] (fun G => by refine xf 1 rfl ?_; rintro ⟨he138, he139, he140, he141, he142, he143⟩; unfold i64ok at he138 he139; exact xp [5, 2, 3, 4] rfl (Ent.cr1 (α := GTransfer) (A := [sl (G.g 15 0) rv133.1.Gen.Words, sl (G.g 15 1) rv133.1.Kill.Words, sl (G.g 15 2) rv133.1.Copies]) _ rv133.1 _ aB1 (fun h => ⟨_, _, _, rfl, aL1, sepAll_get (i := 0) rfl h, aL1, sepAll_get (i := 1) rfl h, sepAll_get (i := 2) rfl h⟩)) (xA (ApO [4, 0] sl24 sl24 sz24))) (Dv [0] (Vfa fo27_1 0) (Dx0 [9, 13] [9] [1, 0] [fun G => Cl p10 [vi (rv4.1 % 5), (G.g 4 0), vl a25 k26 s2_20, vl a27 k28 s3_21]] (fun G => x1 1 rfl os_one fun ho144 => (xS (OpS.frame [0] rfl (OpS.storeClF [(G.g 4 0)] [vi (rv4.1 % 5), (G.g 4 0), vl a25 k26 s2_20, vl a27 k28 s3_21] rfl rfl rfl sh23 (cells_of_one ho144) rfl (by simp only [List.all_cons, List.all_nil, ho144, Bool.and_true, Bool.true_and] <;> rfl) aB1 rfl)))) (Dv [0] (Vfa fo27_3 0) (Dx0 [16, 24] [24] [1, 0] [fun G => Cl p10 [vi (rv4.1 % 5), (G.g 4 0), vl a25 k26 s2_20, (G.g 9 0)]] (fun G => x1 0 rfl os_one fun ho145 => (xS (OpS.frame [1] rfl (OpS.storeClF [(G.g 9 0)] [vi (rv4.1 % 5), (G.g 4 0), vl a25 k26 s2_20, (G.g 9 0)] rfl rfl rfl sh25 (cells_of_one ho145) rfl (by simp only [List.all_cons, List.all_nil, ho145, Bool.and_true, Bool.true_and] <;> rfl) aB1 rfl)))) (Dv [0] (Vfa fo27_2 0) (Dx0 [23, 25] [25] [1, 0] [fun G => Cl p10 [vi (rv4.1 % 5), (G.g 4 0), (G.g 17 0), (G.g 9 0)]] (fun G => x1 0 rfl os_one fun ho146 => (xS (OpS.frame [1] rfl (OpS.storeClF [(G.g 17 0)] [vi (rv4.1 % 5), (G.g 4 0), (G.g 17 0), (G.g 9 0)] rfl rfl rfl sh24 (cells_of_one ho146) rfl (by simp only [List.all_cons, List.all_nil, ho146, Bool.and_true, Bool.true_and] <;> rfl) aB1 rfl)))) ?_))))))
   refine Dn ⟨by kernel_rfl, fun G => ?_⟩
   refine Jw2 [(0, tP), (4, p3), (5, p10), (1, vi (1 + rv11.1)), (6, vi i_22)] [0, 1, 4, 5, 10, 11] [os (G.g 4 0) ((s1_19 ++ [d_55]) : List (List Int)), S a120 k121 rv113.1.Words, os (G.g 9 0) ((s3_21 ++ [rv113.1]) : List GSet), SP.fact (i64ok rv133.1.Gen.Width ∧ i64ok rv133.1.Kill.Width ∧ (0 ≤ rv133.2 ∧ rv133.2 ≤ (tT.length : Int)) ∧ (rv133.1.Gen.Width = (rv4.1 % 5)) ∧ (rv133.1.Kill.Width = (rv4.1 % 5)) ∧ (rv133.1.Copies.length ≤ 12)), sl (G.g 15 0) rv133.1.Gen.Words, sl (G.g 15 1) rv133.1.Kill.Words, sl (G.g 15 2) rv133.1.Copies, Cl tP [vl ta tk tT, vi rv133.2], os (G.g 17 0) ((s2_20 ++ [rv133.1]) : List GTransfer), Cl p10 [vi (rv4.1 % 5), (G.g 4 0), (G.g 17 0), (G.g 9 0)]] ?_
   generalize G.g 4 0 = c125, G.g 9 0 = c128, G.g 15 0 = c130, G.g 15 1 = c131, G.g 15 2 = c132, G.g 17 0 = c136
   refine Jf 9 rfl ?_; rintro ⟨he147, he148, he149, he150, he151, he152⟩
   unfold i64ok at he147 he148
   refine Jk [1, 1, 1, 2, 2, 3, 3, 4, 5, 6, 7, 8, 8, 8] ?_
   refine Jo 5 ?_; rintro a153 k154 rfl
   refine Fb 24 5 fun _ => ?_
   refine Jo 7 ?_; rintro a156 k157 rfl
   refine Fb 32 7 fun _ => ?_
   refine Jo 8 ?_; rintro a159 k160 rfl
   refine Fb 8 8 fun _ => ?_
   refine Jo 9 ?_; rintro a162 k163 rfl
   refine Fb 8 9 fun _ => ?_
   refine Jo 10 ?_; rintro a165 k166 rfl
   refine Fb 16 10 fun _ => ?_
   refine Jo 12 ?_; rintro a168 k169 rfl
   refine Fb 88 12 fun _ => KS ?_
   refine Oq Vm (Oq Vadd (Oq Va (KS ?_)))
   exact Kg (r46, rv133.2, (s1_19 ++ [d_55]), (s2_20 ++ [rv133.1]), (s3_21 ++ [rv113.1]), (i_22 + 1), a153, k154, a168, k169, a156, k157) [7, 11, 5, 9, 9, 3, 3] ⟨(q3 hM29 (by simp only [tp_System_L0, h44, h73, h110, hg48, hR92, hg95, hg105, hg114, hg134, cs4])), aM1, aM1, aM1, aM1, aM1, aM1, iv1, iv1, iv1⟩
  intro h110
  have g171 := ne_of_beq_false h110
  refine KS ?_
  refine Jp 7 fun hp172 => ?_
  refine JK_drawK [0, 1, 0, 4, 15, 0, 32, 0, 128, 511, 0, 1024, 0, 0, 8192, 29695, 62463, 131071, 27775, 524287, 1048575, 2097151, 4194303, 8388607] fmix ?_
  refine Dv [0] (Vfa fo27_1 0) (Dv [8] (VldF sh23 0) (Dv [] Vm (Dx [] [] [0] (fun G => (G.g 3 0)) [fun G => Cr (G.g 3 0) 1 [vl a57 k58 d_55]] (fun G => xA (AsV sl23 sz23 [vl a57 k58 d_55] [vl a57 k58 d_55])) ?_)))
  have hn175 := la s1_19 ([d_55] : List (List Int))
  refine Dx [4, 7, 11] [7, 11] [1, 0] (fun G => (G.g 4 0)) [fun G => os (G.g 4 0) ((s1_19 ++ [d_55]) : List (List Int))] (fun G => xp [2, 0] rfl (Ent.cr1 (α := List Int) (A := [S a57 k58 d_55]) _ d_55 _ aB1 (fun h => ⟨_, rfl, sepAll_get (i := 0) rfl h⟩)) (xA (ApO [3, 0] sl23 sl23 sz23))) (Dv [0] (Vfa fo27_3 0) (Dv [8] (VldF sh25 0) (Dv [2] (VldA sh42 0) (Dx [] [] [0] (fun G => (G.g 8 0)) [fun G => Cr (G.g 8 0) 1 [vi rv94.Width, vl a100 k101 rv94.Words]] (fun G => xA (AsV sl25 sz25 [.agg #[vi rv94.Width, vl a100 k101 rv94.Words]] [vi rv94.Width, vl a100 k101 rv94.Words])) ?_))))
  have hn178 := la s3_21 ([rv94] : List GSet)
  refine Dx [3, 5, 13] [3, 5, 13] [1, 0] (fun G => (G.g 9 0)) [fun G => S a100 k101 rv94.Words, fun G => os (G.g 9 0) ((s3_21 ++ [rv94]) : List GSet)] (fun G => xp [0] rfl (Ent.freeze _ _) (xp [2, 0] rfl (Ent.cr1 (α := GSet) (A := [S a100 k101 rv94.Words]) _ rv94 _ aB1 (fun h => ⟨_, rfl, aL1, sepAll_get (i := 0) rfl h⟩)) (xA (ApO [3, 0] sl25 sl25 sz25)))) (Dv [0] (Vfa fo27_2 0) (Dv [8] (VldF sh24 0) (Dv [] Vm (Dv [0] (Vfa fo27_0 0) (Dv [8] (VldF sh3 0) ?_)))))
  refine letv (tp_Transfer tT rv104.2 (rv4.1 % 5)) fun rv182 hg183 => ?_
  refine Dx [1, 10] [1] [5, 0, 1, 2, 3, 4] (fun G => .agg #[vi rv182.1.Gen.Width, (G.g 15 0), vi rv182.1.Kill.Width, (G.g 15 1), (G.g 15 2)]) [fun G => SP.fact (i64ok rv182.1.Gen.Width ∧ i64ok rv182.1.Kill.Width ∧ (0 ≤ rv182.2 ∧ rv182.2 ≤ (tT.length : Int)) ∧ (rv182.1.Gen.Width = (rv4.1 % 5)) ∧ (rv182.1.Kill.Width = (rv4.1 % 5)) ∧ (rv182.1.Copies.length ≤ 12)), fun G => sl (G.g 15 0) rv182.1.Gen.Words, fun G => sl (G.g 15 1) rv182.1.Kill.Words, fun G => sl (G.g 15 2) rv182.1.Copies, fun G => Cl tP [vl ta tk tT, vi rv182.2]] (fun G => xC [0, 0] ca30 (fn30 tP ta tk tT rv104.2 ((rv4.1 % 5)) pre pre pre rv182 hg183)) (Dx [] [] [0] (fun G => (G.g 16 0)) [fun G => Cr (G.g 16 0) 1 [vi rv182.1.Gen.Width, (G.g 15 0), vi rv182.1.Kill.Width, (G.g 15 1), (G.g 15 2)]] (fun G => xA (AsV sl24 sz24 [.agg #[vi rv182.1.Gen.Width, (G.g 15 0), vi rv182.1.Kill.Width, (G.g 15 1), (G.g 15 2)]] [vi rv182.1.Gen.Width, (G.g 15 0), vi rv182.1.Kill.Width, (G.g 15 1), (G.g 15 2)])) ?_)
  have hn186 := la s2_20 ([rv182.1] : List GTransfer)
  refine Dx [6, 16, 17, 18, 19, 21] [6, 21] [4, 1, 2, 3, 0] (fun G => (G.g 17 0)) [fun G => os (G.g 17 0) ((s2_20 ++ [rv182.1]) : List GTransfer)] (fun G => by refine xf 1 rfl ?_; rintro ⟨he187, he188, he189, he190, he191, he192⟩; unfold i64ok at he187 he188; exact xp [5, 2, 3, 4] rfl (Ent.cr1 (α := GTransfer) (A := [sl (G.g 15 0) rv182.1.Gen.Words, sl (G.g 15 1) rv182.1.Kill.Words, sl (G.g 15 2) rv182.1.Copies]) _ rv182.1 _ aB1 (fun h => ⟨_, _, _, rfl, aL1, sepAll_get (i := 0) rfl h, aL1, sepAll_get (i := 1) rfl h, sepAll_get (i := 2) rfl h⟩)) (xA (ApO [4, 0] sl24 sl24 sz24))) (Dv [0] (Vfa fo27_1 0) (Dx0 [8, 12] [8] [1, 0] [fun G => Cl p10 [vi (rv4.1 % 5), (G.g 4 0), vl a25 k26 s2_20, vl a27 k28 s3_21]] (fun G => x1 1 rfl os_one fun ho193 => (xS (OpS.frame [0] rfl (OpS.storeClF [(G.g 4 0)] [vi (rv4.1 % 5), (G.g 4 0), vl a25 k26 s2_20, vl a27 k28 s3_21] rfl rfl rfl sh23 (cells_of_one ho193) rfl (by simp only [List.all_cons, List.all_nil, ho193, Bool.and_true, Bool.true_and] <;> rfl) aB1 rfl)))) (Dv [0] (Vfa fo27_3 0) (Dx0 [15, 23] [23] [1, 0] [fun G => Cl p10 [vi (rv4.1 % 5), (G.g 4 0), vl a25 k26 s2_20, (G.g 9 0)]] (fun G => x1 0 rfl os_one fun ho194 => (xS (OpS.frame [1] rfl (OpS.storeClF [(G.g 9 0)] [vi (rv4.1 % 5), (G.g 4 0), vl a25 k26 s2_20, (G.g 9 0)] rfl rfl rfl sh25 (cells_of_one ho194) rfl (by simp only [List.all_cons, List.all_nil, ho194, Bool.and_true, Bool.true_and] <;> rfl) aB1 rfl)))) (Dv [0] (Vfa fo27_2 0) (Dx0 [22, 24] [24] [1, 0] [fun G => Cl p10 [vi (rv4.1 % 5), (G.g 4 0), (G.g 17 0), (G.g 9 0)]] (fun G => x1 0 rfl os_one fun ho195 => (xS (OpS.frame [1] rfl (OpS.storeClF [(G.g 17 0)] [vi (rv4.1 % 5), (G.g 4 0), (G.g 17 0), (G.g 9 0)] rfl rfl rfl sh24 (cells_of_one ho195) rfl (by simp only [List.all_cons, List.all_nil, ho195, Bool.and_true, Bool.true_and] <;> rfl) aB1 rfl)))) ?_))))))
  refine Dn ⟨by kernel_rfl, fun G => ?_⟩
  refine Jw2 [(0, tP), (4, p3), (5, p10), (1, vi (1 + rv11.1)), (6, vi i_22)] [0, 2, 4, 9, 10] [os (G.g 4 0) ((s1_19 ++ [d_55]) : List (List Int)), S a100 k101 rv94.Words, os (G.g 9 0) ((s3_21 ++ [rv94]) : List GSet), SP.fact (i64ok rv182.1.Gen.Width ∧ i64ok rv182.1.Kill.Width ∧ (0 ≤ rv182.2 ∧ rv182.2 ≤ (tT.length : Int)) ∧ (rv182.1.Gen.Width = (rv4.1 % 5)) ∧ (rv182.1.Kill.Width = (rv4.1 % 5)) ∧ (rv182.1.Copies.length ≤ 12)), sl (G.g 15 0) rv182.1.Gen.Words, sl (G.g 15 1) rv182.1.Kill.Words, sl (G.g 15 2) rv182.1.Copies, Cl tP [vl ta tk tT, vi rv182.2], os (G.g 17 0) ((s2_20 ++ [rv182.1]) : List GTransfer), Cl p10 [vi (rv4.1 % 5), (G.g 4 0), (G.g 17 0), (G.g 9 0)]] ?_
  generalize G.g 4 0 = c174, G.g 9 0 = c177, G.g 15 0 = c179, G.g 15 1 = c180, G.g 15 2 = c181, G.g 17 0 = c185
  refine Jf 8 rfl ?_; rintro ⟨he196, he197, he198, he199, he200, he201⟩
  unfold i64ok at he196 he197
  refine Jk [1, 1, 2, 2, 3, 3, 4, 5, 6, 7, 8, 8, 8] ?_
  refine Jo 4 ?_; rintro a202 k203 rfl
  refine Fb 24 4 fun _ => ?_
  refine Jo 6 ?_; rintro a205 k206 rfl
  refine Fb 32 6 fun _ => ?_
  refine Jo 7 ?_; rintro a208 k209 rfl
  refine Fb 8 7 fun _ => ?_
  refine Jo 8 ?_; rintro a211 k212 rfl
  refine Fb 8 8 fun _ => ?_
  refine Jo 9 ?_; rintro a214 k215 rfl
  refine Fb 16 9 fun _ => ?_
  refine Jo 11 ?_; rintro a217 k218 rfl
  refine Fb 88 11 fun _ => KS ?_
  refine Oq Vm (Oq Vadd (Oq Va (KS ?_)))
  exact Kg (r46, rv182.2, (s1_19 ++ [d_55]), (s2_20 ++ [rv182.1]), (s3_21 ++ [rv94]), (i_22 + 1), a202, k203, a217, k218, a205, k206) [6, 10, 4, 8, 8, 2, 2] ⟨(q3 hM29 (by simp only [tp_System_L0, h44, h73, h110, hg48, hR92, hg95, hg105, hg183, cs4])), aM1, aM1, aM1, aM1, aM1, aM1, iv1, iv1, iv1⟩
 intro h44
 have g220 := df h44
 obtain rfl : r17 = 0 := by omega
 refine Ke ?_
 have hR221 := q2 hM29 (ti_18, s1_19, s2_20, s3_21) (by simp only [tp_System_L0, h44, cs4])
 refine KS ?_
 refine Oq (VldA sh27 4) (Ost (Scl [5] sh27 [vi (rv4.1 % 5), vl a23 k24 s1_19, vl a25 k26 s2_20, vl a27 k28 s3_21]) (KS ?_))
 refine Jl [3] (Ent.freeze _ _) ?_
 refine Jl [3] (Ent.freeze _ _) ?_
 refine Jl [3] (Ent.freeze _ _) ?_
 have hq := q4 hrr ((GSystem.mk (rv4.1 % 5) s1_19 s2_20 s3_21), ti_18) (by simp only [tp_System, h44, hg5, hg12, hR221, cs4]); subst hq
 exact Kr (vl a23 k24 s1_19, vl a25 k26 s2_20, vl a27 k28 s3_21) rfl (.cellN 3 rfl sh27 rfl (reads_Cl _ _) rfl .nil) [2, 1, 0, 4] en
theorem fn4 (t : List Int) (ta0 : Option Addr) (tk0 : Nat) (l : List GHop) (la0 : Option Addr) (lk0 : Nat) (rr : Bool) (hrr : w16_WitnessSound t l = rr) : FT Tryz.prog 4 #[vl ta0 tk0 t, vl la0 lk0 l] [S ta0 tk0 t, S la0 lk0 l] (fun g : Unit => True) (fun g => vb rr) (fun g => []) := by
 refine FTi Tryz.func4 fun w0 M0 F0 => Fb 8 0 fun _ => Fo 0 fun ho2 => Fb 16 1 fun _ => ?_
 refine KS ?_
 refine Oq Va (KS ?_)
 refine Oq Vm ?_
 refine letv (g_New t) fun rv5 hg6 => ?_
 have hc7 := fn7 t ta0 tk0 rv5 hg6
 refine Oc [0] ca7 hc7 ?_
 rintro c4 -
 refine Oq Va (KS ?_)
 refine Oq Vm ?_
 refine letv (tp_System t 0 4) fun rv11 hg12 => ?_
 have hc13 := fn8 c4 ta0 tk0 t 0 4 pre pre pre rv11 hg12
 refine Oc [0, 0] ca8 hc13 ?_
 rintro ⟨c8, c9, c10⟩ ⟨he14, he15, he16⟩
 unfold i64ok at he14
 refine Jo 0 ?_; rintro a17 k18 rfl
 refine Fb 24 0 fun _ => ?_
 refine Jo 1 ?_; rintro a20 k21 rfl
 refine Fb 88 1 fun _ => ?_
 refine Jo 2 ?_; rintro a23 k24 rfl
 refine Fb 32 2 fun _ => ?_
 have hds := System_facts (by assumption : tp_System t 0 4 = rv11) aM1
 obtain ⟨hd1, hd2, hd3⟩ := hds
 have hv1 := hd1.n
 have hv2 := hd1.tl
 have hv3 := hd1.bl
 have hv4 := hd1.w
 have hv5 := hd1.dep_len
 refine Oa (Al ze27 [vi 0, .slice none 0 0, .slice none 0 0, .slice none 0 0]) fun p26 => Ost (Scl [0] sh27 [vi rv11.1.Width, vl a17 k18 rv11.1.Deps, vl a20 k21 rv11.1.Transfers, vl a23 k24 rv11.1.Boundary]) (KS ?_)
 refine Oq (VldA sh27 0) ?_
 refine letv (r10_Solve rv11.1) fun rv28 hg29 => ?_
 have hc30 := fn11 rv11.1 a17 k18 a20 k21 a23 k24 pre rv28 hg29
 refine Oc [1, 2, 3] ca11 hc30 ?_
 rintro c27 ⟨he31, he32, he33⟩
 unfold i64ok at he31 he32
 refine Jo 0 ?_; rintro a34 k35 rfl
 refine Fb 32 0 fun _ => ?_
 have hsl := rSolve_len (by assumption : r10_Solve rv11.1 = rv28) hd1
 refine Oq Vm (Oq Vx (Oq Vx (Oq Vx (Oq Va (Oq Va (Oq Va (KS ?_)))))))
 refine Jp 1 fun hp37 => ?_
 refine JK_drawK [0, 0, 2, 7, 0, 0, 32, 96, 255, 511, 1023] fmix ?_
 refine Dv [] Vm (Dv [] Vm (Dv [] (Vlen sl25) ?_))
 refine letv (tp_Next t rv11.2 (rv28.1.length : Int)) fun rv38 hg39 => ?_
 refine Dx [6, 7] [6] [2, 0, 1] (fun G => vi rv38.1) [fun G => SP.fact (i64ok rv38.1 ∧ (0 ≤ rv38.2 ∧ rv38.2 ≤ (t.length : Int)) ∧ (0 ≤ rv38.1 ∧ (rv38.1 < (rv28.1.length : Int) ∨ rv38.1 = 0))), fun G => Cl c4 [vl ta0 tk0 t, vi rv38.2]] (fun G => xC [0, 0] ca9 (fn9 c4 ta0 tk0 t rv11.2 ((rv28.1.length : Int)) pre pre rv38 hg39)) (Dv [] Vm (Dv [0] (Vfa fo27_0 0) (Dv [2] (VldF sh3 0) (Dv [] Vadd ?_))))
 refine letv (tp_Next t rv38.2 (rv11.1.Width + 1)) fun rv40 hg41 => ?_
 refine Dx [7, 9, 10] [10] [2, 3, 0, 1] (fun G => vi rv40.1) [fun G => SP.fact (i64ok rv40.1 ∧ (0 ≤ rv40.2 ∧ rv40.2 ≤ (t.length : Int)) ∧ (0 ≤ rv40.1 ∧ (rv40.1 < (rv11.1.Width + 1) ∨ rv40.1 = 0))), fun G => Cl c4 [vl ta0 tk0 t, vi rv40.2]] (fun G => by refine xf 1 rfl ?_; rintro ⟨he42, he43, he44⟩; unfold i64ok at he42; exact xC [2, 0] ca9 (fn9 c4 ta0 tk0 t rv38.2 ((rv11.1.Width + 1)) pre pre rv40 hg41)) (Dv [] Va (Dv [] Va ?_))
 refine Dn ⟨by kernel_rfl, fun G => ?_⟩
 refine Jw2 [(1, vl la0 lk0 l), (5, c4), (6, p26), (7, vl a34 k35 rv28.1), (10, vi rv38.1), (11, vi rv40.1)] [0, 1, 2, 3, 4, 5, 7, 8] [SP.fact (i64ok rv38.1 ∧ (0 ≤ rv38.2 ∧ rv38.2 ≤ (t.length : Int)) ∧ (0 ≤ rv38.1 ∧ (rv38.1 < (rv28.1.length : Int) ∨ rv38.1 = 0))), SP.fact (i64ok rv40.1 ∧ (0 ≤ rv40.2 ∧ rv40.2 ≤ (t.length : Int)) ∧ (0 ≤ rv40.1 ∧ (rv40.1 < (rv11.1.Width + 1) ∨ rv40.1 = 0))), Cl c4 [vl ta0 tk0 t, vi rv40.2]] ?_
 refine Jf 8 rfl ?_; rintro ⟨he45, he46, he47⟩
 unfold i64ok at he45
 refine Jf 9 rfl ?_; rintro ⟨he48, he49, he50⟩
 unfold i64ok at he48
 refine Jk [1, 2, 2, 3, 4, 5, 6, 9] ?_
 refine KS ?_
 refine Oq Va (KS ?_)
 refine Oq Vm ?_
 refine letv (tp_Next t rv40.2 4) fun rv51 hg52 => ?_
 have hc53 := fn9 c4 ta0 tk0 t rv40.2 4 pre pre rv51 hg52
 refine Oc [7, 5] ca9 hc53 ?_
 rintro - ⟨he54, he55, he56⟩
 unfold i64ok at he54
 refine Oq Va (KS ?_)
 refine Jl [] (Ent.osNil (α := GHop)) ?_
 refine Kl (γ := Nat × Int × List GHop × Int × Option Addr × Nat) (fun (r57, k1_58, w_59, i_60, a61, k62) => ⟨[(1, vl la0 lk0 l), (5, c4), (6, p26), (7, vl a34 k35 rv28.1), (10, vi rv38.1), (11, vi rv40.1), (12, vl a61 k62 w_59), (13, vi i_60)], [O a61 k62 w_59, Cl c4 [vl ta0 tk0 t, vi k1_58], S a34 k35 rv28.1, Cl p26 [vi rv11.1.Width, vl a17 k18 rv11.1.Deps, vl a20 k21 rv11.1.Transfers, vl a23 k24 rv11.1.Boundary], S a17 k18 rv11.1.Deps, S a20 k21 rv11.1.Transfers, S a23 k24 rv11.1.Boundary, S ta0 tk0 t, S la0 lk0 l], w16_WitnessSound_L0 t rv11.1.Width rv28.1 r57 k1_58 w_59 i_60 = w16_WitnessSound_L0 t rv11.1.Width rv28.1 (rv51.1.toNat) rv51.2 [] rv51.1 ∧ r57 = i_60.toNat ∧ i_60 ≤ (rv51.1 : Int) ∧ (-9223372036854775808 ≤ k1_58 ∧ k1_58 ≤ 9223372036854775807) ∧ (0 ≤ k1_58 ∧ k1_58 ≤ (t.length : Int)) ∧ (-9223372036854775808 ≤ i_60 ∧ i_60 ≤ 9223372036854775807) ∧ (0 ≤ i_60 ∧ (w_59.length : Int) + i_60 ≤ 3), r57⟩) (rv51.1.toNat, rv51.2, [], rv51.1, none, 0) [0, 0, 0, 1, 1, 2, 3, 4, 5] ⟨rfl, rfl, aM1, aM1, aM1, aM1, iv0⟩ ?_
 rintro ⟨r57, k1_58, w_59, i_60, a61, k62⟩ ⟨hM63, hr64, hi65, hk66, ht67, hk68, hv69⟩
 refine JJ_nx fun _ _ hL hA => ?_; dsimp only at hL hA; subst hL hA
 refine Fb 16 0 fun _ => Fb 32 2 fun _ => Fb 24 4 fun _ => Fb 88 5 fun _ => Fb 32 6 fun _ => Fb 8 7 fun _ => Fo 7 fun ho76 => Fb 16 8 fun _ => KS ?_
 refine Oq Vm (Oq Vgtr (KS ?_))
 refine Kc ?_ ?_
 ·intro h78
  have g79 := dt h78
  obtain ⟨r80, rfl⟩ := scc (n := r57) aM1
  refine KS ?_
  refine Jp 3 fun hp81 => ?_
  refine JK_drawK [0, 0, 0, 4, 14, 0, 0, 64, 192, 510, 1022, 2046, 4095, 8191] fmix ?_
  refine Dv [] Vm (Dv [] Vm (Dv [] Vm (Dv [] (Vlen sl25) ?_)))
  refine letv (tp_Next t k1_58 (rv28.1.length : Int)) fun rv82 hg83 => ?_
  refine Dx [2, 8] [2] [2, 0, 1] (fun G => vi rv82.1) [fun G => SP.fact (i64ok rv82.1 ∧ (0 ≤ rv82.2 ∧ rv82.2 ≤ (t.length : Int)) ∧ (0 ≤ rv82.1 ∧ (rv82.1 < (rv28.1.length : Int) ∨ rv82.1 = 0))), fun G => Cl c4 [vl ta0 tk0 t, vi rv82.2]] (fun G => xC [0, 0] ca9 (fn9 c4 ta0 tk0 t k1_58 ((rv28.1.length : Int)) pre pre rv82 hg83)) (Dv [] Vm (Dv [0] (Vfa fo27_0 0) (Dv [4] (VldF sh3 0) (Dv [] Vadd ?_))))
  refine letv (tp_Next t rv82.2 (rv11.1.Width + 1)) fun rv84 hg85 => ?_
  refine Dx [8, 10, 11] [11] [2, 3, 0, 1] (fun G => vi rv84.1) [fun G => SP.fact (i64ok rv84.1 ∧ (0 ≤ rv84.2 ∧ rv84.2 ≤ (t.length : Int)) ∧ (0 ≤ rv84.1 ∧ (rv84.1 < (rv11.1.Width + 1) ∨ rv84.1 = 0))), fun G => Cl c4 [vl ta0 tk0 t, vi rv84.2]] (fun G => by refine xf 1 rfl ?_; rintro ⟨he86, he87, he88⟩; unfold i64ok at he86; exact xC [2, 0] ca9 (fn9 c4 ta0 tk0 t rv82.2 ((rv11.1.Width + 1)) pre pre rv84 hg85)) (Dv [] (Vbd st37 [vi rv82.1, vi rv84.1]) (Dx [] [] [0] (fun G => (G.g 11 0)) [fun G => Cr (G.g 11 0) 1 [vi rv82.1, vi rv84.1]] (fun G => xA (AsV sl28 sz28 [.agg #[vi rv82.1, vi rv84.1]] [vi rv82.1, vi rv84.1])) ?_))
  have hn91 := la w_59 ([(GHop.mk rv82.1 rv84.1)] : List GHop)
  refine Dx [1, 10, 12, 14] [1, 14] [1, 2, 0] (fun G => (G.g 12 0)) [fun G => os (G.g 12 0) ((w_59 ++ [(GHop.mk rv82.1 rv84.1)]) : List GHop)] (fun G => by refine xf 1 rfl ?_; rintro ⟨he92, he93, he94⟩; unfold i64ok at he92; refine xf 2 rfl ?_; rintro ⟨he95, he96, he97⟩; unfold i64ok at he95; exact xp [3] rfl (Ent.cr1 (α := GHop) (A := []) _ (GHop.mk rv82.1 rv84.1) _ aB1 (fun h => ⟨rfl, aL1, aL1⟩)) (xA (ApO [1, 0] sl28 sl28 sz28))) (Dg [] (fun G => (G.g 12 0)) (fun G => Va) ?_)
  refine Dn ⟨by kernel_rfl, fun G => ?_⟩
  refine Jw2 [(1, vl la0 lk0 l), (5, c4), (6, p26), (7, vl a34 k35 rv28.1), (10, vi rv38.1), (11, vi rv40.1), (13, vi i_60), (12, (G.g 12 0))] [0, 3, 4, 5, 6, 7, 8, 9] [SP.fact (i64ok rv82.1 ∧ (0 ≤ rv82.2 ∧ rv82.2 ≤ (t.length : Int)) ∧ (0 ≤ rv82.1 ∧ (rv82.1 < (rv28.1.length : Int) ∨ rv82.1 = 0))), SP.fact (i64ok rv84.1 ∧ (0 ≤ rv84.2 ∧ rv84.2 ≤ (t.length : Int)) ∧ (0 ≤ rv84.1 ∧ (rv84.1 < (rv11.1.Width + 1) ∨ rv84.1 = 0))), Cl c4 [vl ta0 tk0 t, vi rv84.2], os (G.g 12 0) ((w_59 ++ [(GHop.mk rv82.1 rv84.1)]) : List GHop)] ?_
  generalize G.g 12 0 = c90
  refine Jf 8 rfl ?_; rintro ⟨he98, he99, he100⟩
  unfold i64ok at he98
  refine Jf 9 rfl ?_; rintro ⟨he101, he102, he103⟩
  unfold i64ok at he101
  refine Jk [1, 2, 2, 3, 4, 5, 6, 9, 9] ?_
  refine Jo 8 ?_; rintro a104 k105 rfl
  refine Fb 16 8 fun _ => KS ?_
  refine Oq Vm (Oq Vsub (Oq Va (KS ?_)))
  exact Kg (r80, rv84.2, (w_59 ++ [(GHop.mk rv82.1 rv84.1)]), (i_60 - 1), a104, k105) [8, 7, 0, 1, 1, 2, 3, 4, 5] ⟨(q3 hM63 (by simp only [w16_WitnessSound_L0, h78, hg83, hg85, cs4])), aM1, aM1, aM1, aM1, aM1, iv1⟩
 intro h78
 have g107 := df h78
 obtain rfl : r57 = 0 := by omega
 refine Ke ?_
 have hR108 := q2 hM63 (k1_58, w_59) (by simp only [w16_WitnessSound_L0, h78, cs4])
 refine KS ?_
 refine Oq Vm (Oq Vm (Oq Vm (Oq (Vbd st37 [vi rv38.1, vi rv40.1]) (Oa (AsV sl28 sz28 [.agg #[vi rv38.1, vi rv40.1]] [vi rv38.1, vi rv40.1]) fun c109 => ?_))))
 refine Jo 0 ?_; rintro a110 k111 rfl
 refine Jl [0] (Ent.cr1 (α := GHop) (A := []) _ (GHop.mk rv38.1 rv40.1) _ aB1 (fun h => ⟨rfl, aL1, aL1⟩)) ?_
 refine Oa (ApO [1, 0] sl28 sl28 sz28) fun c112 => ?_
 refine Jo 0 ?_; rintro a113 k114 rfl
 refine Fb 16 0 fun _ => ?_
 have hn116 := la w_59 ([(GHop.mk rv38.1 rv40.1)] : List GHop)
 refine Oq Va (KS ?_)
 refine Oq Vm (Oq Vm (Oq (Vi sl25 2) ?_))
 refine JJ_peek_GSet rv38.1.toNat 2 rfl rng fun a117 k118 hb119 => ?_
 unfold i64ok at hb119
 refine Fb 8 1 fun _ => ?_
 refine Oq (VldA sh42 0) (Oq Vm ?_)
 refine letv (r1_Has (rv28.1.getD rv38.1.toNat default) rv40.1) fun rv121 hg122 => ?_
 have hc123 := fn21 ((rv28.1.getD rv38.1.toNat default)) a117 k118 rv40.1 pre pre rv121 hg122
 refine Oc [1] ca21 hc123 ?_
 rintro - -
 refine Oq Va (KS ?_)
 refine Oq (VldA sh27 5) (Oq Vm (Oq Vm (Oq Vm ?_)))
 refine Jl [2] (Ent.freeze _ _) ?_
 refine letv (wt_Check rv11.1 rv38.1 rv40.1 (w_59 ++ [(GHop.mk rv38.1 rv40.1)])) fun rv124 hg125 => ?_
 have hc126 := fn14 rv11.1 a17 k18 a20 k21 a23 k24 rv38.1 rv40.1 ((w_59 ++ [(GHop.mk rv38.1 rv40.1)])) a113 k114 pre pre pre rv124 hg125
 refine Oc [6, 7, 8, 0] ca14 hc126 ?_
 rintro - -
 refine Oq Vm ?_
 refine Js 70 ?_ ?_
 ·intro h127
  refine Oq Vm (Oq Vnot (Oq Vpt (Oq Vm ?_)))
  refine Js 74 ?_ ?_
  ·intro h129
   have h131 := not_true h129
   refine Osk (Osk (Osk (Osk (Osk (Osk (Osk (Osk (Osk (Osk ?_)))))))))
   refine Osk (Osk (Osk (Osk (Oq Vpt (KS ?_)))))
   refine Kt (KS ?_)
   refine Oq Va (KS ?_)
   have hq := q4 hrr false (by unfold w16_WitnessSound; simp only [h78, h127, h129, h131, hg6, hg12, hg29, hg39, hg41, hg52, hR108, hg122, hg125, cs4]); subst hq
   exact Kr () rfl (.tmp rfl .nil) [] trivial
  intro h129
  have h134 := not_false h129
  refine Oq Vm (Oq (Vlen sl28) (Oq Vlss (Oq Vm ?_)))
  refine Js 78 ?_ ?_
  ·intro h136
   have g137 := dt h136
   refine Oq (VldA sh27 5) (Oq Vm (Oq Vm (Oq Vm ?_)))
   refine letv (wt_Check rv11.1 rv38.1 rv40.1 l) fun rv138 hg139 => ?_
   have hc140 := fn14 rv11.1 a17 k18 a20 k21 a23 k24 rv38.1 rv40.1 l la0 lk0 pre pre pre rv138 hg139
   refine Oc [6, 7, 8, 10] ca14 hc140 ?_
   rintro - -
   refine Oq Vpt (Oq Vm ?_)
   refine Js 85 ?_ ?_
   ·intro h141
    refine Oq Vm (Oq Vnot (Oq Vpt (Oq Vpf (KS ?_))))
    refine Kc ?_ ?_
    ·intro h143
     exact absurd h143 (by first | (simp [h129]; done) | (simp only [bne, h129]; decide) | (simp only [bne, h129, Bool.not_true, Bool.not_false]; decide) | (exfalso; omega) | (intro hq; simp only [bne, hq, Bool.not_false, Bool.not_true, reduceCtorEq] at h129))
    intro h143
    have h145 := not_false h143
    refine KS ?_
    refine JK_drawK [0, 0, 0, 0, 0, 24, 63, 127, 255, 511, 1023, 2047, 4095, 8191, 16383, 32767] fmix ?_
    refine Dv [5] (VldA sh27 0) (Dv [] Vm (Dv [] Vm (Dv [] Vm (Dv [5] (VldA sh27 0) ?_))))
    refine letv (tp_Values t k1_58 rv11.1) fun rv148 hg149 => Dx [3, 6, 7, 8, 9] [3] [3, 4, 5, 6, 0, 1, 2] (fun G => (G.g 5 0)) [fun G => SP.fact ((0 ≤ rv148.2 ∧ rv148.2 ≤ (t.length : Int))), fun G => sl (G.g 5 0) rv148.1, fun G => Cl c4 [vl ta0 tk0 t, vi rv148.2]] (fun G => xC [0, 3, 0, 1, 2] ca18 (fn18 c4 ta0 tk0 t k1_58 rv11.1 a17 k18 a20 k21 a23 k24 pre pre hd1 rv148 hg149)) ?_
    refine letv (wt_CheckAbsent rv11.1 rv38.1 rv40.1 rv148.1) fun rv153 hg154 => ?_
    refine Dx [6, 7, 8, 11, 12] [] [1, 2, 3, 4, 5, 0] (fun G => vb rv153) [fun G => SP.fact (True)] (fun G => by refine xf 3 rfl ?_; rintro he155; exact xD [4, 0, 1, 2] ca16 rfl rfl rfl (FT_open (γ := Unit) (I := fun g => True) (V := fun g => vb rv153) (B := fun g => []) (R := sl (G.g 5 0) rv148.1) sl_slice (fun aq150 kq151 eq152 => by rw [eq152]; exact FT_ent (Ent.take (is := [1, 2, 3, 0]) rfl) (fn16 rv11.1 a17 k18 a20 k21 a23 k24 rv38.1 rv40.1 rv148.1 aq150 kq151 pre pre pre rv153 hg154)))) (Dv [] Vnot ?_)
    refine bool_split (!rv153) ?_ ?_
    ·intro h156
     have h158 := not_true h156
     refine Db h156 [] Vm (Ds (Ds (Dv [] Vpt (Dv [] Vm (Dx [] [] [0] (fun G => vb w16_sane) [fun G => SP.fact (True)] (fun G => xC [] ca20 (fn20  w16_sane rfl)) (Dv [] Vpt (Dv [] Va ?_)))))))
     refine Dn ⟨by kernel_rfl, fun G => ?_⟩
     refine Jw2 [(4, vb w16_sane)] [0, 1, 2, 4, 5, 6, 7, 8, 9, 10] [SP.fact ((0 ≤ rv148.2 ∧ rv148.2 ≤ (t.length : Int))), sl (G.g 5 0) rv148.1, Cl c4 [vl ta0 tk0 t, vi rv148.2], SP.fact (True), SP.fact (True)] ?_
     generalize G.g 5 0 = c147
     refine Jf 10 rfl ?_; rintro he160
     refine Jk [0, 1, 2, 3, 4, 4, 5, 6, 7, 8, 10, 11] ?_
     refine Jo 10 ?_; rintro a161 k162 rfl
     refine Fb 32 10 fun _ => ?_
     have hq := q4 hrr w16_sane (by unfold w16_WitnessSound; simp only [h78, h127, h129, h134, h136, h141, h143, h145, h156, h158, hg6, hg12, hg29, hg39, hg41, hg52, hR108, hg122, hg125, hg139, hg149, hg154, cs4]); subst hq
     exact Kr () rfl (.tmp rfl .nil) [] trivial
    intro h156
    have h165 := not_false h156
    refine Db h156 [] Vm (Dv [] Vm (Dv [] Vnot (Dv [] Vpf ?_)))
    refine bool_split (!rv121) ?_ ?_
    ·intro h167
     exact absurd h167 (by first | (simp [h143]; done) | (simp only [bne, h143]; decide) | (simp only [bne, h143, Bool.not_true, Bool.not_false]; decide) | (exfalso; omega) | (intro hq; simp only [bne, hq, Bool.not_false, Bool.not_true, reduceCtorEq] at h143))
    intro h167
    have h169 := not_false h167
    refine Db h167 [] Vm (Ds (Dv [] Vpf (Dv [] Va ?_)))
    refine Dn ⟨by kernel_rfl, fun G => ?_⟩
    refine Jw2 [(4, vb false)] [0, 1, 2, 4, 5, 6, 7, 8, 9, 10] [SP.fact ((0 ≤ rv148.2 ∧ rv148.2 ≤ (t.length : Int))), sl (G.g 5 0) rv148.1, Cl c4 [vl ta0 tk0 t, vi rv148.2], SP.fact (True)] ?_
    generalize G.g 5 0 = c147
    refine Jf 10 rfl ?_; rintro he171
    refine Jk [0, 1, 2, 3, 4, 4, 5, 6, 7, 8, 10, 11] ?_
    refine Jo 10 ?_; rintro a172 k173 rfl
    refine Fb 32 10 fun _ => ?_
    have hq := q4 hrr false (by unfold w16_WitnessSound; simp only [h78, h127, h129, h134, h136, h141, h143, h145, h156, h165, h167, h169, hg6, hg12, hg29, hg39, hg41, hg52, hR108, hg122, hg125, hg139, hg149, hg154, cs4]); subst hq
    exact Kr () rfl (.tmp rfl .nil) [] trivial
   intro h141
   refine Osk (Osk (Oq Vpf (Oq Vpf (KS ?_))))
   refine Kf (KS ?_)
   refine JK_drawK [0, 0, 0, 0, 0, 24, 63, 127, 255, 511, 1023, 2047, 4095, 8191, 16383, 32767] fmix ?_
   refine Dv [5] (VldA sh27 0) (Dv [] Vm (Dv [] Vm (Dv [] Vm (Dv [5] (VldA sh27 0) ?_))))
   refine letv (tp_Values t k1_58 rv11.1) fun rv177 hg178 => Dx [3, 6, 7, 8, 9] [3] [3, 4, 5, 6, 0, 1, 2] (fun G => (G.g 5 0)) [fun G => SP.fact ((0 ≤ rv177.2 ∧ rv177.2 ≤ (t.length : Int))), fun G => sl (G.g 5 0) rv177.1, fun G => Cl c4 [vl ta0 tk0 t, vi rv177.2]] (fun G => xC [0, 3, 0, 1, 2] ca18 (fn18 c4 ta0 tk0 t k1_58 rv11.1 a17 k18 a20 k21 a23 k24 pre pre hd1 rv177 hg178)) ?_
   refine letv (wt_CheckAbsent rv11.1 rv38.1 rv40.1 rv177.1) fun rv182 hg183 => ?_
   refine Dx [6, 7, 8, 11, 12] [] [1, 2, 3, 4, 5, 0] (fun G => vb rv182) [fun G => SP.fact (True)] (fun G => by refine xf 3 rfl ?_; rintro he184; exact xD [4, 0, 1, 2] ca16 rfl rfl rfl (FT_open (γ := Unit) (I := fun g => True) (V := fun g => vb rv182) (B := fun g => []) (R := sl (G.g 5 0) rv177.1) sl_slice (fun aq179 kq180 eq181 => by rw [eq181]; exact FT_ent (Ent.take (is := [1, 2, 3, 0]) rfl) (fn16 rv11.1 a17 k18 a20 k21 a23 k24 rv38.1 rv40.1 rv177.1 aq179 kq180 pre pre pre rv182 hg183)))) (Dv [] Vnot ?_)
   refine bool_split (!rv182) ?_ ?_
   ·intro h185
    have h187 := not_true h185
    refine Db h185 [] Vm (Ds (Ds (Dv [] Vpt (Dv [] Vm (Dx [] [] [0] (fun G => vb w16_sane) [fun G => SP.fact (True)] (fun G => xC [] ca20 (fn20  w16_sane rfl)) (Dv [] Vpt (Dv [] Va ?_)))))))
    refine Dn ⟨by kernel_rfl, fun G => ?_⟩
    refine Jw2 [(4, vb w16_sane)] [0, 1, 2, 4, 5, 6, 7, 8, 9, 10] [SP.fact ((0 ≤ rv177.2 ∧ rv177.2 ≤ (t.length : Int))), sl (G.g 5 0) rv177.1, Cl c4 [vl ta0 tk0 t, vi rv177.2], SP.fact (True), SP.fact (True)] ?_
    generalize G.g 5 0 = c176
    refine Jf 10 rfl ?_; rintro he189
    refine Jk [0, 1, 2, 3, 4, 4, 5, 6, 7, 8, 10, 11] ?_
    refine Jo 10 ?_; rintro a190 k191 rfl
    refine Fb 32 10 fun _ => ?_
    have hq := q4 hrr w16_sane (by unfold w16_WitnessSound; simp only [h78, h127, h129, h134, h136, h141, h185, h187, hg6, hg12, hg29, hg39, hg41, hg52, hR108, hg122, hg125, hg139, hg178, hg183, cs4]); subst hq
    exact Kr () rfl (.tmp rfl .nil) [] trivial
   intro h185
   have h194 := not_false h185
   refine Db h185 [] Vm (Dv [] Vm (Dv [] Vnot (Dv [] Vpf ?_)))
   refine bool_split (!rv121) ?_ ?_
   ·intro h196
    exact absurd h196 (by first | (simp [h129]; done) | (simp only [bne, h129]; decide) | (simp only [bne, h129, Bool.not_true, Bool.not_false]; decide) | (exfalso; omega) | (intro hq; simp only [bne, hq, Bool.not_false, Bool.not_true, reduceCtorEq] at h129))
   intro h196
   have h198 := not_false h196
   refine Db h196 [] Vm (Ds (Dv [] Vpf (Dv [] Va ?_)))
   refine Dn ⟨by kernel_rfl, fun G => ?_⟩
   refine Jw2 [(4, vb false)] [0, 1, 2, 4, 5, 6, 7, 8, 9, 10] [SP.fact ((0 ≤ rv177.2 ∧ rv177.2 ≤ (t.length : Int))), sl (G.g 5 0) rv177.1, Cl c4 [vl ta0 tk0 t, vi rv177.2], SP.fact (True)] ?_
   generalize G.g 5 0 = c176
   refine Jf 10 rfl ?_; rintro he200
   refine Jk [0, 1, 2, 3, 4, 4, 5, 6, 7, 8, 10, 11] ?_
   refine Jo 10 ?_; rintro a201 k202 rfl
   refine Fb 32 10 fun _ => ?_
   have hq := q4 hrr false (by unfold w16_WitnessSound; simp only [h78, h127, h129, h134, h136, h141, h185, h194, h196, h198, hg6, hg12, hg29, hg39, hg41, hg52, hR108, hg122, hg125, hg139, hg178, hg183, cs4]); subst hq
   exact Kr () rfl (.tmp rfl .nil) [] trivial
  intro h136
  have g204 := df h136
  refine Osk (Osk (Osk (Osk (Osk (Oq Vpf (Oq Vm (Osk (Osk (Oq Vpf ?_)))))))))
  refine Oq Vpf (KS ?_)
  refine Kf (KS ?_)
  refine JK_drawK [0, 0, 0, 0, 0, 24, 63, 127, 255, 511, 1023, 2047, 4095, 8191, 16383, 32767] fmix ?_
  refine Dv [5] (VldA sh27 0) (Dv [] Vm (Dv [] Vm (Dv [] Vm (Dv [5] (VldA sh27 0) ?_))))
  refine letv (tp_Values t k1_58 rv11.1) fun rv206 hg207 => Dx [3, 6, 7, 8, 9] [3] [3, 4, 5, 6, 0, 1, 2] (fun G => (G.g 5 0)) [fun G => SP.fact ((0 ≤ rv206.2 ∧ rv206.2 ≤ (t.length : Int))), fun G => sl (G.g 5 0) rv206.1, fun G => Cl c4 [vl ta0 tk0 t, vi rv206.2]] (fun G => xC [0, 3, 0, 1, 2] ca18 (fn18 c4 ta0 tk0 t k1_58 rv11.1 a17 k18 a20 k21 a23 k24 pre pre hd1 rv206 hg207)) ?_
  refine letv (wt_CheckAbsent rv11.1 rv38.1 rv40.1 rv206.1) fun rv211 hg212 => ?_
  refine Dx [6, 7, 8, 11, 12] [] [1, 2, 3, 4, 5, 0] (fun G => vb rv211) [fun G => SP.fact (True)] (fun G => by refine xf 3 rfl ?_; rintro he213; exact xD [4, 0, 1, 2] ca16 rfl rfl rfl (FT_open (γ := Unit) (I := fun g => True) (V := fun g => vb rv211) (B := fun g => []) (R := sl (G.g 5 0) rv206.1) sl_slice (fun aq208 kq209 eq210 => by rw [eq210]; exact FT_ent (Ent.take (is := [1, 2, 3, 0]) rfl) (fn16 rv11.1 a17 k18 a20 k21 a23 k24 rv38.1 rv40.1 rv206.1 aq208 kq209 pre pre pre rv211 hg212)))) (Dv [] Vnot ?_)
  refine bool_split (!rv211) ?_ ?_
  ·intro h214
   have h216 := not_true h214
   refine Db h214 [] Vm (Ds (Ds (Dv [] Vpt (Dv [] Vm (Dx [] [] [0] (fun G => vb w16_sane) [fun G => SP.fact (True)] (fun G => xC [] ca20 (fn20  w16_sane rfl)) (Dv [] Vpt (Dv [] Va ?_)))))))
   refine Dn ⟨by kernel_rfl, fun G => ?_⟩
   refine Jw2 [(4, vb w16_sane)] [0, 1, 2, 4, 5, 6, 7, 8, 9, 10] [SP.fact ((0 ≤ rv206.2 ∧ rv206.2 ≤ (t.length : Int))), sl (G.g 5 0) rv206.1, Cl c4 [vl ta0 tk0 t, vi rv206.2], SP.fact (True), SP.fact (True)] ?_
   generalize G.g 5 0 = c205
   refine Jf 10 rfl ?_; rintro he218
   refine Jk [0, 1, 2, 3, 4, 4, 5, 6, 7, 8, 10, 11] ?_
   refine Jo 10 ?_; rintro a219 k220 rfl
   refine Fb 32 10 fun _ => ?_
   have hq := q4 hrr w16_sane (by unfold w16_WitnessSound; simp only [h78, h127, h129, h134, h136, h214, h216, hg6, hg12, hg29, hg39, hg41, hg52, hR108, hg122, hg125, hg207, hg212, cs4]); subst hq
   exact Kr () rfl (.tmp rfl .nil) [] trivial
  intro h214
  have h223 := not_false h214
  refine Db h214 [] Vm (Dv [] Vm (Dv [] Vnot (Dv [] Vpf ?_)))
  refine bool_split (!rv121) ?_ ?_
  ·intro h225
   exact absurd h225 (by first | (simp [h129]; done) | (simp only [bne, h129]; decide) | (simp only [bne, h129, Bool.not_true, Bool.not_false]; decide) | (exfalso; omega) | (intro hq; simp only [bne, hq, Bool.not_false, Bool.not_true, reduceCtorEq] at h129))
  intro h225
  have h227 := not_false h225
  refine Db h225 [] Vm (Ds (Dv [] Vpf (Dv [] Va ?_)))
  refine Dn ⟨by kernel_rfl, fun G => ?_⟩
  refine Jw2 [(4, vb false)] [0, 1, 2, 4, 5, 6, 7, 8, 9, 10] [SP.fact ((0 ≤ rv206.2 ∧ rv206.2 ≤ (t.length : Int))), sl (G.g 5 0) rv206.1, Cl c4 [vl ta0 tk0 t, vi rv206.2], SP.fact (True)] ?_
  generalize G.g 5 0 = c205
  refine Jf 10 rfl ?_; rintro he229
  refine Jk [0, 1, 2, 3, 4, 4, 5, 6, 7, 8, 10, 11] ?_
  refine Jo 10 ?_; rintro a230 k231 rfl
  refine Fb 32 10 fun _ => ?_
  have hq := q4 hrr false (by unfold w16_WitnessSound; simp only [h78, h127, h129, h134, h136, h214, h223, h225, h227, hg6, hg12, hg29, hg39, hg41, hg52, hR108, hg122, hg125, hg207, hg212, cs4]); subst hq
  exact Kr () rfl (.tmp rfl .nil) [] trivial
 intro h127
 refine Osk (Osk (Oq Vpf (Oq Vm (Oq Vm (Oq (Vlen sl28) (Oq Vlss (Oq Vm ?_)))))))
 refine Js 78 ?_ ?_
 ·intro h234
  have g235 := dt h234
  refine Oq (VldA sh27 5) (Oq Vm (Oq Vm (Oq Vm ?_)))
  refine letv (wt_Check rv11.1 rv38.1 rv40.1 l) fun rv236 hg237 => ?_
  have hc238 := fn14 rv11.1 a17 k18 a20 k21 a23 k24 rv38.1 rv40.1 l la0 lk0 pre pre pre rv236 hg237
  refine Oc [6, 7, 8, 10] ca14 hc238 ?_
  rintro - -
  refine Oq Vpt (Oq Vm ?_)
  refine Js 85 ?_ ?_
  ·intro h239
   refine Oq Vm (Oq Vnot (Oq Vpt (Oq Vpf (KS ?_))))
   refine Kc ?_ ?_
   ·intro h241
    have h243 := not_true h241
    refine KS ?_
    refine Oq Va (KS ?_)
    have hq := q4 hrr false (by unfold w16_WitnessSound; simp only [h78, h127, h234, h239, h241, h243, hg6, hg12, hg29, hg39, hg41, hg52, hR108, hg122, hg125, hg237, cs4]); subst hq
    exact Kr () rfl (.tmp rfl .nil) [] trivial
   intro h241
   have h246 := not_false h241
   refine KS ?_
   refine JK_drawK [0, 0, 0, 0, 0, 24, 63, 127, 255, 511, 1023, 2047, 4095, 8191, 16383, 32767] fmix ?_
   refine Dv [5] (VldA sh27 0) (Dv [] Vm (Dv [] Vm (Dv [] Vm (Dv [5] (VldA sh27 0) ?_))))
   refine letv (tp_Values t k1_58 rv11.1) fun rv249 hg250 => Dx [3, 6, 7, 8, 9] [3] [3, 4, 5, 6, 0, 1, 2] (fun G => (G.g 5 0)) [fun G => SP.fact ((0 ≤ rv249.2 ∧ rv249.2 ≤ (t.length : Int))), fun G => sl (G.g 5 0) rv249.1, fun G => Cl c4 [vl ta0 tk0 t, vi rv249.2]] (fun G => xC [0, 3, 0, 1, 2] ca18 (fn18 c4 ta0 tk0 t k1_58 rv11.1 a17 k18 a20 k21 a23 k24 pre pre hd1 rv249 hg250)) ?_
   refine letv (wt_CheckAbsent rv11.1 rv38.1 rv40.1 rv249.1) fun rv254 hg255 => ?_
   refine Dx [6, 7, 8, 11, 12] [] [1, 2, 3, 4, 5, 0] (fun G => vb rv254) [fun G => SP.fact (True)] (fun G => by refine xf 3 rfl ?_; rintro he256; exact xD [4, 0, 1, 2] ca16 rfl rfl rfl (FT_open (γ := Unit) (I := fun g => True) (V := fun g => vb rv254) (B := fun g => []) (R := sl (G.g 5 0) rv249.1) sl_slice (fun aq251 kq252 eq253 => by rw [eq253]; exact FT_ent (Ent.take (is := [1, 2, 3, 0]) rfl) (fn16 rv11.1 a17 k18 a20 k21 a23 k24 rv38.1 rv40.1 rv249.1 aq251 kq252 pre pre pre rv254 hg255)))) (Dv [] Vnot ?_)
   refine bool_split (!rv254) ?_ ?_
   ·intro h257
    have h259 := not_true h257
    refine Db h257 [] Vm (Ds (Ds (Dv [] Vpt (Dv [] Vm (Dx [] [] [0] (fun G => vb w16_sane) [fun G => SP.fact (True)] (fun G => xC [] ca20 (fn20  w16_sane rfl)) (Dv [] Vpt (Dv [] Va ?_)))))))
    refine Dn ⟨by kernel_rfl, fun G => ?_⟩
    refine Jw2 [(4, vb w16_sane)] [0, 1, 2, 4, 5, 6, 7, 8, 9, 10] [SP.fact ((0 ≤ rv249.2 ∧ rv249.2 ≤ (t.length : Int))), sl (G.g 5 0) rv249.1, Cl c4 [vl ta0 tk0 t, vi rv249.2], SP.fact (True), SP.fact (True)] ?_
    generalize G.g 5 0 = c248
    refine Jf 10 rfl ?_; rintro he261
    refine Jk [0, 1, 2, 3, 4, 4, 5, 6, 7, 8, 10, 11] ?_
    refine Jo 10 ?_; rintro a262 k263 rfl
    refine Fb 32 10 fun _ => ?_
    have hq := q4 hrr w16_sane (by unfold w16_WitnessSound; simp only [h78, h127, h234, h239, h241, h246, h257, h259, hg6, hg12, hg29, hg39, hg41, hg52, hR108, hg122, hg125, hg237, hg250, hg255, cs4]); subst hq
    exact Kr () rfl (.tmp rfl .nil) [] trivial
   intro h257
   have h266 := not_false h257
   refine Db h257 [] Vm (Dv [] Vm (Dv [] Vnot (Dv [] Vpf ?_)))
   refine bool_split (!rv121) ?_ ?_
   ·intro h268
    exact absurd h268 (by first | (simp [h241]; done) | (simp only [bne, h241]; decide) | (simp only [bne, h241, Bool.not_true, Bool.not_false]; decide) | (exfalso; omega) | (intro hq; simp only [bne, hq, Bool.not_false, Bool.not_true, reduceCtorEq] at h241))
   intro h268
   have h270 := not_false h268
   refine Db h268 [] Vm (Ds (Dv [] Vpf (Dv [] Va ?_)))
   refine Dn ⟨by kernel_rfl, fun G => ?_⟩
   refine Jw2 [(4, vb false)] [0, 1, 2, 4, 5, 6, 7, 8, 9, 10] [SP.fact ((0 ≤ rv249.2 ∧ rv249.2 ≤ (t.length : Int))), sl (G.g 5 0) rv249.1, Cl c4 [vl ta0 tk0 t, vi rv249.2], SP.fact (True)] ?_
   generalize G.g 5 0 = c248
   refine Jf 10 rfl ?_; rintro he272
   refine Jk [0, 1, 2, 3, 4, 4, 5, 6, 7, 8, 10, 11] ?_
   refine Jo 10 ?_; rintro a273 k274 rfl
   refine Fb 32 10 fun _ => ?_
   have hq := q4 hrr false (by unfold w16_WitnessSound; simp only [h78, h127, h234, h239, h241, h246, h257, h266, h268, h270, hg6, hg12, hg29, hg39, hg41, hg52, hR108, hg122, hg125, hg237, hg250, hg255, cs4]); subst hq
   exact Kr () rfl (.tmp rfl .nil) [] trivial
  intro h239
  refine Osk (Osk (Oq Vpf (Oq Vpf (KS ?_))))
  refine Kf (KS ?_)
  refine JK_drawK [0, 0, 0, 0, 0, 24, 63, 127, 255, 511, 1023, 2047, 4095, 8191, 16383, 32767] fmix ?_
  refine Dv [5] (VldA sh27 0) (Dv [] Vm (Dv [] Vm (Dv [] Vm (Dv [5] (VldA sh27 0) ?_))))
  refine letv (tp_Values t k1_58 rv11.1) fun rv278 hg279 => Dx [3, 6, 7, 8, 9] [3] [3, 4, 5, 6, 0, 1, 2] (fun G => (G.g 5 0)) [fun G => SP.fact ((0 ≤ rv278.2 ∧ rv278.2 ≤ (t.length : Int))), fun G => sl (G.g 5 0) rv278.1, fun G => Cl c4 [vl ta0 tk0 t, vi rv278.2]] (fun G => xC [0, 3, 0, 1, 2] ca18 (fn18 c4 ta0 tk0 t k1_58 rv11.1 a17 k18 a20 k21 a23 k24 pre pre hd1 rv278 hg279)) ?_
  refine letv (wt_CheckAbsent rv11.1 rv38.1 rv40.1 rv278.1) fun rv283 hg284 => ?_
  refine Dx [6, 7, 8, 11, 12] [] [1, 2, 3, 4, 5, 0] (fun G => vb rv283) [fun G => SP.fact (True)] (fun G => by refine xf 3 rfl ?_; rintro he285; exact xD [4, 0, 1, 2] ca16 rfl rfl rfl (FT_open (γ := Unit) (I := fun g => True) (V := fun g => vb rv283) (B := fun g => []) (R := sl (G.g 5 0) rv278.1) sl_slice (fun aq280 kq281 eq282 => by rw [eq282]; exact FT_ent (Ent.take (is := [1, 2, 3, 0]) rfl) (fn16 rv11.1 a17 k18 a20 k21 a23 k24 rv38.1 rv40.1 rv278.1 aq280 kq281 pre pre pre rv283 hg284)))) (Dv [] Vnot ?_)
  refine bool_split (!rv283) ?_ ?_
  ·intro h286
   have h288 := not_true h286
   refine Db h286 [] Vm (Ds (Ds (Dv [] Vpt (Dv [] Vm (Dx [] [] [0] (fun G => vb w16_sane) [fun G => SP.fact (True)] (fun G => xC [] ca20 (fn20  w16_sane rfl)) (Dv [] Vpt (Dv [] Va ?_)))))))
   refine Dn ⟨by kernel_rfl, fun G => ?_⟩
   refine Jw2 [(4, vb w16_sane)] [0, 1, 2, 4, 5, 6, 7, 8, 9, 10] [SP.fact ((0 ≤ rv278.2 ∧ rv278.2 ≤ (t.length : Int))), sl (G.g 5 0) rv278.1, Cl c4 [vl ta0 tk0 t, vi rv278.2], SP.fact (True), SP.fact (True)] ?_
   generalize G.g 5 0 = c277
   refine Jf 10 rfl ?_; rintro he290
   refine Jk [0, 1, 2, 3, 4, 4, 5, 6, 7, 8, 10, 11] ?_
   refine Jo 10 ?_; rintro a291 k292 rfl
   refine Fb 32 10 fun _ => ?_
   have hq := q4 hrr w16_sane (by unfold w16_WitnessSound; simp only [h78, h127, h234, h239, h286, h288, hg6, hg12, hg29, hg39, hg41, hg52, hR108, hg122, hg125, hg237, hg279, hg284, cs4]); subst hq
   exact Kr () rfl (.tmp rfl .nil) [] trivial
  intro h286
  have h295 := not_false h286
  refine Db h286 [] Vm (Dv [] Vm (Dv [] Vnot (Dv [] Vpf ?_)))
  refine bool_split (!rv121) ?_ ?_
  ·intro h297
   have h299 := not_true h297
   refine Db h297 [] Vm (Dx [] [] [0] (fun G => vb w16_sane) [fun G => SP.fact (True)] (fun G => xC [] ca20 (fn20  w16_sane rfl)) (Dv [] Vpt (Dv [] Va ?_)))
   refine Dn ⟨by kernel_rfl, fun G => ?_⟩
   refine Jw2 [(4, vb w16_sane)] [0, 1, 2, 4, 5, 6, 7, 8, 9, 10] [SP.fact ((0 ≤ rv278.2 ∧ rv278.2 ≤ (t.length : Int))), sl (G.g 5 0) rv278.1, Cl c4 [vl ta0 tk0 t, vi rv278.2], SP.fact (True), SP.fact (True)] ?_
   generalize G.g 5 0 = c277
   refine Jf 10 rfl ?_; rintro he301
   refine Jk [0, 1, 2, 3, 4, 4, 5, 6, 7, 8, 10, 11] ?_
   refine Jo 10 ?_; rintro a302 k303 rfl
   refine Fb 32 10 fun _ => ?_
   have hq := q4 hrr w16_sane (by unfold w16_WitnessSound; simp only [h78, h127, h234, h239, h286, h295, h297, h299, hg6, hg12, hg29, hg39, hg41, hg52, hR108, hg122, hg125, hg237, hg279, hg284, cs4]); subst hq
   exact Kr () rfl (.tmp rfl .nil) [] trivial
  intro h297
  have h306 := not_false h297
  refine Db h297 [] Vm (Ds (Dv [] Vpf (Dv [] Va ?_)))
  refine Dn ⟨by kernel_rfl, fun G => ?_⟩
  refine Jw2 [(4, vb false)] [0, 1, 2, 4, 5, 6, 7, 8, 9, 10] [SP.fact ((0 ≤ rv278.2 ∧ rv278.2 ≤ (t.length : Int))), sl (G.g 5 0) rv278.1, Cl c4 [vl ta0 tk0 t, vi rv278.2], SP.fact (True)] ?_
  generalize G.g 5 0 = c277
  refine Jf 10 rfl ?_; rintro he308
  refine Jk [0, 1, 2, 3, 4, 4, 5, 6, 7, 8, 10, 11] ?_
  refine Jo 10 ?_; rintro a309 k310 rfl
  refine Fb 32 10 fun _ => ?_
  have hq := q4 hrr false (by unfold w16_WitnessSound; simp only [h78, h127, h234, h239, h286, h295, h297, h306, hg6, hg12, hg29, hg39, hg41, hg52, hR108, hg122, hg125, hg237, hg279, hg284, cs4]); subst hq
  exact Kr () rfl (.tmp rfl .nil) [] trivial
 intro h234
 have g312 := df h234
 refine Osk (Osk (Osk (Osk (Osk (Oq Vpf (Oq Vm (Osk (Osk (Oq Vpf ?_)))))))))
 refine Oq Vpf (KS ?_)
 refine Kf (KS ?_)
 refine JK_drawK [0, 0, 0, 0, 0, 24, 63, 127, 255, 511, 1023, 2047, 4095, 8191, 16383, 32767] fmix ?_
 refine Dv [5] (VldA sh27 0) (Dv [] Vm (Dv [] Vm (Dv [] Vm (Dv [5] (VldA sh27 0) ?_))))
 refine letv (tp_Values t k1_58 rv11.1) fun rv314 hg315 => Dx [3, 6, 7, 8, 9] [3] [3, 4, 5, 6, 0, 1, 2] (fun G => (G.g 5 0)) [fun G => SP.fact ((0 ≤ rv314.2 ∧ rv314.2 ≤ (t.length : Int))), fun G => sl (G.g 5 0) rv314.1, fun G => Cl c4 [vl ta0 tk0 t, vi rv314.2]] (fun G => xC [0, 3, 0, 1, 2] ca18 (fn18 c4 ta0 tk0 t k1_58 rv11.1 a17 k18 a20 k21 a23 k24 pre pre hd1 rv314 hg315)) ?_
 refine letv (wt_CheckAbsent rv11.1 rv38.1 rv40.1 rv314.1) fun rv319 hg320 => ?_
 refine Dx [6, 7, 8, 11, 12] [] [1, 2, 3, 4, 5, 0] (fun G => vb rv319) [fun G => SP.fact (True)] (fun G => by refine xf 3 rfl ?_; rintro he321; exact xD [4, 0, 1, 2] ca16 rfl rfl rfl (FT_open (γ := Unit) (I := fun g => True) (V := fun g => vb rv319) (B := fun g => []) (R := sl (G.g 5 0) rv314.1) sl_slice (fun aq316 kq317 eq318 => by rw [eq318]; exact FT_ent (Ent.take (is := [1, 2, 3, 0]) rfl) (fn16 rv11.1 a17 k18 a20 k21 a23 k24 rv38.1 rv40.1 rv314.1 aq316 kq317 pre pre pre rv319 hg320)))) (Dv [] Vnot ?_)
 refine bool_split (!rv319) ?_ ?_
 ·intro h322
  have h324 := not_true h322
  refine Db h322 [] Vm (Ds (Ds (Dv [] Vpt (Dv [] Vm (Dx [] [] [0] (fun G => vb w16_sane) [fun G => SP.fact (True)] (fun G => xC [] ca20 (fn20  w16_sane rfl)) (Dv [] Vpt (Dv [] Va ?_)))))))
  refine Dn ⟨by kernel_rfl, fun G => ?_⟩
  refine Jw2 [(4, vb w16_sane)] [0, 1, 2, 4, 5, 6, 7, 8, 9, 10] [SP.fact ((0 ≤ rv314.2 ∧ rv314.2 ≤ (t.length : Int))), sl (G.g 5 0) rv314.1, Cl c4 [vl ta0 tk0 t, vi rv314.2], SP.fact (True), SP.fact (True)] ?_
  generalize G.g 5 0 = c313
  refine Jf 10 rfl ?_; rintro he326
  refine Jk [0, 1, 2, 3, 4, 4, 5, 6, 7, 8, 10, 11] ?_
  refine Jo 10 ?_; rintro a327 k328 rfl
  refine Fb 32 10 fun _ => ?_
  have hq := q4 hrr w16_sane (by unfold w16_WitnessSound; simp only [h78, h127, h234, h322, h324, hg6, hg12, hg29, hg39, hg41, hg52, hR108, hg122, hg125, hg315, hg320, cs4]); subst hq
  exact Kr () rfl (.tmp rfl .nil) [] trivial
 intro h322
 have h331 := not_false h322
 refine Db h322 [] Vm (Dv [] Vm (Dv [] Vnot (Dv [] Vpf ?_)))
 refine bool_split (!rv121) ?_ ?_
 ·intro h333
  have h335 := not_true h333
  refine Db h333 [] Vm (Dx [] [] [0] (fun G => vb w16_sane) [fun G => SP.fact (True)] (fun G => xC [] ca20 (fn20  w16_sane rfl)) (Dv [] Vpt (Dv [] Va ?_)))
  refine Dn ⟨by kernel_rfl, fun G => ?_⟩
  refine Jw2 [(4, vb w16_sane)] [0, 1, 2, 4, 5, 6, 7, 8, 9, 10] [SP.fact ((0 ≤ rv314.2 ∧ rv314.2 ≤ (t.length : Int))), sl (G.g 5 0) rv314.1, Cl c4 [vl ta0 tk0 t, vi rv314.2], SP.fact (True), SP.fact (True)] ?_
  generalize G.g 5 0 = c313
  refine Jf 10 rfl ?_; rintro he337
  refine Jk [0, 1, 2, 3, 4, 4, 5, 6, 7, 8, 10, 11] ?_
  refine Jo 10 ?_; rintro a338 k339 rfl
  refine Fb 32 10 fun _ => ?_
  have hq := q4 hrr w16_sane (by unfold w16_WitnessSound; simp only [h78, h127, h234, h322, h331, h333, h335, hg6, hg12, hg29, hg39, hg41, hg52, hR108, hg122, hg125, hg315, hg320, cs4]); subst hq
  exact Kr () rfl (.tmp rfl .nil) [] trivial
 intro h333
 have h342 := not_false h333
 refine Db h333 [] Vm (Ds (Dv [] Vpf (Dv [] Va ?_)))
 refine Dn ⟨by kernel_rfl, fun G => ?_⟩
 refine Jw2 [(4, vb false)] [0, 1, 2, 4, 5, 6, 7, 8, 9, 10] [SP.fact ((0 ≤ rv314.2 ∧ rv314.2 ≤ (t.length : Int))), sl (G.g 5 0) rv314.1, Cl c4 [vl ta0 tk0 t, vi rv314.2], SP.fact (True)] ?_
 generalize G.g 5 0 = c313
 refine Jf 10 rfl ?_; rintro he344
 refine Jk [0, 1, 2, 3, 4, 4, 5, 6, 7, 8, 10, 11] ?_
 refine Jo 10 ?_; rintro a345 k346 rfl
 refine Fb 32 10 fun _ => ?_
 have hq := q4 hrr false (by unfold w16_WitnessSound; simp only [h78, h127, h234, h322, h331, h333, h342, hg6, hg12, hg29, hg39, hg41, hg52, hR108, hg122, hg125, hg315, hg320, cs4]); subst hq
 exact Kr () rfl (.tmp rfl .nil) [] trivial
end Go.SL.G
