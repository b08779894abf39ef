/- Part 3 of the walks: mirrors, plain laws and walks used by the last text of this claim. -/
import Derived.Test.YtadicaikmebpcaaGreatDoorW2
import Derived.Test.YtadicaikmebpcaaGreatDoorProg
set_option linter.unusedVariables false
set_option linter.unusedSimpArgs false
namespace Go.SL.G
open Go Go.SL Go.Proofs
set_option maxHeartbeats 20000000
set_option maxRecDepth 100000
theorem fn34 (p : GProgram) (pa0 : Option Addr) (pk0 : Nat) (rr : GProgram) (hrr : g_CopyProgram p = rr) : FT Tryz.prog 34 #[.agg #[vl pa0 pk0 p.Funcs]] [S pa0 pk0 p.Funcs] (fun g : Value => True) (fun g => .agg #[g]) (fun g => [ds g rr.Funcs]) := by
 refine FTi Tryz.func34 fun w0 M0 F0 => Fb 40 0 fun _ => ?_
 refine KS ?_
 refine Oa (Ab [vl pa0 pk0 p.Funcs]) fun p2 => Oa (Al ze25 [.slice none 0 0]) fun p3 => KS ?_
 refine Oa (Al ze25 [.slice none 0 0]) fun p4 => KS ?_
 refine Oq Va (KS ?_)
 refine Jl [] (Ent.dsNil (α := GFunc)) ?_
 refine Kl (γ := Nat × List GFunc × Int × Option Addr × Nat) (fun (r5, q0_6, i_7, a8, k9) => ⟨[(1, p2), (2, p3), (3, p4), (4, vi i_7)], [D a8 k9 q0_6, Cl p4 [vl a8 k9 q0_6], Cl p3 [.slice none 0 0], pv p2 [vl pa0 pk0 p.Funcs], S pa0 pk0 p.Funcs], g_CopyProgram_L0 p r5 q0_6 i_7 = g_CopyProgram_L0 p (((p.Funcs.length : Int) - 0).toNat) [] 0 ∧ r5 = ((p.Funcs.length : Int) - i_7).toNat ∧ (0 : Int) ≤ i_7 ∧ i_7 ≤ (p.Funcs.length : Int) ∧ (-9223372036854775808 ≤ i_7 ∧ i_7 ≤ 9223372036854775807) ∧ (q0_6.length : Int) = i_7, r5⟩) (((p.Funcs.length : Int) - 0).toNat, [], 0, none, 0) [0, 0, 0, 0, 1] ⟨rfl, rfl, aM1, aM1, aM1, iv0⟩ ?_
 rintro ⟨r5, q0_6, i_7, a8, k9⟩ ⟨hM10, hr11, hi12, hi13, hk14, hv15⟩
 refine JJ_nx fun _ _ hL hA => ?_; dsimp only at hL hA; subst hL hA
 refine FbD 40 0 fun _ => ?_
 refine Fb 40 4 fun _ => KS ?_
 refine Oq Vm (Oq (Vfa fo25_0 3) (Oq (VldF sh23 3) (Oq (Vlen sl23) (Oq Vlss (KS ?_)))))
 refine Kc ?_ ?_
 ·intro h18
  have g19 := dt h18
  obtain ⟨r20, rfl⟩ := scc (n := r5) aM1
  refine KS ?_
  refine Oq (Vfa fo25_0 3) (Oq (VldF sh23 3) (Oq Vm (Oq (Vi sl23 4) ?_)))
  refine JJ_peek_GFunc i_7.toNat 4 rfl rng fun a21 k22 hb23 => ?_
  refine Fb 40 1 fun _ => ?_
  refine Oq (Vfa fo41_0 0) (Oq (VldF sh9 0) (Oq (Vbd st41 [.string (bs ((p.Funcs.getD i_7.toNat default).Name)), .slice none 0 0]) (Oa (Al ze41 [.string (bs (Str.mk [])), .slice none 0 0]) fun p25 => Ost (Scl [0] sh41 [.string (bs ((p.Funcs.getD i_7.toNat default).Name)), .slice none 0 0]) (KS ?_))))
  refine Oq Va (KS ?_)
  refine Jl [] (Ent.dsNil (α := GBlock)) ?_
  refine Kl (γ := Nat × List GBlock × Int × Option Addr × Nat) (fun (r26, f1_27, k_28, a29, k30) => ⟨[(1, p2), (2, p3), (3, p4), (4, vi i_7), (5, p25), (6, vi k_28)], [D a29 k30 f1_27, Cl p25 [.string (bs ((p.Funcs.getD i_7.toNat default).Name)), vl a29 k30 f1_27], D a8 k9 q0_6, Cl p4 [vl a8 k9 q0_6], Cl p3 [.slice none 0 0], pv p2 [vl pa0 pk0 p.Funcs], S pa0 pk0 p.Funcs], g_CopyProgram_L1 p i_7 r26 f1_27 k_28 = g_CopyProgram_L1 p i_7 ((((((p.Funcs.getD i_7.toNat default).Blocks).length : Int) : Int) - 0).toNat) [] 0 ∧ r26 = (((((p.Funcs.getD i_7.toNat default).Blocks).length : Int) : Int) - k_28).toNat ∧ (0 : Int) ≤ k_28 ∧ (k_28 ≤ (((p.Funcs.getD i_7.toNat default).Blocks).length : Int) ∨ k_28 = 0) ∧ (-9223372036854775808 ≤ k_28 ∧ k_28 ≤ 9223372036854775807) ∧ (f1_27.length : Int) = k_28, r26⟩) ((((((p.Funcs.getD i_7.toNat default).Blocks).length : Int) : Int) - 0).toNat, [], 0, none, 0) [0, 0, 2, 2, 2, 2, 3] ⟨rfl, rfl, aM1, (.inr rfl), aM1, iv0⟩ ?_
  rintro ⟨r26, f1_27, k_28, a29, k30⟩ ⟨hM31, hr32, hi33, hi34, hk35, hv36⟩
  refine JJ_nx fun _ _ hL hA => ?_; dsimp only at hL hA; subst hL hA
  refine FbD 40 0 fun _ => ?_
  refine FbD 40 2 fun _ => ?_
  refine Fb 40 6 fun _ => KS ?_
  refine Oq Vm (Oq (Vfa fo25_0 5) (Oq (VldF sh23 5) (Oq Vm (Oq (Vi sl23 6) ?_))))
  refine JJ_peek_GFunc i_7.toNat 6 rfl rng fun a40 k41 hb42 => ?_
  refine Fb 40 1 fun _ => ?_
  refine Oq (Vfa fo41_1 0) (Oq (VldF sh39 0) (Oq (Vlen sl39) (Oq Vlss (KS ?_))))
  refine Kc ?_ ?_
  ·intro h44
   have g45 := dt h44
   obtain ⟨r46, rfl⟩ := scc (n := r26) aM1
   refine KS ?_
   refine Oq (Vfa fo25_0 7) (Oq (VldF sh23 7) (Oq Vm (Oq (Vi sl23 8) (Oq (Vfa fo41_1 0) (Oq (VldF sh39 0) (Oq Vm (Oq (Vi sl39 1) ?_)))))))
   refine JJ_peek_GBlock k_28.toNat 1 rfl rng fun a47 k48 hb49 => ?_
   refine Fb 72 1 fun _ => ?_
   refine Oq (Vfa fo44_0 0) (Oq (VldF sh9 0) (Oq (Vbd st44 [.string (bs ((((p.Funcs.getD i_7.toNat default).Blocks).getD k_28.toNat default).Name)), .slice none 0 0]) (Oa (Al ze44 [.string (bs (Str.mk [])), .slice none 0 0]) fun p51 => Ost (Scl [0] sh44 [.string (bs ((((p.Funcs.getD i_7.toNat default).Blocks).getD k_28.toNat default).Name)), .slice none 0 0]) (KS ?_))))
   refine Oq Va (KS ?_)
   refine Jl [] (Ent.dsNil (α := GStmt)) ?_
   refine Kl (γ := Nat × List GStmt × Int × Option Addr × Nat) (fun (r52, b1_53, j_54, a55, k56) => ⟨[(1, p2), (2, p3), (3, p4), (4, vi i_7), (5, p25), (6, vi k_28), (7, p51), (8, vi j_54)], [D a55 k56 b1_53, Cl p51 [.string (bs ((((p.Funcs.getD i_7.toNat default).Blocks).getD k_28.toNat default).Name)), vl a55 k56 b1_53], D a29 k30 f1_27, Cl p25 [.string (bs ((p.Funcs.getD i_7.toNat default).Name)), vl a29 k30 f1_27], D a8 k9 q0_6, Cl p4 [vl a8 k9 q0_6], Cl p3 [.slice none 0 0], pv p2 [vl pa0 pk0 p.Funcs], S pa0 pk0 p.Funcs], g_CopyProgram_L2 p i_7 k_28 r52 b1_53 j_54 = g_CopyProgram_L2 p i_7 k_28 ((((((((p.Funcs.getD i_7.toNat default).Blocks).getD k_28.toNat default).Stmts).length : Int) : Int) - 0).toNat) [] 0 ∧ r52 = (((((((p.Funcs.getD i_7.toNat default).Blocks).getD k_28.toNat default).Stmts).length : Int) : Int) - j_54).toNat ∧ (0 : Int) ≤ j_54 ∧ (j_54 ≤ (((((p.Funcs.getD i_7.toNat default).Blocks).getD k_28.toNat default).Stmts).length : Int) ∨ j_54 = 0) ∧ (-9223372036854775808 ≤ j_54 ∧ j_54 ≤ 9223372036854775807) ∧ (b1_53.length : Int) = j_54, r52⟩) ((((((((p.Funcs.getD i_7.toNat default).Blocks).getD k_28.toNat default).Stmts).length : Int) : Int) - 0).toNat, [], 0, none, 0) [0, 0, 4, 4, 4, 4, 4, 4, 5] ⟨rfl, rfl, aM1, (.inr rfl), aM1, iv0⟩ ?_
   rintro ⟨r52, b1_53, j_54, a55, k56⟩ ⟨hM57, hr58, hi59, hi60, hk61, hv62⟩
   refine JJ_nx fun _ _ hL hA => ?_; dsimp only at hL hA; subst hL hA
   refine FbD 72 0 fun _ => ?_
   refine FbD 40 2 fun _ => ?_
   refine FbD 40 4 fun _ => ?_
   refine Fb 40 8 fun _ => KS ?_
   refine Oq Vm (Oq (Vfa fo25_0 7) (Oq (VldF sh23 7) (Oq Vm (Oq (Vi sl23 8) ?_))))
   refine JJ_peek_GFunc i_7.toNat 8 rfl rng fun a67 k68 hb69 => ?_
   refine Fb 40 1 fun _ => ?_
   refine Oq (Vfa fo41_1 0) (Oq (VldF sh39 0) (Oq Vm (Oq (Vi sl39 1) ?_)))
   refine JJ_peek_GBlock k_28.toNat 1 rfl rng fun a71 k72 hb73 => ?_
   refine Fb 72 1 fun _ => ?_
   refine Oq (Vfa fo44_1 0) (Oq (VldF sh42 0) (Oq (Vlen sl42) (Oq Vlss (KS ?_))))
   refine Kc ?_ ?_
   ·intro h75
    have g76 := dt h75
    obtain ⟨r77, rfl⟩ := scc (n := r52) aM1
    refine KS ?_
    refine Oq (Vfa fo25_0 11) (Oq (VldF sh23 11) (Oq Vm (Oq (Vi sl23 12) (Oq (Vfa fo41_1 2) (Oq (VldF sh39 2) (Oq Vm (Oq (Vi sl39 3) (Oq (Vfa fo44_1 0) (Oq (VldF sh42 0) ?_)))))))))
    refine Oq Vm (Oq (Vi sl42 1) ?_)
    refine JJ_peek_GStmt j_54.toNat 1 rfl rng fun a78 k79 a80 k81 hb82 hb83 => ?_
    unfold i64ok at hb82
    refine Fb 16 1 fun _ => ?_
    refine FoS 1 fun ho85 => ?_
    refine Fb 16 2 fun _ => ?_
    refine FoS 2 fun ho87 => ?_
    refine Oq (VldA sh47 0) (Oa (Al ze47 [vi 0, .string (bs (Str.mk [])), .slice none 0 0, .slice none 0 0]) fun p88 => Ost (Scl [0] sh47 [vi ((((((p.Funcs.getD i_7.toNat default).Blocks).getD k_28.toNat default).Stmts).getD j_54.toNat default).Op), .string (bs ((((((p.Funcs.getD i_7.toNat default).Blocks).getD k_28.toNat default).Stmts).getD j_54.toNat default).Def)), .slice a78 (((((((p.Funcs.getD i_7.toNat default).Blocks).getD k_28.toNat default).Stmts).getD j_54.toNat default).Uses).length) k79, .slice a80 (((((((p.Funcs.getD i_7.toNat default).Blocks).getD k_28.toNat default).Stmts).getD j_54.toNat default).Targets).length) k81]) (KS ?_))
    refine Jp 0 fun hp89 => ?_
    refine JK_drawK [0, 0, 2, 7, 0, 0, 32, 127, 111, 511, 1023, 2047] fmix ?_
    refine Dx [] [] [0] (fun G => (G.g 0 0)) [fun G => Cr (G.g 0 0) 0 []] (fun G => xA (As0 sl45)) (Dv [0] (Vfa fo47_2 0) (Dv [1] (VldF sh45 0) (Dx [3, 18] [18] [1, 0] (fun G => (G.g 3 0)) [fun G => os (G.g 3 0) ((((((p.Funcs.getD i_7.toNat default).Blocks).getD k_28.toNat default).Stmts).getD j_54.toNat default).Uses)] (fun G => xp [1] rfl (Ent.crNil (α := Str) _) (xA (Ap0 [0, 0] sl45 sl45 sz45))) (Dx [] [] [0] (fun G => (G.g 4 0)) [fun G => Cr (G.g 4 0) 0 []] (fun G => xA (As0 sl45)) (Dv [0] (Vfa fo47_3 0) (Dv [1] (VldF sh45 0) (Dx [4, 20] [20] [1, 0] (fun G => (G.g 7 0)) [fun G => os (G.g 7 0) ((((((p.Funcs.getD i_7.toNat default).Blocks).getD k_28.toNat default).Stmts).getD j_54.toNat default).Targets)] (fun G => xp [1] rfl (Ent.crNil (α := Str) _) (xA (Ap0 [0, 0] sl45 sl45 sz45))) (Dv [0] (Vfa fo47_2 0) (Dx0 [1, 19] [1] [1, 0] [fun G => Cl p88 [vi ((((((p.Funcs.getD i_7.toNat default).Blocks).getD k_28.toNat default).Stmts).getD j_54.toNat default).Op), .string (bs ((((((p.Funcs.getD i_7.toNat default).Blocks).getD k_28.toNat default).Stmts).getD j_54.toNat default).Def)), (G.g 3 0), .slice a80 (((((((p.Funcs.getD i_7.toNat default).Blocks).getD k_28.toNat default).Stmts).getD j_54.toNat default).Targets).length) k81]] (fun G => x1 1 rfl os_one fun ho94 => (xS (OpS.frame [0] rfl (OpS.storeClF [(G.g 3 0)] [vi ((((((p.Funcs.getD i_7.toNat default).Blocks).getD k_28.toNat default).Stmts).getD j_54.toNat default).Op), .string (bs ((((((p.Funcs.getD i_7.toNat default).Blocks).getD k_28.toNat default).Stmts).getD j_54.toNat default).Def)), (G.g 3 0), .slice a80 (((((((p.Funcs.getD i_7.toNat default).Blocks).getD k_28.toNat default).Stmts).getD j_54.toNat default).Targets).length) k81] rfl rfl rfl sh45 (cells_of_one ho94) rfl (by simp only [List.all_cons, List.all_nil, ho94, Bool.and_true, Bool.true_and] <;> rfl) aB1 rfl)))) ?_)))))))))
    refine Dv [0] (Vfa fo47_3 0) (Dx0 [21, 22] [22] [1, 0] [fun G => Cl p88 [vi ((((((p.Funcs.getD i_7.toNat default).Blocks).getD k_28.toNat default).Stmts).getD j_54.toNat default).Op), .string (bs ((((((p.Funcs.getD i_7.toNat default).Blocks).getD k_28.toNat default).Stmts).getD j_54.toNat default).Def)), (G.g 3 0), (G.g 7 0)]] (fun G => x1 0 rfl os_one fun ho95 => (xS (OpS.frame [1] rfl (OpS.storeClF [(G.g 7 0)] [vi ((((((p.Funcs.getD i_7.toNat default).Blocks).getD k_28.toNat default).Stmts).getD j_54.toNat default).Op), .string (bs ((((((p.Funcs.getD i_7.toNat default).Blocks).getD k_28.toNat default).Stmts).getD j_54.toNat default).Def)), (G.g 3 0), (G.g 7 0)] rfl rfl rfl sh45 (cells_of_one ho95) rfl (by simp only [List.all_cons, List.all_nil, ho95, Bool.and_true, Bool.true_and] <;> rfl) aB1 rfl)))) ?_)
    refine Dn ⟨by kernel_rfl, fun G => ?_⟩
    refine Jw2 [(1, p2), (2, p3), (3, p4), (4, vi i_7), (5, p25), (6, vi k_28), (7, p51), (8, vi j_54), (9, p88)] [0, 2, 3, 4, 5, 6, 7, 8, 9, 10, 11, 12, 13, 14, 15, 16, 17] [os (G.g 3 0) ((((((p.Funcs.getD i_7.toNat default).Blocks).getD k_28.toNat default).Stmts).getD j_54.toNat default).Uses), os (G.g 7 0) ((((((p.Funcs.getD i_7.toNat default).Blocks).getD k_28.toNat default).Stmts).getD j_54.toNat default).Targets), Cl p88 [vi ((((((p.Funcs.getD i_7.toNat default).Blocks).getD k_28.toNat default).Stmts).getD j_54.toNat default).Op), .string (bs ((((((p.Funcs.getD i_7.toNat default).Blocks).getD k_28.toNat default).Stmts).getD j_54.toNat default).Def)), (G.g 3 0), (G.g 7 0)]] ?_
    generalize G.g 3 0 = c91, G.g 7 0 = c93
    refine Jk [1, 2, 3, 4, 5, 6, 7, 8, 8, 8, 8, 8, 8, 8, 8, 9, 10, 10, 10] ?_
    refine Jo 16 ?_; rintro a96 k97 rfl
    refine Jo 17 ?_; rintro a98 k99 rfl
    refine KS ?_
    refine Oq (Vfa fo44_1 8) (Oq (VldF sh42 8) (Oq (VldA sh47 18) (Oa (AsV sl42 sz42 [.agg #[vi ((((((p.Funcs.getD i_7.toNat default).Blocks).getD k_28.toNat default).Stmts).getD j_54.toNat default).Op), .string (bs ((((((p.Funcs.getD i_7.toNat default).Blocks).getD k_28.toNat default).Stmts).getD j_54.toNat default).Def)), .slice a96 (((((((p.Funcs.getD i_7.toNat default).Blocks).getD k_28.toNat default).Stmts).getD j_54.toNat default).Uses).length) k97, .slice a98 (((((((p.Funcs.getD i_7.toNat default).Blocks).getD k_28.toNat default).Stmts).getD j_54.toNat default).Targets).length) k99]] [vi ((((((p.Funcs.getD i_7.toNat default).Blocks).getD k_28.toNat default).Stmts).getD j_54.toNat default).Op), .string (bs ((((((p.Funcs.getD i_7.toNat default).Blocks).getD k_28.toNat default).Stmts).getD j_54.toNat default).Def)), .slice a96 (((((((p.Funcs.getD i_7.toNat default).Blocks).getD k_28.toNat default).Stmts).getD j_54.toNat default).Uses).length) k97, .slice a98 (((((((p.Funcs.getD i_7.toNat default).Blocks).getD k_28.toNat default).Stmts).getD j_54.toNat default).Targets).length) k99]) fun c100 => ?_)))
    refine Jo 0 ?_; rintro a101 k102 rfl
    refine Jl [0, 16, 16] (Ent.crD (α := GStmt) (A := [O a96 k97 ((((((p.Funcs.getD i_7.toNat default).Blocks).getD k_28.toNat default).Stmts).getD j_54.toNat default).Uses), O a98 k99 ((((((p.Funcs.getD i_7.toNat default).Blocks).getD k_28.toNat default).Stmts).getD j_54.toNat default).Targets)]) _ (((((p.Funcs.getD i_7.toNat default).Blocks).getD k_28.toNat default).Stmts).getD j_54.toNat default) _ aB1 (innmk_GStmt (z0 := (((((p.Funcs.getD i_7.toNat default).Blocks).getD k_28.toNat default).Stmts).getD j_54.toNat default).Op) (z1 := (((((p.Funcs.getD i_7.toNat default).Blocks).getD k_28.toNat default).Stmts).getD j_54.toNat default).Def) aD1 aD1)) ?_
    refine Oa (ApD [8, 0] sl42 sl42 sz42) fun c103 => ?_
    refine Jo 0 ?_; rintro a104 k105 rfl
    refine FbD 72 0 fun _ => ?_
    have hn107 := la b1_53 ([(((((p.Funcs.getD i_7.toNat default).Blocks).getD k_28.toNat default).Stmts).getD j_54.toNat default)] : List GStmt)
    refine Oq (Vfa fo44_1 8) (Ost (SclF [8] sh42 [.string (bs ((((p.Funcs.getD i_7.toNat default).Blocks).getD k_28.toNat default).Name)), .slice a104 ((b1_53 ++ [(((((p.Funcs.getD i_7.toNat default).Blocks).getD k_28.toNat default).Stmts).getD j_54.toNat default)]).length) k105]) (KS ?_))
    refine Oq Vm (Oq Vadd (Oq Va (KS ?_)))
    exact Kg (r77, (b1_53 ++ [(((((p.Funcs.getD i_7.toNat default).Blocks).getD k_28.toNat default).Stmts).getD j_54.toNat default)]), (j_54 + 1), a104, k105) [1, 0, 7, 7, 7, 7, 7, 7, 8] ⟨(q3 hM57 (by simp only [g_CopyProgram_L2, h18, h44, h75, cs4])), aM1, aM1, aM1, aM1, iv1⟩
   intro h75
   have g108 := df h75
   obtain rfl : r52 = 0 := by omega
   refine Ke ?_
   have hR109 := q2 hM57 b1_53 (by simp only [g_CopyProgram_L2, h18, h44, h75, cs4])
   refine KS ?_
   refine Oq (Vfa fo41_1 7) (Oq (VldF sh39 7) (Oq (VldA sh44 5) (Oa (AsV sl39 sz39 [.agg #[.string (bs ((((p.Funcs.getD i_7.toNat default).Blocks).getD k_28.toNat default).Name)), vl a55 k56 b1_53]] [.string (bs ((((p.Funcs.getD i_7.toNat default).Blocks).getD k_28.toNat default).Name)), vl a55 k56 b1_53]) fun c110 => ?_)))
   refine Jo 0 ?_; rintro a111 k112 rfl
   refine Jl [0, 4] (Ent.crD (α := GBlock) (A := [D a55 k56 b1_53]) _ (GBlock.mk ((((p.Funcs.getD i_7.toNat default).Blocks).getD k_28.toNat default).Name) b1_53) _ aB1 (innmk_GBlock (z0 := (((p.Funcs.getD i_7.toNat default).Blocks).getD k_28.toNat default).Name) aD1)) ?_
   refine Oa (ApD [6, 0] sl39 sl39 sz39) fun c113 => ?_
   refine Jo 0 ?_; rintro a114 k115 rfl
   refine FbD 40 0 fun _ => ?_
   have hn117 := la f1_27 ([(GBlock.mk ((((p.Funcs.getD i_7.toNat default).Blocks).getD k_28.toNat default).Name) b1_53)] : List GBlock)
   refine Oq (Vfa fo41_1 6) (Ost (SclF [6] sh39 [.string (bs ((p.Funcs.getD i_7.toNat default).Name)), .slice a114 ((f1_27 ++ [(GBlock.mk ((((p.Funcs.getD i_7.toNat default).Blocks).getD k_28.toNat default).Name) b1_53)]).length) k115]) (KS ?_))
   refine Oq Vm (Oq Vadd (Oq Va (KS ?_)))
   exact Kg (r46, (f1_27 ++ [(GBlock.mk ((((p.Funcs.getD i_7.toNat default).Blocks).getD k_28.toNat default).Name) b1_53)]), (k_28 + 1), a114, k115) [1, 0, 5, 5, 5, 5, 6] ⟨(q3 hM31 (by simp only [g_CopyProgram_L1, h18, h44, h75, hR109, cs4])), aM1, aM1, aM1, aM1, iv1⟩
  intro h44
  have g118 := df h44
  obtain rfl : r26 = 0 := by omega
  refine Ke ?_
  have hR119 := q2 hM31 f1_27 (by simp only [g_CopyProgram_L1, h18, h44, cs4])
  refine KS ?_
  refine Oq (Vfa fo25_0 5) (Oq (VldF sh23 5) (Oq (VldA sh41 3) (Oa (AsV sl23 sz23 [.agg #[.string (bs ((p.Funcs.getD i_7.toNat default).Name)), vl a29 k30 f1_27]] [.string (bs ((p.Funcs.getD i_7.toNat default).Name)), vl a29 k30 f1_27]) fun c120 => ?_)))
  refine Jo 0 ?_; rintro a121 k122 rfl
  refine Jl [0, 2] (Ent.crD (α := GFunc) (A := [D a29 k30 f1_27]) _ (GFunc.mk ((p.Funcs.getD i_7.toNat default).Name) f1_27) _ aB1 (innmk_GFunc (z0 := (p.Funcs.getD i_7.toNat default).Name) aD1)) ?_
  refine Oa (ApD [4, 0] sl23 sl23 sz23) fun c123 => ?_
  refine Jo 0 ?_; rintro a124 k125 rfl
  refine FbD 40 0 fun _ => ?_
  have hn127 := la q0_6 ([(GFunc.mk ((p.Funcs.getD i_7.toNat default).Name) f1_27)] : List GFunc)
  refine Oq (Vfa fo25_0 4) (Ost (SclF [4] sh23 [.slice a124 ((q0_6 ++ [(GFunc.mk ((p.Funcs.getD i_7.toNat default).Name) f1_27)]).length) k125]) (KS ?_))
  refine Oq Vm (Oq Vadd (Oq Va (KS ?_)))
  exact Kg (r20, (q0_6 ++ [(GFunc.mk ((p.Funcs.getD i_7.toNat default).Name) f1_27)]), (i_7 + 1), a124, k125) [1, 0, 3, 3, 4] ⟨(q3 hM10 (by simp only [g_CopyProgram_L0, h18, h44, hR119, cs4])), aM1, aM1, aM1, aM1, iv1⟩
 intro h18
 have g128 := df h18
 obtain rfl : r5 = 0 := by omega
 refine Ke ?_
 have hR129 := q2 hM10 q0_6 (by simp only [g_CopyProgram_L0, h18, cs4])
 refine KS ?_
 refine Oq (VldA sh25 1) (Ost (Scl [2] sh25 [vl a8 k9 q0_6]) (KS ?_))
 have hq := q4 hrr (GProgram.mk q0_6) (by simp only [g_CopyProgram, h18, hR129, cs4]); subst hq
 exact Kr (vl a8 k9 q0_6) rfl (.cellN 0 rfl sh25 rfl (reads_Cl _ _) rfl .nil) [1] trivial
theorem fn11 (tP : Value) (ta : Option Addr) (tk : Nat) (tT : List Int) (tI : Int) (p : GProgram) (pa0 : Option Addr) (pk0 : Nat) (htI : 0 ≤ tI ∧ tI ≤ (tT.length : Int)) (hsp : SpP p) (rr : GProgram × Int) (hrr : tp_SpoilProgram tT tI p = rr) : FT Tryz.prog 11 #[tP, .agg #[vl pa0 pk0 p.Funcs]] [Cl tP [vl ta tk tT, vi tI], S ta tk tT, S pa0 pk0 p.Funcs] (fun g : Value => (0 ≤ rr.2 ∧ rr.2 ≤ (tT.length : Int))) (fun g => .agg #[g]) (fun g => [sl g rr.1.Funcs, Cl tP [vl ta tk tT, vi rr.2]]) := by
 refine FTi Tryz.func11 fun w0 M0 F0 => Fb 8 1 fun _ => Fo 1 fun ho2 => Fb 40 2 fun _ => ?_
 refine KS ?_
 refine Oa (Ab [vl pa0 pk0 p.Funcs]) fun p4 => Oa (Al ze25 [.slice none 0 0]) fun p5 => KS ?_
 refine Oq (VldA sh25 1) ?_
 refine letv (g_CopyProgram p) fun rv7 hg8 => ?_
 have hc9 := fn34 p pa0 pk0 rv7 hg8
 refine Oc [4] ca34 hc9 ?_
 rintro c6 -
 refine Jo 0 ?_; rintro a10 k11 rfl
 refine FbD 40 0 fun _ => ?_
 refine Oa (Al ze25 [.slice none 0 0]) fun p13 => Ost (Scl [0] sh25 [vl a10 k11 rv7.Funcs]) (KS ?_)
 refine Jp 0 fun hp14 => ?_
 refine JK_drawK [0, 1, 0, 0, 8, 24, 60, 127, 255] fmix ?_
 refine Dv [0] (Vfa fo25_0 0) (Dv [1] (VldF sh23 0) (Dv [] Vm (Dv [0] (Vfa fo25_0 0) (Dv [1] (VldF sh23 0) (Dv [] (Vlen sl23) ?_)))))
 refine letv (tp_Next tT tI (rv7.Funcs.length : Int)) fun rv15 hg16 => ?_
 have hs1 := spoil_1 hsp (by assumption) hg16
 refine Dx [5, 6] [5] [2, 0, 1] (fun G => vi rv15.1) [fun G => SP.fact (i64ok rv15.1 ∧ (0 ≤ rv15.2 ∧ rv15.2 ≤ (tT.length : Int)) ∧ (0 ≤ rv15.1 ∧ (rv15.1 < (rv7.Funcs.length : Int) ∨ rv15.1 = 0))), fun G => Cl tP [vl ta tk tT, vi rv15.2]] (fun G => xC [0, 0] ca10 (fn10 tP ta tk tT tI ((rv7.Funcs.length : Int)) pre pre rv15 hg16)) ?_
 refine Dx [2, 8] [] [0, 0] (fun G => (eptr 2 (vl a10 k11 rv7.Funcs) rv15.1.toNat)) [] (fun G => by refine xf 1 rfl ?_; rintro ⟨he17, he18, he19⟩; unfold i64ok at he17; exact xV (Vi sl23 0)) (Dv [] Va ?_)
 refine Dn ⟨by kernel_rfl, fun G => ?_⟩
 refine Jw2 [(0, tP), (4, p5), (5, p13), (6, (eptr 2 (vl a10 k11 rv7.Funcs) rv15.1.toNat))] [0, 1, 2, 3, 4, 6, 7] [SP.fact (i64ok rv15.1 ∧ (0 ≤ rv15.2 ∧ rv15.2 ≤ (tT.length : Int)) ∧ (0 ≤ rv15.1 ∧ (rv15.1 < (rv7.Funcs.length : Int) ∨ rv15.1 = 0))), Cl tP [vl ta tk tT, vi rv15.2]] ?_
 refine Jf 7 rfl ?_; rintro ⟨he20, he21, he22⟩
 unfold i64ok at he20
 refine Jk [1, 1, 1, 1, 2, 3, 5] ?_
 refine KS ?_
 refine JJ_openD_GFunc rv15.1.toNat 1 rfl rng fun a23 k24 hb25 => ?_
 refine FbD 40 1 fun _ => ?_
 refine JK_drawK [0, 1, 3, 7, 0, 0, 32, 96, 224, 480, 1008, 2047, 4095] fmix ?_
 refine Dv [] Vm (Dv [0] (Vn 0) (Dv [0] (Vfa fo41_1 0) (Dv [0] (VldF sh39 0) (Dv [] Vm (Dv [] Vm (Dv [0] (Vn 0) (Dv [0] (Vfa fo41_1 0) (Dv [0] (VldF sh39 0) (Dv [] (Vlen sl39) ?_)))))))))
 refine letv (tp_Next tT rv15.2 (((rv7.Funcs.getD rv15.1.toNat default).Blocks).length : Int)) fun rv27 hg28 => Dx [5, 7] [7] [2, 0, 1] (fun G => vi rv27.1) [fun G => SP.fact (i64ok rv27.1 ∧ (0 ≤ rv27.2 ∧ rv27.2 ≤ (tT.length : Int)) ∧ (0 ≤ rv27.1 ∧ (rv27.1 < (((rv7.Funcs.getD rv15.1.toNat default).Blocks).length : Int) ∨ rv27.1 = 0))), fun G => Cl tP [vl ta tk tT, vi rv27.2]] (fun G => xC [1, 0] ca10 (fn10 tP ta tk tT rv15.2 ((((rv7.Funcs.getD rv15.1.toNat default).Blocks).length : Int)) pre pre rv27 hg28)) ?_
 refine Dx [1, 8] [] [0, 0] (fun G => (eptr 2 (vl a23 k24 ((rv7.Funcs.getD rv15.1.toNat default).Blocks)) rv27.1.toNat)) [] (fun G => by refine xf 1 rfl ?_; rintro ⟨he29, he30, he31⟩; unfold i64ok at he29; exact xV (Vi sl39 0)) (Dv [] Va ?_)
 refine Dn ⟨by kernel_rfl, fun G => ?_⟩
 refine Jw2 [(0, tP), (4, p5), (5, p13), (6, (eptr 2 (vl a10 k11 rv7.Funcs) rv15.1.toNat)), (7, (eptr 2 (vl a23 k24 ((rv7.Funcs.getD rv15.1.toNat default).Blocks)) rv27.1.toNat))] [0, 1, 2, 3, 4, 5, 6] [SP.fact (i64ok rv27.1 ∧ (0 ≤ rv27.2 ∧ rv27.2 ≤ (tT.length : Int)) ∧ (0 ≤ rv27.1 ∧ (rv27.1 < (((rv7.Funcs.getD rv15.1.toNat default).Blocks).length : Int) ∨ rv27.1 = 0))), Cl tP [vl ta tk tT, vi rv27.2]] ?_
 refine Jf 7 rfl ?_; rintro ⟨he32, he33, he34⟩
 unfold i64ok at he32
 refine Jk [0, 0, 0, 0, 0, 1, 2, 4] ?_
 refine KS ?_
 refine Oq Vm ?_
 refine JJ_openD_GBlock rv27.1.toNat 1 rfl rng fun a35 k36 hb37 => ?_
 refine FbD 72 1 fun _ => ?_
 refine Oq (Vn 0) (Oq (Vfa fo44_1 0) (Oq (VldF sh42 0) (Oq (Vlen sl42) (Oq Veql (KS ?_)))))
 refine Kc ?_ ?_
 ·intro h39
  have g40 := eq_of_beq h39
  refine KS ?_
  refine JK_drawK [0, 0, 2, 6, 14, 0, 32, 96, 254, 511, 1023, 2047] fmix ?_
  refine Dv [] Vm (Dv [] Vm (Dv [0] (Vn 0) (Dv [0] (Vfa fo44_1 0) (Dv [0] (VldF sh42 0) (Dv [] Vm ?_)))))
  refine letv (tp_stmt tT rv27.2 3) fun rv43 hg44 => ?_
  refine Dx [6, 8] [8] [4, 0, 1, 1, 1] (fun G => .agg #[vi rv43.1.Op, .string (bs rv43.1.Def), (G.g 6 0), (G.g 6 1)]) [fun G => SP.fact (i64ok rv43.1.Op ∧ rv43.1.Def.b.length ≤ 140737488355328 ∧ (0 ≤ rv43.2 ∧ rv43.2 ≤ (tT.length : Int))), fun G => os (G.g 6 0) rv43.1.Uses, fun G => os (G.g 6 1) rv43.1.Targets, fun G => Cl tP [vl ta tk tT, vi rv43.2]] (fun G => xC [1, 0] ca21 (fn21 tP ta tk tT rv27.2 3 pre pre pre rv43 hg44)) (Dx [] [] [0] (fun G => (G.g 7 0)) [fun G => Cr (G.g 7 0) 1 [vi rv43.1.Op, .string (bs rv43.1.Def), (G.g 6 0), (G.g 6 1)]] (fun G => xA (AsV sl42 sz42 [.agg #[vi rv43.1.Op, .string (bs rv43.1.Def), (G.g 6 0), (G.g 6 1)]] [vi rv43.1.Op, .string (bs rv43.1.Def), (G.g 6 0), (G.g 6 1)])) ?_)
  have hn47 := la ((((rv7.Funcs.getD rv15.1.toNat default).Blocks).getD rv27.1.toNat default).Stmts) ([rv43.1] : List GStmt)
  refine Dx [1, 9, 10, 11, 13] [1, 10, 11, 13] [1, 0] (fun G => (G.g 8 0)) [fun G => ds (G.g 8 0) (((((rv7.Funcs.getD rv15.1.toNat default).Blocks).getD rv27.1.toNat default).Stmts ++ [rv43.1]) : List GStmt)] (fun G => by refine xf 1 rfl ?_; rintro ⟨he48, he49, he50⟩; unfold i64ok at he48; exact xp [4, 2, 2] rfl (Ent.crD (α := GStmt) (A := [os (G.g 6 0) rv43.1.Uses, os (G.g 6 1) rv43.1.Targets]) _ rv43.1 _ aB1 (innmk_GStmt (z0 := rv43.1.Op) (z1 := rv43.1.Def) aD1 aD1)) (xA (ApD [1, 0] sl42 sl42 sz42))) (Dv [0] (Vn 0) (Dv [0] (Vfa fo44_1 0) (Dx0 [0, 14] [0] [1, 0] [fun G => dh (vl a23 k24 ((rv7.Funcs.getD rv15.1.toNat default).Blocks)) ((rv7.Funcs.getD rv15.1.toNat default).Blocks : List GBlock) rv27.1.toNat [.string (bs ((((rv7.Funcs.getD rv15.1.toNat default).Blocks).getD rv27.1.toNat default).Name)), (G.g 8 0)]] (fun G => x1 1 rfl ds_one fun ho51 => (xS (SoHr (α := GBlock) [0] sh42 [(G.g 8 0)] [.string (bs ((((rv7.Funcs.getD rv15.1.toNat default).Blocks).getD rv27.1.toNat default).Name)), (G.g 8 0)] (cells_of_one ho51) rfl (by simp only [List.all_cons, List.all_nil, ho51, Bool.and_true, Bool.true_and] <;> rfl)))) ?_)))
  refine Dn ⟨by kernel_rfl, fun G => ?_⟩
  refine Jw2 [(4, p5), (5, p13)] [2, 3, 4, 5, 6, 7] [SP.fact (i64ok rv43.1.Op ∧ rv43.1.Def.b.length ≤ 140737488355328 ∧ (0 ≤ rv43.2 ∧ rv43.2 ≤ (tT.length : Int))), Cl tP [vl ta tk tT, vi rv43.2], ds (G.g 8 0) (((((rv7.Funcs.getD rv15.1.toNat default).Blocks).getD rv27.1.toNat default).Stmts ++ [rv43.1]) : List GStmt), dh (vl a23 k24 ((rv7.Funcs.getD rv15.1.toNat default).Blocks)) ((rv7.Funcs.getD rv15.1.toNat default).Blocks : List GBlock) rv27.1.toNat [.string (bs ((((rv7.Funcs.getD rv15.1.toNat default).Blocks).getD rv27.1.toNat default).Name)), (G.g 8 0)]] ?_
  generalize G.g 8 0 = c46
  refine Jf 6 rfl ?_; rintro ⟨he52, he53, he54⟩
  unfold i64ok at he52
  refine Jk [0, 0, 0, 0, 1, 2, 4, 4, 4] ?_
  refine Jo 7 ?_; rintro a55 k56 rfl
  refine FbD 72 7 fun _ => ?_
  refine KS ?_
  refine Oq (VldA sh25 1) (Ost (Scl [2] sh25 [vl a10 k11 rv7.Funcs]) (KS ?_))
  refine Jl [8, 7] (Ent.closeD (A := [D a55 k56 (((((rv7.Funcs.getD rv15.1.toNat default).Blocks).getD rv27.1.toNat default).Stmts ++ [rv43.1]) : List GStmt)]) _ _ _ _ (GBlock.mk ((((rv7.Funcs.getD rv15.1.toNat default).Blocks).getD rv27.1.toNat default).Name) ((((rv7.Funcs.getD rv15.1.toNat default).Blocks).getD rv27.1.toNat default).Stmts ++ [rv43.1])) (innmk_GBlock (z0 := (((rv7.Funcs.getD rv15.1.toNat default).Blocks).getD rv27.1.toNat default).Name) aD1)) ?_
  refine Jl [2, 0] (Ent.closeD (A := [ds (vl a23 k24 ((rv7.Funcs.getD rv15.1.toNat default).Blocks)) ((((rv7.Funcs.getD rv15.1.toNat default).Blocks).set rv27.1.toNat (GBlock.mk ((((rv7.Funcs.getD rv15.1.toNat default).Blocks).getD rv27.1.toNat default).Name) ((((rv7.Funcs.getD rv15.1.toNat default).Blocks).getD rv27.1.toNat default).Stmts ++ [rv43.1]))) : List GBlock)]) _ _ _ _ (GFunc.mk ((rv7.Funcs.getD rv15.1.toNat default).Name) (((rv7.Funcs.getD rv15.1.toNat default).Blocks).set rv27.1.toNat (GBlock.mk ((((rv7.Funcs.getD rv15.1.toNat default).Blocks).getD rv27.1.toNat default).Name) ((((rv7.Funcs.getD rv15.1.toNat default).Blocks).getD rv27.1.toNat default).Stmts ++ [rv43.1])))) (innmk_GFunc (z0 := (rv7.Funcs.getD rv15.1.toNat default).Name) aD1)) ?_
  refine Jl [0] (Ent.dsF _ _) ?_
  have hq := q4 hrr ((GProgram.mk (rv7.Funcs.set rv15.1.toNat (GFunc.mk ((rv7.Funcs.getD rv15.1.toNat default).Name) (((rv7.Funcs.getD rv15.1.toNat default).Blocks).set rv27.1.toNat (GBlock.mk ((((rv7.Funcs.getD rv15.1.toNat default).Blocks).getD rv27.1.toNat default).Name) ((((rv7.Funcs.getD rv15.1.toNat default).Blocks).getD rv27.1.toNat default).Stmts ++ [rv43.1])))))), rv43.2) (by simp only [tp_SpoilProgram, h39, hg8, hg16, hg28, hg44, cs4]); subst hq
  exact Kr (vl a10 k11 rv7.Funcs) rfl (.cellN 1 rfl sh25 rfl (reads_Cl _ _) rfl .nil) [0, 6] en
 intro h39
 have g58 := ne_of_beq_false h39
 refine KS ?_
 refine JK_drawK [0, 1, 3, 7, 0, 0, 32, 96, 224, 480, 1008, 2047, 4095] fmix ?_
 refine Dv [] Vm (Dv [0] (Vn 0) (Dv [0] (Vfa fo44_1 0) (Dv [0] (VldF sh42 0) (Dv [] Vm (Dv [] Vm (Dv [0] (Vn 0) (Dv [0] (Vfa fo44_1 0) (Dv [0] (VldF sh42 0) (Dv [] (Vlen sl42) ?_)))))))))
 refine letv (tp_Next tT rv27.2 (((((rv7.Funcs.getD rv15.1.toNat default).Blocks).getD rv27.1.toNat default).Stmts).length : Int)) fun rv59 hg60 => ?_
 have hs2 := spoil_2 hsp (by assumption) rv15.1.toNat rv27.1.toNat
 have hs3 := spoil_3 hsp (by assumption) rv15.1.toNat rv27.1.toNat rv59.1.toNat
 refine Dx [6, 8] [8] [2, 0, 1] (fun G => vi rv59.1) [fun G => SP.fact (i64ok rv59.1 ∧ (0 ≤ rv59.2 ∧ rv59.2 ≤ (tT.length : Int)) ∧ (0 ≤ rv59.1 ∧ (rv59.1 < (((((rv7.Funcs.getD rv15.1.toNat default).Blocks).getD rv27.1.toNat default).Stmts).length : Int) ∨ rv59.1 = 0))), fun G => Cl tP [vl ta tk tT, vi rv59.2]] (fun G => xC [1, 0] ca10 (fn10 tP ta tk tT rv27.2 ((((((rv7.Funcs.getD rv15.1.toNat default).Blocks).getD rv27.1.toNat default).Stmts).length : Int)) pre pre rv59 hg60)) ?_
 refine Dx [1, 9] [] [0, 0] (fun G => (eptr 4 (.slice a35 (((((rv7.Funcs.getD rv15.1.toNat default).Blocks).getD rv27.1.toNat default).Stmts).length) k36) rv59.1.toNat)) [] (fun G => by refine xf 1 rfl ?_; rintro ⟨he61, he62, he63⟩; unfold i64ok at he61; exact xV (Vi sl42 0)) (Dv [] Va ?_)
 refine Dn ⟨by kernel_rfl, fun G => ?_⟩
 refine Jw2 [(0, tP), (4, p5), (5, p13), (6, (eptr 2 (vl a10 k11 rv7.Funcs) rv15.1.toNat)), (7, (eptr 2 (vl a23 k24 ((rv7.Funcs.getD rv15.1.toNat default).Blocks)) rv27.1.toNat)), (8, (eptr 4 (.slice a35 (((((rv7.Funcs.getD rv15.1.toNat default).Blocks).getD rv27.1.toNat default).Stmts).length) k36) rv59.1.toNat))] [0, 1, 2, 3, 4, 5, 6, 7] [SP.fact (i64ok rv59.1 ∧ (0 ≤ rv59.2 ∧ rv59.2 ≤ (tT.length : Int)) ∧ (0 ≤ rv59.1 ∧ (rv59.1 < (((((rv7.Funcs.getD rv15.1.toNat default).Blocks).getD rv27.1.toNat default).Stmts).length : Int) ∨ rv59.1 = 0))), Cl tP [vl ta tk tT, vi rv59.2]] ?_
 refine Jf 8 rfl ?_; rintro ⟨he64, he65, he66⟩
 unfold i64ok at he64
 refine Jk [0, 0, 0, 0, 0, 0, 1, 2, 4] ?_
 refine KS ?_
 refine Oq Vm ?_
 refine letv (tp_Next tT rv59.2 10) fun rv67 hg68 => ?_
 have hs4 := Next_r hg68 aM1
 have hc69 := fn10 tP ta tk tT rv59.2 10 pre pre rv67 hg68
 refine Oc [8, 6] ca10 hc69 ?_
 rintro - ⟨he70, he71, he72⟩
 unfold i64ok at he70
 refine KS ?_
 refine Oq Veql (Oq Va (KS ?_))
 refine Kc ?_ ?_
 ·intro h73
  have g74 := eq_of_beq h73
  refine KS ?_
  refine Oq Vm (Oa (AsV sl45 sz45 [.string (bs (Str.mk [109])), .string (bs (Str.mk [102])), .string (bs (Str.mk [49])), .string (bs (Str.mk [101, 110, 100])), .string (bs (Str.mk []))] [.string (bs (Str.mk [109])), .string (bs (Str.mk [102])), .string (bs (Str.mk [49])), .string (bs (Str.mk [101, 110, 100])), .string (bs (Str.mk []))]) fun c75 => ?_)
  refine Jo 0 ?_; rintro a76 k77 rfl
  refine Oq Vm ?_
  refine letv (tp_Next tT rv67.2 5) fun rv78 hg79 => ?_
  have hs4 := Next_r hg79 aM1
  have hc80 := fn10 tP ta tk tT rv67.2 5 pre pre rv78 hg79
  refine Oc [1, 7] ca10 hc80 ?_
  rintro - ⟨he81, he82, he83⟩
  unfold i64ok at he81
  refine Jl [1] (Ent.crOs (α := Str) (A := []) _ ([(Str.mk [109]), (Str.mk [102]), (Str.mk [49]), (Str.mk [101, 110, 100]), (Str.mk [])] : List Str) _ aB1 (fun h => ⟨[.string (bs (Str.mk [109]))], [.string (bs (Str.mk [102])), .string (bs (Str.mk [49])), .string (bs (Str.mk [101, 110, 100])), .string (bs (Str.mk []))], rfl, (fun _ => ⟨rfl, by first | omega | (simp; done) | (dsimp only; omega) | exact lit_bl rfl⟩) h, ⟨[.string (bs (Str.mk [102]))], [.string (bs (Str.mk [49])), .string (bs (Str.mk [101, 110, 100])), .string (bs (Str.mk []))], rfl, (fun _ => ⟨rfl, by first | omega | (simp; done) | (dsimp only; omega) | exact lit_bl rfl⟩) h, ⟨[.string (bs (Str.mk [49]))], [.string (bs (Str.mk [101, 110, 100])), .string (bs (Str.mk []))], rfl, (fun _ => ⟨rfl, by first | omega | (simp; done) | (dsimp only; omega) | exact lit_bl rfl⟩) h, ⟨[.string (bs (Str.mk [101, 110, 100]))], [.string (bs (Str.mk []))], rfl, (fun _ => ⟨rfl, by first | omega | (simp; done) | (dsimp only; omega) | exact lit_bl rfl⟩) h, ⟨[.string (bs (Str.mk []))], [], rfl, (fun _ => ⟨rfl, by first | omega | (simp; done) | (dsimp only; omega) | exact lit_bl rfl⟩) h, rfl⟩⟩⟩⟩⟩)) ?_
  refine Oq (Vi sl45 0) ?_
  refine Fb 16 0 fun _ => ?_
  refine FoS 0 fun ho85 => ?_
  have hb86 := okS (i := rv78.1.toNat) ho85 rng
  refine Oq (VldS sh9 0) (Oq (Vn 4) (Oq (Vfa fo41_0 4) (Ost (SoH (α := GFunc) [4] sh9 [.string (bs ([(Str.mk [109]), (Str.mk [102]), (Str.mk [49]), (Str.mk [101, 110, 100]), (Str.mk [])].getD rv78.1.toNat default)), vl a23 k24 ((rv7.Funcs.getD rv15.1.toNat default).Blocks)]) (KS ?_))))
  refine Oq (VldA sh25 5) (Ost (Scl [6] sh25 [vl a10 k11 rv7.Funcs]) (KS ?_))
  refine Jl [4, 4] (Ent.closeS (A := [D a35 k36 ((((rv7.Funcs.getD rv15.1.toNat default).Blocks).getD rv27.1.toNat default).Stmts)]) _ _ _ _ default (innmk_GBlock (z0 := (((rv7.Funcs.getD rv15.1.toNat default).Blocks).getD rv27.1.toNat default).Name) aD1)) ?_
  refine Jl [2, 0] (Ent.closeD (A := [D a23 k24 ((rv7.Funcs.getD rv15.1.toNat default).Blocks)]) _ _ _ _ (GFunc.mk ([(Str.mk [109]), (Str.mk [102]), (Str.mk [49]), (Str.mk [101, 110, 100]), (Str.mk [])].getD rv78.1.toNat default) ((rv7.Funcs.getD rv15.1.toNat default).Blocks)) (innmk_GFunc (z0 := ([(Str.mk [109]), (Str.mk [102]), (Str.mk [49]), (Str.mk [101, 110, 100]), (Str.mk [])].getD rv78.1.toNat default)) aD1)) ?_
  refine Jl [0] (Ent.dsF _ _) ?_
  have hq := q4 hrr ((GProgram.mk (rv7.Funcs.set rv15.1.toNat (GFunc.mk ([(Str.mk [109]), (Str.mk [102]), (Str.mk [49]), (Str.mk [101, 110, 100]), (Str.mk [])].getD rv78.1.toNat default) ((rv7.Funcs.getD rv15.1.toNat default).Blocks)))), rv78.2) (by simp only [tp_SpoilProgram, h39, h73, hg8, hg16, hg28, hg60, hg68, hg79, cs4]); subst hq
  exact Kr (vl a10 k11 rv7.Funcs) rfl (.cellN 1 rfl sh25 rfl (reads_Cl _ _) rfl .nil) [0, 3] en
 intro h73
 have g87 := ne_of_beq_false h73
 refine KS ?_
 refine Oq Veql (Oq Va (KS ?_))
 refine Kc ?_ ?_
 ·intro h88
  have g89 := eq_of_beq h88
  refine KS ?_
  refine Oq Vm (Oa (AsV sl45 sz45 [.string (bs (Str.mk [97])), .string (bs (Str.mk [98])), .string (bs (Str.mk [114, 101, 116, 117, 114, 110])), .string (bs (Str.mk [113, 95, 49])), .string (bs (Str.mk [120, 45, 121]))] [.string (bs (Str.mk [97])), .string (bs (Str.mk [98])), .string (bs (Str.mk [114, 101, 116, 117, 114, 110])), .string (bs (Str.mk [113, 95, 49])), .string (bs (Str.mk [120, 45, 121]))]) fun c90 => ?_)
  refine Jo 0 ?_; rintro a91 k92 rfl
  refine Oq Vm ?_
  refine letv (tp_Next tT rv67.2 5) fun rv93 hg94 => ?_
  have hs4 := Next_r hg94 aM1
  have hc95 := fn10 tP ta tk tT rv67.2 5 pre pre rv93 hg94
  refine Oc [1, 7] ca10 hc95 ?_
  rintro - ⟨he96, he97, he98⟩
  unfold i64ok at he96
  refine Jl [1] (Ent.crOs (α := Str) (A := []) _ ([(Str.mk [97]), (Str.mk [98]), (Str.mk [114, 101, 116, 117, 114, 110]), (Str.mk [113, 95, 49]), (Str.mk [120, 45, 121])] : List Str) _ aB1 (fun h => ⟨[.string (bs (Str.mk [97]))], [.string (bs (Str.mk [98])), .string (bs (Str.mk [114, 101, 116, 117, 114, 110])), .string (bs (Str.mk [113, 95, 49])), .string (bs (Str.mk [120, 45, 121]))], rfl, (fun _ => ⟨rfl, by first | omega | (simp; done) | (dsimp only; omega) | exact lit_bl rfl⟩) h, ⟨[.string (bs (Str.mk [98]))], [.string (bs (Str.mk [114, 101, 116, 117, 114, 110])), .string (bs (Str.mk [113, 95, 49])), .string (bs (Str.mk [120, 45, 121]))], rfl, (fun _ => ⟨rfl, by first | omega | (simp; done) | (dsimp only; omega) | exact lit_bl rfl⟩) h, ⟨[.string (bs (Str.mk [114, 101, 116, 117, 114, 110]))], [.string (bs (Str.mk [113, 95, 49])), .string (bs (Str.mk [120, 45, 121]))], rfl, (fun _ => ⟨rfl, by first | omega | (simp; done) | (dsimp only; omega) | exact lit_bl rfl⟩) h, ⟨[.string (bs (Str.mk [113, 95, 49]))], [.string (bs (Str.mk [120, 45, 121]))], rfl, (fun _ => ⟨rfl, by first | omega | (simp; done) | (dsimp only; omega) | exact lit_bl rfl⟩) h, ⟨[.string (bs (Str.mk [120, 45, 121]))], [], rfl, (fun _ => ⟨rfl, by first | omega | (simp; done) | (dsimp only; omega) | exact lit_bl rfl⟩) h, rfl⟩⟩⟩⟩⟩)) ?_
  refine Oq (Vi sl45 0) ?_
  refine Fb 16 0 fun _ => ?_
  refine FoS 0 fun ho100 => ?_
  have hb101 := okS (i := rv93.1.toNat) ho100 rng
  refine Oq (VldS sh9 0) (Oq (Vn 2) (Oq (Vfa fo44_0 2) (Ost (SoH (α := GBlock) [2] sh9 [.string (bs ([(Str.mk [97]), (Str.mk [98]), (Str.mk [114, 101, 116, 117, 114, 110]), (Str.mk [113, 95, 49]), (Str.mk [120, 45, 121])].getD rv93.1.toNat default)), .slice a35 (((((rv7.Funcs.getD rv15.1.toNat default).Blocks).getD rv27.1.toNat default).Stmts).length) k36]) (KS ?_))))
  refine Oq (VldA sh25 5) (Ost (Scl [6] sh25 [vl a10 k11 rv7.Funcs]) (KS ?_))
  refine Jl [1, 3] (Ent.closeD (A := [D a35 k36 ((((rv7.Funcs.getD rv15.1.toNat default).Blocks).getD rv27.1.toNat default).Stmts)]) _ _ _ _ (GBlock.mk ([(Str.mk [97]), (Str.mk [98]), (Str.mk [114, 101, 116, 117, 114, 110]), (Str.mk [113, 95, 49]), (Str.mk [120, 45, 121])].getD rv93.1.toNat default) ((((rv7.Funcs.getD rv15.1.toNat default).Blocks).getD rv27.1.toNat default).Stmts)) (innmk_GBlock (z0 := ([(Str.mk [97]), (Str.mk [98]), (Str.mk [114, 101, 116, 117, 114, 110]), (Str.mk [113, 95, 49]), (Str.mk [120, 45, 121])].getD rv93.1.toNat default)) aD1)) ?_
  refine Jl [4, 0] (Ent.closeD (A := [ds (vl a23 k24 ((rv7.Funcs.getD rv15.1.toNat default).Blocks)) ((((rv7.Funcs.getD rv15.1.toNat default).Blocks).set rv27.1.toNat (GBlock.mk ([(Str.mk [97]), (Str.mk [98]), (Str.mk [114, 101, 116, 117, 114, 110]), (Str.mk [113, 95, 49]), (Str.mk [120, 45, 121])].getD rv93.1.toNat default) ((((rv7.Funcs.getD rv15.1.toNat default).Blocks).getD rv27.1.toNat default).Stmts))) : List GBlock)]) _ _ _ _ (GFunc.mk ((rv7.Funcs.getD rv15.1.toNat default).Name) (((rv7.Funcs.getD rv15.1.toNat default).Blocks).set rv27.1.toNat (GBlock.mk ([(Str.mk [97]), (Str.mk [98]), (Str.mk [114, 101, 116, 117, 114, 110]), (Str.mk [113, 95, 49]), (Str.mk [120, 45, 121])].getD rv93.1.toNat default) ((((rv7.Funcs.getD rv15.1.toNat default).Blocks).getD rv27.1.toNat default).Stmts)))) (innmk_GFunc (z0 := (rv7.Funcs.getD rv15.1.toNat default).Name) aD1)) ?_
  refine Jl [0] (Ent.dsF _ _) ?_
  have hq := q4 hrr ((GProgram.mk (rv7.Funcs.set rv15.1.toNat (GFunc.mk ((rv7.Funcs.getD rv15.1.toNat default).Name) (((rv7.Funcs.getD rv15.1.toNat default).Blocks).set rv27.1.toNat (GBlock.mk ([(Str.mk [97]), (Str.mk [98]), (Str.mk [114, 101, 116, 117, 114, 110]), (Str.mk [113, 95, 49]), (Str.mk [120, 45, 121])].getD rv93.1.toNat default) ((((rv7.Funcs.getD rv15.1.toNat default).Blocks).getD rv27.1.toNat default).Stmts)))))), rv93.2) (by simp only [tp_SpoilProgram, h39, h73, h88, hg8, hg16, hg28, hg60, hg68, hg94, cs4]); subst hq
  exact Kr (vl a10 k11 rv7.Funcs) rfl (.cellN 1 rfl sh25 rfl (reads_Cl _ _) rfl .nil) [0, 3] en
 intro h88
 have g102 := ne_of_beq_false h88
 refine KS ?_
 refine Oq Veql (Oq Va (KS ?_))
 refine Kc ?_ ?_
 ·intro h103
  have g104 := eq_of_beq h103
  refine KS ?_
  refine Oq Vm (Oq Vm ?_)
  refine letv (tp_Next tT rv67.2 11) fun rv105 hg106 => ?_
  have hs4 := Next_r hg106 aM1
  have hc107 := fn10 tP ta tk tT rv67.2 11 pre pre rv105 hg106
  refine Oc [0, 6] ca10 hc107 ?_
  rintro - ⟨he108, he109, he110⟩
  unfold i64ok at he108
  refine JJ_openD_GStmt rv59.1.toNat 2 rfl rng fun a111 k112 a113 k114 hb115 hb116 => ?_
  unfold i64ok at hb115
  refine Fb 16 1 fun _ => ?_
  refine FoS 1 fun ho118 => ?_
  refine Fb 16 2 fun _ => ?_
  refine FoS 2 fun ho120 => ?_
  refine Oq (Vn 0) (Oq (Vfa fo47_0 0) (Ost (SoH (α := GStmt) [0] sh3 [vi rv105.1, .string (bs ((((((rv7.Funcs.getD rv15.1.toNat default).Blocks).getD rv27.1.toNat default).Stmts).getD rv59.1.toNat default).Def)), .slice a111 (((((((rv7.Funcs.getD rv15.1.toNat default).Blocks).getD rv27.1.toNat default).Stmts).getD rv59.1.toNat default).Uses).length) k112, .slice a113 (((((((rv7.Funcs.getD rv15.1.toNat default).Blocks).getD rv27.1.toNat default).Stmts).getD rv59.1.toNat default).Targets).length) k114]) (KS ?_)))
  refine Oq (VldA sh25 6) (Ost (Scl [7] sh25 [vl a10 k11 rv7.Funcs]) (KS ?_))
  refine Jl [1, 1, 1] (Ent.closeD (A := [O a111 k112 ((((((rv7.Funcs.getD rv15.1.toNat default).Blocks).getD rv27.1.toNat default).Stmts).getD rv59.1.toNat default).Uses), O a113 k114 ((((((rv7.Funcs.getD rv15.1.toNat default).Blocks).getD rv27.1.toNat default).Stmts).getD rv59.1.toNat default).Targets)]) _ _ _ _ (GStmt.mk rv105.1 ((((((rv7.Funcs.getD rv15.1.toNat default).Blocks).getD rv27.1.toNat default).Stmts).getD rv59.1.toNat default).Def) ((((((rv7.Funcs.getD rv15.1.toNat default).Blocks).getD rv27.1.toNat default).Stmts).getD rv59.1.toNat default).Uses) ((((((rv7.Funcs.getD rv15.1.toNat default).Blocks).getD rv27.1.toNat default).Stmts).getD rv59.1.toNat default).Targets)) (innmk_GStmt (z0 := rv105.1) (z1 := (((((rv7.Funcs.getD rv15.1.toNat default).Blocks).getD rv27.1.toNat default).Stmts).getD rv59.1.toNat default).Def) aD1 aD1)) ?_
  refine Jl [3, 0] (Ent.closeD (A := [ds (.slice a35 (((((rv7.Funcs.getD rv15.1.toNat default).Blocks).getD rv27.1.toNat default).Stmts).length) k36) (((((rv7.Funcs.getD rv15.1.toNat default).Blocks).getD rv27.1.toNat default).Stmts).set rv59.1.toNat (GStmt.mk rv105.1 ((((((rv7.Funcs.getD rv15.1.toNat default).Blocks).getD rv27.1.toNat default).Stmts).getD rv59.1.toNat default).Def) ((((((rv7.Funcs.getD rv15.1.toNat default).Blocks).getD rv27.1.toNat default).Stmts).getD rv59.1.toNat default).Uses) ((((((rv7.Funcs.getD rv15.1.toNat default).Blocks).getD rv27.1.toNat default).Stmts).getD rv59.1.toNat default).Targets)))]) _ _ _ _ (GBlock.mk ((((rv7.Funcs.getD rv15.1.toNat default).Blocks).getD rv27.1.toNat default).Name) (((((rv7.Funcs.getD rv15.1.toNat default).Blocks).getD rv27.1.toNat default).Stmts).set rv59.1.toNat (GStmt.mk rv105.1 ((((((rv7.Funcs.getD rv15.1.toNat default).Blocks).getD rv27.1.toNat default).Stmts).getD rv59.1.toNat default).Def) ((((((rv7.Funcs.getD rv15.1.toNat default).Blocks).getD rv27.1.toNat default).Stmts).getD rv59.1.toNat default).Uses) ((((((rv7.Funcs.getD rv15.1.toNat default).Blocks).getD rv27.1.toNat default).Stmts).getD rv59.1.toNat default).Targets)))) (innmk_GBlock (z0 := (((rv7.Funcs.getD rv15.1.toNat default).Blocks).getD rv27.1.toNat default).Name) aD1)) ?_
  refine Jl [3, 0] (Ent.closeD (A := [ds (vl a23 k24 ((rv7.Funcs.getD rv15.1.toNat default).Blocks)) (((rv7.Funcs.getD rv15.1.toNat default).Blocks).set rv27.1.toNat (GBlock.mk ((((rv7.Funcs.getD rv15.1.toNat default).Blocks).getD rv27.1.toNat default).Name) (((((rv7.Funcs.getD rv15.1.toNat default).Blocks).getD rv27.1.toNat default).Stmts).set rv59.1.toNat (GStmt.mk rv105.1 ((((((rv7.Funcs.getD rv15.1.toNat default).Blocks).getD rv27.1.toNat default).Stmts).getD rv59.1.toNat default).Def) ((((((rv7.Funcs.getD rv15.1.toNat default).Blocks).getD rv27.1.toNat default).Stmts).getD rv59.1.toNat default).Uses) ((((((rv7.Funcs.getD rv15.1.toNat default).Blocks).getD rv27.1.toNat default).Stmts).getD rv59.1.toNat default).Targets)))))]) _ _ _ _ (GFunc.mk ((rv7.Funcs.getD rv15.1.toNat default).Name) (((rv7.Funcs.getD rv15.1.toNat default).Blocks).set rv27.1.toNat (GBlock.mk ((((rv7.Funcs.getD rv15.1.toNat default).Blocks).getD rv27.1.toNat default).Name) (((((rv7.Funcs.getD rv15.1.toNat default).Blocks).getD rv27.1.toNat default).Stmts).set rv59.1.toNat (GStmt.mk rv105.1 ((((((rv7.Funcs.getD rv15.1.toNat default).Blocks).getD rv27.1.toNat default).Stmts).getD rv59.1.toNat default).Def) ((((((rv7.Funcs.getD rv15.1.toNat default).Blocks).getD rv27.1.toNat default).Stmts).getD rv59.1.toNat default).Uses) ((((((rv7.Funcs.getD rv15.1.toNat default).Blocks).getD rv27.1.toNat default).Stmts).getD rv59.1.toNat default).Targets)))))) (innmk_GFunc (z0 := (rv7.Funcs.getD rv15.1.toNat default).Name) aD1)) ?_
  refine Jl [0] (Ent.dsF _ _) ?_
  have hq := q4 hrr ((GProgram.mk (rv7.Funcs.set rv15.1.toNat (GFunc.mk ((rv7.Funcs.getD rv15.1.toNat default).Name) (((rv7.Funcs.getD rv15.1.toNat default).Blocks).set rv27.1.toNat (GBlock.mk ((((rv7.Funcs.getD rv15.1.toNat default).Blocks).getD rv27.1.toNat default).Name) (((((rv7.Funcs.getD rv15.1.toNat default).Blocks).getD rv27.1.toNat default).Stmts).set rv59.1.toNat (GStmt.mk rv105.1 ((((((rv7.Funcs.getD rv15.1.toNat default).Blocks).getD rv27.1.toNat default).Stmts).getD rv59.1.toNat default).Def) ((((((rv7.Funcs.getD rv15.1.toNat default).Blocks).getD rv27.1.toNat default).Stmts).getD rv59.1.toNat default).Uses) ((((((rv7.Funcs.getD rv15.1.toNat default).Blocks).getD rv27.1.toNat default).Stmts).getD rv59.1.toNat default).Targets)))))))), rv105.2) (by simp only [tp_SpoilProgram, h39, h73, h88, h103, hg8, hg16, hg28, hg60, hg68, hg106, cs4]); subst hq
  exact Kr (vl a10 k11 rv7.Funcs) rfl (.cellN 1 rfl sh25 rfl (reads_Cl _ _) rfl .nil) [0, 2] en
 intro h103
 have g121 := ne_of_beq_false h103
 refine KS ?_
 refine Oq Veql (Oq Va (KS ?_))
 refine Kc ?_ ?_
 ·intro h122
  have g123 := eq_of_beq h122
  refine KS ?_
  refine Oq Vm (Oa (AsV sl45 sz45 [.string (bs (Str.mk [])), .string (bs (Str.mk [120])), .string (bs (Str.mk [117, 115, 101])), .string (bs (Str.mk [108, 111, 110, 103, 101, 114, 95, 116, 104, 97, 110, 95, 49, 54, 95, 98, 121, 116, 101, 115]))] [.string (bs (Str.mk [])), .string (bs (Str.mk [120])), .string (bs (Str.mk [117, 115, 101])), .string (bs (Str.mk [108, 111, 110, 103, 101, 114, 95, 116, 104, 97, 110, 95, 49, 54, 95, 98, 121, 116, 101, 115]))]) fun c124 => ?_)
  refine Jo 0 ?_; rintro a125 k126 rfl
  refine Oq Vm ?_
  refine letv (tp_Next tT rv67.2 4) fun rv127 hg128 => ?_
  have hs4 := Next_r hg128 aM1
  have hc129 := fn10 tP ta tk tT rv67.2 4 pre pre rv127 hg128
  refine Oc [1, 7] ca10 hc129 ?_
  rintro - ⟨he130, he131, he132⟩
  unfold i64ok at he130
  refine Jl [1] (Ent.crOs (α := Str) (A := []) _ ([(Str.mk []), (Str.mk [120]), (Str.mk [117, 115, 101]), (Str.mk [108, 111, 110, 103, 101, 114, 95, 116, 104, 97, 110, 95, 49, 54, 95, 98, 121, 116, 101, 115])] : List Str) _ aB1 (fun h => ⟨[.string (bs (Str.mk []))], [.string (bs (Str.mk [120])), .string (bs (Str.mk [117, 115, 101])), .string (bs (Str.mk [108, 111, 110, 103, 101, 114, 95, 116, 104, 97, 110, 95, 49, 54, 95, 98, 121, 116, 101, 115]))], rfl, (fun _ => ⟨rfl, by first | omega | (simp; done) | (dsimp only; omega) | exact lit_bl rfl⟩) h, ⟨[.string (bs (Str.mk [120]))], [.string (bs (Str.mk [117, 115, 101])), .string (bs (Str.mk [108, 111, 110, 103, 101, 114, 95, 116, 104, 97, 110, 95, 49, 54, 95, 98, 121, 116, 101, 115]))], rfl, (fun _ => ⟨rfl, by first | omega | (simp; done) | (dsimp only; omega) | exact lit_bl rfl⟩) h, ⟨[.string (bs (Str.mk [117, 115, 101]))], [.string (bs (Str.mk [108, 111, 110, 103, 101, 114, 95, 116, 104, 97, 110, 95, 49, 54, 95, 98, 121, 116, 101, 115]))], rfl, (fun _ => ⟨rfl, by first | omega | (simp; done) | (dsimp only; omega) | exact lit_bl rfl⟩) h, ⟨[.string (bs (Str.mk [108, 111, 110, 103, 101, 114, 95, 116, 104, 97, 110, 95, 49, 54, 95, 98, 121, 116, 101, 115]))], [], rfl, (fun _ => ⟨rfl, by first | omega | (simp; done) | (dsimp only; omega) | exact lit_bl rfl⟩) h, rfl⟩⟩⟩⟩)) ?_
  refine Oq (Vi sl45 0) ?_
  refine Fb 16 0 fun _ => ?_
  refine FoS 0 fun ho134 => ?_
  have hb135 := okS (i := rv127.1.toNat) ho134 rng
  refine Oq (VldS sh9 0) ?_
  refine JJ_openD_GStmt rv59.1.toNat 3 rfl rng fun a136 k137 a138 k139 hb140 hb141 => ?_
  unfold i64ok at hb140
  refine Fb 16 1 fun _ => ?_
  refine FoS 1 fun ho143 => ?_
  refine Fb 16 2 fun _ => ?_
  refine FoS 2 fun ho145 => ?_
  refine Oq (Vn 0) (Oq (Vfa fo47_1 0) (Ost (SoH (α := GStmt) [0] sh9 [vi ((((((rv7.Funcs.getD rv15.1.toNat default).Blocks).getD rv27.1.toNat default).Stmts).getD rv59.1.toNat default).Op), .string (bs ([(Str.mk []), (Str.mk [120]), (Str.mk [117, 115, 101]), (Str.mk [108, 111, 110, 103, 101, 114, 95, 116, 104, 97, 110, 95, 49, 54, 95, 98, 121, 116, 101, 115])].getD rv127.1.toNat default)), .slice a136 (((((((rv7.Funcs.getD rv15.1.toNat default).Blocks).getD rv27.1.toNat default).Stmts).getD rv59.1.toNat default).Uses).length) k137, .slice a138 (((((((rv7.Funcs.getD rv15.1.toNat default).Blocks).getD rv27.1.toNat default).Stmts).getD rv59.1.toNat default).Targets).length) k139]) (KS ?_)))
  refine Oq (VldA sh25 7) (Ost (Scl [8] sh25 [vl a10 k11 rv7.Funcs]) (KS ?_))
  refine Jl [1, 1, 1] (Ent.closeD (A := [O a136 k137 ((((((rv7.Funcs.getD rv15.1.toNat default).Blocks).getD rv27.1.toNat default).Stmts).getD rv59.1.toNat default).Uses), O a138 k139 ((((((rv7.Funcs.getD rv15.1.toNat default).Blocks).getD rv27.1.toNat default).Stmts).getD rv59.1.toNat default).Targets)]) _ _ _ _ (GStmt.mk ((((((rv7.Funcs.getD rv15.1.toNat default).Blocks).getD rv27.1.toNat default).Stmts).getD rv59.1.toNat default).Op) ([(Str.mk []), (Str.mk [120]), (Str.mk [117, 115, 101]), (Str.mk [108, 111, 110, 103, 101, 114, 95, 116, 104, 97, 110, 95, 49, 54, 95, 98, 121, 116, 101, 115])].getD rv127.1.toNat default) ((((((rv7.Funcs.getD rv15.1.toNat default).Blocks).getD rv27.1.toNat default).Stmts).getD rv59.1.toNat default).Uses) ((((((rv7.Funcs.getD rv15.1.toNat default).Blocks).getD rv27.1.toNat default).Stmts).getD rv59.1.toNat default).Targets)) (innmk_GStmt (z0 := (((((rv7.Funcs.getD rv15.1.toNat default).Blocks).getD rv27.1.toNat default).Stmts).getD rv59.1.toNat default).Op) (z1 := ([(Str.mk []), (Str.mk [120]), (Str.mk [117, 115, 101]), (Str.mk [108, 111, 110, 103, 101, 114, 95, 116, 104, 97, 110, 95, 49, 54, 95, 98, 121, 116, 101, 115])].getD rv127.1.toNat default)) aD1 aD1)) ?_
  refine Jl [4, 0] (Ent.closeD (A := [ds (.slice a35 (((((rv7.Funcs.getD rv15.1.toNat default).Blocks).getD rv27.1.toNat default).Stmts).length) k36) ((((((rv7.Funcs.getD rv15.1.toNat default).Blocks).getD rv27.1.toNat default).Stmts).set rv59.1.toNat (GStmt.mk ((((((rv7.Funcs.getD rv15.1.toNat default).Blocks).getD rv27.1.toNat default).Stmts).getD rv59.1.toNat default).Op) ([(Str.mk []), (Str.mk [120]), (Str.mk [117, 115, 101]), (Str.mk [108, 111, 110, 103, 101, 114, 95, 116, 104, 97, 110, 95, 49, 54, 95, 98, 121, 116, 101, 115])].getD rv127.1.toNat default) ((((((rv7.Funcs.getD rv15.1.toNat default).Blocks).getD rv27.1.toNat default).Stmts).getD rv59.1.toNat default).Uses) ((((((rv7.Funcs.getD rv15.1.toNat default).Blocks).getD rv27.1.toNat default).Stmts).getD rv59.1.toNat default).Targets))) : List GStmt)]) _ _ _ _ (GBlock.mk ((((rv7.Funcs.getD rv15.1.toNat default).Blocks).getD rv27.1.toNat default).Name) (((((rv7.Funcs.getD rv15.1.toNat default).Blocks).getD rv27.1.toNat default).Stmts).set rv59.1.toNat (GStmt.mk ((((((rv7.Funcs.getD rv15.1.toNat default).Blocks).getD rv27.1.toNat default).Stmts).getD rv59.1.toNat default).Op) ([(Str.mk []), (Str.mk [120]), (Str.mk [117, 115, 101]), (Str.mk [108, 111, 110, 103, 101, 114, 95, 116, 104, 97, 110, 95, 49, 54, 95, 98, 121, 116, 101, 115])].getD rv127.1.toNat default) ((((((rv7.Funcs.getD rv15.1.toNat default).Blocks).getD rv27.1.toNat default).Stmts).getD rv59.1.toNat default).Uses) ((((((rv7.Funcs.getD rv15.1.toNat default).Blocks).getD rv27.1.toNat default).Stmts).getD rv59.1.toNat default).Targets)))) (innmk_GBlock (z0 := (((rv7.Funcs.getD rv15.1.toNat default).Blocks).getD rv27.1.toNat default).Name) aD1)) ?_
  refine Jl [4, 0] (Ent.closeD (A := [ds (vl a23 k24 ((rv7.Funcs.getD rv15.1.toNat default).Blocks)) ((((rv7.Funcs.getD rv15.1.toNat default).Blocks).set rv27.1.toNat (GBlock.mk ((((rv7.Funcs.getD rv15.1.toNat default).Blocks).getD rv27.1.toNat default).Name) (((((rv7.Funcs.getD rv15.1.toNat default).Blocks).getD rv27.1.toNat default).Stmts).set rv59.1.toNat (GStmt.mk ((((((rv7.Funcs.getD rv15.1.toNat default).Blocks).getD rv27.1.toNat default).Stmts).getD rv59.1.toNat default).Op) ([(Str.mk []), (Str.mk [120]), (Str.mk [117, 115, 101]), (Str.mk [108, 111, 110, 103, 101, 114, 95, 116, 104, 97, 110, 95, 49, 54, 95, 98, 121, 116, 101, 115])].getD rv127.1.toNat default) ((((((rv7.Funcs.getD rv15.1.toNat default).Blocks).getD rv27.1.toNat default).Stmts).getD rv59.1.toNat default).Uses) ((((((rv7.Funcs.getD rv15.1.toNat default).Blocks).getD rv27.1.toNat default).Stmts).getD rv59.1.toNat default).Targets))))) : List GBlock)]) _ _ _ _ (GFunc.mk ((rv7.Funcs.getD rv15.1.toNat default).Name) (((rv7.Funcs.getD rv15.1.toNat default).Blocks).set rv27.1.toNat (GBlock.mk ((((rv7.Funcs.getD rv15.1.toNat default).Blocks).getD rv27.1.toNat default).Name) (((((rv7.Funcs.getD rv15.1.toNat default).Blocks).getD rv27.1.toNat default).Stmts).set rv59.1.toNat (GStmt.mk ((((((rv7.Funcs.getD rv15.1.toNat default).Blocks).getD rv27.1.toNat default).Stmts).getD rv59.1.toNat default).Op) ([(Str.mk []), (Str.mk [120]), (Str.mk [117, 115, 101]), (Str.mk [108, 111, 110, 103, 101, 114, 95, 116, 104, 97, 110, 95, 49, 54, 95, 98, 121, 116, 101, 115])].getD rv127.1.toNat default) ((((((rv7.Funcs.getD rv15.1.toNat default).Blocks).getD rv27.1.toNat default).Stmts).getD rv59.1.toNat default).Uses) ((((((rv7.Funcs.getD rv15.1.toNat default).Blocks).getD rv27.1.toNat default).Stmts).getD rv59.1.toNat default).Targets)))))) (innmk_GFunc (z0 := (rv7.Funcs.getD rv15.1.toNat default).Name) aD1)) ?_
  refine Jl [0] (Ent.dsF _ _) ?_
  have hq := q4 hrr ((GProgram.mk (rv7.Funcs.set rv15.1.toNat (GFunc.mk ((rv7.Funcs.getD rv15.1.toNat default).Name) (((rv7.Funcs.getD rv15.1.toNat default).Blocks).set rv27.1.toNat (GBlock.mk ((((rv7.Funcs.getD rv15.1.toNat default).Blocks).getD rv27.1.toNat default).Name) (((((rv7.Funcs.getD rv15.1.toNat default).Blocks).getD rv27.1.toNat default).Stmts).set rv59.1.toNat (GStmt.mk ((((((rv7.Funcs.getD rv15.1.toNat default).Blocks).getD rv27.1.toNat default).Stmts).getD rv59.1.toNat default).Op) ([(Str.mk []), (Str.mk [120]), (Str.mk [117, 115, 101]), (Str.mk [108, 111, 110, 103, 101, 114, 95, 116, 104, 97, 110, 95, 49, 54, 95, 98, 121, 116, 101, 115])].getD rv127.1.toNat default) ((((((rv7.Funcs.getD rv15.1.toNat default).Blocks).getD rv27.1.toNat default).Stmts).getD rv59.1.toNat default).Uses) ((((((rv7.Funcs.getD rv15.1.toNat default).Blocks).getD rv27.1.toNat default).Stmts).getD rv59.1.toNat default).Targets)))))))), rv127.2) (by simp only [tp_SpoilProgram, h39, h73, h88, h103, h122, hg8, hg16, hg28, hg60, hg68, hg128, cs4]); subst hq
  exact Kr (vl a10 k11 rv7.Funcs) rfl (.cellN 1 rfl sh25 rfl (reads_Cl _ _) rfl .nil) [0, 3] en
 intro h122
 have g146 := ne_of_beq_false h122
 refine KS ?_
 refine Oq Veql (Oq Va (KS ?_))
 refine Kc ?_ ?_
 ·intro h147
  have g148 := eq_of_beq h147
  refine JJ_openD_GStmt rv59.1.toNat 2 rfl rng fun a149 k150 a151 k152 hb153 hb154 => ?_
  unfold i64ok at hb153
  refine Fb 16 1 fun _ => ?_
  refine FoS 1 fun ho156 => ?_
  refine Fb 16 2 fun _ => ?_
  refine FoS 2 fun ho158 => ?_
  refine JK_drawK [0, 0, 2, 6, 14, 0, 62, 0, 0, 256, 768, 1792, 3840, 7936, 16382, 32766, 65534, 131071, 262143, 524287] fmix ?_
  refine Dv [] Vm (Dv [] Vm (Dv [0] (Vn 0) (Dv [0] (Vfa fo47_2 0) (Dv [0] (VldF sh45 0) (Dx [] [] [0] (fun G => (G.g 5 0)) [fun G => Cr (G.g 5 0) 2 [.string (bs (Str.mk [121])), .string (bs (Str.mk [120]))]] (fun G => xA (AsV sl45 sz45 [.string (bs (Str.mk [121])), .string (bs (Str.mk [120]))] [.string (bs (Str.mk [121])), .string (bs (Str.mk [120]))])) ?_)))))
  have hn161 := la ((((((rv7.Funcs.getD rv15.1.toNat default).Blocks).getD rv27.1.toNat default).Stmts).getD rv59.1.toNat default).Uses) ([(Str.mk [121]), (Str.mk [120])] : List Str)
  refine Dx [1, 11] [1, 11] [0] (fun G => (G.g 6 0)) [fun G => os (G.g 6 0) (((((((rv7.Funcs.getD rv15.1.toNat default).Blocks).getD rv27.1.toNat default).Stmts).getD rv59.1.toNat default).Uses ++ [(Str.mk [121]), (Str.mk [120])]) : List Str)] (fun G => xp [1] rfl (Ent.crOs (α := Str) (A := []) _ ([(Str.mk [121]), (Str.mk [120])] : List Str) _ aB1 (fun h => ⟨[.string (bs (Str.mk [121]))], [.string (bs (Str.mk [120]))], rfl, (fun _ => ⟨rfl, by first | omega | (simp; done) | (dsimp only; omega) | exact lit_bl rfl⟩) h, ⟨[.string (bs (Str.mk [120]))], [], rfl, (fun _ => ⟨rfl, by first | omega | (simp; done) | (dsimp only; omega) | exact lit_bl rfl⟩) h, rfl⟩⟩)) (xA (ApO [1, 0] sl45 sl45 sz45))) (Dv [] Vm (Dv [] Vm (Dv [0] (Vn 0) (Dv [0] (Vfa fo47_2 0) (Dv [0] (VldF sh45 0) (Dv [] (Vlen sl45) (Dv [] Vadd ?_)))))))
  refine letv (tp_Next tT rv67.2 ((((((((rv7.Funcs.getD rv15.1.toNat default).Blocks).getD rv27.1.toNat default).Stmts).getD rv59.1.toNat default).Uses).length : Int) + 2)) fun rv162 hg163 => Dx [3, 9] [3] [2, 0, 1] (fun G => vi rv162.1) [fun G => SP.fact (i64ok rv162.1 ∧ (0 ≤ rv162.2 ∧ rv162.2 ≤ (tT.length : Int)) ∧ (0 ≤ rv162.1 ∧ (rv162.1 < ((((((((rv7.Funcs.getD rv15.1.toNat default).Blocks).getD rv27.1.toNat default).Stmts).getD rv59.1.toNat default).Uses).length : Int) + 2) ∨ rv162.1 = 0))), fun G => Cl tP [vl ta tk tT, vi rv162.2]] (fun G => xC [0, 0] ca10 (fn10 tP ta tk tT rv67.2 (((((((((rv7.Funcs.getD rv15.1.toNat default).Blocks).getD rv27.1.toNat default).Stmts).getD rv59.1.toNat default).Uses).length : Int) + 2)) pre pre rv162 hg163)) ?_
  refine Dx [13] [] [0] (fun G => vi (1 + rv162.1)) [] (fun G => by refine xf 0 rfl ?_; rintro ⟨he164, he165, he166⟩; unfold i64ok at he164; exact xV (Vadd)) ?_
  refine Dx [12, 13] [12] [1, 0] (fun G => (G.g 16 0)) [fun G => os (G.g 16 0) (((((((((rv7.Funcs.getD rv15.1.toNat default).Blocks).getD rv27.1.toNat default).Stmts).getD rv59.1.toNat default).Uses ++ [(Str.mk [121]), (Str.mk [120])]).take (((1 + rv162.1) : Int).toNat)).drop 0) : List Str)] (fun G => by refine xf 1 rfl ?_; rintro ⟨he168, he169, he170⟩; unfold i64ok at he168; exact xA (AslOx [0] sl45 0 (((1 + rv162.1) : Int).toNat))) (Dv [0] (Vn 0) (Dv [0] (Vfa fo47_2 0) (Dx0 [0, 15] [0] [1, 0] [fun G => dh (.slice a35 (((((rv7.Funcs.getD rv15.1.toNat default).Blocks).getD rv27.1.toNat default).Stmts).length) k36) ((((rv7.Funcs.getD rv15.1.toNat default).Blocks).getD rv27.1.toNat default).Stmts : List GStmt) rv59.1.toNat [vi ((((((rv7.Funcs.getD rv15.1.toNat default).Blocks).getD rv27.1.toNat default).Stmts).getD rv59.1.toNat default).Op), .string (bs ((((((rv7.Funcs.getD rv15.1.toNat default).Blocks).getD rv27.1.toNat default).Stmts).getD rv59.1.toNat default).Def)), (G.g 16 0), .slice a151 (((((((rv7.Funcs.getD rv15.1.toNat default).Blocks).getD rv27.1.toNat default).Stmts).getD rv59.1.toNat default).Targets).length) k152]] (fun G => x1 1 rfl os_one fun ho171 => (xS (SoHr (α := GStmt) [0] sh45 [(G.g 16 0)] [vi ((((((rv7.Funcs.getD rv15.1.toNat default).Blocks).getD rv27.1.toNat default).Stmts).getD rv59.1.toNat default).Op), .string (bs ((((((rv7.Funcs.getD rv15.1.toNat default).Blocks).getD rv27.1.toNat default).Stmts).getD rv59.1.toNat default).Def)), (G.g 16 0), .slice a151 (((((((rv7.Funcs.getD rv15.1.toNat default).Blocks).getD rv27.1.toNat default).Stmts).getD rv59.1.toNat default).Targets).length) k152] (cells_of_one ho171) rfl (by simp only [List.all_cons, List.all_nil, ho171, Bool.and_true, Bool.true_and] <;> rfl)))) ?_)))
  refine Dn ⟨by kernel_rfl, fun G => ?_⟩
  refine Jw2 [(4, p5), (5, p13)] [2, 4, 5, 6, 7, 8, 9, 10] [SP.fact (i64ok rv162.1 ∧ (0 ≤ rv162.2 ∧ rv162.2 ≤ (tT.length : Int)) ∧ (0 ≤ rv162.1 ∧ (rv162.1 < ((((((((rv7.Funcs.getD rv15.1.toNat default).Blocks).getD rv27.1.toNat default).Stmts).getD rv59.1.toNat default).Uses).length : Int) + 2) ∨ rv162.1 = 0))), Cl tP [vl ta tk tT, vi rv162.2], os (G.g 16 0) (((((((((rv7.Funcs.getD rv15.1.toNat default).Blocks).getD rv27.1.toNat default).Stmts).getD rv59.1.toNat default).Uses ++ [(Str.mk [121]), (Str.mk [120])]).take (((1 + rv162.1) : Int).toNat)).drop 0) : List Str), dh (.slice a35 (((((rv7.Funcs.getD rv15.1.toNat default).Blocks).getD rv27.1.toNat default).Stmts).length) k36) ((((rv7.Funcs.getD rv15.1.toNat default).Blocks).getD rv27.1.toNat default).Stmts : List GStmt) rv59.1.toNat [vi ((((((rv7.Funcs.getD rv15.1.toNat default).Blocks).getD rv27.1.toNat default).Stmts).getD rv59.1.toNat default).Op), .string (bs ((((((rv7.Funcs.getD rv15.1.toNat default).Blocks).getD rv27.1.toNat default).Stmts).getD rv59.1.toNat default).Def)), (G.g 16 0), .slice a151 (((((((rv7.Funcs.getD rv15.1.toNat default).Blocks).getD rv27.1.toNat default).Stmts).getD rv59.1.toNat default).Targets).length) k152]] ?_
  generalize G.g 16 0 = c167
  refine Jf 8 rfl ?_; rintro ⟨he172, he173, he174⟩
  unfold i64ok at he172
  refine Jk [0, 0, 0, 0, 0, 0, 1, 2, 4, 4, 4] ?_
  refine Jo 9 ?_; rintro a175 k176 rfl
  refine Fb 16 9 fun _ => ?_
  refine FoS 9 fun ho178 => ?_
  refine KS ?_
  refine Oq (VldA sh25 3) (Ost (Scl [4] sh25 [vl a10 k11 rv7.Funcs]) (KS ?_))
  refine Jl [10, 9, 1] (Ent.closeD (A := [O a175 k176 (((((((((rv7.Funcs.getD rv15.1.toNat default).Blocks).getD rv27.1.toNat default).Stmts).getD rv59.1.toNat default).Uses ++ [(Str.mk [121]), (Str.mk [120])]).take (((1 + rv162.1) : Int).toNat)).drop 0) : List Str), O a151 k152 ((((((rv7.Funcs.getD rv15.1.toNat default).Blocks).getD rv27.1.toNat default).Stmts).getD rv59.1.toNat default).Targets)]) _ _ _ _ (GStmt.mk ((((((rv7.Funcs.getD rv15.1.toNat default).Blocks).getD rv27.1.toNat default).Stmts).getD rv59.1.toNat default).Op) ((((((rv7.Funcs.getD rv15.1.toNat default).Blocks).getD rv27.1.toNat default).Stmts).getD rv59.1.toNat default).Def) ((((((((rv7.Funcs.getD rv15.1.toNat default).Blocks).getD rv27.1.toNat default).Stmts).getD rv59.1.toNat default).Uses ++ [(Str.mk [121]), (Str.mk [120])]).take (((1 + rv162.1) : Int).toNat)).drop 0) ((((((rv7.Funcs.getD rv15.1.toNat default).Blocks).getD rv27.1.toNat default).Stmts).getD rv59.1.toNat default).Targets)) (innmk_GStmt (z0 := (((((rv7.Funcs.getD rv15.1.toNat default).Blocks).getD rv27.1.toNat default).Stmts).getD rv59.1.toNat default).Op) (z1 := (((((rv7.Funcs.getD rv15.1.toNat default).Blocks).getD rv27.1.toNat default).Stmts).getD rv59.1.toNat default).Def) aD1 aD1)) ?_
  refine Jl [2, 0] (Ent.closeD (A := [ds (.slice a35 (((((rv7.Funcs.getD rv15.1.toNat default).Blocks).getD rv27.1.toNat default).Stmts).length) k36) ((((((rv7.Funcs.getD rv15.1.toNat default).Blocks).getD rv27.1.toNat default).Stmts).set rv59.1.toNat (GStmt.mk ((((((rv7.Funcs.getD rv15.1.toNat default).Blocks).getD rv27.1.toNat default).Stmts).getD rv59.1.toNat default).Op) ((((((rv7.Funcs.getD rv15.1.toNat default).Blocks).getD rv27.1.toNat default).Stmts).getD rv59.1.toNat default).Def) ((((((((rv7.Funcs.getD rv15.1.toNat default).Blocks).getD rv27.1.toNat default).Stmts).getD rv59.1.toNat default).Uses ++ [(Str.mk [121]), (Str.mk [120])]).take (((1 + rv162.1) : Int).toNat)).drop 0) ((((((rv7.Funcs.getD rv15.1.toNat default).Blocks).getD rv27.1.toNat default).Stmts).getD rv59.1.toNat default).Targets))) : List GStmt)]) _ _ _ _ (GBlock.mk ((((rv7.Funcs.getD rv15.1.toNat default).Blocks).getD rv27.1.toNat default).Name) (((((rv7.Funcs.getD rv15.1.toNat default).Blocks).getD rv27.1.toNat default).Stmts).set rv59.1.toNat (GStmt.mk ((((((rv7.Funcs.getD rv15.1.toNat default).Blocks).getD rv27.1.toNat default).Stmts).getD rv59.1.toNat default).Op) ((((((rv7.Funcs.getD rv15.1.toNat default).Blocks).getD rv27.1.toNat default).Stmts).getD rv59.1.toNat default).Def) ((((((((rv7.Funcs.getD rv15.1.toNat default).Blocks).getD rv27.1.toNat default).Stmts).getD rv59.1.toNat default).Uses ++ [(Str.mk [121]), (Str.mk [120])]).take (((1 + rv162.1) : Int).toNat)).drop 0) ((((((rv7.Funcs.getD rv15.1.toNat default).Blocks).getD rv27.1.toNat default).Stmts).getD rv59.1.toNat default).Targets)))) (innmk_GBlock (z0 := (((rv7.Funcs.getD rv15.1.toNat default).Blocks).getD rv27.1.toNat default).Name) aD1)) ?_
  refine Jl [2, 0] (Ent.closeD (A := [ds (vl a23 k24 ((rv7.Funcs.getD rv15.1.toNat default).Blocks)) ((((rv7.Funcs.getD rv15.1.toNat default).Blocks).set rv27.1.toNat (GBlock.mk ((((rv7.Funcs.getD rv15.1.toNat default).Blocks).getD rv27.1.toNat default).Name) (((((rv7.Funcs.getD rv15.1.toNat default).Blocks).getD rv27.1.toNat default).Stmts).set rv59.1.toNat (GStmt.mk ((((((rv7.Funcs.getD rv15.1.toNat default).Blocks).getD rv27.1.toNat default).Stmts).getD rv59.1.toNat default).Op) ((((((rv7.Funcs.getD rv15.1.toNat default).Blocks).getD rv27.1.toNat default).Stmts).getD rv59.1.toNat default).Def) ((((((((rv7.Funcs.getD rv15.1.toNat default).Blocks).getD rv27.1.toNat default).Stmts).getD rv59.1.toNat default).Uses ++ [(Str.mk [121]), (Str.mk [120])]).take (((1 + rv162.1) : Int).toNat)).drop 0) ((((((rv7.Funcs.getD rv15.1.toNat default).Blocks).getD rv27.1.toNat default).Stmts).getD rv59.1.toNat default).Targets))))) : List GBlock)]) _ _ _ _ (GFunc.mk ((rv7.Funcs.getD rv15.1.toNat default).Name) (((rv7.Funcs.getD rv15.1.toNat default).Blocks).set rv27.1.toNat (GBlock.mk ((((rv7.Funcs.getD rv15.1.toNat default).Blocks).getD rv27.1.toNat default).Name) (((((rv7.Funcs.getD rv15.1.toNat default).Blocks).getD rv27.1.toNat default).Stmts).set rv59.1.toNat (GStmt.mk ((((((rv7.Funcs.getD rv15.1.toNat default).Blocks).getD rv27.1.toNat default).Stmts).getD rv59.1.toNat default).Op) ((((((rv7.Funcs.getD rv15.1.toNat default).Blocks).getD rv27.1.toNat default).Stmts).getD rv59.1.toNat default).Def) ((((((((rv7.Funcs.getD rv15.1.toNat default).Blocks).getD rv27.1.toNat default).Stmts).getD rv59.1.toNat default).Uses ++ [(Str.mk [121]), (Str.mk [120])]).take (((1 + rv162.1) : Int).toNat)).drop 0) ((((((rv7.Funcs.getD rv15.1.toNat default).Blocks).getD rv27.1.toNat default).Stmts).getD rv59.1.toNat default).Targets)))))) (innmk_GFunc (z0 := (rv7.Funcs.getD rv15.1.toNat default).Name) aD1)) ?_
  refine Jl [0] (Ent.dsF _ _) ?_
  have hq := q4 hrr ((GProgram.mk (rv7.Funcs.set rv15.1.toNat (GFunc.mk ((rv7.Funcs.getD rv15.1.toNat default).Name) (((rv7.Funcs.getD rv15.1.toNat default).Blocks).set rv27.1.toNat (GBlock.mk ((((rv7.Funcs.getD rv15.1.toNat default).Blocks).getD rv27.1.toNat default).Name) (((((rv7.Funcs.getD rv15.1.toNat default).Blocks).getD rv27.1.toNat default).Stmts).set rv59.1.toNat (GStmt.mk ((((((rv7.Funcs.getD rv15.1.toNat default).Blocks).getD rv27.1.toNat default).Stmts).getD rv59.1.toNat default).Op) ((((((rv7.Funcs.getD rv15.1.toNat default).Blocks).getD rv27.1.toNat default).Stmts).getD rv59.1.toNat default).Def) ((((((((rv7.Funcs.getD rv15.1.toNat default).Blocks).getD rv27.1.toNat default).Stmts).getD rv59.1.toNat default).Uses ++ [(Str.mk [121]), (Str.mk [120])]).take (((1 + rv162.1) : Int).toNat)).drop 0) ((((((rv7.Funcs.getD rv15.1.toNat default).Blocks).getD rv27.1.toNat default).Stmts).getD rv59.1.toNat default).Targets)))))))), rv162.2) (by simp only [tp_SpoilProgram, h39, h73, h88, h103, h122, h147, hg8, hg16, hg28, hg60, hg68, hg163, cs4]); subst hq
  exact Kr (vl a10 k11 rv7.Funcs) rfl (.cellN 1 rfl sh25 rfl (reads_Cl _ _) rfl .nil) [0, 6] en
 intro h147
 have g179 := ne_of_beq_false h147
 refine KS ?_
 refine Oq Veql (Oq Va (KS ?_))
 refine Kc ?_ ?_
 ·intro h180
  have g181 := eq_of_beq h180
  refine JJ_openD_GStmt rv59.1.toNat 2 rfl rng fun a182 k183 a184 k185 hb186 hb187 => ?_
  unfold i64ok at hb186
  refine Fb 16 1 fun _ => ?_
  refine FoS 1 fun ho189 => ?_
  refine Fb 16 2 fun _ => ?_
  refine FoS 2 fun ho191 => ?_
  refine JK_drawK [0, 0, 2, 6, 14, 0, 0, 64, 224, 480, 992, 2046, 4095, 8191, 16383] fmix ?_
  refine Dv [] Vm (Dv [] Vm (Dv [0] (Vn 0) (Dv [0] (Vfa fo47_3 0) (Dv [0] (VldF sh45 0) (Dx [] [] [0] (fun G => (G.g 5 0)) [fun G => Cr (G.g 5 0) 3 [.string (bs (Str.mk [97])), .string (bs (Str.mk [110, 111, 119, 104, 101, 114, 101])), .string (bs (Str.mk [109]))]] (fun G => xA (AsV sl45 sz45 [.string (bs (Str.mk [97])), .string (bs (Str.mk [110, 111, 119, 104, 101, 114, 101])), .string (bs (Str.mk [109]))] [.string (bs (Str.mk [97])), .string (bs (Str.mk [110, 111, 119, 104, 101, 114, 101])), .string (bs (Str.mk [109]))])) (Dv [] Vm ?_))))))
  refine letv (tp_Next tT rv67.2 3) fun rv193 hg194 => ?_
  have hs4 := Next_r hg194 aM1
  refine Dx [3, 9] [3] [2, 0, 1] (fun G => vi rv193.1) [fun G => SP.fact (i64ok rv193.1 ∧ (0 ≤ rv193.2 ∧ rv193.2 ≤ (tT.length : Int)) ∧ (0 ≤ rv193.1 ∧ (rv193.1 < 3 ∨ rv193.1 = 0))), fun G => Cl tP [vl ta tk tT, vi rv193.2]] (fun G => xC [0, 0] ca10 (fn10 tP ta tk tT rv67.2 3 pre pre rv193 hg194)) ?_
  refine Dx [11, 12] [11] [1, 0] (fun G => (eptr 1 ((G.g 5 0)) rv193.1.toNat)) [fun G => os (G.g 5 0) ([(Str.mk [97]), (Str.mk [110, 111, 119, 104, 101, 114, 101]), (Str.mk [109])] : List Str)] (fun G => by refine xf 1 rfl ?_; rintro ⟨he195, he196, he197⟩; unfold i64ok at he195; exact xp [0] rfl (Ent.crOs (α := Str) (A := []) _ ([(Str.mk [97]), (Str.mk [110, 111, 119, 104, 101, 114, 101]), (Str.mk [109])] : List Str) _ aB1 (fun h => ⟨[.string (bs (Str.mk [97]))], [.string (bs (Str.mk [110, 111, 119, 104, 101, 114, 101])), .string (bs (Str.mk [109]))], rfl, (fun _ => ⟨rfl, by first | omega | (simp; done) | (dsimp only; omega) | exact lit_bl rfl⟩) h, ⟨[.string (bs (Str.mk [110, 111, 119, 104, 101, 114, 101]))], [.string (bs (Str.mk [109]))], rfl, (fun _ => ⟨rfl, by first | omega | (simp; done) | (dsimp only; omega) | exact lit_bl rfl⟩) h, ⟨[.string (bs (Str.mk [109]))], [], rfl, (fun _ => ⟨rfl, by first | omega | (simp; done) | (dsimp only; omega) | exact lit_bl rfl⟩) h, rfl⟩⟩⟩)) (xV (Vi sl45 0))) (Dv [14] (VldS sh9 0) (Dx [] [] [0] (fun G => (G.g 10 0)) [fun G => Cr (G.g 10 0) 1 [.string (bs ([(Str.mk [97]), (Str.mk [110, 111, 119, 104, 101, 114, 101]), (Str.mk [109])].getD rv193.1.toNat default))]] (fun G => xA (AsV sl45 sz45 [.string (bs ([(Str.mk [97]), (Str.mk [110, 111, 119, 104, 101, 114, 101]), (Str.mk [109])].getD rv193.1.toNat default))] [.string (bs ([(Str.mk [97]), (Str.mk [110, 111, 119, 104, 101, 114, 101]), (Str.mk [109])].getD rv193.1.toNat default))])) ?_))
  have hn200 := la ((((((rv7.Funcs.getD rv15.1.toNat default).Blocks).getD rv27.1.toNat default).Stmts).getD rv59.1.toNat default).Targets) ([([(Str.mk [97]), (Str.mk [110, 111, 119, 104, 101, 114, 101]), (Str.mk [109])].getD rv193.1.toNat default)] : List Str)
  refine Dx [2, 12, 15] [2, 15] [1, 0] (fun G => (G.g 11 0)) [fun G => os (G.g 11 0) (((((((rv7.Funcs.getD rv15.1.toNat default).Blocks).getD rv27.1.toNat default).Stmts).getD rv59.1.toNat default).Targets ++ [([(Str.mk [97]), (Str.mk [110, 111, 119, 104, 101, 114, 101]), (Str.mk [109])].getD rv193.1.toNat default)]) : List Str)] (fun G => by refine xf 1 rfl ?_; rintro ⟨he201, he202, he203⟩; unfold i64ok at he201; exact xp [2] rfl (Ent.cr1 (α := Str) (A := []) _ ([(Str.mk [97]), (Str.mk [110, 111, 119, 104, 101, 114, 101]), (Str.mk [109])].getD rv193.1.toNat default) _ aB1 (fun _ => ⟨rfl, aS1⟩)) (xA (ApO [1, 0] sl45 sl45 sz45))) (Dv [0] (Vn 0) (Dv [0] (Vfa fo47_3 0) (Dx0 [0, 16] [0] [1, 0] [fun G => dh (.slice a35 (((((rv7.Funcs.getD rv15.1.toNat default).Blocks).getD rv27.1.toNat default).Stmts).length) k36) ((((rv7.Funcs.getD rv15.1.toNat default).Blocks).getD rv27.1.toNat default).Stmts : List GStmt) rv59.1.toNat [vi ((((((rv7.Funcs.getD rv15.1.toNat default).Blocks).getD rv27.1.toNat default).Stmts).getD rv59.1.toNat default).Op), .string (bs ((((((rv7.Funcs.getD rv15.1.toNat default).Blocks).getD rv27.1.toNat default).Stmts).getD rv59.1.toNat default).Def)), .slice a182 (((((((rv7.Funcs.getD rv15.1.toNat default).Blocks).getD rv27.1.toNat default).Stmts).getD rv59.1.toNat default).Uses).length) k183, (G.g 11 0)]] (fun G => x1 1 rfl os_one fun ho204 => (xS (SoHr (α := GStmt) [0] sh45 [(G.g 11 0)] [vi ((((((rv7.Funcs.getD rv15.1.toNat default).Blocks).getD rv27.1.toNat default).Stmts).getD rv59.1.toNat default).Op), .string (bs ((((((rv7.Funcs.getD rv15.1.toNat default).Blocks).getD rv27.1.toNat default).Stmts).getD rv59.1.toNat default).Def)), .slice a182 (((((((rv7.Funcs.getD rv15.1.toNat default).Blocks).getD rv27.1.toNat default).Stmts).getD rv59.1.toNat default).Uses).length) k183, (G.g 11 0)] (cells_of_one ho204) rfl (by simp only [List.all_cons, List.all_nil, ho204, Bool.and_true, Bool.true_and] <;> rfl)))) ?_)))
  refine Dn ⟨by kernel_rfl, fun G => ?_⟩
  refine Jw2 [(4, p5), (5, p13)] [1, 4, 5, 6, 7, 8, 9, 10] [SP.fact (i64ok rv193.1 ∧ (0 ≤ rv193.2 ∧ rv193.2 ≤ (tT.length : Int)) ∧ (0 ≤ rv193.1 ∧ (rv193.1 < 3 ∨ rv193.1 = 0))), Cl tP [vl ta tk tT, vi rv193.2], os (G.g 5 0) ([(Str.mk [97]), (Str.mk [110, 111, 119, 104, 101, 114, 101]), (Str.mk [109])] : List Str), os (G.g 11 0) (((((((rv7.Funcs.getD rv15.1.toNat default).Blocks).getD rv27.1.toNat default).Stmts).getD rv59.1.toNat default).Targets ++ [([(Str.mk [97]), (Str.mk [110, 111, 119, 104, 101, 114, 101]), (Str.mk [109])].getD rv193.1.toNat default)]) : List Str), dh (.slice a35 (((((rv7.Funcs.getD rv15.1.toNat default).Blocks).getD rv27.1.toNat default).Stmts).length) k36) ((((rv7.Funcs.getD rv15.1.toNat default).Blocks).getD rv27.1.toNat default).Stmts : List GStmt) rv59.1.toNat [vi ((((((rv7.Funcs.getD rv15.1.toNat default).Blocks).getD rv27.1.toNat default).Stmts).getD rv59.1.toNat default).Op), .string (bs ((((((rv7.Funcs.getD rv15.1.toNat default).Blocks).getD rv27.1.toNat default).Stmts).getD rv59.1.toNat default).Def)), .slice a182 (((((((rv7.Funcs.getD rv15.1.toNat default).Blocks).getD rv27.1.toNat default).Stmts).getD rv59.1.toNat default).Uses).length) k183, (G.g 11 0)]] ?_
  generalize G.g 5 0 = c192, G.g 11 0 = c199
  refine Jf 8 rfl ?_; rintro ⟨he205, he206, he207⟩
  unfold i64ok at he205
  refine Jk [0, 0, 0, 0, 0, 0, 1, 2, 4, 4, 4, 4] ?_
  refine Jo 9 ?_; rintro a208 k209 rfl
  refine Fb 16 9 fun _ => ?_
  refine FoS 9 fun ho211 => ?_
  refine Jo 10 ?_; rintro a212 k213 rfl
  refine Fb 16 10 fun _ => ?_
  refine FoS 10 fun ho215 => ?_
  refine KS ?_
  refine Oq (VldA sh25 3) (Ost (Scl [4] sh25 [vl a10 k11 rv7.Funcs]) (KS ?_))
  refine Jl [11, 1, 9] (Ent.closeD (A := [O a182 k183 ((((((rv7.Funcs.getD rv15.1.toNat default).Blocks).getD rv27.1.toNat default).Stmts).getD rv59.1.toNat default).Uses), O a212 k213 (((((((rv7.Funcs.getD rv15.1.toNat default).Blocks).getD rv27.1.toNat default).Stmts).getD rv59.1.toNat default).Targets ++ [([(Str.mk [97]), (Str.mk [110, 111, 119, 104, 101, 114, 101]), (Str.mk [109])].getD rv193.1.toNat default)]) : List Str)]) _ _ _ _ (GStmt.mk ((((((rv7.Funcs.getD rv15.1.toNat default).Blocks).getD rv27.1.toNat default).Stmts).getD rv59.1.toNat default).Op) ((((((rv7.Funcs.getD rv15.1.toNat default).Blocks).getD rv27.1.toNat default).Stmts).getD rv59.1.toNat default).Def) ((((((rv7.Funcs.getD rv15.1.toNat default).Blocks).getD rv27.1.toNat default).Stmts).getD rv59.1.toNat default).Uses) ((((((rv7.Funcs.getD rv15.1.toNat default).Blocks).getD rv27.1.toNat default).Stmts).getD rv59.1.toNat default).Targets ++ [([(Str.mk [97]), (Str.mk [110, 111, 119, 104, 101, 114, 101]), (Str.mk [109])].getD rv193.1.toNat default)])) (innmk_GStmt (z0 := (((((rv7.Funcs.getD rv15.1.toNat default).Blocks).getD rv27.1.toNat default).Stmts).getD rv59.1.toNat default).Op) (z1 := (((((rv7.Funcs.getD rv15.1.toNat default).Blocks).getD rv27.1.toNat default).Stmts).getD rv59.1.toNat default).Def) aD1 aD1)) ?_
  refine Jl [2, 0] (Ent.closeD (A := [ds (.slice a35 (((((rv7.Funcs.getD rv15.1.toNat default).Blocks).getD rv27.1.toNat default).Stmts).length) k36) ((((((rv7.Funcs.getD rv15.1.toNat default).Blocks).getD rv27.1.toNat default).Stmts).set rv59.1.toNat (GStmt.mk ((((((rv7.Funcs.getD rv15.1.toNat default).Blocks).getD rv27.1.toNat default).Stmts).getD rv59.1.toNat default).Op) ((((((rv7.Funcs.getD rv15.1.toNat default).Blocks).getD rv27.1.toNat default).Stmts).getD rv59.1.toNat default).Def) ((((((rv7.Funcs.getD rv15.1.toNat default).Blocks).getD rv27.1.toNat default).Stmts).getD rv59.1.toNat default).Uses) ((((((rv7.Funcs.getD rv15.1.toNat default).Blocks).getD rv27.1.toNat default).Stmts).getD rv59.1.toNat default).Targets ++ [([(Str.mk [97]), (Str.mk [110, 111, 119, 104, 101, 114, 101]), (Str.mk [109])].getD rv193.1.toNat default)]))) : List GStmt)]) _ _ _ _ (GBlock.mk ((((rv7.Funcs.getD rv15.1.toNat default).Blocks).getD rv27.1.toNat default).Name) (((((rv7.Funcs.getD rv15.1.toNat default).Blocks).getD rv27.1.toNat default).Stmts).set rv59.1.toNat (GStmt.mk ((((((rv7.Funcs.getD rv15.1.toNat default).Blocks).getD rv27.1.toNat default).Stmts).getD rv59.1.toNat default).Op) ((((((rv7.Funcs.getD rv15.1.toNat default).Blocks).getD rv27.1.toNat default).Stmts).getD rv59.1.toNat default).Def) ((((((rv7.Funcs.getD rv15.1.toNat default).Blocks).getD rv27.1.toNat default).Stmts).getD rv59.1.toNat default).Uses) ((((((rv7.Funcs.getD rv15.1.toNat default).Blocks).getD rv27.1.toNat default).Stmts).getD rv59.1.toNat default).Targets ++ [([(Str.mk [97]), (Str.mk [110, 111, 119, 104, 101, 114, 101]), (Str.mk [109])].getD rv193.1.toNat default)])))) (innmk_GBlock (z0 := (((rv7.Funcs.getD rv15.1.toNat default).Blocks).getD rv27.1.toNat default).Name) aD1)) ?_
  refine Jl [2, 0] (Ent.closeD (A := [ds (vl a23 k24 ((rv7.Funcs.getD rv15.1.toNat default).Blocks)) ((((rv7.Funcs.getD rv15.1.toNat default).Blocks).set rv27.1.toNat (GBlock.mk ((((rv7.Funcs.getD rv15.1.toNat default).Blocks).getD rv27.1.toNat default).Name) (((((rv7.Funcs.getD rv15.1.toNat default).Blocks).getD rv27.1.toNat default).Stmts).set rv59.1.toNat (GStmt.mk ((((((rv7.Funcs.getD rv15.1.toNat default).Blocks).getD rv27.1.toNat default).Stmts).getD rv59.1.toNat default).Op) ((((((rv7.Funcs.getD rv15.1.toNat default).Blocks).getD rv27.1.toNat default).Stmts).getD rv59.1.toNat default).Def) ((((((rv7.Funcs.getD rv15.1.toNat default).Blocks).getD rv27.1.toNat default).Stmts).getD rv59.1.toNat default).Uses) ((((((rv7.Funcs.getD rv15.1.toNat default).Blocks).getD rv27.1.toNat default).Stmts).getD rv59.1.toNat default).Targets ++ [([(Str.mk [97]), (Str.mk [110, 111, 119, 104, 101, 114, 101]), (Str.mk [109])].getD rv193.1.toNat default)]))))) : List GBlock)]) _ _ _ _ (GFunc.mk ((rv7.Funcs.getD rv15.1.toNat default).Name) (((rv7.Funcs.getD rv15.1.toNat default).Blocks).set rv27.1.toNat (GBlock.mk ((((rv7.Funcs.getD rv15.1.toNat default).Blocks).getD rv27.1.toNat default).Name) (((((rv7.Funcs.getD rv15.1.toNat default).Blocks).getD rv27.1.toNat default).Stmts).set rv59.1.toNat (GStmt.mk ((((((rv7.Funcs.getD rv15.1.toNat default).Blocks).getD rv27.1.toNat default).Stmts).getD rv59.1.toNat default).Op) ((((((rv7.Funcs.getD rv15.1.toNat default).Blocks).getD rv27.1.toNat default).Stmts).getD rv59.1.toNat default).Def) ((((((rv7.Funcs.getD rv15.1.toNat default).Blocks).getD rv27.1.toNat default).Stmts).getD rv59.1.toNat default).Uses) ((((((rv7.Funcs.getD rv15.1.toNat default).Blocks).getD rv27.1.toNat default).Stmts).getD rv59.1.toNat default).Targets ++ [([(Str.mk [97]), (Str.mk [110, 111, 119, 104, 101, 114, 101]), (Str.mk [109])].getD rv193.1.toNat default)])))))) (innmk_GFunc (z0 := (rv7.Funcs.getD rv15.1.toNat default).Name) aD1)) ?_
  refine Jl [0] (Ent.dsF _ _) ?_
  have hq := q4 hrr ((GProgram.mk (rv7.Funcs.set rv15.1.toNat (GFunc.mk ((rv7.Funcs.getD rv15.1.toNat default).Name) (((rv7.Funcs.getD rv15.1.toNat default).Blocks).set rv27.1.toNat (GBlock.mk ((((rv7.Funcs.getD rv15.1.toNat default).Blocks).getD rv27.1.toNat default).Name) (((((rv7.Funcs.getD rv15.1.toNat default).Blocks).getD rv27.1.toNat default).Stmts).set rv59.1.toNat (GStmt.mk ((((((rv7.Funcs.getD rv15.1.toNat default).Blocks).getD rv27.1.toNat default).Stmts).getD rv59.1.toNat default).Op) ((((((rv7.Funcs.getD rv15.1.toNat default).Blocks).getD rv27.1.toNat default).Stmts).getD rv59.1.toNat default).Def) ((((((rv7.Funcs.getD rv15.1.toNat default).Blocks).getD rv27.1.toNat default).Stmts).getD rv59.1.toNat default).Uses) ((((((rv7.Funcs.getD rv15.1.toNat default).Blocks).getD rv27.1.toNat default).Stmts).getD rv59.1.toNat default).Targets ++ [([(Str.mk [97]), (Str.mk [110, 111, 119, 104, 101, 114, 101]), (Str.mk [109])].getD rv193.1.toNat default)])))))))), rv193.2) (by simp only [tp_SpoilProgram, h39, h73, h88, h103, h122, h147, h180, hg8, hg16, hg28, hg60, hg68, hg194, cs4]); subst hq
  exact Kr (vl a10 k11 rv7.Funcs) rfl (.cellN 1 rfl sh25 rfl (reads_Cl _ _) rfl .nil) [0, 6] en
 intro h180
 have g216 := ne_of_beq_false h180
 refine KS ?_
 refine Oq Veql (Oq Va (KS ?_))
 refine Kc ?_ ?_
 ·intro h217
  have g218 := eq_of_beq h217
  refine KS ?_
  refine Oq Vm ?_
  refine JJ_openD_GStmt rv59.1.toNat 2 rfl rng fun a219 k220 a221 k222 hb223 hb224 => ?_
  unfold i64ok at hb223
  refine Fb 16 1 fun _ => ?_
  refine FoS 1 fun ho226 => ?_
  refine Fb 16 2 fun _ => ?_
  refine FoS 2 fun ho228 => ?_
  refine Oq (Vn 0) (Oq (Vfa fo47_3 0) (Oq (VldF sh45 0) (Oq (Vlen sl45) (Oq Vgtr (KS ?_)))))
  refine Kc ?_ ?_
  ·intro h229
   have g230 := dt h229
   refine JK_drawK [0, 1, 3, 7, 0, 0, 32, 112, 240, 511, 1023] fmix ?_
   refine Dv [] Vm (Dv [0] (Vn 0) (Dv [0] (Vfa fo47_3 0) (Dv [0] (VldF sh45 0) (Dx [] [] [0] (fun G => (G.g 4 0)) [fun G => Cr (G.g 4 0) 4 [.string (bs (Str.mk [110, 111, 119, 104, 101, 114, 101])), .string (bs (Str.mk [97])), .string (bs (Str.mk [99])), .string (bs (Str.mk [103]))]] (fun G => xA (AsV sl45 sz45 [.string (bs (Str.mk [110, 111, 119, 104, 101, 114, 101])), .string (bs (Str.mk [97])), .string (bs (Str.mk [99])), .string (bs (Str.mk [103]))] [.string (bs (Str.mk [110, 111, 119, 104, 101, 114, 101])), .string (bs (Str.mk [97])), .string (bs (Str.mk [99])), .string (bs (Str.mk [103]))])) (Dv [] Vm ?_)))))
   refine letv (tp_Next tT rv67.2 4) fun rv232 hg233 => ?_
   have hs4 := Next_r hg233 aM1
   refine Dx [3, 9] [3] [2, 0, 1] (fun G => vi rv232.1) [fun G => SP.fact (i64ok rv232.1 ∧ (0 ≤ rv232.2 ∧ rv232.2 ≤ (tT.length : Int)) ∧ (0 ≤ rv232.1 ∧ (rv232.1 < 4 ∨ rv232.1 = 0))), fun G => Cl tP [vl ta tk tT, vi rv232.2]] (fun G => xC [0, 0] ca10 (fn10 tP ta tk tT rv67.2 4 pre pre rv232 hg233)) ?_
   refine Dx [11, 12] [11] [1, 0] (fun G => (eptr 1 ((G.g 4 0)) rv232.1.toNat)) [fun G => os (G.g 4 0) ([(Str.mk [110, 111, 119, 104, 101, 114, 101]), (Str.mk [97]), (Str.mk [99]), (Str.mk [103])] : List Str)] (fun G => by refine xf 1 rfl ?_; rintro ⟨he234, he235, he236⟩; unfold i64ok at he234; exact xp [0] rfl (Ent.crOs (α := Str) (A := []) _ ([(Str.mk [110, 111, 119, 104, 101, 114, 101]), (Str.mk [97]), (Str.mk [99]), (Str.mk [103])] : List Str) _ aB1 (fun h => ⟨[.string (bs (Str.mk [110, 111, 119, 104, 101, 114, 101]))], [.string (bs (Str.mk [97])), .string (bs (Str.mk [99])), .string (bs (Str.mk [103]))], rfl, (fun _ => ⟨rfl, by first | omega | (simp; done) | (dsimp only; omega) | exact lit_bl rfl⟩) h, ⟨[.string (bs (Str.mk [97]))], [.string (bs (Str.mk [99])), .string (bs (Str.mk [103]))], rfl, (fun _ => ⟨rfl, by first | omega | (simp; done) | (dsimp only; omega) | exact lit_bl rfl⟩) h, ⟨[.string (bs (Str.mk [99]))], [.string (bs (Str.mk [103]))], rfl, (fun _ => ⟨rfl, by first | omega | (simp; done) | (dsimp only; omega) | exact lit_bl rfl⟩) h, ⟨[.string (bs (Str.mk [103]))], [], rfl, (fun _ => ⟨rfl, by first | omega | (simp; done) | (dsimp only; omega) | exact lit_bl rfl⟩) h, rfl⟩⟩⟩⟩)) (xV (Vi sl45 0))) (Dv [14] (VldS sh9 0) (Dv [2] (Vi sl45 0) ?_))
   refine Dx0 [2, 12] [2] [1, 0] [fun G => os (.slice a221 (((((((rv7.Funcs.getD rv15.1.toNat default).Blocks).getD rv27.1.toNat default).Stmts).getD rv59.1.toNat default).Targets).length) k222) ((((((((rv7.Funcs.getD rv15.1.toNat default).Blocks).getD rv27.1.toNat default).Stmts).getD rv59.1.toNat default).Targets).set (0 : Int).toNat ([(Str.mk [110, 111, 119, 104, 101, 114, 101]), (Str.mk [97]), (Str.mk [99]), (Str.mk [103])].getD rv232.1.toNat default)) : List Str)] (fun G => by refine xf 1 rfl ?_; rintro ⟨he237, he238, he239⟩; unfold i64ok at he237; exact xS (So (Rs := []) [0] sh9 ([(Str.mk [110, 111, 119, 104, 101, 114, 101]), (Str.mk [97]), (Str.mk [99]), (Str.mk [103])].getD rv232.1.toNat default) (fun _ => ⟨rfl, aS1⟩))) ?_
   refine Dn ⟨by kernel_rfl, fun G => ?_⟩
   refine Jw2 [(4, p5), (5, p13)] [0, 1, 4, 5, 6, 7, 8, 9, 10] [SP.fact (i64ok rv232.1 ∧ (0 ≤ rv232.2 ∧ rv232.2 ≤ (tT.length : Int)) ∧ (0 ≤ rv232.1 ∧ (rv232.1 < 4 ∨ rv232.1 = 0))), Cl tP [vl ta tk tT, vi rv232.2], os (G.g 4 0) ([(Str.mk [110, 111, 119, 104, 101, 114, 101]), (Str.mk [97]), (Str.mk [99]), (Str.mk [103])] : List Str), os (.slice a221 (((((((rv7.Funcs.getD rv15.1.toNat default).Blocks).getD rv27.1.toNat default).Stmts).getD rv59.1.toNat default).Targets).length) k222) ((((((((rv7.Funcs.getD rv15.1.toNat default).Blocks).getD rv27.1.toNat default).Stmts).getD rv59.1.toNat default).Targets).set (0 : Int).toNat ([(Str.mk [110, 111, 119, 104, 101, 114, 101]), (Str.mk [97]), (Str.mk [99]), (Str.mk [103])].getD rv232.1.toNat default)) : List Str)] ?_
   generalize G.g 4 0 = c231
   refine Jf 9 rfl ?_; rintro ⟨he240, he241, he242⟩
   unfold i64ok at he240
   refine Jk [0, 0, 0, 0, 0, 0, 0, 1, 2, 4, 4, 4] ?_
   refine Jo 10 ?_; rintro a243 k244 rfl
   refine Fb 16 10 fun _ => ?_
   refine FoS 10 fun ho246 => ?_
   refine KS ?_
   refine Oq (VldA sh25 4) (Ost (Scl [5] sh25 [vl a10 k11 rv7.Funcs]) (KS ?_))
   refine Jl [1, 1, 9] (Ent.closeD (A := [O a219 k220 ((((((rv7.Funcs.getD rv15.1.toNat default).Blocks).getD rv27.1.toNat default).Stmts).getD rv59.1.toNat default).Uses), os (.slice a221 (((((((rv7.Funcs.getD rv15.1.toNat default).Blocks).getD rv27.1.toNat default).Stmts).getD rv59.1.toNat default).Targets).length) k222) ((((((((rv7.Funcs.getD rv15.1.toNat default).Blocks).getD rv27.1.toNat default).Stmts).getD rv59.1.toNat default).Targets).set (0 : Int).toNat ([(Str.mk [110, 111, 119, 104, 101, 114, 101]), (Str.mk [97]), (Str.mk [99]), (Str.mk [103])].getD rv232.1.toNat default)) : List Str)]) _ _ _ _ (GStmt.mk ((((((rv7.Funcs.getD rv15.1.toNat default).Blocks).getD rv27.1.toNat default).Stmts).getD rv59.1.toNat default).Op) ((((((rv7.Funcs.getD rv15.1.toNat default).Blocks).getD rv27.1.toNat default).Stmts).getD rv59.1.toNat default).Def) ((((((rv7.Funcs.getD rv15.1.toNat default).Blocks).getD rv27.1.toNat default).Stmts).getD rv59.1.toNat default).Uses) (((((((rv7.Funcs.getD rv15.1.toNat default).Blocks).getD rv27.1.toNat default).Stmts).getD rv59.1.toNat default).Targets).set (0 : Int).toNat ([(Str.mk [110, 111, 119, 104, 101, 114, 101]), (Str.mk [97]), (Str.mk [99]), (Str.mk [103])].getD rv232.1.toNat default))) (innmk_GStmt (z0 := (((((rv7.Funcs.getD rv15.1.toNat default).Blocks).getD rv27.1.toNat default).Stmts).getD rv59.1.toNat default).Op) (z1 := (((((rv7.Funcs.getD rv15.1.toNat default).Blocks).getD rv27.1.toNat default).Stmts).getD rv59.1.toNat default).Def) aD1 aD1)) ?_
   refine Jl [2, 0] (Ent.closeD (A := [ds (.slice a35 (((((rv7.Funcs.getD rv15.1.toNat default).Blocks).getD rv27.1.toNat default).Stmts).length) k36) ((((((rv7.Funcs.getD rv15.1.toNat default).Blocks).getD rv27.1.toNat default).Stmts).set rv59.1.toNat (GStmt.mk ((((((rv7.Funcs.getD rv15.1.toNat default).Blocks).getD rv27.1.toNat default).Stmts).getD rv59.1.toNat default).Op) ((((((rv7.Funcs.getD rv15.1.toNat default).Blocks).getD rv27.1.toNat default).Stmts).getD rv59.1.toNat default).Def) ((((((rv7.Funcs.getD rv15.1.toNat default).Blocks).getD rv27.1.toNat default).Stmts).getD rv59.1.toNat default).Uses) (((((((rv7.Funcs.getD rv15.1.toNat default).Blocks).getD rv27.1.toNat default).Stmts).getD rv59.1.toNat default).Targets).set (0 : Int).toNat ([(Str.mk [110, 111, 119, 104, 101, 114, 101]), (Str.mk [97]), (Str.mk [99]), (Str.mk [103])].getD rv232.1.toNat default)))) : List GStmt)]) _ _ _ _ (GBlock.mk ((((rv7.Funcs.getD rv15.1.toNat default).Blocks).getD rv27.1.toNat default).Name) (((((rv7.Funcs.getD rv15.1.toNat default).Blocks).getD rv27.1.toNat default).Stmts).set rv59.1.toNat (GStmt.mk ((((((rv7.Funcs.getD rv15.1.toNat default).Blocks).getD rv27.1.toNat default).Stmts).getD rv59.1.toNat default).Op) ((((((rv7.Funcs.getD rv15.1.toNat default).Blocks).getD rv27.1.toNat default).Stmts).getD rv59.1.toNat default).Def) ((((((rv7.Funcs.getD rv15.1.toNat default).Blocks).getD rv27.1.toNat default).Stmts).getD rv59.1.toNat default).Uses) (((((((rv7.Funcs.getD rv15.1.toNat default).Blocks).getD rv27.1.toNat default).Stmts).getD rv59.1.toNat default).Targets).set (0 : Int).toNat ([(Str.mk [110, 111, 119, 104, 101, 114, 101]), (Str.mk [97]), (Str.mk [99]), (Str.mk [103])].getD rv232.1.toNat default))))) (innmk_GBlock (z0 := (((rv7.Funcs.getD rv15.1.toNat default).Blocks).getD rv27.1.toNat default).Name) aD1)) ?_
   refine Jl [2, 0] (Ent.closeD (A := [ds (vl a23 k24 ((rv7.Funcs.getD rv15.1.toNat default).Blocks)) ((((rv7.Funcs.getD rv15.1.toNat default).Blocks).set rv27.1.toNat (GBlock.mk ((((rv7.Funcs.getD rv15.1.toNat default).Blocks).getD rv27.1.toNat default).Name) (((((rv7.Funcs.getD rv15.1.toNat default).Blocks).getD rv27.1.toNat default).Stmts).set rv59.1.toNat (GStmt.mk ((((((rv7.Funcs.getD rv15.1.toNat default).Blocks).getD rv27.1.toNat default).Stmts).getD rv59.1.toNat default).Op) ((((((rv7.Funcs.getD rv15.1.toNat default).Blocks).getD rv27.1.toNat default).Stmts).getD rv59.1.toNat default).Def) ((((((rv7.Funcs.getD rv15.1.toNat default).Blocks).getD rv27.1.toNat default).Stmts).getD rv59.1.toNat default).Uses) (((((((rv7.Funcs.getD rv15.1.toNat default).Blocks).getD rv27.1.toNat default).Stmts).getD rv59.1.toNat default).Targets).set (0 : Int).toNat ([(Str.mk [110, 111, 119, 104, 101, 114, 101]), (Str.mk [97]), (Str.mk [99]), (Str.mk [103])].getD rv232.1.toNat default)))))) : List GBlock)]) _ _ _ _ (GFunc.mk ((rv7.Funcs.getD rv15.1.toNat default).Name) (((rv7.Funcs.getD rv15.1.toNat default).Blocks).set rv27.1.toNat (GBlock.mk ((((rv7.Funcs.getD rv15.1.toNat default).Blocks).getD rv27.1.toNat default).Name) (((((rv7.Funcs.getD rv15.1.toNat default).Blocks).getD rv27.1.toNat default).Stmts).set rv59.1.toNat (GStmt.mk ((((((rv7.Funcs.getD rv15.1.toNat default).Blocks).getD rv27.1.toNat default).Stmts).getD rv59.1.toNat default).Op) ((((((rv7.Funcs.getD rv15.1.toNat default).Blocks).getD rv27.1.toNat default).Stmts).getD rv59.1.toNat default).Def) ((((((rv7.Funcs.getD rv15.1.toNat default).Blocks).getD rv27.1.toNat default).Stmts).getD rv59.1.toNat default).Uses) (((((((rv7.Funcs.getD rv15.1.toNat default).Blocks).getD rv27.1.toNat default).Stmts).getD rv59.1.toNat default).Targets).set (0 : Int).toNat ([(Str.mk [110, 111, 119, 104, 101, 114, 101]), (Str.mk [97]), (Str.mk [99]), (Str.mk [103])].getD rv232.1.toNat default))))))) (innmk_GFunc (z0 := (rv7.Funcs.getD rv15.1.toNat default).Name) aD1)) ?_
   refine Jl [0] (Ent.dsF _ _) ?_
   have hq := q4 hrr ((GProgram.mk (rv7.Funcs.set rv15.1.toNat (GFunc.mk ((rv7.Funcs.getD rv15.1.toNat default).Name) (((rv7.Funcs.getD rv15.1.toNat default).Blocks).set rv27.1.toNat (GBlock.mk ((((rv7.Funcs.getD rv15.1.toNat default).Blocks).getD rv27.1.toNat default).Name) (((((rv7.Funcs.getD rv15.1.toNat default).Blocks).getD rv27.1.toNat default).Stmts).set rv59.1.toNat (GStmt.mk ((((((rv7.Funcs.getD rv15.1.toNat default).Blocks).getD rv27.1.toNat default).Stmts).getD rv59.1.toNat default).Op) ((((((rv7.Funcs.getD rv15.1.toNat default).Blocks).getD rv27.1.toNat default).Stmts).getD rv59.1.toNat default).Def) ((((((rv7.Funcs.getD rv15.1.toNat default).Blocks).getD rv27.1.toNat default).Stmts).getD rv59.1.toNat default).Uses) (((((((rv7.Funcs.getD rv15.1.toNat default).Blocks).getD rv27.1.toNat default).Stmts).getD rv59.1.toNat default).Targets).set (0 : Int).toNat ([(Str.mk [110, 111, 119, 104, 101, 114, 101]), (Str.mk [97]), (Str.mk [99]), (Str.mk [103])].getD rv232.1.toNat default))))))))), rv232.2) (by simp only [tp_SpoilProgram, h39, h73, h88, h103, h122, h147, h180, h217, h229, hg8, hg16, hg28, hg60, hg68, hg233, cs4]); subst hq
   exact Kr (vl a10 k11 rv7.Funcs) rfl (.cellN 1 rfl sh25 rfl (reads_Cl _ _) rfl .nil) [0, 6] en
  intro h229
  have g247 := df h229
  refine KS ?_
  refine Oq (VldA sh25 6) (Ost (Scl [7] sh25 [vl a10 k11 rv7.Funcs]) (KS ?_))
  refine Jl [1, 1, 1] (Ent.closeS (A := [O a219 k220 ((((((rv7.Funcs.getD rv15.1.toNat default).Blocks).getD rv27.1.toNat default).Stmts).getD rv59.1.toNat default).Uses), O a221 k222 ((((((rv7.Funcs.getD rv15.1.toNat default).Blocks).getD rv27.1.toNat default).Stmts).getD rv59.1.toNat default).Targets)]) _ _ _ _ default (innmk_GStmt (z0 := (((((rv7.Funcs.getD rv15.1.toNat default).Blocks).getD rv27.1.toNat default).Stmts).getD rv59.1.toNat default).Op) (z1 := (((((rv7.Funcs.getD rv15.1.toNat default).Blocks).getD rv27.1.toNat default).Stmts).getD rv59.1.toNat default).Def) aD1 aD1)) ?_
  refine Jl [3, 0] (Ent.closeS (A := [D a35 k36 ((((rv7.Funcs.getD rv15.1.toNat default).Blocks).getD rv27.1.toNat default).Stmts)]) _ _ _ _ default (innmk_GBlock (z0 := (((rv7.Funcs.getD rv15.1.toNat default).Blocks).getD rv27.1.toNat default).Name) aD1)) ?_
  refine Jl [3, 0] (Ent.closeS (A := [D a23 k24 ((rv7.Funcs.getD rv15.1.toNat default).Blocks)]) _ _ _ _ default (innmk_GFunc (z0 := (rv7.Funcs.getD rv15.1.toNat default).Name) aD1)) ?_
  refine Jl [0] (Ent.dsF _ _) ?_
  have hq := q4 hrr (rv7, rv67.2) (by simp only [tp_SpoilProgram, h39, h73, h88, h103, h122, h147, h180, h217, h229, hg8, hg16, hg28, hg60, hg68, cs4]); subst hq
  exact Kr (vl a10 k11 rv7.Funcs) rfl (.cellN 1 rfl sh25 rfl (reads_Cl _ _) rfl .nil) [0, 2] en
 intro h217
 have g248 := ne_of_beq_false h217
 refine KS ?_
 refine Oq Veql (Oq Va (KS ?_))
 refine Kc ?_ ?_
 ·intro h249
  have g250 := eq_of_beq h249
  refine JK_drawK [0, 0, 2, 6, 14, 0, 32, 96, 224, 480, 992, 2046, 4095, 8191, 16383] fmix ?_
  refine Dv [] Vm (Dv [] Vm (Dv [1] (Vn 0) (Dv [1] (Vfa fo44_1 0) (Dv [1] (VldF sh42 0) (Dv [] Vm (Dv [1] (Vn 0) (Dv [1] (Vfa fo44_1 0) (Dv [1] (VldF sh42 0) (Dv [] (Vlen sl42) ?_)))))))))
  refine Dv [] Vsub (Dx [2] [2] [0] (fun G => (G.g 11 0)) [fun G => ds (G.g 11 0) ((((((rv7.Funcs.getD rv15.1.toNat default).Blocks).getD rv27.1.toNat default).Stmts).take ((((((((rv7.Funcs.getD rv15.1.toNat default).Blocks).getD rv27.1.toNat default).Stmts).length : Int) - 1) : Int).toNat)).drop 0)] (fun G => xA (AslD [0] sl42 0 ((((((((rv7.Funcs.getD rv15.1.toNat default).Blocks).getD rv27.1.toNat default).Stmts).length : Int) - 1) : Int).toNat))) (Dv [1] (Vn 0) (Dv [1] (Vfa fo44_1 0) (Dx0 [1, 9] [1] [1, 0] [fun G => dh (vl a23 k24 ((rv7.Funcs.getD rv15.1.toNat default).Blocks)) ((rv7.Funcs.getD rv15.1.toNat default).Blocks : List GBlock) rv27.1.toNat [.string (bs ((((rv7.Funcs.getD rv15.1.toNat default).Blocks).getD rv27.1.toNat default).Name)), (G.g 11 0)]] (fun G => x1 1 rfl ds_one fun ho252 => (xS (SoHr (α := GBlock) [0] sh42 [(G.g 11 0)] [.string (bs ((((rv7.Funcs.getD rv15.1.toNat default).Blocks).getD rv27.1.toNat default).Name)), (G.g 11 0)] (cells_of_one ho252) rfl (by simp only [List.all_cons, List.all_nil, ho252, Bool.and_true, Bool.true_and] <;> rfl)))) ?_))))
  refine Dn ⟨by kernel_rfl, fun G => ?_⟩
  refine Jw2 [(4, p5), (5, p13)] [0, 3, 4, 5, 6, 7, 8] [ds (G.g 11 0) ((((((rv7.Funcs.getD rv15.1.toNat default).Blocks).getD rv27.1.toNat default).Stmts).take ((((((((rv7.Funcs.getD rv15.1.toNat default).Blocks).getD rv27.1.toNat default).Stmts).length : Int) - 1) : Int).toNat)).drop 0), dh (vl a23 k24 ((rv7.Funcs.getD rv15.1.toNat default).Blocks)) ((rv7.Funcs.getD rv15.1.toNat default).Blocks : List GBlock) rv27.1.toNat [.string (bs ((((rv7.Funcs.getD rv15.1.toNat default).Blocks).getD rv27.1.toNat default).Name)), (G.g 11 0)]] ?_
  generalize G.g 11 0 = c251
  refine Jo 7 ?_; rintro a253 k254 rfl
  refine FbD 72 7 fun _ => ?_
  refine KS ?_
  refine Oq (VldA sh25 2) (Ost (Scl [3] sh25 [vl a10 k11 rv7.Funcs]) (KS ?_))
  refine Jl [8, 7] (Ent.closeD (A := [D a253 k254 ((((((rv7.Funcs.getD rv15.1.toNat default).Blocks).getD rv27.1.toNat default).Stmts).take ((((((((rv7.Funcs.getD rv15.1.toNat default).Blocks).getD rv27.1.toNat default).Stmts).length : Int) - 1) : Int).toNat)).drop 0)]) _ _ _ _ (GBlock.mk ((((rv7.Funcs.getD rv15.1.toNat default).Blocks).getD rv27.1.toNat default).Name) ((((((rv7.Funcs.getD rv15.1.toNat default).Blocks).getD rv27.1.toNat default).Stmts).take ((((((((rv7.Funcs.getD rv15.1.toNat default).Blocks).getD rv27.1.toNat default).Stmts).length : Int) - 1) : Int).toNat)).drop 0)) (innmk_GBlock (z0 := (((rv7.Funcs.getD rv15.1.toNat default).Blocks).getD rv27.1.toNat default).Name) aD1)) ?_
  refine Jl [3, 0] (Ent.closeD (A := [ds (vl a23 k24 ((rv7.Funcs.getD rv15.1.toNat default).Blocks)) (((rv7.Funcs.getD rv15.1.toNat default).Blocks).set rv27.1.toNat (GBlock.mk ((((rv7.Funcs.getD rv15.1.toNat default).Blocks).getD rv27.1.toNat default).Name) ((((((rv7.Funcs.getD rv15.1.toNat default).Blocks).getD rv27.1.toNat default).Stmts).take ((((((((rv7.Funcs.getD rv15.1.toNat default).Blocks).getD rv27.1.toNat default).Stmts).length : Int) - 1) : Int).toNat)).drop 0)))]) _ _ _ _ (GFunc.mk ((rv7.Funcs.getD rv15.1.toNat default).Name) (((rv7.Funcs.getD rv15.1.toNat default).Blocks).set rv27.1.toNat (GBlock.mk ((((rv7.Funcs.getD rv15.1.toNat default).Blocks).getD rv27.1.toNat default).Name) ((((((rv7.Funcs.getD rv15.1.toNat default).Blocks).getD rv27.1.toNat default).Stmts).take ((((((((rv7.Funcs.getD rv15.1.toNat default).Blocks).getD rv27.1.toNat default).Stmts).length : Int) - 1) : Int).toNat)).drop 0)))) (innmk_GFunc (z0 := (rv7.Funcs.getD rv15.1.toNat default).Name) aD1)) ?_
  refine Jl [0] (Ent.dsF _ _) ?_
  have hq := q4 hrr ((GProgram.mk (rv7.Funcs.set rv15.1.toNat (GFunc.mk ((rv7.Funcs.getD rv15.1.toNat default).Name) (((rv7.Funcs.getD rv15.1.toNat default).Blocks).set rv27.1.toNat (GBlock.mk ((((rv7.Funcs.getD rv15.1.toNat default).Blocks).getD rv27.1.toNat default).Name) ((((((rv7.Funcs.getD rv15.1.toNat default).Blocks).getD rv27.1.toNat default).Stmts).take ((((((((rv7.Funcs.getD rv15.1.toNat default).Blocks).getD rv27.1.toNat default).Stmts).length : Int) - 1) : Int).toNat)).drop 0)))))), rv67.2) (by simp only [tp_SpoilProgram, h39, h73, h88, h103, h122, h147, h180, h217, h249, hg8, hg16, hg28, hg60, hg68, cs4]); subst hq
  exact Kr (vl a10 k11 rv7.Funcs) rfl (.cellN 1 rfl sh25 rfl (reads_Cl _ _) rfl .nil) [0, 2] en
 intro h249
 have g256 := ne_of_beq_false h249
 refine KS ?_
 refine Oq Veql (Oq Va (KS ?_))
 refine Kc ?_ ?_
 ·intro h257
  have g258 := eq_of_beq h257
  refine JK_drawK [0, 0, 2, 6, 14, 0, 32, 96, 254, 511, 1023, 2047] fmix ?_
  refine Dv [] Vm (Dv [] Vm (Dv [1] (Vn 0) (Dv [1] (Vfa fo44_1 0) (Dv [1] (VldF sh42 0) (Dv [] Vm ?_)))))
  refine letv (tp_stmt tT rv67.2 3) fun rv261 hg262 => ?_
  refine Dx [0, 7] [0] [4, 0, 1, 1, 1] (fun G => .agg #[vi rv261.1.Op, .string (bs rv261.1.Def), (G.g 6 0), (G.g 6 1)]) [fun G => SP.fact (i64ok rv261.1.Op ∧ rv261.1.Def.b.length ≤ 140737488355328 ∧ (0 ≤ rv261.2 ∧ rv261.2 ≤ (tT.length : Int))), fun G => os (G.g 6 0) rv261.1.Uses, fun G => os (G.g 6 1) rv261.1.Targets, fun G => Cl tP [vl ta tk tT, vi rv261.2]] (fun G => xC [0, 0] ca21 (fn21 tP ta tk tT rv67.2 3 pre pre pre rv261 hg262)) (Dx [] [] [0] (fun G => (G.g 7 0)) [fun G => Cr (G.g 7 0) 1 [vi rv261.1.Op, .string (bs rv261.1.Def), (G.g 6 0), (G.g 6 1)]] (fun G => xA (AsV sl42 sz42 [.agg #[vi rv261.1.Op, .string (bs rv261.1.Def), (G.g 6 0), (G.g 6 1)]] [vi rv261.1.Op, .string (bs rv261.1.Def), (G.g 6 0), (G.g 6 1)])) ?_)
  have hn265 := la ((((rv7.Funcs.getD rv15.1.toNat default).Blocks).getD rv27.1.toNat default).Stmts) ([rv261.1] : List GStmt)
  refine Dx [2, 9, 10, 11, 13] [2, 10, 11, 13] [1, 0] (fun G => (G.g 8 0)) [fun G => ds (G.g 8 0) (((((rv7.Funcs.getD rv15.1.toNat default).Blocks).getD rv27.1.toNat default).Stmts ++ [rv261.1]) : List GStmt)] (fun G => by refine xf 1 rfl ?_; rintro ⟨he266, he267, he268⟩; unfold i64ok at he266; exact xp [4, 2, 2] rfl (Ent.crD (α := GStmt) (A := [os (G.g 6 0) rv261.1.Uses, os (G.g 6 1) rv261.1.Targets]) _ rv261.1 _ aB1 (innmk_GStmt (z0 := rv261.1.Op) (z1 := rv261.1.Def) aD1 aD1)) (xA (ApD [1, 0] sl42 sl42 sz42))) (Dv [1] (Vn 0) (Dv [1] (Vfa fo44_1 0) (Dx0 [1, 14] [1] [1, 0] [fun G => dh (vl a23 k24 ((rv7.Funcs.getD rv15.1.toNat default).Blocks)) ((rv7.Funcs.getD rv15.1.toNat default).Blocks : List GBlock) rv27.1.toNat [.string (bs ((((rv7.Funcs.getD rv15.1.toNat default).Blocks).getD rv27.1.toNat default).Name)), (G.g 8 0)]] (fun G => x1 1 rfl ds_one fun ho269 => (xS (SoHr (α := GBlock) [0] sh42 [(G.g 8 0)] [.string (bs ((((rv7.Funcs.getD rv15.1.toNat default).Blocks).getD rv27.1.toNat default).Name)), (G.g 8 0)] (cells_of_one ho269) rfl (by simp only [List.all_cons, List.all_nil, ho269, Bool.and_true, Bool.true_and] <;> rfl)))) ?_)))
  refine Dn ⟨by kernel_rfl, fun G => ?_⟩
  refine Jw2 [(4, p5), (5, p13)] [3, 4, 5, 6, 7, 8] [SP.fact (i64ok rv261.1.Op ∧ rv261.1.Def.b.length ≤ 140737488355328 ∧ (0 ≤ rv261.2 ∧ rv261.2 ≤ (tT.length : Int))), Cl tP [vl ta tk tT, vi rv261.2], ds (G.g 8 0) (((((rv7.Funcs.getD rv15.1.toNat default).Blocks).getD rv27.1.toNat default).Stmts ++ [rv261.1]) : List GStmt), dh (vl a23 k24 ((rv7.Funcs.getD rv15.1.toNat default).Blocks)) ((rv7.Funcs.getD rv15.1.toNat default).Blocks : List GBlock) rv27.1.toNat [.string (bs ((((rv7.Funcs.getD rv15.1.toNat default).Blocks).getD rv27.1.toNat default).Name)), (G.g 8 0)]] ?_
  generalize G.g 8 0 = c264
  refine Jf 6 rfl ?_; rintro ⟨he270, he271, he272⟩
  unfold i64ok at he270
  refine Jk [0, 0, 0, 0, 1, 2, 4, 4, 4] ?_
  refine Jo 7 ?_; rintro a273 k274 rfl
  refine FbD 72 7 fun _ => ?_
  refine KS ?_
  refine Oq (VldA sh25 1) (Ost (Scl [2] sh25 [vl a10 k11 rv7.Funcs]) (KS ?_))
  refine Jl [8, 7] (Ent.closeD (A := [D a273 k274 (((((rv7.Funcs.getD rv15.1.toNat default).Blocks).getD rv27.1.toNat default).Stmts ++ [rv261.1]) : List GStmt)]) _ _ _ _ (GBlock.mk ((((rv7.Funcs.getD rv15.1.toNat default).Blocks).getD rv27.1.toNat default).Name) ((((rv7.Funcs.getD rv15.1.toNat default).Blocks).getD rv27.1.toNat default).Stmts ++ [rv261.1])) (innmk_GBlock (z0 := (((rv7.Funcs.getD rv15.1.toNat default).Blocks).getD rv27.1.toNat default).Name) aD1)) ?_
  refine Jl [2, 0] (Ent.closeD (A := [ds (vl a23 k24 ((rv7.Funcs.getD rv15.1.toNat default).Blocks)) ((((rv7.Funcs.getD rv15.1.toNat default).Blocks).set rv27.1.toNat (GBlock.mk ((((rv7.Funcs.getD rv15.1.toNat default).Blocks).getD rv27.1.toNat default).Name) ((((rv7.Funcs.getD rv15.1.toNat default).Blocks).getD rv27.1.toNat default).Stmts ++ [rv261.1]))) : List GBlock)]) _ _ _ _ (GFunc.mk ((rv7.Funcs.getD rv15.1.toNat default).Name) (((rv7.Funcs.getD rv15.1.toNat default).Blocks).set rv27.1.toNat (GBlock.mk ((((rv7.Funcs.getD rv15.1.toNat default).Blocks).getD rv27.1.toNat default).Name) ((((rv7.Funcs.getD rv15.1.toNat default).Blocks).getD rv27.1.toNat default).Stmts ++ [rv261.1])))) (innmk_GFunc (z0 := (rv7.Funcs.getD rv15.1.toNat default).Name) aD1)) ?_
  refine Jl [0] (Ent.dsF _ _) ?_
  have hq := q4 hrr ((GProgram.mk (rv7.Funcs.set rv15.1.toNat (GFunc.mk ((rv7.Funcs.getD rv15.1.toNat default).Name) (((rv7.Funcs.getD rv15.1.toNat default).Blocks).set rv27.1.toNat (GBlock.mk ((((rv7.Funcs.getD rv15.1.toNat default).Blocks).getD rv27.1.toNat default).Name) ((((rv7.Funcs.getD rv15.1.toNat default).Blocks).getD rv27.1.toNat default).Stmts ++ [rv261.1])))))), rv261.2) (by simp only [tp_SpoilProgram, h39, h73, h88, h103, h122, h147, h180, h217, h249, h257, hg8, hg16, hg28, hg60, hg68, hg262, cs4]); subst hq
  exact Kr (vl a10 k11 rv7.Funcs) rfl (.cellN 1 rfl sh25 rfl (reads_Cl _ _) rfl .nil) [0, 6] en
 intro h257
 have g276 := ne_of_beq_false h257
 refine Jl [1, 1] (Ent.closeS (A := [D a35 k36 ((((rv7.Funcs.getD rv15.1.toNat default).Blocks).getD rv27.1.toNat default).Stmts)]) _ _ _ _ default (innmk_GBlock (z0 := (((rv7.Funcs.getD rv15.1.toNat default).Blocks).getD rv27.1.toNat default).Name) aD1)) ?_
 refine Jl [0] (Ent.dsO _ _) ?_
 refine JJ_peekO_GBlock (0 : Int).toNat 0 rfl rng fun a277 k278 hb279 => ?_
 refine Fb 72 1 fun _ => ?_
 refine JK_drawK [0, 0, 2, 6, 14, 0, 32, 96, 224, 480, 992, 2016, 4094, 8191, 16383, 32767] fmix ?_
 refine Dv [] Vm (Dv [] Vm (Dv [3] (Vn 0) (Dv [3] (Vfa fo41_1 0) (Dv [3] (VldF sh39 0) (Dv [] Vm (Dv [3] (Vn 0) (Dv [3] (Vfa fo41_1 0) (Dv [3] (VldF sh39 0) (Dv [0] (Vi sl39 0) ?_)))))))))
 refine Dv [0] (VldA sh44 0) (Dx [] [] [0] (fun G => (G.g 11 0)) [fun G => Cr (G.g 11 0) 1 [.string (bs ((((rv7.Funcs.getD rv15.1.toNat default).Blocks).getD (0 : Int).toNat default).Name)), .slice a277 (((((rv7.Funcs.getD rv15.1.toNat default).Blocks).getD (0 : Int).toNat default).Stmts).length) k278]] (fun G => xA (AsV sl39 sz39 [.agg #[.string (bs ((((rv7.Funcs.getD rv15.1.toNat default).Blocks).getD (0 : Int).toNat default).Name)), .slice a277 (((((rv7.Funcs.getD rv15.1.toNat default).Blocks).getD (0 : Int).toNat default).Stmts).length) k278]] [.string (bs ((((rv7.Funcs.getD rv15.1.toNat default).Blocks).getD (0 : Int).toNat default).Name)), .slice a277 (((((rv7.Funcs.getD rv15.1.toNat default).Blocks).getD (0 : Int).toNat default).Stmts).length) k278])) ?_)
 have hn283 := la ((rv7.Funcs.getD rv15.1.toNat default).Blocks) ([(((rv7.Funcs.getD rv15.1.toNat default).Blocks).getD (0 : Int).toNat default)] : List GBlock)
 refine Dx [0, 1, 9] [0, 9] [1, 0] (fun G => (G.g 12 0)) [fun G => os (G.g 12 0) (((rv7.Funcs.getD rv15.1.toNat default).Blocks ++ [(((rv7.Funcs.getD rv15.1.toNat default).Blocks).getD (0 : Int).toNat default)]) : List GBlock)] (fun G => xp [0] rfl (Ent.oread _ _ _ _) (xp [2, 1] rfl (Ent.cr1 (α := GBlock) (A := [S a277 k278 ((((rv7.Funcs.getD rv15.1.toNat default).Blocks).getD (0 : Int).toNat default).Stmts)]) _ (((rv7.Funcs.getD rv15.1.toNat default).Blocks).getD (0 : Int).toNat default) _ aB1 (fun h => ⟨_, rfl, aS1, sepAll_get (i := 0) rfl h⟩)) (xA (ApO [2, 0] sl39 sl39 sz39)))) (Dv [3] (Vn 0) (Dv [3] (Vfa fo41_1 0) (Dx0 [3, 10] [3] [1, 0] [fun G => dh (vl a10 k11 rv7.Funcs) (rv7.Funcs : List GFunc) rv15.1.toNat [.string (bs ((rv7.Funcs.getD rv15.1.toNat default).Name)), (G.g 12 0)]] (fun G => x1 1 rfl os_one fun ho284 => (xS (SoHr (α := GFunc) [0] sh39 [(G.g 12 0)] [.string (bs ((rv7.Funcs.getD rv15.1.toNat default).Name)), (G.g 12 0)] (cells_of_one ho284) rfl (by simp only [List.all_cons, List.all_nil, ho284, Bool.and_true, Bool.true_and] <;> rfl)))) ?_)))
 refine Dn ⟨by kernel_rfl, fun G => ?_⟩
 refine Jw2 [(4, p5), (5, p13)] [1, 2, 4, 5, 6, 7, 8] [os (G.g 12 0) (((rv7.Funcs.getD rv15.1.toNat default).Blocks ++ [(((rv7.Funcs.getD rv15.1.toNat default).Blocks).getD (0 : Int).toNat default)]) : List GBlock), dh (vl a10 k11 rv7.Funcs) (rv7.Funcs : List GFunc) rv15.1.toNat [.string (bs ((rv7.Funcs.getD rv15.1.toNat default).Name)), (G.g 12 0)]] ?_
 generalize G.g 12 0 = c282
 refine Jo 7 ?_; rintro a285 k286 rfl
 refine Fb 40 7 fun _ => KS ?_
 refine Oq (VldA sh25 2) (Ost (Scl [3] sh25 [vl a10 k11 rv7.Funcs]) (KS ?_))
 refine Jl [7] (Ent.freeze _ _) ?_
 refine Jl [8, 0] (Ent.closeO (A := [S a285 k286 (((rv7.Funcs.getD rv15.1.toNat default).Blocks ++ [(((rv7.Funcs.getD rv15.1.toNat default).Blocks).getD (0 : Int).toNat default)]) : List GBlock)]) _ _ _ _ (GFunc.mk ((rv7.Funcs.getD rv15.1.toNat default).Name) ((rv7.Funcs.getD rv15.1.toNat default).Blocks ++ [(((rv7.Funcs.getD rv15.1.toNat default).Blocks).getD (0 : Int).toNat default)])) (fun h => ⟨_, rfl, aS1, sepAll_get (i := 0) rfl h⟩)) ?_
 refine Jl [0] (Ent.freeze _ _) ?_
 have hq := q4 hrr ((GProgram.mk (rv7.Funcs.set rv15.1.toNat (GFunc.mk ((rv7.Funcs.getD rv15.1.toNat default).Name) ((rv7.Funcs.getD rv15.1.toNat default).Blocks ++ [(((rv7.Funcs.getD rv15.1.toNat default).Blocks).getD (0 : Int).toNat default)])))), rv67.2) (by simp only [tp_SpoilProgram, h39, h73, h88, h103, h122, h147, h180, h217, h249, h257, hg8, hg16, hg28, hg60, hg68, cs4]); subst hq
 exact Kr (vl a10 k11 rv7.Funcs) rfl (.cellN 2 rfl sh25 rfl (reads_Cl _ _) rfl .nil) [0, 4] en
theorem fn12 (p : GProgram) (pa0 : Option Addr) (pk0 : Nat) (rr : Bool) (hrr : g_HugeProgram p = rr) : FT Tryz.prog 12 #[.agg #[vl pa0 pk0 p.Funcs]] [S pa0 pk0 p.Funcs] (fun g : Unit => True) (fun g => vb rr) (fun g => []) := by
 refine FTi Tryz.func12 fun w0 M0 F0 => Fb 40 0 fun _ => ?_
 refine KS ?_
 refine Oa (Ab [vl pa0 pk0 p.Funcs]) fun p2 => Oq Va (KS ?_)
 refine Oq (Vfa fo25_0 0) (Oq (VldF sh23 0) (Oq (Vlen sl23) (Oq Va (KS ?_))))
 refine Oq Va (KS ?_)
 refine Kl (γ := Nat × Int × Int) (fun (r3, n_4, i_5) => ⟨[(1, p2), (3, vi n_4), (4, vi i_5)], [pv p2 [vl pa0 pk0 p.Funcs], S pa0 pk0 p.Funcs], g_HugeProgram_L0 p r3 n_4 i_5 = g_HugeProgram_L0 p (((p.Funcs.length : Int) - 0).toNat) (p.Funcs.length : Int) 0 ∧ r3 = ((p.Funcs.length : Int) - i_5).toNat ∧ (0 : Int) ≤ i_5 ∧ i_5 ≤ (p.Funcs.length : Int) ∧ (-9223372036854775808 ≤ n_4 ∧ n_4 ≤ 9223372036854775807) ∧ (-9223372036854775808 ≤ i_5 ∧ i_5 ≤ 9223372036854775807), r3⟩) (((p.Funcs.length : Int) - 0).toNat, (p.Funcs.length : Int), 0) [0, 1] ⟨rfl, rfl, aM1, aM1, aM1, aM1⟩ ?_
 rintro ⟨r3, n_4, i_5⟩ ⟨hM6, hr7, hi8, hi9, hk10, hk11⟩
 refine JJ_nx fun _ _ hL hA => ?_; dsimp only at hL hA; subst hL hA
 refine Fb 40 1 fun _ => KS ?_
 refine Oq Vm (Oq (Vfa fo25_0 0) (Oq (VldF sh23 0) (Oq (Vlen sl23) (Oq Vlss (Oq Vm ?_)))))
 refine Js 14 ?_ ?_
 ·intro h13
  have g14 := dt h13
  obtain ⟨r15, rfl⟩ := scc (n := r3) aM1
  refine Oq Vm (Oq Vlss (Oq Vpt (KS ?_)))
  refine Kc ?_ ?_
  ·intro h16
   have g17 := dt h16
   refine KS ?_
   refine Oq Vm (Oq (Vfa fo25_0 0) (Oq (VldF sh23 0) (Oq Vm (Oq (Vi sl23 1) ?_))))
   refine JJ_peek_GFunc i_5.toNat 1 rfl rng fun a18 k19 hb20 => ?_
   refine Fb 40 1 fun _ => ?_
   refine Oq (Vfa fo41_1 0) (Oq (VldF sh39 0) (Oq (Vlen sl39) (Oq Vadd (Oq Va (KS ?_)))))
   refine Oq Va (KS ?_)
   refine Kl (γ := Nat × Int × Int) (fun (r22, n_23, k_24) => ⟨[(1, p2), (4, vi i_5), (3, vi n_23), (5, vi k_24)], [pv p2 [vl pa0 pk0 p.Funcs], S pa0 pk0 p.Funcs], g_HugeProgram_L1 p i_5 r22 n_23 k_24 = g_HugeProgram_L1 p i_5 ((((((p.Funcs.getD i_5.toNat default).Blocks).length : Int) : Int) - 0).toNat) (n_4 + (((p.Funcs.getD i_5.toNat default).Blocks).length : Int)) 0 ∧ r22 = (((((p.Funcs.getD i_5.toNat default).Blocks).length : Int) : Int) - k_24).toNat ∧ (0 : Int) ≤ k_24 ∧ (k_24 ≤ (((p.Funcs.getD i_5.toNat default).Blocks).length : Int) ∨ k_24 = 0) ∧ (-9223372036854775808 ≤ n_23 ∧ n_23 ≤ 9223372036854775807) ∧ (-9223372036854775808 ≤ k_24 ∧ k_24 ≤ 9223372036854775807), r22⟩) ((((((p.Funcs.getD i_5.toNat default).Blocks).length : Int) : Int) - 0).toNat, (n_4 + (((p.Funcs.getD i_5.toNat default).Blocks).length : Int)), 0) [2, 3] ⟨rfl, rfl, aM1, (.inr rfl), aM1, aM1⟩ ?_
   rintro ⟨r22, n_23, k_24⟩ ⟨hM25, hr26, hi27, hi28, hk29, hk30⟩
   refine JJ_nx fun _ _ hL hA => ?_; dsimp only at hL hA; subst hL hA
   refine Fb 40 1 fun _ => KS ?_
   refine Oq Vm (Oq (Vfa fo25_0 0) (Oq (VldF sh23 0) (Oq Vm (Oq (Vi sl23 1) ?_))))
   refine JJ_peek_GFunc i_5.toNat 1 rfl rng fun a32 k33 hb34 => ?_
   refine Fb 40 1 fun _ => ?_
   refine Oq (Vfa fo41_1 0) (Oq (VldF sh39 0) (Oq (Vlen sl39) (Oq Vlss (Oq Vm ?_))))
   refine Js 38 ?_ ?_
   ·intro h36
    have g37 := dt h36
    obtain ⟨r38, rfl⟩ := scc (n := r22) aM1
    refine Oq Vm (Oq Vlss (Oq Vpt (KS ?_)))
    refine Kc ?_ ?_
    ·intro h39
     have g40 := dt h39
     refine KS ?_
     refine Oq Vm (Oq (Vfa fo25_0 2) (Oq (VldF sh23 2) (Oq Vm (Oq (Vi sl23 3) (Oq (Vfa fo41_1 0) (Oq (VldF sh39 0) (Oq Vm (Oq (Vi sl39 1) ?_))))))))
     refine JJ_peek_GBlock k_24.toNat 1 rfl rng fun a41 k42 hb43 => ?_
     refine Fb 72 1 fun _ => ?_
     refine Oq (Vfa fo44_1 0) (Oq (VldF sh42 0) (Oq (Vlen sl42) (Oq Vadd (Oq Va (KS ?_)))))
     refine Oq Vm (Oq Vadd (Oq Va (KS ?_)))
     exact Kg (r38, (n_23 + (((((p.Funcs.getD i_5.toNat default).Blocks).getD k_24.toNat default).Stmts).length : Int)), (k_24 + 1)) [4, 5] ⟨(q3 hM25 (by simp only [g_HugeProgram_L1, h13, h16, h36, h39, cs4])), aM1, aM1, aM1, aM1, aM1⟩
    intro h39
    have g45 := df h39
    refine Ke ?_
    have hR46 := q2 hM25 n_23 (by simp only [g_HugeProgram_L1, h13, h16, h36, h39, cs4])
    refine KS ?_
    refine Oq Vm (Oq Vadd (Oq Va (KS ?_)))
    exact Kg (r15, n_23, (i_5 + 1)) [2, 3] ⟨(q3 hM6 (by simp only [g_HugeProgram_L0, h13, h16, h36, h39, hR46, cs4])), aM1, aM1, aM1, aM1, aM1⟩
   intro h36
   have g47 := df h36
   obtain rfl : r22 = 0 := by omega
   refine Osk (Osk (Oq Vpf (KS ?_)))
   refine Kf ?_
   refine Ke ?_
   have hR48 := q2 hM25 n_23 (by simp only [g_HugeProgram_L1, h13, h16, h36, cs4])
   refine KS ?_
   refine Oq Vm (Oq Vadd (Oq Va (KS ?_)))
   exact Kg (r15, n_23, (i_5 + 1)) [2, 3] ⟨(q3 hM6 (by simp only [g_HugeProgram_L0, h13, h16, h36, hR48, cs4])), aM1, aM1, aM1, aM1, aM1⟩
  intro h16
  have g49 := df h16
  refine Ke ?_
  have hR50 := q2 hM6 n_4 (by simp only [g_HugeProgram_L0, h13, h16, cs4])
  refine KS ?_
  refine Oq Vm (Oq Vgtr (Oq Va (KS ?_)))
  have hq := q4 hrr (decide (30 < n_4)) (by simp only [g_HugeProgram, h13, h16, hR50, cs4]); subst hq
  exact Kr () rfl (.tmp rfl .nil) [] trivial
 intro h13
 have g51 := df h13
 obtain rfl : r3 = 0 := by omega
 refine Osk (Osk (Oq Vpf (KS ?_)))
 refine Kf ?_
 refine Ke ?_
 have hR52 := q2 hM6 n_4 (by simp only [g_HugeProgram_L0, h13, cs4])
 refine KS ?_
 refine Oq Vm (Oq Vgtr (Oq Va (KS ?_)))
 have hq := q4 hrr (decide (30 < n_4)) (by simp only [g_HugeProgram, h13, hR52, cs4]); subst hq
 exact Kr () rfl (.tmp rfl .nil) [] trivial
theorem fn112 (c : Int) (hc_0 : 0 ≤ c ∧ c ≤ 255) (rr : Bool) (hrr : lx_letter c = rr) : FT Tryz.prog 112 #[.int .u8 c] [] (fun g : Unit => True) (fun g => vb rr) (fun g => []) := by
 refine FTi Tryz.func112 fun w0 M0 F0 => ?_
 refine KS ?_
 refine Oq Va (KS ?_)
 refine Oq Vm (Oq Vgeq (Oq Vm ?_))
 refine Js 5 ?_ ?_
 ·intro h1
  have g2 := dt h1
  refine Oq Vm (Oq Vleq (Oq Vpt (Oq Vm ?_)))
  refine Js 9 ?_ ?_
  ·intro h3
   have g4 := dt h3
   refine Osk (Osk (Osk (Osk (Osk (Osk (Oq Vpt (Oq Va (KS ?_))))))))
   have hq := q4 hrr true (by simp only [lx_letter, h1, h3, cs4]); subst hq
   exact Kr () rfl (.tmp rfl .nil) [] trivial
  intro h3
  have g5 := df h3
  refine Oq Vm (Oq Vgeq (Oq Vm ?_))
  refine Js 12 ?_ ?_
  ·intro h6
   have g7 := dt h6
   refine Oq Vm (Oq Vleq (Oq Vpt (Oq Vpf (Oq Va (KS ?_)))))
   have hq := q4 hrr (decide (c ≤ 90)) (by simp only [lx_letter, h1, h3, h6, cs4]); subst hq
   exact Kr () rfl (.tmp rfl .nil) [] trivial
  intro h6
  have g8 := df h6
  refine Osk (Osk (Oq Vpf (Oq Vpf (Oq Va (KS ?_)))))
  have hq := q4 hrr false (by simp only [lx_letter, h1, h3, h6, cs4]); subst hq
  exact Kr () rfl (.tmp rfl .nil) [] trivial
 intro h1
 have g9 := df h1
 refine Osk (Osk (Oq Vpf (Oq Vm (Oq Vm (Oq Vgeq (Oq Vm ?_))))))
 refine Js 12 ?_ ?_
 ·intro h10
  have g11 := dt h10
  refine Oq Vm (Oq Vleq (Oq Vpt (Oq Vpf (Oq Va (KS ?_)))))
  have hq := q4 hrr (decide (c ≤ 90)) (by simp only [lx_letter, h1, h10, cs4]); subst hq
  exact Kr () rfl (.tmp rfl .nil) [] trivial
 intro h10
 have g12 := df h10
 refine Osk (Osk (Oq Vpf (Oq Vpf (Oq Va (KS ?_)))))
 have hq := q4 hrr false (by simp only [lx_letter, h1, h10, cs4]); subst hq
 exact Kr () rfl (.tmp rfl .nil) [] trivial
theorem fn70 (s : List Str) (sa0 : Option Addr) (sk0 : Nat) (v : Str) (hv_0 : v.b.length ≤ 140737488355328) (rr : Int) (hrr : sc_Index_string s v = rr) : FT Tryz.prog 70 #[vl sa0 sk0 s, .string (bs v)] [S sa0 sk0 s] (fun g : Unit => i64ok rr) (fun g => vi rr) (fun g => []) := by
 refine FTi Tryz.func70 fun w0 M0 F0 => Fb 16 0 fun _ => ?_
 refine FoS 0 fun ho2 => ?_
 refine KS ?_
 refine Oq Va (KS ?_)
 refine Oq Vm (Oq (Vlen sl45) (Oq Vm (KS ?_)))
 refine Kl (γ := Nat × Int) (fun (r3, v8_4) => ⟨[(0, vl sa0 sk0 s), (1, .string (bs v)), (7, vi (s.length : Int)), (8, vi v8_4)], [S sa0 sk0 s], sc_Index_string_L0 s v r3 v8_4 = sc_Index_string_L0 s v (((s.length : Int) - 0).toNat) 0 ∧ r3 = ((s.length : Int) - v8_4).toNat ∧ (0 : Int) ≤ v8_4 ∧ v8_4 ≤ (s.length : Int) ∧ (-9223372036854775808 ≤ v8_4 ∧ v8_4 ≤ 9223372036854775807), r3⟩) (((s.length : Int) - 0).toNat, 0) [0] ⟨rfl, rfl, aM1, aM1, aM1⟩ ?_
 rintro ⟨r3, v8_4⟩ ⟨hM5, hr6, hi7, hi8, hk9⟩
 refine JJ_nx fun _ _ hL hA => ?_; dsimp only at hL hA; subst hL hA
 refine Fb 16 0 fun _ => ?_
 refine FoS 0 fun ho11 => ?_
 refine KS ?_
 refine Oq Vlss (KS ?_)
 refine Kc ?_ ?_
 ·intro h12
  have g13 := dt h12
  obtain ⟨r14, rfl⟩ := scc (n := r3) aM1
  refine KS ?_
  refine Oq Vm (Oq Va (KS ?_))
  refine Oq Vm (Oq Vm (Oq Vm (Oq (Vi sl45 0) ?_)))
  have hb15 := okS (i := v8_4.toNat) ho11 rng
  refine Oq (VldS sh9 0) (Oq (VeqS (l := v) (m := (s.getD v8_4.toNat default))) (KS ?_))
  refine Kc ?_ ?_
  ·intro h16
   have g17 := eq_of_beq h16
   refine KS ?_
   refine Oq Vm (Oq Va (KS ?_))
   have hR18 := q2 hM5 (.ret v8_4) (by simp only [sc_Index_string_L0, h12, h16, cs4])
   have hq := q4 hrr v8_4 (by simp only [sc_Index_string, h12, h16, hR18, cs4]); subst hq
   exact Kr () rfl (.tmp rfl .nil) [] en
  intro h16
  have g19 := ne_of_beq_false h16
  refine KS ?_
  refine Oq Vadd (Oq Vm (KS ?_))
  exact Kg (r14, (v8_4 + 1)) [0] ⟨(q3 hM5 (by simp only [sc_Index_string_L0, h12, h16, cs4])), aM1, aM1, aM1, aM1⟩
 intro h12
 have g20 := df h12
 obtain rfl : r3 = 0 := by omega
 refine Ke ?_
 have hR21 := q2 hM5 (.brk ()) (by simp only [sc_Index_string_L0, h12, cs4])
 refine KS ?_
 refine Oq Va (KS ?_)
 have hq := q4 hrr (-1) (by simp only [sc_Index_string, h12, hR21, cs4]); subst hq
 exact Kr () rfl (.tmp rfl .nil) [] en
theorem fn113 (s : List Str) (sa0 : Option Addr) (sk0 : Nat) (v : Str) (hv_0 : v.b.length ≤ 140737488355328) (rr : Bool) (hrr : sc_Contains_string s v = rr) : FT Tryz.prog 113 #[vl sa0 sk0 s, .string (bs v)] [S sa0 sk0 s] (fun g : Unit => True) (fun g => vb rr) (fun g => []) := by
 refine FTi Tryz.func113 fun w0 M0 F0 => Fb 16 0 fun _ => ?_
 refine FoS 0 fun ho2 => ?_
 refine KS ?_
 refine Oq Va (KS ?_)
 refine Oq Vm (Oq Vm ?_)
 refine letv (sc_Index_string s v) fun rv3 hg4 => ?_
 have hc5 := fn70 s sa0 sk0 v pre rv3 hg4
 refine Oc [0] ca70 hc5 ?_
 rintro - he6
 unfold i64ok at he6
 refine Oq Vgeq (Oq Va (KS ?_))
 have hq := q4 hrr (decide (0 ≤ rv3)) (by simp only [sc_Contains_string, hg4, cs4]); subst hq
 exact Kr () rfl (.tmp rfl .nil) [] trivial
theorem fn141 (c : Int) (hc_0 : 0 ≤ c ∧ c ≤ 255) (rr : Bool) (hrr : lx_digit c = rr) : FT Tryz.prog 141 #[.int .u8 c] [] (fun g : Unit => True) (fun g => vb rr) (fun g => []) := by
 refine FTi Tryz.func141 fun w0 M0 F0 => ?_
 refine KS ?_
 refine Oq Va (KS ?_)
 refine Oq Vm (Oq Vgeq (Oq Vm ?_))
 refine Js 5 ?_ ?_
 ·intro h1
  have g2 := dt h1
  refine Oq Vm (Oq Vleq (Oq Vpt (Oq Va (KS ?_))))
  have hq := q4 hrr (decide (c ≤ 57)) (by simp only [lx_digit, h1, cs4]); subst hq
  exact Kr () rfl (.tmp rfl .nil) [] trivial
 intro h1
 have g3 := df h1
 refine Osk (Osk (Oq Vpf (Oq Va (KS ?_))))
 have hq := q4 hrr false (by simp only [lx_digit, h1, cs4]); subst hq
 exact Kr () rfl (.tmp rfl .nil) [] trivial
theorem fn130 (c : Int) (hc_0 : 0 ≤ c ∧ c ≤ 255) (rr : Bool) (hrr : lx_part c = rr) : FT Tryz.prog 130 #[.int .u8 c] [] (fun g : Unit => True) (fun g => vb rr) (fun g => []) := by
 refine FTi Tryz.func130 fun w0 M0 F0 => ?_
 refine KS ?_
 refine Oq Va (KS ?_)
 refine Oq Vm ?_
 refine letv (lx_letter c) fun rv1 hg2 => ?_
 have hc3 := fn112 c pre rv1 hg2
 refine Oc [] ca112 hc3 ?_
 rintro - -
 refine Oq Vm ?_
 refine Js 5 ?_ ?_
 ·intro h4
  refine Osk (Osk (Oq Vpt (Oq Vm (Osk (Osk (Oq Vpt (Oq Va (KS ?_))))))))
  have hq := q4 hrr true (by simp only [lx_part, h4, hg2, cs4]); subst hq
  exact Kr () rfl (.tmp rfl .nil) [] trivial
 intro h4
 refine Oq Vm ?_
 refine letv (lx_digit c) fun rv7 hg8 => ?_
 have hc9 := fn141 c pre rv7 hg8
 refine Oc [] ca141 hc9 ?_
 rintro - -
 refine Oq Vpf (Oq Vm ?_)
 refine Js 9 ?_ ?_
 ·intro h10
  refine Osk (Osk (Oq Vpt (Oq Va (KS ?_))))
  have hq := q4 hrr true (by simp only [lx_part, h4, h10, hg2, hg8, cs4]); subst hq
  exact Kr () rfl (.tmp rfl .nil) [] trivial
 intro h10
 refine Oq Vm (Oq Veql (Oq Vpf (Oq Va (KS ?_))))
 have hq := q4 hrr (c == 95) (by simp only [lx_part, h4, h10, hg2, hg8, cs4]); subst hq
 exact Kr () rfl (.tmp rfl .nil) [] trivial
theorem fn114 (s : Str) (i : Int) (hs_0 : s.b.length ≤ 140737488355328) (hi_0 : i64ok i) (hi0 : 0 ≤ i ∧ i ≤ (s.b.length : Int)) (rr : Int) (hrr : lx_wordEnd s i = rr) : FT Tryz.prog 114 #[.string (bs s), vi i] [] (fun g : Unit => i64ok rr ∧ (i ≤ rr ∧ rr ≤ (s.b.length : Int))) (fun g => vi rr) (fun g => []) := by
 refine FTi Tryz.func114 fun w0 M0 F0 => ?_
 unfold i64ok at hi_0
 refine KS ?_
 refine Oq Va (KS ?_)
 refine Kl (γ := Nat × Int) (fun (r1, i_2) => ⟨[(0, .string (bs s)), (1, vi i_2)], [], lx_wordEnd_L0 s r1 i_2 = lx_wordEnd_L0 s (((s.b.length : Int) - i).toNat) i ∧ r1 = ((s.b.length : Int) - i_2).toNat ∧ (i : Int) ≤ i_2 ∧ (i_2 ≤ (s.b.length : Int) ∨ i_2 = i) ∧ (-9223372036854775808 ≤ i_2 ∧ i_2 ≤ 9223372036854775807), r1⟩) (((s.b.length : Int) - i).toNat, i) [] ⟨rfl, rfl, aM1, (.inr rfl), aM1⟩ ?_
 rintro ⟨r1, i_2⟩ ⟨hM3, hr4, hi5, hi6, hk7⟩
 refine JJ_nx fun _ _ hL hA => ?_; dsimp only at hL hA; subst hL hA
 refine KS ?_
 refine Oq Vm (Oq Vm (Oq (VlS un9 (l := s)) (Oq Vlss (Oq Vm ?_))))
 refine Js 9 ?_ ?_
 ·intro h8
  have g9 := dt h8
  obtain ⟨r10, rfl⟩ := scc (n := r1) aM1
  refine Oq Vm (Oq Vm (Oq (Vix un9 (l := s)) ?_))
  have hb11 := u8b (s.b.getD i_2.toNat 0)
  refine letv (lx_part ((s.b.getD i_2.toNat 0).toNat : Int)) fun rv12 hg13 => ?_
  have hc14 := fn130 (((s.b.getD i_2.toNat 0).toNat : Int)) pre rv12 hg13
  refine Oc [] ca130 hc14 ?_
  rintro - -
  refine Oq Vpt (KS ?_)
  refine Kc ?_ ?_
  ·intro h15
   refine KS ?_
   refine Oq Vm (Oq Vadd (Oq Va (KS ?_)))
   exact Kg (r10, (i_2 + 1)) [] ⟨(q3 hM3 (by simp only [lx_wordEnd_L0, h8, h15, hg13, cs4])), aM1, aM1, aM1, aM1⟩
  intro h15
  refine Ke ?_
  have hR18 := q2 hM3 i_2 (by simp only [lx_wordEnd_L0, h8, h15, hg13, cs4])
  refine KS ?_
  refine Oq Vm (Oq Va (KS ?_))
  have hq := q4 hrr i_2 (by simp only [lx_wordEnd, h8, h15, hg13, hR18, cs4]); subst hq
  exact Kr () rfl (.tmp rfl .nil) [] en
 intro h8
 have g19 := df h8
 obtain rfl : r1 = 0 := by omega
 refine Osk (Osk (Osk (Osk (Oq Vpf (KS ?_)))))
 refine Kf ?_
 refine Ke ?_
 have hR20 := q2 hM3 i_2 (by simp only [lx_wordEnd_L0, h8, cs4])
 refine KS ?_
 refine Oq Vm (Oq Va (KS ?_))
 have hq := q4 hrr i_2 (by simp only [lx_wordEnd, h8, hR20, cs4]); subst hq
 exact Kr () rfl (.tmp rfl .nil) [] en
theorem fn86 (s : Str) (kwLA : Option Addr) (kwLK : Nat) (hs_0 : s.b.length ≤ 140737488355328) (rr : Bool) (hrr : lx_IsName s = rr) : FT Tryz.prog 86 #[.string (bs s)] [pv (gp 0) [vl kwLA kwLK kwL], S kwLA kwLK kwL] (fun g : Unit => True) (fun g => vb rr) (fun g => []) := by
 refine FTi Tryz.func86 fun w0 M0 F0 => Fb 16 1 fun _ => ?_
 refine FoS 1 fun ho2 => ?_
 refine KS ?_
 refine Oq Va (KS ?_)
 refine Oq Vm (Oq (VeqS (l := s) (m := (Str.mk []))) (Oq Vm ?_))
 refine Js 5 ?_ ?_
 ·intro h3
  have g4 := eq_of_beq h3
  refine Osk (Osk (Osk (Oq Vpt (Oq Vm (Osk (Osk (Osk (Osk (Oq Vpt ?_)))))))))
  refine Oq Vm (Osk (Osk (Osk (Oq Vpt (KS ?_)))))
  refine Kt (KS ?_)
  refine Oq Va (KS ?_)
  have hq := q4 hrr false (by simp only [lx_IsName, h3, cs4]); subst hq
  exact Kr () rfl (.tmp rfl .nil) [] trivial
 intro h3
 have g5 := ne_of_beq_false h3
 have hsp := str_pos h3
 refine Oq Vm (Oq (VlS un9 (l := s)) (Oq Vgtr (Oq Vpf (Oq Vm ?_))))
 refine Js 10 ?_ ?_
 ·intro h6
  have g7 := dt h6
  refine Osk (Osk (Osk (Osk (Oq Vpt (Oq Vm (Osk (Osk (Osk (Oq Vpt ?_)))))))))
  refine KS ?_
  refine Kt (KS ?_)
  refine Oq Va (KS ?_)
  have hq := q4 hrr false (by simp only [lx_IsName, h3, h6, cs4]); subst hq
  exact Kr () rfl (.tmp rfl .nil) [] trivial
 intro h6
 have g8 := df h6
 refine Oq Vm (Oq (Vix un9 (l := s)) ?_)
 have hb9 := u8b (s.b.getD (0 : Int).toNat 0)
 refine letv (lx_letter ((s.b.getD (0 : Int).toNat 0).toNat : Int)) fun rv10 hg11 => ?_
 have hc12 := fn112 (((s.b.getD (0 : Int).toNat 0).toNat : Int)) pre rv10 hg11
 refine Oc [] ca112 hc12 ?_
 rintro - -
 refine Oq Vnot (Oq Vpf (Oq Vm ?_))
 refine Js 16 ?_ ?_
 ·intro h13
  have h15 := not_true h13
  refine Osk (Osk (Osk (Oq Vpt (KS ?_))))
  refine Kt (KS ?_)
  refine Oq Va (KS ?_)
  have hq := q4 hrr false (by simp only [lx_IsName, h3, h6, h13, h15, hg11, cs4]); subst hq
  exact Kr () rfl (.tmp rfl .nil) [] trivial
 intro h13
 have h18 := not_false h13
 refine Oq (Vld sh45 0) (Oq Vm ?_)
 refine letv (sc_Contains_string kwL s) fun rv20 hg21 => ?_
 have hc22 := fn113 kwL kwLA kwLK s pre rv20 hg21
 refine Oc [1] ca113 hc22 ?_
 rintro - -
 refine Oq Vpf (KS ?_)
 refine Kc ?_ ?_
 ·intro h23
  refine KS ?_
  refine Oq Va (KS ?_)
  have hq := q4 hrr false (by simp only [lx_IsName, h3, h6, h13, h18, h23, hg11, hg21, cs4]); subst hq
  exact Kr () rfl (.tmp rfl .nil) [] trivial
 intro h23
 refine KS ?_
 refine Oq Vm ?_
 refine letv (lx_wordEnd s 0) fun rv26 hg27 => ?_
 have hc28 := fn114 s 0 pre pre pre rv26 hg27
 refine Oc [] ca114 hc28 ?_
 rintro - ⟨he29, he30⟩
 unfold i64ok at he29
 refine Oq Vm (Oq (VlS un9 (l := s)) (Oq Veql (Oq Va (KS ?_))))
 have hq := q4 hrr (rv26 == (s.b.length : Int)) (by simp only [lx_IsName, h3, h6, h13, h18, h23, hg11, hg21, hg27, cs4]); subst hq
 exact Kr () rfl (.tmp rfl .nil) [] trivial
theorem fn115 (s : List GStmt) (sa0 : Option Addr) (sk0 : Nat) (fF : FuncId) (fC : List Value) (fp : GStmt → Bool) (fA : List SP) (hfc : callable Tryz.prog fF = true) (hfF : ∀ x ∈ s, ∀ (a2 : Option Addr) (k2 : Nat) (a3 : Option Addr) (k3 : Nat), i64ok x.Op → x.Def.b.length ≤ 140737488355328 → FT Tryz.prog fF ([(.agg #[vi x.Op, .string (bs x.Def), vl a2 k2 x.Uses, vl a3 k3 x.Targets] : Value)] ++ fC).toArray ([S a2 k2 x.Uses, S a3 k3 x.Targets] ++ [pAll fA]) (fun _ : Unit => True) (fun _ => .bool (fp x)) (fun _ => [])) (rr : Int) (hrr : sc_IndexFunc_Stmt s fp = rr) : FT Tryz.prog 115 #[vl sa0 sk0 s, .func (.func fF) #[] fC.toArray] [S sa0 sk0 s, pAll fA] (fun g : Unit => i64ok rr) (fun g => vi rr) (fun g => []) := by
 refine FTi Tryz.func115 fun w0 M0 F0 => Fb 72 0 fun _ => ?_
 refine KS ?_
 refine Oq Va (KS ?_)
 refine Oq Vm (Oq (Vlen sl42) (Oq Vm (KS ?_)))
 refine Kl (γ := Nat × Int) (fun (r2, v8_3) => ⟨[(0, vl sa0 sk0 s), (1, .func (.func fF) #[] fC.toArray), (7, vi (s.length : Int)), (8, vi v8_3)], [S sa0 sk0 s, pAll fA], sc_IndexFunc_Stmt_L0 s fp r2 v8_3 = sc_IndexFunc_Stmt_L0 s fp (((s.length : Int) - 0).toNat) 0 ∧ r2 = ((s.length : Int) - v8_3).toNat ∧ (0 : Int) ≤ v8_3 ∧ v8_3 ≤ (s.length : Int) ∧ (-9223372036854775808 ≤ v8_3 ∧ v8_3 ≤ 9223372036854775807), r2⟩) (((s.length : Int) - 0).toNat, 0) [0, 1] ⟨rfl, rfl, aM1, aM1, aM1⟩ ?_
 rintro ⟨r2, v8_3⟩ ⟨hM4, hr5, hi6, hi7, hk8⟩
 refine JJ_nx fun _ _ hL hA => ?_; dsimp only at hL hA; subst hL hA
 refine Fb 72 0 fun _ => KS ?_
 refine Oq Vlss (KS ?_)
 refine Kc ?_ ?_
 ·intro h10
  have g11 := dt h10
  obtain ⟨r12, rfl⟩ := scc (n := r2) aM1
  refine KS ?_
  refine Oq Vm (Oq Va (KS ?_))
  refine Oq Vm (Oq Vm (Oq Vm (Oq (Vi sl42 0) ?_)))
  refine JJ_peek_GStmt v8_3.toNat 0 rfl rng fun a13 k14 a15 k16 hb17 hb18 => ?_
  unfold i64ok at hb17
  refine Fb 16 1 fun _ => ?_
  refine FoS 1 fun ho20 => ?_
  refine Fb 16 2 fun _ => ?_
  refine FoS 2 fun ho22 => ?_
  refine Oq (VldA sh47 0) ?_
  refine JO_call [1, 2, 4] rfl rfl rfl (OpC.clo («as» := [(.agg #[vi ((s.getD v8_3.toNat default).Op), .string (bs ((s.getD v8_3.toNat default).Def)), vl a13 k14 ((s.getD v8_3.toNat default).Uses), vl a15 k16 ((s.getD v8_3.toNat default).Targets)] : Value)] ++ fC) rfl rfl hfc rfl (by simp)) (hfF (s.getD v8_3.toNat default) (getD_mem rng) a13 k14 a15 k16 pre pre) rfl fun _ _ => ?_
  refine KS ?_
  refine Kc ?_ ?_
  ·intro h23
   refine KS ?_
   refine Oq Vm (Oq Va (KS ?_))
   have hR25 := q2 hM4 (.ret v8_3) (by simp only [sc_IndexFunc_Stmt_L0, h10, h23, cs4])
   have hq := q4 hrr v8_3 (by simp only [sc_IndexFunc_Stmt, h10, h23, hR25, cs4]); subst hq
   exact Kr () rfl (.tmp rfl .nil) [] en
  intro h23
  refine KS ?_
  refine Oq Vadd (Oq Vm (KS ?_))
  exact Kg (r12, (v8_3 + 1)) [3, 4] ⟨(q3 hM4 (by simp only [sc_IndexFunc_Stmt_L0, h10, h23, cs4])), aM1, aM1, aM1, aM1⟩
 intro h10
 have g27 := df h10
 obtain rfl : r2 = 0 := by omega
 refine Ke ?_
 have hR28 := q2 hM4 (.brk ()) (by simp only [sc_IndexFunc_Stmt_L0, h10, cs4])
 refine KS ?_
 refine Oq Va (KS ?_)
 have hq := q4 hrr (-1) (by simp only [sc_IndexFunc_Stmt, h10, hR28, cs4]); subst hq
 exact Kr () rfl (.tmp rfl .nil) [] en
theorem fn87 (s : List GStmt) (sa0 : Option Addr) (sk0 : Nat) (fF : FuncId) (fC : List Value) (fp : GStmt → Bool) (fA : List SP) (hfc : callable Tryz.prog fF = true) (hfF : ∀ x ∈ s, ∀ (a2 : Option Addr) (k2 : Nat) (a3 : Option Addr) (k3 : Nat), i64ok x.Op → x.Def.b.length ≤ 140737488355328 → FT Tryz.prog fF ([(.agg #[vi x.Op, .string (bs x.Def), vl a2 k2 x.Uses, vl a3 k3 x.Targets] : Value)] ++ fC).toArray ([S a2 k2 x.Uses, S a3 k3 x.Targets] ++ [pAll fA]) (fun _ : Unit => True) (fun _ => .bool (fp x)) (fun _ => [])) (rr : Bool) (hrr : sc_ContainsFunc_Stmt s fp = rr) : FT Tryz.prog 87 #[vl sa0 sk0 s, .func (.func fF) #[] fC.toArray] [S sa0 sk0 s, pAll fA] (fun g : Unit => True) (fun g => vb rr) (fun g => []) := by
 refine FTi Tryz.func87 fun w0 M0 F0 => Fb 72 0 fun _ => ?_
 refine KS ?_
 refine Oq Va (KS ?_)
 refine Oq Vm (Oq Vm ?_)
 refine letv (sc_IndexFunc_Stmt s fp) fun rv2 hg3 => ?_
 have hc4 := fn115 s sa0 sk0 fF fC fp fA hfc hfF rv2 hg3
 refine Oc [0, 1] ca115 hc4 ?_
 rintro - he5
 unfold i64ok at he5
 refine Oq Vgeq (Oq Va (KS ?_))
 have hq := q4 hrr (decide (0 ≤ rv2)) (by simp only [sc_ContainsFunc_Stmt, hg3, cs4]); subst hq
 exact Kr () rfl (.tmp rfl .nil) [] trivial
theorem fn116 (s : List Str) (sa0 : Option Addr) (sk0 : Nat) (rr : List Str) (hrr : sc_Clone_string s = rr) : FT Tryz.prog 116 #[vl sa0 sk0 s] [S sa0 sk0 s] (fun g : Value => (rr.length = s.length)) (fun g => g) (fun g => [os g rr]) := by
 have hm : sc_Clone_string s = s := rfl
 rw [hm] at hrr
 subst hrr
 refine FTi Tryz.func116 fun w0 M0 F0 => ?_
 refine KS ?_
 refine Oq Va ?_
 refine KS ?_
 refine Oq Vm ?_
 refine Oq (VeqN un45) ?_
 refine KS ?_
 refine Kc ?_ ?_
 ·intro h
  refine Jnil 0 h ?_
  intro h0
  subst h0
  refine KS ?_
  refine Oq Va ?_
  refine KS ?_
  refine Jl [] (Ent.osNil (α := Str)) ?_
  exact Kr (.slice none 0 0) rfl (.tmp rfl .nil) [0] rfl
 ·intro _
  refine KS ?_
  refine Oa (As0 sl45) fun c1 => ?_
  refine Jo 0 ?_; rintro a2 k3 rfl
  refine Oq Vm ?_
  refine Fb 16 1 fun hl => ?_
  refine Jl [0] (Ent.crNil (α := Str) _) ?_
  refine Oa (Ap0 [0, 0] sl45 sl45 sz45) fun c4 => ?_
  refine Oq Va ?_
  refine KS ?_
  exact Kr c4 rfl (.tmp rfl .nil) [0] rfl
theorem fn131 (s : List Str) (sa0 : Option Addr) (sk0 : Nat) (fF : FuncId) (fC : List Value) (fp : Str → Bool) (fA : List SP) (hfc : callable Tryz.prog fF = true) (hfF : ∀ x ∈ s, x.b.length ≤ 140737488355328 → FT Tryz.prog fF ([(.string (bs x) : Value)] ++ fC).toArray ([] ++ [pAll fA]) (fun _ : Unit => True) (fun _ => .bool (fp x)) (fun _ => [])) (rr : Int) (hrr : sc_IndexFunc_string s fp = rr) : FT Tryz.prog 131 #[vl sa0 sk0 s, .func (.func fF) #[] fC.toArray] [S sa0 sk0 s, pAll fA] (fun g : Unit => i64ok rr) (fun g => vi rr) (fun g => []) := by
 refine FTi Tryz.func131 fun w0 M0 F0 => Fb 16 0 fun _ => ?_
 refine FoS 0 fun ho2 => ?_
 refine KS ?_
 refine Oq Va (KS ?_)
 refine Oq Vm (Oq (Vlen sl45) (Oq Vm (KS ?_)))
 refine Kl (γ := Nat × Int) (fun (r3, v8_4) => ⟨[(0, vl sa0 sk0 s), (1, .func (.func fF) #[] fC.toArray), (7, vi (s.length : Int)), (8, vi v8_4)], [S sa0 sk0 s, pAll fA], sc_IndexFunc_string_L0 s fp r3 v8_4 = sc_IndexFunc_string_L0 s fp (((s.length : Int) - 0).toNat) 0 ∧ r3 = ((s.length : Int) - v8_4).toNat ∧ (0 : Int) ≤ v8_4 ∧ v8_4 ≤ (s.length : Int) ∧ (-9223372036854775808 ≤ v8_4 ∧ v8_4 ≤ 9223372036854775807), r3⟩) (((s.length : Int) - 0).toNat, 0) [0, 1] ⟨rfl, rfl, aM1, aM1, aM1⟩ ?_
 rintro ⟨r3, v8_4⟩ ⟨hM5, hr6, hi7, hi8, hk9⟩
 refine JJ_nx fun _ _ hL hA => ?_; dsimp only at hL hA; subst hL hA
 refine Fb 16 0 fun _ => ?_
 refine FoS 0 fun ho11 => ?_
 refine KS ?_
 refine Oq Vlss (KS ?_)
 refine Kc ?_ ?_
 ·intro h12
  have g13 := dt h12
  obtain ⟨r14, rfl⟩ := scc (n := r3) aM1
  refine KS ?_
  refine Oq Vm (Oq Va (KS ?_))
  refine Oq Vm (Oq Vm (Oq Vm (Oq (Vi sl45 0) ?_)))
  have hb15 := okS (i := v8_4.toNat) ho11 rng
  refine Oq (VldS sh9 0) ?_
  refine JO_call [1] rfl rfl rfl (OpC.clo («as» := [(.string (bs (s.getD v8_4.toNat default)) : Value)] ++ fC) rfl rfl hfc rfl (by simp)) (hfF (s.getD v8_4.toNat default) (getD_mem rng)  pre) rfl fun _ _ => ?_
  refine KS ?_
  refine Kc ?_ ?_
  ·intro h16
   refine KS ?_
   refine Oq Vm (Oq Va (KS ?_))
   have hR18 := q2 hM5 (.ret v8_4) (by simp only [sc_IndexFunc_string_L0, h12, h16, cs4])
   have hq := q4 hrr v8_4 (by simp only [sc_IndexFunc_string, h12, h16, hR18, cs4]); subst hq
   exact Kr () rfl (.tmp rfl .nil) [] en
  intro h16
  refine KS ?_
  refine Oq Vadd (Oq Vm (KS ?_))
  exact Kg (r14, (v8_4 + 1)) [0, 1] ⟨(q3 hM5 (by simp only [sc_IndexFunc_string_L0, h12, h16, cs4])), aM1, aM1, aM1, aM1⟩
 intro h12
 have g20 := df h12
 obtain rfl : r3 = 0 := by omega
 refine Ke ?_
 have hR21 := q2 hM5 (.brk ()) (by simp only [sc_IndexFunc_string_L0, h12, cs4])
 refine KS ?_
 refine Oq Va (KS ?_)
 have hq := q4 hrr (-1) (by simp only [sc_IndexFunc_string, h12, hR21, cs4]); subst hq
 exact Kr () rfl (.tmp rfl .nil) [] en
theorem fn117 (s : List Str) (sa0 : Option Addr) (sk0 : Nat) (fF : FuncId) (fC : List Value) (fp : Str → Bool) (fA : List SP) (hfc : callable Tryz.prog fF = true) (hfF : ∀ x ∈ s, x.b.length ≤ 140737488355328 → FT Tryz.prog fF ([(.string (bs x) : Value)] ++ fC).toArray ([] ++ [pAll fA]) (fun _ : Unit => True) (fun _ => .bool (fp x)) (fun _ => [])) (rr : Bool) (hrr : sc_ContainsFunc_string s fp = rr) : FT Tryz.prog 117 #[vl sa0 sk0 s, .func (.func fF) #[] fC.toArray] [S sa0 sk0 s, pAll fA] (fun g : Unit => True) (fun g => vb rr) (fun g => []) := by
 refine FTi Tryz.func117 fun w0 M0 F0 => Fb 16 0 fun _ => ?_
 refine FoS 0 fun ho2 => ?_
 refine KS ?_
 refine Oq Va (KS ?_)
 refine Oq Vm (Oq Vm ?_)
 refine letv (sc_IndexFunc_string s fp) fun rv3 hg4 => ?_
 have hc5 := fn131 s sa0 sk0 fF fC fp fA hfc hfF rv3 hg4
 refine Oc [0, 1] ca131 hc5 ?_
 rintro - he6
 unfold i64ok at he6
 refine Oq Vgeq (Oq Va (KS ?_))
 have hq := q4 hrr (decide (0 ≤ rv3)) (by simp only [sc_ContainsFunc_string, hg4, cs4]); subst hq
 exact Kr () rfl (.tmp rfl .nil) [] trivial
theorem fn118 (n : Str) (kwLA : Option Addr) (kwLK : Nat) (hn_0 : n.b.length ≤ 140737488355328) (rr : Bool) (hrr : sx_valid_1 n = rr) : FT Tryz.prog 118 #[.string (bs n)] [pv (gp 0) [vl kwLA kwLK kwL], S kwLA kwLK kwL] (fun g : Unit => True) (fun g => vb rr) (fun g => []) := by
 refine FTi Tryz.func118 fun w0 M0 F0 => Fb 16 1 fun _ => ?_
 refine FoS 1 fun ho2 => ?_
 refine KS ?_
 refine Oq Va (KS ?_)
 refine Oq Vm ?_
 refine letv (lx_IsName n) fun rv3 hg4 => ?_
 have hc5 := fn86 n kwLA kwLK pre rv3 hg4
 refine Oc [0, 1] ca86 hc5 ?_
 rintro - -
 refine Oq Vnot (Oq Va (KS ?_))
 have hq := q4 hrr (!rv3) (by simp only [sx_valid_1, hg4, cs4]); subst hq
 exact Kr () rfl (.tmp rfl .nil) [] trivial
theorem fn89 (s : GStmt) (sa2 : Option Addr) (sk2 : Nat) (sa3 : Option Addr) (sk3 : Nat) (kwLA : Option Addr) (kwLK : Nat) (hs_0 : i64ok s.Op) (hs_1 : s.Def.b.length ≤ 140737488355328) (hsm : SSm s = true) (rr : Bool) (hrr : sx_valid s = rr) : FT Tryz.prog 89 #[.agg #[vi s.Op, .string (bs s.Def), vl sa2 sk2 s.Uses, vl sa3 sk3 s.Targets]] [S sa2 sk2 s.Uses, S sa3 sk3 s.Targets, pv (gp 0) [vl kwLA kwLK kwL], S kwLA kwLK kwL] (fun g : Unit => True) (fun g => vb rr) (fun g => []) := by
 refine FTi Tryz.func89 fun w0 M0 F0 => ?_
 unfold i64ok at hs_0
 refine Fb 16 0 fun _ => ?_
 refine FoS 0 fun ho2 => ?_
 refine Fb 16 1 fun _ => ?_
 refine FoS 1 fun ho4 => ?_
 refine Fb 16 3 fun _ => ?_
 refine FoS 3 fun ho6 => ?_
 have hsl := SSm_l hsm
 refine KS ?_
 refine Oa (Ab [vi s.Op, .string (bs s.Def), vl sa2 sk2 s.Uses, vl sa3 sk3 s.Targets]) fun p7 => Oq Va (KS ?_)
 refine Kq [0, 1, 3, 0, 15, 31] fmix ?_
 refine Qv [0] (Vfa fo47_2 0) (Qv [0] (VldF sh45 0) (Qv [] (Vlen sl45) (Qv [] Va (Qv [] Va (Qv [] Va ?_)))))
 refine Qn ⟨by kernel_rfl, ?_⟩
 refine KS ?_
 refine Oq (Vfa fo47_0 0) (Oq (VldF sh3 0) (KS ?_))
 refine Oq Veql (Oq Va (KS ?_))
 refine Kc ?_ ?_
 ·intro h8
  have g9 := eq_of_beq h8
  refine Ke ?_
  refine KS ?_
  refine Oq Va (KS ?_)
  refine Ke ?_
  refine KS ?_
  refine JK_drawK [0, 1, 3, 0, 8, 31, 63] fmix ?_
  refine Dv [0] (Vfa fo47_2 0) (Dv [0] (VldF sh45 0) ?_)
  refine letv (sc_Clone_string s.Uses) fun rv11 hg12 => ?_
  refine Dx [1] [] [2, 0, 1] (fun G => (G.g 2 0)) [fun G => SP.fact ((rv11.length = s.Uses.length)), fun G => os (G.g 2 0) rv11] (fun G => xC [0] ca116 (fn116 s.Uses sa2 sk2 rv11 hg12)) (Dv [0] (Vfa fo47_3 0) (Dv [0] (VldF sh45 0) ?_))
  have hn14 := la rv11 s.Targets
  refine Dx [2, 5, 6] [6] [1, 2, 0] (fun G => (G.g 5 0)) [fun G => os (G.g 5 0) (rv11 ++ s.Targets)] (fun G => by refine xf 1 rfl ?_; rintro he15; exact xA (Ap [2, 0] sl45 sl45 sz45)) (Dg [] (fun G => (G.g 5 0)) (fun G => Va) ?_)
  refine Dn ⟨by kernel_rfl, fun G => ?_⟩
  refine Jw2 [(1, p7), (4, vi (s.Uses.length : Int)), (5, vi 0), (3, vi 1), (6, (G.g 5 0))] [0, 1, 2, 3, 4] [SP.fact ((rv11.length = s.Uses.length)), os (G.g 5 0) (rv11 ++ s.Targets)] ?_
  generalize G.g 5 0 = c13
  refine Jf 5 rfl ?_; rintro he16
  refine Jk [0, 1, 2, 3, 4, 6] ?_
  refine Jo 5 ?_; rintro a17 k18 rfl
  refine Fb 16 5 fun _ => ?_
  refine FoS 5 fun ho20 => ?_
  refine KS ?_
  refine Oq Vm (Oq Veql (KS ?_))
  refine Kt (KS ?_)
  refine Oq Vm (Oq (Vfa fo47_1 0) (Oq (VldF sh9 0) (Oa (AsV sl45 sz45 [.string (bs s.Def)] [.string (bs s.Def)]) fun c21 => ?_)))
  refine Jo 0 ?_; rintro a22 k23 rfl
  refine Jl [0] (Ent.cr1 (α := Str) (A := []) _ s.Def _ aB1 (fun _ => ⟨rfl, aS1⟩)) ?_
  refine Oa (ApO [6, 0] sl45 sl45 sz45) fun c24 => ?_
  refine Jo 0 ?_; rintro a25 k26 rfl
  refine Fb 16 0 fun _ => ?_
  refine FoS 0 fun ho28 => ?_
  have hn29 := la (rv11 ++ s.Targets) ([s.Def] : List Str)
  refine Oq Va (KS ?_)
  refine Oq Vm (Oq Veql (Oq Vm (Osk (Osk (Osk (Oq Vpt (Oq Vm (Oq (Vfa fo47_2 1) (Oq (VldF sh45 1) ?_)))))))))
  refine Oq (Vlen sl45) (Oq Vm (Oq Veql (Oq Vpt (Oq Vm ?_))))
  refine Js 64 ?_ ?_
  ·intro h30
   have g31 := eq_of_beq h30
   refine Oq Vm (Oq Vleq (Oq Vpt (Oq Vm ?_)))
   refine Js 68 ?_ ?_
   ·intro h32
    have g33 := dt h32
    refine Oq (Vfa fo47_3 1) (Oq (VldF sh45 1) (Oq (Vlen sl45) (Oq Vm (Oq Veql (Oq Vpt (Oq Vm ?_))))))
    refine Js 75 ?_ ?_
    ·intro h34
     have g35 := eq_of_beq h34
     refine Oq Vm ?_
     refine Jl [0] (Ent.freeze _ _) ?_
     refine JJ_ent (Ent.pall [4, 5] rfl rfl) ?_
     refine letv (sc_ContainsFunc_string ((rv11 ++ s.Targets) ++ [s.Def]) (fun x => sx_valid_1 x)) fun rv36 hg37 => ?_
     have hc38 := fn117 (((rv11 ++ s.Targets) ++ [s.Def])) a25 k26 118 [] (fun x => sx_valid_1 x) [pv (gp 0) [vl kwLA kwLK kwL], S kwLA kwLK kwL] ca118 (fun x hx hq0 => FT_pall (A1 := _) (fn118 x  kwLA kwLK hq0 _ rfl)) rv36 hg37
     refine Oc [1, 0] ca117 hc38 ?_
     rintro - -
     refine Oq Vnot (Oq Vpt (Oq Va (KS ?_)))
     have hq := q4 hrr (!rv36) (by simp only [sx_valid, h8, h30, h32, h34, hg12, hg37, cs4]); subst hq
     exact Kr () rfl (.tmp rfl .nil) [] trivial
    intro h34
    have g39 := ne_of_beq_false h34
    refine Osk (Osk (Osk (Oq Vpf (Oq Va (KS ?_)))))
    have hq := q4 hrr false (by simp only [sx_valid, h8, h30, h32, h34, hg12, cs4]); subst hq
    exact Kr () rfl (.tmp rfl .nil) [] trivial
   intro h32
   have g40 := df h32
   refine Osk (Osk (Osk (Osk (Osk (Oq Vpf (Oq Vm (Osk (Osk (Osk ?_)))))))))
   refine Oq Vpf (Oq Va (KS ?_))
   have hq := q4 hrr false (by simp only [sx_valid, h8, h30, h32, hg12, cs4]); subst hq
   exact Kr () rfl (.tmp rfl .nil) [] trivial
  intro h30
  have g41 := ne_of_beq_false h30
  refine Osk (Osk (Oq Vpf (Oq Vm (Osk (Osk (Osk (Osk (Osk (Oq Vpf ?_)))))))))
  refine Oq Vm (Osk (Osk (Osk (Oq Vpf (Oq Va (KS ?_))))))
  have hq := q4 hrr false (by simp only [sx_valid, h8, h30, hg12, cs4]); subst hq
  exact Kr () rfl (.tmp rfl .nil) [] trivial
 intro h8
 have g42 := ne_of_beq_false h8
 refine KS ?_
 refine Oq Veql (Oq Va (KS ?_))
 refine Kc ?_ ?_
 ·intro h43
  have g44 := eq_of_beq h43
  refine Ke ?_
  refine KS ?_
  refine Oq Vm (Oq Vmax (Oq Va (KS ?_)))
  refine Ke ?_
  refine KS ?_
  refine JK_drawK [0, 1, 3, 0, 8, 31, 63] fmix ?_
  refine Dv [0] (Vfa fo47_2 0) (Dv [0] (VldF sh45 0) ?_)
  refine letv (sc_Clone_string s.Uses) fun rv46 hg47 => ?_
  refine Dx [1] [] [2, 0, 1] (fun G => (G.g 2 0)) [fun G => SP.fact ((rv46.length = s.Uses.length)), fun G => os (G.g 2 0) rv46] (fun G => xC [0] ca116 (fn116 s.Uses sa2 sk2 rv46 hg47)) (Dv [0] (Vfa fo47_3 0) (Dv [0] (VldF sh45 0) ?_))
  have hn49 := la rv46 s.Targets
  refine Dx [2, 5, 6] [6] [1, 2, 0] (fun G => (G.g 5 0)) [fun G => os (G.g 5 0) (rv46 ++ s.Targets)] (fun G => by refine xf 1 rfl ?_; rintro he50; exact xA (Ap [2, 0] sl45 sl45 sz45)) (Dg [] (fun G => (G.g 5 0)) (fun G => Va) ?_)
  refine Dn ⟨by kernel_rfl, fun G => ?_⟩
  refine Jw2 [(1, p7), (3, vi 0), (5, vi 0), (4, vi (max (s.Uses.length : Int) 1)), (6, (G.g 5 0))] [0, 1, 2, 3, 4] [SP.fact ((rv46.length = s.Uses.length)), os (G.g 5 0) (rv46 ++ s.Targets)] ?_
  generalize G.g 5 0 = c48
  refine Jf 5 rfl ?_; rintro he51
  refine Jk [0, 1, 2, 3, 4, 6] ?_
  refine Jo 5 ?_; rintro a52 k53 rfl
  refine Fb 16 5 fun _ => ?_
  refine FoS 5 fun ho55 => ?_
  refine KS ?_
  refine Oq Vm (Oq Veql (KS ?_))
  refine Kf (KS ?_)
  refine Oq Vm (Oq Veql (Oq Vm (Oq (Vfa fo47_1 0) (Oq (VldF sh9 0) (Oq (VeqS (l := s.Def) (m := (Str.mk []))) (Oq Vpf (Oq Vm ?_)))))))
  refine Js 57 ?_ ?_
  ·intro h56
   have g57 := eq_of_beq h56
   refine Oq (Vfa fo47_2 0) (Oq (VldF sh45 0) (Oq (Vlen sl45) (Oq Vm (Oq Veql (Oq Vpt (Oq Vm ?_))))))
   refine Js 64 ?_ ?_
   ·intro h58
    have g59 := eq_of_beq h58
    refine Oq Vm (Oq Vleq (Oq Vpt (Oq Vm ?_)))
    refine Js 68 ?_ ?_
    ·intro h60
     have g61 := dt h60
     refine Oq (Vfa fo47_3 0) (Oq (VldF sh45 0) (Oq (Vlen sl45) (Oq Vm (Oq Veql (Oq Vpt (Oq Vm ?_))))))
     refine Js 75 ?_ ?_
     ·intro h62
      have g63 := eq_of_beq h62
      refine Oq Vm ?_
      refine Jl [5] (Ent.freeze _ _) ?_
      refine JJ_ent (Ent.pall [4, 5] rfl rfl) ?_
      refine letv (sc_ContainsFunc_string (rv46 ++ s.Targets) (fun x => sx_valid_1 x)) fun rv64 hg65 => ?_
      have hc66 := fn117 ((rv46 ++ s.Targets)) a52 k53 118 [] (fun x => sx_valid_1 x) [pv (gp 0) [vl kwLA kwLK kwL], S kwLA kwLK kwL] ca118 (fun x hx hq0 => FT_pall (A1 := _) (fn118 x  kwLA kwLK hq0 _ rfl)) rv64 hg65
      refine Oc [1, 0] ca117 hc66 ?_
      rintro - -
      refine Oq Vnot (Oq Vpt (Oq Va (KS ?_)))
      have hq := q4 hrr (!rv64) (by simp only [sx_valid, h8, h43, h56, h58, h60, h62, hg47, hg65, cs4]); subst hq
      exact Kr () rfl (.tmp rfl .nil) [] trivial
     intro h62
     have g67 := ne_of_beq_false h62
     refine Osk (Osk (Osk (Oq Vpf (Oq Va (KS ?_)))))
     have hq := q4 hrr false (by simp only [sx_valid, h8, h43, h56, h58, h60, h62, hg47, cs4]); subst hq
     exact Kr () rfl (.tmp rfl .nil) [] trivial
    intro h60
    have g68 := df h60
    refine Osk (Osk (Osk (Osk (Osk (Oq Vpf (Oq Vm (Osk (Osk (Osk ?_)))))))))
    refine Oq Vpf (Oq Va (KS ?_))
    have hq := q4 hrr false (by simp only [sx_valid, h8, h43, h56, h58, h60, hg47, cs4]); subst hq
    exact Kr () rfl (.tmp rfl .nil) [] trivial
   intro h58
   have g69 := ne_of_beq_false h58
   refine Osk (Osk (Oq Vpf (Oq Vm (Osk (Osk (Osk (Osk (Osk (Oq Vpf ?_)))))))))
   refine Oq Vm (Osk (Osk (Osk (Oq Vpf (Oq Va (KS ?_))))))
   have hq := q4 hrr false (by simp only [sx_valid, h8, h43, h56, h58, hg47, cs4]); subst hq
   exact Kr () rfl (.tmp rfl .nil) [] trivial
  intro h56
  have g70 := ne_of_beq_false h56
  refine Osk (Osk (Osk (Osk (Osk (Oq Vpf (Oq Vm (Osk (Osk (Oq Vpf ?_)))))))))
  refine Oq Vm (Osk (Osk (Osk (Osk (Osk (Oq Vpf (Oq Vm (Osk (Osk ?_)))))))))
  refine Osk (Oq Vpf (Oq Va (KS ?_)))
  have hq := q4 hrr false (by simp only [sx_valid, h8, h43, h56, hg47, cs4]); subst hq
  exact Kr () rfl (.tmp rfl .nil) [] trivial
 intro h43
 have g71 := ne_of_beq_false h43
 refine KS ?_
 refine Oq Veql (Oq Va (KS ?_))
 refine Kc ?_ ?_
 ·intro h72
  have g73 := eq_of_beq h72
  refine Ke ?_
  refine KS ?_
  refine Oq Va (KS ?_)
  refine Ke ?_
  refine KS ?_
  refine JK_drawK [0, 1, 3, 0, 8, 31, 63] fmix ?_
  refine Dv [0] (Vfa fo47_2 0) (Dv [0] (VldF sh45 0) ?_)
  refine letv (sc_Clone_string s.Uses) fun rv75 hg76 => ?_
  refine Dx [1] [] [2, 0, 1] (fun G => (G.g 2 0)) [fun G => SP.fact ((rv75.length = s.Uses.length)), fun G => os (G.g 2 0) rv75] (fun G => xC [0] ca116 (fn116 s.Uses sa2 sk2 rv75 hg76)) (Dv [0] (Vfa fo47_3 0) (Dv [0] (VldF sh45 0) ?_))
  have hn78 := la rv75 s.Targets
  refine Dx [2, 5, 6] [6] [1, 2, 0] (fun G => (G.g 5 0)) [fun G => os (G.g 5 0) (rv75 ++ s.Targets)] (fun G => by refine xf 1 rfl ?_; rintro he79; exact xA (Ap [2, 0] sl45 sl45 sz45)) (Dg [] (fun G => (G.g 5 0)) (fun G => Va) ?_)
  refine Dn ⟨by kernel_rfl, fun G => ?_⟩
  refine Jw2 [(1, p7), (3, vi 0), (5, vi 0), (4, vi 1), (6, (G.g 5 0))] [0, 1, 2, 3, 4] [SP.fact ((rv75.length = s.Uses.length)), os (G.g 5 0) (rv75 ++ s.Targets)] ?_
  generalize G.g 5 0 = c77
  refine Jf 5 rfl ?_; rintro he80
  refine Jk [0, 1, 2, 3, 4, 6] ?_
  refine Jo 5 ?_; rintro a81 k82 rfl
  refine Fb 16 5 fun _ => ?_
  refine FoS 5 fun ho84 => ?_
  refine KS ?_
  refine Oq Vm (Oq Veql (KS ?_))
  refine Kf (KS ?_)
  refine Oq Vm (Oq Veql (Oq Vm (Oq (Vfa fo47_1 0) (Oq (VldF sh9 0) (Oq (VeqS (l := s.Def) (m := (Str.mk []))) (Oq Vpf (Oq Vm ?_)))))))
  refine Js 57 ?_ ?_
  ·intro h85
   have g86 := eq_of_beq h85
   refine Oq (Vfa fo47_2 0) (Oq (VldF sh45 0) (Oq (Vlen sl45) (Oq Vm (Oq Veql (Oq Vpt (Oq Vm ?_))))))
   refine Js 64 ?_ ?_
   ·intro h87
    have g88 := eq_of_beq h87
    refine Oq Vm (Oq Vleq (Oq Vpt (Oq Vm (Oq (Vfa fo47_3 0) (Oq (VldF sh45 0) (Oq (Vlen sl45) (Oq Vm (Oq Veql (Oq Vpt ?_)))))))))
    refine Oq Vm ?_
    refine Js 75 ?_ ?_
    ·intro h89
     have g90 := eq_of_beq h89
     refine Oq Vm ?_
     refine Jl [5] (Ent.freeze _ _) ?_
     refine JJ_ent (Ent.pall [4, 5] rfl rfl) ?_
     refine letv (sc_ContainsFunc_string (rv75 ++ s.Targets) (fun x => sx_valid_1 x)) fun rv91 hg92 => ?_
     have hc93 := fn117 ((rv75 ++ s.Targets)) a81 k82 118 [] (fun x => sx_valid_1 x) [pv (gp 0) [vl kwLA kwLK kwL], S kwLA kwLK kwL] ca118 (fun x hx hq0 => FT_pall (A1 := _) (fn118 x  kwLA kwLK hq0 _ rfl)) rv91 hg92
     refine Oc [1, 0] ca117 hc93 ?_
     rintro - -
     refine Oq Vnot (Oq Vpt (Oq Va (KS ?_)))
     have hq := q4 hrr (!rv91) (by simp only [sx_valid, h8, h43, h72, h85, h87, h89, hg76, hg92, cs4]); subst hq
     exact Kr () rfl (.tmp rfl .nil) [] trivial
    intro h89
    have g94 := ne_of_beq_false h89
    refine Osk (Osk (Osk (Oq Vpf (Oq Va (KS ?_)))))
    have hq := q4 hrr false (by simp only [sx_valid, h8, h43, h72, h85, h87, h89, hg76, cs4]); subst hq
    exact Kr () rfl (.tmp rfl .nil) [] trivial
   intro h87
   have g95 := ne_of_beq_false h87
   refine Osk (Osk (Oq Vpf (Oq Vm (Osk (Osk (Osk (Osk (Osk (Oq Vpf ?_)))))))))
   refine Oq Vm (Osk (Osk (Osk (Oq Vpf (Oq Va (KS ?_))))))
   have hq := q4 hrr false (by simp only [sx_valid, h8, h43, h72, h85, h87, hg76, cs4]); subst hq
   exact Kr () rfl (.tmp rfl .nil) [] trivial
  intro h85
  have g96 := ne_of_beq_false h85
  refine Osk (Osk (Osk (Osk (Osk (Oq Vpf (Oq Vm (Osk (Osk (Oq Vpf ?_)))))))))
  refine Oq Vm (Osk (Osk (Osk (Osk (Osk (Oq Vpf (Oq Vm (Osk (Osk ?_)))))))))
  refine Osk (Oq Vpf (Oq Va (KS ?_)))
  have hq := q4 hrr false (by simp only [sx_valid, h8, h43, h72, h85, hg76, cs4]); subst hq
  exact Kr () rfl (.tmp rfl .nil) [] trivial
 intro h72
 have g97 := ne_of_beq_false h72
 refine KS ?_
 refine Oq Veql (Oq Va (KS ?_))
 refine Kc ?_ ?_
 ·intro h98
  have g99 := eq_of_beq h98
  refine KS ?_
  refine Kc ?_ ?_
  ·intro h100
   have g101 := eq_of_beq h100
   refine Ke ?_
   refine KS ?_
   refine Oq Va (KS ?_)
   refine Oq Va (KS ?_)
   refine Ke ?_
   refine KS ?_
   refine JK_drawK [0, 1, 3, 0, 8, 31, 63] fmix ?_
   refine Dv [0] (Vfa fo47_2 0) (Dv [0] (VldF sh45 0) ?_)
   refine letv (sc_Clone_string s.Uses) fun rv103 hg104 => ?_
   refine Dx [1] [] [2, 0, 1] (fun G => (G.g 2 0)) [fun G => SP.fact ((rv103.length = s.Uses.length)), fun G => os (G.g 2 0) rv103] (fun G => xC [0] ca116 (fn116 s.Uses sa2 sk2 rv103 hg104)) (Dv [0] (Vfa fo47_3 0) (Dv [0] (VldF sh45 0) ?_))
   have hn106 := la rv103 s.Targets
   refine Dx [2, 5, 6] [6] [1, 2, 0] (fun G => (G.g 5 0)) [fun G => os (G.g 5 0) (rv103 ++ s.Targets)] (fun G => by refine xf 1 rfl ?_; rintro he107; exact xA (Ap [2, 0] sl45 sl45 sz45)) (Dg [] (fun G => (G.g 5 0)) (fun G => Va) ?_)
   refine Dn ⟨by kernel_rfl, fun G => ?_⟩
   refine Jw2 [(1, p7), (5, vi 0), (3, vi 1), (4, vi 0), (6, (G.g 5 0))] [0, 1, 2, 3, 4] [SP.fact ((rv103.length = s.Uses.length)), os (G.g 5 0) (rv103 ++ s.Targets)] ?_
   generalize G.g 5 0 = c105
   refine Jf 5 rfl ?_; rintro he108
   refine Jk [0, 1, 2, 3, 4, 6] ?_
   refine Jo 5 ?_; rintro a109 k110 rfl
   refine Fb 16 5 fun _ => ?_
   refine FoS 5 fun ho112 => ?_
   refine KS ?_
   refine Oq Vm (Oq Veql (KS ?_))
   refine Kt (KS ?_)
   refine Oq Vm (Oq (Vfa fo47_1 0) (Oq (VldF sh9 0) (Oa (AsV sl45 sz45 [.string (bs s.Def)] [.string (bs s.Def)]) fun c113 => ?_)))
   refine Jo 0 ?_; rintro a114 k115 rfl
   refine Jl [0] (Ent.cr1 (α := Str) (A := []) _ s.Def _ aB1 (fun _ => ⟨rfl, aS1⟩)) ?_
   refine Oa (ApO [6, 0] sl45 sl45 sz45) fun c116 => ?_
   refine Jo 0 ?_; rintro a117 k118 rfl
   refine Fb 16 0 fun _ => ?_
   refine FoS 0 fun ho120 => ?_
   have hn121 := la (rv103 ++ s.Targets) ([s.Def] : List Str)
   refine Oq Va (KS ?_)
   refine Oq Vm (Oq Veql (Oq Vm (Osk (Osk (Osk (Oq Vpt (Oq Vm (Oq (Vfa fo47_2 1) (Oq (VldF sh45 1) ?_)))))))))
   refine Oq (Vlen sl45) (Oq Vm (Oq Veql (Oq Vpt (Oq Vm ?_))))
   refine Js 64 ?_ ?_
   ·intro h122
    have g123 := eq_of_beq h122
    refine Oq Vm (Oq Vleq (Oq Vpt (Oq Vm (Oq (Vfa fo47_3 1) (Oq (VldF sh45 1) (Oq (Vlen sl45) (Oq Vm (Oq Veql (Oq Vpt ?_)))))))))
    refine Oq Vm ?_
    refine Js 75 ?_ ?_
    ·intro h124
     have g125 := eq_of_beq h124
     refine Oq Vm ?_
     refine Jl [0] (Ent.freeze _ _) ?_
     refine JJ_ent (Ent.pall [4, 5] rfl rfl) ?_
     refine letv (sc_ContainsFunc_string ((rv103 ++ s.Targets) ++ [s.Def]) (fun x => sx_valid_1 x)) fun rv126 hg127 => ?_
     have hc128 := fn117 (((rv103 ++ s.Targets) ++ [s.Def])) a117 k118 118 [] (fun x => sx_valid_1 x) [pv (gp 0) [vl kwLA kwLK kwL], S kwLA kwLK kwL] ca118 (fun x hx hq0 => FT_pall (A1 := _) (fn118 x  kwLA kwLK hq0 _ rfl)) rv126 hg127
     refine Oc [1, 0] ca117 hc128 ?_
     rintro - -
     refine Oq Vnot (Oq Vpt (Oq Va (KS ?_)))
     have hq := q4 hrr (!rv126) (by simp only [sx_valid, h8, h43, h72, h98, h100, h122, h124, hg104, hg127, cs4]); subst hq
     exact Kr () rfl (.tmp rfl .nil) [] trivial
    intro h124
    have g129 := ne_of_beq_false h124
    refine Osk (Osk (Osk (Oq Vpf (Oq Va (KS ?_)))))
    have hq := q4 hrr false (by simp only [sx_valid, h8, h43, h72, h98, h100, h122, h124, hg104, cs4]); subst hq
    exact Kr () rfl (.tmp rfl .nil) [] trivial
   intro h122
   have g130 := ne_of_beq_false h122
   refine Osk (Osk (Oq Vpf (Oq Vm (Osk (Osk (Osk (Osk (Osk (Oq Vpf ?_)))))))))
   refine Oq Vm (Osk (Osk (Osk (Oq Vpf (Oq Va (KS ?_))))))
   have hq := q4 hrr false (by simp only [sx_valid, h8, h43, h72, h98, h100, h122, hg104, cs4]); subst hq
   exact Kr () rfl (.tmp rfl .nil) [] trivial
  intro h100
  exact absurd h100 (by first | (simp [h98]; done) | (simp only [bne, h98]; decide) | (simp only [bne, h98, Bool.not_true, Bool.not_false]; decide) | (exfalso; omega) | (intro hq; simp only [bne, hq, Bool.not_false, Bool.not_true, reduceCtorEq] at h98))
 intro h98
 have g131 := ne_of_beq_false h98
 refine KS ?_
 refine Oq Veql (Oq Va (KS ?_))
 refine Kc ?_ ?_
 ·intro h132
  have g133 := eq_of_beq h132
  refine Ke ?_
  refine KS ?_
  refine Oq Va (KS ?_)
  refine Oq Va (KS ?_)
  refine Ke ?_
  refine KS ?_
  refine JK_drawK [0, 1, 3, 0, 8, 31, 63] fmix ?_
  refine Dv [0] (Vfa fo47_2 0) (Dv [0] (VldF sh45 0) ?_)
  refine letv (sc_Clone_string s.Uses) fun rv135 hg136 => ?_
  refine Dx [1] [] [2, 0, 1] (fun G => (G.g 2 0)) [fun G => SP.fact ((rv135.length = s.Uses.length)), fun G => os (G.g 2 0) rv135] (fun G => xC [0] ca116 (fn116 s.Uses sa2 sk2 rv135 hg136)) (Dv [0] (Vfa fo47_3 0) (Dv [0] (VldF sh45 0) ?_))
  have hn138 := la rv135 s.Targets
  refine Dx [2, 5, 6] [6] [1, 2, 0] (fun G => (G.g 5 0)) [fun G => os (G.g 5 0) (rv135 ++ s.Targets)] (fun G => by refine xf 1 rfl ?_; rintro he139; exact xA (Ap [2, 0] sl45 sl45 sz45)) (Dg [] (fun G => (G.g 5 0)) (fun G => Va) ?_)
  refine Dn ⟨by kernel_rfl, fun G => ?_⟩
  refine Jw2 [(1, p7), (5, vi 0), (3, vi 1), (4, vi 0), (6, (G.g 5 0))] [0, 1, 2, 3, 4] [SP.fact ((rv135.length = s.Uses.length)), os (G.g 5 0) (rv135 ++ s.Targets)] ?_
  generalize G.g 5 0 = c137
  refine Jf 5 rfl ?_; rintro he140
  refine Jk [0, 1, 2, 3, 4, 6] ?_
  refine Jo 5 ?_; rintro a141 k142 rfl
  refine Fb 16 5 fun _ => ?_
  refine FoS 5 fun ho144 => ?_
  refine KS ?_
  refine Oq Vm (Oq Veql (KS ?_))
  refine Kt (KS ?_)
  refine Oq Vm (Oq (Vfa fo47_1 0) (Oq (VldF sh9 0) (Oa (AsV sl45 sz45 [.string (bs s.Def)] [.string (bs s.Def)]) fun c145 => ?_)))
  refine Jo 0 ?_; rintro a146 k147 rfl
  refine Jl [0] (Ent.cr1 (α := Str) (A := []) _ s.Def _ aB1 (fun _ => ⟨rfl, aS1⟩)) ?_
  refine Oa (ApO [6, 0] sl45 sl45 sz45) fun c148 => ?_
  refine Jo 0 ?_; rintro a149 k150 rfl
  refine Fb 16 0 fun _ => ?_
  refine FoS 0 fun ho152 => ?_
  have hn153 := la (rv135 ++ s.Targets) ([s.Def] : List Str)
  refine Oq Va (KS ?_)
  refine Oq Vm (Oq Veql (Oq Vm (Osk (Osk (Osk (Oq Vpt (Oq Vm (Oq (Vfa fo47_2 1) (Oq (VldF sh45 1) ?_)))))))))
  refine Oq (Vlen sl45) (Oq Vm (Oq Veql (Oq Vpt (Oq Vm ?_))))
  refine Js 64 ?_ ?_
  ·intro h154
   have g155 := eq_of_beq h154
   refine Oq Vm (Oq Vleq (Oq Vpt (Oq Vm (Oq (Vfa fo47_3 1) (Oq (VldF sh45 1) (Oq (Vlen sl45) (Oq Vm (Oq Veql (Oq Vpt ?_)))))))))
   refine Oq Vm ?_
   refine Js 75 ?_ ?_
   ·intro h156
    have g157 := eq_of_beq h156
    refine Oq Vm ?_
    refine Jl [0] (Ent.freeze _ _) ?_
    refine JJ_ent (Ent.pall [4, 5] rfl rfl) ?_
    refine letv (sc_ContainsFunc_string ((rv135 ++ s.Targets) ++ [s.Def]) (fun x => sx_valid_1 x)) fun rv158 hg159 => ?_
    have hc160 := fn117 (((rv135 ++ s.Targets) ++ [s.Def])) a149 k150 118 [] (fun x => sx_valid_1 x) [pv (gp 0) [vl kwLA kwLK kwL], S kwLA kwLK kwL] ca118 (fun x hx hq0 => FT_pall (A1 := _) (fn118 x  kwLA kwLK hq0 _ rfl)) rv158 hg159
    refine Oc [1, 0] ca117 hc160 ?_
    rintro - -
    refine Oq Vnot (Oq Vpt (Oq Va (KS ?_)))
    have hq := q4 hrr (!rv158) (by simp only [sx_valid, h8, h43, h72, h98, h132, h154, h156, hg136, hg159, cs4]); subst hq
    exact Kr () rfl (.tmp rfl .nil) [] trivial
   intro h156
   have g161 := ne_of_beq_false h156
   refine Osk (Osk (Osk (Oq Vpf (Oq Va (KS ?_)))))
   have hq := q4 hrr false (by simp only [sx_valid, h8, h43, h72, h98, h132, h154, h156, hg136, cs4]); subst hq
   exact Kr () rfl (.tmp rfl .nil) [] trivial
  intro h154
  have g162 := ne_of_beq_false h154
  refine Osk (Osk (Oq Vpf (Oq Vm (Osk (Osk (Osk (Osk (Osk (Oq Vpf ?_)))))))))
  refine Oq Vm (Osk (Osk (Osk (Oq Vpf (Oq Va (KS ?_))))))
  have hq := q4 hrr false (by simp only [sx_valid, h8, h43, h72, h98, h132, h154, hg136, cs4]); subst hq
  exact Kr () rfl (.tmp rfl .nil) [] trivial
 intro h132
 have g163 := ne_of_beq_false h132
 refine KS ?_
 refine Oq Veql (Oq Va (KS ?_))
 refine Kc ?_ ?_
 ·intro h164
  have g165 := eq_of_beq h164
  refine Ke ?_
  refine KS ?_
  refine Oq Va (KS ?_)
  refine Oq Vm (Oq Vadd (Oq Va (KS ?_)))
  refine Oq Vm (Oq Vadd (Oq Va (KS ?_)))
  refine Oq (Vfa fo47_0 0) (Oq (VldF sh3 0) (Oq Vneq (KS ?_)))
  refine Kc ?_ ?_
  ·intro h166
   exact absurd h166 (by first | (simp [h164]; done) | (simp only [bne, h164]; decide) | (simp only [bne, h164, Bool.not_true, Bool.not_false]; decide) | (exfalso; omega) | (intro hq; simp only [bne, hq, Bool.not_false, Bool.not_true, reduceCtorEq] at h164))
  intro h166
  have g167 := eq_of_bne_false h166
  refine KS ?_
  refine Ke ?_
  refine KS ?_
  refine JK_drawK [0, 1, 3, 0, 8, 31, 63] fmix ?_
  refine Dv [0] (Vfa fo47_2 0) (Dv [0] (VldF sh45 0) ?_)
  refine letv (sc_Clone_string s.Uses) fun rv169 hg170 => ?_
  refine Dx [1] [] [2, 0, 1] (fun G => (G.g 2 0)) [fun G => SP.fact ((rv169.length = s.Uses.length)), fun G => os (G.g 2 0) rv169] (fun G => xC [0] ca116 (fn116 s.Uses sa2 sk2 rv169 hg170)) (Dv [0] (Vfa fo47_3 0) (Dv [0] (VldF sh45 0) ?_))
  have hn172 := la rv169 s.Targets
  refine Dx [2, 5, 6] [6] [1, 2, 0] (fun G => (G.g 5 0)) [fun G => os (G.g 5 0) (rv169 ++ s.Targets)] (fun G => by refine xf 1 rfl ?_; rintro he173; exact xA (Ap [2, 0] sl45 sl45 sz45)) (Dg [] (fun G => (G.g 5 0)) (fun G => Va) ?_)
  refine Dn ⟨by kernel_rfl, fun G => ?_⟩
  refine Jw2 [(1, p7), (3, vi 0), (4, vi 1), (5, vi ((0 + 1) + 1)), (6, (G.g 5 0))] [0, 1, 2, 3, 4] [SP.fact ((rv169.length = s.Uses.length)), os (G.g 5 0) (rv169 ++ s.Targets)] ?_
  generalize G.g 5 0 = c171
  refine Jf 5 rfl ?_; rintro he174
  refine Jk [0, 1, 2, 3, 4, 6] ?_
  refine Jo 5 ?_; rintro a175 k176 rfl
  refine Fb 16 5 fun _ => ?_
  refine FoS 5 fun ho178 => ?_
  refine KS ?_
  refine Oq Vm (Oq Veql (KS ?_))
  refine Kf (KS ?_)
  refine Oq Vm (Oq Veql (Oq Vm (Oq (Vfa fo47_1 0) (Oq (VldF sh9 0) (Oq (VeqS (l := s.Def) (m := (Str.mk []))) (Oq Vpf (Oq Vm ?_)))))))
  refine Js 57 ?_ ?_
  ·intro h179
   have g180 := eq_of_beq h179
   refine Oq (Vfa fo47_2 0) (Oq (VldF sh45 0) (Oq (Vlen sl45) (Oq Vm (Oq Veql (Oq Vpt (Oq Vm ?_))))))
   refine Js 64 ?_ ?_
   ·intro h181
    have g182 := eq_of_beq h181
    refine Oq Vm (Oq Vleq (Oq Vpt (Oq Vm (Oq (Vfa fo47_3 0) (Oq (VldF sh45 0) (Oq (Vlen sl45) (Oq Vm (Oq Veql (Oq Vpt ?_)))))))))
    refine Oq Vm ?_
    refine Js 75 ?_ ?_
    ·intro h183
     have g184 := eq_of_beq h183
     refine Oq Vm ?_
     refine Jl [5] (Ent.freeze _ _) ?_
     refine JJ_ent (Ent.pall [4, 5] rfl rfl) ?_
     refine letv (sc_ContainsFunc_string (rv169 ++ s.Targets) (fun x => sx_valid_1 x)) fun rv185 hg186 => ?_
     have hc187 := fn117 ((rv169 ++ s.Targets)) a175 k176 118 [] (fun x => sx_valid_1 x) [pv (gp 0) [vl kwLA kwLK kwL], S kwLA kwLK kwL] ca118 (fun x hx hq0 => FT_pall (A1 := _) (fn118 x  kwLA kwLK hq0 _ rfl)) rv185 hg186
     refine Oc [1, 0] ca117 hc187 ?_
     rintro - -
     refine Oq Vnot (Oq Vpt (Oq Va (KS ?_)))
     have hq := q4 hrr (!rv185) (by simp only [sx_valid, h8, h43, h72, h98, h132, h164, h166, h179, h181, h183, hg170, hg186, cs4]); subst hq
     exact Kr () rfl (.tmp rfl .nil) [] trivial
    intro h183
    have g188 := ne_of_beq_false h183
    refine Osk (Osk (Osk (Oq Vpf (Oq Va (KS ?_)))))
    have hq := q4 hrr false (by simp only [sx_valid, h8, h43, h72, h98, h132, h164, h166, h179, h181, h183, hg170, cs4]); subst hq
    exact Kr () rfl (.tmp rfl .nil) [] trivial
   intro h181
   have g189 := ne_of_beq_false h181
   refine Osk (Osk (Oq Vpf (Oq Vm (Osk (Osk (Osk (Osk (Osk (Oq Vpf ?_)))))))))
   refine Oq Vm (Osk (Osk (Osk (Oq Vpf (Oq Va (KS ?_))))))
   have hq := q4 hrr false (by simp only [sx_valid, h8, h43, h72, h98, h132, h164, h166, h179, h181, hg170, cs4]); subst hq
   exact Kr () rfl (.tmp rfl .nil) [] trivial
  intro h179
  have g190 := ne_of_beq_false h179
  refine Osk (Osk (Osk (Osk (Osk (Oq Vpf (Oq Vm (Osk (Osk (Oq Vpf ?_)))))))))
  refine Oq Vm (Osk (Osk (Osk (Osk (Osk (Oq Vpf (Oq Vm (Osk (Osk ?_)))))))))
  refine Osk (Oq Vpf (Oq Va (KS ?_)))
  have hq := q4 hrr false (by simp only [sx_valid, h8, h43, h72, h98, h132, h164, h166, h179, hg170, cs4]); subst hq
  exact Kr () rfl (.tmp rfl .nil) [] trivial
 intro h164
 have g191 := ne_of_beq_false h164
 refine KS ?_
 refine Oq Veql (Oq Va (KS ?_))
 refine Kc ?_ ?_
 ·intro h192
  have g193 := eq_of_beq h192
  refine KS ?_
  refine Kc ?_ ?_
  ·intro h194
   have g195 := eq_of_beq h194
   refine Ke ?_
   refine KS ?_
   refine Oq Vm (Oq Vadd (Oq Va (KS ?_)))
   refine Oq (Vfa fo47_0 0) (Oq (VldF sh3 0) (Oq Vneq (KS ?_)))
   refine Kc ?_ ?_
   ·intro h196
    have g197 := ne_of_bne h196
    refine KS ?_
    refine Oq Va (KS ?_)
    refine Ke ?_
    refine KS ?_
    refine JK_drawK [0, 1, 3, 0, 8, 31, 63] fmix ?_
    refine Dv [0] (Vfa fo47_2 0) (Dv [0] (VldF sh45 0) ?_)
    refine letv (sc_Clone_string s.Uses) fun rv199 hg200 => ?_
    refine Dx [1] [] [2, 0, 1] (fun G => (G.g 2 0)) [fun G => SP.fact ((rv199.length = s.Uses.length)), fun G => os (G.g 2 0) rv199] (fun G => xC [0] ca116 (fn116 s.Uses sa2 sk2 rv199 hg200)) (Dv [0] (Vfa fo47_3 0) (Dv [0] (VldF sh45 0) ?_))
    have hn202 := la rv199 s.Targets
    refine Dx [2, 5, 6] [6] [1, 2, 0] (fun G => (G.g 5 0)) [fun G => os (G.g 5 0) (rv199 ++ s.Targets)] (fun G => by refine xf 1 rfl ?_; rintro he203; exact xA (Ap [2, 0] sl45 sl45 sz45)) (Dg [] (fun G => (G.g 5 0)) (fun G => Va) ?_)
    refine Dn ⟨by kernel_rfl, fun G => ?_⟩
    refine Jw2 [(1, p7), (3, vi 0), (5, vi (0 + 1)), (4, vi 0), (6, (G.g 5 0))] [0, 1, 2, 3, 4] [SP.fact ((rv199.length = s.Uses.length)), os (G.g 5 0) (rv199 ++ s.Targets)] ?_
    generalize G.g 5 0 = c201
    refine Jf 5 rfl ?_; rintro he204
    refine Jk [0, 1, 2, 3, 4, 6] ?_
    refine Jo 5 ?_; rintro a205 k206 rfl
    refine Fb 16 5 fun _ => ?_
    refine FoS 5 fun ho208 => ?_
    refine KS ?_
    refine Oq Vm (Oq Veql (KS ?_))
    refine Kf (KS ?_)
    refine Oq Vm (Oq Veql (Oq Vm (Oq (Vfa fo47_1 0) (Oq (VldF sh9 0) (Oq (VeqS (l := s.Def) (m := (Str.mk []))) (Oq Vpf (Oq Vm ?_)))))))
    refine Js 57 ?_ ?_
    ·intro h209
     have g210 := eq_of_beq h209
     refine Oq (Vfa fo47_2 0) (Oq (VldF sh45 0) (Oq (Vlen sl45) (Oq Vm (Oq Veql (Oq Vpt (Oq Vm ?_))))))
     refine Js 64 ?_ ?_
     ·intro h211
      have g212 := eq_of_beq h211
      refine Oq Vm (Oq Vleq (Oq Vpt (Oq Vm (Oq (Vfa fo47_3 0) (Oq (VldF sh45 0) (Oq (Vlen sl45) (Oq Vm (Oq Veql (Oq Vpt ?_)))))))))
      refine Oq Vm ?_
      refine Js 75 ?_ ?_
      ·intro h213
       have g214 := eq_of_beq h213
       refine Oq Vm ?_
       refine Jl [5] (Ent.freeze _ _) ?_
       refine JJ_ent (Ent.pall [4, 5] rfl rfl) ?_
       refine letv (sc_ContainsFunc_string (rv199 ++ s.Targets) (fun x => sx_valid_1 x)) fun rv215 hg216 => ?_
       have hc217 := fn117 ((rv199 ++ s.Targets)) a205 k206 118 [] (fun x => sx_valid_1 x) [pv (gp 0) [vl kwLA kwLK kwL], S kwLA kwLK kwL] ca118 (fun x hx hq0 => FT_pall (A1 := _) (fn118 x  kwLA kwLK hq0 _ rfl)) rv215 hg216
       refine Oc [1, 0] ca117 hc217 ?_
       rintro - -
       refine Oq Vnot (Oq Vpt (Oq Va (KS ?_)))
       have hq := q4 hrr (!rv215) (by simp only [sx_valid, h8, h43, h72, h98, h132, h164, h192, h194, h196, h209, h211, h213, hg200, hg216, cs4]); subst hq
       exact Kr () rfl (.tmp rfl .nil) [] trivial
      intro h213
      have g218 := ne_of_beq_false h213
      refine Osk (Osk (Osk (Oq Vpf (Oq Va (KS ?_)))))
      have hq := q4 hrr false (by simp only [sx_valid, h8, h43, h72, h98, h132, h164, h192, h194, h196, h209, h211, h213, hg200, cs4]); subst hq
      exact Kr () rfl (.tmp rfl .nil) [] trivial
     intro h211
     have g219 := ne_of_beq_false h211
     refine Osk (Osk (Oq Vpf (Oq Vm (Osk (Osk (Osk (Osk (Osk (Oq Vpf ?_)))))))))
     refine Oq Vm (Osk (Osk (Osk (Oq Vpf (Oq Va (KS ?_))))))
     have hq := q4 hrr false (by simp only [sx_valid, h8, h43, h72, h98, h132, h164, h192, h194, h196, h209, h211, hg200, cs4]); subst hq
     exact Kr () rfl (.tmp rfl .nil) [] trivial
    intro h209
    have g220 := ne_of_beq_false h209
    refine Osk (Osk (Osk (Osk (Osk (Oq Vpf (Oq Vm (Osk (Osk (Oq Vpf ?_)))))))))
    refine Oq Vm (Osk (Osk (Osk (Osk (Osk (Oq Vpf (Oq Vm (Osk (Osk ?_)))))))))
    refine Osk (Oq Vpf (Oq Va (KS ?_)))
    have hq := q4 hrr false (by simp only [sx_valid, h8, h43, h72, h98, h132, h164, h192, h194, h196, h209, hg200, cs4]); subst hq
    exact Kr () rfl (.tmp rfl .nil) [] trivial
   intro h196
   exact absurd h196 (by first | (simp [h164]; done) | (simp only [bne, h164]; decide) | (simp only [bne, h164, Bool.not_true, Bool.not_false]; decide) | (exfalso; omega) | (intro hq; simp only [bne, hq, Bool.not_false, Bool.not_true, reduceCtorEq] at h164))
  intro h194
  exact absurd h194 (by first | (simp [h192]; done) | (simp only [bne, h192]; decide) | (simp only [bne, h192, Bool.not_true, Bool.not_false]; decide) | (exfalso; omega) | (intro hq; simp only [bne, hq, Bool.not_false, Bool.not_true, reduceCtorEq] at h192))
 intro h192
 have g221 := ne_of_beq_false h192
 refine KS ?_
 refine Oq Veql (Oq Va (KS ?_))
 refine Kc ?_ ?_
 ·intro h222
  have g223 := eq_of_beq h222
  refine Ke ?_
  refine KS ?_
  refine Oq Vm (Oq Vadd (Oq Va (KS ?_)))
  refine Oq (Vfa fo47_0 0) (Oq (VldF sh3 0) (Oq Vneq (KS ?_)))
  refine Kc ?_ ?_
  ·intro h224
   have g225 := ne_of_bne h224
   refine KS ?_
   refine Oq Va (KS ?_)
   refine Ke ?_
   refine KS ?_
   refine JK_drawK [0, 1, 3, 0, 8, 31, 63] fmix ?_
   refine Dv [0] (Vfa fo47_2 0) (Dv [0] (VldF sh45 0) ?_)
   refine letv (sc_Clone_string s.Uses) fun rv227 hg228 => ?_
   refine Dx [1] [] [2, 0, 1] (fun G => (G.g 2 0)) [fun G => SP.fact ((rv227.length = s.Uses.length)), fun G => os (G.g 2 0) rv227] (fun G => xC [0] ca116 (fn116 s.Uses sa2 sk2 rv227 hg228)) (Dv [0] (Vfa fo47_3 0) (Dv [0] (VldF sh45 0) ?_))
   have hn230 := la rv227 s.Targets
   refine Dx [2, 5, 6] [6] [1, 2, 0] (fun G => (G.g 5 0)) [fun G => os (G.g 5 0) (rv227 ++ s.Targets)] (fun G => by refine xf 1 rfl ?_; rintro he231; exact xA (Ap [2, 0] sl45 sl45 sz45)) (Dg [] (fun G => (G.g 5 0)) (fun G => Va) ?_)
   refine Dn ⟨by kernel_rfl, fun G => ?_⟩
   refine Jw2 [(1, p7), (3, vi 0), (5, vi (0 + 1)), (4, vi 0), (6, (G.g 5 0))] [0, 1, 2, 3, 4] [SP.fact ((rv227.length = s.Uses.length)), os (G.g 5 0) (rv227 ++ s.Targets)] ?_
   generalize G.g 5 0 = c229
   refine Jf 5 rfl ?_; rintro he232
   refine Jk [0, 1, 2, 3, 4, 6] ?_
   refine Jo 5 ?_; rintro a233 k234 rfl
   refine Fb 16 5 fun _ => ?_
   refine FoS 5 fun ho236 => ?_
   refine KS ?_
   refine Oq Vm (Oq Veql (KS ?_))
   refine Kf (KS ?_)
   refine Oq Vm (Oq Veql (Oq Vm (Oq (Vfa fo47_1 0) (Oq (VldF sh9 0) (Oq (VeqS (l := s.Def) (m := (Str.mk []))) (Oq Vpf (Oq Vm ?_)))))))
   refine Js 57 ?_ ?_
   ·intro h237
    have g238 := eq_of_beq h237
    refine Oq (Vfa fo47_2 0) (Oq (VldF sh45 0) (Oq (Vlen sl45) (Oq Vm (Oq Veql (Oq Vpt (Oq Vm ?_))))))
    refine Js 64 ?_ ?_
    ·intro h239
     have g240 := eq_of_beq h239
     refine Oq Vm (Oq Vleq (Oq Vpt (Oq Vm (Oq (Vfa fo47_3 0) (Oq (VldF sh45 0) (Oq (Vlen sl45) (Oq Vm (Oq Veql (Oq Vpt ?_)))))))))
     refine Oq Vm ?_
     refine Js 75 ?_ ?_
     ·intro h241
      have g242 := eq_of_beq h241
      refine Oq Vm ?_
      refine Jl [5] (Ent.freeze _ _) ?_
      refine JJ_ent (Ent.pall [4, 5] rfl rfl) ?_
      refine letv (sc_ContainsFunc_string (rv227 ++ s.Targets) (fun x => sx_valid_1 x)) fun rv243 hg244 => ?_
      have hc245 := fn117 ((rv227 ++ s.Targets)) a233 k234 118 [] (fun x => sx_valid_1 x) [pv (gp 0) [vl kwLA kwLK kwL], S kwLA kwLK kwL] ca118 (fun x hx hq0 => FT_pall (A1 := _) (fn118 x  kwLA kwLK hq0 _ rfl)) rv243 hg244
      refine Oc [1, 0] ca117 hc245 ?_
      rintro - -
      refine Oq Vnot (Oq Vpt (Oq Va (KS ?_)))
      have hq := q4 hrr (!rv243) (by simp only [sx_valid, h8, h43, h72, h98, h132, h164, h192, h222, h224, h237, h239, h241, hg228, hg244, cs4]); subst hq
      exact Kr () rfl (.tmp rfl .nil) [] trivial
     intro h241
     have g246 := ne_of_beq_false h241
     refine Osk (Osk (Osk (Oq Vpf (Oq Va (KS ?_)))))
     have hq := q4 hrr false (by simp only [sx_valid, h8, h43, h72, h98, h132, h164, h192, h222, h224, h237, h239, h241, hg228, cs4]); subst hq
     exact Kr () rfl (.tmp rfl .nil) [] trivial
    intro h239
    have g247 := ne_of_beq_false h239
    refine Osk (Osk (Oq Vpf (Oq Vm (Osk (Osk (Osk (Osk (Osk (Oq Vpf ?_)))))))))
    refine Oq Vm (Osk (Osk (Osk (Oq Vpf (Oq Va (KS ?_))))))
    have hq := q4 hrr false (by simp only [sx_valid, h8, h43, h72, h98, h132, h164, h192, h222, h224, h237, h239, hg228, cs4]); subst hq
    exact Kr () rfl (.tmp rfl .nil) [] trivial
   intro h237
   have g248 := ne_of_beq_false h237
   refine Osk (Osk (Osk (Osk (Osk (Oq Vpf (Oq Vm (Osk (Osk (Oq Vpf ?_)))))))))
   refine Oq Vm (Osk (Osk (Osk (Osk (Osk (Oq Vpf (Oq Vm (Osk (Osk ?_)))))))))
   refine Osk (Oq Vpf (Oq Va (KS ?_)))
   have hq := q4 hrr false (by simp only [sx_valid, h8, h43, h72, h98, h132, h164, h192, h222, h224, h237, hg228, cs4]); subst hq
   exact Kr () rfl (.tmp rfl .nil) [] trivial
  intro h224
  exact absurd h224 (by first | (simp [h164]; done) | (simp only [bne, h164]; decide) | (simp only [bne, h164, Bool.not_true, Bool.not_false]; decide) | (exfalso; omega) | (intro hq; simp only [bne, hq, Bool.not_false, Bool.not_true, reduceCtorEq] at h164))
 intro h222
 have g249 := ne_of_beq_false h222
 refine KS ?_
 refine Oq Veql (Oq Va (KS ?_))
 refine Kc ?_ ?_
 ·intro h250
  have g251 := eq_of_beq h250
  refine Ke ?_
  refine KS ?_
  refine Oq Va (KS ?_)
  refine Ke ?_
  refine KS ?_
  refine JK_drawK [0, 1, 3, 0, 8, 31, 63] fmix ?_
  refine Dv [0] (Vfa fo47_2 0) (Dv [0] (VldF sh45 0) ?_)
  refine letv (sc_Clone_string s.Uses) fun rv253 hg254 => ?_
  refine Dx [1] [] [2, 0, 1] (fun G => (G.g 2 0)) [fun G => SP.fact ((rv253.length = s.Uses.length)), fun G => os (G.g 2 0) rv253] (fun G => xC [0] ca116 (fn116 s.Uses sa2 sk2 rv253 hg254)) (Dv [0] (Vfa fo47_3 0) (Dv [0] (VldF sh45 0) ?_))
  have hn256 := la rv253 s.Targets
  refine Dx [2, 5, 6] [6] [1, 2, 0] (fun G => (G.g 5 0)) [fun G => os (G.g 5 0) (rv253 ++ s.Targets)] (fun G => by refine xf 1 rfl ?_; rintro he257; exact xA (Ap [2, 0] sl45 sl45 sz45)) (Dg [] (fun G => (G.g 5 0)) (fun G => Va) ?_)
  refine Dn ⟨by kernel_rfl, fun G => ?_⟩
  refine Jw2 [(1, p7), (3, vi 0), (5, vi 0), (4, vi 0), (6, (G.g 5 0))] [0, 1, 2, 3, 4] [SP.fact ((rv253.length = s.Uses.length)), os (G.g 5 0) (rv253 ++ s.Targets)] ?_
  generalize G.g 5 0 = c255
  refine Jf 5 rfl ?_; rintro he258
  refine Jk [0, 1, 2, 3, 4, 6] ?_
  refine Jo 5 ?_; rintro a259 k260 rfl
  refine Fb 16 5 fun _ => ?_
  refine FoS 5 fun ho262 => ?_
  refine KS ?_
  refine Oq Vm (Oq Veql (KS ?_))
  refine Kf (KS ?_)
  refine Oq Vm (Oq Veql (Oq Vm (Oq (Vfa fo47_1 0) (Oq (VldF sh9 0) (Oq (VeqS (l := s.Def) (m := (Str.mk []))) (Oq Vpf (Oq Vm ?_)))))))
  refine Js 57 ?_ ?_
  ·intro h263
   have g264 := eq_of_beq h263
   refine Oq (Vfa fo47_2 0) (Oq (VldF sh45 0) (Oq (Vlen sl45) (Oq Vm (Oq Veql (Oq Vpt (Oq Vm ?_))))))
   refine Js 64 ?_ ?_
   ·intro h265
    have g266 := eq_of_beq h265
    refine Oq Vm (Oq Vleq (Oq Vpt (Oq Vm (Oq (Vfa fo47_3 0) (Oq (VldF sh45 0) (Oq (Vlen sl45) (Oq Vm (Oq Veql (Oq Vpt ?_)))))))))
    refine Oq Vm ?_
    refine Js 75 ?_ ?_
    ·intro h267
     have g268 := eq_of_beq h267
     refine Oq Vm ?_
     refine Jl [5] (Ent.freeze _ _) ?_
     refine JJ_ent (Ent.pall [4, 5] rfl rfl) ?_
     refine letv (sc_ContainsFunc_string (rv253 ++ s.Targets) (fun x => sx_valid_1 x)) fun rv269 hg270 => ?_
     have hc271 := fn117 ((rv253 ++ s.Targets)) a259 k260 118 [] (fun x => sx_valid_1 x) [pv (gp 0) [vl kwLA kwLK kwL], S kwLA kwLK kwL] ca118 (fun x hx hq0 => FT_pall (A1 := _) (fn118 x  kwLA kwLK hq0 _ rfl)) rv269 hg270
     refine Oc [1, 0] ca117 hc271 ?_
     rintro - -
     refine Oq Vnot (Oq Vpt (Oq Va (KS ?_)))
     have hq := q4 hrr (!rv269) (by simp only [sx_valid, h8, h43, h72, h98, h132, h164, h192, h222, h250, h263, h265, h267, hg254, hg270, cs4]); subst hq
     exact Kr () rfl (.tmp rfl .nil) [] trivial
    intro h267
    have g272 := ne_of_beq_false h267
    refine Osk (Osk (Osk (Oq Vpf (Oq Va (KS ?_)))))
    have hq := q4 hrr false (by simp only [sx_valid, h8, h43, h72, h98, h132, h164, h192, h222, h250, h263, h265, h267, hg254, cs4]); subst hq
    exact Kr () rfl (.tmp rfl .nil) [] trivial
   intro h265
   have g273 := ne_of_beq_false h265
   refine Osk (Osk (Oq Vpf (Oq Vm (Osk (Osk (Osk (Osk (Osk (Oq Vpf ?_)))))))))
   refine Oq Vm (Osk (Osk (Osk (Oq Vpf (Oq Va (KS ?_))))))
   have hq := q4 hrr false (by simp only [sx_valid, h8, h43, h72, h98, h132, h164, h192, h222, h250, h263, h265, hg254, cs4]); subst hq
   exact Kr () rfl (.tmp rfl .nil) [] trivial
  intro h263
  have g274 := ne_of_beq_false h263
  refine Osk (Osk (Osk (Osk (Osk (Oq Vpf (Oq Vm (Osk (Osk (Oq Vpf ?_)))))))))
  refine Oq Vm (Osk (Osk (Osk (Osk (Osk (Oq Vpf (Oq Vm (Osk (Osk ?_)))))))))
  refine Osk (Oq Vpf (Oq Va (KS ?_)))
  have hq := q4 hrr false (by simp only [sx_valid, h8, h43, h72, h98, h132, h164, h192, h222, h250, h263, hg254, cs4]); subst hq
  exact Kr () rfl (.tmp rfl .nil) [] trivial
 intro h250
 have g275 := ne_of_beq_false h250
 refine KS ?_
 refine Ke ?_
 refine KS ?_
 refine Oq Va (KS ?_)
 have hq := q4 hrr false (by simp only [sx_valid, h8, h43, h72, h98, h132, h164, h192, h222, h250, cs4]); subst hq
 exact Kr () rfl (.tmp rfl .nil) [] trivial
theorem fn88 (s : GStmt) (sa2 : Option Addr) (sk2 : Nat) (sa3 : Option Addr) (sk3 : Nat) (kwLA : Option Addr) (kwLK : Nat) (hs_0 : i64ok s.Op) (hs_1 : s.Def.b.length ≤ 140737488355328) (hsm : SSm s = true) (rr : Bool) (hrr : sx_Valid_1 s = rr) : FT Tryz.prog 88 #[.agg #[vi s.Op, .string (bs s.Def), vl sa2 sk2 s.Uses, vl sa3 sk3 s.Targets]] [S sa2 sk2 s.Uses, S sa3 sk3 s.Targets, pv (gp 0) [vl kwLA kwLK kwL], S kwLA kwLK kwL] (fun g : Unit => True) (fun g => vb rr) (fun g => []) := by
 refine FTi Tryz.func88 fun w0 M0 F0 => ?_
 unfold i64ok at hs_0
 refine Fb 16 0 fun _ => ?_
 refine FoS 0 fun ho2 => ?_
 refine Fb 16 1 fun _ => ?_
 refine FoS 1 fun ho4 => ?_
 refine Fb 16 3 fun _ => ?_
 refine FoS 3 fun ho6 => ?_
 refine KS ?_
 refine Oa (Ab [vi s.Op, .string (bs s.Def), vl sa2 sk2 s.Uses, vl sa3 sk3 s.Targets]) fun p7 => Oq Va (KS ?_)
 refine Oq (VldA sh47 0) ?_
 refine letv (sx_valid s) fun rv8 hg9 => ?_
 have hc10 := fn89 s sa2 sk2 sa3 sk3 kwLA kwLK pre pre pre rv8 hg9
 refine Oc [1, 2, 3, 4] ca89 hc10 ?_
 rintro - -
 refine Oq Vnot (Oq Va (KS ?_))
 have hq := q4 hrr (!rv8) (by simp only [sx_Valid_1, hg9, cs4]); subst hq
 exact Kr () rfl (.tmp rfl .nil) [] trivial
theorem fn61 (p : GProgram) (pa0 : Option Addr) (pk0 : Nat) (kwLA : Option Addr) (kwLK : Nat) (hps : PSm p = true) (rr : Bool) (hrr : sx_Valid p = rr) : FT Tryz.prog 61 #[.agg #[vl pa0 pk0 p.Funcs]] [S pa0 pk0 p.Funcs, pv (gp 0) [vl kwLA kwLK kwL], S kwLA kwLK kwL] (fun g : Unit => True) (fun g => vb rr) (fun g => []) := by
 refine FTi Tryz.func61 fun w0 M0 F0 => Fb 40 0 fun _ => Fb 16 2 fun _ => ?_
 refine FoS 2 fun ho3 => ?_
 refine KS ?_
 refine Oa (Ab [vl pa0 pk0 p.Funcs]) fun p4 => Oq Va (KS ?_)
 refine Oq (Vfa fo25_0 0) (Oq (VldF sh23 0) (Oq (Vlen sl23) (Oq Vlss (Oq Vm ?_))))
 refine Js 11 ?_ ?_
 ·intro h5
  have g6 := dt h5
  refine Osk (Osk (Osk (Osk (Oq Vpt (KS ?_)))))
  refine Kt (KS ?_)
  refine Oq Va (KS ?_)
  have hq := q4 hrr false (by simp only [sx_Valid, h5, cs4]); subst hq
  exact Kr () rfl (.tmp rfl .nil) [] trivial
 intro h5
 have g7 := df h5
 refine Oq (Vfa fo25_0 0) (Oq (VldF sh23 0) (Oq (Vlen sl23) (Oq Vgtr (Oq Vpf (KS ?_)))))
 refine Kc ?_ ?_
 ·intro h8
  have g9 := dt h8
  have hfm := PSm_f hps (i := 8) aM1
  refine KS ?_
  refine Oq Va (KS ?_)
  have hq := q4 hrr false (by simp only [sx_Valid, h5, h8, cs4]); subst hq
  exact Kr () rfl (.tmp rfl .nil) [] trivial
 intro h8
 have g10 := df h8
 refine KS ?_
 refine Oq (Vfa fo25_0 0) (Oq (VldF sh23 0) (Oq (Vlen sl23) (Oq Vm (KS ?_))))
 refine Kl (γ := Nat × Int) (fun (r11, v20_12) => ⟨[(18, vl pa0 pk0 p.Funcs), (19, vi (p.Funcs.length : Int)), (20, vi v20_12)], [S pa0 pk0 p.Funcs, pv (gp 0) [vl kwLA kwLK kwL], S kwLA kwLK kwL], sx_Valid_L0 p r11 v20_12 = sx_Valid_L0 p (((p.Funcs.length : Int) - 0).toNat) 0 ∧ r11 = ((p.Funcs.length : Int) - v20_12).toNat ∧ (0 : Int) ≤ v20_12 ∧ v20_12 ≤ (p.Funcs.length : Int) ∧ (-9223372036854775808 ≤ v20_12 ∧ v20_12 ≤ 9223372036854775807), r11⟩) (((p.Funcs.length : Int) - 0).toNat, 0) [1, 2, 3] ⟨rfl, rfl, aM1, aM1, aM1⟩ ?_
 rintro ⟨r11, v20_12⟩ ⟨hM13, hr14, hi15, hi16, hk17⟩
 refine JJ_nx fun _ _ hL hA => ?_; dsimp only at hL hA; subst hL hA
 refine Fb 40 0 fun _ => Fb 16 2 fun _ => ?_
 refine FoS 2 fun ho20 => ?_
 refine KS ?_
 refine Oq Vlss (KS ?_)
 refine Kc ?_ ?_
 ·intro h21
  have g22 := dt h21
  have hfm := PSm_f hps (i := v20_12) aM1
  obtain ⟨r23, rfl⟩ := scc (n := r11) aM1
  refine KS ?_
  refine Oq (Vi sl23 0) ?_
  refine JJ_peek_GFunc v20_12.toNat 0 rfl rng fun a24 k25 hb26 => ?_
  refine Fb 40 1 fun _ => ?_
  refine Oq (VldA sh41 0) (Oa (Al ze41 [.string (bs (Str.mk [])), .slice none 0 0]) fun p28 => Ost (Scl [0] sh41 [.string (bs ((p.Funcs.getD v20_12.toNat default).Name)), vl a24 k25 ((p.Funcs.getD v20_12.toNat default).Blocks)]) (KS ?_))
  refine Oq (Vfa fo41_0 0) (Oq (VldF sh9 0) ?_)
  refine letv (lx_IsName ((p.Funcs.getD v20_12.toNat default).Name)) fun rv29 hg30 => ?_
  have hc31 := fn86 ((p.Funcs.getD v20_12.toNat default).Name) kwLA kwLK pre rv29 hg30
  refine Oc [4, 5] ca86 hc31 ?_
  rintro - -
  refine Oq Vnot (Oq Vm ?_)
  refine Js 28 ?_ ?_
  ·intro h32
   have h34 := not_true h32
   refine Osk (Osk (Osk (Osk (Oq Vpt (Oq Vm (Osk (Osk (Osk (Osk ?_)))))))))
   refine Oq Vpt (KS ?_)
   refine Kt (KS ?_)
   refine Oq Va (KS ?_)
   have hR36 := q2 hM13 (.ret false) (by simp only [sx_Valid_L0, h5, h8, h21, h32, h34, hg30, cs4])
   have hq := q4 hrr false (by simp only [sx_Valid, h5, h8, h21, h32, h34, hg30, hR36, cs4]); subst hq
   exact Kr () rfl (.tmp rfl .nil) [] trivial
  intro h32
  have h38 := not_false h32
  refine Oq (Vfa fo41_1 0) (Oq (VldF sh39 0) (Oq (Vlen sl39) (Oq Vlss (Oq Vpf (Oq Vm ?_)))))
  refine Js 34 ?_ ?_
  ·intro h40
   have g41 := dt h40
   refine Osk (Osk (Osk (Osk (Oq Vpt (KS ?_)))))
   refine Kt (KS ?_)
   refine Oq Va (KS ?_)
   have hR42 := q2 hM13 (.ret false) (by simp only [sx_Valid_L0, h5, h8, h21, h32, h38, h40, hg30, cs4])
   have hq := q4 hrr false (by simp only [sx_Valid, h5, h8, h21, h32, h38, h40, hg30, hR42, cs4]); subst hq
   exact Kr () rfl (.tmp rfl .nil) [] trivial
  intro h40
  have g43 := df h40
  refine Oq (Vfa fo41_1 0) (Oq (VldF sh39 0) (Oq (Vlen sl39) (Oq Vgtr (Oq Vpf (KS ?_)))))
  refine Kc ?_ ?_
  ·intro h44
   have g45 := dt h44
   have hbm := FSm_b hfm (i := 16) aM1
   refine KS ?_
   refine Oq Va (KS ?_)
   have hR46 := q2 hM13 (.ret false) (by simp only [sx_Valid_L0, h5, h8, h21, h32, h38, h40, h44, hg30, cs4])
   have hq := q4 hrr false (by simp only [sx_Valid, h5, h8, h21, h32, h38, h40, h44, hg30, hR46, cs4]); subst hq
   exact Kr () rfl (.tmp rfl .nil) [] trivial
  intro h44
  have g47 := df h44
  refine KS ?_
  refine Oq (Vfa fo41_1 0) (Oq (VldF sh39 0) (Oq (Vlen sl39) (Oq Vm (KS ?_))))
  refine Kl (γ := Nat × Int) (fun (r48, v43_49) => ⟨[(18, vl pa0 pk0 p.Funcs), (19, vi (p.Funcs.length : Int)), (20, vi v20_12), (41, vl a24 k25 ((p.Funcs.getD v20_12.toNat default).Blocks)), (42, vi (((p.Funcs.getD v20_12.toNat default).Blocks).length : Int)), (43, vi v43_49)], [S a24 k25 ((p.Funcs.getD v20_12.toNat default).Blocks), S pa0 pk0 p.Funcs, pv (gp 0) [vl kwLA kwLK kwL], S kwLA kwLK kwL], sx_Valid_L1 ((p.Funcs.getD v20_12.toNat default).Blocks) r48 v43_49 = sx_Valid_L1 ((p.Funcs.getD v20_12.toNat default).Blocks) ((((((p.Funcs.getD v20_12.toNat default).Blocks).length : Int) : Int) - 0).toNat) 0 ∧ r48 = (((((p.Funcs.getD v20_12.toNat default).Blocks).length : Int) : Int) - v43_49).toNat ∧ (0 : Int) ≤ v43_49 ∧ (v43_49 ≤ (((p.Funcs.getD v20_12.toNat default).Blocks).length : Int) ∨ v43_49 = 0) ∧ (-9223372036854775808 ≤ v43_49 ∧ v43_49 ≤ 9223372036854775807), r48⟩) ((((((p.Funcs.getD v20_12.toNat default).Blocks).length : Int) : Int) - 0).toNat, 0) [2, 3, 4, 5] ⟨rfl, rfl, aM1, (.inr rfl), aM1⟩ ?_
  rintro ⟨r48, v43_49⟩ ⟨hM50, hr51, hi52, hi53, hk54⟩
  refine JJ_nx fun _ _ hL hA => ?_; dsimp only at hL hA; subst hL hA
  refine Fb 40 0 fun _ => Fb 40 1 fun _ => Fb 16 3 fun _ => ?_
  refine FoS 3 fun ho58 => ?_
  refine KS ?_
  refine Oq Vlss (KS ?_)
  refine Kc ?_ ?_
  ·intro h59
   have g60 := dt h59
   have hbm := FSm_b hfm (i := v43_49) aM1
   obtain ⟨r61, rfl⟩ := scc (n := r48) aM1
   refine KS ?_
   refine Oq (Vi sl39 0) ?_
   refine JJ_peek_GBlock v43_49.toNat 0 rfl rng fun a62 k63 hb64 => ?_
   refine Fb 72 1 fun _ => ?_
   refine Oq (VldA sh44 0) (Oa (Al ze44 [.string (bs (Str.mk [])), .slice none 0 0]) fun p66 => Ost (Scl [0] sh44 [.string (bs ((((p.Funcs.getD v20_12.toNat default).Blocks).getD v43_49.toNat default).Name)), .slice a62 (((((p.Funcs.getD v20_12.toNat default).Blocks).getD v43_49.toNat default).Stmts).length) k63]) (KS ?_))
   refine Oq (Vfa fo44_0 0) (Oq (VldF sh9 0) ?_)
   refine letv (lx_IsName ((((p.Funcs.getD v20_12.toNat default).Blocks).getD v43_49.toNat default).Name)) fun rv67 hg68 => ?_
   have hc69 := fn86 ((((p.Funcs.getD v20_12.toNat default).Blocks).getD v43_49.toNat default).Name) kwLA kwLK pre rv67 hg68
   refine Oc [5, 6] ca86 hc69 ?_
   rintro - -
   refine Oq Vnot (Oq Vm ?_)
   refine Js 51 ?_ ?_
   ·intro h70
    have h72 := not_true h70
    refine Osk (Osk (Osk (Osk (Oq Vpt (Oq Vm (Osk (Osk (Osk (Osk ?_)))))))))
    refine Oq Vpt (Oq Vm (Osk (Osk (Osk (Oq Vpt (KS ?_))))))
    refine Kt (KS ?_)
    refine Oq Va (KS ?_)
    have hR74 := q2 hM50 (.ret false) (by simp only [sx_Valid_L1, h5, h8, h21, h32, h38, h40, h44, h59, h70, h72, hg30, hg68, cs4])
    have hR75 := q2 hM13 (.ret false) (by simp only [sx_Valid_L0, h5, h8, h21, h32, h38, h40, h44, h59, h70, h72, hg30, hg68, hR74, cs4])
    have hq := q4 hrr false (by simp only [sx_Valid, h5, h8, h21, h32, h38, h40, h44, h59, h70, h72, hg30, hg68, hR74, hR75, cs4]); subst hq
    exact Kr () rfl (.tmp rfl .nil) [] trivial
   intro h70
   have h77 := not_false h70
   refine Oq (Vfa fo44_1 0) (Oq (VldF sh42 0) (Oq (Vlen sl42) (Oq Vlss (Oq Vpf (Oq Vm ?_)))))
   refine Js 57 ?_ ?_
   ·intro h79
    have g80 := dt h79
    refine Osk (Osk (Osk (Osk (Oq Vpt (Oq Vm (Osk (Osk (Osk (Oq Vpt ?_)))))))))
    refine KS ?_
    refine Kt (KS ?_)
    refine Oq Va (KS ?_)
    have hR81 := q2 hM50 (.ret false) (by simp only [sx_Valid_L1, h5, h8, h21, h32, h38, h40, h44, h59, h70, h77, h79, hg30, hg68, cs4])
    have hR82 := q2 hM13 (.ret false) (by simp only [sx_Valid_L0, h5, h8, h21, h32, h38, h40, h44, h59, h70, h77, h79, hg30, hg68, hR81, cs4])
    have hq := q4 hrr false (by simp only [sx_Valid, h5, h8, h21, h32, h38, h40, h44, h59, h70, h77, h79, hg30, hg68, hR81, hR82, cs4]); subst hq
    exact Kr () rfl (.tmp rfl .nil) [] trivial
   intro h79
   have g83 := df h79
   refine Oq (Vfa fo44_1 0) (Oq (VldF sh42 0) (Oq (Vlen sl42) (Oq Vgtr (Oq Vpf (Oq Vm ?_)))))
   refine Js 63 ?_ ?_
   ·intro h84
    have g85 := dt h84
    refine Osk (Osk (Osk (Oq Vpt (KS ?_))))
    refine Kt (KS ?_)
    refine Oq Va (KS ?_)
    have hR86 := q2 hM50 (.ret false) (by simp only [sx_Valid_L1, h5, h8, h21, h32, h38, h40, h44, h59, h70, h77, h79, h84, hg30, hg68, cs4])
    have hR87 := q2 hM13 (.ret false) (by simp only [sx_Valid_L0, h5, h8, h21, h32, h38, h40, h44, h59, h70, h77, h79, h84, hg30, hg68, hR86, cs4])
    have hq := q4 hrr false (by simp only [sx_Valid, h5, h8, h21, h32, h38, h40, h44, h59, h70, h77, h79, h84, hg30, hg68, hR86, hR87, cs4]); subst hq
    exact Kr () rfl (.tmp rfl .nil) [] trivial
   intro h84
   have g88 := df h84
   refine Oq (Vfa fo44_1 0) (Oq (VldF sh42 0) ?_)
   refine JJ_ent (Ent.pall [5, 6] rfl rfl) ?_
   refine letv (sc_ContainsFunc_Stmt ((((p.Funcs.getD v20_12.toNat default).Blocks).getD v43_49.toNat default).Stmts) (fun x => sx_Valid_1 x)) fun rv89 hg90 => ?_
   have hc91 := fn87 ((((p.Funcs.getD v20_12.toNat default).Blocks).getD v43_49.toNat default).Stmts) a62 k63 88 [] (fun x => sx_Valid_1 x) [pv (gp 0) [vl kwLA kwLK kwL], S kwLA kwLK kwL] ca88 (fun x hx a2 k2 a3 k3 hq0 hq1 => FT_pall (A1 := _) (fn88 x a2 k2 a3 k3 kwLA kwLK hq0 hq1 (BSm_m hbm hx) _ rfl)) rv89 hg90
   refine Oc [3, 0] ca87 hc91 ?_
   rintro - -
   refine Oq Vpf (KS ?_)
   refine Kc ?_ ?_
   ·intro h92
    refine KS ?_
    refine Oq Va (KS ?_)
    have hR94 := q2 hM50 (.ret false) (by simp only [sx_Valid_L1, h5, h8, h21, h32, h38, h40, h44, h59, h70, h77, h79, h84, h92, hg30, hg68, hg90, cs4])
    have hR95 := q2 hM13 (.ret false) (by simp only [sx_Valid_L0, h5, h8, h21, h32, h38, h40, h44, h59, h70, h77, h79, h84, h92, hg30, hg68, hg90, hR94, cs4])
    have hq := q4 hrr false (by simp only [sx_Valid, h5, h8, h21, h32, h38, h40, h44, h59, h70, h77, h79, h84, h92, hg30, hg68, hg90, hR94, hR95, cs4]); subst hq
    exact Kr () rfl (.tmp rfl .nil) [] trivial
   intro h92
   refine KS ?_
   refine Oq Vadd (Oq Vm (KS ?_))
   exact Kg (r61, (v43_49 + 1)) [4, 5, 6, 7] ⟨(q3 hM50 (by simp only [sx_Valid_L1, h5, h8, h21, h32, h38, h40, h44, h59, h70, h77, h79, h84, h92, hg30, hg68, hg90, cs4])), aM1, aM1, aM1, aM1⟩
  intro h59
  have g97 := df h59
  obtain rfl : r48 = 0 := by omega
  refine Ke ?_
  have hR98 := q2 hM50 (.brk ()) (by simp only [sx_Valid_L1, h5, h8, h21, h32, h38, h40, h44, h59, hg30, cs4])
  refine KS ?_
  refine Oq Vadd (Oq Vm (KS ?_))
  exact Kg (r23, (v20_12 + 1)) [1, 2, 3] ⟨(q3 hM13 (by simp only [sx_Valid_L0, h5, h8, h21, h32, h38, h40, h44, h59, hg30, hR98, cs4])), aM1, aM1, aM1, aM1⟩
 intro h21
 have g99 := df h21
 obtain rfl : r11 = 0 := by omega
 refine Ke ?_
 have hR100 := q2 hM13 (.brk ()) (by simp only [sx_Valid_L0, h5, h8, h21, cs4])
 refine KS ?_
 refine Oq Va (KS ?_)
 have hq := q4 hrr true (by simp only [sx_Valid, h5, h8, h21, hR100, cs4]); subst hq
 exact Kr () rfl (.tmp rfl .nil) [] trivial
theorem fn66 (n : Str) (cap0P : Value) (cap0 : List (Str × Bool)) (cap0m0 : Value) (cap1P : Value) (cap1 : List Str) (cap1a0 : Option Addr) (cap1k0 : Nat) (hn_0 : n.b.length ≤ 140737488355328) (ho : cap1.length ≤ 1000000) (rr : (List (Str × Bool)) × List Str) (hrr : vd_Variables_1 n cap0 cap1 = rr) : FT Tryz.prog 66 #[.string (bs n), cap0P, cap1P] [Cl cap0P [cap0m0], Mp vstr vb okStr cap0m0 cap0, Cl cap1P [vl cap1a0 cap1k0 cap1], O cap1a0 cap1k0 cap1] (fun g : Value => (rr.2.length ≤ cap1.length + 1)) (fun g => .tuple #[]) (fun g => [Cl cap0P [cap0m0], Mp vstr vb okStr cap0m0 rr.1, Cl cap1P [g], os g rr.2]) := by
 refine FTi Tryz.func66 fun w0 M0 F0 => Fb 16 3 fun _ => ?_
 refine FoS 3 fun ho2 => ?_
 refine KS ?_
 refine Oq Vm (Oq (VneS (l := n) (m := (Str.mk []))) (Oq Vm ?_))
 refine Js 6 ?_ ?_
 ·intro h3
  have g4 := ne_of_bne h3
  refine Oq (Vld sh99 0) (Oq Vm (Oq (Vmk1 1 false mt99 (kStr un9) ze4 (ek := vstr) (ev := vb) (ok := okStr) (key := n) pre) (Oq Vnot (Oq Vpt (KS ?_)))))
  refine Kc ?_ ?_
  ·intro h5
   have h7 := not_true h5
   refine KS ?_
   refine Oq (Vld sh99 0) (Oq Vm (Ost (Smp [1] mt99 (kStr un9) true (ek := vstr) (ev := vb) (ok := okStr) (key := n) pre) (KS ?_)))
   refine Oq (Vld sh45 2) (Oq Vm (Oa (AsV sl45 sz45 [.string (bs n)] [.string (bs n)]) fun c9 => ?_))
   refine Jo 0 ?_; rintro a10 k11 rfl
   refine Jl [0] (Ent.cr1 (α := Str) (A := []) _ n _ aB1 (fun _ => ⟨rfl, aS1⟩)) ?_
   refine Oa (ApO [4, 0] sl45 sl45 sz45) fun c12 => ?_
   refine Jo 0 ?_; rintro a13 k14 rfl
   refine Fb 16 0 fun _ => ?_
   refine FoS 0 fun ho16 => ?_
   have hn17 := la cap1 ([n] : List Str)
   refine Ost (Scl [3] sh45 [vl a13 k14 (cap1 ++ [n])]) (KS ?_)
   have hq := q4 hrr ((mset cap0 n true), (cap1 ++ [n])) (by simp only [vd_Variables_1, h3, h5, h7, cs4]); subst hq
   exact Kz (vl a13 k14 (cap1 ++ [n])) rfl .nil [3, 2, 0, 0] en
  intro h5
  have h19 := not_false h5
  refine KS ?_
  have hq := q4 hrr (cap0, cap1) (by simp only [vd_Variables_1, h3, h5, h19, cs4]); subst hq
  exact Kz (vl cap1a0 cap1k0 cap1) rfl .nil [0, 0, 0, 0] en
 intro h3
 have g21 := eq_of_bne_false h3
 refine Osk (Osk (Osk (Osk (Oq Vpf (KS ?_)))))
 refine Kf (KS ?_)
 have hq := q4 hrr (cap0, cap1) (by simp only [vd_Variables_1, h3, cs4]); subst hq
 exact Kz (vl cap1a0 cap1k0 cap1) rfl .nil [0, 0, 0, 0] en
theorem fn68m0 (s : GStmt) (sa2 : Option Addr) (sk2 : Nat) (sa3 : Option Addr) (sk3 : Nat) (st0P : Value) (st0 : List (Str × Bool)) (st0m0 : Value) (st1P : Value) (st1 : List Str) (st1a0 : Option Addr) (st1k0 : Nat) (cap0P : Value) (hs_0 : i64ok s.Op) (hs_1 : s.Def.b.length ≤ 140737488355328) (ho : st1.length ≤ 900000 ∧ s.Uses.length ≤ 4) (rr : (List (Str × Bool)) × List Str) (hrr : vd_Variables_2_Variables_1 s st0 st1 = rr) : FT Tryz.prog 68 #[.agg #[vi s.Op, .string (bs s.Def), vl sa2 sk2 s.Uses, vl sa3 sk3 s.Targets], cap0P] [S sa2 sk2 s.Uses, S sa3 sk3 s.Targets, Cl st0P [st0m0], Mp vstr vb okStr st0m0 st0, Cl st1P [vl st1a0 st1k0 st1], O st1a0 st1k0 st1, pv cap0P [.func (.func 66) #[] #[st0P, st1P]]] (fun g : Value => (rr.2.length ≤ st1.length + 5)) (fun g => .tuple #[]) (fun g => [Cl st0P [st0m0], Mp vstr vb okStr st0m0 rr.1, Cl st1P [g], os g rr.2]) := by
 refine FTi Tryz.func68 fun w0 M0 F0 => ?_
 unfold i64ok at hs_0
 refine Fb 16 0 fun _ => ?_
 refine FoS 0 fun ho2 => ?_
 refine Fb 16 1 fun _ => ?_
 refine FoS 1 fun ho4 => ?_
 refine Fb 16 5 fun _ => ?_
 refine FoS 5 fun ho6 => ?_
 refine KS ?_
 refine Oa (Ab [vi s.Op, .string (bs s.Def), vl sa2 sk2 s.Uses, vl sa3 sk3 s.Targets]) fun p7 => KS ?_
 refine Oq (Vld sh104 7) (Oq (Vfa fo47_1 0) (Oq (VldF sh9 0) ?_))
 refine letv (vd_Variables_1 s.Def st0 st1) fun rv9 hg10 => ?_
 have hc11 := fn66 s.Def st0P st0 st0m0 st1P st1 st1a0 st1k0 pre pre rv9 hg10
 refine JO_call [3, 3, 3, 3] rfl rfl rfl (OpC.clo («as» := [(.string (bs s.Def) : Value), (st0P : Value), (st1P : Value)]) rfl rfl ca66 rfl (by simp)) hc11 rfl ?_
 rintro c8 he12
 refine Jo 3 ?_; rintro a13 k14 rfl
 refine Fb 16 3 fun _ => ?_
 refine FoS 3 fun ho16 => ?_
 refine KS ?_
 refine Oq (Vfa fo47_2 4) (Oq (VldF sh45 4) (Oq (Vlen sl45) (Oq Vm (KS ?_))))
 refine Kl (γ := Nat × (List (Str × Bool)) × List Str × Int × Option Addr × Nat) (fun (r17, st00_18, st10_19, v12_20, a21, k22) => ⟨[(1, cap0P), (10, vl sa2 sk2 s.Uses), (11, vi (s.Uses.length : Int)), (12, vi v12_20)], [O a21 k22 st10_19, Cl st0P [st0m0], Mp vstr vb okStr st0m0 st00_18, Cl st1P [vl a21 k22 st10_19], S sa2 sk2 s.Uses, pv cap0P [.func (.func 66) #[] #[st0P, st1P]]], vd_Variables_2_Variables_1_L0 s r17 st00_18 st10_19 v12_20 = vd_Variables_2_Variables_1_L0 s (((s.Uses.length : Int) - 0).toNat) rv9.1 rv9.2 0 ∧ r17 = ((s.Uses.length : Int) - v12_20).toNat ∧ (0 : Int) ≤ v12_20 ∧ v12_20 ≤ (s.Uses.length : Int) ∧ (-9223372036854775808 ≤ v12_20 ∧ v12_20 ≤ 9223372036854775807) ∧ ((st10_19.length : Int) ≤ (st1.length : Int) + 1 + v12_20), r17⟩) (((s.Uses.length : Int) - 0).toNat, rv9.1, rv9.2, 0, a13, k14) [3, 0, 0, 0, 1, 3] ⟨rfl, rfl, aM1, aM1, aM1, iv0⟩ ?_
 rintro ⟨r17, st00_18, st10_19, v12_20, a21, k22⟩ ⟨hM23, hr24, hi25, hi26, hk27, hv28⟩
 refine JJ_nx fun _ _ hL hA => ?_; dsimp only at hL hA; subst hL hA
 refine Fb 16 0 fun _ => ?_
 refine FoS 0 fun ho30 => ?_
 refine Fb 16 4 fun _ => ?_
 refine FoS 4 fun ho32 => ?_
 refine KS ?_
 refine Oq Vlss (KS ?_)
 refine Kc ?_ ?_
 ·intro h33
  have g34 := dt h33
  obtain ⟨r35, rfl⟩ := scc (n := r17) aM1
  refine KS ?_
  refine Oq (Vi sl45 4) ?_
  have hb36 := okS (i := v12_20.toNat) ho32 rng
  refine Oq (VldS sh9 4) (Oq Va (KS ?_))
  refine Oq (Vld sh104 5) (Oq Vm ?_)
  refine letv (vd_Variables_1 (s.Uses.getD v12_20.toNat default) st00_18 st10_19) fun rv38 hg39 => ?_
  have hc40 := fn66 ((s.Uses.getD v12_20.toNat default)) st0P st00_18 st0m0 st1P st10_19 a21 k22 pre pre rv38 hg39
  refine JO_call [1, 1, 1, 0] rfl rfl rfl (OpC.clo («as» := [(.string (bs (s.Uses.getD v12_20.toNat default)) : Value), (st0P : Value), (st1P : Value)]) rfl rfl ca66 rfl (by simp)) hc40 rfl ?_
  rintro c37 he41
  refine Jo 3 ?_; rintro a42 k43 rfl
  refine Fb 16 3 fun _ => ?_
  refine FoS 3 fun ho45 => ?_
  refine KS ?_
  refine Oq Vadd (Oq Vm (KS ?_))
  exact Kg (r35, rv38.1, rv38.2, (v12_20 + 1), a42, k43) [3, 0, 0, 0, 0, 1] ⟨(q3 hM23 (by simp only [vd_Variables_2_Variables_1_L0, h33, hg10, hg39, cs4])), aM1, aM1, aM1, aM1, iv1⟩
 intro h33
 have g46 := df h33
 obtain rfl : r17 = 0 := by omega
 refine Ke ?_
 have hR47 := q2 hM23 (st00_18, st10_19) (by simp only [vd_Variables_2_Variables_1_L0, h33, hg10, cs4])
 have hq := q4 hrr (st00_18, st10_19) (by simp only [vd_Variables_2_Variables_1, h33, hg10, hR47, cs4]); subst hq
 exact Kz (vl a21 k22 st10_19) rfl .nil [1, 1, 1, 0] en
theorem fn67m1 (p : GProgram) (pa0 : Option Addr) (pk0 : Nat) (st1P : Value) (st1 : List (Str × Bool)) (st1m0 : Value) (st2P : Value) (st2 : List Str) (st2a0 : Option Addr) (st2k0 : Nat) (st0P : Value) (kwLA : Option Addr) (kwLK : Nat) (hps : PSm p = true) (ho : st2.length = 0) (rr : (List (Str × Bool)) × List Str) (hrr : vd_each_Variables_2 p st1 st2 = rr) : FT Tryz.prog 67 #[.agg #[vl pa0 pk0 p.Funcs], .func (.func 68) #[] #[st0P]] [S pa0 pk0 p.Funcs, Cl st1P [st1m0], Mp vstr vb okStr st1m0 st1, Cl st2P [vl st2a0 st2k0 st2], O st2a0 st2k0 st2, pv st0P [.func (.func 66) #[] #[st1P, st2P]], pv (gp 0) [vl kwLA kwLK kwL], S kwLA kwLK kwL] (fun g : Value => (rr.2.length ≤ 30000)) (fun g => .tuple #[]) (fun g => [Cl st1P [st1m0], Mp vstr vb okStr st1m0 rr.1, Cl st2P [g], os g rr.2]) := by
 refine FTi Tryz.func67 fun w0 M0 F0 => Fb 40 0 fun _ => Fb 16 4 fun _ => ?_
 refine FoS 4 fun ho3 => ?_
 refine Fb 16 7 fun _ => ?_
 refine FoS 7 fun ho5 => ?_
 refine KS ?_
 refine Oa (Ab [vl pa0 pk0 p.Funcs]) fun p6 => KS ?_
 refine Oq (VldA sh25 0) ?_
 refine letv (sx_Valid p) fun rv7 hg8 => ?_
 have hc9 := fn61 p pa0 pk0 kwLA kwLK pre rv7 hg8
 refine Oc [1, 7, 8] ca61 hc9 ?_
 rintro - -
 refine Oq Vnot (KS ?_)
 refine Kc ?_ ?_
 ·intro h10
  have h12 := not_true h10
  have hq := q4 hrr (st1, st2) (by simp only [vd_each_Variables_2, h10, h12, hg8, cs4]); subst hq
  exact Kr (vl st2a0 st2k0 st2) rfl .nil [2, 2, 2, 2] en
 intro h10
 have h15 := not_false h10
 try have hVb := SVal_b (p := p) (by simp only [h10, h15, hg8])
 refine KS ?_
 refine Oq (Vfa fo25_0 0) (Oq (VldF sh23 0) (Oq (Vlen sl23) (Oq Vm (KS ?_))))
 refine Kl (γ := Nat × (List (Str × Bool)) × List Str × Int × Option Addr × Nat) (fun (r17, st10_18, st20_19, v16_20, a21, k22) => ⟨[(1, .func (.func 68) #[] #[st0P]), (14, vl pa0 pk0 p.Funcs), (15, vi (p.Funcs.length : Int)), (16, vi v16_20)], [O a21 k22 st20_19, S pa0 pk0 p.Funcs, Cl st1P [st1m0], Mp vstr vb okStr st1m0 st10_18, Cl st2P [vl a21 k22 st20_19], pv st0P [.func (.func 66) #[] #[st1P, st2P]], pv (gp 0) [vl kwLA kwLK kwL], S kwLA kwLK kwL], vd_each_Variables_2_L0 p r17 st10_18 st20_19 v16_20 = vd_each_Variables_2_L0 p (((p.Funcs.length : Int) - 0).toNat) st1 st2 0 ∧ r17 = ((p.Funcs.length : Int) - v16_20).toNat ∧ (0 : Int) ≤ v16_20 ∧ v16_20 ≤ (p.Funcs.length : Int) ∧ (-9223372036854775808 ≤ v16_20 ∧ v16_20 ≤ 9223372036854775807) ∧ ((st20_19.length : Int) ≤ 3000 * v16_20), r17⟩) (((p.Funcs.length : Int) - 0).toNat, st1, st2, 0, st2a0, st2k0) [5, 1, 2, 2, 2, 2, 3, 4] ⟨rfl, rfl, aM1, aM1, aM1, iv0⟩ ?_
 rintro ⟨r17, st10_18, st20_19, v16_20, a21, k22⟩ ⟨hM23, hr24, hi25, hi26, hk27, hv28⟩
 refine JJ_nx fun _ _ hL hA => ?_; dsimp only at hL hA; subst hL hA
 refine Fb 16 0 fun _ => ?_
 refine FoS 0 fun ho30 => ?_
 refine Fb 40 1 fun _ => Fb 16 7 fun _ => ?_
 refine FoS 7 fun ho33 => ?_
 refine KS ?_
 refine Oq Vlss (KS ?_)
 refine Kc ?_ ?_
 ·intro h34
  have g35 := dt h34
  have hVf := hVb.2 v16_20.toNat
  obtain ⟨r36, rfl⟩ := scc (n := r17) aM1
  refine KS ?_
  refine Oq (Vi sl23 1) ?_
  refine JJ_peek_GFunc v16_20.toNat 1 rfl rng fun a37 k38 hb39 => ?_
  refine Fb 40 1 fun _ => ?_
  refine Oq (VldA sh41 0) (Oa (Al ze41 [.string (bs (Str.mk [])), .slice none 0 0]) fun p41 => Ost (Scl [0] sh41 [.string (bs ((p.Funcs.getD v16_20.toNat default).Name)), vl a37 k38 ((p.Funcs.getD v16_20.toNat default).Blocks)]) (KS ?_))
  refine Oq (Vfa fo41_1 0) (Oq (VldF sh39 0) (Oq (Vlen sl39) (Oq Vm (KS ?_))))
  refine Kl (γ := Nat × (List (Str × Bool)) × List Str × Int × Option Addr × Nat) (fun (r42, st10_43, st20_44, v23_45, a46, k47) => ⟨[(1, .func (.func 68) #[] #[st0P]), (14, vl pa0 pk0 p.Funcs), (15, vi (p.Funcs.length : Int)), (16, vi v16_20), (21, vl a37 k38 ((p.Funcs.getD v16_20.toNat default).Blocks)), (22, vi (((p.Funcs.getD v16_20.toNat default).Blocks).length : Int)), (23, vi v23_45)], [O a46 k47 st20_44, S a37 k38 ((p.Funcs.getD v16_20.toNat default).Blocks), S pa0 pk0 p.Funcs, Cl st1P [st1m0], Mp vstr vb okStr st1m0 st10_43, Cl st2P [vl a46 k47 st20_44], pv st0P [.func (.func 66) #[] #[st1P, st2P]], pv (gp 0) [vl kwLA kwLK kwL], S kwLA kwLK kwL], vd_each_Variables_2_L1 ((p.Funcs.getD v16_20.toNat default).Blocks) r42 st10_43 st20_44 v23_45 = vd_each_Variables_2_L1 ((p.Funcs.getD v16_20.toNat default).Blocks) ((((((p.Funcs.getD v16_20.toNat default).Blocks).length : Int) : Int) - 0).toNat) st10_18 st20_19 0 ∧ r42 = (((((p.Funcs.getD v16_20.toNat default).Blocks).length : Int) : Int) - v23_45).toNat ∧ (0 : Int) ≤ v23_45 ∧ (v23_45 ≤ (((p.Funcs.getD v16_20.toNat default).Blocks).length : Int) ∨ v23_45 = 0) ∧ (-9223372036854775808 ≤ v23_45 ∧ v23_45 ≤ 9223372036854775807) ∧ ((st20_44.length : Int) ≤ (st20_19.length : Int) + 180 * v23_45), r42⟩) ((((((p.Funcs.getD v16_20.toNat default).Blocks).length : Int) : Int) - 0).toNat, st10_18, st20_19, 0, a21, k22) [3, 2, 3, 4, 4, 4, 4, 5, 6] ⟨rfl, rfl, aM1, (.inr rfl), aM1, iv0⟩ ?_
  rintro ⟨r42, st10_43, st20_44, v23_45, a46, k47⟩ ⟨hM48, hr49, hi50, hi51, hk52, hv53⟩
  refine JJ_nx fun _ _ hL hA => ?_; dsimp only at hL hA; subst hL hA
  refine Fb 16 0 fun _ => ?_
  refine FoS 0 fun ho55 => ?_
  refine Fb 40 1 fun _ => Fb 40 2 fun _ => Fb 16 8 fun _ => ?_
  refine FoS 8 fun ho59 => ?_
  refine KS ?_
  refine Oq Vlss (KS ?_)
  refine Kc ?_ ?_
  ·intro h60
   have g61 := dt h60
   have hVk := hVf.2 v23_45.toNat
   obtain ⟨r62, rfl⟩ := scc (n := r42) aM1
   refine KS ?_
   refine Oq (Vi sl39 1) ?_
   refine JJ_peek_GBlock v23_45.toNat 1 rfl rng fun a63 k64 hb65 => ?_
   refine Fb 72 1 fun _ => ?_
   refine Oq (VldA sh44 0) (Oa (Al ze44 [.string (bs (Str.mk [])), .slice none 0 0]) fun p67 => Ost (Scl [0] sh44 [.string (bs ((((p.Funcs.getD v16_20.toNat default).Blocks).getD v23_45.toNat default).Name)), .slice a63 (((((p.Funcs.getD v16_20.toNat default).Blocks).getD v23_45.toNat default).Stmts).length) k64]) (KS ?_))
   refine Oq (Vfa fo44_1 0) (Oq (VldF sh42 0) (Oq (Vlen sl42) (Oq Vm (KS ?_))))
   refine Kl (γ := Nat × (List (Str × Bool)) × List Str × Int × Option Addr × Nat) (fun (r68, st10_69, st20_70, v30_71, a72, k73) => ⟨[(1, .func (.func 68) #[] #[st0P]), (14, vl pa0 pk0 p.Funcs), (15, vi (p.Funcs.length : Int)), (16, vi v16_20), (21, vl a37 k38 ((p.Funcs.getD v16_20.toNat default).Blocks)), (22, vi (((p.Funcs.getD v16_20.toNat default).Blocks).length : Int)), (23, vi v23_45), (28, .slice a63 (((((p.Funcs.getD v16_20.toNat default).Blocks).getD v23_45.toNat default).Stmts).length) k64), (29, vi (((((p.Funcs.getD v16_20.toNat default).Blocks).getD v23_45.toNat default).Stmts).length : Int)), (30, vi v30_71)], [O a72 k73 st20_70, S a63 k64 ((((p.Funcs.getD v16_20.toNat default).Blocks).getD v23_45.toNat default).Stmts), S a37 k38 ((p.Funcs.getD v16_20.toNat default).Blocks), S pa0 pk0 p.Funcs, Cl st1P [st1m0], Mp vstr vb okStr st1m0 st10_69, Cl st2P [vl a72 k73 st20_70], pv st0P [.func (.func 66) #[] #[st1P, st2P]], pv (gp 0) [vl kwLA kwLK kwL], S kwLA kwLK kwL], vd_each_Variables_2_L2 ((((p.Funcs.getD v16_20.toNat default).Blocks).getD v23_45.toNat default).Stmts) r68 st10_69 st20_70 v30_71 = vd_each_Variables_2_L2 ((((p.Funcs.getD v16_20.toNat default).Blocks).getD v23_45.toNat default).Stmts) ((((((((p.Funcs.getD v16_20.toNat default).Blocks).getD v23_45.toNat default).Stmts).length : Int) : Int) - 0).toNat) st10_43 st20_44 0 ∧ r68 = (((((((p.Funcs.getD v16_20.toNat default).Blocks).getD v23_45.toNat default).Stmts).length : Int) : Int) - v30_71).toNat ∧ (0 : Int) ≤ v30_71 ∧ (v30_71 ≤ (((((p.Funcs.getD v16_20.toNat default).Blocks).getD v23_45.toNat default).Stmts).length : Int) ∨ v30_71 = 0) ∧ (-9223372036854775808 ≤ v30_71 ∧ v30_71 ≤ 9223372036854775807) ∧ ((st20_70.length : Int) ≤ (st20_44.length : Int) + 5 * v30_71), r68⟩) ((((((((p.Funcs.getD v16_20.toNat default).Blocks).getD v23_45.toNat default).Stmts).length : Int) : Int) - 0).toNat, st10_43, st20_44, 0, a46, k47) [3, 2, 3, 4, 5, 5, 5, 5, 6, 7] ⟨rfl, rfl, aM1, (.inr rfl), aM1, iv0⟩ ?_
   rintro ⟨r68, st10_69, st20_70, v30_71, a72, k73⟩ ⟨hM74, hr75, hi76, hi77, hk78, hv79⟩
   refine JJ_nx fun _ _ hL hA => ?_; dsimp only at hL hA; subst hL hA
   refine Fb 16 0 fun _ => ?_
   refine FoS 0 fun ho81 => ?_
   refine Fb 72 1 fun _ => Fb 40 2 fun _ => Fb 40 3 fun _ => Fb 16 9 fun _ => ?_
   refine FoS 9 fun ho86 => ?_
   refine KS ?_
   refine Oq Vlss (KS ?_)
   refine Kc ?_ ?_
   ·intro h87
    have g88 := dt h87
    have hVs := hVk.2 v30_71.toNat
    obtain ⟨r89, rfl⟩ := scc (n := r68) aM1
    refine KS ?_
    refine Oq (Vi sl42 1) ?_
    refine JJ_peek_GStmt v30_71.toNat 1 rfl rng fun a90 k91 a92 k93 hb94 hb95 => ?_
    unfold i64ok at hb94
    refine Fb 16 1 fun _ => ?_
    refine FoS 1 fun ho97 => ?_
    refine Fb 16 2 fun _ => ?_
    refine FoS 2 fun ho99 => ?_
    refine Oq (VldA sh47 0) (Oa (Al ze47 [vi 0, .string (bs (Str.mk [])), .slice none 0 0, .slice none 0 0]) fun p100 => Ost (Scl [0] sh47 [vi ((((((p.Funcs.getD v16_20.toNat default).Blocks).getD v23_45.toNat default).Stmts).getD v30_71.toNat default).Op), .string (bs ((((((p.Funcs.getD v16_20.toNat default).Blocks).getD v23_45.toNat default).Stmts).getD v30_71.toNat default).Def)), .slice a90 (((((((p.Funcs.getD v16_20.toNat default).Blocks).getD v23_45.toNat default).Stmts).getD v30_71.toNat default).Uses).length) k91, .slice a92 (((((((p.Funcs.getD v16_20.toNat default).Blocks).getD v23_45.toNat default).Stmts).getD v30_71.toNat default).Targets).length) k93]) (KS ?_))
    refine Oq Vm (Oq (VldA sh47 0) ?_)
    refine letv (vd_Variables_2_Variables_1 (((((p.Funcs.getD v16_20.toNat default).Blocks).getD v23_45.toNat default).Stmts).getD v30_71.toNat default) st10_69 st20_70) fun rv102 hg103 => ?_
    have hc104 := fn68m0 ((((((p.Funcs.getD v16_20.toNat default).Blocks).getD v23_45.toNat default).Stmts).getD v30_71.toNat default)) a90 k91 a92 k93 st1P st10_69 st1m0 st2P st20_70 a72 k73 st0P pre pre pre rv102 hg103
    refine JO_call [2, 3, 8, 8, 8, 4, 7] rfl rfl rfl (OpC.clo («as» := [(.agg #[vi ((((((p.Funcs.getD v16_20.toNat default).Blocks).getD v23_45.toNat default).Stmts).getD v30_71.toNat default).Op), .string (bs ((((((p.Funcs.getD v16_20.toNat default).Blocks).getD v23_45.toNat default).Stmts).getD v30_71.toNat default).Def)), .slice a90 (((((((p.Funcs.getD v16_20.toNat default).Blocks).getD v23_45.toNat default).Stmts).getD v30_71.toNat default).Uses).length) k91, .slice a92 (((((((p.Funcs.getD v16_20.toNat default).Blocks).getD v23_45.toNat default).Stmts).getD v30_71.toNat default).Targets).length) k93] : Value), (st0P : Value)]) rfl rfl ca68 rfl (by simp)) hc104 rfl ?_
    rintro c101 he105
    refine Jo 3 ?_; rintro a106 k107 rfl
    refine Fb 16 3 fun _ => ?_
    refine FoS 3 fun ho109 => ?_
    refine KS ?_
    refine Oq Vadd (Oq Vm (KS ?_))
    exact Kg (r89, rv102.1, rv102.2, (v30_71 + 1), a106, k107) [3, 7, 8, 9, 0, 0, 0, 7, 8, 9] ⟨(q3 hM74 (by simp only [vd_each_Variables_2_L2, h10, h15, h34, h60, h87, hg8, hg103, cs4])), aM1, aM1, aM1, aM1, iv1⟩
   intro h87
   have g110 := df h87
   obtain rfl : r68 = 0 := by omega
   refine Ke ?_
   have hR111 := q2 hM74 (st10_69, st20_70) (by simp only [vd_each_Variables_2_L2, h10, h15, h34, h60, h87, hg8, cs4])
   refine KS ?_
   refine Oq Vadd (Oq Vm (KS ?_))
   exact Kg (r62, st10_69, st20_70, (v23_45 + 1), a72, k73) [0, 1, 2, 3, 3, 3, 3, 4, 5] ⟨(q3 hM48 (by simp only [vd_each_Variables_2_L1, h10, h15, h34, h60, h87, hg8, hR111, cs4])), aM1, aM1, aM1, aM1, iv1⟩
  intro h60
  have g112 := df h60
  obtain rfl : r42 = 0 := by omega
  refine Ke ?_
  have hR113 := q2 hM48 (st10_43, st20_44) (by simp only [vd_each_Variables_2_L1, h10, h15, h34, h60, hg8, cs4])
  refine KS ?_
  refine Oq Vadd (Oq Vm (KS ?_))
  exact Kg (r36, st10_43, st20_44, (v16_20 + 1), a46, k47) [0, 1, 2, 2, 2, 2, 3, 4] ⟨(q3 hM23 (by simp only [vd_each_Variables_2_L0, h10, h15, h34, h60, hg8, hR113, cs4])), aM1, aM1, aM1, aM1, iv1⟩
 intro h34
 have g114 := df h34
 obtain rfl : r17 = 0 := by omega
 refine Ke ?_
 have hR115 := q2 hM23 (st10_18, st20_19) (by simp only [vd_each_Variables_2_L0, h10, h15, h34, hg8, cs4])
 have hq := q4 hrr (st10_18, st20_19) (by simp only [vd_each_Variables_2, h10, h15, h34, hg8, hR115, cs4]); subst hq
 exact Kz (vl a21 k22 st20_19) rfl .nil [2, 2, 2, 0] en
theorem fn37 (p : GProgram) (pa0 : Option Addr) (pk0 : Nat) (kwLA : Option Addr) (kwLK : Nat) (hps : PSm p = true) (rr : List Str) (hrr : vd_Variables p = rr) : FT Tryz.prog 37 #[.agg #[vl pa0 pk0 p.Funcs]] [S pa0 pk0 p.Funcs, pv (gp 0) [vl kwLA kwLK kwL], S kwLA kwLK kwL] (fun g : Value => (rr.length ≤ 30000)) (fun g => g) (fun g => [sl g rr]) := by
 refine FTi Tryz.func37 fun w0 M0 F0 => Fb 40 0 fun _ => Fb 16 2 fun _ => ?_
 refine FoS 2 fun ho3 => ?_
 refine KS ?_
 refine Oa (Ab [vl pa0 pk0 p.Funcs]) fun p4 => Oq Va (KS ?_)
 refine Oa (Amp (κ := Str) (ν := Bool) (ek := vstr) (ev := vb) (ok := okStr)) fun p5 => ?_
 refine Jom 0 ?_; rintro b6 rfl
 refine Oa (Al ze99 [.map none]) fun p7 => Ost (Scl [0] sh99 [(mv b6)]) (KS ?_)
 refine Oa (Al ze45 [.slice none 0 0]) fun p8 => KS ?_
 refine Oq (Vf [p7, p8]) (Oa (Al ze104 [.nilFunc]) fun p9 => Ost (Scl [0] sh104 [.func (.func 66) #[] #[p7, p8]]) (KS ?_))
 refine Oq (VldA sh25 4) (Oq (Vf [p9]) ?_)
 refine Jl [] (Ent.osNil (α := Str)) ?_
 refine Jl [1] (Ent.freezeCl _ _) ?_
 refine letv (vd_each_Variables_2 p [] []) fun rv11 hg12 => ?_
 have hc13 := fn67m1 p pa0 pk0 p7 [] (mv b6) p8 [] none 0 p9 kwLA kwLK pre pre rv11 hg12
 refine Oc [6, 3, 3, 2, 1, 0, 3, 4] ca67 hc13 ?_
 rintro c10 he14
 refine Jo 3 ?_; rintro a15 k16 rfl
 refine Fb 16 3 fun _ => ?_
 refine FoS 3 fun ho18 => ?_
 refine KS ?_
 refine Oq (Vld sh45 2) (Oq Va (KS ?_))
 refine Jl [3] (Ent.freeze _ _) ?_
 have hq := q4 hrr rv11.2 (by simp only [vd_Variables, hg12, cs4]); subst hq
 exact Kr (vl a15 k16 rv11.2) rfl (.tmp rfl .nil) [0] en
theorem fn62 (l : List GFunc) (la0 : Option Addr) (lk0 : Nat) (nameF : FuncId) (nameC : List Value) (namep : GFunc → Str) (nameA : List SP) (hnamec : callable Tryz.prog nameF = true) (hnameF : ∀ x0, ∀ (a0 : Option Addr) (k0 : Nat), x0.Name.b.length ≤ 140737488355328 → FT Tryz.prog nameF ([(.agg #[.string (bs x0.Name), vl a0 k0 x0.Blocks] : Value)] ++ nameC).toArray ([S a0 k0 x0.Blocks] ++ [pAll nameA]) (fun _ : Unit => (namep x0).b.length ≤ 140737488355328) (fun _ => .string (bs (namep x0))) (fun _ => [])) (rr : Int × (List (Str × Bool))) (hrr : vd_duplicate_Func l namep = rr) : FT Tryz.prog 62 #[vl la0 lk0 l, .func (.func nameF) #[] nameC.toArray] [S la0 lk0 l, pAll nameA] (fun g : Value => i64ok rr.1) (fun g => .tuple #[vi rr.1, g]) (fun g => [Mp vstr vb okStr g rr.2]) := by
 refine FTi Tryz.func62 fun w0 M0 F0 => Fb 40 0 fun _ => ?_
 refine KS ?_
 refine Oq Va (Oq Va (KS ?_))
 refine Oa (Amp (κ := Str) (ν := Bool) (ek := vstr) (ev := vb) (ok := okStr)) fun p2 => ?_
 refine Jom 0 ?_; rintro b3 rfl
 refine Oq Va (KS ?_)
 refine Oq Va (KS ?_)
 refine Oq Vm (Oq (Vlen sl23) (Oq Vm (KS ?_)))
 refine Kl (γ := Nat × (List (Str × Bool)) × Int × Int) (fun (r4, known_5, at__6, v13_7) => ⟨[(1, .func (.func nameF) #[] nameC.toArray), (6, (mv b3)), (7, vi at__6), (11, vl la0 lk0 l), (12, vi (l.length : Int)), (13, vi v13_7)], [Mp vstr vb okStr (mv b3) known_5, S la0 lk0 l, pAll nameA], vd_duplicate_Func_L0 l namep r4 known_5 at__6 v13_7 = vd_duplicate_Func_L0 l namep (((l.length : Int) - 0).toNat) [] (-1) 0 ∧ r4 = ((l.length : Int) - v13_7).toNat ∧ (0 : Int) ≤ v13_7 ∧ v13_7 ≤ (l.length : Int) ∧ (-9223372036854775808 ≤ at__6 ∧ at__6 ≤ 9223372036854775807) ∧ (-9223372036854775808 ≤ v13_7 ∧ v13_7 ≤ 9223372036854775807), r4⟩) (((l.length : Int) - 0).toNat, [], -1, 0) [0, 0, 1] ⟨rfl, rfl, aM1, aM1, aM1, aM1⟩ ?_
 rintro ⟨r4, known_5, at__6, v13_7⟩ ⟨hM8, hr9, hi10, hi11, hk12, hk13⟩
 refine JJ_nx fun _ _ hL hA => ?_; dsimp only at hL hA; subst hL hA
 refine Fb 40 1 fun _ => KS ?_
 refine Oq Vlss (KS ?_)
 refine Kc ?_ ?_
 ·intro h15
  have g16 := dt h15
  obtain ⟨r17, rfl⟩ := scc (n := r4) aM1
  refine KS ?_
  refine Oq Vm (Oq (Vi sl23 1) ?_)
  refine JJ_peek_GFunc v13_7.toNat 1 rfl rng fun a18 k19 hb20 => ?_
  refine Fb 40 1 fun _ => ?_
  refine Oq (VldA sh41 0) (Oa (Al ze41 [.string (bs (Str.mk [])), .slice none 0 0]) fun p22 => Oq Va (Ost (Scl [0] sh41 [.string (bs ((l.getD v13_7.toNat default).Name)), vl a18 k19 ((l.getD v13_7.toNat default).Blocks)]) (KS ?_)))
  refine Oq Vm (Oq Vm (Oq (VldA sh41 0) ?_))
  refine JO_call [2, 5] rfl rfl rfl (OpC.clo («as» := [(.agg #[.string (bs ((l.getD v13_7.toNat default).Name)), vl a18 k19 ((l.getD v13_7.toNat default).Blocks)] : Value)] ++ nameC) rfl rfl hnamec rfl (by simp)) (hnameF (l.getD v13_7.toNat default) a18 k19 pre) rfl fun _ he23 => ?_
  refine Oq (Vmk1 3 false mt99 (kStr un9) ze4 (ek := vstr) (ev := vb) (ok := okStr) (key := (namep (l.getD v13_7.toNat default))) pre) (Oq Vm ?_)
  refine Js 23 ?_ ?_
  ·intro h24
   refine Oq Vm (Oq Vlss (Oq Vpt (KS ?_)))
   refine Kc ?_ ?_
   ·intro h26
    have g27 := dt h26
    refine KS ?_
    refine Oq Vm (Oq Va (KS ?_))
    refine Oq Vm (Oq Vm (Oq (VldA sh41 0) ?_))
    refine JO_call [2, 5] rfl rfl rfl (OpC.clo («as» := [(.agg #[.string (bs ((l.getD v13_7.toNat default).Name)), vl a18 k19 ((l.getD v13_7.toNat default).Blocks)] : Value)] ++ nameC) rfl rfl hnamec rfl (by simp)) (hnameF (l.getD v13_7.toNat default) a18 k19 pre) rfl fun _ he28 => ?_
    refine Ost (Smp [3] mt99 (kStr un9) true (ek := vstr) (ev := vb) (ok := okStr) (key := (namep (l.getD v13_7.toNat default))) pre) (KS ?_)
    refine Oq Vadd (Oq Vm (KS ?_))
    exact Kg (r17, (mset known_5 (namep (l.getD v13_7.toNat default)) true), v13_7, (v13_7 + 1)) [0, 3, 4] ⟨(q3 hM8 (by simp only [vd_duplicate_Func_L0, h15, h24, h26, cs4])), aM1, aM1, aM1, aM1, aM1⟩
   intro h26
   have g29 := df h26
   refine KS ?_
   refine Oq Vm (Oq Vm (Oq (VldA sh41 0) ?_))
   refine JO_call [2, 5] rfl rfl rfl (OpC.clo («as» := [(.agg #[.string (bs ((l.getD v13_7.toNat default).Name)), vl a18 k19 ((l.getD v13_7.toNat default).Blocks)] : Value)] ++ nameC) rfl rfl hnamec rfl (by simp)) (hnameF (l.getD v13_7.toNat default) a18 k19 pre) rfl fun _ he30 => ?_
   refine Ost (Smp [3] mt99 (kStr un9) true (ek := vstr) (ev := vb) (ok := okStr) (key := (namep (l.getD v13_7.toNat default))) pre) (KS ?_)
   refine Oq Vadd (Oq Vm (KS ?_))
   exact Kg (r17, (mset known_5 (namep (l.getD v13_7.toNat default)) true), at__6, (v13_7 + 1)) [0, 3, 4] ⟨(q3 hM8 (by simp only [vd_duplicate_Func_L0, h15, h24, h26, cs4])), aM1, aM1, aM1, aM1, aM1⟩
  intro h24
  refine Osk (Osk (Oq Vpf (KS ?_)))
  refine Kf (KS ?_)
  refine Oq Vm (Oq Vm (Oq (VldA sh41 0) ?_))
  refine JO_call [2, 5] rfl rfl rfl (OpC.clo («as» := [(.agg #[.string (bs ((l.getD v13_7.toNat default).Name)), vl a18 k19 ((l.getD v13_7.toNat default).Blocks)] : Value)] ++ nameC) rfl rfl hnamec rfl (by simp)) (hnameF (l.getD v13_7.toNat default) a18 k19 pre) rfl fun _ he32 => ?_
  refine Ost (Smp [3] mt99 (kStr un9) true (ek := vstr) (ev := vb) (ok := okStr) (key := (namep (l.getD v13_7.toNat default))) pre) (KS ?_)
  refine Oq Vadd (Oq Vm (KS ?_))
  exact Kg (r17, (mset known_5 (namep (l.getD v13_7.toNat default)) true), at__6, (v13_7 + 1)) [0, 3, 4] ⟨(q3 hM8 (by simp only [vd_duplicate_Func_L0, h15, h24, cs4])), aM1, aM1, aM1, aM1, aM1⟩
 intro h15
 have g33 := df h15
 obtain rfl : r4 = 0 := by omega
 refine Ke ?_
 have hR34 := q2 hM8 (known_5, at__6) (by simp only [vd_duplicate_Func_L0, h15, cs4])
 refine KS ?_
 refine Oq Vm (Oq Vm (Oq Va (Oq Va (KS ?_))))
 have hq := q4 hrr (at__6, known_5) (by simp only [vd_duplicate_Func, h15, hR34, cs4]); subst hq
 exact Kr (mv b3) rfl (.tmp rfl (.tmp rfl .nil)) [0] en
theorem fn63 (f : GFunc) (fa1 : Option Addr) (fk1 : Nat) (hf_0 : f.Name.b.length ≤ 140737488355328) (rr : Str) (hrr : vd_Check_1 f = rr) : FT Tryz.prog 63 #[.agg #[.string (bs f.Name), vl fa1 fk1 f.Blocks]] [S fa1 fk1 f.Blocks] (fun g : Unit => rr.b.length ≤ 140737488355328) (fun g => .string (bs rr)) (fun g => []) := by
 refine FTi Tryz.func63 fun w0 M0 F0 => Fb 40 0 fun _ => ?_
 refine KS ?_
 refine Oa (Ab [.string (bs f.Name), vl fa1 fk1 f.Blocks]) fun p2 => Oq Va (KS ?_)
 refine Oq (Vfa fo41_0 0) (Oq (VldF sh9 0) (Oq Va (KS ?_)))
 have hq := q4 hrr f.Name (by simp only [vd_Check_1, cs4]); subst hq
 exact Kr () rfl (.tmp rfl .nil) [] en
theorem fn90 (l : List GBlock) (la0 : Option Addr) (lk0 : Nat) (nameF : FuncId) (nameC : List Value) (namep : GBlock → Str) (nameA : List SP) (hnamec : callable Tryz.prog nameF = true) (hnameF : ∀ x0, ∀ (a0 : Option Addr) (k0 : Nat), x0.Name.b.length ≤ 140737488355328 → FT Tryz.prog nameF ([(.agg #[.string (bs x0.Name), vl a0 k0 x0.Stmts] : Value)] ++ nameC).toArray ([S a0 k0 x0.Stmts] ++ [pAll nameA]) (fun _ : Unit => (namep x0).b.length ≤ 140737488355328) (fun _ => .string (bs (namep x0))) (fun _ => [])) (rr : Int × (List (Str × Bool))) (hrr : vd_duplicate_Block l namep = rr) : FT Tryz.prog 90 #[vl la0 lk0 l, .func (.func nameF) #[] nameC.toArray] [S la0 lk0 l, pAll nameA] (fun g : Value => i64ok rr.1) (fun g => .tuple #[vi rr.1, g]) (fun g => [Mp vstr vb okStr g rr.2]) := by
 refine FTi Tryz.func90 fun w0 M0 F0 => Fb 40 0 fun _ => ?_
 refine KS ?_
 refine Oq Va (Oq Va (KS ?_))
 refine Oa (Amp (κ := Str) (ν := Bool) (ek := vstr) (ev := vb) (ok := okStr)) fun p2 => ?_
 refine Jom 0 ?_; rintro b3 rfl
 refine Oq Va (KS ?_)
 refine Oq Va (KS ?_)
 refine Oq Vm (Oq (Vlen sl39) (Oq Vm (KS ?_)))
 refine Kl (γ := Nat × (List (Str × Bool)) × Int × Int) (fun (r4, known_5, at__6, v13_7) => ⟨[(1, .func (.func nameF) #[] nameC.toArray), (6, (mv b3)), (7, vi at__6), (11, vl la0 lk0 l), (12, vi (l.length : Int)), (13, vi v13_7)], [Mp vstr vb okStr (mv b3) known_5, S la0 lk0 l, pAll nameA], vd_duplicate_Block_L0 l namep r4 known_5 at__6 v13_7 = vd_duplicate_Block_L0 l namep (((l.length : Int) - 0).toNat) [] (-1) 0 ∧ r4 = ((l.length : Int) - v13_7).toNat ∧ (0 : Int) ≤ v13_7 ∧ v13_7 ≤ (l.length : Int) ∧ (-9223372036854775808 ≤ at__6 ∧ at__6 ≤ 9223372036854775807) ∧ (-9223372036854775808 ≤ v13_7 ∧ v13_7 ≤ 9223372036854775807), r4⟩) (((l.length : Int) - 0).toNat, [], -1, 0) [0, 0, 1] ⟨rfl, rfl, aM1, aM1, aM1, aM1⟩ ?_
 rintro ⟨r4, known_5, at__6, v13_7⟩ ⟨hM8, hr9, hi10, hi11, hk12, hk13⟩
 refine JJ_nx fun _ _ hL hA => ?_; dsimp only at hL hA; subst hL hA
 refine Fb 40 1 fun _ => KS ?_
 refine Oq Vlss (KS ?_)
 refine Kc ?_ ?_
 ·intro h15
  have g16 := dt h15
  obtain ⟨r17, rfl⟩ := scc (n := r4) aM1
  refine KS ?_
  refine Oq Vm (Oq (Vi sl39 1) ?_)
  refine JJ_peek_GBlock v13_7.toNat 1 rfl rng fun a18 k19 hb20 => ?_
  refine Fb 72 1 fun _ => ?_
  refine Oq (VldA sh44 0) (Oa (Al ze44 [.string (bs (Str.mk [])), .slice none 0 0]) fun p22 => Oq Va (Ost (Scl [0] sh44 [.string (bs ((l.getD v13_7.toNat default).Name)), vl a18 k19 ((l.getD v13_7.toNat default).Stmts)]) (KS ?_)))
  refine Oq Vm (Oq Vm (Oq (VldA sh44 0) ?_))
  refine JO_call [2, 5] rfl rfl rfl (OpC.clo («as» := [(.agg #[.string (bs ((l.getD v13_7.toNat default).Name)), vl a18 k19 ((l.getD v13_7.toNat default).Stmts)] : Value)] ++ nameC) rfl rfl hnamec rfl (by simp)) (hnameF (l.getD v13_7.toNat default) a18 k19 pre) rfl fun _ he23 => ?_
  refine Oq (Vmk1 3 false mt99 (kStr un9) ze4 (ek := vstr) (ev := vb) (ok := okStr) (key := (namep (l.getD v13_7.toNat default))) pre) (Oq Vm ?_)
  refine Js 23 ?_ ?_
  ·intro h24
   refine Oq Vm (Oq Vlss (Oq Vpt (KS ?_)))
   refine Kc ?_ ?_
   ·intro h26
    have g27 := dt h26
    refine KS ?_
    refine Oq Vm (Oq Va (KS ?_))
    refine Oq Vm (Oq Vm (Oq (VldA sh44 0) ?_))
    refine JO_call [2, 5] rfl rfl rfl (OpC.clo («as» := [(.agg #[.string (bs ((l.getD v13_7.toNat default).Name)), vl a18 k19 ((l.getD v13_7.toNat default).Stmts)] : Value)] ++ nameC) rfl rfl hnamec rfl (by simp)) (hnameF (l.getD v13_7.toNat default) a18 k19 pre) rfl fun _ he28 => ?_
    refine Ost (Smp [3] mt99 (kStr un9) true (ek := vstr) (ev := vb) (ok := okStr) (key := (namep (l.getD v13_7.toNat default))) pre) (KS ?_)
    refine Oq Vadd (Oq Vm (KS ?_))
    exact Kg (r17, (mset known_5 (namep (l.getD v13_7.toNat default)) true), v13_7, (v13_7 + 1)) [0, 3, 4] ⟨(q3 hM8 (by simp only [vd_duplicate_Block_L0, h15, h24, h26, cs4])), aM1, aM1, aM1, aM1, aM1⟩
   intro h26
   have g29 := df h26
   refine KS ?_
   refine Oq Vm (Oq Vm (Oq (VldA sh44 0) ?_))
   refine JO_call [2, 5] rfl rfl rfl (OpC.clo («as» := [(.agg #[.string (bs ((l.getD v13_7.toNat default).Name)), vl a18 k19 ((l.getD v13_7.toNat default).Stmts)] : Value)] ++ nameC) rfl rfl hnamec rfl (by simp)) (hnameF (l.getD v13_7.toNat default) a18 k19 pre) rfl fun _ he30 => ?_
   refine Ost (Smp [3] mt99 (kStr un9) true (ek := vstr) (ev := vb) (ok := okStr) (key := (namep (l.getD v13_7.toNat default))) pre) (KS ?_)
   refine Oq Vadd (Oq Vm (KS ?_))
   exact Kg (r17, (mset known_5 (namep (l.getD v13_7.toNat default)) true), at__6, (v13_7 + 1)) [0, 3, 4] ⟨(q3 hM8 (by simp only [vd_duplicate_Block_L0, h15, h24, h26, cs4])), aM1, aM1, aM1, aM1, aM1⟩
  intro h24
  refine Osk (Osk (Oq Vpf (KS ?_)))
  refine Kf (KS ?_)
  refine Oq Vm (Oq Vm (Oq (VldA sh44 0) ?_))
  refine JO_call [2, 5] rfl rfl rfl (OpC.clo («as» := [(.agg #[.string (bs ((l.getD v13_7.toNat default).Name)), vl a18 k19 ((l.getD v13_7.toNat default).Stmts)] : Value)] ++ nameC) rfl rfl hnamec rfl (by simp)) (hnameF (l.getD v13_7.toNat default) a18 k19 pre) rfl fun _ he32 => ?_
  refine Ost (Smp [3] mt99 (kStr un9) true (ek := vstr) (ev := vb) (ok := okStr) (key := (namep (l.getD v13_7.toNat default))) pre) (KS ?_)
  refine Oq Vadd (Oq Vm (KS ?_))
  exact Kg (r17, (mset known_5 (namep (l.getD v13_7.toNat default)) true), at__6, (v13_7 + 1)) [0, 3, 4] ⟨(q3 hM8 (by simp only [vd_duplicate_Block_L0, h15, h24, cs4])), aM1, aM1, aM1, aM1, aM1⟩
 intro h15
 have g33 := df h15
 obtain rfl : r4 = 0 := by omega
 refine Ke ?_
 have hR34 := q2 hM8 (known_5, at__6) (by simp only [vd_duplicate_Block_L0, h15, cs4])
 refine KS ?_
 refine Oq Vm (Oq Vm (Oq Va (Oq Va (KS ?_))))
 have hq := q4 hrr (at__6, known_5) (by simp only [vd_duplicate_Block, h15, hR34, cs4]); subst hq
 exact Kr (mv b3) rfl (.tmp rfl (.tmp rfl .nil)) [0] en
theorem fn91 (b : GBlock) (ba1 : Option Addr) (bk1 : Nat) (hb_0 : b.Name.b.length ≤ 140737488355328) (rr : Str) (hrr : vd_function_1 b = rr) : FT Tryz.prog 91 #[.agg #[.string (bs b.Name), vl ba1 bk1 b.Stmts]] [S ba1 bk1 b.Stmts] (fun g : Unit => rr.b.length ≤ 140737488355328) (fun g => .string (bs rr)) (fun g => []) := by
 refine FTi Tryz.func91 fun w0 M0 F0 => Fb 72 0 fun _ => ?_
 refine KS ?_
 refine Oa (Ab [.string (bs b.Name), vl ba1 bk1 b.Stmts]) fun p2 => Oq Va (KS ?_)
 refine Oq (Vfa fo44_0 0) (Oq (VldF sh9 0) (Oq Va (KS ?_)))
 have hq := q4 hrr b.Name (by simp only [vd_function_1, cs4]); subst hq
 exact Kr () rfl (.tmp rfl .nil) [] en
theorem fn119 (s : GStmt) (sa2 : Option Addr) (sk2 : Nat) (sa3 : Option Addr) (sk3 : Nat) (hs_0 : i64ok s.Op) (hs_1 : s.Def.b.length ≤ 140737488355328) (rr : Bool) (hrr : vd_terminator s = rr) : FT Tryz.prog 119 #[.agg #[vi s.Op, .string (bs s.Def), vl sa2 sk2 s.Uses, vl sa3 sk3 s.Targets]] [S sa2 sk2 s.Uses, S sa3 sk3 s.Targets] (fun g : Unit => True) (fun g => vb rr) (fun g => []) := by
 refine FTi Tryz.func119 fun w0 M0 F0 => ?_
 unfold i64ok at hs_0
 refine Fb 16 0 fun _ => ?_
 refine FoS 0 fun ho2 => ?_
 refine Fb 16 1 fun _ => ?_
 refine FoS 1 fun ho4 => ?_
 refine KS ?_
 refine Oa (Ab [vi s.Op, .string (bs s.Def), vl sa2 sk2 s.Uses, vl sa3 sk3 s.Targets]) fun p5 => Oq Va (KS ?_)
 refine Oq (Vfa fo47_0 0) (Oq (VldF sh3 0) (Oq Veql (Oq Vm ?_)))
 refine Js 6 ?_ ?_
 ·intro h6
  have g7 := eq_of_beq h6
  refine Osk (Osk (Osk (Oq Vpt (Oq Vm (Osk (Osk (Osk (Oq Vpt (Oq Va ?_)))))))))
  refine KS ?_
  have hq := q4 hrr true (by simp only [vd_terminator, h6, cs4]); subst hq
  exact Kr () rfl (.tmp rfl .nil) [] trivial
 intro h6
 have g8 := ne_of_beq_false h6
 refine Oq (Vfa fo47_0 0) (Oq (VldF sh3 0) (Oq Veql (Oq Vpf (Oq Vm ?_))))
 refine Js 11 ?_ ?_
 ·intro h9
  have g10 := eq_of_beq h9
  refine Osk (Osk (Osk (Oq Vpt (Oq Va (KS ?_)))))
  have hq := q4 hrr true (by simp only [vd_terminator, h6, h9, cs4]); subst hq
  exact Kr () rfl (.tmp rfl .nil) [] trivial
 intro h9
 have g11 := ne_of_beq_false h9
 refine Oq (Vfa fo47_0 0) (Oq (VldF sh3 0) (Oq Veql (Oq Vpf (Oq Va (KS ?_)))))
 have hq := q4 hrr (s.Op == 9) (by simp only [vd_terminator, h6, h9, cs4]); subst hq
 exact Kr () rfl (.tmp rfl .nil) [] trivial
theorem fn92 (s : GStmt) (sa2 : Option Addr) (sk2 : Nat) (sa3 : Option Addr) (sk3 : Nat) (last : Bool) (knownP : Value) (known : List (Str × Bool)) (hs_0 : i64ok s.Op) (hs_1 : s.Def.b.length ≤ 140737488355328) (rr : Int) (hrr : vd_statement s last known = rr) : FT Tryz.prog 92 #[.agg #[vi s.Op, .string (bs s.Def), vl sa2 sk2 s.Uses, vl sa3 sk3 s.Targets], vb last, knownP] [S sa2 sk2 s.Uses, S sa3 sk3 s.Targets, Mp vstr vb okStr knownP known] (fun g : Unit => i64ok rr) (fun g => vi rr) (fun g => [Mp vstr vb okStr knownP known]) := by
 refine FTi Tryz.func92 fun w0 M0 F0 => ?_
 unfold i64ok at hs_0
 refine Fb 16 0 fun _ => ?_
 refine FoS 0 fun ho2 => ?_
 refine Fb 16 1 fun _ => ?_
 refine FoS 1 fun ho4 => ?_
 refine KS ?_
 refine Oa (Ab [vi s.Op, .string (bs s.Def), vl sa2 sk2 s.Uses, vl sa3 sk3 s.Targets]) fun p5 => Oq Va (KS ?_)
 refine Oq (VldA sh47 0) ?_
 refine letv (vd_terminator s) fun rv6 hg7 => ?_
 have hc8 := fn119 s sa2 sk2 sa3 sk3 pre pre rv6 hg7
 refine Oc [1, 2] ca119 hc8 ?_
 rintro - -
 refine Oq Vm (Oq (Vnb un4) (KS ?_))
 refine Kc ?_ ?_
 ·intro h9
  refine KS ?_
  refine Oq Va (KS ?_)
  have hq := q4 hrr 4 (by simp only [vd_statement, h9, hg7, cs4]); subst hq
  exact Kr () rfl (.tmp rfl .nil) [3] en
 intro h9
 refine KS ?_
 refine Oq (Vfa fo47_3 0) (Oq (VldF sh45 0) (Oq (Vlen sl45) (Oq Vm (KS ?_))))
 refine Kl (γ := Nat × Int) (fun (r12, v16_13) => ⟨[(2, knownP), (14, vl sa3 sk3 s.Targets), (15, vi (s.Targets.length : Int)), (16, vi v16_13)], [S sa3 sk3 s.Targets, Mp vstr vb okStr knownP known], vd_statement_L0 s known r12 v16_13 = vd_statement_L0 s known (((s.Targets.length : Int) - 0).toNat) 0 ∧ r12 = ((s.Targets.length : Int) - v16_13).toNat ∧ (0 : Int) ≤ v16_13 ∧ v16_13 ≤ (s.Targets.length : Int) ∧ (-9223372036854775808 ≤ v16_13 ∧ v16_13 ≤ 9223372036854775807), r12⟩) (((s.Targets.length : Int) - 0).toNat, 0) [2, 3] ⟨rfl, rfl, aM1, aM1, aM1⟩ ?_
 rintro ⟨r12, v16_13⟩ ⟨hM14, hr15, hi16, hi17, hk18⟩
 refine JJ_nx fun _ _ hL hA => ?_; dsimp only at hL hA; subst hL hA
 refine Fb 16 0 fun _ => ?_
 refine FoS 0 fun ho20 => ?_
 refine KS ?_
 refine Oq Vlss (KS ?_)
 refine Kc ?_ ?_
 ·intro h21
  have g22 := dt h21
  obtain ⟨r23, rfl⟩ := scc (n := r12) aM1
  refine KS ?_
  refine Oq (Vi sl45 0) ?_
  have hb24 := okS (i := v16_13.toNat) ho20 rng
  refine Oq (VldS sh9 0) (Oq Va (KS ?_))
  refine Oq Vm (Oq Vm (Oq (Vmk1 1 false mt99 (kStr un9) ze4 (ek := vstr) (ev := vb) (ok := okStr) (key := (s.Targets.getD v16_13.toNat default)) pre) (Oq Vnot (KS ?_))))
  refine Kc ?_ ?_
  ·intro h25
   have h27 := not_true h25
   refine KS ?_
   refine Oq Va (KS ?_)
   have hR29 := q2 hM14 (.ret 5) (by simp only [vd_statement_L0, h9, h21, h25, h27, hg7, cs4])
   have hq := q4 hrr 5 (by simp only [vd_statement, h9, h21, h25, h27, hg7, hR29, cs4]); subst hq
   exact Kr () rfl (.tmp rfl .nil) [1] en
  intro h25
  have h31 := not_false h25
  refine KS ?_
  refine Oq Vadd (Oq Vm (KS ?_))
  exact Kg (r23, (v16_13 + 1)) [0, 1] ⟨(q3 hM14 (by simp only [vd_statement_L0, h9, h21, h25, h31, hg7, cs4])), aM1, aM1, aM1, aM1⟩
 intro h21
 have g33 := df h21
 obtain rfl : r12 = 0 := by omega
 refine Ke ?_
 have hR34 := q2 hM14 (.brk ()) (by simp only [vd_statement_L0, h9, h21, hg7, cs4])
 refine KS ?_
 refine Oq Va (KS ?_)
 have hq := q4 hrr 0 (by simp only [vd_statement, h9, h21, hg7, hR34, cs4]); subst hq
 exact Kr () rfl (.tmp rfl .nil) [1] en
theorem fn64 (f : GFunc) (fa1 : Option Addr) (fk1 : Nat) (i : Int) (funcsP : Value) (funcs : List (Str × Bool)) (hf_0 : f.Name.b.length ≤ 140737488355328) (hi_0 : i64ok i) (rr : GNode × Int) (hrr : vd_function f i funcs = rr) : FT Tryz.prog 64 #[.agg #[.string (bs f.Name), vl fa1 fk1 f.Blocks], vi i, funcsP] [S fa1 fk1 f.Blocks, Mp vstr vb okStr funcsP funcs] (fun g : Unit => i64ok rr.1.Kind ∧ i64ok rr.1.Func ∧ i64ok rr.1.Block ∧ i64ok rr.1.Stmt ∧ i64ok rr.2) (fun g => .tuple #[.agg #[vi rr.1.Kind, vi rr.1.Func, vi rr.1.Block, vi rr.1.Stmt], vi rr.2]) (fun g => [Mp vstr vb okStr funcsP funcs]) := by
 refine FTi Tryz.func64 fun w0 M0 F0 => ?_
 unfold i64ok at hi_0
 refine Fb 40 0 fun _ => KS ?_
 refine Oa (Ab [.string (bs f.Name), vl fa1 fk1 f.Blocks]) fun p2 => Oa (Al ze27 [vi 0, vi 0, vi 0, vi 0]) fun p3 => Oq Va (KS ?_)
 refine Oq (Vfa fo41_1 1) (Oq (VldF sh39 1) ?_)
 refine JJ_ent (Ent.pall [] rfl rfl) ?_
 refine letv (vd_duplicate_Block f.Blocks (fun x0 => vd_function_1 x0)) fun rv5 hg6 => ?_
 have hc7 := fn90 f.Blocks fa1 fk1 91 [] (fun x0 => vd_function_1 x0) [] ca91 (fun x0 a0 k0 hq0 => FT_pall (A1 := _) (fn91 x0 a0 k0  hq0 _ rfl)) rv5 hg6
 refine Oc [3, 0] ca90 hc7 ?_
 rintro c4 he8
 unfold i64ok at he8
 refine Jom 0 ?_; rintro b9 rfl
 refine Oq Vm (Oq Vx (Oq Vx (Oq Va (Oq Va (KS ?_)))))
 refine Oq Vm (Oq Vgeq (KS ?_))
 refine Kc ?_ ?_
 ·intro h10
  have g11 := dt h10
  refine KS ?_
  refine Oq Vm (Oq Vm (Oq (Vbd st27 [vi 3, vi i, vi rv5.1, vi (-1)]) (Ost (Scl [2] sh27 [vi 3, vi i, vi rv5.1, vi (-1)]) (Oq Va (KS ?_)))))
  have hq := q4 hrr ((GNode.mk 3 i rv5.1 (-1)), 6) (by simp only [vd_function, h10, hg6, cs4]); subst hq
  exact Kr () rfl (.cellN 0 rfl sh27 rfl (reads_Cl _ _) rfl (.tmp rfl .nil)) [5] en
 intro h10
 have g12 := df h10
 refine KS ?_
 refine Oq (Vfa fo41_1 3) (Oq (VldF sh39 3) (Oq (Vlen sl39) (Oq Vm (KS ?_))))
 refine Kl (γ := Nat × Int) (fun (r13, v30_14) => ⟨[(1, vi i), (2, funcsP), (6, p3), (9, (mv b9)), (28, vl fa1 fk1 f.Blocks), (29, vi (f.Blocks.length : Int)), (30, vi v30_14)], [Mp vstr vb okStr (mv b9) rv5.2, pAll [], Cl p3 [vi 0, vi 0, vi 0, vi 0], S fa1 fk1 f.Blocks, Mp vstr vb okStr funcsP funcs], vd_function_L0 f i funcs rv5.2 r13 v30_14 = vd_function_L0 f i funcs rv5.2 (((f.Blocks.length : Int) - 0).toNat) 0 ∧ r13 = ((f.Blocks.length : Int) - v30_14).toNat ∧ (0 : Int) ≤ v30_14 ∧ v30_14 ≤ (f.Blocks.length : Int) ∧ (-9223372036854775808 ≤ v30_14 ∧ v30_14 ≤ 9223372036854775807), r13⟩) (((f.Blocks.length : Int) - 0).toNat, 0) [0, 0, 1, 2, 3] ⟨rfl, rfl, aM1, aM1, aM1⟩ ?_
 rintro ⟨r13, v30_14⟩ ⟨hM15, hr16, hi17, hi18, hk19⟩
 refine JJ_nx fun _ _ hL hA => ?_; dsimp only at hL hA; subst hL hA
 refine Fb 40 3 fun _ => KS ?_
 refine Oq Vlss (KS ?_)
 refine Kc ?_ ?_
 ·intro h21
  have g22 := dt h21
  obtain ⟨r23, rfl⟩ := scc (n := r13) aM1
  refine KS ?_
  refine Oq Vm (Oq (Vi sl39 3) ?_)
  refine JJ_peek_GBlock v30_14.toNat 3 rfl rng fun a24 k25 hb26 => ?_
  refine Fb 72 1 fun _ => ?_
  refine Oq (VldA sh44 0) (Oa (Al ze44 [.string (bs (Str.mk [])), .slice none 0 0]) fun p28 => Oq Va (Ost (Scl [0] sh44 [.string (bs ((f.Blocks.getD v30_14.toNat default).Name)), vl a24 k25 ((f.Blocks.getD v30_14.toNat default).Stmts)]) (KS ?_)))
  refine Oq (Vfa fo44_1 0) (Oq (VldF sh42 0) (Oq (Vlen sl42) (Oq Vm (KS ?_))))
  refine Kl (γ := Nat × Int) (fun (r29, v38_30) => ⟨[(1, vi i), (2, funcsP), (6, p3), (9, (mv b9)), (28, vl fa1 fk1 f.Blocks), (29, vi (f.Blocks.length : Int)), (30, vi v30_14), (11, p28), (10, vi v30_14), (36, vl a24 k25 ((f.Blocks.getD v30_14.toNat default).Stmts)), (37, vi (((f.Blocks.getD v30_14.toNat default).Stmts).length : Int)), (38, vi v38_30)], [Cl p28 [.string (bs ((f.Blocks.getD v30_14.toNat default).Name)), vl a24 k25 ((f.Blocks.getD v30_14.toNat default).Stmts)], S a24 k25 ((f.Blocks.getD v30_14.toNat default).Stmts), Mp vstr vb okStr (mv b9) rv5.2, pAll [], Cl p3 [vi 0, vi 0, vi 0, vi 0], S fa1 fk1 f.Blocks, Mp vstr vb okStr funcsP funcs], vd_function_L1 i funcs rv5.2 v30_14 ((f.Blocks.getD v30_14.toNat default).Stmts) ((f.Blocks.getD v30_14.toNat default).Stmts) r29 v38_30 = vd_function_L1 i funcs rv5.2 v30_14 ((f.Blocks.getD v30_14.toNat default).Stmts) ((f.Blocks.getD v30_14.toNat default).Stmts) ((((((f.Blocks.getD v30_14.toNat default).Stmts).length : Int) : Int) - 0).toNat) 0 ∧ r29 = (((((f.Blocks.getD v30_14.toNat default).Stmts).length : Int) : Int) - v38_30).toNat ∧ (0 : Int) ≤ v38_30 ∧ (v38_30 ≤ (((f.Blocks.getD v30_14.toNat default).Stmts).length : Int) ∨ v38_30 = 0) ∧ (-9223372036854775808 ≤ v38_30 ∧ v38_30 ≤ 9223372036854775807), r29⟩) ((((((f.Blocks.getD v30_14.toNat default).Stmts).length : Int) : Int) - 0).toNat, 0) [0, 1, 2, 2, 3, 3, 4] ⟨rfl, rfl, aM1, (.inr rfl), aM1⟩ ?_
  rintro ⟨r29, v38_30⟩ ⟨hM31, hr32, hi33, hi34, hk35⟩
  refine JJ_nx fun _ _ hL hA => ?_; dsimp only at hL hA; subst hL hA
  refine Fb 72 1 fun _ => Fb 40 5 fun _ => KS ?_
  refine Oq Vlss (KS ?_)
  refine Kc ?_ ?_
  ·intro h38
   have g39 := dt h38
   obtain ⟨r40, rfl⟩ := scc (n := r29) aM1
   refine KS ?_
   refine Oq Vm (Oq (Vi sl42 1) ?_)
   refine JJ_peek_GStmt v38_30.toNat 1 rfl rng fun a41 k42 a43 k44 hb45 hb46 => ?_
   unfold i64ok at hb45
   refine Fb 16 1 fun _ => ?_
   refine FoS 1 fun ho48 => ?_
   refine Fb 16 2 fun _ => ?_
   refine FoS 2 fun ho50 => ?_
   refine Oq (VldA sh47 0) (Oa (Al ze47 [vi 0, .string (bs (Str.mk [])), .slice none 0 0, .slice none 0 0]) fun p51 => Oq Va (Ost (Scl [0] sh47 [vi ((((f.Blocks.getD v30_14.toNat default).Stmts).getD v38_30.toNat default).Op), .string (bs ((((f.Blocks.getD v30_14.toNat default).Stmts).getD v38_30.toNat default).Def)), .slice a41 (((((f.Blocks.getD v30_14.toNat default).Stmts).getD v38_30.toNat default).Uses).length) k42, .slice a43 (((((f.Blocks.getD v30_14.toNat default).Stmts).getD v38_30.toNat default).Targets).length) k44]) (KS ?_)))
   refine Oq Vm (Oq Va (KS ?_))
   refine Oq (Vfa fo47_0 0) (Oq (VldF sh3 0) (Oq Veql (KS ?_)))
   refine Kc ?_ ?_
   ·intro h52
    have g53 := eq_of_beq h52
    refine KS ?_
    refine Oq Vm (Oq Va (KS ?_))
    refine Oq (VldA sh47 0) (Oq Vm (Oq (Vfa fo44_1 4) (Oq (VldF sh42 4) (Oq (Vlen sl42) (Oq Vsub (Oq Veql (Oq Vm ?_)))))))
    refine letv (vd_statement (((f.Blocks.getD v30_14.toNat default).Stmts).getD v38_30.toNat default) (v38_30 == ((((f.Blocks.getD v30_14.toNat default).Stmts).length : Int) - 1)) funcs) fun rv54 hg55 => ?_
    have hc56 := fn92 ((((f.Blocks.getD v30_14.toNat default).Stmts).getD v38_30.toNat default)) a41 k42 a43 k44 ((v38_30 == ((((f.Blocks.getD v30_14.toNat default).Stmts).length : Int) - 1))) funcsP funcs pre pre rv54 hg55
    refine Oc [2, 3, 10] ca92 hc56 ?_
    rintro - he57
    unfold i64ok at he57
    refine Oq Va (KS ?_)
    refine Oq Vm (Oq Vneq (KS ?_))
    refine Kc ?_ ?_
    ·intro h58
     have g59 := ne_of_bne h58
     refine KS ?_
     refine Oq Vm (Oq Vm (Oq Vm (Oq (Vbd st27 [vi 3, vi i, vi v30_14, vi v38_30]) (Oq Vm (Ost (Scl [9] sh27 [vi 3, vi i, vi v30_14, vi v38_30]) (Oq Va (KS ?_)))))))
     have hR60 := q2 hM31 (.ret ((GNode.mk 3 i v30_14 v38_30), rv54)) (by simp only [vd_function_L1, h10, h21, h38, h52, h58, hg6, hg55, cs4])
     have hR61 := q2 hM15 (.ret ((GNode.mk 3 i v30_14 v38_30), rv54)) (by simp only [vd_function_L0, h10, h21, h38, h52, h58, hg6, hg55, hR60, cs4])
     have hq := q4 hrr ((GNode.mk 3 i v30_14 v38_30), rv54) (by simp only [vd_function, h10, h21, h38, h52, h58, hg6, hg55, hR60, hR61, cs4]); subst hq
     exact Kr () rfl (.cellN 0 rfl sh27 rfl (reads_Cl _ _) rfl (.tmp rfl .nil)) [1] en
    intro h58
    have g62 := eq_of_bne_false h58
    refine KS ?_
    refine Oq Vadd (Oq Vm (KS ?_))
    exact Kg (r40, (v38_30 + 1)) [5, 5, 6, 6, 7, 7, 0] ⟨(q3 hM31 (by simp only [vd_function_L1, h10, h21, h38, h52, h58, hg6, hg55, cs4])), aM1, aM1, aM1, aM1⟩
   intro h52
   have g63 := ne_of_beq_false h52
   refine KS ?_
   refine Oq (VldA sh47 0) (Oq Vm (Oq (Vfa fo44_1 4) (Oq (VldF sh42 4) (Oq (Vlen sl42) (Oq Vsub (Oq Veql (Oq Vm ?_)))))))
   refine letv (vd_statement (((f.Blocks.getD v30_14.toNat default).Stmts).getD v38_30.toNat default) (v38_30 == ((((f.Blocks.getD v30_14.toNat default).Stmts).length : Int) - 1)) rv5.2) fun rv64 hg65 => ?_
   have hc66 := fn92 ((((f.Blocks.getD v30_14.toNat default).Stmts).getD v38_30.toNat default)) a41 k42 a43 k44 ((v38_30 == ((((f.Blocks.getD v30_14.toNat default).Stmts).length : Int) - 1))) (mv b9) rv5.2 pre pre rv64 hg65
   refine Oc [2, 3, 6] ca92 hc66 ?_
   rintro - he67
   unfold i64ok at he67
   refine Oq Va (KS ?_)
   refine Oq Vm (Oq Vneq (KS ?_))
   refine Kc ?_ ?_
   ·intro h68
    have g69 := ne_of_bne h68
    refine KS ?_
    refine Oq Vm (Oq Vm (Oq Vm (Oq (Vbd st27 [vi 3, vi i, vi v30_14, vi v38_30]) (Oq Vm (Ost (Scl [8] sh27 [vi 3, vi i, vi v30_14, vi v38_30]) (Oq Va (KS ?_)))))))
    have hR70 := q2 hM31 (.ret ((GNode.mk 3 i v30_14 v38_30), rv64)) (by simp only [vd_function_L1, h10, h21, h38, h52, h68, hg6, hg65, cs4])
    have hR71 := q2 hM15 (.ret ((GNode.mk 3 i v30_14 v38_30), rv64)) (by simp only [vd_function_L0, h10, h21, h38, h52, h68, hg6, hg65, hR70, cs4])
    have hq := q4 hrr ((GNode.mk 3 i v30_14 v38_30), rv64) (by simp only [vd_function, h10, h21, h38, h52, h68, hg6, hg65, hR70, hR71, cs4]); subst hq
    exact Kr () rfl (.cellN 0 rfl sh27 rfl (reads_Cl _ _) rfl (.tmp rfl .nil)) [10] en
   intro h68
   have g72 := eq_of_bne_false h68
   refine KS ?_
   refine Oq Vadd (Oq Vm (KS ?_))
   exact Kg (r40, (v38_30 + 1)) [5, 5, 0, 5, 6, 6, 7] ⟨(q3 hM31 (by simp only [vd_function_L1, h10, h21, h38, h52, h68, hg6, hg65, cs4])), aM1, aM1, aM1, aM1⟩
  intro h38
  have g73 := df h38
  obtain rfl : r29 = 0 := by omega
  refine Ke ?_
  have hR74 := q2 hM31 (.brk ()) (by simp only [vd_function_L1, h10, h21, h38, hg6, cs4])
  refine KS ?_
  refine Oq Vadd (Oq Vm (KS ?_))
  exact Kg (r23, (v30_14 + 1)) [2, 2, 3, 3, 4] ⟨(q3 hM15 (by simp only [vd_function_L0, h10, h21, h38, hg6, hR74, cs4])), aM1, aM1, aM1, aM1⟩
 intro h21
 have g75 := df h21
 obtain rfl : r13 = 0 := by omega
 refine Ke ?_
 have hR76 := q2 hM15 (.brk ()) (by simp only [vd_function_L0, h10, h21, hg6, cs4])
 refine KS ?_
 refine Oq (Vbd st27 [vi 0, vi 0, vi 0, vi 0]) (Ost (Scl [2] sh27 [vi 0, vi 0, vi 0, vi 0]) (Oq Va (KS ?_)))
 have hq := q4 hrr ((GNode.mk 0 0 0 0), 0) (by simp only [vd_function, h10, h21, hg6, hR76, cs4]); subst hq
 exact Kr () rfl (.cellN 0 rfl sh27 rfl (reads_Cl _ _) rfl (.tmp rfl .nil)) [4] en
theorem fn93 (s : GStmt) (sa2 : Option Addr) (sk2 : Nat) (sa3 : Option Addr) (sk3 : Nat) (cap0P : Value) (cap0 : Int) (cap1P : Value) (cap1 : Int) (hs_0 : i64ok s.Op) (hs_1 : s.Def.b.length ≤ 140737488355328) (hcap0_0 : i64ok cap0) (hcap1_0 : i64ok cap1) (hn : 0 ≤ cap0 ∧ cap0 ≤ 100000 ∧ 0 ≤ cap1 ∧ cap1 ≤ 100000) (rr : Int × Int) (hrr : vd_Sizes_1 s cap0 cap1 = rr) : FT Tryz.prog 93 #[.agg #[vi s.Op, .string (bs s.Def), vl sa2 sk2 s.Uses, vl sa3 sk3 s.Targets], cap0P, cap1P] [S sa2 sk2 s.Uses, S sa3 sk3 s.Targets, Cl cap0P [vi cap0], Cl cap1P [vi cap1]] (fun g : Unit => i64ok rr.1 ∧ i64ok rr.2 ∧ (cap0 ≤ rr.1 ∧ rr.1 ≤ cap0 + 2 ∧ cap1 ≤ rr.2 ∧ rr.2 ≤ cap1 + 3)) (fun g => .tuple #[]) (fun g => [Cl cap0P [vi rr.1], Cl cap1P [vi rr.2]]) := by
 refine FTi Tryz.func93 fun w0 M0 F0 => ?_
 unfold i64ok at hs_0 hcap0_0 hcap1_0
 refine Fb 16 0 fun _ => ?_
 refine FoS 0 fun ho2 => ?_
 refine Fb 16 1 fun _ => ?_
 refine FoS 1 fun ho4 => ?_
 refine KS ?_
 refine Oa (Ab [vi s.Op, .string (bs s.Def), vl sa2 sk2 s.Uses, vl sa3 sk3 s.Targets]) fun p5 => KS ?_
 refine Oq (Vld sh3 3) (Oq Vadd (Ost (Scl [3] sh3 [vi (cap0 + 1)]) (KS ?_)))
 refine Oq (Vfa fo47_0 1) (Oq (VldF sh3 1) (KS ?_))
 refine Oq Veql (Oq Va (KS ?_))
 refine Kc ?_ ?_
 ·intro h6
  have g7 := eq_of_beq h6
  refine KS ?_
  refine Oq (Vld sh3 0) (Oq Vadd (Ost (Scl [0] sh3 [vi ((cap0 + 1) + 1)]) (KS ?_)))
  refine Oq (Vld sh3 4) (Oq Vadd (Ost (Scl [4] sh3 [vi (cap1 + 3)]) (KS ?_)))
  have hq := q4 hrr (((cap0 + 1) + 1), (cap1 + 3)) (by simp only [vd_Sizes_1, h6, cs4]); subst hq
  exact Kz () rfl .nil [1, 0] en
 intro h6
 have g8 := ne_of_beq_false h6
 refine KS ?_
 refine Oq Veql (Oq Va (KS ?_))
 refine Kc ?_ ?_
 ·intro h9
  have g10 := eq_of_beq h9
  refine KS ?_
  refine Oq (Vld sh3 4) (Oq Vadd (Ost (Scl [4] sh3 [vi (cap1 + 2)]) (KS ?_)))
  have hq := q4 hrr ((cap0 + 1), (cap1 + 2)) (by simp only [vd_Sizes_1, h6, h9, cs4]); subst hq
  exact Kz () rfl .nil [1, 0] en
 intro h9
 have g11 := ne_of_beq_false h9
 refine KS ?_
 refine Oq (Vld sh3 4) (Oq Vadd (Ost (Scl [4] sh3 [vi (cap1 + 1)]) (KS ?_)))
 have hq := q4 hrr ((cap0 + 1), (cap1 + 1)) (by simp only [vd_Sizes_1, h6, h9, cs4]); subst hq
 exact Kz () rfl .nil [1, 0] en
theorem fn67m0 (p : GProgram) (pa0 : Option Addr) (pk0 : Nat) (st0P : Value) (st0 : Int) (st1P : Value) (st1 : Int) (kwLA : Option Addr) (kwLK : Nat) (hst0_0 : i64ok st0) (hst1_0 : i64ok st1) (hps : PSm p = true) (hn : 0 ≤ st0 ∧ st0 ≤ 100 ∧ 0 ≤ st1 ∧ st1 ≤ 100) (rr : Int × Int) (hrr : vd_each_Sizes_1 p st0 st1 = rr) : FT Tryz.prog 67 #[.agg #[vl pa0 pk0 p.Funcs], .func (.func 93) #[] #[st0P, st1P]] [S pa0 pk0 p.Funcs, Cl st0P [vi st0], Cl st1P [vi st1], pv (gp 0) [vl kwLA kwLK kwL], S kwLA kwLK kwL] (fun g : Unit => i64ok rr.1 ∧ i64ok rr.2 ∧ (0 ≤ rr.1 ∧ rr.1 ≤ 10000 ∧ 0 ≤ rr.2 ∧ rr.2 ≤ 20000)) (fun g => .tuple #[]) (fun g => [Cl st0P [vi rr.1], Cl st1P [vi rr.2]]) := by
 refine FTi Tryz.func67 fun w0 M0 F0 => ?_
 unfold i64ok at hst0_0 hst1_0
 refine Fb 40 0 fun _ => Fb 16 4 fun _ => ?_
 refine FoS 4 fun ho3 => ?_
 refine KS ?_
 refine Oa (Ab [vl pa0 pk0 p.Funcs]) fun p4 => KS ?_
 refine Oq (VldA sh25 0) ?_
 refine letv (sx_Valid p) fun rv5 hg6 => ?_
 have hc7 := fn61 p pa0 pk0 kwLA kwLK pre rv5 hg6
 refine Oc [1, 4, 5] ca61 hc7 ?_
 rintro - -
 refine Oq Vnot (KS ?_)
 refine Kc ?_ ?_
 ·intro h8
  have h10 := not_true h8
  have hq := q4 hrr (st0, st1) (by simp only [vd_each_Sizes_1, h8, h10, hg6, cs4]); subst hq
  exact Kr () rfl .nil [2, 2] en
 intro h8
 have h13 := not_false h8
 try have hVb := SVal_b (p := p) (by simp only [h8, h13, hg6])
 refine KS ?_
 refine Oq (Vfa fo25_0 0) (Oq (VldF sh23 0) (Oq (Vlen sl23) (Oq Vm (KS ?_))))
 refine Kl (γ := Nat × Int × Int × Int) (fun (r15, st00_16, st10_17, v16_18) => ⟨[(1, .func (.func 93) #[] #[st0P, st1P]), (14, vl pa0 pk0 p.Funcs), (15, vi (p.Funcs.length : Int)), (16, vi v16_18)], [S pa0 pk0 p.Funcs, Cl st0P [vi st00_16], Cl st1P [vi st10_17], pv (gp 0) [vl kwLA kwLK kwL], S kwLA kwLK kwL], vd_each_Sizes_1_L0 p r15 st00_16 st10_17 v16_18 = vd_each_Sizes_1_L0 p (((p.Funcs.length : Int) - 0).toNat) st0 st1 0 ∧ r15 = ((p.Funcs.length : Int) - v16_18).toNat ∧ (0 : Int) ≤ v16_18 ∧ v16_18 ≤ (p.Funcs.length : Int) ∧ (-9223372036854775808 ≤ st00_16 ∧ st00_16 ≤ 9223372036854775807) ∧ (-9223372036854775808 ≤ st10_17 ∧ st10_17 ≤ 9223372036854775807) ∧ (-9223372036854775808 ≤ v16_18 ∧ v16_18 ≤ 9223372036854775807) ∧ (0 ≤ st00_16 ∧ st00_16 ≤ 100 + 1100 * v16_18) ∧ (0 ≤ st10_17 ∧ st10_17 ≤ 100 + 1600 * v16_18), r15⟩) (((p.Funcs.length : Int) - 0).toNat, st0, st1, 0) [1, 2, 2, 2, 3] ⟨rfl, rfl, aM1, aM1, aM1, aM1, aM1, iv0, iv0⟩ ?_
 rintro ⟨r15, st00_16, st10_17, v16_18⟩ ⟨hM19, hr20, hi21, hi22, hk23, hk24, hk25, hv26, hv27⟩
 refine JJ_nx fun _ _ hL hA => ?_; dsimp only at hL hA; subst hL hA
 refine Fb 40 0 fun _ => Fb 16 4 fun _ => ?_
 refine FoS 4 fun ho30 => ?_
 refine KS ?_
 refine Oq Vlss (KS ?_)
 refine Kc ?_ ?_
 ·intro h31
  have g32 := dt h31
  have hVf := hVb.2 v16_18.toNat
  obtain ⟨r33, rfl⟩ := scc (n := r15) aM1
  refine KS ?_
  refine Oq (Vi sl23 0) ?_
  refine JJ_peek_GFunc v16_18.toNat 0 rfl rng fun a34 k35 hb36 => ?_
  refine Fb 40 1 fun _ => ?_
  refine Oq (VldA sh41 0) (Oa (Al ze41 [.string (bs (Str.mk [])), .slice none 0 0]) fun p38 => Ost (Scl [0] sh41 [.string (bs ((p.Funcs.getD v16_18.toNat default).Name)), vl a34 k35 ((p.Funcs.getD v16_18.toNat default).Blocks)]) (KS ?_))
  refine Oq (Vfa fo41_1 0) (Oq (VldF sh39 0) (Oq (Vlen sl39) (Oq Vm (KS ?_))))
  refine Kl (γ := Nat × Int × Int × Int) (fun (r39, st00_40, st10_41, v23_42) => ⟨[(1, .func (.func 93) #[] #[st0P, st1P]), (14, vl pa0 pk0 p.Funcs), (15, vi (p.Funcs.length : Int)), (16, vi v16_18), (21, vl a34 k35 ((p.Funcs.getD v16_18.toNat default).Blocks)), (22, vi (((p.Funcs.getD v16_18.toNat default).Blocks).length : Int)), (23, vi v23_42)], [S a34 k35 ((p.Funcs.getD v16_18.toNat default).Blocks), S pa0 pk0 p.Funcs, Cl st0P [vi st00_40], Cl st1P [vi st10_41], pv (gp 0) [vl kwLA kwLK kwL], S kwLA kwLK kwL], vd_each_Sizes_1_L1 ((p.Funcs.getD v16_18.toNat default).Blocks) r39 st00_40 st10_41 v23_42 = vd_each_Sizes_1_L1 ((p.Funcs.getD v16_18.toNat default).Blocks) ((((((p.Funcs.getD v16_18.toNat default).Blocks).length : Int) : Int) - 0).toNat) st00_16 st10_17 0 ∧ r39 = (((((p.Funcs.getD v16_18.toNat default).Blocks).length : Int) : Int) - v23_42).toNat ∧ (0 : Int) ≤ v23_42 ∧ (v23_42 ≤ (((p.Funcs.getD v16_18.toNat default).Blocks).length : Int) ∨ v23_42 = 0) ∧ (-9223372036854775808 ≤ st00_40 ∧ st00_40 ≤ 9223372036854775807) ∧ (-9223372036854775808 ≤ st10_41 ∧ st10_41 ≤ 9223372036854775807) ∧ (-9223372036854775808 ≤ v23_42 ∧ v23_42 ≤ 9223372036854775807) ∧ (0 ≤ st00_40 ∧ st00_40 ≤ st00_16 + 66 * v23_42) ∧ (0 ≤ st10_41 ∧ st10_41 ≤ st10_17 + 98 * v23_42), r39⟩) ((((((p.Funcs.getD v16_18.toNat default).Blocks).length : Int) : Int) - 0).toNat, st00_16, st10_17, 0) [2, 3, 4, 4, 4, 5] ⟨rfl, rfl, aM1, (.inr rfl), aM1, aM1, aM1, iv0, iv0⟩ ?_
  rintro ⟨r39, st00_40, st10_41, v23_42⟩ ⟨hM43, hr44, hi45, hi46, hk47, hk48, hk49, hv50, hv51⟩
  refine JJ_nx fun _ _ hL hA => ?_; dsimp only at hL hA; subst hL hA
  refine Fb 40 0 fun _ => Fb 40 1 fun _ => Fb 16 5 fun _ => ?_
  refine FoS 5 fun ho55 => ?_
  refine KS ?_
  refine Oq Vlss (KS ?_)
  refine Kc ?_ ?_
  ·intro h56
   have g57 := dt h56
   have hVk := hVf.2 v23_42.toNat
   obtain ⟨r58, rfl⟩ := scc (n := r39) aM1
   refine KS ?_
   refine Oq (Vi sl39 0) ?_
   refine JJ_peek_GBlock v23_42.toNat 0 rfl rng fun a59 k60 hb61 => ?_
   refine Fb 72 1 fun _ => ?_
   refine Oq (VldA sh44 0) (Oa (Al ze44 [.string (bs (Str.mk [])), .slice none 0 0]) fun p63 => Ost (Scl [0] sh44 [.string (bs ((((p.Funcs.getD v16_18.toNat default).Blocks).getD v23_42.toNat default).Name)), .slice a59 (((((p.Funcs.getD v16_18.toNat default).Blocks).getD v23_42.toNat default).Stmts).length) k60]) (KS ?_))
   refine Oq (Vfa fo44_1 0) (Oq (VldF sh42 0) (Oq (Vlen sl42) (Oq Vm (KS ?_))))
   refine Kl (γ := Nat × Int × Int × Int) (fun (r64, st00_65, st10_66, v30_67) => ⟨[(1, .func (.func 93) #[] #[st0P, st1P]), (14, vl pa0 pk0 p.Funcs), (15, vi (p.Funcs.length : Int)), (16, vi v16_18), (21, vl a34 k35 ((p.Funcs.getD v16_18.toNat default).Blocks)), (22, vi (((p.Funcs.getD v16_18.toNat default).Blocks).length : Int)), (23, vi v23_42), (28, .slice a59 (((((p.Funcs.getD v16_18.toNat default).Blocks).getD v23_42.toNat default).Stmts).length) k60), (29, vi (((((p.Funcs.getD v16_18.toNat default).Blocks).getD v23_42.toNat default).Stmts).length : Int)), (30, vi v30_67)], [S a59 k60 ((((p.Funcs.getD v16_18.toNat default).Blocks).getD v23_42.toNat default).Stmts), S a34 k35 ((p.Funcs.getD v16_18.toNat default).Blocks), S pa0 pk0 p.Funcs, Cl st0P [vi st00_65], Cl st1P [vi st10_66], pv (gp 0) [vl kwLA kwLK kwL], S kwLA kwLK kwL], vd_each_Sizes_1_L2 ((((p.Funcs.getD v16_18.toNat default).Blocks).getD v23_42.toNat default).Stmts) r64 st00_65 st10_66 v30_67 = vd_each_Sizes_1_L2 ((((p.Funcs.getD v16_18.toNat default).Blocks).getD v23_42.toNat default).Stmts) ((((((((p.Funcs.getD v16_18.toNat default).Blocks).getD v23_42.toNat default).Stmts).length : Int) : Int) - 0).toNat) st00_40 st10_41 0 ∧ r64 = (((((((p.Funcs.getD v16_18.toNat default).Blocks).getD v23_42.toNat default).Stmts).length : Int) : Int) - v30_67).toNat ∧ (0 : Int) ≤ v30_67 ∧ (v30_67 ≤ (((((p.Funcs.getD v16_18.toNat default).Blocks).getD v23_42.toNat default).Stmts).length : Int) ∨ v30_67 = 0) ∧ (-9223372036854775808 ≤ st00_65 ∧ st00_65 ≤ 9223372036854775807) ∧ (-9223372036854775808 ≤ st10_66 ∧ st10_66 ≤ 9223372036854775807) ∧ (-9223372036854775808 ≤ v30_67 ∧ v30_67 ≤ 9223372036854775807) ∧ (0 ≤ st00_65 ∧ st00_65 ≤ st00_40 + 2 * v30_67) ∧ (0 ≤ st10_66 ∧ st10_66 ≤ st10_41 + 3 * v30_67), r64⟩) ((((((((p.Funcs.getD v16_18.toNat default).Blocks).getD v23_42.toNat default).Stmts).length : Int) : Int) - 0).toNat, st00_40, st10_41, 0) [2, 3, 4, 5, 5, 5, 6] ⟨rfl, rfl, aM1, (.inr rfl), aM1, aM1, aM1, iv0, iv0⟩ ?_
   rintro ⟨r64, st00_65, st10_66, v30_67⟩ ⟨hM68, hr69, hi70, hi71, hk72, hk73, hk74, hv75, hv76⟩
   refine JJ_nx fun _ _ hL hA => ?_; dsimp only at hL hA; subst hL hA
   refine Fb 72 0 fun _ => Fb 40 1 fun _ => Fb 40 2 fun _ => Fb 16 6 fun _ => ?_
   refine FoS 6 fun ho81 => ?_
   refine KS ?_
   refine Oq Vlss (KS ?_)
   refine Kc ?_ ?_
   ·intro h82
    have g83 := dt h82
    have hVs := hVk.2 v30_67.toNat
    obtain ⟨r84, rfl⟩ := scc (n := r64) aM1
    refine KS ?_
    refine Oq (Vi sl42 0) ?_
    refine JJ_peek_GStmt v30_67.toNat 0 rfl rng fun a85 k86 a87 k88 hb89 hb90 => ?_
    unfold i64ok at hb89
    refine Fb 16 1 fun _ => ?_
    refine FoS 1 fun ho92 => ?_
    refine Fb 16 2 fun _ => ?_
    refine FoS 2 fun ho94 => ?_
    refine Oq (VldA sh47 0) (Oa (Al ze47 [vi 0, .string (bs (Str.mk [])), .slice none 0 0, .slice none 0 0]) fun p95 => Ost (Scl [0] sh47 [vi ((((((p.Funcs.getD v16_18.toNat default).Blocks).getD v23_42.toNat default).Stmts).getD v30_67.toNat default).Op), .string (bs ((((((p.Funcs.getD v16_18.toNat default).Blocks).getD v23_42.toNat default).Stmts).getD v30_67.toNat default).Def)), .slice a85 (((((((p.Funcs.getD v16_18.toNat default).Blocks).getD v23_42.toNat default).Stmts).getD v30_67.toNat default).Uses).length) k86, .slice a87 (((((((p.Funcs.getD v16_18.toNat default).Blocks).getD v23_42.toNat default).Stmts).getD v30_67.toNat default).Targets).length) k88]) (KS ?_))
    refine Oq Vm (Oq (VldA sh47 0) ?_)
    refine letv (vd_Sizes_1 (((((p.Funcs.getD v16_18.toNat default).Blocks).getD v23_42.toNat default).Stmts).getD v30_67.toNat default) st00_65 st10_66) fun rv96 hg97 => ?_
    have hc98 := fn93 ((((((p.Funcs.getD v16_18.toNat default).Blocks).getD v23_42.toNat default).Stmts).getD v30_67.toNat default)) a85 k86 a87 k88 st0P st00_65 st1P st10_66 pre pre pre pre pre rv96 hg97
    refine JO_call [2, 3, 7, 7] rfl rfl rfl (OpC.clo («as» := [(.agg #[vi ((((((p.Funcs.getD v16_18.toNat default).Blocks).getD v23_42.toNat default).Stmts).getD v30_67.toNat default).Op), .string (bs ((((((p.Funcs.getD v16_18.toNat default).Blocks).getD v23_42.toNat default).Stmts).getD v30_67.toNat default).Def)), .slice a85 (((((((p.Funcs.getD v16_18.toNat default).Blocks).getD v23_42.toNat default).Stmts).getD v30_67.toNat default).Uses).length) k86, .slice a87 (((((((p.Funcs.getD v16_18.toNat default).Blocks).getD v23_42.toNat default).Stmts).getD v30_67.toNat default).Targets).length) k88] : Value), (st0P : Value), (st1P : Value)]) rfl rfl ca93 rfl (by simp)) hc98 rfl ?_
    rintro - ⟨he99, he100, he101⟩
    unfold i64ok at he99 he100
    refine KS ?_
    refine Oq Vadd (Oq Vm (KS ?_))
    exact Kg (r84, rv96.1, rv96.2, (v30_67 + 1)) [6, 7, 8, 0, 0, 7, 8] ⟨(q3 hM68 (by simp only [vd_each_Sizes_1_L2, h8, h13, h31, h56, h82, hg6, hg97, cs4])), aM1, aM1, aM1, aM1, aM1, aM1, iv1, iv1⟩
   intro h82
   have g102 := df h82
   obtain rfl : r64 = 0 := by omega
   refine Ke ?_
   have hR103 := q2 hM68 (st00_65, st10_66) (by simp only [vd_each_Sizes_1_L2, h8, h13, h31, h56, h82, hg6, cs4])
   refine KS ?_
   refine Oq Vadd (Oq Vm (KS ?_))
   exact Kg (r58, st00_65, st10_66, (v23_42 + 1)) [1, 2, 3, 3, 3, 4] ⟨(q3 hM43 (by simp only [vd_each_Sizes_1_L1, h8, h13, h31, h56, h82, hg6, hR103, cs4])), aM1, aM1, aM1, aM1, aM1, aM1, iv1, iv1⟩
  intro h56
  have g104 := df h56
  obtain rfl : r39 = 0 := by omega
  refine Ke ?_
  have hR105 := q2 hM43 (st00_40, st10_41) (by simp only [vd_each_Sizes_1_L1, h8, h13, h31, h56, hg6, cs4])
  refine KS ?_
  refine Oq Vadd (Oq Vm (KS ?_))
  exact Kg (r33, st00_40, st10_41, (v16_18 + 1)) [1, 2, 2, 2, 3] ⟨(q3 hM19 (by simp only [vd_each_Sizes_1_L0, h8, h13, h31, h56, hg6, hR105, cs4])), aM1, aM1, aM1, aM1, aM1, aM1, iv1, iv1⟩
 intro h31
 have g106 := df h31
 obtain rfl : r15 = 0 := by omega
 refine Ke ?_
 have hR107 := q2 hM19 (st00_16, st10_17) (by simp only [vd_each_Sizes_1_L0, h8, h13, h31, hg6, cs4])
 have hq := q4 hrr (st00_16, st10_17) (by simp only [vd_each_Sizes_1, h8, h13, h31, hg6, hR107, cs4]); subst hq
 exact Kz () rfl .nil [1, 1] en
theorem fn65 (p : GProgram) (pa0 : Option Addr) (pk0 : Nat) (kwLA : Option Addr) (kwLK : Nat) (hps : PSm p = true) (rr : Int × Int) (hrr : vd_Sizes p = rr) : FT Tryz.prog 65 #[.agg #[vl pa0 pk0 p.Funcs]] [S pa0 pk0 p.Funcs, pv (gp 0) [vl kwLA kwLK kwL], S kwLA kwLK kwL] (fun g : Unit => i64ok rr.1 ∧ i64ok rr.2 ∧ (0 ≤ rr.1 ∧ rr.1 ≤ 10000 ∧ 0 ≤ rr.2 ∧ rr.2 ≤ 20000)) (fun g => .tuple #[vi rr.1, vi rr.2]) (fun g => []) := by
 refine FTi Tryz.func65 fun w0 M0 F0 => Fb 40 0 fun _ => Fb 16 2 fun _ => ?_
 refine FoS 2 fun ho3 => ?_
 refine KS ?_
 refine Oa (Ab [vl pa0 pk0 p.Funcs]) fun p4 => Oq Va (Oq Va (KS ?_))
 refine Oq (VldA sh25 0) ?_
 refine letv (sx_Valid p) fun rv5 hg6 => ?_
 have hc7 := fn61 p pa0 pk0 kwLA kwLK pre rv5 hg6
 refine Oc [1, 2, 3] ca61 hc7 ?_
 rintro - -
 refine Oq Vnot (KS ?_)
 refine Kc ?_ ?_
 ·intro h8
  have h10 := not_true h8
  refine KS ?_
  refine Oq Va (Oq Va (KS ?_))
  have hq := q4 hrr (0, 0) (by simp only [vd_Sizes, h8, h10, hg6, cs4]); subst hq
  exact Kr () rfl (.tmp rfl (.tmp rfl .nil)) [] en
 intro h8
 have h13 := not_false h8
 try have hVb := SVal_b (p := p) (by simp only [h8, h13, hg6])
 refine KS ?_
 refine JK_drawK [0, 1, 3, 7, 0, 16, 48, 0, 0, 399, 1023] fmix ?_
 refine Dv [0] (Vfa fo25_0 0) (Dv [0] (VldF sh23 0) (Dv [] (Vlen sl23) (Dv [] Vmul (Dv [0] (Vfa fo25_0 0) (Dv [0] (VldF sh23 0) (Dv [] (Vlen sl23) (Dx [] [] [0] (fun G => (G.g 7 0)) [fun G => Cl (G.g 7 0) [vi 0]] (fun G => xA (Al ze3 [vi 0])) (Dx [] [] [0] (fun G => (G.g 8 0)) [fun G => Cl (G.g 8 0) [vi 0]] (fun G => xA (Al ze3 [vi 0])) (Dx0 [4] [4] [0] [fun G => Cl (G.g 7 0) [vi (2 * (p.Funcs.length : Int))]] (fun G => xS (Scl [0] sh3 [vi (2 * (p.Funcs.length : Int))])) ?_)))))))))
 refine Dx0 [5] [5] [0] [fun G => Cl (G.g 8 0) [vi (p.Funcs.length : Int)]] (fun G => xS (Scl [0] sh3 [vi (p.Funcs.length : Int)])) ?_
 refine Dn ⟨by kernel_rfl, fun G => ?_⟩
 refine Jw2 [(1, p4), (4, (G.g 7 0)), (5, (G.g 8 0))] [0, 1, 2, 3] [Cl (G.g 7 0) [vi (2 * (p.Funcs.length : Int))], Cl (G.g 8 0) [vi (p.Funcs.length : Int)]] ?_
 generalize G.g 7 0 = p15, G.g 8 0 = p16
 refine KS ?_
 refine Oq (VldA sh25 0) (Oq (Vf [p15, p16]) ?_)
 refine letv (vd_each_Sizes_1 p (2 * (p.Funcs.length : Int)) (p.Funcs.length : Int)) fun rv17 hg18 => ?_
 have hc19 := fn67m0 p pa0 pk0 p15 (2 * (p.Funcs.length : Int)) p16 (p.Funcs.length : Int) kwLA kwLK pre pre pre pre rv17 hg18
 refine Oc [1, 4, 4, 2, 3] ca67 hc19 ?_
 rintro - ⟨he20, he21, he22⟩
 unfold i64ok at he20 he21
 refine KS ?_
 refine Kq [0, 0, 1, 7] fmix ?_
 refine Qv [0] (Vld sh3 0) (Qv [1] (Vld sh3 0) (Qv [] Va (Qv [] Va ?_)))
 refine Qn ⟨by kernel_rfl, ?_⟩
 have hq := q4 hrr (rv17.1, rv17.2) (by simp only [vd_Sizes, h8, h13, hg6, hg18, cs4]); subst hq
 exact Kr () rfl (.tmp rfl (.tmp rfl .nil)) [] en
theorem fn36 (p : GProgram) (pa0 : Option Addr) (pk0 : Nat) (kwLA : Option Addr) (kwLK : Nat) (hps : PSm p = true) (rr : GNode × Int) (hrr : vd_Check p = rr) : FT Tryz.prog 36 #[.agg #[vl pa0 pk0 p.Funcs]] [S pa0 pk0 p.Funcs, pv (gp 0) [vl kwLA kwLK kwL], S kwLA kwLK kwL] (fun g : Unit => i64ok rr.1.Kind ∧ i64ok rr.1.Func ∧ i64ok rr.1.Block ∧ i64ok rr.1.Stmt ∧ i64ok rr.2) (fun g => .tuple #[.agg #[vi rr.1.Kind, vi rr.1.Func, vi rr.1.Block, vi rr.1.Stmt], vi rr.2]) (fun g => []) := by
 refine FTi Tryz.func36 fun w0 M0 F0 => Fb 40 0 fun _ => Fb 16 2 fun _ => ?_
 refine FoS 2 fun ho3 => ?_
 refine KS ?_
 refine Oa (Ab [vl pa0 pk0 p.Funcs]) fun p4 => Oa (Al ze27 [vi 0, vi 0, vi 0, vi 0]) fun p5 => Oq Va (KS ?_)
 refine Oq (VldA sh25 1) ?_
 refine letv (sx_Valid p) fun rv6 hg7 => ?_
 have hc8 := fn61 p pa0 pk0 kwLA kwLK pre rv6 hg7
 refine Oc [2, 3, 4] ca61 hc8 ?_
 rintro - -
 refine Oq Vnot (KS ?_)
 refine Kc ?_ ?_
 ·intro h9
  have h11 := not_true h9
  refine KS ?_
  refine Oq (Vbd st27 [vi 0, vi 0, vi 0, vi 0]) (Ost (Scl [0] sh27 [vi 0, vi 0, vi 0, vi 0]) (Oq Va (KS ?_)))
  have hq := q4 hrr ((GNode.mk 0 0 0 0), 1) (by simp only [vd_Check, h9, h11, hg7, cs4]); subst hq
  exact Kr () rfl (.cellN 0 rfl sh27 rfl (reads_Cl _ _) rfl (.tmp rfl .nil)) [] en
 intro h9
 have h14 := not_false h9
 refine KS ?_
 refine Oq (Vfa fo25_0 1) (Oq (VldF sh23 1) ?_)
 refine JJ_ent (Ent.pall [] rfl rfl) ?_
 refine letv (vd_duplicate_Func p.Funcs (fun x0 => vd_Check_1 x0)) fun rv17 hg18 => ?_
 have hc19 := fn62 p.Funcs pa0 pk0 63 [] (fun x0 => vd_Check_1 x0) [] ca63 (fun x0 a0 k0 hq0 => FT_pall (A1 := _) (fn63 x0 a0 k0  hq0 _ rfl)) rv17 hg18
 refine Oc [3, 0] ca62 hc19 ?_
 rintro c16 he20
 unfold i64ok at he20
 refine Jom 0 ?_; rintro b21 rfl
 refine Oq Vm (Oq Vx (Oq Vx (Oq Va (Oq Va (KS ?_)))))
 refine Oq Vm (Oq Vgeq (KS ?_))
 refine Kc ?_ ?_
 ·intro h22
  have g23 := dt h22
  refine KS ?_
  refine Oq Vm (Oq (Vbd st27 [vi 1, vi rv17.1, vi (-1), vi (-1)]) (Ost (Scl [2] sh27 [vi 1, vi rv17.1, vi (-1), vi (-1)]) (Oq Va (KS ?_))))
  have hq := q4 hrr ((GNode.mk 1 rv17.1 (-1) (-1)), 6) (by simp only [vd_Check, h9, h14, h22, hg7, hg18, cs4]); subst hq
  exact Kr () rfl (.cellN 0 rfl sh27 rfl (reads_Cl _ _) rfl (.tmp rfl .nil)) [] en
 intro h22
 have g24 := df h22
 refine KS ?_
 refine Oq (Vfa fo25_0 3) (Oq (VldF sh23 3) (Oq (Vlen sl23) (Oq Vm (KS ?_))))
 refine Kl (γ := Nat × Int) (fun (r25, v29_26) => ⟨[(1, p4), (2, p5), (5, (mv b21)), (27, vl pa0 pk0 p.Funcs), (28, vi (p.Funcs.length : Int)), (29, vi v29_26)], [Mp vstr vb okStr (mv b21) rv17.2, pAll [], Cl p5 [vi 0, vi 0, vi 0, vi 0], pv p4 [vl pa0 pk0 p.Funcs], S pa0 pk0 p.Funcs, pv (gp 0) [vl kwLA kwLK kwL], S kwLA kwLK kwL], vd_Check_L0 p rv17.2 r25 v29_26 = vd_Check_L0 p rv17.2 (((p.Funcs.length : Int) - 0).toNat) 0 ∧ r25 = ((p.Funcs.length : Int) - v29_26).toNat ∧ (0 : Int) ≤ v29_26 ∧ v29_26 ≤ (p.Funcs.length : Int) ∧ (-9223372036854775808 ≤ v29_26 ∧ v29_26 ≤ 9223372036854775807), r25⟩) (((p.Funcs.length : Int) - 0).toNat, 0) [0, 0, 1, 1, 2, 3, 4] ⟨rfl, rfl, aM1, aM1, aM1⟩ ?_
 rintro ⟨r25, v29_26⟩ ⟨hM27, hr28, hi29, hi30, hk31⟩
 refine JJ_nx fun _ _ hL hA => ?_; dsimp only at hL hA; subst hL hA
 refine Fb 40 4 fun _ => Fb 16 6 fun _ => ?_
 refine FoS 6 fun ho34 => ?_
 refine KS ?_
 refine Oq Vlss (KS ?_)
 refine Kc ?_ ?_
 ·intro h35
  have g36 := dt h35
  obtain ⟨r37, rfl⟩ := scc (n := r25) aM1
  refine KS ?_
  refine Oq Vm (Oq (Vi sl23 4) ?_)
  refine JJ_peek_GFunc v29_26.toNat 4 rfl rng fun a38 k39 hb40 => ?_
  refine Fb 40 1 fun _ => ?_
  refine Oq (VldA sh41 0) (Oa (Al ze41 [.string (bs (Str.mk [])), .slice none 0 0]) fun p42 => Oq Va (Ost (Scl [0] sh41 [.string (bs ((p.Funcs.getD v29_26.toNat default).Name)), vl a38 k39 ((p.Funcs.getD v29_26.toNat default).Blocks)]) (KS ?_)))
  refine Oq (VldA sh41 0) (Oq Vm (Oq Vm ?_))
  refine letv (vd_function (p.Funcs.getD v29_26.toNat default) v29_26 rv17.2) fun rv43 hg44 => ?_
  have hc45 := fn64 ((p.Funcs.getD v29_26.toNat default)) a38 k39 v29_26 (mv b21) rv17.2 pre pre rv43 hg44
  refine Oc [2, 3] ca64 hc45 ?_
  rintro - ⟨he46, he47, he48, he49, he50⟩
  unfold i64ok at he46 he47 he48 he49 he50
  refine Oq Vm (Oq Vx (Oq Vx (Oa (Al ze27 [vi 0, vi 0, vi 0, vi 0]) fun p51 => Ost (Scl [0] sh27 [vi rv43.1.Kind, vi rv43.1.Func, vi rv43.1.Block, vi rv43.1.Stmt]) (Oq Va (KS ?_)))))
  refine Oq Vm (Oq Vneq (KS ?_))
  refine Kc ?_ ?_
  ·intro h52
   have g53 := ne_of_bne h52
   refine KS ?_
   refine Oq (VldA sh27 0) (Oq Vm (Ost (Scl [6] sh27 [vi rv43.1.Kind, vi rv43.1.Func, vi rv43.1.Block, vi rv43.1.Stmt]) (Oq Va (KS ?_))))
   have hR54 := q2 hM27 (.ret (rv43.1, rv43.2)) (by simp only [vd_Check_L0, h9, h14, h22, h35, h52, hg7, hg18, hg44, cs4])
   have hq := q4 hrr (rv43.1, rv43.2) (by simp only [vd_Check, h9, h14, h22, h35, h52, hg7, hg18, hg44, hR54, cs4]); subst hq
   exact Kr () rfl (.cellN 0 rfl sh27 rfl (reads_Cl _ _) rfl (.tmp rfl .nil)) [] en
  intro h52
  have g55 := eq_of_bne_false h52
  refine KS ?_
  refine Oq Vadd (Oq Vm (KS ?_))
  exact Kg (r37, (v29_26 + 1)) [1, 4, 5, 5, 6, 7, 8] ⟨(q3 hM27 (by simp only [vd_Check_L0, h9, h14, h22, h35, h52, hg7, hg18, hg44, cs4])), aM1, aM1, aM1, aM1⟩
 intro h35
 have g56 := df h35
 obtain rfl : r25 = 0 := by omega
 refine Ke ?_
 have hR57 := q2 hM27 (.brk ()) (by simp only [vd_Check_L0, h9, h14, h22, h35, hg7, hg18, cs4])
 refine KS ?_
 refine Oq (VldA sh25 3) ?_
 refine letv (vd_Sizes p) fun rv58 hg59 => ?_
 have hc60 := fn65 p pa0 pk0 kwLA kwLK pre rv58 hg59
 refine Oc [4, 5, 6] ca65 hc60 ?_
 rintro - ⟨he61, he62, he63⟩
 unfold i64ok at he61 he62
 refine Oq Vm (Oq Vx (Oq Vx (Oq Va (Oq Va (KS ?_)))))
 refine Oq (VldA sh25 3) ?_
 refine letv (vd_Variables p) fun rv65 hg66 => ?_
 have hc67 := fn37 p pa0 pk0 kwLA kwLK pre rv65 hg66
 refine Oc [4, 5, 6] ca37 hc67 ?_
 rintro c64 he68
 refine Jo 0 ?_; rintro a69 k70 rfl
 refine Fb 16 0 fun _ => ?_
 refine FoS 0 fun ho72 => ?_
 refine Oq (Vlen sl45) (Oq Vgtr (Oq Vm ?_))
 refine Js 55 ?_ ?_
 ·intro h73
  have g74 := dt h73
  refine Osk (Osk (Oq Vpt (Oq Vm (Osk (Osk (Oq Vpt (KS ?_)))))))
  refine Kt (KS ?_)
  refine Oq (Vbd st27 [vi 0, vi 0, vi 0, vi 0]) (Ost (Scl [3] sh27 [vi 0, vi 0, vi 0, vi 0]) (Oq Va (KS ?_)))
  have hq := q4 hrr ((GNode.mk 0 0 0 0), 7) (by simp only [vd_Check, h9, h14, h22, h35, h73, hg7, hg18, hR57, hg59, hg66, cs4]); subst hq
  exact Kr () rfl (.cellN 0 rfl sh27 rfl (reads_Cl _ _) rfl (.tmp rfl .nil)) [] en
 intro h73
 have g75 := df h73
 refine Oq Vm (Oq Vgtr (Oq Vpf (Oq Vm ?_)))
 refine Js 59 ?_ ?_
 ·intro h76
  have g77 := dt h76
  refine Osk (Osk (Oq Vpt (KS ?_)))
  refine Kt (KS ?_)
  refine Oq (Vbd st27 [vi 0, vi 0, vi 0, vi 0]) (Ost (Scl [3] sh27 [vi 0, vi 0, vi 0, vi 0]) (Oq Va (KS ?_)))
  have hq := q4 hrr ((GNode.mk 0 0 0 0), 7) (by simp only [vd_Check, h9, h14, h22, h35, h73, h76, hg7, hg18, hR57, hg59, hg66, cs4]); subst hq
  exact Kr () rfl (.cellN 0 rfl sh27 rfl (reads_Cl _ _) rfl (.tmp rfl .nil)) [] en
 intro h76
 have g78 := df h76
 refine Oq Vm (Oq Vgtr (Oq Vpf (KS ?_)))
 refine Kc ?_ ?_
 ·intro h79
  have g80 := dt h79
  refine KS ?_
  refine Oq (Vbd st27 [vi 0, vi 0, vi 0, vi 0]) (Ost (Scl [3] sh27 [vi 0, vi 0, vi 0, vi 0]) (Oq Va (KS ?_)))
  have hq := q4 hrr ((GNode.mk 0 0 0 0), 7) (by simp only [vd_Check, h9, h14, h22, h35, h73, h76, h79, hg7, hg18, hR57, hg59, hg66, cs4]); subst hq
  exact Kr () rfl (.cellN 0 rfl sh27 rfl (reads_Cl _ _) rfl (.tmp rfl .nil)) [] en
 intro h79
 have g81 := df h79
 refine KS ?_
 refine Oq (Vbd st27 [vi 0, vi 0, vi 0, vi 0]) (Ost (Scl [3] sh27 [vi 0, vi 0, vi 0, vi 0]) (Oq Va (KS ?_)))
 have hq := q4 hrr ((GNode.mk 0 0 0 0), 0) (by simp only [vd_Check, h9, h14, h22, h35, h73, h76, h79, hg7, hg18, hR57, hg59, hg66, cs4]); subst hq
 exact Kr () rfl (.cellN 0 rfl sh27 rfl (reads_Cl _ _) rfl (.tmp rfl .nil)) [] en
theorem fn25 (p : GProgram) (pa0 : Option Addr) (pk0 : Nat) (kwLA : Option Addr) (kwLK : Nat) (hps : PSm p = true) (rr : List GNode) (hrr : nd_List p = rr) : FT Tryz.prog 25 #[.agg #[vl pa0 pk0 p.Funcs]] [S pa0 pk0 p.Funcs, pv (gp 0) [vl kwLA kwLK kwL], S kwLA kwLK kwL] (fun g : Value => (rr.length ≤ 20000)) (fun g => g) (fun g => [sl g rr]) := by
 refine FTi Tryz.func25 fun w0 M0 F0 => Fb 40 0 fun _ => Fb 16 2 fun _ => ?_
 refine FoS 2 fun ho3 => ?_
 refine KS ?_
 refine Oa (Ab [vl pa0 pk0 p.Funcs]) fun p4 => Oq Va (KS ?_)
 refine Oq (VldA sh25 0) ?_
 refine letv (vd_Check p) fun rv5 hg6 => ?_
 have hc7 := fn36 p pa0 pk0 kwLA kwLK pre rv5 hg6
 refine Oc [1, 2, 3] ca36 hc7 ?_
 rintro - ⟨he8, he9, he10, he11, he12⟩
 unfold i64ok at he8 he9 he10 he11 he12
 refine Oq Vm (Oq Vx (Oq Vx (Oa (Al ze27 [vi 0, vi 0, vi 0, vi 0]) fun p13 => Ost (Scl [0] sh27 [vi rv5.1.Kind, vi rv5.1.Func, vi rv5.1.Block, vi rv5.1.Stmt]) (Oq Va (KS ?_)))))
 refine Oq Vm (Oq Vneq (KS ?_))
 refine Kc ?_ ?_
 ·intro h14
  have g15 := ne_of_bne h14
  refine KS ?_
  refine Oq Va (KS ?_)
  refine Jl [] (Ent.slNil (α := GNode)) ?_
  have hq := q4 hrr [] (by simp only [nd_List, h14, hg6, cs4]); subst hq
  exact Kr (.slice none 0 0) rfl (.tmp rfl .nil) [0] en
 intro h14
 have g16 := eq_of_bne_false h14
 have hVb := SVal_b (p := p) (Check_b (by assumption) (by assumption))
 refine KS ?_
 refine Oq Va (KS ?_)
 refine Oq (Vfa fo25_0 1) (Oq (VldF sh23 1) (Oq (Vlen sl23) (Oq Vm (KS ?_))))
 refine Jl [] (Ent.osNil (α := GNode)) ?_
 refine Kl (γ := Nat × List GNode × Int × Option Addr × Nat) (fun (r17, out_18, v22_19, a20, k21) => ⟨[(5, vl a20 k21 out_18), (20, vl pa0 pk0 p.Funcs), (21, vi (p.Funcs.length : Int)), (22, vi v22_19)], [O a20 k21 out_18, S pa0 pk0 p.Funcs, pv (gp 0) [vl kwLA kwLK kwL], S kwLA kwLK kwL], nd_List_L0 p r17 out_18 v22_19 = nd_List_L0 p (((p.Funcs.length : Int) - 0).toNat) [] 0 ∧ r17 = ((p.Funcs.length : Int) - v22_19).toNat ∧ (0 : Int) ≤ v22_19 ∧ v22_19 ≤ (p.Funcs.length : Int) ∧ (-9223372036854775808 ≤ v22_19 ∧ v22_19 ≤ 9223372036854775807) ∧ ((out_18.length : Int) ≤ 1100 * v22_19), r17⟩) (((p.Funcs.length : Int) - 0).toNat, [], 0, none, 0) [0, 2, 3, 4] ⟨rfl, rfl, aM1, aM1, aM1, iv0⟩ ?_
 rintro ⟨r17, out_18, v22_19, a20, k21⟩ ⟨hM22, hr23, hi24, hi25, hk26, hv27⟩
 refine JJ_nx fun _ _ hL hA => ?_; dsimp only at hL hA; subst hL hA
 refine Fb 32 0 fun _ => Fb 40 1 fun _ => Fb 16 3 fun _ => ?_
 refine FoS 3 fun ho31 => ?_
 refine KS ?_
 refine Oq Vlss (KS ?_)
 refine Kc ?_ ?_
 ·intro h32
  have g33 := dt h32
  have hVf := hVb.2 v22_19.toNat
  have hb8 : v22_19 ≤ 7 := by have := hVb.1; omega
  obtain ⟨r34, rfl⟩ := scc (n := r17) aM1
  refine KS ?_
  refine Oq Vm (Oq (Vi sl23 1) ?_)
  refine JJ_peek_GFunc v22_19.toNat 1 rfl rng fun a35 k36 hb37 => ?_
  refine Fb 40 1 fun _ => ?_
  refine Oq (VldA sh41 0) (Oa (Al ze41 [.string (bs (Str.mk [])), .slice none 0 0]) fun p39 => Oq Va (Ost (Scl [0] sh41 [.string (bs ((p.Funcs.getD v22_19.toNat default).Name)), vl a35 k36 ((p.Funcs.getD v22_19.toNat default).Blocks)]) (KS ?_)))
  refine Oq Vm (Oq Vm (Oq (Vbd st27 [vi 1, vi v22_19, vi (-1), vi (-1)]) (Oa (AsV sl31 sz31 [.agg #[vi 1, vi v22_19, vi (-1), vi (-1)]] [vi 1, vi v22_19, vi (-1), vi (-1)]) fun c40 => ?_)))
  refine Jo 0 ?_; rintro a41 k42 rfl
  refine Jl [0] (Ent.cr1 (α := GNode) (A := []) _ (GNode.mk 1 v22_19 (-1) (-1)) _ aB1 (fun h => ⟨rfl, aL1, aL1, aL1, aL1⟩)) ?_
  refine Oa (ApO [4, 0] sl31 sl31 sz31) fun c43 => ?_
  refine Jo 0 ?_; rintro a44 k45 rfl
  refine Fb 32 0 fun _ => ?_
  have hn47 := la out_18 ([(GNode.mk 1 v22_19 (-1) (-1))] : List GNode)
  refine Oq Va (KS ?_)
  refine Oq (Vfa fo41_1 1) (Oq (VldF sh39 1) (Oq (Vlen sl39) (Oq Vm (KS ?_))))
  refine Kl (γ := Nat × List GNode × Int × Option Addr × Nat) (fun (r48, out_49, v35_50, a51, k52) => ⟨[(20, vl pa0 pk0 p.Funcs), (21, vi (p.Funcs.length : Int)), (22, vi v22_19), (6, vi v22_19), (5, vl a51 k52 out_49), (33, vl a35 k36 ((p.Funcs.getD v22_19.toNat default).Blocks)), (34, vi (((p.Funcs.getD v22_19.toNat default).Blocks).length : Int)), (35, vi v35_50)], [O a51 k52 out_49, S a35 k36 ((p.Funcs.getD v22_19.toNat default).Blocks), S pa0 pk0 p.Funcs, pv (gp 0) [vl kwLA kwLK kwL], S kwLA kwLK kwL], nd_List_L1 v22_19 ((p.Funcs.getD v22_19.toNat default).Blocks) r48 out_49 v35_50 = nd_List_L1 v22_19 ((p.Funcs.getD v22_19.toNat default).Blocks) ((((((p.Funcs.getD v22_19.toNat default).Blocks).length : Int) : Int) - 0).toNat) (out_18 ++ [(GNode.mk 1 v22_19 (-1) (-1))]) 0 ∧ r48 = (((((p.Funcs.getD v22_19.toNat default).Blocks).length : Int) : Int) - v35_50).toNat ∧ (0 : Int) ≤ v35_50 ∧ (v35_50 ≤ (((p.Funcs.getD v22_19.toNat default).Blocks).length : Int) ∨ v35_50 = 0) ∧ (-9223372036854775808 ≤ v35_50 ∧ v35_50 ≤ 9223372036854775807) ∧ ((out_49.length : Int) ≤ 1100 * v22_19 + 1 + 66 * v35_50), r48⟩) ((((((p.Funcs.getD v22_19.toNat default).Blocks).length : Int) : Int) - 0).toNat, (out_18 ++ [(GNode.mk 1 v22_19 (-1) (-1))]), 0, a44, k45) [0, 2, 3, 4, 5] ⟨rfl, rfl, aM1, (.inr rfl), aM1, iv0⟩ ?_
  rintro ⟨r48, out_49, v35_50, a51, k52⟩ ⟨hM53, hr54, hi55, hi56, hk57, hv58⟩
  refine JJ_nx fun _ _ hL hA => ?_; dsimp only at hL hA; subst hL hA
  refine Fb 32 0 fun _ => Fb 40 1 fun _ => Fb 40 2 fun _ => Fb 16 4 fun _ => ?_
  refine FoS 4 fun ho63 => ?_
  refine KS ?_
  refine Oq Vlss (KS ?_)
  refine Kc ?_ ?_
  ·intro h64
   have g65 := dt h64
   have hVk := hVf.2 v35_50.toNat
   have hb16 : v35_50 ≤ 15 := by have := hVf.1; omega
   obtain ⟨r66, rfl⟩ := scc (n := r48) aM1
   refine KS ?_
   refine Oq Vm (Oq (Vi sl39 1) ?_)
   refine JJ_peek_GBlock v35_50.toNat 1 rfl rng fun a67 k68 hb69 => ?_
   refine Fb 72 1 fun _ => ?_
   refine Oq (VldA sh44 0) (Oa (Al ze44 [.string (bs (Str.mk [])), .slice none 0 0]) fun p71 => Oq Va (Ost (Scl [0] sh44 [.string (bs ((((p.Funcs.getD v22_19.toNat default).Blocks).getD v35_50.toNat default).Name)), .slice a67 (((((p.Funcs.getD v22_19.toNat default).Blocks).getD v35_50.toNat default).Stmts).length) k68]) (KS ?_)))
   refine Oq (Vfa fo44_1 0) (Oq (VldF sh42 0) (Oq (Vlen sl42) (Oq Vm (KS ?_))))
   refine Kl (γ := Nat × List GNode × Int × Option Addr × Nat) (fun (r72, out_73, v43_74, a75, k76) => ⟨[(20, vl pa0 pk0 p.Funcs), (21, vi (p.Funcs.length : Int)), (22, vi v22_19), (6, vi v22_19), (5, vl a75 k76 out_73), (33, vl a35 k36 ((p.Funcs.getD v22_19.toNat default).Blocks)), (34, vi (((p.Funcs.getD v22_19.toNat default).Blocks).length : Int)), (35, vi v35_50), (8, vi v35_50), (41, .slice a67 (((((p.Funcs.getD v22_19.toNat default).Blocks).getD v35_50.toNat default).Stmts).length) k68), (42, vi (((((p.Funcs.getD v22_19.toNat default).Blocks).getD v35_50.toNat default).Stmts).length : Int)), (43, vi v43_74)], [O a75 k76 out_73, S a67 k68 ((((p.Funcs.getD v22_19.toNat default).Blocks).getD v35_50.toNat default).Stmts), S a35 k36 ((p.Funcs.getD v22_19.toNat default).Blocks), S pa0 pk0 p.Funcs, pv (gp 0) [vl kwLA kwLK kwL], S kwLA kwLK kwL], nd_List_L2 v22_19 v35_50 ((((p.Funcs.getD v22_19.toNat default).Blocks).getD v35_50.toNat default).Stmts) r72 out_73 v43_74 = nd_List_L2 v22_19 v35_50 ((((p.Funcs.getD v22_19.toNat default).Blocks).getD v35_50.toNat default).Stmts) ((((((((p.Funcs.getD v22_19.toNat default).Blocks).getD v35_50.toNat default).Stmts).length : Int) : Int) - 0).toNat) out_49 0 ∧ r72 = (((((((p.Funcs.getD v22_19.toNat default).Blocks).getD v35_50.toNat default).Stmts).length : Int) : Int) - v43_74).toNat ∧ (0 : Int) ≤ v43_74 ∧ (v43_74 ≤ (((((p.Funcs.getD v22_19.toNat default).Blocks).getD v35_50.toNat default).Stmts).length : Int) ∨ v43_74 = 0) ∧ (-9223372036854775808 ≤ v43_74 ∧ v43_74 ≤ 9223372036854775807) ∧ ((out_73.length : Int) ≤ 1100 * v22_19 + 1 + 66 * v35_50 + 2 * v43_74), r72⟩) ((((((((p.Funcs.getD v22_19.toNat default).Blocks).getD v35_50.toNat default).Stmts).length : Int) : Int) - 0).toNat, out_49, 0, a51, k52) [3, 2, 3, 4, 5, 6] ⟨rfl, rfl, aM1, (.inr rfl), aM1, iv0⟩ ?_
   rintro ⟨r72, out_73, v43_74, a75, k76⟩ ⟨hM77, hr78, hi79, hi80, hk81, hv82⟩
   refine JJ_nx fun _ _ hL hA => ?_; dsimp only at hL hA; subst hL hA
   refine Fb 32 0 fun _ => Fb 72 1 fun _ => Fb 40 2 fun _ => Fb 40 3 fun _ => Fb 16 5 fun _ => ?_
   refine FoS 5 fun ho88 => ?_
   refine KS ?_
   refine Oq Vlss (KS ?_)
   refine Kc ?_ ?_
   ·intro h89
    have g90 := dt h89
    have hb32 : v43_74 ≤ 31 := by have := hVk.1; omega
    obtain ⟨r91, rfl⟩ := scc (n := r72) aM1
    refine KS ?_
    refine Oq Vm (Oq (Vi sl42 1) ?_)
    refine JJ_peek_GStmt v43_74.toNat 1 rfl rng fun a92 k93 a94 k95 hb96 hb97 => ?_
    unfold i64ok at hb96
    refine Fb 16 1 fun _ => ?_
    refine FoS 1 fun ho99 => ?_
    refine Fb 16 2 fun _ => ?_
    refine FoS 2 fun ho101 => ?_
    refine Oq (VldA sh47 0) (Oa (Al ze47 [vi 0, .string (bs (Str.mk [])), .slice none 0 0, .slice none 0 0]) fun p102 => Oq Va (Ost (Scl [0] sh47 [vi ((((((p.Funcs.getD v22_19.toNat default).Blocks).getD v35_50.toNat default).Stmts).getD v43_74.toNat default).Op), .string (bs ((((((p.Funcs.getD v22_19.toNat default).Blocks).getD v35_50.toNat default).Stmts).getD v43_74.toNat default).Def)), .slice a92 (((((((p.Funcs.getD v22_19.toNat default).Blocks).getD v35_50.toNat default).Stmts).getD v43_74.toNat default).Uses).length) k93, .slice a94 (((((((p.Funcs.getD v22_19.toNat default).Blocks).getD v35_50.toNat default).Stmts).getD v43_74.toNat default).Targets).length) k95]) (KS ?_)))
    refine Oq Vm (Oq Vm (Oq Vm (Oq Vm (Oq (Vbd st27 [vi 3, vi v22_19, vi v35_50, vi v43_74]) (Oa (AsV sl31 sz31 [.agg #[vi 3, vi v22_19, vi v35_50, vi v43_74]] [vi 3, vi v22_19, vi v35_50, vi v43_74]) fun c103 => ?_)))))
    refine Jo 0 ?_; rintro a104 k105 rfl
    refine Jl [0] (Ent.cr1 (α := GNode) (A := []) _ (GNode.mk 3 v22_19 v35_50 v43_74) _ aB1 (fun h => ⟨rfl, aL1, aL1, aL1, aL1⟩)) ?_
    refine Oa (ApO [5, 0] sl31 sl31 sz31) fun c106 => ?_
    refine Jo 0 ?_; rintro a107 k108 rfl
    refine Fb 32 0 fun _ => ?_
    have hn110 := la out_73 ([(GNode.mk 3 v22_19 v35_50 v43_74)] : List GNode)
    refine Oq Va (KS ?_)
    refine Oq (Vfa fo47_0 1) (Oq (VldF sh3 1) (Oq Veql (KS ?_)))
    refine Kc ?_ ?_
    ·intro h111
     have g112 := eq_of_beq h111
     refine KS ?_
     refine Oq Vm (Oq Vm (Oq Vm (Oq Vm (Oq (Vbd st27 [vi 4, vi v22_19, vi v35_50, vi v43_74]) (Oa (AsV sl31 sz31 [.agg #[vi 4, vi v22_19, vi v35_50, vi v43_74]] [vi 4, vi v22_19, vi v35_50, vi v43_74]) fun c113 => ?_)))))
     refine Jo 0 ?_; rintro a114 k115 rfl
     refine Jl [0] (Ent.cr1 (α := GNode) (A := []) _ (GNode.mk 4 v22_19 v35_50 v43_74) _ aB1 (fun h => ⟨rfl, aL1, aL1, aL1, aL1⟩)) ?_
     refine Oa (ApO [1, 0] sl31 sl31 sz31) fun c116 => ?_
     refine Jo 0 ?_; rintro a117 k118 rfl
     refine Fb 32 0 fun _ => ?_
     have hn120 := la ((out_73 ++ [(GNode.mk 3 v22_19 v35_50 v43_74)]) : List GNode) ([(GNode.mk 4 v22_19 v35_50 v43_74)] : List GNode)
     refine Oq Va (KS ?_)
     refine Oq Vadd (Oq Vm (KS ?_))
     exact Kg (r91, ((out_73 ++ [(GNode.mk 3 v22_19 v35_50 v43_74)]) ++ [(GNode.mk 4 v22_19 v35_50 v43_74)]), (v43_74 + 1), a117, k118) [0, 4, 5, 6, 7, 8] ⟨(q3 hM77 (by simp only [nd_List_L2, h14, h32, h64, h89, h111, hg6, cs4])), aM1, aM1, aM1, aM1, iv1⟩
    intro h111
    have g121 := ne_of_beq_false h111
    refine KS ?_
    refine Oq Vadd (Oq Vm (KS ?_))
    exact Kg (r91, (out_73 ++ [(GNode.mk 3 v22_19 v35_50 v43_74)]), (v43_74 + 1), a107, k108) [0, 4, 5, 6, 7, 8] ⟨(q3 hM77 (by simp only [nd_List_L2, h14, h32, h64, h89, h111, hg6, cs4])), aM1, aM1, aM1, aM1, iv1⟩
   intro h89
   have g122 := df h89
   obtain rfl : r72 = 0 := by omega
   refine Ke ?_
   have hR123 := q2 hM77 out_73 (by simp only [nd_List_L2, h14, h32, h64, h89, hg6, cs4])
   refine KS ?_
   refine Oq Vadd (Oq Vm (KS ?_))
   exact Kg (r66, out_73, (v35_50 + 1), a75, k76) [0, 1, 2, 3, 4] ⟨(q3 hM53 (by simp only [nd_List_L1, h14, h32, h64, h89, hg6, hR123, cs4])), aM1, aM1, aM1, aM1, iv1⟩
  intro h64
  have g124 := df h64
  obtain rfl : r48 = 0 := by omega
  refine Ke ?_
  have hR125 := q2 hM53 out_49 (by simp only [nd_List_L1, h14, h32, h64, hg6, cs4])
  refine KS ?_
  refine Oq Vm (Oq Vm (Oq (Vbd st27 [vi 2, vi v22_19, vi (-1), vi (-1)]) (Oa (AsV sl31 sz31 [.agg #[vi 2, vi v22_19, vi (-1), vi (-1)]] [vi 2, vi v22_19, vi (-1), vi (-1)]) fun c126 => ?_)))
  refine Jo 0 ?_; rintro a127 k128 rfl
  refine Jl [0] (Ent.cr1 (α := GNode) (A := []) _ (GNode.mk 2 v22_19 (-1) (-1)) _ aB1 (fun h => ⟨rfl, aL1, aL1, aL1, aL1⟩)) ?_
  refine Oa (ApO [1, 0] sl31 sl31 sz31) fun c129 => ?_
  refine Jo 0 ?_; rintro a130 k131 rfl
  refine Fb 32 0 fun _ => ?_
  have hn133 := la out_49 ([(GNode.mk 2 v22_19 (-1) (-1))] : List GNode)
  refine Oq Va (KS ?_)
  refine Oq Vadd (Oq Vm (KS ?_))
  exact Kg (r34, (out_49 ++ [(GNode.mk 2 v22_19 (-1) (-1))]), (v22_19 + 1), a130, k131) [0, 1, 2, 3] ⟨(q3 hM22 (by simp only [nd_List_L0, h14, h32, h64, hg6, hR125, cs4])), aM1, aM1, aM1, aM1, iv1⟩
 intro h32
 have g134 := df h32
 obtain rfl : r17 = 0 := by omega
 refine Ke ?_
 have hR135 := q2 hM22 out_18 (by simp only [nd_List_L0, h14, h32, hg6, cs4])
 refine KS ?_
 refine Oq Vm (Oq Va (KS ?_))
 refine Jl [0] (Ent.freeze _ _) ?_
 have hq := q4 hrr out_18 (by simp only [nd_List, h14, h32, hg6, hR135, cs4]); subst hq
 exact Kr (vl a20 k21 out_18) rfl (.tmp rfl .nil) [0] en
theorem fn28 (p : GProgram) (pa0 : Option Addr) (pk0 : Nat) (n : GNode) (kwLA : Option Addr) (kwLK : Nat) (hn_0 : i64ok n.Kind) (hn_1 : i64ok n.Func) (hn_2 : i64ok n.Block) (hn_3 : i64ok n.Stmt) (hps : PSm p = true) (rr : Int) (hrr : nd_Find p n = rr) : FT Tryz.prog 28 #[.agg #[vl pa0 pk0 p.Funcs], .agg #[vi n.Kind, vi n.Func, vi n.Block, vi n.Stmt]] [S pa0 pk0 p.Funcs, pv (gp 0) [vl kwLA kwLK kwL], S kwLA kwLK kwL] (fun g : Unit => i64ok rr ∧ (-1 ≤ rr ∧ rr ≤ 20000)) (fun g => vi rr) (fun g => []) := by
 refine FTi Tryz.func28 fun w0 M0 F0 => ?_
 unfold i64ok at hn_0 hn_1 hn_2 hn_3
 refine Fb 40 0 fun _ => Fb 16 2 fun _ => ?_
 refine FoS 2 fun ho3 => ?_
 refine KS ?_
 refine Oa (Ab [vl pa0 pk0 p.Funcs]) fun p4 => Oa (Ab [vi n.Kind, vi n.Func, vi n.Block, vi n.Stmt]) fun p5 => Oq Va (KS ?_)
 refine Oq (VldA sh25 1) ?_
 refine letv (nd_List p) fun rv7 hg8 => ?_
 have hc9 := fn25 p pa0 pk0 kwLA kwLK pre rv7 hg8
 refine Oc [2, 3, 4] ca25 hc9 ?_
 rintro c6 he10
 refine Jo 0 ?_; rintro a11 k12 rfl
 refine Fb 32 0 fun _ => ?_
 refine Oq (Vlen sl31) (Oq Vm (KS ?_))
 refine Kl (γ := Nat × Int) (fun (r14, v10_15) => ⟨[(3, p5), (8, vl a11 k12 rv7), (9, vi (rv7.length : Int)), (10, vi v10_15)], [S a11 k12 rv7, pv p5 [vi n.Kind, vi n.Func, vi n.Block, vi n.Stmt], pv (gp 0) [vl kwLA kwLK kwL], S kwLA kwLK kwL], nd_Find_L0 n rv7 r14 v10_15 = nd_Find_L0 n rv7 (((rv7.length : Int) - 0).toNat) 0 ∧ r14 = ((rv7.length : Int) - v10_15).toNat ∧ (0 : Int) ≤ v10_15 ∧ v10_15 ≤ (rv7.length : Int) ∧ (-9223372036854775808 ≤ v10_15 ∧ v10_15 ≤ 9223372036854775807), r14⟩) (((rv7.length : Int) - 0).toNat, 0) [0, 1, 4, 5] ⟨rfl, rfl, aM1, aM1, aM1⟩ ?_
 rintro ⟨r14, v10_15⟩ ⟨hM16, hr17, hi18, hi19, hk20⟩
 refine JJ_nx fun _ _ hL hA => ?_; dsimp only at hL hA; subst hL hA
 refine Fb 32 0 fun _ => Fb 16 3 fun _ => ?_
 refine FoS 3 fun ho23 => ?_
 refine KS ?_
 refine Oq Vlss (KS ?_)
 refine Kc ?_ ?_
 ·intro h24
  have g25 := dt h24
  obtain ⟨r26, rfl⟩ := scc (n := r14) aM1
  refine KS ?_
  refine Oq Vm (Oq (Vi sl31 0) ?_)
  refine JJ_peek_GNode v10_15.toNat 0 rfl rng fun hb27 hb28 hb29 hb30 => ?_
  unfold i64ok at hb27 hb28 hb29 hb30
  refine Oq (VldA sh27 0) (Oa (Al ze27 [vi 0, vi 0, vi 0, vi 0]) fun p31 => Oq Va (Ost (Scl [0] sh27 [vi ((rv7.getD v10_15.toNat default).Kind), vi ((rv7.getD v10_15.toNat default).Func), vi ((rv7.getD v10_15.toNat default).Block), vi ((rv7.getD v10_15.toNat default).Stmt)]) (KS ?_)))
  refine Oq (VldA sh27 0) (Oq (VldA sh27 3) (Oq (VeqA eqi27 (l := [(rv7.getD v10_15.toNat default).Kind, (rv7.getD v10_15.toNat default).Func, (rv7.getD v10_15.toNat default).Block, (rv7.getD v10_15.toNat default).Stmt]) (m := [n.Kind, n.Func, n.Block, n.Stmt])) (KS ?_)))
  refine Kc ?_ ?_
  ·intro h32
   have g33 := eq_of_beq h32
   refine KS ?_
   refine Oq Vm (Oq Va (KS ?_))
   have hR34 := q2 hM16 (.ret v10_15) (by simp only [nd_Find_L0, h24, h32, hg8, cs4])
   have hq := q4 hrr v10_15 (by simp only [nd_Find, h24, h32, hg8, hR34, cs4]); subst hq
   exact Kr () rfl (.tmp rfl .nil) [] en
  intro h32
  have g35 := ne_of_beq_false h32
  refine KS ?_
  refine Oq Vadd (Oq Vm (KS ?_))
  exact Kg (r26, (v10_15 + 1)) [2, 3, 4, 5] ⟨(q3 hM16 (by simp only [nd_Find_L0, h24, h32, hg8, cs4])), aM1, aM1, aM1, aM1⟩
 intro h24
 have g36 := df h24
 obtain rfl : r14 = 0 := by omega
 refine Ke ?_
 have hR37 := q2 hM16 (.brk ()) (by simp only [nd_Find_L0, h24, hg8, cs4])
 refine KS ?_
 refine Oq Va (KS ?_)
 have hq := q4 hrr (-1) (by simp only [nd_Find, h24, hg8, hR37, cs4]); subst hq
 exact Kr () rfl (.tmp rfl .nil) [] en
theorem fn122 (i : Int) (hi_0 : i64ok i) (hi : 0 ≤ i ∧ i < 100) (rr : Str) (hrr : ic_small i = rr) : FT Tryz.prog 122 #[vi i] [] (fun g : Unit => rr.b.length ≤ 140737488355328 ∧ (rr.b.length ≤ 2)) (fun g => .string (bs rr)) (fun g => []) := by
 refine FTi Tryz.func122 fun w0 M0 F0 => ?_
 unfold i64ok at hi_0
 refine KS ?_
 refine Oq Va (KS ?_)
 refine Oq Vm (Oq Vlss (KS ?_))
 refine Kc ?_ ?_
 ·intro h1
  have g2 := dt h1
  refine KS ?_
  refine Oq Vm (Oq Vm (Oq Vadd ?_))
  have hb3 : tab0.b.length = 36 := rfl
  refine Oq (VslS un9 (l := tab0)) ?_
  have hb4 := sub_len3 tab0 i.toNat ((i + 1) : Int).toNat
  refine Oq Va (KS ?_)
  have hq := q4 hrr (tab0.sub i.toNat ((i + 1) : Int).toNat) (by simp only [ic_small, h1, cs4]); subst hq
  exact Kr () rfl (.tmp rfl .nil) [] en
 intro h1
 have g5 := df h1
 refine KS ?_
 refine Oq Vm (Oq Vmul (Oq Vm (Oq Vmul (Oq Vadd ?_))))
 have hb6 : tab1.b.length = 200 := rfl
 refine Oq (VslS un9 (l := tab1)) ?_
 have hb7 := sub_len3 tab1 ((i * 2) : Int).toNat (((i * 2) + 2) : Int).toNat
 refine Oq Va (KS ?_)
 have hq := q4 hrr (tab1.sub ((i * 2) : Int).toNat (((i * 2) + 2) : Int).toNat) (by simp only [ic_small, h1, cs4]); subst hq
 exact Kr () rfl (.tmp rfl .nil) [] en
theorem fn107 (i : Int) (base : Int) (hi_0 : i64ok i) (hbase_0 : i64ok base) (hi : 0 ≤ i ∧ i < 100 ∧ base = 10) (rr : Str) (hrr : ic_FormatInt i base = rr) : FT Tryz.prog 107 #[vi i, vi base] [] (fun g : Unit => rr.b.length ≤ 140737488355328 ∧ (rr.b.length ≤ 2)) (fun g => .string (bs rr)) (fun g => []) := by
 refine FTi Tryz.func107 fun w0 M0 F0 => ?_
 unfold i64ok at hi_0 hbase_0
 refine KS ?_
 refine Oq Va (KS ?_)
 refine Oq Vm (Oq Veql (KS ?_))
 refine Kc ?_ ?_
 ·intro h1
  have g2 := eq_of_beq h1
  refine KS ?_
  refine Oq Vm (Oq Vleq (Oq Vm ?_))
  refine Js 14 ?_ ?_
  ·intro h3
   have g4 := dt h3
   refine Oq Vm (Oq Vlss (Oq Vpt (KS ?_)))
   refine Kc ?_ ?_
   ·intro h5
    have g6 := dt h5
    refine KS ?_
    refine Oq Vm ?_
    refine letv (ic_small i) fun rv7 hg8 => ?_
    have hc9 := fn122 i pre pre rv7 hg8
    refine Oc [] ca122 hc9 ?_
    rintro - ⟨he10, he11⟩
    refine Oq Va (KS ?_)
    have hq := q4 hrr rv7 (by simp only [ic_FormatInt, h1, h3, h5, hg8, cs4]); subst hq
    exact Kr () rfl (.tmp rfl .nil) [] en
   intro h5
   have g12 := df h5
   exfalso; omega
  intro h3
  have g13 := df h3
  exfalso; omega
 intro h1
 have g14 := ne_of_beq_false h1
 exfalso; omega
theorem fn81 (i : Int) (hi_0 : i64ok i) (hi : 0 ≤ i ∧ i < 100) (rr : Str) (hrr : ic_Itoa i = rr) : FT Tryz.prog 81 #[vi i] [] (fun g : Unit => rr.b.length ≤ 140737488355328 ∧ (rr.b.length ≤ 2)) (fun g => .string (bs rr)) (fun g => []) := by
 refine FTi Tryz.func81 fun w0 M0 F0 => ?_
 unfold i64ok at hi_0
 refine KS ?_
 refine Oq Va (KS ?_)
 refine Oq Vm ?_
 refine letv (ic_FormatInt i 10) fun rv1 hg2 => ?_
 have hc3 := fn107 i 10 pre pre pre rv1 hg2
 refine Oc [] ca107 hc3 ?_
 rintro - ⟨he4, he5⟩
 refine Oq Va (KS ?_)
 have hq := q4 hrr rv1 (by simp only [ic_Itoa, hg2, cs4]); subst hq
 exact Kr () rfl (.tmp rfl .nil) [] en
theorem fn57 (i : Int) (hi_0 : i64ok i) (hi : 0 ≤ i ∧ i < 100) (rr : Str) (hrr : st_Itoa i = rr) : FT Tryz.prog 57 #[vi i] [] (fun g : Unit => rr.b.length ≤ 140737488355328 ∧ (rr.b.length ≤ 2)) (fun g => .string (bs rr)) (fun g => []) := by
 refine FTi Tryz.func57 fun w0 M0 F0 => ?_
 unfold i64ok at hi_0
 refine KS ?_
 refine Oq Va (KS ?_)
 refine Oq Vm ?_
 refine letv (ic_Itoa i) fun rv1 hg2 => ?_
 have hc3 := fn81 i pre pre rv1 hg2
 refine Oc [] ca81 hc3 ?_
 rintro - ⟨he4, he5⟩
 refine Oq Va (KS ?_)
 have hq := q4 hrr rv1 (by simp only [st_Itoa, hg2, cs4]); subst hq
 exact Kr () rfl (.tmp rfl .nil) [] en
end Go.SL.G
