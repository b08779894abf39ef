/- Part 5 of the walks: mirrors, plain laws and walks used by the last text of this claim. -/
import Derived.Test.YtaecnbagiemkbaaGreatDoorW4
import Derived.Test.YtaecnbagiemkbaaGreatDoorProg
set_option linter.unusedVariables false
set_option linter.unusedSimpArgs false
namespace Go.SL.G
open Go Go.SL Go.Proofs
set_option maxHeartbeats 20000000
set_option maxRecDepth 100000
theorem fn17 (p : GProgram) (pa0 : Option Addr) (pk0 : Nat) (rr : GProgram) (hrr : g_CopyProgram p = rr) : FT Tryz.prog 17 #[.agg #[vl pa0 pk0 p.Funcs]] [S pa0 pk0 p.Funcs] (fun g : Value => True) (fun g => .agg #[g]) (fun g => [ds g rr.Funcs]) := by
 refine FTi Tryz.func17 fun w0 M0 F0 => Fb 40 0 fun _ => ?_
 refine KS ?_
 refine Oa (Ab [vl pa0 pk0 p.Funcs]) fun p2 => Oa (Al ze25 [.slice none 0 0]) fun p3 => KS ?_
 refine Oa (Al ze25 [.slice none 0 0]) fun p4 => KS ?_
 refine Oq Va (KS ?_)
 refine Jl [] (Ent.dsNil (α := GFunc)) ?_
 refine Kl (γ := Nat × List GFunc × Int × Option Addr × Nat) (fun (r5, q0_6, i_7, a8, k9) => ⟨[(1, p2), (2, p3), (3, p4), (4, vi i_7)], [D a8 k9 q0_6, Cl p4 [vl a8 k9 q0_6], Cl p3 [.slice none 0 0], pv p2 [vl pa0 pk0 p.Funcs], S pa0 pk0 p.Funcs], g_CopyProgram_L0 p r5 q0_6 i_7 = g_CopyProgram_L0 p (((p.Funcs.length : Int) - 0).toNat) [] 0 ∧ r5 = ((p.Funcs.length : Int) - i_7).toNat ∧ (0 : Int) ≤ i_7 ∧ i_7 ≤ (p.Funcs.length : Int) ∧ (-9223372036854775808 ≤ i_7 ∧ i_7 ≤ 9223372036854775807) ∧ (q0_6.length : Int) = i_7, r5⟩) (((p.Funcs.length : Int) - 0).toNat, [], 0, none, 0) [0, 0, 0, 0, 1] ⟨rfl, rfl, aM1, aM1, aM1, iv0⟩ ?_
 rintro ⟨r5, q0_6, i_7, a8, k9⟩ ⟨hM10, hr11, hi12, hi13, hk14, hv15⟩
 refine JJ_nx fun _ _ hL hA => ?_; dsimp only at hL hA; subst hL hA
 refine FbD 40 0 fun _ => ?_
 refine Fb 40 4 fun _ => KS ?_
 refine Oq Vm (Oq (Vfa fo25_0 3) (Oq (VldF sh23 3) (Oq (Vlen sl23) (Oq Vlss (KS ?_)))))
 refine Kc ?_ ?_
 ·intro h18
  have g19 := dt h18
  obtain ⟨r20, rfl⟩ := scc (n := r5) aM1
  refine KS ?_
  refine Oq (Vfa fo25_0 3) (Oq (VldF sh23 3) (Oq Vm (Oq (Vi sl23 4) ?_)))
  refine JJ_peek_GFunc i_7.toNat 4 rfl rng fun a21 k22 hb23 => ?_
  refine Fb 40 1 fun _ => ?_
  refine Oq (Vfa fo39_0 0) (Oq (VldF sh9 0) (Oq (Vbd st39 [.string (bs ((p.Funcs.getD i_7.toNat default).Name)), .slice none 0 0]) (Oa (Al ze39 [.string (bs (Str.mk [])), .slice none 0 0]) fun p25 => Ost (Scl [0] sh39 [.string (bs ((p.Funcs.getD i_7.toNat default).Name)), .slice none 0 0]) (KS ?_))))
  refine Oq Va (KS ?_)
  refine Jl [] (Ent.dsNil (α := GBlock)) ?_
  refine Kl (γ := Nat × List GBlock × Int × Option Addr × Nat) (fun (r26, f1_27, k_28, a29, k30) => ⟨[(1, p2), (2, p3), (3, p4), (4, vi i_7), (5, p25), (6, vi k_28)], [D a29 k30 f1_27, Cl p25 [.string (bs ((p.Funcs.getD i_7.toNat default).Name)), vl a29 k30 f1_27], D a8 k9 q0_6, Cl p4 [vl a8 k9 q0_6], Cl p3 [.slice none 0 0], pv p2 [vl pa0 pk0 p.Funcs], S pa0 pk0 p.Funcs], g_CopyProgram_L1 p i_7 r26 f1_27 k_28 = g_CopyProgram_L1 p i_7 ((((((p.Funcs.getD i_7.toNat default).Blocks).length : Int) : Int) - 0).toNat) [] 0 ∧ r26 = (((((p.Funcs.getD i_7.toNat default).Blocks).length : Int) : Int) - k_28).toNat ∧ (0 : Int) ≤ k_28 ∧ (k_28 ≤ (((p.Funcs.getD i_7.toNat default).Blocks).length : Int) ∨ k_28 = 0) ∧ (-9223372036854775808 ≤ k_28 ∧ k_28 ≤ 9223372036854775807) ∧ (f1_27.length : Int) = k_28, r26⟩) ((((((p.Funcs.getD i_7.toNat default).Blocks).length : Int) : Int) - 0).toNat, [], 0, none, 0) [0, 0, 2, 2, 2, 2, 3] ⟨rfl, rfl, aM1, (.inr rfl), aM1, iv0⟩ ?_
  rintro ⟨r26, f1_27, k_28, a29, k30⟩ ⟨hM31, hr32, hi33, hi34, hk35, hv36⟩
  refine JJ_nx fun _ _ hL hA => ?_; dsimp only at hL hA; subst hL hA
  refine FbD 40 0 fun _ => ?_
  refine FbD 40 2 fun _ => ?_
  refine Fb 40 6 fun _ => KS ?_
  refine Oq Vm (Oq (Vfa fo25_0 5) (Oq (VldF sh23 5) (Oq Vm (Oq (Vi sl23 6) ?_))))
  refine JJ_peek_GFunc i_7.toNat 6 rfl rng fun a40 k41 hb42 => ?_
  refine Fb 40 1 fun _ => ?_
  refine Oq (Vfa fo39_1 0) (Oq (VldF sh37 0) (Oq (Vlen sl37) (Oq Vlss (KS ?_))))
  refine Kc ?_ ?_
  ·intro h44
   have g45 := dt h44
   obtain ⟨r46, rfl⟩ := scc (n := r26) aM1
   refine KS ?_
   refine Oq (Vfa fo25_0 7) (Oq (VldF sh23 7) (Oq Vm (Oq (Vi sl23 8) (Oq (Vfa fo39_1 0) (Oq (VldF sh37 0) (Oq Vm (Oq (Vi sl37 1) ?_)))))))
   refine JJ_peek_GBlock k_28.toNat 1 rfl rng fun a47 k48 hb49 => ?_
   refine Fb 72 1 fun _ => ?_
   refine Oq (Vfa fo42_0 0) (Oq (VldF sh9 0) (Oq (Vbd st42 [.string (bs ((((p.Funcs.getD i_7.toNat default).Blocks).getD k_28.toNat default).Name)), .slice none 0 0]) (Oa (Al ze42 [.string (bs (Str.mk [])), .slice none 0 0]) fun p51 => Ost (Scl [0] sh42 [.string (bs ((((p.Funcs.getD i_7.toNat default).Blocks).getD k_28.toNat default).Name)), .slice none 0 0]) (KS ?_))))
   refine Oq Va (KS ?_)
   refine Jl [] (Ent.dsNil (α := GStmt)) ?_
   refine Kl (γ := Nat × List GStmt × Int × Option Addr × Nat) (fun (r52, b1_53, j_54, a55, k56) => ⟨[(1, p2), (2, p3), (3, p4), (4, vi i_7), (5, p25), (6, vi k_28), (7, p51), (8, vi j_54)], [D a55 k56 b1_53, Cl p51 [.string (bs ((((p.Funcs.getD i_7.toNat default).Blocks).getD k_28.toNat default).Name)), vl a55 k56 b1_53], D a29 k30 f1_27, Cl p25 [.string (bs ((p.Funcs.getD i_7.toNat default).Name)), vl a29 k30 f1_27], D a8 k9 q0_6, Cl p4 [vl a8 k9 q0_6], Cl p3 [.slice none 0 0], pv p2 [vl pa0 pk0 p.Funcs], S pa0 pk0 p.Funcs], g_CopyProgram_L2 p i_7 k_28 r52 b1_53 j_54 = g_CopyProgram_L2 p i_7 k_28 ((((((((p.Funcs.getD i_7.toNat default).Blocks).getD k_28.toNat default).Stmts).length : Int) : Int) - 0).toNat) [] 0 ∧ r52 = (((((((p.Funcs.getD i_7.toNat default).Blocks).getD k_28.toNat default).Stmts).length : Int) : Int) - j_54).toNat ∧ (0 : Int) ≤ j_54 ∧ (j_54 ≤ (((((p.Funcs.getD i_7.toNat default).Blocks).getD k_28.toNat default).Stmts).length : Int) ∨ j_54 = 0) ∧ (-9223372036854775808 ≤ j_54 ∧ j_54 ≤ 9223372036854775807) ∧ (b1_53.length : Int) = j_54, r52⟩) ((((((((p.Funcs.getD i_7.toNat default).Blocks).getD k_28.toNat default).Stmts).length : Int) : Int) - 0).toNat, [], 0, none, 0) [0, 0, 4, 4, 4, 4, 4, 4, 5] ⟨rfl, rfl, aM1, (.inr rfl), aM1, iv0⟩ ?_
   rintro ⟨r52, b1_53, j_54, a55, k56⟩ ⟨hM57, hr58, hi59, hi60, hk61, hv62⟩
   refine JJ_nx fun _ _ hL hA => ?_; dsimp only at hL hA; subst hL hA
   refine FbD 72 0 fun _ => ?_
   refine FbD 40 2 fun _ => ?_
   refine FbD 40 4 fun _ => ?_
   refine Fb 40 8 fun _ => KS ?_
   refine Oq Vm (Oq (Vfa fo25_0 7) (Oq (VldF sh23 7) (Oq Vm (Oq (Vi sl23 8) ?_))))
   refine JJ_peek_GFunc i_7.toNat 8 rfl rng fun a67 k68 hb69 => ?_
   refine Fb 40 1 fun _ => ?_
   refine Oq (Vfa fo39_1 0) (Oq (VldF sh37 0) (Oq Vm (Oq (Vi sl37 1) ?_)))
   refine JJ_peek_GBlock k_28.toNat 1 rfl rng fun a71 k72 hb73 => ?_
   refine Fb 72 1 fun _ => ?_
   refine Oq (Vfa fo42_1 0) (Oq (VldF sh40 0) (Oq (Vlen sl40) (Oq Vlss (KS ?_))))
   refine Kc ?_ ?_
   ·intro h75
    have g76 := dt h75
    obtain ⟨r77, rfl⟩ := scc (n := r52) aM1
    refine KS ?_
    refine Oq (Vfa fo25_0 11) (Oq (VldF sh23 11) (Oq Vm (Oq (Vi sl23 12) (Oq (Vfa fo39_1 2) (Oq (VldF sh37 2) (Oq Vm (Oq (Vi sl37 3) (Oq (Vfa fo42_1 0) (Oq (VldF sh40 0) ?_)))))))))
    refine Oq Vm (Oq (Vi sl40 1) ?_)
    refine JJ_peek_GStmt j_54.toNat 1 rfl rng fun a78 k79 a80 k81 hb82 hb83 => ?_
    unfold i64ok at hb82
    refine Fb 16 1 fun _ => ?_
    refine FoS 1 fun ho85 => ?_
    refine Fb 16 2 fun _ => ?_
    refine FoS 2 fun ho87 => ?_
    refine Oq (VldA sh44 0) (Oa (Al ze44 [vi 0, .string (bs (Str.mk [])), .slice none 0 0, .slice none 0 0]) fun p88 => Ost (Scl [0] sh44 [vi ((((((p.Funcs.getD i_7.toNat default).Blocks).getD k_28.toNat default).Stmts).getD j_54.toNat default).Op), .string (bs ((((((p.Funcs.getD i_7.toNat default).Blocks).getD k_28.toNat default).Stmts).getD j_54.toNat default).Def)), .slice a78 (((((((p.Funcs.getD i_7.toNat default).Blocks).getD k_28.toNat default).Stmts).getD j_54.toNat default).Uses).length) k79, .slice a80 (((((((p.Funcs.getD i_7.toNat default).Blocks).getD k_28.toNat default).Stmts).getD j_54.toNat default).Targets).length) k81]) (KS ?_))
    refine Jp 0 fun hp89 => ?_
    refine JK_drawK [0, 0, 2, 7, 0, 0, 32, 127, 111, 511, 1023, 2047] fmix ?_
    refine Dx [] [] [0] (fun G => (G.g 0 0)) [fun G => Cr (G.g 0 0) 0 []] (fun G => xA (As0 sl36)) (Dv [0] (Vfa fo44_2 0) (Dv [1] (VldF sh36 0) (Dx [3, 18] [18] [1, 0] (fun G => (G.g 3 0)) [fun G => os (G.g 3 0) ((((((p.Funcs.getD i_7.toNat default).Blocks).getD k_28.toNat default).Stmts).getD j_54.toNat default).Uses)] (fun G => xp [1] rfl (Ent.crNil (α := Str) _) (xA (Ap0 [0, 0] sl36 sl36 sz36))) (Dx [] [] [0] (fun G => (G.g 4 0)) [fun G => Cr (G.g 4 0) 0 []] (fun G => xA (As0 sl36)) (Dv [0] (Vfa fo44_3 0) (Dv [1] (VldF sh36 0) (Dx [4, 20] [20] [1, 0] (fun G => (G.g 7 0)) [fun G => os (G.g 7 0) ((((((p.Funcs.getD i_7.toNat default).Blocks).getD k_28.toNat default).Stmts).getD j_54.toNat default).Targets)] (fun G => xp [1] rfl (Ent.crNil (α := Str) _) (xA (Ap0 [0, 0] sl36 sl36 sz36))) (Dv [0] (Vfa fo44_2 0) (Dx0 [1, 19] [1] [1, 0] [fun G => Cl p88 [vi ((((((p.Funcs.getD i_7.toNat default).Blocks).getD k_28.toNat default).Stmts).getD j_54.toNat default).Op), .string (bs ((((((p.Funcs.getD i_7.toNat default).Blocks).getD k_28.toNat default).Stmts).getD j_54.toNat default).Def)), (G.g 3 0), .slice a80 (((((((p.Funcs.getD i_7.toNat default).Blocks).getD k_28.toNat default).Stmts).getD j_54.toNat default).Targets).length) k81]] (fun G => x1 1 rfl os_one fun ho94 => (xS (OpS.frame [0] rfl (OpS.storeClF [(G.g 3 0)] [vi ((((((p.Funcs.getD i_7.toNat default).Blocks).getD k_28.toNat default).Stmts).getD j_54.toNat default).Op), .string (bs ((((((p.Funcs.getD i_7.toNat default).Blocks).getD k_28.toNat default).Stmts).getD j_54.toNat default).Def)), (G.g 3 0), .slice a80 (((((((p.Funcs.getD i_7.toNat default).Blocks).getD k_28.toNat default).Stmts).getD j_54.toNat default).Targets).length) k81] rfl rfl rfl sh36 (cells_of_one ho94) rfl (by simp only [List.all_cons, List.all_nil, ho94, Bool.and_true, Bool.true_and] <;> rfl) aB1 rfl)))) ?_)))))))))
    refine Dv [0] (Vfa fo44_3 0) (Dx0 [21, 22] [22] [1, 0] [fun G => Cl p88 [vi ((((((p.Funcs.getD i_7.toNat default).Blocks).getD k_28.toNat default).Stmts).getD j_54.toNat default).Op), .string (bs ((((((p.Funcs.getD i_7.toNat default).Blocks).getD k_28.toNat default).Stmts).getD j_54.toNat default).Def)), (G.g 3 0), (G.g 7 0)]] (fun G => x1 0 rfl os_one fun ho95 => (xS (OpS.frame [1] rfl (OpS.storeClF [(G.g 7 0)] [vi ((((((p.Funcs.getD i_7.toNat default).Blocks).getD k_28.toNat default).Stmts).getD j_54.toNat default).Op), .string (bs ((((((p.Funcs.getD i_7.toNat default).Blocks).getD k_28.toNat default).Stmts).getD j_54.toNat default).Def)), (G.g 3 0), (G.g 7 0)] rfl rfl rfl sh36 (cells_of_one ho95) rfl (by simp only [List.all_cons, List.all_nil, ho95, Bool.and_true, Bool.true_and] <;> rfl) aB1 rfl)))) ?_)
    refine Dn ⟨by kernel_rfl, fun G => ?_⟩
    refine Jw2 [(1, p2), (2, p3), (3, p4), (4, vi i_7), (5, p25), (6, vi k_28), (7, p51), (8, vi j_54), (9, p88)] [0, 2, 3, 4, 5, 6, 7, 8, 9, 10, 11, 12, 13, 14, 15, 16, 17] [os (G.g 3 0) ((((((p.Funcs.getD i_7.toNat default).Blocks).getD k_28.toNat default).Stmts).getD j_54.toNat default).Uses), os (G.g 7 0) ((((((p.Funcs.getD i_7.toNat default).Blocks).getD k_28.toNat default).Stmts).getD j_54.toNat default).Targets), Cl p88 [vi ((((((p.Funcs.getD i_7.toNat default).Blocks).getD k_28.toNat default).Stmts).getD j_54.toNat default).Op), .string (bs ((((((p.Funcs.getD i_7.toNat default).Blocks).getD k_28.toNat default).Stmts).getD j_54.toNat default).Def)), (G.g 3 0), (G.g 7 0)]] ?_
    generalize G.g 3 0 = c91, G.g 7 0 = c93
    refine Jk [1, 2, 3, 4, 5, 6, 7, 8, 8, 8, 8, 8, 8, 8, 8, 9, 10, 10, 10] ?_
    refine Jo 16 ?_; rintro a96 k97 rfl
    refine Jo 17 ?_; rintro a98 k99 rfl
    refine KS ?_
    refine Oq (Vfa fo42_1 8) (Oq (VldF sh40 8) (Oq (VldA sh44 18) (Oa (AsV sl40 sz40 [.agg #[vi ((((((p.Funcs.getD i_7.toNat default).Blocks).getD k_28.toNat default).Stmts).getD j_54.toNat default).Op), .string (bs ((((((p.Funcs.getD i_7.toNat default).Blocks).getD k_28.toNat default).Stmts).getD j_54.toNat default).Def)), .slice a96 (((((((p.Funcs.getD i_7.toNat default).Blocks).getD k_28.toNat default).Stmts).getD j_54.toNat default).Uses).length) k97, .slice a98 (((((((p.Funcs.getD i_7.toNat default).Blocks).getD k_28.toNat default).Stmts).getD j_54.toNat default).Targets).length) k99]] [vi ((((((p.Funcs.getD i_7.toNat default).Blocks).getD k_28.toNat default).Stmts).getD j_54.toNat default).Op), .string (bs ((((((p.Funcs.getD i_7.toNat default).Blocks).getD k_28.toNat default).Stmts).getD j_54.toNat default).Def)), .slice a96 (((((((p.Funcs.getD i_7.toNat default).Blocks).getD k_28.toNat default).Stmts).getD j_54.toNat default).Uses).length) k97, .slice a98 (((((((p.Funcs.getD i_7.toNat default).Blocks).getD k_28.toNat default).Stmts).getD j_54.toNat default).Targets).length) k99]) fun c100 => ?_)))
    refine Jo 0 ?_; rintro a101 k102 rfl
    refine Jl [0, 16, 16] (Ent.crD (α := GStmt) (A := [O a96 k97 ((((((p.Funcs.getD i_7.toNat default).Blocks).getD k_28.toNat default).Stmts).getD j_54.toNat default).Uses), O a98 k99 ((((((p.Funcs.getD i_7.toNat default).Blocks).getD k_28.toNat default).Stmts).getD j_54.toNat default).Targets)]) _ (((((p.Funcs.getD i_7.toNat default).Blocks).getD k_28.toNat default).Stmts).getD j_54.toNat default) _ aB1 (innmk_GStmt (z0 := (((((p.Funcs.getD i_7.toNat default).Blocks).getD k_28.toNat default).Stmts).getD j_54.toNat default).Op) (z1 := (((((p.Funcs.getD i_7.toNat default).Blocks).getD k_28.toNat default).Stmts).getD j_54.toNat default).Def) aD1 aD1)) ?_
    refine Oa (ApD [8, 0] sl40 sl40 sz40) fun c103 => ?_
    refine Jo 0 ?_; rintro a104 k105 rfl
    refine FbD 72 0 fun _ => ?_
    have hn107 := la b1_53 ([(((((p.Funcs.getD i_7.toNat default).Blocks).getD k_28.toNat default).Stmts).getD j_54.toNat default)] : List GStmt)
    refine Oq (Vfa fo42_1 8) (Ost (SclF [8] sh40 [.string (bs ((((p.Funcs.getD i_7.toNat default).Blocks).getD k_28.toNat default).Name)), .slice a104 ((b1_53 ++ [(((((p.Funcs.getD i_7.toNat default).Blocks).getD k_28.toNat default).Stmts).getD j_54.toNat default)]).length) k105]) (KS ?_))
    refine Oq Vm (Oq Vadd (Oq Va (KS ?_)))
    exact Kg (r77, (b1_53 ++ [(((((p.Funcs.getD i_7.toNat default).Blocks).getD k_28.toNat default).Stmts).getD j_54.toNat default)]), (j_54 + 1), a104, k105) [1, 0, 7, 7, 7, 7, 7, 7, 8] ⟨(q3 hM57 (by simp only [g_CopyProgram_L2, h75, cs4])), aM1, aM1, aM1, aM1, iv1⟩
   intro h75
   have g108 := df h75
   obtain rfl : r52 = 0 := by omega
   refine Ke ?_
   have hR109 := q2 hM57 b1_53 (by simp only [g_CopyProgram_L2, h75, cs4])
   refine KS ?_
   refine Oq (Vfa fo39_1 7) (Oq (VldF sh37 7) (Oq (VldA sh42 5) (Oa (AsV sl37 sz37 [.agg #[.string (bs ((((p.Funcs.getD i_7.toNat default).Blocks).getD k_28.toNat default).Name)), vl a55 k56 b1_53]] [.string (bs ((((p.Funcs.getD i_7.toNat default).Blocks).getD k_28.toNat default).Name)), vl a55 k56 b1_53]) fun c110 => ?_)))
   refine Jo 0 ?_; rintro a111 k112 rfl
   refine Jl [0, 4] (Ent.crD (α := GBlock) (A := [D a55 k56 b1_53]) _ (GBlock.mk ((((p.Funcs.getD i_7.toNat default).Blocks).getD k_28.toNat default).Name) b1_53) _ aB1 (innmk_GBlock (z0 := (((p.Funcs.getD i_7.toNat default).Blocks).getD k_28.toNat default).Name) aD1)) ?_
   refine Oa (ApD [6, 0] sl37 sl37 sz37) fun c113 => ?_
   refine Jo 0 ?_; rintro a114 k115 rfl
   refine FbD 40 0 fun _ => ?_
   have hn117 := la f1_27 ([(GBlock.mk ((((p.Funcs.getD i_7.toNat default).Blocks).getD k_28.toNat default).Name) b1_53)] : List GBlock)
   refine Oq (Vfa fo39_1 6) (Ost (SclF [6] sh37 [.string (bs ((p.Funcs.getD i_7.toNat default).Name)), .slice a114 ((f1_27 ++ [(GBlock.mk ((((p.Funcs.getD i_7.toNat default).Blocks).getD k_28.toNat default).Name) b1_53)]).length) k115]) (KS ?_))
   refine Oq Vm (Oq Vadd (Oq Va (KS ?_)))
   exact Kg (r46, (f1_27 ++ [(GBlock.mk ((((p.Funcs.getD i_7.toNat default).Blocks).getD k_28.toNat default).Name) b1_53)]), (k_28 + 1), a114, k115) [1, 0, 5, 5, 5, 5, 6] ⟨(q3 hM31 (by simp only [g_CopyProgram_L1, h44, h75, hR109, cs4])), aM1, aM1, aM1, aM1, iv1⟩
  intro h44
  have g118 := df h44
  obtain rfl : r26 = 0 := by omega
  refine Ke ?_
  have hR119 := q2 hM31 f1_27 (by simp only [g_CopyProgram_L1, h44, cs4])
  refine KS ?_
  refine Oq (Vfa fo25_0 5) (Oq (VldF sh23 5) (Oq (VldA sh39 3) (Oa (AsV sl23 sz23 [.agg #[.string (bs ((p.Funcs.getD i_7.toNat default).Name)), vl a29 k30 f1_27]] [.string (bs ((p.Funcs.getD i_7.toNat default).Name)), vl a29 k30 f1_27]) fun c120 => ?_)))
  refine Jo 0 ?_; rintro a121 k122 rfl
  refine Jl [0, 2] (Ent.crD (α := GFunc) (A := [D a29 k30 f1_27]) _ (GFunc.mk ((p.Funcs.getD i_7.toNat default).Name) f1_27) _ aB1 (innmk_GFunc (z0 := (p.Funcs.getD i_7.toNat default).Name) aD1)) ?_
  refine Oa (ApD [4, 0] sl23 sl23 sz23) fun c123 => ?_
  refine Jo 0 ?_; rintro a124 k125 rfl
  refine FbD 40 0 fun _ => ?_
  have hn127 := la q0_6 ([(GFunc.mk ((p.Funcs.getD i_7.toNat default).Name) f1_27)] : List GFunc)
  refine Oq (Vfa fo25_0 4) (Ost (SclF [4] sh23 [.slice a124 ((q0_6 ++ [(GFunc.mk ((p.Funcs.getD i_7.toNat default).Name) f1_27)]).length) k125]) (KS ?_))
  refine Oq Vm (Oq Vadd (Oq Va (KS ?_)))
  exact Kg (r20, (q0_6 ++ [(GFunc.mk ((p.Funcs.getD i_7.toNat default).Name) f1_27)]), (i_7 + 1), a124, k125) [1, 0, 3, 3, 4] ⟨(q3 hM10 (by simp only [g_CopyProgram_L0, h18, h44, hR119, cs4])), aM1, aM1, aM1, aM1, iv1⟩
 intro h18
 have g128 := df h18
 obtain rfl : r5 = 0 := by omega
 refine Ke ?_
 have hR129 := q2 hM10 q0_6 (by simp only [g_CopyProgram_L0, h18, cs4])
 refine KS ?_
 refine Oq (VldA sh25 1) (Ost (Scl [2] sh25 [vl a8 k9 q0_6]) (KS ?_))
 have hq := q4 hrr (GProgram.mk q0_6) (by simp only [g_CopyProgram, h18, hR129, cs4]); subst hq
 exact Kr (vl a8 k9 q0_6) rfl (.cellN 0 rfl sh25 rfl (reads_Cl _ _) rfl .nil) [1] trivial
theorem fn7 (tP : Value) (ta : Option Addr) (tk : Nat) (tT : List Int) (tI : Int) (p : GProgram) (pa0 : Option Addr) (pk0 : Nat) (htI : 0 ≤ tI ∧ tI ≤ (tT.length : Int)) (hsp : SpP p) (rr : GProgram × Int) (hrr : tp_SpoilProgram tT tI p = rr) : FT Tryz.prog 7 #[tP, .agg #[vl pa0 pk0 p.Funcs]] [Cl tP [vl ta tk tT, vi tI], S ta tk tT, S pa0 pk0 p.Funcs] (fun g : Value => (0 ≤ rr.2 ∧ rr.2 ≤ (tT.length : Int))) (fun g => .agg #[g]) (fun g => [sl g rr.1.Funcs, Cl tP [vl ta tk tT, vi rr.2]]) := by
 refine FTi Tryz.func7 fun w0 M0 F0 => Fb 8 1 fun _ => Fo 1 fun ho2 => Fb 40 2 fun _ => ?_
 refine KS ?_
 refine Oa (Ab [vl pa0 pk0 p.Funcs]) fun p4 => Oa (Al ze25 [.slice none 0 0]) fun p5 => KS ?_
 refine Oq (VldA sh25 1) ?_
 refine letv (g_CopyProgram p) fun rv7 hg8 => ?_
 have hc9 := fn17 p pa0 pk0 rv7 hg8
 refine Oc [4] ca17 hc9 ?_
 rintro c6 -
 refine Jo 0 ?_; rintro a10 k11 rfl
 refine FbD 40 0 fun _ => ?_
 refine Oa (Al ze25 [.slice none 0 0]) fun p13 => Ost (Scl [0] sh25 [vl a10 k11 rv7.Funcs]) (KS ?_)
 refine Jp 0 fun hp14 => ?_
 refine JK_drawK [0, 1, 0, 0, 8, 24, 60, 127, 255] fmix ?_
 refine Dv [0] (Vfa fo25_0 0) (Dv [1] (VldF sh23 0) (Dv [] Vm (Dv [0] (Vfa fo25_0 0) (Dv [1] (VldF sh23 0) (Dv [] (Vlen sl23) ?_)))))
 refine letv (tp_Next tT tI (rv7.Funcs.length : Int)) fun rv15 hg16 => ?_
 have hs1 := spoil_1 hsp (by assumption) hg16
 refine Dx [5, 6] [5] [2, 0, 1] (fun G => vi rv15.1) [fun G => SP.fact (i64ok rv15.1 ∧ (0 ≤ rv15.2 ∧ rv15.2 ≤ (tT.length : Int)) ∧ (0 ≤ rv15.1 ∧ (rv15.1 < (rv7.Funcs.length : Int) ∨ rv15.1 = 0))), fun G => Cl tP [vl ta tk tT, vi rv15.2]] (fun G => xC [0, 0] ca10 (fn10 tP ta tk tT tI ((rv7.Funcs.length : Int)) pre pre rv15 hg16)) ?_
 refine Dx [2, 8] [] [0, 0] (fun G => (eptr 2 (vl a10 k11 rv7.Funcs) rv15.1.toNat)) [] (fun G => by refine xf 1 rfl ?_; rintro ⟨he17, he18, he19⟩; unfold i64ok at he17; exact xV (Vi sl23 0)) (Dv [] Va ?_)
 refine Dn ⟨by kernel_rfl, fun G => ?_⟩
 refine Jw2 [(0, tP), (4, p5), (5, p13), (6, (eptr 2 (vl a10 k11 rv7.Funcs) rv15.1.toNat))] [0, 1, 2, 3, 4, 6, 7] [SP.fact (i64ok rv15.1 ∧ (0 ≤ rv15.2 ∧ rv15.2 ≤ (tT.length : Int)) ∧ (0 ≤ rv15.1 ∧ (rv15.1 < (rv7.Funcs.length : Int) ∨ rv15.1 = 0))), Cl tP [vl ta tk tT, vi rv15.2]] ?_
 refine Jf 7 rfl ?_; rintro ⟨he20, he21, he22⟩
 unfold i64ok at he20
 refine Jk [1, 1, 1, 1, 2, 3, 5] ?_
 refine KS ?_
 refine JJ_openD_GFunc rv15.1.toNat 1 rfl rng fun a23 k24 hb25 => ?_
 refine FbD 40 1 fun _ => ?_
 refine JK_drawK [0, 1, 3, 7, 0, 0, 32, 96, 224, 480, 1008, 2047, 4095] fmix ?_
 refine Dv [] Vm (Dv [0] (Vn 0) (Dv [0] (Vfa fo39_1 0) (Dv [0] (VldF sh37 0) (Dv [] Vm (Dv [] Vm (Dv [0] (Vn 0) (Dv [0] (Vfa fo39_1 0) (Dv [0] (VldF sh37 0) (Dv [] (Vlen sl37) ?_)))))))))
 refine letv (tp_Next tT rv15.2 (((rv7.Funcs.getD rv15.1.toNat default).Blocks).length : Int)) fun rv27 hg28 => Dx [5, 7] [7] [2, 0, 1] (fun G => vi rv27.1) [fun G => SP.fact (i64ok rv27.1 ∧ (0 ≤ rv27.2 ∧ rv27.2 ≤ (tT.length : Int)) ∧ (0 ≤ rv27.1 ∧ (rv27.1 < (((rv7.Funcs.getD rv15.1.toNat default).Blocks).length : Int) ∨ rv27.1 = 0))), fun G => Cl tP [vl ta tk tT, vi rv27.2]] (fun G => xC [1, 0] ca10 (fn10 tP ta tk tT rv15.2 ((((rv7.Funcs.getD rv15.1.toNat default).Blocks).length : Int)) pre pre rv27 hg28)) ?_
 refine Dx [1, 8] [] [0, 0] (fun G => (eptr 2 (vl a23 k24 ((rv7.Funcs.getD rv15.1.toNat default).Blocks)) rv27.1.toNat)) [] (fun G => by refine xf 1 rfl ?_; rintro ⟨he29, he30, he31⟩; unfold i64ok at he29; exact xV (Vi sl37 0)) (Dv [] Va ?_)
 refine Dn ⟨by kernel_rfl, fun G => ?_⟩
 refine Jw2 [(0, tP), (4, p5), (5, p13), (6, (eptr 2 (vl a10 k11 rv7.Funcs) rv15.1.toNat)), (7, (eptr 2 (vl a23 k24 ((rv7.Funcs.getD rv15.1.toNat default).Blocks)) rv27.1.toNat))] [0, 1, 2, 3, 4, 5, 6] [SP.fact (i64ok rv27.1 ∧ (0 ≤ rv27.2 ∧ rv27.2 ≤ (tT.length : Int)) ∧ (0 ≤ rv27.1 ∧ (rv27.1 < (((rv7.Funcs.getD rv15.1.toNat default).Blocks).length : Int) ∨ rv27.1 = 0))), Cl tP [vl ta tk tT, vi rv27.2]] ?_
 refine Jf 7 rfl ?_; rintro ⟨he32, he33, he34⟩
 unfold i64ok at he32
 refine Jk [0, 0, 0, 0, 0, 1, 2, 4] ?_
 refine KS ?_
 refine Oq Vm ?_
 refine JJ_openD_GBlock rv27.1.toNat 1 rfl rng fun a35 k36 hb37 => ?_
 refine FbD 72 1 fun _ => ?_
 refine Oq (Vn 0) (Oq (Vfa fo42_1 0) (Oq (VldF sh40 0) (Oq (Vlen sl40) (Oq Veql (KS ?_)))))
 refine Kc ?_ ?_
 ·intro h39
  have g40 := eq_of_beq h39
  refine KS ?_
  refine JK_drawK [0, 0, 2, 6, 14, 0, 32, 96, 254, 511, 1023, 2047] fmix ?_
  refine Dv [] Vm (Dv [] Vm (Dv [0] (Vn 0) (Dv [0] (Vfa fo42_1 0) (Dv [0] (VldF sh40 0) (Dv [] Vm ?_)))))
  refine letv (tp_stmt tT rv27.2 3) fun rv43 hg44 => ?_
  refine Dx [6, 8] [8] [4, 0, 1, 1, 1] (fun G => .agg #[vi rv43.1.Op, .string (bs rv43.1.Def), (G.g 6 0), (G.g 6 1)]) [fun G => SP.fact (i64ok rv43.1.Op ∧ rv43.1.Def.b.length ≤ 140737488355328 ∧ (0 ≤ rv43.2 ∧ rv43.2 ≤ (tT.length : Int))), fun G => os (G.g 6 0) rv43.1.Uses, fun G => os (G.g 6 1) rv43.1.Targets, fun G => Cl tP [vl ta tk tT, vi rv43.2]] (fun G => xC [1, 0] ca11 (fn11 tP ta tk tT rv27.2 3 pre pre pre rv43 hg44)) (Dx [] [] [0] (fun G => (G.g 7 0)) [fun G => Cr (G.g 7 0) 1 [vi rv43.1.Op, .string (bs rv43.1.Def), (G.g 6 0), (G.g 6 1)]] (fun G => xA (AsV sl40 sz40 [.agg #[vi rv43.1.Op, .string (bs rv43.1.Def), (G.g 6 0), (G.g 6 1)]] [vi rv43.1.Op, .string (bs rv43.1.Def), (G.g 6 0), (G.g 6 1)])) ?_)
  have hn47 := la ((((rv7.Funcs.getD rv15.1.toNat default).Blocks).getD rv27.1.toNat default).Stmts) ([rv43.1] : List GStmt)
  refine Dx [1, 9, 10, 11, 13] [1, 10, 11, 13] [1, 0] (fun G => (G.g 8 0)) [fun G => ds (G.g 8 0) (((((rv7.Funcs.getD rv15.1.toNat default).Blocks).getD rv27.1.toNat default).Stmts ++ [rv43.1]) : List GStmt)] (fun G => by refine xf 1 rfl ?_; rintro ⟨he48, he49, he50⟩; unfold i64ok at he48; exact xp [4, 2, 2] rfl (Ent.crD (α := GStmt) (A := [os (G.g 6 0) rv43.1.Uses, os (G.g 6 1) rv43.1.Targets]) _ rv43.1 _ aB1 (innmk_GStmt (z0 := rv43.1.Op) (z1 := rv43.1.Def) aD1 aD1)) (xA (ApD [1, 0] sl40 sl40 sz40))) (Dv [0] (Vn 0) (Dv [0] (Vfa fo42_1 0) (Dx0 [0, 14] [0] [1, 0] [fun G => dh (vl a23 k24 ((rv7.Funcs.getD rv15.1.toNat default).Blocks)) ((rv7.Funcs.getD rv15.1.toNat default).Blocks : List GBlock) rv27.1.toNat [.string (bs ((((rv7.Funcs.getD rv15.1.toNat default).Blocks).getD rv27.1.toNat default).Name)), (G.g 8 0)]] (fun G => x1 1 rfl ds_one fun ho51 => (xS (SoHr (α := GBlock) [0] sh40 [(G.g 8 0)] [.string (bs ((((rv7.Funcs.getD rv15.1.toNat default).Blocks).getD rv27.1.toNat default).Name)), (G.g 8 0)] (cells_of_one ho51) rfl (by simp only [List.all_cons, List.all_nil, ho51, Bool.and_true, Bool.true_and] <;> rfl)))) ?_)))
  refine Dn ⟨by kernel_rfl, fun G => ?_⟩
  refine Jw2 [(4, p5), (5, p13)] [2, 3, 4, 5, 6, 7] [SP.fact (i64ok rv43.1.Op ∧ rv43.1.Def.b.length ≤ 140737488355328 ∧ (0 ≤ rv43.2 ∧ rv43.2 ≤ (tT.length : Int))), Cl tP [vl ta tk tT, vi rv43.2], ds (G.g 8 0) (((((rv7.Funcs.getD rv15.1.toNat default).Blocks).getD rv27.1.toNat default).Stmts ++ [rv43.1]) : List GStmt), dh (vl a23 k24 ((rv7.Funcs.getD rv15.1.toNat default).Blocks)) ((rv7.Funcs.getD rv15.1.toNat default).Blocks : List GBlock) rv27.1.toNat [.string (bs ((((rv7.Funcs.getD rv15.1.toNat default).Blocks).getD rv27.1.toNat default).Name)), (G.g 8 0)]] ?_
  generalize G.g 8 0 = c46
  refine Jf 6 rfl ?_; rintro ⟨he52, he53, he54⟩
  unfold i64ok at he52
  refine Jk [0, 0, 0, 0, 1, 2, 4, 4, 4] ?_
  refine Jo 7 ?_; rintro a55 k56 rfl
  refine FbD 72 7 fun _ => ?_
  refine KS ?_
  refine Oq (VldA sh25 1) (Ost (Scl [2] sh25 [vl a10 k11 rv7.Funcs]) (KS ?_))
  refine Jl [8, 7] (Ent.closeD (A := [D a55 k56 (((((rv7.Funcs.getD rv15.1.toNat default).Blocks).getD rv27.1.toNat default).Stmts ++ [rv43.1]) : List GStmt)]) _ _ _ _ (GBlock.mk ((((rv7.Funcs.getD rv15.1.toNat default).Blocks).getD rv27.1.toNat default).Name) ((((rv7.Funcs.getD rv15.1.toNat default).Blocks).getD rv27.1.toNat default).Stmts ++ [rv43.1])) (innmk_GBlock (z0 := (((rv7.Funcs.getD rv15.1.toNat default).Blocks).getD rv27.1.toNat default).Name) aD1)) ?_
  refine Jl [2, 0] (Ent.closeD (A := [ds (vl a23 k24 ((rv7.Funcs.getD rv15.1.toNat default).Blocks)) ((((rv7.Funcs.getD rv15.1.toNat default).Blocks).set rv27.1.toNat (GBlock.mk ((((rv7.Funcs.getD rv15.1.toNat default).Blocks).getD rv27.1.toNat default).Name) ((((rv7.Funcs.getD rv15.1.toNat default).Blocks).getD rv27.1.toNat default).Stmts ++ [rv43.1]))) : List GBlock)]) _ _ _ _ (GFunc.mk ((rv7.Funcs.getD rv15.1.toNat default).Name) (((rv7.Funcs.getD rv15.1.toNat default).Blocks).set rv27.1.toNat (GBlock.mk ((((rv7.Funcs.getD rv15.1.toNat default).Blocks).getD rv27.1.toNat default).Name) ((((rv7.Funcs.getD rv15.1.toNat default).Blocks).getD rv27.1.toNat default).Stmts ++ [rv43.1])))) (innmk_GFunc (z0 := (rv7.Funcs.getD rv15.1.toNat default).Name) aD1)) ?_
  refine Jl [0] (Ent.dsF _ _) ?_
  have hq := q4 hrr ((GProgram.mk (rv7.Funcs.set rv15.1.toNat (GFunc.mk ((rv7.Funcs.getD rv15.1.toNat default).Name) (((rv7.Funcs.getD rv15.1.toNat default).Blocks).set rv27.1.toNat (GBlock.mk ((((rv7.Funcs.getD rv15.1.toNat default).Blocks).getD rv27.1.toNat default).Name) ((((rv7.Funcs.getD rv15.1.toNat default).Blocks).getD rv27.1.toNat default).Stmts ++ [rv43.1])))))), rv43.2) (by simp only [tp_SpoilProgram, h39, hg8, hg16, hg28, hg44, cs4]); subst hq
  exact Kr (vl a10 k11 rv7.Funcs) rfl (.cellN 1 rfl sh25 rfl (reads_Cl _ _) rfl .nil) [0, 6] en
 intro h39
 have g58 := ne_of_beq_false h39
 refine KS ?_
 refine JK_drawK [0, 1, 3, 7, 0, 0, 32, 96, 224, 480, 1008, 2047, 4095] fmix ?_
 refine Dv [] Vm (Dv [0] (Vn 0) (Dv [0] (Vfa fo42_1 0) (Dv [0] (VldF sh40 0) (Dv [] Vm (Dv [] Vm (Dv [0] (Vn 0) (Dv [0] (Vfa fo42_1 0) (Dv [0] (VldF sh40 0) (Dv [] (Vlen sl40) ?_)))))))))
 refine letv (tp_Next tT rv27.2 (((((rv7.Funcs.getD rv15.1.toNat default).Blocks).getD rv27.1.toNat default).Stmts).length : Int)) fun rv59 hg60 => ?_
 have hs2 := spoil_2 hsp (by assumption) rv15.1.toNat rv27.1.toNat
 have hs3 := spoil_3 hsp (by assumption) rv15.1.toNat rv27.1.toNat rv59.1.toNat
 refine Dx [6, 8] [8] [2, 0, 1] (fun G => vi rv59.1) [fun G => SP.fact (i64ok rv59.1 ∧ (0 ≤ rv59.2 ∧ rv59.2 ≤ (tT.length : Int)) ∧ (0 ≤ rv59.1 ∧ (rv59.1 < (((((rv7.Funcs.getD rv15.1.toNat default).Blocks).getD rv27.1.toNat default).Stmts).length : Int) ∨ rv59.1 = 0))), fun G => Cl tP [vl ta tk tT, vi rv59.2]] (fun G => xC [1, 0] ca10 (fn10 tP ta tk tT rv27.2 ((((((rv7.Funcs.getD rv15.1.toNat default).Blocks).getD rv27.1.toNat default).Stmts).length : Int)) pre pre rv59 hg60)) ?_
 refine Dx [1, 9] [] [0, 0] (fun G => (eptr 4 (.slice a35 (((((rv7.Funcs.getD rv15.1.toNat default).Blocks).getD rv27.1.toNat default).Stmts).length) k36) rv59.1.toNat)) [] (fun G => by refine xf 1 rfl ?_; rintro ⟨he61, he62, he63⟩; unfold i64ok at he61; exact xV (Vi sl40 0)) (Dv [] Va ?_)
 refine Dn ⟨by kernel_rfl, fun G => ?_⟩
 refine Jw2 [(0, tP), (4, p5), (5, p13), (6, (eptr 2 (vl a10 k11 rv7.Funcs) rv15.1.toNat)), (7, (eptr 2 (vl a23 k24 ((rv7.Funcs.getD rv15.1.toNat default).Blocks)) rv27.1.toNat)), (8, (eptr 4 (.slice a35 (((((rv7.Funcs.getD rv15.1.toNat default).Blocks).getD rv27.1.toNat default).Stmts).length) k36) rv59.1.toNat))] [0, 1, 2, 3, 4, 5, 6, 7] [SP.fact (i64ok rv59.1 ∧ (0 ≤ rv59.2 ∧ rv59.2 ≤ (tT.length : Int)) ∧ (0 ≤ rv59.1 ∧ (rv59.1 < (((((rv7.Funcs.getD rv15.1.toNat default).Blocks).getD rv27.1.toNat default).Stmts).length : Int) ∨ rv59.1 = 0))), Cl tP [vl ta tk tT, vi rv59.2]] ?_
 refine Jf 8 rfl ?_; rintro ⟨he64, he65, he66⟩
 unfold i64ok at he64
 refine Jk [0, 0, 0, 0, 0, 0, 1, 2, 4] ?_
 refine KS ?_
 refine Oq Vm ?_
 refine letv (tp_Next tT rv59.2 10) fun rv67 hg68 => ?_
 have hs4 := Next_r hg68 aM1
 have hc69 := fn10 tP ta tk tT rv59.2 10 pre pre rv67 hg68
 refine Oc [8, 6] ca10 hc69 ?_
 rintro - ⟨he70, he71, he72⟩
 unfold i64ok at he70
 refine KS ?_
 refine Oq Veql (Oq Va (KS ?_))
 refine Kc ?_ ?_
 ·intro h73
  have g74 := eq_of_beq h73
  refine KS ?_
  refine Oq Vm (Oa (AsV sl36 sz36 [.string (bs (Str.mk [109])), .string (bs (Str.mk [102])), .string (bs (Str.mk [49])), .string (bs (Str.mk [101, 110, 100])), .string (bs (Str.mk []))] [.string (bs (Str.mk [109])), .string (bs (Str.mk [102])), .string (bs (Str.mk [49])), .string (bs (Str.mk [101, 110, 100])), .string (bs (Str.mk []))]) fun c75 => ?_)
  refine Jo 0 ?_; rintro a76 k77 rfl
  refine Oq Vm ?_
  refine letv (tp_Next tT rv67.2 5) fun rv78 hg79 => ?_
  have hs4 := Next_r hg79 aM1
  have hc80 := fn10 tP ta tk tT rv67.2 5 pre pre rv78 hg79
  refine Oc [1, 7] ca10 hc80 ?_
  rintro - ⟨he81, he82, he83⟩
  unfold i64ok at he81
  refine Jl [1] (Ent.crOs (α := Str) (A := []) _ ([(Str.mk [109]), (Str.mk [102]), (Str.mk [49]), (Str.mk [101, 110, 100]), (Str.mk [])] : List Str) _ aB1 (fun h => ⟨[.string (bs (Str.mk [109]))], [.string (bs (Str.mk [102])), .string (bs (Str.mk [49])), .string (bs (Str.mk [101, 110, 100])), .string (bs (Str.mk []))], rfl, (fun _ => ⟨rfl, by first | omega | (simp; done) | (dsimp only; omega) | exact lit_bl rfl⟩) h, ⟨[.string (bs (Str.mk [102]))], [.string (bs (Str.mk [49])), .string (bs (Str.mk [101, 110, 100])), .string (bs (Str.mk []))], rfl, (fun _ => ⟨rfl, by first | omega | (simp; done) | (dsimp only; omega) | exact lit_bl rfl⟩) h, ⟨[.string (bs (Str.mk [49]))], [.string (bs (Str.mk [101, 110, 100])), .string (bs (Str.mk []))], rfl, (fun _ => ⟨rfl, by first | omega | (simp; done) | (dsimp only; omega) | exact lit_bl rfl⟩) h, ⟨[.string (bs (Str.mk [101, 110, 100]))], [.string (bs (Str.mk []))], rfl, (fun _ => ⟨rfl, by first | omega | (simp; done) | (dsimp only; omega) | exact lit_bl rfl⟩) h, ⟨[.string (bs (Str.mk []))], [], rfl, (fun _ => ⟨rfl, by first | omega | (simp; done) | (dsimp only; omega) | exact lit_bl rfl⟩) h, rfl⟩⟩⟩⟩⟩)) ?_
  refine Oq (Vi sl36 0) ?_
  refine Fb 16 0 fun _ => ?_
  refine FoS 0 fun ho85 => ?_
  have hb86 := okS (i := rv78.1.toNat) ho85 rng
  refine Oq (VldS sh9 0) (Oq (Vn 4) (Oq (Vfa fo39_0 4) (Ost (SoH (α := GFunc) [4] sh9 [.string (bs ([(Str.mk [109]), (Str.mk [102]), (Str.mk [49]), (Str.mk [101, 110, 100]), (Str.mk [])].getD rv78.1.toNat default)), vl a23 k24 ((rv7.Funcs.getD rv15.1.toNat default).Blocks)]) (KS ?_))))
  refine Oq (VldA sh25 5) (Ost (Scl [6] sh25 [vl a10 k11 rv7.Funcs]) (KS ?_))
  refine Jl [4, 4] (Ent.closeS (A := [D a35 k36 ((((rv7.Funcs.getD rv15.1.toNat default).Blocks).getD rv27.1.toNat default).Stmts)]) _ _ _ _ default (innmk_GBlock (z0 := (((rv7.Funcs.getD rv15.1.toNat default).Blocks).getD rv27.1.toNat default).Name) aD1)) ?_
  refine Jl [2, 0] (Ent.closeD (A := [D a23 k24 ((rv7.Funcs.getD rv15.1.toNat default).Blocks)]) _ _ _ _ (GFunc.mk ([(Str.mk [109]), (Str.mk [102]), (Str.mk [49]), (Str.mk [101, 110, 100]), (Str.mk [])].getD rv78.1.toNat default) ((rv7.Funcs.getD rv15.1.toNat default).Blocks)) (innmk_GFunc (z0 := ([(Str.mk [109]), (Str.mk [102]), (Str.mk [49]), (Str.mk [101, 110, 100]), (Str.mk [])].getD rv78.1.toNat default)) aD1)) ?_
  refine Jl [0] (Ent.dsF _ _) ?_
  have hq := q4 hrr ((GProgram.mk (rv7.Funcs.set rv15.1.toNat (GFunc.mk ([(Str.mk [109]), (Str.mk [102]), (Str.mk [49]), (Str.mk [101, 110, 100]), (Str.mk [])].getD rv78.1.toNat default) ((rv7.Funcs.getD rv15.1.toNat default).Blocks)))), rv78.2) (by simp only [tp_SpoilProgram, h39, h73, hg8, hg16, hg28, hg60, hg68, hg79, cs4]); subst hq
  exact Kr (vl a10 k11 rv7.Funcs) rfl (.cellN 1 rfl sh25 rfl (reads_Cl _ _) rfl .nil) [0, 3] en
 intro h73
 have g87 := ne_of_beq_false h73
 refine KS ?_
 refine Oq Veql (Oq Va (KS ?_))
 refine Kc ?_ ?_
 ·intro h88
  have g89 := eq_of_beq h88
  refine KS ?_
  refine Oq Vm (Oa (AsV sl36 sz36 [.string (bs (Str.mk [97])), .string (bs (Str.mk [98])), .string (bs (Str.mk [114, 101, 116, 117, 114, 110])), .string (bs (Str.mk [113, 95, 49])), .string (bs (Str.mk [120, 45, 121]))] [.string (bs (Str.mk [97])), .string (bs (Str.mk [98])), .string (bs (Str.mk [114, 101, 116, 117, 114, 110])), .string (bs (Str.mk [113, 95, 49])), .string (bs (Str.mk [120, 45, 121]))]) fun c90 => ?_)
  refine Jo 0 ?_; rintro a91 k92 rfl
  refine Oq Vm ?_
  refine letv (tp_Next tT rv67.2 5) fun rv93 hg94 => ?_
  have hs4 := Next_r hg94 aM1
  have hc95 := fn10 tP ta tk tT rv67.2 5 pre pre rv93 hg94
  refine Oc [1, 7] ca10 hc95 ?_
  rintro - ⟨he96, he97, he98⟩
  unfold i64ok at he96
  refine Jl [1] (Ent.crOs (α := Str) (A := []) _ ([(Str.mk [97]), (Str.mk [98]), (Str.mk [114, 101, 116, 117, 114, 110]), (Str.mk [113, 95, 49]), (Str.mk [120, 45, 121])] : List Str) _ aB1 (fun h => ⟨[.string (bs (Str.mk [97]))], [.string (bs (Str.mk [98])), .string (bs (Str.mk [114, 101, 116, 117, 114, 110])), .string (bs (Str.mk [113, 95, 49])), .string (bs (Str.mk [120, 45, 121]))], rfl, (fun _ => ⟨rfl, by first | omega | (simp; done) | (dsimp only; omega) | exact lit_bl rfl⟩) h, ⟨[.string (bs (Str.mk [98]))], [.string (bs (Str.mk [114, 101, 116, 117, 114, 110])), .string (bs (Str.mk [113, 95, 49])), .string (bs (Str.mk [120, 45, 121]))], rfl, (fun _ => ⟨rfl, by first | omega | (simp; done) | (dsimp only; omega) | exact lit_bl rfl⟩) h, ⟨[.string (bs (Str.mk [114, 101, 116, 117, 114, 110]))], [.string (bs (Str.mk [113, 95, 49])), .string (bs (Str.mk [120, 45, 121]))], rfl, (fun _ => ⟨rfl, by first | omega | (simp; done) | (dsimp only; omega) | exact lit_bl rfl⟩) h, ⟨[.string (bs (Str.mk [113, 95, 49]))], [.string (bs (Str.mk [120, 45, 121]))], rfl, (fun _ => ⟨rfl, by first | omega | (simp; done) | (dsimp only; omega) | exact lit_bl rfl⟩) h, ⟨[.string (bs (Str.mk [120, 45, 121]))], [], rfl, (fun _ => ⟨rfl, by first | omega | (simp; done) | (dsimp only; omega) | exact lit_bl rfl⟩) h, rfl⟩⟩⟩⟩⟩)) ?_
  refine Oq (Vi sl36 0) ?_
  refine Fb 16 0 fun _ => ?_
  refine FoS 0 fun ho100 => ?_
  have hb101 := okS (i := rv93.1.toNat) ho100 rng
  refine Oq (VldS sh9 0) (Oq (Vn 2) (Oq (Vfa fo42_0 2) (Ost (SoH (α := GBlock) [2] sh9 [.string (bs ([(Str.mk [97]), (Str.mk [98]), (Str.mk [114, 101, 116, 117, 114, 110]), (Str.mk [113, 95, 49]), (Str.mk [120, 45, 121])].getD rv93.1.toNat default)), .slice a35 (((((rv7.Funcs.getD rv15.1.toNat default).Blocks).getD rv27.1.toNat default).Stmts).length) k36]) (KS ?_))))
  refine Oq (VldA sh25 5) (Ost (Scl [6] sh25 [vl a10 k11 rv7.Funcs]) (KS ?_))
  refine Jl [1, 3] (Ent.closeD (A := [D a35 k36 ((((rv7.Funcs.getD rv15.1.toNat default).Blocks).getD rv27.1.toNat default).Stmts)]) _ _ _ _ (GBlock.mk ([(Str.mk [97]), (Str.mk [98]), (Str.mk [114, 101, 116, 117, 114, 110]), (Str.mk [113, 95, 49]), (Str.mk [120, 45, 121])].getD rv93.1.toNat default) ((((rv7.Funcs.getD rv15.1.toNat default).Blocks).getD rv27.1.toNat default).Stmts)) (innmk_GBlock (z0 := ([(Str.mk [97]), (Str.mk [98]), (Str.mk [114, 101, 116, 117, 114, 110]), (Str.mk [113, 95, 49]), (Str.mk [120, 45, 121])].getD rv93.1.toNat default)) aD1)) ?_
  refine Jl [4, 0] (Ent.closeD (A := [ds (vl a23 k24 ((rv7.Funcs.getD rv15.1.toNat default).Blocks)) ((((rv7.Funcs.getD rv15.1.toNat default).Blocks).set rv27.1.toNat (GBlock.mk ([(Str.mk [97]), (Str.mk [98]), (Str.mk [114, 101, 116, 117, 114, 110]), (Str.mk [113, 95, 49]), (Str.mk [120, 45, 121])].getD rv93.1.toNat default) ((((rv7.Funcs.getD rv15.1.toNat default).Blocks).getD rv27.1.toNat default).Stmts))) : List GBlock)]) _ _ _ _ (GFunc.mk ((rv7.Funcs.getD rv15.1.toNat default).Name) (((rv7.Funcs.getD rv15.1.toNat default).Blocks).set rv27.1.toNat (GBlock.mk ([(Str.mk [97]), (Str.mk [98]), (Str.mk [114, 101, 116, 117, 114, 110]), (Str.mk [113, 95, 49]), (Str.mk [120, 45, 121])].getD rv93.1.toNat default) ((((rv7.Funcs.getD rv15.1.toNat default).Blocks).getD rv27.1.toNat default).Stmts)))) (innmk_GFunc (z0 := (rv7.Funcs.getD rv15.1.toNat default).Name) aD1)) ?_
  refine Jl [0] (Ent.dsF _ _) ?_
  have hq := q4 hrr ((GProgram.mk (rv7.Funcs.set rv15.1.toNat (GFunc.mk ((rv7.Funcs.getD rv15.1.toNat default).Name) (((rv7.Funcs.getD rv15.1.toNat default).Blocks).set rv27.1.toNat (GBlock.mk ([(Str.mk [97]), (Str.mk [98]), (Str.mk [114, 101, 116, 117, 114, 110]), (Str.mk [113, 95, 49]), (Str.mk [120, 45, 121])].getD rv93.1.toNat default) ((((rv7.Funcs.getD rv15.1.toNat default).Blocks).getD rv27.1.toNat default).Stmts)))))), rv93.2) (by simp only [tp_SpoilProgram, h39, h73, h88, hg8, hg16, hg28, hg60, hg68, hg94, cs4]); subst hq
  exact Kr (vl a10 k11 rv7.Funcs) rfl (.cellN 1 rfl sh25 rfl (reads_Cl _ _) rfl .nil) [0, 3] en
 intro h88
 have g102 := ne_of_beq_false h88
 refine KS ?_
 refine Oq Veql (Oq Va (KS ?_))
 refine Kc ?_ ?_
 ·intro h103
  have g104 := eq_of_beq h103
  refine KS ?_
  refine Oq Vm (Oq Vm ?_)
  refine letv (tp_Next tT rv67.2 11) fun rv105 hg106 => ?_
  have hs4 := Next_r hg106 aM1
  have hc107 := fn10 tP ta tk tT rv67.2 11 pre pre rv105 hg106
  refine Oc [0, 6] ca10 hc107 ?_
  rintro - ⟨he108, he109, he110⟩
  unfold i64ok at he108
  refine JJ_openD_GStmt rv59.1.toNat 2 rfl rng fun a111 k112 a113 k114 hb115 hb116 => ?_
  unfold i64ok at hb115
  refine Fb 16 1 fun _ => ?_
  refine FoS 1 fun ho118 => ?_
  refine Fb 16 2 fun _ => ?_
  refine FoS 2 fun ho120 => ?_
  refine Oq (Vn 0) (Oq (Vfa fo44_0 0) (Ost (SoH (α := GStmt) [0] sh3 [vi rv105.1, .string (bs ((((((rv7.Funcs.getD rv15.1.toNat default).Blocks).getD rv27.1.toNat default).Stmts).getD rv59.1.toNat default).Def)), .slice a111 (((((((rv7.Funcs.getD rv15.1.toNat default).Blocks).getD rv27.1.toNat default).Stmts).getD rv59.1.toNat default).Uses).length) k112, .slice a113 (((((((rv7.Funcs.getD rv15.1.toNat default).Blocks).getD rv27.1.toNat default).Stmts).getD rv59.1.toNat default).Targets).length) k114]) (KS ?_)))
  refine Oq (VldA sh25 6) (Ost (Scl [7] sh25 [vl a10 k11 rv7.Funcs]) (KS ?_))
  refine Jl [1, 1, 1] (Ent.closeD (A := [O a111 k112 ((((((rv7.Funcs.getD rv15.1.toNat default).Blocks).getD rv27.1.toNat default).Stmts).getD rv59.1.toNat default).Uses), O a113 k114 ((((((rv7.Funcs.getD rv15.1.toNat default).Blocks).getD rv27.1.toNat default).Stmts).getD rv59.1.toNat default).Targets)]) _ _ _ _ (GStmt.mk rv105.1 ((((((rv7.Funcs.getD rv15.1.toNat default).Blocks).getD rv27.1.toNat default).Stmts).getD rv59.1.toNat default).Def) ((((((rv7.Funcs.getD rv15.1.toNat default).Blocks).getD rv27.1.toNat default).Stmts).getD rv59.1.toNat default).Uses) ((((((rv7.Funcs.getD rv15.1.toNat default).Blocks).getD rv27.1.toNat default).Stmts).getD rv59.1.toNat default).Targets)) (innmk_GStmt (z0 := rv105.1) (z1 := (((((rv7.Funcs.getD rv15.1.toNat default).Blocks).getD rv27.1.toNat default).Stmts).getD rv59.1.toNat default).Def) aD1 aD1)) ?_
  refine Jl [3, 0] (Ent.closeD (A := [ds (.slice a35 (((((rv7.Funcs.getD rv15.1.toNat default).Blocks).getD rv27.1.toNat default).Stmts).length) k36) (((((rv7.Funcs.getD rv15.1.toNat default).Blocks).getD rv27.1.toNat default).Stmts).set rv59.1.toNat (GStmt.mk rv105.1 ((((((rv7.Funcs.getD rv15.1.toNat default).Blocks).getD rv27.1.toNat default).Stmts).getD rv59.1.toNat default).Def) ((((((rv7.Funcs.getD rv15.1.toNat default).Blocks).getD rv27.1.toNat default).Stmts).getD rv59.1.toNat default).Uses) ((((((rv7.Funcs.getD rv15.1.toNat default).Blocks).getD rv27.1.toNat default).Stmts).getD rv59.1.toNat default).Targets)))]) _ _ _ _ (GBlock.mk ((((rv7.Funcs.getD rv15.1.toNat default).Blocks).getD rv27.1.toNat default).Name) (((((rv7.Funcs.getD rv15.1.toNat default).Blocks).getD rv27.1.toNat default).Stmts).set rv59.1.toNat (GStmt.mk rv105.1 ((((((rv7.Funcs.getD rv15.1.toNat default).Blocks).getD rv27.1.toNat default).Stmts).getD rv59.1.toNat default).Def) ((((((rv7.Funcs.getD rv15.1.toNat default).Blocks).getD rv27.1.toNat default).Stmts).getD rv59.1.toNat default).Uses) ((((((rv7.Funcs.getD rv15.1.toNat default).Blocks).getD rv27.1.toNat default).Stmts).getD rv59.1.toNat default).Targets)))) (innmk_GBlock (z0 := (((rv7.Funcs.getD rv15.1.toNat default).Blocks).getD rv27.1.toNat default).Name) aD1)) ?_
  refine Jl [3, 0] (Ent.closeD (A := [ds (vl a23 k24 ((rv7.Funcs.getD rv15.1.toNat default).Blocks)) (((rv7.Funcs.getD rv15.1.toNat default).Blocks).set rv27.1.toNat (GBlock.mk ((((rv7.Funcs.getD rv15.1.toNat default).Blocks).getD rv27.1.toNat default).Name) (((((rv7.Funcs.getD rv15.1.toNat default).Blocks).getD rv27.1.toNat default).Stmts).set rv59.1.toNat (GStmt.mk rv105.1 ((((((rv7.Funcs.getD rv15.1.toNat default).Blocks).getD rv27.1.toNat default).Stmts).getD rv59.1.toNat default).Def) ((((((rv7.Funcs.getD rv15.1.toNat default).Blocks).getD rv27.1.toNat default).Stmts).getD rv59.1.toNat default).Uses) ((((((rv7.Funcs.getD rv15.1.toNat default).Blocks).getD rv27.1.toNat default).Stmts).getD rv59.1.toNat default).Targets)))))]) _ _ _ _ (GFunc.mk ((rv7.Funcs.getD rv15.1.toNat default).Name) (((rv7.Funcs.getD rv15.1.toNat default).Blocks).set rv27.1.toNat (GBlock.mk ((((rv7.Funcs.getD rv15.1.toNat default).Blocks).getD rv27.1.toNat default).Name) (((((rv7.Funcs.getD rv15.1.toNat default).Blocks).getD rv27.1.toNat default).Stmts).set rv59.1.toNat (GStmt.mk rv105.1 ((((((rv7.Funcs.getD rv15.1.toNat default).Blocks).getD rv27.1.toNat default).Stmts).getD rv59.1.toNat default).Def) ((((((rv7.Funcs.getD rv15.1.toNat default).Blocks).getD rv27.1.toNat default).Stmts).getD rv59.1.toNat default).Uses) ((((((rv7.Funcs.getD rv15.1.toNat default).Blocks).getD rv27.1.toNat default).Stmts).getD rv59.1.toNat default).Targets)))))) (innmk_GFunc (z0 := (rv7.Funcs.getD rv15.1.toNat default).Name) aD1)) ?_
  refine Jl [0] (Ent.dsF _ _) ?_
  have hq := q4 hrr ((GProgram.mk (rv7.Funcs.set rv15.1.toNat (GFunc.mk ((rv7.Funcs.getD rv15.1.toNat default).Name) (((rv7.Funcs.getD rv15.1.toNat default).Blocks).set rv27.1.toNat (GBlock.mk ((((rv7.Funcs.getD rv15.1.toNat default).Blocks).getD rv27.1.toNat default).Name) (((((rv7.Funcs.getD rv15.1.toNat default).Blocks).getD rv27.1.toNat default).Stmts).set rv59.1.toNat (GStmt.mk rv105.1 ((((((rv7.Funcs.getD rv15.1.toNat default).Blocks).getD rv27.1.toNat default).Stmts).getD rv59.1.toNat default).Def) ((((((rv7.Funcs.getD rv15.1.toNat default).Blocks).getD rv27.1.toNat default).Stmts).getD rv59.1.toNat default).Uses) ((((((rv7.Funcs.getD rv15.1.toNat default).Blocks).getD rv27.1.toNat default).Stmts).getD rv59.1.toNat default).Targets)))))))), rv105.2) (by simp only [tp_SpoilProgram, h39, h73, h88, h103, hg8, hg16, hg28, hg60, hg68, hg106, cs4]); subst hq
  exact Kr (vl a10 k11 rv7.Funcs) rfl (.cellN 1 rfl sh25 rfl (reads_Cl _ _) rfl .nil) [0, 2] en
 intro h103
 have g121 := ne_of_beq_false h103
 refine KS ?_
 refine Oq Veql (Oq Va (KS ?_))
 refine Kc ?_ ?_
 ·intro h122
  have g123 := eq_of_beq h122
  refine KS ?_
  refine Oq Vm (Oa (AsV sl36 sz36 [.string (bs (Str.mk [])), .string (bs (Str.mk [120])), .string (bs (Str.mk [117, 115, 101])), .string (bs (Str.mk [108, 111, 110, 103, 101, 114, 95, 116, 104, 97, 110, 95, 49, 54, 95, 98, 121, 116, 101, 115]))] [.string (bs (Str.mk [])), .string (bs (Str.mk [120])), .string (bs (Str.mk [117, 115, 101])), .string (bs (Str.mk [108, 111, 110, 103, 101, 114, 95, 116, 104, 97, 110, 95, 49, 54, 95, 98, 121, 116, 101, 115]))]) fun c124 => ?_)
  refine Jo 0 ?_; rintro a125 k126 rfl
  refine Oq Vm ?_
  refine letv (tp_Next tT rv67.2 4) fun rv127 hg128 => ?_
  have hs4 := Next_r hg128 aM1
  have hc129 := fn10 tP ta tk tT rv67.2 4 pre pre rv127 hg128
  refine Oc [1, 7] ca10 hc129 ?_
  rintro - ⟨he130, he131, he132⟩
  unfold i64ok at he130
  refine Jl [1] (Ent.crOs (α := Str) (A := []) _ ([(Str.mk []), (Str.mk [120]), (Str.mk [117, 115, 101]), (Str.mk [108, 111, 110, 103, 101, 114, 95, 116, 104, 97, 110, 95, 49, 54, 95, 98, 121, 116, 101, 115])] : List Str) _ aB1 (fun h => ⟨[.string (bs (Str.mk []))], [.string (bs (Str.mk [120])), .string (bs (Str.mk [117, 115, 101])), .string (bs (Str.mk [108, 111, 110, 103, 101, 114, 95, 116, 104, 97, 110, 95, 49, 54, 95, 98, 121, 116, 101, 115]))], rfl, (fun _ => ⟨rfl, by first | omega | (simp; done) | (dsimp only; omega) | exact lit_bl rfl⟩) h, ⟨[.string (bs (Str.mk [120]))], [.string (bs (Str.mk [117, 115, 101])), .string (bs (Str.mk [108, 111, 110, 103, 101, 114, 95, 116, 104, 97, 110, 95, 49, 54, 95, 98, 121, 116, 101, 115]))], rfl, (fun _ => ⟨rfl, by first | omega | (simp; done) | (dsimp only; omega) | exact lit_bl rfl⟩) h, ⟨[.string (bs (Str.mk [117, 115, 101]))], [.string (bs (Str.mk [108, 111, 110, 103, 101, 114, 95, 116, 104, 97, 110, 95, 49, 54, 95, 98, 121, 116, 101, 115]))], rfl, (fun _ => ⟨rfl, by first | omega | (simp; done) | (dsimp only; omega) | exact lit_bl rfl⟩) h, ⟨[.string (bs (Str.mk [108, 111, 110, 103, 101, 114, 95, 116, 104, 97, 110, 95, 49, 54, 95, 98, 121, 116, 101, 115]))], [], rfl, (fun _ => ⟨rfl, by first | omega | (simp; done) | (dsimp only; omega) | exact lit_bl rfl⟩) h, rfl⟩⟩⟩⟩)) ?_
  refine Oq (Vi sl36 0) ?_
  refine Fb 16 0 fun _ => ?_
  refine FoS 0 fun ho134 => ?_
  have hb135 := okS (i := rv127.1.toNat) ho134 rng
  refine Oq (VldS sh9 0) ?_
  refine JJ_openD_GStmt rv59.1.toNat 3 rfl rng fun a136 k137 a138 k139 hb140 hb141 => ?_
  unfold i64ok at hb140
  refine Fb 16 1 fun _ => ?_
  refine FoS 1 fun ho143 => ?_
  refine Fb 16 2 fun _ => ?_
  refine FoS 2 fun ho145 => ?_
  refine Oq (Vn 0) (Oq (Vfa fo44_1 0) (Ost (SoH (α := GStmt) [0] sh9 [vi ((((((rv7.Funcs.getD rv15.1.toNat default).Blocks).getD rv27.1.toNat default).Stmts).getD rv59.1.toNat default).Op), .string (bs ([(Str.mk []), (Str.mk [120]), (Str.mk [117, 115, 101]), (Str.mk [108, 111, 110, 103, 101, 114, 95, 116, 104, 97, 110, 95, 49, 54, 95, 98, 121, 116, 101, 115])].getD rv127.1.toNat default)), .slice a136 (((((((rv7.Funcs.getD rv15.1.toNat default).Blocks).getD rv27.1.toNat default).Stmts).getD rv59.1.toNat default).Uses).length) k137, .slice a138 (((((((rv7.Funcs.getD rv15.1.toNat default).Blocks).getD rv27.1.toNat default).Stmts).getD rv59.1.toNat default).Targets).length) k139]) (KS ?_)))
  refine Oq (VldA sh25 7) (Ost (Scl [8] sh25 [vl a10 k11 rv7.Funcs]) (KS ?_))
  refine Jl [1, 1, 1] (Ent.closeD (A := [O a136 k137 ((((((rv7.Funcs.getD rv15.1.toNat default).Blocks).getD rv27.1.toNat default).Stmts).getD rv59.1.toNat default).Uses), O a138 k139 ((((((rv7.Funcs.getD rv15.1.toNat default).Blocks).getD rv27.1.toNat default).Stmts).getD rv59.1.toNat default).Targets)]) _ _ _ _ (GStmt.mk ((((((rv7.Funcs.getD rv15.1.toNat default).Blocks).getD rv27.1.toNat default).Stmts).getD rv59.1.toNat default).Op) ([(Str.mk []), (Str.mk [120]), (Str.mk [117, 115, 101]), (Str.mk [108, 111, 110, 103, 101, 114, 95, 116, 104, 97, 110, 95, 49, 54, 95, 98, 121, 116, 101, 115])].getD rv127.1.toNat default) ((((((rv7.Funcs.getD rv15.1.toNat default).Blocks).getD rv27.1.toNat default).Stmts).getD rv59.1.toNat default).Uses) ((((((rv7.Funcs.getD rv15.1.toNat default).Blocks).getD rv27.1.toNat default).Stmts).getD rv59.1.toNat default).Targets)) (innmk_GStmt (z0 := (((((rv7.Funcs.getD rv15.1.toNat default).Blocks).getD rv27.1.toNat default).Stmts).getD rv59.1.toNat default).Op) (z1 := ([(Str.mk []), (Str.mk [120]), (Str.mk [117, 115, 101]), (Str.mk [108, 111, 110, 103, 101, 114, 95, 116, 104, 97, 110, 95, 49, 54, 95, 98, 121, 116, 101, 115])].getD rv127.1.toNat default)) aD1 aD1)) ?_
  refine Jl [4, 0] (Ent.closeD (A := [ds (.slice a35 (((((rv7.Funcs.getD rv15.1.toNat default).Blocks).getD rv27.1.toNat default).Stmts).length) k36) ((((((rv7.Funcs.getD rv15.1.toNat default).Blocks).getD rv27.1.toNat default).Stmts).set rv59.1.toNat (GStmt.mk ((((((rv7.Funcs.getD rv15.1.toNat default).Blocks).getD rv27.1.toNat default).Stmts).getD rv59.1.toNat default).Op) ([(Str.mk []), (Str.mk [120]), (Str.mk [117, 115, 101]), (Str.mk [108, 111, 110, 103, 101, 114, 95, 116, 104, 97, 110, 95, 49, 54, 95, 98, 121, 116, 101, 115])].getD rv127.1.toNat default) ((((((rv7.Funcs.getD rv15.1.toNat default).Blocks).getD rv27.1.toNat default).Stmts).getD rv59.1.toNat default).Uses) ((((((rv7.Funcs.getD rv15.1.toNat default).Blocks).getD rv27.1.toNat default).Stmts).getD rv59.1.toNat default).Targets))) : List GStmt)]) _ _ _ _ (GBlock.mk ((((rv7.Funcs.getD rv15.1.toNat default).Blocks).getD rv27.1.toNat default).Name) (((((rv7.Funcs.getD rv15.1.toNat default).Blocks).getD rv27.1.toNat default).Stmts).set rv59.1.toNat (GStmt.mk ((((((rv7.Funcs.getD rv15.1.toNat default).Blocks).getD rv27.1.toNat default).Stmts).getD rv59.1.toNat default).Op) ([(Str.mk []), (Str.mk [120]), (Str.mk [117, 115, 101]), (Str.mk [108, 111, 110, 103, 101, 114, 95, 116, 104, 97, 110, 95, 49, 54, 95, 98, 121, 116, 101, 115])].getD rv127.1.toNat default) ((((((rv7.Funcs.getD rv15.1.toNat default).Blocks).getD rv27.1.toNat default).Stmts).getD rv59.1.toNat default).Uses) ((((((rv7.Funcs.getD rv15.1.toNat default).Blocks).getD rv27.1.toNat default).Stmts).getD rv59.1.toNat default).Targets)))) (innmk_GBlock (z0 := (((rv7.Funcs.getD rv15.1.toNat default).Blocks).getD rv27.1.toNat default).Name) aD1)) ?_
  refine Jl [4, 0] (Ent.closeD (A := [ds (vl a23 k24 ((rv7.Funcs.getD rv15.1.toNat default).Blocks)) ((((rv7.Funcs.getD rv15.1.toNat default).Blocks).set rv27.1.toNat (GBlock.mk ((((rv7.Funcs.getD rv15.1.toNat default).Blocks).getD rv27.1.toNat default).Name) (((((rv7.Funcs.getD rv15.1.toNat default).Blocks).getD rv27.1.toNat default).Stmts).set rv59.1.toNat (GStmt.mk ((((((rv7.Funcs.getD rv15.1.toNat default).Blocks).getD rv27.1.toNat default).Stmts).getD rv59.1.toNat default).Op) ([(Str.mk []), (Str.mk [120]), (Str.mk [117, 115, 101]), (Str.mk [108, 111, 110, 103, 101, 114, 95, 116, 104, 97, 110, 95, 49, 54, 95, 98, 121, 116, 101, 115])].getD rv127.1.toNat default) ((((((rv7.Funcs.getD rv15.1.toNat default).Blocks).getD rv27.1.toNat default).Stmts).getD rv59.1.toNat default).Uses) ((((((rv7.Funcs.getD rv15.1.toNat default).Blocks).getD rv27.1.toNat default).Stmts).getD rv59.1.toNat default).Targets))))) : List GBlock)]) _ _ _ _ (GFunc.mk ((rv7.Funcs.getD rv15.1.toNat default).Name) (((rv7.Funcs.getD rv15.1.toNat default).Blocks).set rv27.1.toNat (GBlock.mk ((((rv7.Funcs.getD rv15.1.toNat default).Blocks).getD rv27.1.toNat default).Name) (((((rv7.Funcs.getD rv15.1.toNat default).Blocks).getD rv27.1.toNat default).Stmts).set rv59.1.toNat (GStmt.mk ((((((rv7.Funcs.getD rv15.1.toNat default).Blocks).getD rv27.1.toNat default).Stmts).getD rv59.1.toNat default).Op) ([(Str.mk []), (Str.mk [120]), (Str.mk [117, 115, 101]), (Str.mk [108, 111, 110, 103, 101, 114, 95, 116, 104, 97, 110, 95, 49, 54, 95, 98, 121, 116, 101, 115])].getD rv127.1.toNat default) ((((((rv7.Funcs.getD rv15.1.toNat default).Blocks).getD rv27.1.toNat default).Stmts).getD rv59.1.toNat default).Uses) ((((((rv7.Funcs.getD rv15.1.toNat default).Blocks).getD rv27.1.toNat default).Stmts).getD rv59.1.toNat default).Targets)))))) (innmk_GFunc (z0 := (rv7.Funcs.getD rv15.1.toNat default).Name) aD1)) ?_
  refine Jl [0] (Ent.dsF _ _) ?_
  have hq := q4 hrr ((GProgram.mk (rv7.Funcs.set rv15.1.toNat (GFunc.mk ((rv7.Funcs.getD rv15.1.toNat default).Name) (((rv7.Funcs.getD rv15.1.toNat default).Blocks).set rv27.1.toNat (GBlock.mk ((((rv7.Funcs.getD rv15.1.toNat default).Blocks).getD rv27.1.toNat default).Name) (((((rv7.Funcs.getD rv15.1.toNat default).Blocks).getD rv27.1.toNat default).Stmts).set rv59.1.toNat (GStmt.mk ((((((rv7.Funcs.getD rv15.1.toNat default).Blocks).getD rv27.1.toNat default).Stmts).getD rv59.1.toNat default).Op) ([(Str.mk []), (Str.mk [120]), (Str.mk [117, 115, 101]), (Str.mk [108, 111, 110, 103, 101, 114, 95, 116, 104, 97, 110, 95, 49, 54, 95, 98, 121, 116, 101, 115])].getD rv127.1.toNat default) ((((((rv7.Funcs.getD rv15.1.toNat default).Blocks).getD rv27.1.toNat default).Stmts).getD rv59.1.toNat default).Uses) ((((((rv7.Funcs.getD rv15.1.toNat default).Blocks).getD rv27.1.toNat default).Stmts).getD rv59.1.toNat default).Targets)))))))), rv127.2) (by simp only [tp_SpoilProgram, h39, h73, h88, h103, h122, hg8, hg16, hg28, hg60, hg68, hg128, cs4]); subst hq
  exact Kr (vl a10 k11 rv7.Funcs) rfl (.cellN 1 rfl sh25 rfl (reads_Cl _ _) rfl .nil) [0, 3] en
 intro h122
 have g146 := ne_of_beq_false h122
 refine KS ?_
 refine Oq Veql (Oq Va (KS ?_))
 refine Kc ?_ ?_
 ·intro h147
  have g148 := eq_of_beq h147
  refine JJ_openD_GStmt rv59.1.toNat 2 rfl rng fun a149 k150 a151 k152 hb153 hb154 => ?_
  unfold i64ok at hb153
  refine Fb 16 1 fun _ => ?_
  refine FoS 1 fun ho156 => ?_
  refine Fb 16 2 fun _ => ?_
  refine FoS 2 fun ho158 => ?_
  refine JK_drawK [0, 0, 2, 6, 14, 0, 62, 0, 0, 256, 768, 1792, 3840, 7936, 16382, 32766, 65534, 131071, 262143, 524287] fmix ?_
  refine Dv [] Vm (Dv [] Vm (Dv [0] (Vn 0) (Dv [0] (Vfa fo44_2 0) (Dv [0] (VldF sh36 0) (Dx [] [] [0] (fun G => (G.g 5 0)) [fun G => Cr (G.g 5 0) 2 [.string (bs (Str.mk [121])), .string (bs (Str.mk [120]))]] (fun G => xA (AsV sl36 sz36 [.string (bs (Str.mk [121])), .string (bs (Str.mk [120]))] [.string (bs (Str.mk [121])), .string (bs (Str.mk [120]))])) ?_)))))
  have hn161 := la ((((((rv7.Funcs.getD rv15.1.toNat default).Blocks).getD rv27.1.toNat default).Stmts).getD rv59.1.toNat default).Uses) ([(Str.mk [121]), (Str.mk [120])] : List Str)
  refine Dx [1, 11] [1, 11] [0] (fun G => (G.g 6 0)) [fun G => os (G.g 6 0) (((((((rv7.Funcs.getD rv15.1.toNat default).Blocks).getD rv27.1.toNat default).Stmts).getD rv59.1.toNat default).Uses ++ [(Str.mk [121]), (Str.mk [120])]) : List Str)] (fun G => xp [1] rfl (Ent.crOs (α := Str) (A := []) _ ([(Str.mk [121]), (Str.mk [120])] : List Str) _ aB1 (fun h => ⟨[.string (bs (Str.mk [121]))], [.string (bs (Str.mk [120]))], rfl, (fun _ => ⟨rfl, by first | omega | (simp; done) | (dsimp only; omega) | exact lit_bl rfl⟩) h, ⟨[.string (bs (Str.mk [120]))], [], rfl, (fun _ => ⟨rfl, by first | omega | (simp; done) | (dsimp only; omega) | exact lit_bl rfl⟩) h, rfl⟩⟩)) (xA (ApO [1, 0] sl36 sl36 sz36))) (Dv [] Vm (Dv [] Vm (Dv [0] (Vn 0) (Dv [0] (Vfa fo44_2 0) (Dv [0] (VldF sh36 0) (Dv [] (Vlen sl36) (Dv [] Vadd ?_)))))))
  refine letv (tp_Next tT rv67.2 ((((((((rv7.Funcs.getD rv15.1.toNat default).Blocks).getD rv27.1.toNat default).Stmts).getD rv59.1.toNat default).Uses).length : Int) + 2)) fun rv162 hg163 => Dx [3, 9] [3] [2, 0, 1] (fun G => vi rv162.1) [fun G => SP.fact (i64ok rv162.1 ∧ (0 ≤ rv162.2 ∧ rv162.2 ≤ (tT.length : Int)) ∧ (0 ≤ rv162.1 ∧ (rv162.1 < ((((((((rv7.Funcs.getD rv15.1.toNat default).Blocks).getD rv27.1.toNat default).Stmts).getD rv59.1.toNat default).Uses).length : Int) + 2) ∨ rv162.1 = 0))), fun G => Cl tP [vl ta tk tT, vi rv162.2]] (fun G => xC [0, 0] ca10 (fn10 tP ta tk tT rv67.2 (((((((((rv7.Funcs.getD rv15.1.toNat default).Blocks).getD rv27.1.toNat default).Stmts).getD rv59.1.toNat default).Uses).length : Int) + 2)) pre pre rv162 hg163)) ?_
  refine Dx [13] [] [0] (fun G => vi (1 + rv162.1)) [] (fun G => by refine xf 0 rfl ?_; rintro ⟨he164, he165, he166⟩; unfold i64ok at he164; exact xV (Vadd)) ?_
  refine Dx [12, 13] [12] [1, 0] (fun G => (G.g 16 0)) [fun G => os (G.g 16 0) (((((((((rv7.Funcs.getD rv15.1.toNat default).Blocks).getD rv27.1.toNat default).Stmts).getD rv59.1.toNat default).Uses ++ [(Str.mk [121]), (Str.mk [120])]).take (((1 + rv162.1) : Int).toNat)).drop 0) : List Str)] (fun G => by refine xf 1 rfl ?_; rintro ⟨he168, he169, he170⟩; unfold i64ok at he168; exact xA (AslOx [0] sl36 0 (((1 + rv162.1) : Int).toNat))) (Dv [0] (Vn 0) (Dv [0] (Vfa fo44_2 0) (Dx0 [0, 15] [0] [1, 0] [fun G => dh (.slice a35 (((((rv7.Funcs.getD rv15.1.toNat default).Blocks).getD rv27.1.toNat default).Stmts).length) k36) ((((rv7.Funcs.getD rv15.1.toNat default).Blocks).getD rv27.1.toNat default).Stmts : List GStmt) rv59.1.toNat [vi ((((((rv7.Funcs.getD rv15.1.toNat default).Blocks).getD rv27.1.toNat default).Stmts).getD rv59.1.toNat default).Op), .string (bs ((((((rv7.Funcs.getD rv15.1.toNat default).Blocks).getD rv27.1.toNat default).Stmts).getD rv59.1.toNat default).Def)), (G.g 16 0), .slice a151 (((((((rv7.Funcs.getD rv15.1.toNat default).Blocks).getD rv27.1.toNat default).Stmts).getD rv59.1.toNat default).Targets).length) k152]] (fun G => x1 1 rfl os_one fun ho171 => (xS (SoHr (α := GStmt) [0] sh36 [(G.g 16 0)] [vi ((((((rv7.Funcs.getD rv15.1.toNat default).Blocks).getD rv27.1.toNat default).Stmts).getD rv59.1.toNat default).Op), .string (bs ((((((rv7.Funcs.getD rv15.1.toNat default).Blocks).getD rv27.1.toNat default).Stmts).getD rv59.1.toNat default).Def)), (G.g 16 0), .slice a151 (((((((rv7.Funcs.getD rv15.1.toNat default).Blocks).getD rv27.1.toNat default).Stmts).getD rv59.1.toNat default).Targets).length) k152] (cells_of_one ho171) rfl (by simp only [List.all_cons, List.all_nil, ho171, Bool.and_true, Bool.true_and] <;> rfl)))) ?_)))
  refine Dn ⟨by kernel_rfl, fun G => ?_⟩
  refine Jw2 [(4, p5), (5, p13)] [2, 4, 5, 6, 7, 8, 9, 10] [SP.fact (i64ok rv162.1 ∧ (0 ≤ rv162.2 ∧ rv162.2 ≤ (tT.length : Int)) ∧ (0 ≤ rv162.1 ∧ (rv162.1 < ((((((((rv7.Funcs.getD rv15.1.toNat default).Blocks).getD rv27.1.toNat default).Stmts).getD rv59.1.toNat default).Uses).length : Int) + 2) ∨ rv162.1 = 0))), Cl tP [vl ta tk tT, vi rv162.2], os (G.g 16 0) (((((((((rv7.Funcs.getD rv15.1.toNat default).Blocks).getD rv27.1.toNat default).Stmts).getD rv59.1.toNat default).Uses ++ [(Str.mk [121]), (Str.mk [120])]).take (((1 + rv162.1) : Int).toNat)).drop 0) : List Str), dh (.slice a35 (((((rv7.Funcs.getD rv15.1.toNat default).Blocks).getD rv27.1.toNat default).Stmts).length) k36) ((((rv7.Funcs.getD rv15.1.toNat default).Blocks).getD rv27.1.toNat default).Stmts : List GStmt) rv59.1.toNat [vi ((((((rv7.Funcs.getD rv15.1.toNat default).Blocks).getD rv27.1.toNat default).Stmts).getD rv59.1.toNat default).Op), .string (bs ((((((rv7.Funcs.getD rv15.1.toNat default).Blocks).getD rv27.1.toNat default).Stmts).getD rv59.1.toNat default).Def)), (G.g 16 0), .slice a151 (((((((rv7.Funcs.getD rv15.1.toNat default).Blocks).getD rv27.1.toNat default).Stmts).getD rv59.1.toNat default).Targets).length) k152]] ?_
  generalize G.g 16 0 = c167
  refine Jf 8 rfl ?_; rintro ⟨he172, he173, he174⟩
  unfold i64ok at he172
  refine Jk [0, 0, 0, 0, 0, 0, 1, 2, 4, 4, 4] ?_
  refine Jo 9 ?_; rintro a175 k176 rfl
  refine Fb 16 9 fun _ => ?_
  refine FoS 9 fun ho178 => ?_
  refine KS ?_
  refine Oq (VldA sh25 3) (Ost (Scl [4] sh25 [vl a10 k11 rv7.Funcs]) (KS ?_))
  refine Jl [10, 9, 1] (Ent.closeD (A := [O a175 k176 (((((((((rv7.Funcs.getD rv15.1.toNat default).Blocks).getD rv27.1.toNat default).Stmts).getD rv59.1.toNat default).Uses ++ [(Str.mk [121]), (Str.mk [120])]).take (((1 + rv162.1) : Int).toNat)).drop 0) : List Str), O a151 k152 ((((((rv7.Funcs.getD rv15.1.toNat default).Blocks).getD rv27.1.toNat default).Stmts).getD rv59.1.toNat default).Targets)]) _ _ _ _ (GStmt.mk ((((((rv7.Funcs.getD rv15.1.toNat default).Blocks).getD rv27.1.toNat default).Stmts).getD rv59.1.toNat default).Op) ((((((rv7.Funcs.getD rv15.1.toNat default).Blocks).getD rv27.1.toNat default).Stmts).getD rv59.1.toNat default).Def) ((((((((rv7.Funcs.getD rv15.1.toNat default).Blocks).getD rv27.1.toNat default).Stmts).getD rv59.1.toNat default).Uses ++ [(Str.mk [121]), (Str.mk [120])]).take (((1 + rv162.1) : Int).toNat)).drop 0) ((((((rv7.Funcs.getD rv15.1.toNat default).Blocks).getD rv27.1.toNat default).Stmts).getD rv59.1.toNat default).Targets)) (innmk_GStmt (z0 := (((((rv7.Funcs.getD rv15.1.toNat default).Blocks).getD rv27.1.toNat default).Stmts).getD rv59.1.toNat default).Op) (z1 := (((((rv7.Funcs.getD rv15.1.toNat default).Blocks).getD rv27.1.toNat default).Stmts).getD rv59.1.toNat default).Def) aD1 aD1)) ?_
  refine Jl [2, 0] (Ent.closeD (A := [ds (.slice a35 (((((rv7.Funcs.getD rv15.1.toNat default).Blocks).getD rv27.1.toNat default).Stmts).length) k36) ((((((rv7.Funcs.getD rv15.1.toNat default).Blocks).getD rv27.1.toNat default).Stmts).set rv59.1.toNat (GStmt.mk ((((((rv7.Funcs.getD rv15.1.toNat default).Blocks).getD rv27.1.toNat default).Stmts).getD rv59.1.toNat default).Op) ((((((rv7.Funcs.getD rv15.1.toNat default).Blocks).getD rv27.1.toNat default).Stmts).getD rv59.1.toNat default).Def) ((((((((rv7.Funcs.getD rv15.1.toNat default).Blocks).getD rv27.1.toNat default).Stmts).getD rv59.1.toNat default).Uses ++ [(Str.mk [121]), (Str.mk [120])]).take (((1 + rv162.1) : Int).toNat)).drop 0) ((((((rv7.Funcs.getD rv15.1.toNat default).Blocks).getD rv27.1.toNat default).Stmts).getD rv59.1.toNat default).Targets))) : List GStmt)]) _ _ _ _ (GBlock.mk ((((rv7.Funcs.getD rv15.1.toNat default).Blocks).getD rv27.1.toNat default).Name) (((((rv7.Funcs.getD rv15.1.toNat default).Blocks).getD rv27.1.toNat default).Stmts).set rv59.1.toNat (GStmt.mk ((((((rv7.Funcs.getD rv15.1.toNat default).Blocks).getD rv27.1.toNat default).Stmts).getD rv59.1.toNat default).Op) ((((((rv7.Funcs.getD rv15.1.toNat default).Blocks).getD rv27.1.toNat default).Stmts).getD rv59.1.toNat default).Def) ((((((((rv7.Funcs.getD rv15.1.toNat default).Blocks).getD rv27.1.toNat default).Stmts).getD rv59.1.toNat default).Uses ++ [(Str.mk [121]), (Str.mk [120])]).take (((1 + rv162.1) : Int).toNat)).drop 0) ((((((rv7.Funcs.getD rv15.1.toNat default).Blocks).getD rv27.1.toNat default).Stmts).getD rv59.1.toNat default).Targets)))) (innmk_GBlock (z0 := (((rv7.Funcs.getD rv15.1.toNat default).Blocks).getD rv27.1.toNat default).Name) aD1)) ?_
  refine Jl [2, 0] (Ent.closeD (A := [ds (vl a23 k24 ((rv7.Funcs.getD rv15.1.toNat default).Blocks)) ((((rv7.Funcs.getD rv15.1.toNat default).Blocks).set rv27.1.toNat (GBlock.mk ((((rv7.Funcs.getD rv15.1.toNat default).Blocks).getD rv27.1.toNat default).Name) (((((rv7.Funcs.getD rv15.1.toNat default).Blocks).getD rv27.1.toNat default).Stmts).set rv59.1.toNat (GStmt.mk ((((((rv7.Funcs.getD rv15.1.toNat default).Blocks).getD rv27.1.toNat default).Stmts).getD rv59.1.toNat default).Op) ((((((rv7.Funcs.getD rv15.1.toNat default).Blocks).getD rv27.1.toNat default).Stmts).getD rv59.1.toNat default).Def) ((((((((rv7.Funcs.getD rv15.1.toNat default).Blocks).getD rv27.1.toNat default).Stmts).getD rv59.1.toNat default).Uses ++ [(Str.mk [121]), (Str.mk [120])]).take (((1 + rv162.1) : Int).toNat)).drop 0) ((((((rv7.Funcs.getD rv15.1.toNat default).Blocks).getD rv27.1.toNat default).Stmts).getD rv59.1.toNat default).Targets))))) : List GBlock)]) _ _ _ _ (GFunc.mk ((rv7.Funcs.getD rv15.1.toNat default).Name) (((rv7.Funcs.getD rv15.1.toNat default).Blocks).set rv27.1.toNat (GBlock.mk ((((rv7.Funcs.getD rv15.1.toNat default).Blocks).getD rv27.1.toNat default).Name) (((((rv7.Funcs.getD rv15.1.toNat default).Blocks).getD rv27.1.toNat default).Stmts).set rv59.1.toNat (GStmt.mk ((((((rv7.Funcs.getD rv15.1.toNat default).Blocks).getD rv27.1.toNat default).Stmts).getD rv59.1.toNat default).Op) ((((((rv7.Funcs.getD rv15.1.toNat default).Blocks).getD rv27.1.toNat default).Stmts).getD rv59.1.toNat default).Def) ((((((((rv7.Funcs.getD rv15.1.toNat default).Blocks).getD rv27.1.toNat default).Stmts).getD rv59.1.toNat default).Uses ++ [(Str.mk [121]), (Str.mk [120])]).take (((1 + rv162.1) : Int).toNat)).drop 0) ((((((rv7.Funcs.getD rv15.1.toNat default).Blocks).getD rv27.1.toNat default).Stmts).getD rv59.1.toNat default).Targets)))))) (innmk_GFunc (z0 := (rv7.Funcs.getD rv15.1.toNat default).Name) aD1)) ?_
  refine Jl [0] (Ent.dsF _ _) ?_
  have hq := q4 hrr ((GProgram.mk (rv7.Funcs.set rv15.1.toNat (GFunc.mk ((rv7.Funcs.getD rv15.1.toNat default).Name) (((rv7.Funcs.getD rv15.1.toNat default).Blocks).set rv27.1.toNat (GBlock.mk ((((rv7.Funcs.getD rv15.1.toNat default).Blocks).getD rv27.1.toNat default).Name) (((((rv7.Funcs.getD rv15.1.toNat default).Blocks).getD rv27.1.toNat default).Stmts).set rv59.1.toNat (GStmt.mk ((((((rv7.Funcs.getD rv15.1.toNat default).Blocks).getD rv27.1.toNat default).Stmts).getD rv59.1.toNat default).Op) ((((((rv7.Funcs.getD rv15.1.toNat default).Blocks).getD rv27.1.toNat default).Stmts).getD rv59.1.toNat default).Def) ((((((((rv7.Funcs.getD rv15.1.toNat default).Blocks).getD rv27.1.toNat default).Stmts).getD rv59.1.toNat default).Uses ++ [(Str.mk [121]), (Str.mk [120])]).take (((1 + rv162.1) : Int).toNat)).drop 0) ((((((rv7.Funcs.getD rv15.1.toNat default).Blocks).getD rv27.1.toNat default).Stmts).getD rv59.1.toNat default).Targets)))))))), rv162.2) (by simp only [tp_SpoilProgram, h39, h73, h88, h103, h122, h147, hg8, hg16, hg28, hg60, hg68, hg163, cs4]); subst hq
  exact Kr (vl a10 k11 rv7.Funcs) rfl (.cellN 1 rfl sh25 rfl (reads_Cl _ _) rfl .nil) [0, 6] en
 intro h147
 have g179 := ne_of_beq_false h147
 refine KS ?_
 refine Oq Veql (Oq Va (KS ?_))
 refine Kc ?_ ?_
 ·intro h180
  have g181 := eq_of_beq h180
  refine JJ_openD_GStmt rv59.1.toNat 2 rfl rng fun a182 k183 a184 k185 hb186 hb187 => ?_
  unfold i64ok at hb186
  refine Fb 16 1 fun _ => ?_
  refine FoS 1 fun ho189 => ?_
  refine Fb 16 2 fun _ => ?_
  refine FoS 2 fun ho191 => ?_
  refine JK_drawK [0, 0, 2, 6, 14, 0, 0, 64, 224, 480, 992, 2046, 4095, 8191, 16383] fmix ?_
  refine Dv [] Vm (Dv [] Vm (Dv [0] (Vn 0) (Dv [0] (Vfa fo44_3 0) (Dv [0] (VldF sh36 0) (Dx [] [] [0] (fun G => (G.g 5 0)) [fun G => Cr (G.g 5 0) 3 [.string (bs (Str.mk [97])), .string (bs (Str.mk [110, 111, 119, 104, 101, 114, 101])), .string (bs (Str.mk [109]))]] (fun G => xA (AsV sl36 sz36 [.string (bs (Str.mk [97])), .string (bs (Str.mk [110, 111, 119, 104, 101, 114, 101])), .string (bs (Str.mk [109]))] [.string (bs (Str.mk [97])), .string (bs (Str.mk [110, 111, 119, 104, 101, 114, 101])), .string (bs (Str.mk [109]))])) (Dv [] Vm ?_))))))
  refine letv (tp_Next tT rv67.2 3) fun rv193 hg194 => ?_
  have hs4 := Next_r hg194 aM1
  refine Dx [3, 9] [3] [2, 0, 1] (fun G => vi rv193.1) [fun G => SP.fact (i64ok rv193.1 ∧ (0 ≤ rv193.2 ∧ rv193.2 ≤ (tT.length : Int)) ∧ (0 ≤ rv193.1 ∧ (rv193.1 < 3 ∨ rv193.1 = 0))), fun G => Cl tP [vl ta tk tT, vi rv193.2]] (fun G => xC [0, 0] ca10 (fn10 tP ta tk tT rv67.2 3 pre pre rv193 hg194)) ?_
  refine Dx [11, 12] [11] [1, 0] (fun G => (eptr 1 ((G.g 5 0)) rv193.1.toNat)) [fun G => os (G.g 5 0) ([(Str.mk [97]), (Str.mk [110, 111, 119, 104, 101, 114, 101]), (Str.mk [109])] : List Str)] (fun G => by refine xf 1 rfl ?_; rintro ⟨he195, he196, he197⟩; unfold i64ok at he195; exact xp [0] rfl (Ent.crOs (α := Str) (A := []) _ ([(Str.mk [97]), (Str.mk [110, 111, 119, 104, 101, 114, 101]), (Str.mk [109])] : List Str) _ aB1 (fun h => ⟨[.string (bs (Str.mk [97]))], [.string (bs (Str.mk [110, 111, 119, 104, 101, 114, 101])), .string (bs (Str.mk [109]))], rfl, (fun _ => ⟨rfl, by first | omega | (simp; done) | (dsimp only; omega) | exact lit_bl rfl⟩) h, ⟨[.string (bs (Str.mk [110, 111, 119, 104, 101, 114, 101]))], [.string (bs (Str.mk [109]))], rfl, (fun _ => ⟨rfl, by first | omega | (simp; done) | (dsimp only; omega) | exact lit_bl rfl⟩) h, ⟨[.string (bs (Str.mk [109]))], [], rfl, (fun _ => ⟨rfl, by first | omega | (simp; done) | (dsimp only; omega) | exact lit_bl rfl⟩) h, rfl⟩⟩⟩)) (xV (Vi sl36 0))) (Dv [14] (VldS sh9 0) (Dx [] [] [0] (fun G => (G.g 10 0)) [fun G => Cr (G.g 10 0) 1 [.string (bs ([(Str.mk [97]), (Str.mk [110, 111, 119, 104, 101, 114, 101]), (Str.mk [109])].getD rv193.1.toNat default))]] (fun G => xA (AsV sl36 sz36 [.string (bs ([(Str.mk [97]), (Str.mk [110, 111, 119, 104, 101, 114, 101]), (Str.mk [109])].getD rv193.1.toNat default))] [.string (bs ([(Str.mk [97]), (Str.mk [110, 111, 119, 104, 101, 114, 101]), (Str.mk [109])].getD rv193.1.toNat default))])) ?_))
  have hn200 := la ((((((rv7.Funcs.getD rv15.1.toNat default).Blocks).getD rv27.1.toNat default).Stmts).getD rv59.1.toNat default).Targets) ([([(Str.mk [97]), (Str.mk [110, 111, 119, 104, 101, 114, 101]), (Str.mk [109])].getD rv193.1.toNat default)] : List Str)
  refine Dx [2, 12, 15] [2, 15] [1, 0] (fun G => (G.g 11 0)) [fun G => os (G.g 11 0) (((((((rv7.Funcs.getD rv15.1.toNat default).Blocks).getD rv27.1.toNat default).Stmts).getD rv59.1.toNat default).Targets ++ [([(Str.mk [97]), (Str.mk [110, 111, 119, 104, 101, 114, 101]), (Str.mk [109])].getD rv193.1.toNat default)]) : List Str)] (fun G => by refine xf 1 rfl ?_; rintro ⟨he201, he202, he203⟩; unfold i64ok at he201; exact xp [2] rfl (Ent.cr1 (α := Str) (A := []) _ ([(Str.mk [97]), (Str.mk [110, 111, 119, 104, 101, 114, 101]), (Str.mk [109])].getD rv193.1.toNat default) _ aB1 (fun _ => ⟨rfl, aS1⟩)) (xA (ApO [1, 0] sl36 sl36 sz36))) (Dv [0] (Vn 0) (Dv [0] (Vfa fo44_3 0) (Dx0 [0, 16] [0] [1, 0] [fun G => dh (.slice a35 (((((rv7.Funcs.getD rv15.1.toNat default).Blocks).getD rv27.1.toNat default).Stmts).length) k36) ((((rv7.Funcs.getD rv15.1.toNat default).Blocks).getD rv27.1.toNat default).Stmts : List GStmt) rv59.1.toNat [vi ((((((rv7.Funcs.getD rv15.1.toNat default).Blocks).getD rv27.1.toNat default).Stmts).getD rv59.1.toNat default).Op), .string (bs ((((((rv7.Funcs.getD rv15.1.toNat default).Blocks).getD rv27.1.toNat default).Stmts).getD rv59.1.toNat default).Def)), .slice a182 (((((((rv7.Funcs.getD rv15.1.toNat default).Blocks).getD rv27.1.toNat default).Stmts).getD rv59.1.toNat default).Uses).length) k183, (G.g 11 0)]] (fun G => x1 1 rfl os_one fun ho204 => (xS (SoHr (α := GStmt) [0] sh36 [(G.g 11 0)] [vi ((((((rv7.Funcs.getD rv15.1.toNat default).Blocks).getD rv27.1.toNat default).Stmts).getD rv59.1.toNat default).Op), .string (bs ((((((rv7.Funcs.getD rv15.1.toNat default).Blocks).getD rv27.1.toNat default).Stmts).getD rv59.1.toNat default).Def)), .slice a182 (((((((rv7.Funcs.getD rv15.1.toNat default).Blocks).getD rv27.1.toNat default).Stmts).getD rv59.1.toNat default).Uses).length) k183, (G.g 11 0)] (cells_of_one ho204) rfl (by simp only [List.all_cons, List.all_nil, ho204, Bool.and_true, Bool.true_and] <;> rfl)))) ?_)))
  refine Dn ⟨by kernel_rfl, fun G => ?_⟩
  refine Jw2 [(4, p5), (5, p13)] [1, 4, 5, 6, 7, 8, 9, 10] [SP.fact (i64ok rv193.1 ∧ (0 ≤ rv193.2 ∧ rv193.2 ≤ (tT.length : Int)) ∧ (0 ≤ rv193.1 ∧ (rv193.1 < 3 ∨ rv193.1 = 0))), Cl tP [vl ta tk tT, vi rv193.2], os (G.g 5 0) ([(Str.mk [97]), (Str.mk [110, 111, 119, 104, 101, 114, 101]), (Str.mk [109])] : List Str), os (G.g 11 0) (((((((rv7.Funcs.getD rv15.1.toNat default).Blocks).getD rv27.1.toNat default).Stmts).getD rv59.1.toNat default).Targets ++ [([(Str.mk [97]), (Str.mk [110, 111, 119, 104, 101, 114, 101]), (Str.mk [109])].getD rv193.1.toNat default)]) : List Str), dh (.slice a35 (((((rv7.Funcs.getD rv15.1.toNat default).Blocks).getD rv27.1.toNat default).Stmts).length) k36) ((((rv7.Funcs.getD rv15.1.toNat default).Blocks).getD rv27.1.toNat default).Stmts : List GStmt) rv59.1.toNat [vi ((((((rv7.Funcs.getD rv15.1.toNat default).Blocks).getD rv27.1.toNat default).Stmts).getD rv59.1.toNat default).Op), .string (bs ((((((rv7.Funcs.getD rv15.1.toNat default).Blocks).getD rv27.1.toNat default).Stmts).getD rv59.1.toNat default).Def)), .slice a182 (((((((rv7.Funcs.getD rv15.1.toNat default).Blocks).getD rv27.1.toNat default).Stmts).getD rv59.1.toNat default).Uses).length) k183, (G.g 11 0)]] ?_
  generalize G.g 5 0 = c192, G.g 11 0 = c199
  refine Jf 8 rfl ?_; rintro ⟨he205, he206, he207⟩
  unfold i64ok at he205
  refine Jk [0, 0, 0, 0, 0, 0, 1, 2, 4, 4, 4, 4] ?_
  refine Jo 9 ?_; rintro a208 k209 rfl
  refine Fb 16 9 fun _ => ?_
  refine FoS 9 fun ho211 => ?_
  refine Jo 10 ?_; rintro a212 k213 rfl
  refine Fb 16 10 fun _ => ?_
  refine FoS 10 fun ho215 => ?_
  refine KS ?_
  refine Oq (VldA sh25 3) (Ost (Scl [4] sh25 [vl a10 k11 rv7.Funcs]) (KS ?_))
  refine Jl [11, 1, 9] (Ent.closeD (A := [O a182 k183 ((((((rv7.Funcs.getD rv15.1.toNat default).Blocks).getD rv27.1.toNat default).Stmts).getD rv59.1.toNat default).Uses), O a212 k213 (((((((rv7.Funcs.getD rv15.1.toNat default).Blocks).getD rv27.1.toNat default).Stmts).getD rv59.1.toNat default).Targets ++ [([(Str.mk [97]), (Str.mk [110, 111, 119, 104, 101, 114, 101]), (Str.mk [109])].getD rv193.1.toNat default)]) : List Str)]) _ _ _ _ (GStmt.mk ((((((rv7.Funcs.getD rv15.1.toNat default).Blocks).getD rv27.1.toNat default).Stmts).getD rv59.1.toNat default).Op) ((((((rv7.Funcs.getD rv15.1.toNat default).Blocks).getD rv27.1.toNat default).Stmts).getD rv59.1.toNat default).Def) ((((((rv7.Funcs.getD rv15.1.toNat default).Blocks).getD rv27.1.toNat default).Stmts).getD rv59.1.toNat default).Uses) ((((((rv7.Funcs.getD rv15.1.toNat default).Blocks).getD rv27.1.toNat default).Stmts).getD rv59.1.toNat default).Targets ++ [([(Str.mk [97]), (Str.mk [110, 111, 119, 104, 101, 114, 101]), (Str.mk [109])].getD rv193.1.toNat default)])) (innmk_GStmt (z0 := (((((rv7.Funcs.getD rv15.1.toNat default).Blocks).getD rv27.1.toNat default).Stmts).getD rv59.1.toNat default).Op) (z1 := (((((rv7.Funcs.getD rv15.1.toNat default).Blocks).getD rv27.1.toNat default).Stmts).getD rv59.1.toNat default).Def) aD1 aD1)) ?_
  refine Jl [2, 0] (Ent.closeD (A := [ds (.slice a35 (((((rv7.Funcs.getD rv15.1.toNat default).Blocks).getD rv27.1.toNat default).Stmts).length) k36) ((((((rv7.Funcs.getD rv15.1.toNat default).Blocks).getD rv27.1.toNat default).Stmts).set rv59.1.toNat (GStmt.mk ((((((rv7.Funcs.getD rv15.1.toNat default).Blocks).getD rv27.1.toNat default).Stmts).getD rv59.1.toNat default).Op) ((((((rv7.Funcs.getD rv15.1.toNat default).Blocks).getD rv27.1.toNat default).Stmts).getD rv59.1.toNat default).Def) ((((((rv7.Funcs.getD rv15.1.toNat default).Blocks).getD rv27.1.toNat default).Stmts).getD rv59.1.toNat default).Uses) ((((((rv7.Funcs.getD rv15.1.toNat default).Blocks).getD rv27.1.toNat default).Stmts).getD rv59.1.toNat default).Targets ++ [([(Str.mk [97]), (Str.mk [110, 111, 119, 104, 101, 114, 101]), (Str.mk [109])].getD rv193.1.toNat default)]))) : List GStmt)]) _ _ _ _ (GBlock.mk ((((rv7.Funcs.getD rv15.1.toNat default).Blocks).getD rv27.1.toNat default).Name) (((((rv7.Funcs.getD rv15.1.toNat default).Blocks).getD rv27.1.toNat default).Stmts).set rv59.1.toNat (GStmt.mk ((((((rv7.Funcs.getD rv15.1.toNat default).Blocks).getD rv27.1.toNat default).Stmts).getD rv59.1.toNat default).Op) ((((((rv7.Funcs.getD rv15.1.toNat default).Blocks).getD rv27.1.toNat default).Stmts).getD rv59.1.toNat default).Def) ((((((rv7.Funcs.getD rv15.1.toNat default).Blocks).getD rv27.1.toNat default).Stmts).getD rv59.1.toNat default).Uses) ((((((rv7.Funcs.getD rv15.1.toNat default).Blocks).getD rv27.1.toNat default).Stmts).getD rv59.1.toNat default).Targets ++ [([(Str.mk [97]), (Str.mk [110, 111, 119, 104, 101, 114, 101]), (Str.mk [109])].getD rv193.1.toNat default)])))) (innmk_GBlock (z0 := (((rv7.Funcs.getD rv15.1.toNat default).Blocks).getD rv27.1.toNat default).Name) aD1)) ?_
  refine Jl [2, 0] (Ent.closeD (A := [ds (vl a23 k24 ((rv7.Funcs.getD rv15.1.toNat default).Blocks)) ((((rv7.Funcs.getD rv15.1.toNat default).Blocks).set rv27.1.toNat (GBlock.mk ((((rv7.Funcs.getD rv15.1.toNat default).Blocks).getD rv27.1.toNat default).Name) (((((rv7.Funcs.getD rv15.1.toNat default).Blocks).getD rv27.1.toNat default).Stmts).set rv59.1.toNat (GStmt.mk ((((((rv7.Funcs.getD rv15.1.toNat default).Blocks).getD rv27.1.toNat default).Stmts).getD rv59.1.toNat default).Op) ((((((rv7.Funcs.getD rv15.1.toNat default).Blocks).getD rv27.1.toNat default).Stmts).getD rv59.1.toNat default).Def) ((((((rv7.Funcs.getD rv15.1.toNat default).Blocks).getD rv27.1.toNat default).Stmts).getD rv59.1.toNat default).Uses) ((((((rv7.Funcs.getD rv15.1.toNat default).Blocks).getD rv27.1.toNat default).Stmts).getD rv59.1.toNat default).Targets ++ [([(Str.mk [97]), (Str.mk [110, 111, 119, 104, 101, 114, 101]), (Str.mk [109])].getD rv193.1.toNat default)]))))) : List GBlock)]) _ _ _ _ (GFunc.mk ((rv7.Funcs.getD rv15.1.toNat default).Name) (((rv7.Funcs.getD rv15.1.toNat default).Blocks).set rv27.1.toNat (GBlock.mk ((((rv7.Funcs.getD rv15.1.toNat default).Blocks).getD rv27.1.toNat default).Name) (((((rv7.Funcs.getD rv15.1.toNat default).Blocks).getD rv27.1.toNat default).Stmts).set rv59.1.toNat (GStmt.mk ((((((rv7.Funcs.getD rv15.1.toNat default).Blocks).getD rv27.1.toNat default).Stmts).getD rv59.1.toNat default).Op) ((((((rv7.Funcs.getD rv15.1.toNat default).Blocks).getD rv27.1.toNat default).Stmts).getD rv59.1.toNat default).Def) ((((((rv7.Funcs.getD rv15.1.toNat default).Blocks).getD rv27.1.toNat default).Stmts).getD rv59.1.toNat default).Uses) ((((((rv7.Funcs.getD rv15.1.toNat default).Blocks).getD rv27.1.toNat default).Stmts).getD rv59.1.toNat default).Targets ++ [([(Str.mk [97]), (Str.mk [110, 111, 119, 104, 101, 114, 101]), (Str.mk [109])].getD rv193.1.toNat default)])))))) (innmk_GFunc (z0 := (rv7.Funcs.getD rv15.1.toNat default).Name) aD1)) ?_
  refine Jl [0] (Ent.dsF _ _) ?_
  have hq := q4 hrr ((GProgram.mk (rv7.Funcs.set rv15.1.toNat (GFunc.mk ((rv7.Funcs.getD rv15.1.toNat default).Name) (((rv7.Funcs.getD rv15.1.toNat default).Blocks).set rv27.1.toNat (GBlock.mk ((((rv7.Funcs.getD rv15.1.toNat default).Blocks).getD rv27.1.toNat default).Name) (((((rv7.Funcs.getD rv15.1.toNat default).Blocks).getD rv27.1.toNat default).Stmts).set rv59.1.toNat (GStmt.mk ((((((rv7.Funcs.getD rv15.1.toNat default).Blocks).getD rv27.1.toNat default).Stmts).getD rv59.1.toNat default).Op) ((((((rv7.Funcs.getD rv15.1.toNat default).Blocks).getD rv27.1.toNat default).Stmts).getD rv59.1.toNat default).Def) ((((((rv7.Funcs.getD rv15.1.toNat default).Blocks).getD rv27.1.toNat default).Stmts).getD rv59.1.toNat default).Uses) ((((((rv7.Funcs.getD rv15.1.toNat default).Blocks).getD rv27.1.toNat default).Stmts).getD rv59.1.toNat default).Targets ++ [([(Str.mk [97]), (Str.mk [110, 111, 119, 104, 101, 114, 101]), (Str.mk [109])].getD rv193.1.toNat default)])))))))), rv193.2) (by simp only [tp_SpoilProgram, h39, h73, h88, h103, h122, h147, h180, hg8, hg16, hg28, hg60, hg68, hg194, cs4]); subst hq
  exact Kr (vl a10 k11 rv7.Funcs) rfl (.cellN 1 rfl sh25 rfl (reads_Cl _ _) rfl .nil) [0, 6] en
 intro h180
 have g216 := ne_of_beq_false h180
 refine KS ?_
 refine Oq Veql (Oq Va (KS ?_))
 refine Kc ?_ ?_
 ·intro h217
  have g218 := eq_of_beq h217
  refine KS ?_
  refine Oq Vm ?_
  refine JJ_openD_GStmt rv59.1.toNat 2 rfl rng fun a219 k220 a221 k222 hb223 hb224 => ?_
  unfold i64ok at hb223
  refine Fb 16 1 fun _ => ?_
  refine FoS 1 fun ho226 => ?_
  refine Fb 16 2 fun _ => ?_
  refine FoS 2 fun ho228 => ?_
  refine Oq (Vn 0) (Oq (Vfa fo44_3 0) (Oq (VldF sh36 0) (Oq (Vlen sl36) (Oq Vgtr (KS ?_)))))
  refine Kc ?_ ?_
  ·intro h229
   have g230 := dt h229
   refine JK_drawK [0, 1, 3, 7, 0, 0, 32, 112, 240, 511, 1023] fmix ?_
   refine Dv [] Vm (Dv [0] (Vn 0) (Dv [0] (Vfa fo44_3 0) (Dv [0] (VldF sh36 0) (Dx [] [] [0] (fun G => (G.g 4 0)) [fun G => Cr (G.g 4 0) 4 [.string (bs (Str.mk [110, 111, 119, 104, 101, 114, 101])), .string (bs (Str.mk [97])), .string (bs (Str.mk [99])), .string (bs (Str.mk [103]))]] (fun G => xA (AsV sl36 sz36 [.string (bs (Str.mk [110, 111, 119, 104, 101, 114, 101])), .string (bs (Str.mk [97])), .string (bs (Str.mk [99])), .string (bs (Str.mk [103]))] [.string (bs (Str.mk [110, 111, 119, 104, 101, 114, 101])), .string (bs (Str.mk [97])), .string (bs (Str.mk [99])), .string (bs (Str.mk [103]))])) (Dv [] Vm ?_)))))
   refine letv (tp_Next tT rv67.2 4) fun rv232 hg233 => ?_
   have hs4 := Next_r hg233 aM1
   refine Dx [3, 9] [3] [2, 0, 1] (fun G => vi rv232.1) [fun G => SP.fact (i64ok rv232.1 ∧ (0 ≤ rv232.2 ∧ rv232.2 ≤ (tT.length : Int)) ∧ (0 ≤ rv232.1 ∧ (rv232.1 < 4 ∨ rv232.1 = 0))), fun G => Cl tP [vl ta tk tT, vi rv232.2]] (fun G => xC [0, 0] ca10 (fn10 tP ta tk tT rv67.2 4 pre pre rv232 hg233)) ?_
   refine Dx [11, 12] [11] [1, 0] (fun G => (eptr 1 ((G.g 4 0)) rv232.1.toNat)) [fun G => os (G.g 4 0) ([(Str.mk [110, 111, 119, 104, 101, 114, 101]), (Str.mk [97]), (Str.mk [99]), (Str.mk [103])] : List Str)] (fun G => by refine xf 1 rfl ?_; rintro ⟨he234, he235, he236⟩; unfold i64ok at he234; exact xp [0] rfl (Ent.crOs (α := Str) (A := []) _ ([(Str.mk [110, 111, 119, 104, 101, 114, 101]), (Str.mk [97]), (Str.mk [99]), (Str.mk [103])] : List Str) _ aB1 (fun h => ⟨[.string (bs (Str.mk [110, 111, 119, 104, 101, 114, 101]))], [.string (bs (Str.mk [97])), .string (bs (Str.mk [99])), .string (bs (Str.mk [103]))], rfl, (fun _ => ⟨rfl, by first | omega | (simp; done) | (dsimp only; omega) | exact lit_bl rfl⟩) h, ⟨[.string (bs (Str.mk [97]))], [.string (bs (Str.mk [99])), .string (bs (Str.mk [103]))], rfl, (fun _ => ⟨rfl, by first | omega | (simp; done) | (dsimp only; omega) | exact lit_bl rfl⟩) h, ⟨[.string (bs (Str.mk [99]))], [.string (bs (Str.mk [103]))], rfl, (fun _ => ⟨rfl, by first | omega | (simp; done) | (dsimp only; omega) | exact lit_bl rfl⟩) h, ⟨[.string (bs (Str.mk [103]))], [], rfl, (fun _ => ⟨rfl, by first | omega | (simp; done) | (dsimp only; omega) | exact lit_bl rfl⟩) h, rfl⟩⟩⟩⟩)) (xV (Vi sl36 0))) (Dv [14] (VldS sh9 0) (Dv [2] (Vi sl36 0) ?_))
   refine Dx0 [2, 12] [2] [1, 0] [fun G => os (.slice a221 (((((((rv7.Funcs.getD rv15.1.toNat default).Blocks).getD rv27.1.toNat default).Stmts).getD rv59.1.toNat default).Targets).length) k222) ((((((((rv7.Funcs.getD rv15.1.toNat default).Blocks).getD rv27.1.toNat default).Stmts).getD rv59.1.toNat default).Targets).set (0 : Int).toNat ([(Str.mk [110, 111, 119, 104, 101, 114, 101]), (Str.mk [97]), (Str.mk [99]), (Str.mk [103])].getD rv232.1.toNat default)) : List Str)] (fun G => by refine xf 1 rfl ?_; rintro ⟨he237, he238, he239⟩; unfold i64ok at he237; exact xS (So (Rs := []) [0] sh9 ([(Str.mk [110, 111, 119, 104, 101, 114, 101]), (Str.mk [97]), (Str.mk [99]), (Str.mk [103])].getD rv232.1.toNat default) (fun _ => ⟨rfl, aS1⟩))) ?_
   refine Dn ⟨by kernel_rfl, fun G => ?_⟩
   refine Jw2 [(4, p5), (5, p13)] [0, 1, 4, 5, 6, 7, 8, 9, 10] [SP.fact (i64ok rv232.1 ∧ (0 ≤ rv232.2 ∧ rv232.2 ≤ (tT.length : Int)) ∧ (0 ≤ rv232.1 ∧ (rv232.1 < 4 ∨ rv232.1 = 0))), Cl tP [vl ta tk tT, vi rv232.2], os (G.g 4 0) ([(Str.mk [110, 111, 119, 104, 101, 114, 101]), (Str.mk [97]), (Str.mk [99]), (Str.mk [103])] : List Str), os (.slice a221 (((((((rv7.Funcs.getD rv15.1.toNat default).Blocks).getD rv27.1.toNat default).Stmts).getD rv59.1.toNat default).Targets).length) k222) ((((((((rv7.Funcs.getD rv15.1.toNat default).Blocks).getD rv27.1.toNat default).Stmts).getD rv59.1.toNat default).Targets).set (0 : Int).toNat ([(Str.mk [110, 111, 119, 104, 101, 114, 101]), (Str.mk [97]), (Str.mk [99]), (Str.mk [103])].getD rv232.1.toNat default)) : List Str)] ?_
   generalize G.g 4 0 = c231
   refine Jf 9 rfl ?_; rintro ⟨he240, he241, he242⟩
   unfold i64ok at he240
   refine Jk [0, 0, 0, 0, 0, 0, 0, 1, 2, 4, 4, 4] ?_
   refine Jo 10 ?_; rintro a243 k244 rfl
   refine Fb 16 10 fun _ => ?_
   refine FoS 10 fun ho246 => ?_
   refine KS ?_
   refine Oq (VldA sh25 4) (Ost (Scl [5] sh25 [vl a10 k11 rv7.Funcs]) (KS ?_))
   refine Jl [1, 1, 9] (Ent.closeD (A := [O a219 k220 ((((((rv7.Funcs.getD rv15.1.toNat default).Blocks).getD rv27.1.toNat default).Stmts).getD rv59.1.toNat default).Uses), os (.slice a221 (((((((rv7.Funcs.getD rv15.1.toNat default).Blocks).getD rv27.1.toNat default).Stmts).getD rv59.1.toNat default).Targets).length) k222) ((((((((rv7.Funcs.getD rv15.1.toNat default).Blocks).getD rv27.1.toNat default).Stmts).getD rv59.1.toNat default).Targets).set (0 : Int).toNat ([(Str.mk [110, 111, 119, 104, 101, 114, 101]), (Str.mk [97]), (Str.mk [99]), (Str.mk [103])].getD rv232.1.toNat default)) : List Str)]) _ _ _ _ (GStmt.mk ((((((rv7.Funcs.getD rv15.1.toNat default).Blocks).getD rv27.1.toNat default).Stmts).getD rv59.1.toNat default).Op) ((((((rv7.Funcs.getD rv15.1.toNat default).Blocks).getD rv27.1.toNat default).Stmts).getD rv59.1.toNat default).Def) ((((((rv7.Funcs.getD rv15.1.toNat default).Blocks).getD rv27.1.toNat default).Stmts).getD rv59.1.toNat default).Uses) (((((((rv7.Funcs.getD rv15.1.toNat default).Blocks).getD rv27.1.toNat default).Stmts).getD rv59.1.toNat default).Targets).set (0 : Int).toNat ([(Str.mk [110, 111, 119, 104, 101, 114, 101]), (Str.mk [97]), (Str.mk [99]), (Str.mk [103])].getD rv232.1.toNat default))) (innmk_GStmt (z0 := (((((rv7.Funcs.getD rv15.1.toNat default).Blocks).getD rv27.1.toNat default).Stmts).getD rv59.1.toNat default).Op) (z1 := (((((rv7.Funcs.getD rv15.1.toNat default).Blocks).getD rv27.1.toNat default).Stmts).getD rv59.1.toNat default).Def) aD1 aD1)) ?_
   refine Jl [2, 0] (Ent.closeD (A := [ds (.slice a35 (((((rv7.Funcs.getD rv15.1.toNat default).Blocks).getD rv27.1.toNat default).Stmts).length) k36) ((((((rv7.Funcs.getD rv15.1.toNat default).Blocks).getD rv27.1.toNat default).Stmts).set rv59.1.toNat (GStmt.mk ((((((rv7.Funcs.getD rv15.1.toNat default).Blocks).getD rv27.1.toNat default).Stmts).getD rv59.1.toNat default).Op) ((((((rv7.Funcs.getD rv15.1.toNat default).Blocks).getD rv27.1.toNat default).Stmts).getD rv59.1.toNat default).Def) ((((((rv7.Funcs.getD rv15.1.toNat default).Blocks).getD rv27.1.toNat default).Stmts).getD rv59.1.toNat default).Uses) (((((((rv7.Funcs.getD rv15.1.toNat default).Blocks).getD rv27.1.toNat default).Stmts).getD rv59.1.toNat default).Targets).set (0 : Int).toNat ([(Str.mk [110, 111, 119, 104, 101, 114, 101]), (Str.mk [97]), (Str.mk [99]), (Str.mk [103])].getD rv232.1.toNat default)))) : List GStmt)]) _ _ _ _ (GBlock.mk ((((rv7.Funcs.getD rv15.1.toNat default).Blocks).getD rv27.1.toNat default).Name) (((((rv7.Funcs.getD rv15.1.toNat default).Blocks).getD rv27.1.toNat default).Stmts).set rv59.1.toNat (GStmt.mk ((((((rv7.Funcs.getD rv15.1.toNat default).Blocks).getD rv27.1.toNat default).Stmts).getD rv59.1.toNat default).Op) ((((((rv7.Funcs.getD rv15.1.toNat default).Blocks).getD rv27.1.toNat default).Stmts).getD rv59.1.toNat default).Def) ((((((rv7.Funcs.getD rv15.1.toNat default).Blocks).getD rv27.1.toNat default).Stmts).getD rv59.1.toNat default).Uses) (((((((rv7.Funcs.getD rv15.1.toNat default).Blocks).getD rv27.1.toNat default).Stmts).getD rv59.1.toNat default).Targets).set (0 : Int).toNat ([(Str.mk [110, 111, 119, 104, 101, 114, 101]), (Str.mk [97]), (Str.mk [99]), (Str.mk [103])].getD rv232.1.toNat default))))) (innmk_GBlock (z0 := (((rv7.Funcs.getD rv15.1.toNat default).Blocks).getD rv27.1.toNat default).Name) aD1)) ?_
   refine Jl [2, 0] (Ent.closeD (A := [ds (vl a23 k24 ((rv7.Funcs.getD rv15.1.toNat default).Blocks)) ((((rv7.Funcs.getD rv15.1.toNat default).Blocks).set rv27.1.toNat (GBlock.mk ((((rv7.Funcs.getD rv15.1.toNat default).Blocks).getD rv27.1.toNat default).Name) (((((rv7.Funcs.getD rv15.1.toNat default).Blocks).getD rv27.1.toNat default).Stmts).set rv59.1.toNat (GStmt.mk ((((((rv7.Funcs.getD rv15.1.toNat default).Blocks).getD rv27.1.toNat default).Stmts).getD rv59.1.toNat default).Op) ((((((rv7.Funcs.getD rv15.1.toNat default).Blocks).getD rv27.1.toNat default).Stmts).getD rv59.1.toNat default).Def) ((((((rv7.Funcs.getD rv15.1.toNat default).Blocks).getD rv27.1.toNat default).Stmts).getD rv59.1.toNat default).Uses) (((((((rv7.Funcs.getD rv15.1.toNat default).Blocks).getD rv27.1.toNat default).Stmts).getD rv59.1.toNat default).Targets).set (0 : Int).toNat ([(Str.mk [110, 111, 119, 104, 101, 114, 101]), (Str.mk [97]), (Str.mk [99]), (Str.mk [103])].getD rv232.1.toNat default)))))) : List GBlock)]) _ _ _ _ (GFunc.mk ((rv7.Funcs.getD rv15.1.toNat default).Name) (((rv7.Funcs.getD rv15.1.toNat default).Blocks).set rv27.1.toNat (GBlock.mk ((((rv7.Funcs.getD rv15.1.toNat default).Blocks).getD rv27.1.toNat default).Name) (((((rv7.Funcs.getD rv15.1.toNat default).Blocks).getD rv27.1.toNat default).Stmts).set rv59.1.toNat (GStmt.mk ((((((rv7.Funcs.getD rv15.1.toNat default).Blocks).getD rv27.1.toNat default).Stmts).getD rv59.1.toNat default).Op) ((((((rv7.Funcs.getD rv15.1.toNat default).Blocks).getD rv27.1.toNat default).Stmts).getD rv59.1.toNat default).Def) ((((((rv7.Funcs.getD rv15.1.toNat default).Blocks).getD rv27.1.toNat default).Stmts).getD rv59.1.toNat default).Uses) (((((((rv7.Funcs.getD rv15.1.toNat default).Blocks).getD rv27.1.toNat default).Stmts).getD rv59.1.toNat default).Targets).set (0 : Int).toNat ([(Str.mk [110, 111, 119, 104, 101, 114, 101]), (Str.mk [97]), (Str.mk [99]), (Str.mk [103])].getD rv232.1.toNat default))))))) (innmk_GFunc (z0 := (rv7.Funcs.getD rv15.1.toNat default).Name) aD1)) ?_
   refine Jl [0] (Ent.dsF _ _) ?_
   have hq := q4 hrr ((GProgram.mk (rv7.Funcs.set rv15.1.toNat (GFunc.mk ((rv7.Funcs.getD rv15.1.toNat default).Name) (((rv7.Funcs.getD rv15.1.toNat default).Blocks).set rv27.1.toNat (GBlock.mk ((((rv7.Funcs.getD rv15.1.toNat default).Blocks).getD rv27.1.toNat default).Name) (((((rv7.Funcs.getD rv15.1.toNat default).Blocks).getD rv27.1.toNat default).Stmts).set rv59.1.toNat (GStmt.mk ((((((rv7.Funcs.getD rv15.1.toNat default).Blocks).getD rv27.1.toNat default).Stmts).getD rv59.1.toNat default).Op) ((((((rv7.Funcs.getD rv15.1.toNat default).Blocks).getD rv27.1.toNat default).Stmts).getD rv59.1.toNat default).Def) ((((((rv7.Funcs.getD rv15.1.toNat default).Blocks).getD rv27.1.toNat default).Stmts).getD rv59.1.toNat default).Uses) (((((((rv7.Funcs.getD rv15.1.toNat default).Blocks).getD rv27.1.toNat default).Stmts).getD rv59.1.toNat default).Targets).set (0 : Int).toNat ([(Str.mk [110, 111, 119, 104, 101, 114, 101]), (Str.mk [97]), (Str.mk [99]), (Str.mk [103])].getD rv232.1.toNat default))))))))), rv232.2) (by simp only [tp_SpoilProgram, h39, h73, h88, h103, h122, h147, h180, h217, h229, hg8, hg16, hg28, hg60, hg68, hg233, cs4]); subst hq
   exact Kr (vl a10 k11 rv7.Funcs) rfl (.cellN 1 rfl sh25 rfl (reads_Cl _ _) rfl .nil) [0, 6] en
  intro h229
  have g247 := df h229
  refine KS ?_
  refine Oq (VldA sh25 6) (Ost (Scl [7] sh25 [vl a10 k11 rv7.Funcs]) (KS ?_))
  refine Jl [1, 1, 1] (Ent.closeS (A := [O a219 k220 ((((((rv7.Funcs.getD rv15.1.toNat default).Blocks).getD rv27.1.toNat default).Stmts).getD rv59.1.toNat default).Uses), O a221 k222 ((((((rv7.Funcs.getD rv15.1.toNat default).Blocks).getD rv27.1.toNat default).Stmts).getD rv59.1.toNat default).Targets)]) _ _ _ _ default (innmk_GStmt (z0 := (((((rv7.Funcs.getD rv15.1.toNat default).Blocks).getD rv27.1.toNat default).Stmts).getD rv59.1.toNat default).Op) (z1 := (((((rv7.Funcs.getD rv15.1.toNat default).Blocks).getD rv27.1.toNat default).Stmts).getD rv59.1.toNat default).Def) aD1 aD1)) ?_
  refine Jl [3, 0] (Ent.closeS (A := [D a35 k36 ((((rv7.Funcs.getD rv15.1.toNat default).Blocks).getD rv27.1.toNat default).Stmts)]) _ _ _ _ default (innmk_GBlock (z0 := (((rv7.Funcs.getD rv15.1.toNat default).Blocks).getD rv27.1.toNat default).Name) aD1)) ?_
  refine Jl [3, 0] (Ent.closeS (A := [D a23 k24 ((rv7.Funcs.getD rv15.1.toNat default).Blocks)]) _ _ _ _ default (innmk_GFunc (z0 := (rv7.Funcs.getD rv15.1.toNat default).Name) aD1)) ?_
  refine Jl [0] (Ent.dsF _ _) ?_
  have hq := q4 hrr (rv7, rv67.2) (by simp only [tp_SpoilProgram, h39, h73, h88, h103, h122, h147, h180, h217, h229, hg8, hg16, hg28, hg60, hg68, cs4]); subst hq
  exact Kr (vl a10 k11 rv7.Funcs) rfl (.cellN 1 rfl sh25 rfl (reads_Cl _ _) rfl .nil) [0, 2] en
 intro h217
 have g248 := ne_of_beq_false h217
 refine KS ?_
 refine Oq Veql (Oq Va (KS ?_))
 refine Kc ?_ ?_
 ·intro h249
  have g250 := eq_of_beq h249
  refine JK_drawK [0, 0, 2, 6, 14, 0, 32, 96, 224, 480, 992, 2046, 4095, 8191, 16383] fmix ?_
  refine Dv [] Vm (Dv [] Vm (Dv [1] (Vn 0) (Dv [1] (Vfa fo42_1 0) (Dv [1] (VldF sh40 0) (Dv [] Vm (Dv [1] (Vn 0) (Dv [1] (Vfa fo42_1 0) (Dv [1] (VldF sh40 0) (Dv [] (Vlen sl40) ?_)))))))))
  refine Dv [] Vsub (Dx [2] [2] [0] (fun G => (G.g 11 0)) [fun G => ds (G.g 11 0) ((((((rv7.Funcs.getD rv15.1.toNat default).Blocks).getD rv27.1.toNat default).Stmts).take ((((((((rv7.Funcs.getD rv15.1.toNat default).Blocks).getD rv27.1.toNat default).Stmts).length : Int) - 1) : Int).toNat)).drop 0)] (fun G => xA (AslD [0] sl40 0 ((((((((rv7.Funcs.getD rv15.1.toNat default).Blocks).getD rv27.1.toNat default).Stmts).length : Int) - 1) : Int).toNat))) (Dv [1] (Vn 0) (Dv [1] (Vfa fo42_1 0) (Dx0 [1, 9] [1] [1, 0] [fun G => dh (vl a23 k24 ((rv7.Funcs.getD rv15.1.toNat default).Blocks)) ((rv7.Funcs.getD rv15.1.toNat default).Blocks : List GBlock) rv27.1.toNat [.string (bs ((((rv7.Funcs.getD rv15.1.toNat default).Blocks).getD rv27.1.toNat default).Name)), (G.g 11 0)]] (fun G => x1 1 rfl ds_one fun ho252 => (xS (SoHr (α := GBlock) [0] sh40 [(G.g 11 0)] [.string (bs ((((rv7.Funcs.getD rv15.1.toNat default).Blocks).getD rv27.1.toNat default).Name)), (G.g 11 0)] (cells_of_one ho252) rfl (by simp only [List.all_cons, List.all_nil, ho252, Bool.and_true, Bool.true_and] <;> rfl)))) ?_))))
  refine Dn ⟨by kernel_rfl, fun G => ?_⟩
  refine Jw2 [(4, p5), (5, p13)] [0, 3, 4, 5, 6, 7, 8] [ds (G.g 11 0) ((((((rv7.Funcs.getD rv15.1.toNat default).Blocks).getD rv27.1.toNat default).Stmts).take ((((((((rv7.Funcs.getD rv15.1.toNat default).Blocks).getD rv27.1.toNat default).Stmts).length : Int) - 1) : Int).toNat)).drop 0), dh (vl a23 k24 ((rv7.Funcs.getD rv15.1.toNat default).Blocks)) ((rv7.Funcs.getD rv15.1.toNat default).Blocks : List GBlock) rv27.1.toNat [.string (bs ((((rv7.Funcs.getD rv15.1.toNat default).Blocks).getD rv27.1.toNat default).Name)), (G.g 11 0)]] ?_
  generalize G.g 11 0 = c251
  refine Jo 7 ?_; rintro a253 k254 rfl
  refine FbD 72 7 fun _ => ?_
  refine KS ?_
  refine Oq (VldA sh25 2) (Ost (Scl [3] sh25 [vl a10 k11 rv7.Funcs]) (KS ?_))
  refine Jl [8, 7] (Ent.closeD (A := [D a253 k254 ((((((rv7.Funcs.getD rv15.1.toNat default).Blocks).getD rv27.1.toNat default).Stmts).take ((((((((rv7.Funcs.getD rv15.1.toNat default).Blocks).getD rv27.1.toNat default).Stmts).length : Int) - 1) : Int).toNat)).drop 0)]) _ _ _ _ (GBlock.mk ((((rv7.Funcs.getD rv15.1.toNat default).Blocks).getD rv27.1.toNat default).Name) ((((((rv7.Funcs.getD rv15.1.toNat default).Blocks).getD rv27.1.toNat default).Stmts).take ((((((((rv7.Funcs.getD rv15.1.toNat default).Blocks).getD rv27.1.toNat default).Stmts).length : Int) - 1) : Int).toNat)).drop 0)) (innmk_GBlock (z0 := (((rv7.Funcs.getD rv15.1.toNat default).Blocks).getD rv27.1.toNat default).Name) aD1)) ?_
  refine Jl [3, 0] (Ent.closeD (A := [ds (vl a23 k24 ((rv7.Funcs.getD rv15.1.toNat default).Blocks)) (((rv7.Funcs.getD rv15.1.toNat default).Blocks).set rv27.1.toNat (GBlock.mk ((((rv7.Funcs.getD rv15.1.toNat default).Blocks).getD rv27.1.toNat default).Name) ((((((rv7.Funcs.getD rv15.1.toNat default).Blocks).getD rv27.1.toNat default).Stmts).take ((((((((rv7.Funcs.getD rv15.1.toNat default).Blocks).getD rv27.1.toNat default).Stmts).length : Int) - 1) : Int).toNat)).drop 0)))]) _ _ _ _ (GFunc.mk ((rv7.Funcs.getD rv15.1.toNat default).Name) (((rv7.Funcs.getD rv15.1.toNat default).Blocks).set rv27.1.toNat (GBlock.mk ((((rv7.Funcs.getD rv15.1.toNat default).Blocks).getD rv27.1.toNat default).Name) ((((((rv7.Funcs.getD rv15.1.toNat default).Blocks).getD rv27.1.toNat default).Stmts).take ((((((((rv7.Funcs.getD rv15.1.toNat default).Blocks).getD rv27.1.toNat default).Stmts).length : Int) - 1) : Int).toNat)).drop 0)))) (innmk_GFunc (z0 := (rv7.Funcs.getD rv15.1.toNat default).Name) aD1)) ?_
  refine Jl [0] (Ent.dsF _ _) ?_
  have hq := q4 hrr ((GProgram.mk (rv7.Funcs.set rv15.1.toNat (GFunc.mk ((rv7.Funcs.getD rv15.1.toNat default).Name) (((rv7.Funcs.getD rv15.1.toNat default).Blocks).set rv27.1.toNat (GBlock.mk ((((rv7.Funcs.getD rv15.1.toNat default).Blocks).getD rv27.1.toNat default).Name) ((((((rv7.Funcs.getD rv15.1.toNat default).Blocks).getD rv27.1.toNat default).Stmts).take ((((((((rv7.Funcs.getD rv15.1.toNat default).Blocks).getD rv27.1.toNat default).Stmts).length : Int) - 1) : Int).toNat)).drop 0)))))), rv67.2) (by simp only [tp_SpoilProgram, h39, h73, h88, h103, h122, h147, h180, h217, h249, hg8, hg16, hg28, hg60, hg68, cs4]); subst hq
  exact Kr (vl a10 k11 rv7.Funcs) rfl (.cellN 1 rfl sh25 rfl (reads_Cl _ _) rfl .nil) [0, 2] en
 intro h249
 have g256 := ne_of_beq_false h249
 refine KS ?_
 refine Oq Veql (Oq Va (KS ?_))
 refine Kc ?_ ?_
 ·intro h257
  have g258 := eq_of_beq h257
  refine JK_drawK [0, 0, 2, 6, 14, 0, 32, 96, 254, 511, 1023, 2047] fmix ?_
  refine Dv [] Vm (Dv [] Vm (Dv [1] (Vn 0) (Dv [1] (Vfa fo42_1 0) (Dv [1] (VldF sh40 0) (Dv [] Vm ?_)))))
  refine letv (tp_stmt tT rv67.2 3) fun rv261 hg262 => ?_
  refine Dx [0, 7] [0] [4, 0, 1, 1, 1] (fun G => .agg #[vi rv261.1.Op, .string (bs rv261.1.Def), (G.g 6 0), (G.g 6 1)]) [fun G => SP.fact (i64ok rv261.1.Op ∧ rv261.1.Def.b.length ≤ 140737488355328 ∧ (0 ≤ rv261.2 ∧ rv261.2 ≤ (tT.length : Int))), fun G => os (G.g 6 0) rv261.1.Uses, fun G => os (G.g 6 1) rv261.1.Targets, fun G => Cl tP [vl ta tk tT, vi rv261.2]] (fun G => xC [0, 0] ca11 (fn11 tP ta tk tT rv67.2 3 pre pre pre rv261 hg262)) (Dx [] [] [0] (fun G => (G.g 7 0)) [fun G => Cr (G.g 7 0) 1 [vi rv261.1.Op, .string (bs rv261.1.Def), (G.g 6 0), (G.g 6 1)]] (fun G => xA (AsV sl40 sz40 [.agg #[vi rv261.1.Op, .string (bs rv261.1.Def), (G.g 6 0), (G.g 6 1)]] [vi rv261.1.Op, .string (bs rv261.1.Def), (G.g 6 0), (G.g 6 1)])) ?_)
  have hn265 := la ((((rv7.Funcs.getD rv15.1.toNat default).Blocks).getD rv27.1.toNat default).Stmts) ([rv261.1] : List GStmt)
  refine Dx [2, 9, 10, 11, 13] [2, 10, 11, 13] [1, 0] (fun G => (G.g 8 0)) [fun G => ds (G.g 8 0) (((((rv7.Funcs.getD rv15.1.toNat default).Blocks).getD rv27.1.toNat default).Stmts ++ [rv261.1]) : List GStmt)] (fun G => by refine xf 1 rfl ?_; rintro ⟨he266, he267, he268⟩; unfold i64ok at he266; exact xp [4, 2, 2] rfl (Ent.crD (α := GStmt) (A := [os (G.g 6 0) rv261.1.Uses, os (G.g 6 1) rv261.1.Targets]) _ rv261.1 _ aB1 (innmk_GStmt (z0 := rv261.1.Op) (z1 := rv261.1.Def) aD1 aD1)) (xA (ApD [1, 0] sl40 sl40 sz40))) (Dv [1] (Vn 0) (Dv [1] (Vfa fo42_1 0) (Dx0 [1, 14] [1] [1, 0] [fun G => dh (vl a23 k24 ((rv7.Funcs.getD rv15.1.toNat default).Blocks)) ((rv7.Funcs.getD rv15.1.toNat default).Blocks : List GBlock) rv27.1.toNat [.string (bs ((((rv7.Funcs.getD rv15.1.toNat default).Blocks).getD rv27.1.toNat default).Name)), (G.g 8 0)]] (fun G => x1 1 rfl ds_one fun ho269 => (xS (SoHr (α := GBlock) [0] sh40 [(G.g 8 0)] [.string (bs ((((rv7.Funcs.getD rv15.1.toNat default).Blocks).getD rv27.1.toNat default).Name)), (G.g 8 0)] (cells_of_one ho269) rfl (by simp only [List.all_cons, List.all_nil, ho269, Bool.and_true, Bool.true_and] <;> rfl)))) ?_)))
  refine Dn ⟨by kernel_rfl, fun G => ?_⟩
  refine Jw2 [(4, p5), (5, p13)] [3, 4, 5, 6, 7, 8] [SP.fact (i64ok rv261.1.Op ∧ rv261.1.Def.b.length ≤ 140737488355328 ∧ (0 ≤ rv261.2 ∧ rv261.2 ≤ (tT.length : Int))), Cl tP [vl ta tk tT, vi rv261.2], ds (G.g 8 0) (((((rv7.Funcs.getD rv15.1.toNat default).Blocks).getD rv27.1.toNat default).Stmts ++ [rv261.1]) : List GStmt), dh (vl a23 k24 ((rv7.Funcs.getD rv15.1.toNat default).Blocks)) ((rv7.Funcs.getD rv15.1.toNat default).Blocks : List GBlock) rv27.1.toNat [.string (bs ((((rv7.Funcs.getD rv15.1.toNat default).Blocks).getD rv27.1.toNat default).Name)), (G.g 8 0)]] ?_
  generalize G.g 8 0 = c264
  refine Jf 6 rfl ?_; rintro ⟨he270, he271, he272⟩
  unfold i64ok at he270
  refine Jk [0, 0, 0, 0, 1, 2, 4, 4, 4] ?_
  refine Jo 7 ?_; rintro a273 k274 rfl
  refine FbD 72 7 fun _ => ?_
  refine KS ?_
  refine Oq (VldA sh25 1) (Ost (Scl [2] sh25 [vl a10 k11 rv7.Funcs]) (KS ?_))
  refine Jl [8, 7] (Ent.closeD (A := [D a273 k274 (((((rv7.Funcs.getD rv15.1.toNat default).Blocks).getD rv27.1.toNat default).Stmts ++ [rv261.1]) : List GStmt)]) _ _ _ _ (GBlock.mk ((((rv7.Funcs.getD rv15.1.toNat default).Blocks).getD rv27.1.toNat default).Name) ((((rv7.Funcs.getD rv15.1.toNat default).Blocks).getD rv27.1.toNat default).Stmts ++ [rv261.1])) (innmk_GBlock (z0 := (((rv7.Funcs.getD rv15.1.toNat default).Blocks).getD rv27.1.toNat default).Name) aD1)) ?_
  refine Jl [2, 0] (Ent.closeD (A := [ds (vl a23 k24 ((rv7.Funcs.getD rv15.1.toNat default).Blocks)) ((((rv7.Funcs.getD rv15.1.toNat default).Blocks).set rv27.1.toNat (GBlock.mk ((((rv7.Funcs.getD rv15.1.toNat default).Blocks).getD rv27.1.toNat default).Name) ((((rv7.Funcs.getD rv15.1.toNat default).Blocks).getD rv27.1.toNat default).Stmts ++ [rv261.1]))) : List GBlock)]) _ _ _ _ (GFunc.mk ((rv7.Funcs.getD rv15.1.toNat default).Name) (((rv7.Funcs.getD rv15.1.toNat default).Blocks).set rv27.1.toNat (GBlock.mk ((((rv7.Funcs.getD rv15.1.toNat default).Blocks).getD rv27.1.toNat default).Name) ((((rv7.Funcs.getD rv15.1.toNat default).Blocks).getD rv27.1.toNat default).Stmts ++ [rv261.1])))) (innmk_GFunc (z0 := (rv7.Funcs.getD rv15.1.toNat default).Name) aD1)) ?_
  refine Jl [0] (Ent.dsF _ _) ?_
  have hq := q4 hrr ((GProgram.mk (rv7.Funcs.set rv15.1.toNat (GFunc.mk ((rv7.Funcs.getD rv15.1.toNat default).Name) (((rv7.Funcs.getD rv15.1.toNat default).Blocks).set rv27.1.toNat (GBlock.mk ((((rv7.Funcs.getD rv15.1.toNat default).Blocks).getD rv27.1.toNat default).Name) ((((rv7.Funcs.getD rv15.1.toNat default).Blocks).getD rv27.1.toNat default).Stmts ++ [rv261.1])))))), rv261.2) (by simp only [tp_SpoilProgram, h39, h73, h88, h103, h122, h147, h180, h217, h249, h257, hg8, hg16, hg28, hg60, hg68, hg262, cs4]); subst hq
  exact Kr (vl a10 k11 rv7.Funcs) rfl (.cellN 1 rfl sh25 rfl (reads_Cl _ _) rfl .nil) [0, 6] en
 intro h257
 have g276 := ne_of_beq_false h257
 refine Jl [1, 1] (Ent.closeS (A := [D a35 k36 ((((rv7.Funcs.getD rv15.1.toNat default).Blocks).getD rv27.1.toNat default).Stmts)]) _ _ _ _ default (innmk_GBlock (z0 := (((rv7.Funcs.getD rv15.1.toNat default).Blocks).getD rv27.1.toNat default).Name) aD1)) ?_
 refine Jl [0] (Ent.dsO _ _) ?_
 refine JJ_peekO_GBlock (0 : Int).toNat 0 rfl rng fun a277 k278 hb279 => ?_
 refine Fb 72 1 fun _ => ?_
 refine JK_drawK [0, 0, 2, 6, 14, 0, 32, 96, 224, 480, 992, 2016, 4094, 8191, 16383, 32767] fmix ?_
 refine Dv [] Vm (Dv [] Vm (Dv [3] (Vn 0) (Dv [3] (Vfa fo39_1 0) (Dv [3] (VldF sh37 0) (Dv [] Vm (Dv [3] (Vn 0) (Dv [3] (Vfa fo39_1 0) (Dv [3] (VldF sh37 0) (Dv [0] (Vi sl37 0) ?_)))))))))
 refine Dv [0] (VldA sh42 0) (Dx [] [] [0] (fun G => (G.g 11 0)) [fun G => Cr (G.g 11 0) 1 [.string (bs ((((rv7.Funcs.getD rv15.1.toNat default).Blocks).getD (0 : Int).toNat default).Name)), .slice a277 (((((rv7.Funcs.getD rv15.1.toNat default).Blocks).getD (0 : Int).toNat default).Stmts).length) k278]] (fun G => xA (AsV sl37 sz37 [.agg #[.string (bs ((((rv7.Funcs.getD rv15.1.toNat default).Blocks).getD (0 : Int).toNat default).Name)), .slice a277 (((((rv7.Funcs.getD rv15.1.toNat default).Blocks).getD (0 : Int).toNat default).Stmts).length) k278]] [.string (bs ((((rv7.Funcs.getD rv15.1.toNat default).Blocks).getD (0 : Int).toNat default).Name)), .slice a277 (((((rv7.Funcs.getD rv15.1.toNat default).Blocks).getD (0 : Int).toNat default).Stmts).length) k278])) ?_)
 have hn283 := la ((rv7.Funcs.getD rv15.1.toNat default).Blocks) ([(((rv7.Funcs.getD rv15.1.toNat default).Blocks).getD (0 : Int).toNat default)] : List GBlock)
 refine Dx [0, 1, 9] [0, 9] [1, 0] (fun G => (G.g 12 0)) [fun G => os (G.g 12 0) (((rv7.Funcs.getD rv15.1.toNat default).Blocks ++ [(((rv7.Funcs.getD rv15.1.toNat default).Blocks).getD (0 : Int).toNat default)]) : List GBlock)] (fun G => xp [0] rfl (Ent.oread _ _ _ _) (xp [2, 1] rfl (Ent.cr1 (α := GBlock) (A := [S a277 k278 ((((rv7.Funcs.getD rv15.1.toNat default).Blocks).getD (0 : Int).toNat default).Stmts)]) _ (((rv7.Funcs.getD rv15.1.toNat default).Blocks).getD (0 : Int).toNat default) _ aB1 (fun h => ⟨_, rfl, aS1, sepAll_get (i := 0) rfl h⟩)) (xA (ApO [2, 0] sl37 sl37 sz37)))) (Dv [3] (Vn 0) (Dv [3] (Vfa fo39_1 0) (Dx0 [3, 10] [3] [1, 0] [fun G => dh (vl a10 k11 rv7.Funcs) (rv7.Funcs : List GFunc) rv15.1.toNat [.string (bs ((rv7.Funcs.getD rv15.1.toNat default).Name)), (G.g 12 0)]] (fun G => x1 1 rfl os_one fun ho284 => (xS (SoHr (α := GFunc) [0] sh37 [(G.g 12 0)] [.string (bs ((rv7.Funcs.getD rv15.1.toNat default).Name)), (G.g 12 0)] (cells_of_one ho284) rfl (by simp only [List.all_cons, List.all_nil, ho284, Bool.and_true, Bool.true_and] <;> rfl)))) ?_)))
 refine Dn ⟨by kernel_rfl, fun G => ?_⟩
 refine Jw2 [(4, p5), (5, p13)] [1, 2, 4, 5, 6, 7, 8] [os (G.g 12 0) (((rv7.Funcs.getD rv15.1.toNat default).Blocks ++ [(((rv7.Funcs.getD rv15.1.toNat default).Blocks).getD (0 : Int).toNat default)]) : List GBlock), dh (vl a10 k11 rv7.Funcs) (rv7.Funcs : List GFunc) rv15.1.toNat [.string (bs ((rv7.Funcs.getD rv15.1.toNat default).Name)), (G.g 12 0)]] ?_
 generalize G.g 12 0 = c282
 refine Jo 7 ?_; rintro a285 k286 rfl
 refine Fb 40 7 fun _ => KS ?_
 refine Oq (VldA sh25 2) (Ost (Scl [3] sh25 [vl a10 k11 rv7.Funcs]) (KS ?_))
 refine Jl [7] (Ent.freeze _ _) ?_
 refine Jl [8, 0] (Ent.closeO (A := [S a285 k286 (((rv7.Funcs.getD rv15.1.toNat default).Blocks ++ [(((rv7.Funcs.getD rv15.1.toNat default).Blocks).getD (0 : Int).toNat default)]) : List GBlock)]) _ _ _ _ (GFunc.mk ((rv7.Funcs.getD rv15.1.toNat default).Name) ((rv7.Funcs.getD rv15.1.toNat default).Blocks ++ [(((rv7.Funcs.getD rv15.1.toNat default).Blocks).getD (0 : Int).toNat default)])) (fun h => ⟨_, rfl, aS1, sepAll_get (i := 0) rfl h⟩)) ?_
 refine Jl [0] (Ent.freeze _ _) ?_
 have hq := q4 hrr ((GProgram.mk (rv7.Funcs.set rv15.1.toNat (GFunc.mk ((rv7.Funcs.getD rv15.1.toNat default).Name) ((rv7.Funcs.getD rv15.1.toNat default).Blocks ++ [(((rv7.Funcs.getD rv15.1.toNat default).Blocks).getD (0 : Int).toNat default)])))), rv67.2) (by simp only [tp_SpoilProgram, h39, h73, h88, h103, h122, h147, h180, h217, h249, h257, hg8, hg16, hg28, hg60, hg68, cs4]); subst hq
 exact Kr (vl a10 k11 rv7.Funcs) rfl (.cellN 2 rfl sh25 rfl (reads_Cl _ _) rfl .nil) [0, 4] en
theorem fn8 (p : GProgram) (pa0 : Option Addr) (pk0 : Nat) (rr : Bool) (hrr : g_HugeProgram p = rr) : FT Tryz.prog 8 #[.agg #[vl pa0 pk0 p.Funcs]] [S pa0 pk0 p.Funcs] (fun g : Unit => True) (fun g => vb rr) (fun g => []) := by
 refine FTi Tryz.func8 fun w0 M0 F0 => Fb 40 0 fun _ => ?_
 refine KS ?_
 refine Oa (Ab [vl pa0 pk0 p.Funcs]) fun p2 => Oq Va (KS ?_)
 refine Oq (Vfa fo25_0 0) (Oq (VldF sh23 0) (Oq (Vlen sl23) (Oq Va (KS ?_))))
 refine Oq Va (KS ?_)
 refine Kl (γ := Nat × Int × Int) (fun (r3, n_4, i_5) => ⟨[(1, p2), (3, vi n_4), (4, vi i_5)], [pv p2 [vl pa0 pk0 p.Funcs], S pa0 pk0 p.Funcs], g_HugeProgram_L0 p r3 n_4 i_5 = g_HugeProgram_L0 p (((p.Funcs.length : Int) - 0).toNat) (p.Funcs.length : Int) 0 ∧ r3 = ((p.Funcs.length : Int) - i_5).toNat ∧ (0 : Int) ≤ i_5 ∧ i_5 ≤ (p.Funcs.length : Int) ∧ (-9223372036854775808 ≤ n_4 ∧ n_4 ≤ 9223372036854775807) ∧ (-9223372036854775808 ≤ i_5 ∧ i_5 ≤ 9223372036854775807), r3⟩) (((p.Funcs.length : Int) - 0).toNat, (p.Funcs.length : Int), 0) [0, 1] ⟨rfl, rfl, aM1, aM1, aM1, aM1⟩ ?_
 rintro ⟨r3, n_4, i_5⟩ ⟨hM6, hr7, hi8, hi9, hk10, hk11⟩
 refine JJ_nx fun _ _ hL hA => ?_; dsimp only at hL hA; subst hL hA
 refine Fb 40 1 fun _ => KS ?_
 refine Oq Vm (Oq (Vfa fo25_0 0) (Oq (VldF sh23 0) (Oq (Vlen sl23) (Oq Vlss (Oq Vm ?_)))))
 refine Js 14 ?_ ?_
 ·intro h13
  have g14 := dt h13
  obtain ⟨r15, rfl⟩ := scc (n := r3) aM1
  refine Oq Vm (Oq Vlss (Oq Vpt (KS ?_)))
  refine Kc ?_ ?_
  ·intro h16
   have g17 := dt h16
   refine KS ?_
   refine Oq Vm (Oq (Vfa fo25_0 0) (Oq (VldF sh23 0) (Oq Vm (Oq (Vi sl23 1) ?_))))
   refine JJ_peek_GFunc i_5.toNat 1 rfl rng fun a18 k19 hb20 => ?_
   refine Fb 40 1 fun _ => ?_
   refine Oq (Vfa fo39_1 0) (Oq (VldF sh37 0) (Oq (Vlen sl37) (Oq Vadd (Oq Va (KS ?_)))))
   refine Oq Va (KS ?_)
   refine Kl (γ := Nat × Int × Int) (fun (r22, n_23, k_24) => ⟨[(1, p2), (4, vi i_5), (3, vi n_23), (5, vi k_24)], [pv p2 [vl pa0 pk0 p.Funcs], S pa0 pk0 p.Funcs], g_HugeProgram_L1 p i_5 r22 n_23 k_24 = g_HugeProgram_L1 p i_5 ((((((p.Funcs.getD i_5.toNat default).Blocks).length : Int) : Int) - 0).toNat) (n_4 + (((p.Funcs.getD i_5.toNat default).Blocks).length : Int)) 0 ∧ r22 = (((((p.Funcs.getD i_5.toNat default).Blocks).length : Int) : Int) - k_24).toNat ∧ (0 : Int) ≤ k_24 ∧ (k_24 ≤ (((p.Funcs.getD i_5.toNat default).Blocks).length : Int) ∨ k_24 = 0) ∧ (-9223372036854775808 ≤ n_23 ∧ n_23 ≤ 9223372036854775807) ∧ (-9223372036854775808 ≤ k_24 ∧ k_24 ≤ 9223372036854775807), r22⟩) ((((((p.Funcs.getD i_5.toNat default).Blocks).length : Int) : Int) - 0).toNat, (n_4 + (((p.Funcs.getD i_5.toNat default).Blocks).length : Int)), 0) [2, 3] ⟨rfl, rfl, aM1, (.inr rfl), aM1, aM1⟩ ?_
   rintro ⟨r22, n_23, k_24⟩ ⟨hM25, hr26, hi27, hi28, hk29, hk30⟩
   refine JJ_nx fun _ _ hL hA => ?_; dsimp only at hL hA; subst hL hA
   refine Fb 40 1 fun _ => KS ?_
   refine Oq Vm (Oq (Vfa fo25_0 0) (Oq (VldF sh23 0) (Oq Vm (Oq (Vi sl23 1) ?_))))
   refine JJ_peek_GFunc i_5.toNat 1 rfl rng fun a32 k33 hb34 => ?_
   refine Fb 40 1 fun _ => ?_
   refine Oq (Vfa fo39_1 0) (Oq (VldF sh37 0) (Oq (Vlen sl37) (Oq Vlss (Oq Vm ?_))))
   refine Js 38 ?_ ?_
   ·intro h36
    have g37 := dt h36
    obtain ⟨r38, rfl⟩ := scc (n := r22) aM1
    refine Oq Vm (Oq Vlss (Oq Vpt (KS ?_)))
    refine Kc ?_ ?_
    ·intro h39
     have g40 := dt h39
     refine KS ?_
     refine Oq Vm (Oq (Vfa fo25_0 2) (Oq (VldF sh23 2) (Oq Vm (Oq (Vi sl23 3) (Oq (Vfa fo39_1 0) (Oq (VldF sh37 0) (Oq Vm (Oq (Vi sl37 1) ?_))))))))
     refine JJ_peek_GBlock k_24.toNat 1 rfl rng fun a41 k42 hb43 => ?_
     refine Fb 72 1 fun _ => ?_
     refine Oq (Vfa fo42_1 0) (Oq (VldF sh40 0) (Oq (Vlen sl40) (Oq Vadd (Oq Va (KS ?_)))))
     refine Oq Vm (Oq Vadd (Oq Va (KS ?_)))
     exact Kg (r38, (n_23 + (((((p.Funcs.getD i_5.toNat default).Blocks).getD k_24.toNat default).Stmts).length : Int)), (k_24 + 1)) [4, 5] ⟨(q3 hM25 (by simp only [g_HugeProgram_L1, h36, h39, cs4])), aM1, aM1, aM1, aM1, aM1⟩
    intro h39
    have g45 := df h39
    refine Ke ?_
    have hR46 := q2 hM25 n_23 (by simp only [g_HugeProgram_L1, h36, h39, cs4])
    refine KS ?_
    refine Oq Vm (Oq Vadd (Oq Va (KS ?_)))
    exact Kg (r15, n_23, (i_5 + 1)) [2, 3] ⟨(q3 hM6 (by simp only [g_HugeProgram_L0, h13, h16, h36, h39, hR46, cs4])), aM1, aM1, aM1, aM1, aM1⟩
   intro h36
   have g47 := df h36
   obtain rfl : r22 = 0 := by omega
   refine Osk (Osk (Oq Vpf (KS ?_)))
   refine Kf ?_
   refine Ke ?_
   have hR48 := q2 hM25 n_23 (by simp only [g_HugeProgram_L1, h36, cs4])
   refine KS ?_
   refine Oq Vm (Oq Vadd (Oq Va (KS ?_)))
   exact Kg (r15, n_23, (i_5 + 1)) [2, 3] ⟨(q3 hM6 (by simp only [g_HugeProgram_L0, h13, h16, h36, hR48, cs4])), aM1, aM1, aM1, aM1, aM1⟩
  intro h16
  have g49 := df h16
  refine Ke ?_
  have hR50 := q2 hM6 n_4 (by simp only [g_HugeProgram_L0, h13, h16, cs4])
  refine KS ?_
  refine Oq Vm (Oq Vgtr (Oq Va (KS ?_)))
  have hq := q4 hrr (decide (30 < n_4)) (by simp only [g_HugeProgram, h13, h16, hR50, cs4]); subst hq
  exact Kr () rfl (.tmp rfl .nil) [] trivial
 intro h13
 have g51 := df h13
 obtain rfl : r3 = 0 := by omega
 refine Osk (Osk (Oq Vpf (KS ?_)))
 refine Kf ?_
 refine Ke ?_
 have hR52 := q2 hM6 n_4 (by simp only [g_HugeProgram_L0, h13, cs4])
 refine KS ?_
 refine Oq Vm (Oq Vgtr (Oq Va (KS ?_)))
 have hq := q4 hrr (decide (30 < n_4)) (by simp only [g_HugeProgram, h13, hR52, cs4]); subst hq
 exact Kr () rfl (.tmp rfl .nil) [] trivial
theorem fn33 (text : Str) (htext_0 : text.b.length ≤ 140737488355328) (rr : List GToken × Int × Int × Int) (hrr : r4_Scan text = .ret rr) : FT Tryz.prog 33 #[.string (bs text)] [] (fun g : Value => i64ok rr.2.1 ∧ i64ok rr.2.2.1 ∧ i64ok rr.2.2.2) (fun g => .tuple #[g, vi rr.2.1, vi rr.2.2.1, vi rr.2.2.2]) (fun g => [sl g rr.1]) := by
 refine FTi Tryz.func33 fun w0 M0 F0 => ?_
 have hx0 := lrn rr; have H := hrr; unfold r4_Scan at H
 refine KS ?_
 refine Oq Va (Oq Va (Oq Va (Oq Va (KS ?_))))
 refine Oq Vm (Oq (VlS un9 (l := text)) (Oq Vgtr (KS ?_)))
 refine pF H hx0 fun h1 H => ?_
 refine KcF h1 ?_
 have g2 := df h1
 refine KS ?_
 refine Oq Va (KS ?_)
 refine Oq Va (Oq Va (Oq Va (KS ?_)))
 refine Oq Va (KS ?_)
 refine Jl [] (Ent.osNil (α := GToken)) ?_
 refine llH H hx0 fun X13 hX14 hx15 HL16 => ?_
 refine Kl (γ := Nat × List GToken × Int × Bool × Int × Option Addr × Nat) (fun (r3, out_4, col_5, open__6, i_7, a8, k9) => ⟨[(0, .string (bs text)), (6, vl a8 k9 out_4), (7, vi 1), (8, vi col_5), (9, vb open__6), (10, vi i_7)], [O a8 k9 out_4], r4_Scan_L0 text r3 out_4 col_5 open__6 i_7 = X13 ∧ (-9223372036854775808 ≤ col_5 ∧ col_5 ≤ 9223372036854775807) ∧ (-9223372036854775808 ≤ i_7 ∧ i_7 ≤ 9223372036854775807), r3⟩) (100000, [], 1, false, 0, none, 0) [0] ⟨hX14, aM1, aM1⟩ ?_
 rintro ⟨r3, out_4, col_5, open__6, i_7, a8, k9⟩ ⟨hM10, hk11, hk12⟩
 refine JJ_nx fun _ _ hL hA => ?_; dsimp only at hL hA; subst hL hA
 refine Fb 40 0 fun _ => ?_
 rcases r3 with _ | r3
 ·exact absurd (hM10.symm.trans rfl) hx15
 have H := hM10; rw [r4_Scan_L0] at H
 refine KS ?_
 refine Oq Vm (Oq Vm (Oq (VlS un9 (l := text)) (Oq Vlss (KS ?_))))
 refine KcH H ?_ ?_
 ·intro h18 H
  have g19 := dt h18
  refine KS ?_
  refine Oq Vm (Oq Vm ?_)
  refine pC H hx15 fun hc20 H => ?_
  refine Oq (Vix un9 (l := text)) ?_
  have hb21 := u8b (text.b.getD i_7.toNat 0)
  refine Oq Va (KS ?_)
  refine Oq Vm (Oq Veql (Oq Vm ?_))
  refine JsH 28 H ?_ ?_
  ·intro h22 H
   have g23 := eq_of_beq h22
   refine Osk (Osk (Oq Vpt (Oq Va (KS ?_))))
   refine Kt (KS ?_)
   refine Oq Vm ?_
   refine pC H hx15 fun hc24 H => ?_
   refine Oq Vadd (Oq Vm ?_)
   refine pC H hx15 fun hc25 H => ?_
   refine Oq Vadd (Oq Va (Oq Va (KS ?_)))
   exact Kg (r3, out_4, (col_5 + 1), open__6, (i_7 + 1), a8, k9) [0] ⟨H, aM1, aM1⟩
  intro h22 H
  have g26 := ne_of_beq_false h22
  refine Oq Vm (Oq Veql (Oq Vpf (Oq Va (KS ?_))))
  refine pF H hx15 fun h27 H => ?_
  refine KcF h27 ?_
  have g28 := ne_of_beq_false h27
  refine KS ?_
  refine Oq Vm (Oq Veql (Oq Vm ?_))
  refine pF H hx15 fun h29 H => ?_
  refine JsF 39 h29 ?_
  have g30 := ne_of_beq_false h29
  refine Oq Vm (Oq Veql (Oq Vpf (Oq Vm ?_)))
  refine JsH 43 H ?_ ?_
  ·intro h31 H
   have g32 := eq_of_beq h31
   refine Osk (Osk (Oq Vpt (Oq Va (KS ?_))))
   refine Kt (KS ?_)
   refine Oq Vm (KS ?_)
   refine pT H hx15 fun h33 H => ?_
   refine KcT h33 ?_
   refine KS ?_
   refine Oq Vm (Oq Vm (Oq Vm (Oq (Vbd st90 [vi 3, .string (bs (Str.mk [])), vi 1, vi col_5]) (Oa (AsV sl80 sz80 [.agg #[vi 3, .string (bs (Str.mk [])), vi 1, vi col_5]] [vi 3, .string (bs (Str.mk [])), vi 1, vi col_5]) fun c35 => ?_))))
   refine Jo 0 ?_; rintro a36 k37 rfl
   refine Jl [0] (Ent.cr1 (α := GToken) (A := []) _ (GToken.mk 3 (Str.mk []) 1 col_5) _ aB1 (fun h => ⟨rfl, aL1, aS1, aL1, aL1⟩)) ?_
   refine pC H hx15 fun hc38 H => ?_
   refine Oa (ApO [1, 0] sl80 sl80 sz80) fun c39 => ?_
   refine Jo 0 ?_; rintro a40 k41 rfl
   refine Fb 40 0 fun _ => ?_
   have hn43 := la out_4 ([(GToken.mk 3 (Str.mk []) 1 col_5)] : List GToken)
   refine Oq Va (KS ?_)
   refine Oq Va (KS ?_)
   refine llH H hx15 fun X46 hX47 hx48 HL49 => ?_
   refine Kl (γ := Nat) (fun r44 => ⟨[(0, .string (bs text)), (7, vi 1), (8, vi col_5), (10, vi i_7), (11, .int .u8 ((text.b.getD i_7.toNat 0).toNat : Int)), (6, vl a40 k41 (out_4 ++ [(GToken.mk 3 (Str.mk []) 1 col_5)])), (9, vb false)], [O a40 k41 ((out_4 ++ [(GToken.mk 3 (Str.mk []) 1 col_5)]) : List GToken)], r4_Scan_L1 ((text.b.getD i_7.toNat 0).toNat : Int) r44 = X46, r44⟩) 1 [0] hX47 ?_
   rintro r44 hM45
   refine JJ_nx fun _ _ hL hA => ?_; dsimp only at hL hA; subst hL hA
   refine Fb 40 0 fun _ => ?_
   rcases r44 with _ | r44
   ·exact absurd (hM45.symm.trans rfl) hx48
   have H := hM45; rw [r4_Scan_L1] at H
   refine KS ?_
   refine Oq Vm (Oq Veql (Oq Vm ?_))
   refine pF H hx48 fun h51 H => ?_
   refine JsF 56 h51 ?_
   have g52 := ne_of_beq_false h51
   refine Osk (Osk (Osk (Osk (Oq Vpf (Oq Vm (Osk (Osk (Osk (Osk ?_)))))))))
   refine Oq Vpf (KS ?_)
   refine Kf ?_
   refine Ke ?_
   have H := llB H HL49
   refine KS ?_
   refine Oq Vm (Oq Veql (KS ?_))
   refine Kc ?_ ?_
   ·intro h53
    have g54 := eq_of_beq h53
    refine KS ?_
    refine Oq Vm ?_
    refine pC H hx15 fun hc55 H => ?_
    refine Oq Vadd (Oq Vm ?_)
    refine pC H hx15 fun hc56 H => ?_
    refine Oq Vadd (Oq Va (Oq Va (KS ?_)))
    refine Oq Vm (Oq Vm (Oq (VlS un9 (l := text)) (Oq Vlss (Oq Vm ?_))))
    refine pT H hx15 fun h57 H => ?_
    refine JsT 82 h57 ?_
    have g58 := dt h57
    refine Oq Vm (Oq Vm ?_)
    refine pC H hx15 fun hc59 H => ?_
    refine Oq (Vix un9 (l := text)) ?_
    have hb60 := u8b (text.b.getD ((i_7 + 1) : Int).toNat 0)
    refine Oq Veql (Oq Vpt (Oq Vm ?_))
    refine pF H hx15 fun h61 H => ?_
    refine JsF 88 h61 ?_
    have g62 := ne_of_beq_false h61
    refine Osk (Osk (Oq Vpf (KS ?_)))
    refine Kf (KS ?_)
    exact Kg (r3, (out_4 ++ [(GToken.mk 3 (Str.mk []) 1 col_5)]), (col_5 + 1), false, (i_7 + 1), a40, k41) [0] ⟨H, aM1, aM1⟩
   intro h53
   exact absurd h53 (by first | (simp [h31]; done) | (simp only [bne, h31]; decide) | (simp only [bne, h31, Bool.not_true, Bool.not_false]; decide) | (exfalso; omega) | (intro hq; simp only [bne, hq, Bool.not_false, Bool.not_true, reduceCtorEq] at h31))
  intro h31 H
  have g63 := ne_of_beq_false h31
  refine Oq Vm (Oq Veql (Oq Vpf (Oq Va (KS ?_))))
  refine pF H hx15 fun h64 H => ?_
  refine KcF h64 ?_
  have g65 := ne_of_beq_false h64
  refine KS ?_
  refine Oq Vm (Oq Veql (Oq Va (KS ?_)))
  refine pF H hx15 fun h66 H => ?_
  refine KcF h66 ?_
  have g67 := ne_of_beq_false h66
  refine KS ?_
  refine Oq Vm ?_
  refine lvH H fun rv68 hg69 H => ?_
  have hc70 := fn62 (((text.b.getD i_7.toNat 0).toNat : Int)) pre rv68 hg69
  refine Oc [] ca62 hc70 ?_
  rintro - -
  refine Oq Vm ?_
  refine pT H hx15 fun h71 H => ?_
  refine JsT 112 h71 ?_
  refine Osk (Osk (Oq Vpt (Oq Va (KS ?_))))
  refine Kt (KS ?_)
  refine Oq Va (KS ?_)
  refine llH H hx15 fun X77 hX78 hx79 HL80 => ?_
  refine Kl (γ := Nat × Int) (fun (r73, n_74) => ⟨[(0, .string (bs text)), (6, vl a8 k9 out_4), (7, vi 1), (8, vi col_5), (10, vi i_7), (11, .int .u8 ((text.b.getD i_7.toNat 0).toNat : Int)), (12, vi n_74)], [O a8 k9 out_4], r4_Scan_L2 text i_7 r73 n_74 = X77 ∧ (-9223372036854775808 ≤ n_74 ∧ n_74 ≤ 9223372036854775807), r73⟩) (100000, 0) [0] ⟨hX78, aM1⟩ ?_
  rintro ⟨r73, n_74⟩ ⟨hM75, hk76⟩
  refine JJ_nx fun _ _ hL hA => ?_; dsimp only at hL hA; subst hL hA
  refine Fb 40 0 fun _ => ?_
  rcases r73 with _ | r73
  ·exact absurd (hM75.symm.trans rfl) hx79
  have H := hM75; rw [r4_Scan_L2] at H
  refine KS ?_
  refine Oq Vm (Oq Vm ?_)
  refine pC H hx79 fun hc82 H => ?_
  refine Oq Vadd (Oq Vm (Oq (VlS un9 (l := text)) (Oq Vlss (Oq Vm ?_))))
  refine JsH 122 H ?_ ?_
  ·intro h83 H
   have g84 := dt h83
   refine Oq Vm (Oq Vm (Oq Vm (Oq Vadd ?_)))
   refine pC H hx79 fun hc85 H => ?_
   refine pC H hx79 fun hc86 H => ?_
   refine Oq (Vix un9 (l := text)) ?_
   have hb87 := u8b (text.b.getD ((i_7 + n_74) : Int).toNat 0)
   refine lvH H fun rv88 hg89 H => ?_
   have hc90 := fn62 (((text.b.getD ((i_7 + n_74) : Int).toNat 0).toNat : Int)) pre rv88 hg89
   refine Oc [] ca62 hc90 ?_
   rintro - -
   refine Oq Vm ?_
   refine JsH 129 H ?_ ?_
   ·intro h91 H
    refine Osk (Osk (Osk (Osk (Osk (Osk (Oq Vpt (Oq Vpt (KS ?_))))))))
    refine Kt (KS ?_)
    refine Oq Vm ?_
    refine pC H hx79 fun hc93 H => ?_
    refine Oq Vadd (Oq Va (KS ?_))
    exact Kg (r73, (n_74 + 1)) [0] ⟨H, aM1⟩
   intro h91 H
   refine Oq Vm (Oq Vm (Oq Vm (Oq Vadd (Oq (Vix un9 (l := text)) ?_))))
   have hb95 := u8b (text.b.getD ((i_7 + n_74) : Int).toNat 0)
   refine pC H hx79 fun hc98 H => ?_
   refine pC H hx79 fun hc99 H => ?_
   refine lvH H fun rv96 hg97 H => ?_
   have hc100 := fn63 (((text.b.getD ((i_7 + n_74) : Int).toNat 0).toNat : Int)) pre rv96 hg97
   refine Oc [] ca63 hc100 ?_
   rintro - -
   refine Oq Vpf (Oq Vpt (KS ?_))
   refine pF H hx79 fun h101 H => ?_
   refine KcF h101 ?_
   refine Ke ?_
   have H := llB H HL80
   refine KS ?_
   refine Oq Vm ?_
   refine lvH H fun rv103 hg104 H => ?_
   have hc105 := fn63 (((text.b.getD i_7.toNat 0).toNat : Int)) pre rv103 hg104
   refine Oc [] ca63 hc105 ?_
   rintro - -
   refine KS ?_
   refine pF H hx15 fun h106 H => ?_
   refine KcF h106 ?_
   refine KS ?_
   refine Oq Vm (Oq Vgtr (KS ?_))
   refine pF H hx15 fun h108 H => ?_
   refine KcF h108 ?_
   have g109 := df h108
   refine KS ?_
   refine Oq Vm (Oq Vm (Oq Vm (Oq Vm (Oq Vm (Oq Vadd ?_)))))
   refine pC H hx15 fun hc110 H => ?_
   refine pC H hx15 fun hc111 H => ?_
   refine Oq (VslS un9 (l := text)) ?_
   have hb112 := sub_len3 text i_7.toNat ((i_7 + n_74) : Int).toNat
   refine Oq Vm (Oq Vm (Oq (Vbd st90 [vi 1, .string (bs (text.sub i_7.toNat ((i_7 + n_74) : Int).toNat)), vi 1, vi col_5]) (Oa (AsV sl80 sz80 [.agg #[vi 1, .string (bs (text.sub i_7.toNat ((i_7 + n_74) : Int).toNat)), vi 1, vi col_5]] [vi 1, .string (bs (text.sub i_7.toNat ((i_7 + n_74) : Int).toNat)), vi 1, vi col_5]) fun c113 => ?_)))
   refine Jo 0 ?_; rintro a114 k115 rfl
   refine Jl [0] (Ent.cr1 (α := GToken) (A := []) _ (GToken.mk 1 (text.sub i_7.toNat ((i_7 + n_74) : Int).toNat) 1 col_5) _ aB1 (fun h => ⟨rfl, aL1, aS1, aL1, aL1⟩)) ?_
   refine pC H hx15 fun hc116 H => ?_
   refine Oa (ApO [1, 0] sl80 sl80 sz80) fun c117 => ?_
   refine Jo 0 ?_; rintro a118 k119 rfl
   refine Fb 40 0 fun _ => ?_
   have hn121 := la out_4 ([(GToken.mk 1 (text.sub i_7.toNat ((i_7 + n_74) : Int).toNat) 1 col_5)] : List GToken)
   refine Oq Va (KS ?_)
   refine Oq Vm (Oq Vm (Oq Vadd (Oq Vm (Oq Vm ?_))))
   refine pC H hx15 fun hc122 H => ?_
   refine pC H hx15 fun hc123 H => ?_
   refine Oq Vadd (Oq Va (Oq Va (Oq Va (KS ?_))))
   exact Kg (r3, (out_4 ++ [(GToken.mk 1 (text.sub i_7.toNat ((i_7 + n_74) : Int).toNat) 1 col_5)]), (col_5 + n_74), true, (i_7 + n_74), a118, k119) [0] ⟨H, aM1, aM1⟩
  intro h83 H
  have g124 := df h83
  refine Osk (Osk (Osk (Osk (Osk (Osk (Osk (Osk (Osk (Osk ?_)))))))))
  refine Osk (Osk (Osk (Osk (Oq Vpf (KS ?_)))))
  refine Kf ?_
  refine Ke ?_
  have H := llB H HL80
  refine KS ?_
  refine Oq Vm ?_
  refine lvH H fun rv125 hg126 H => ?_
  have hc127 := fn63 (((text.b.getD i_7.toNat 0).toNat : Int)) pre rv125 hg126
  refine Oc [] ca63 hc127 ?_
  rintro - -
  refine KS ?_
  refine pF H hx15 fun h128 H => ?_
  refine KcF h128 ?_
  refine KS ?_
  refine Oq Vm (Oq Vgtr (KS ?_))
  refine pF H hx15 fun h130 H => ?_
  refine KcF h130 ?_
  have g131 := df h130
  refine KS ?_
  refine Oq Vm (Oq Vm (Oq Vm (Oq Vm (Oq Vm (Oq Vadd ?_)))))
  refine pC H hx15 fun hc132 H => ?_
  refine pC H hx15 fun hc133 H => ?_
  refine Oq (VslS un9 (l := text)) ?_
  have hb134 := sub_len3 text i_7.toNat ((i_7 + n_74) : Int).toNat
  refine Oq Vm (Oq Vm (Oq (Vbd st90 [vi 1, .string (bs (text.sub i_7.toNat ((i_7 + n_74) : Int).toNat)), vi 1, vi col_5]) (Oa (AsV sl80 sz80 [.agg #[vi 1, .string (bs (text.sub i_7.toNat ((i_7 + n_74) : Int).toNat)), vi 1, vi col_5]] [vi 1, .string (bs (text.sub i_7.toNat ((i_7 + n_74) : Int).toNat)), vi 1, vi col_5]) fun c135 => ?_)))
  refine Jo 0 ?_; rintro a136 k137 rfl
  refine Jl [0] (Ent.cr1 (α := GToken) (A := []) _ (GToken.mk 1 (text.sub i_7.toNat ((i_7 + n_74) : Int).toNat) 1 col_5) _ aB1 (fun h => ⟨rfl, aL1, aS1, aL1, aL1⟩)) ?_
  refine pC H hx15 fun hc138 H => ?_
  refine Oa (ApO [1, 0] sl80 sl80 sz80) fun c139 => ?_
  refine Jo 0 ?_; rintro a140 k141 rfl
  refine Fb 40 0 fun _ => ?_
  have hn143 := la out_4 ([(GToken.mk 1 (text.sub i_7.toNat ((i_7 + n_74) : Int).toNat) 1 col_5)] : List GToken)
  refine Oq Va (KS ?_)
  refine Oq Vm (Oq Vm (Oq Vadd (Oq Vm (Oq Vm ?_))))
  refine pC H hx15 fun hc144 H => ?_
  refine pC H hx15 fun hc145 H => ?_
  refine Oq Vadd (Oq Va (Oq Va (Oq Va (KS ?_))))
  exact Kg (r3, (out_4 ++ [(GToken.mk 1 (text.sub i_7.toNat ((i_7 + n_74) : Int).toNat) 1 col_5)]), (col_5 + n_74), true, (i_7 + n_74), a140, k141) [0] ⟨H, aM1, aM1⟩
 intro h18 H
 have g146 := df h18
 refine Ke ?_
 have H := llB H HL16
 dsimp only at H
 refine KS ?_
 refine Oq Vm (KS ?_)
 refine pT H hx0 fun h147 H => ?_
 refine KcT h147 ?_
 refine KS ?_
 refine Oq Vm (Oq Vm (Oq Vm (Oq (Vbd st90 [vi 3, .string (bs (Str.mk [])), vi 1, vi col_5]) (Oa (AsV sl80 sz80 [.agg #[vi 3, .string (bs (Str.mk [])), vi 1, vi col_5]] [vi 3, .string (bs (Str.mk [])), vi 1, vi col_5]) fun c149 => ?_))))
 refine Jo 0 ?_; rintro a150 k151 rfl
 refine Jl [0] (Ent.cr1 (α := GToken) (A := []) _ (GToken.mk 3 (Str.mk []) 1 col_5) _ aB1 (fun h => ⟨rfl, aL1, aS1, aL1, aL1⟩)) ?_
 refine pC H hx0 fun hc152 H => ?_
 refine Oa (ApO [1, 0] sl80 sl80 sz80) fun c153 => ?_
 refine Jo 0 ?_; rintro a154 k155 rfl
 refine Fb 40 0 fun _ => ?_
 have hn157 := la out_4 ([(GToken.mk 3 (Str.mk []) 1 col_5)] : List GToken)
 refine Oq Va (KS ?_)
 refine Oq Vm (Oq Va (Oq Va (Oq Va (Oq Va (KS ?_)))))
 refine Jl [0] (Ent.freeze _ _) ?_
 have hq := rI H; subst hq
 exact Kr (vl a154 k155 (out_4 ++ [(GToken.mk 3 (Str.mk []) 1 col_5)])) rfl (.tmp rfl (.tmp rfl (.tmp rfl (.tmp rfl .nil)))) [0] en
theorem fn34 (pP : Value) (p : Gparser) (pa0 : Option Addr) (pk0 : Nat) (word : Str) (hp_1 : i64ok p.at_) (hp_2 : i64ok p.Err) (hword_0 : word.b.length ≤ 140737488355328) (rr : Bool) (hrr : pz_is p word = .ret rr) : FT Tryz.prog 34 #[pP, .string (bs word)] [Cl pP [vl pa0 pk0 p.l, vi p.at_, vi p.Err], S pa0 pk0 p.l] (fun g : Unit => True) (fun g => vb rr) (fun g => [Cl pP [vl pa0 pk0 p.l, vi p.at_, vi p.Err]]) := by
 refine FTi Tryz.func34 fun w0 M0 F0 => ?_
 unfold i64ok at hp_1 hp_2
 refine Fb 40 1 fun _ => ?_
 have hx0 := lrn rr; have H := hrr; unfold pz_is at H
 refine KS ?_
 refine Oq Va (KS ?_)
 refine Jp 0 fun hp2 => ?_
 refine pT H hx0 fun h3 H => ?_
 have g4 := eq_of_beq h3
 refine pS H ?_ ?_
 ·intro h5 H
  have g6 := dt h5
  refine pC H hx0 fun hc7 H => ?_
  refine JJ_peek_GToken p.at_.toNat 2 rfl rng fun hb8 hb9 hb10 hb11 => ?_
  unfold i64ok at hb8 hb10 hb11
  refine Kq [0, 1, 3, 7, 15, 31, 63, 127, 255, 511, 63, 1087, 3135, 7231, 15423, 32767, 65535, 131071, 262143, 524287, 1048575, 2097151, 262143, 4456447, 12845055, 29622271, 67108863, 134217727, 268435455, 536870911, 1073741823, 2147483647, 4294967295, 8589934591, 17179869183, 34359738367, 4294967295, 73014444031, 210453397503, 485331304447, 1099511627775, 2199023255551, 4398046511103, 4294967295, 17592186044415, 35184372088831, 70368744177663] fmix ?_
  refine Qv [] Vm (Qv [1] (Vn 0) (Qv [1] (Vfa fo85_2 0) (Qv [2] (VldF sh52 0) (Qb h3 [] Veql (Qv [] Vm (Qv [] Vm (Qv [1] (Vn 0) (Qv [1] (Vfa fo85_1 0) (Qv [2] (VldF sh3 0) ?_)))))))))
  refine Qv [] Vm (Qv [1] (Vn 0) (Qv [1] (Vfa fo85_0 0) (Qv [2] (VldF sh80 0) (Qv [] (Vlen sl80) (Qb h5 [] Vlss (Qv [] Vpt (Qv [] Vm (Qv [] Vm (Qv [1] (Vn 0) ?_)))))))))
  refine Qv [1] (Vfa fo85_0 0) (Qv [2] (VldF sh80 0) (Qv [] Vm (Qv [1] (Vn 0) (Qv [1] (Vfa fo85_1 0) (Qv [2] (VldF sh3 0) (Qv [3] (Vi sl80 0) (Qv [0] (Vfa fo90_0 0) (Qv [0] (VldF sh3 0) (Qv [] Veql ?_)))))))))
  refine Qv [] Vpt ?_
  refine pC H hx0 fun hc13 H => ?_
  refine pT H hx0 fun h12 H => ?_
  have g14 := eq_of_beq h12
  refine Qb h12 [] Vm (Qv [] Vm (Qv [1] (Vn 0) (Qv [1] (Vfa fo85_0 0) (Qv [2] (VldF sh80 0) (Qv [] Vm (Qv [1] (Vn 0) (Qv [1] (Vfa fo85_1 0) (Qv [2] (VldF sh3 0) (Qv [3] (Vi sl80 0) ?_)))))))))
  refine Qv [0] (Vfa fo90_1 0) (Qv [0] (VldF sh9 0) (Qv [] Vm (Qv [] (VeqS (l := (p.l.getD p.at_.toNat default).Text) (m := word)) (Qv [] Vpt (Qv [] Va ?_)))))
  refine Qn ⟨by kernel_rfl, ?_⟩
  refine pC H hx0 fun hc15 H => ?_
  have hq := rI H; subst hq
  exact Kr () rfl (.tmp rfl .nil) [2] trivial
 intro h5 H
 have g16 := df h5
 refine Kq [0, 1, 3, 7, 15, 31, 63, 127, 255, 511, 63, 1087, 3135, 7231, 15423, 32767, 65535, 131071, 262143, 524287, 1048575, 2097151, 262143, 4456447, 12845055, 29622271, 67108863, 134217727, 268435455, 536870911, 1073741823, 2147483647, 4294967295, 8589934591, 17179869183, 34359738367, 4294967295, 73014444031, 210453397503, 485331304447, 1099511627775, 2199023255551, 4398046511103, 4294967295, 17592186044415, 35184372088831, 70368744177663] fmix ?_
 refine Qv [] Vm (Qv [0] (Vn 0) (Qv [0] (Vfa fo85_2 0) (Qv [1] (VldF sh52 0) (Qb h3 [] Veql (Qv [] Vm (Qv [] Vm (Qv [0] (Vn 0) (Qv [0] (Vfa fo85_1 0) (Qv [1] (VldF sh3 0) ?_)))))))))
 refine Qv [] Vm (Qv [0] (Vn 0) (Qv [0] (Vfa fo85_0 0) (Qv [1] (VldF sh80 0) (Qv [] (Vlen sl80) (Qb h5 [] Vlss (Qv [] Vpt (Qv [] Vm (Qs (Qs ?_)))))))))
 refine Qs (Qs (Qs (Qs (Qs (Qs (Qs (Qs (Qs (Qs ?_)))))))))
 refine Qv [] Vpf (Qv [] Vm (Qs (Qs (Qs (Qs (Qs (Qs (Qs (Qs ?_)))))))))
 refine Qs (Qs (Qs (Qs (Qs (Qv [] Vpf (Qv [] Va ?_))))))
 refine Qn ⟨by kernel_rfl, ?_⟩
 have hq := rI H; subst hq
 exact Kr () rfl (.tmp rfl .nil) [1] trivial
theorem fn64 (pP : Value) (p : Gparser) (pa0 : Option Addr) (pk0 : Nat) (w : Str) (hp_1 : i64ok p.at_) (hp_2 : i64ok p.Err) (hw_0 : w.b.length ≤ 140737488355328) (rr : Gparser) (hrr : pz_word p w = .ret rr) : FT Tryz.prog 64 #[pP, .string (bs w)] [Cl pP [vl pa0 pk0 p.l, vi p.at_, vi p.Err], S pa0 pk0 p.l] (fun g : Unit => i64ok rr.at_ ∧ i64ok rr.Err) (fun g => .tuple #[]) (fun g => [Cl pP [vl pa0 pk0 p.l, vi rr.at_, vi rr.Err]]) := by
 refine FTi Tryz.func64 fun w0 M0 F0 => ?_
 unfold i64ok at hp_1 hp_2
 refine Fb 40 1 fun _ => ?_
 have hx0 := lrn rr; have H := hrr; unfold pz_word at H
 refine KS ?_
 refine Oq Vm (Oq Vm ?_)
 refine lbH H hx0 fun rv2 hg3 H => ?_
 have hc4 := fn34 pP p pa0 pk0 w pre pre pre rv2 hg3
 refine Oc [0, 0] ca34 hc4 ?_
 rintro - -
 refine Oq Vnot (KS ?_)
 refine pF H hx0 fun h5 H => ?_
 refine KcF h5 ?_
 have h7 := not_false h5
 refine KS ?_
 refine Oq Vm (Oq (Vn 0) (Oq (Vfa fo85_1 0) (Oq (VldF sh3 0) ?_)))
 refine pC H hx0 fun hc9 H => ?_
 refine Oq Vadd (Oq (Vn 0) (Oq (Vfa fo85_1 0) (Ost (SclF [0] sh3 [vl pa0 pk0 p.l, vi (p.at_ + 1), vi p.Err]) (KS ?_))))
 have hq := rI H; subst hq
 exact Kz () rfl .nil [0] en
theorem fn98 (pP : Value) (p : Gparser) (pa0 : Option Addr) (pk0 : Nat) (hp_1 : i64ok p.at_) (hp_2 : i64ok p.Err) (rr : Bool) (hrr : pz_isName p = .ret rr) : FT Tryz.prog 98 #[pP] [Cl pP [vl pa0 pk0 p.l, vi p.at_, vi p.Err], S pa0 pk0 p.l] (fun g : Unit => True) (fun g => vb rr) (fun g => [Cl pP [vl pa0 pk0 p.l, vi p.at_, vi p.Err]]) := by
 refine FTi Tryz.func98 fun w0 M0 F0 => ?_
 unfold i64ok at hp_1 hp_2
 refine Fb 40 1 fun _ => ?_
 have hx0 := lrn rr; have H := hrr; unfold pz_isName at H
 refine KS ?_
 refine Oq Va (KS ?_)
 refine Jp 0 fun hp2 => ?_
 refine pT H hx0 fun h3 H => ?_
 have g4 := eq_of_beq h3
 refine pT H hx0 fun h5 H => ?_
 have g6 := dt h5
 refine pC H hx0 fun hc7 H => ?_
 refine JJ_peek_GToken p.at_.toNat 2 rfl rng fun hb8 hb9 hb10 hb11 => ?_
 unfold i64ok at hb8 hb10 hb11
 refine JK_drawK [0, 1, 3, 7, 15, 31, 63, 127, 255, 511, 63, 1087, 3135, 7231, 15423, 32767, 65535, 131071, 262143, 524287, 1048575, 2097151, 262143, 4456447, 12845055, 29622271, 67108863, 134217727, 268435455, 536870911, 1073741823, 2147483647, 4294967295, 8589934591, 17179869183, 34359738367, 4294967295, 73014444031, 210453397503, 485331304447, 1099511627775, 2199023255551, 4398046511103, 8796093022207, 17592186044415, 35184372088831] fmix ?_
 refine Dv [] Vm (Dv [1] (Vn 0) (Dv [1] (Vfa fo85_2 0) (Dv [2] (VldF sh52 0) (Db h3 [] Veql (Dv [] Vm (Dv [] Vm (Dv [1] (Vn 0) (Dv [1] (Vfa fo85_1 0) (Dv [2] (VldF sh3 0) ?_)))))))))
 refine Dv [] Vm (Dv [1] (Vn 0) (Dv [1] (Vfa fo85_0 0) (Dv [2] (VldF sh80 0) (Dv [] (Vlen sl80) (Db h5 [] Vlss (Dv [] Vpt (Dv [] Vm (Dv [] Vm (Dv [1] (Vn 0) ?_)))))))))
 refine Dv [1] (Vfa fo85_0 0) (Dv [2] (VldF sh80 0) (Dv [] Vm (Dv [1] (Vn 0) (Dv [1] (Vfa fo85_1 0) (Dv [2] (VldF sh3 0) (Dv [3] (Vi sl80 0) (Dv [0] (Vfa fo90_0 0) (Dv [0] (VldF sh3 0) (Dv [] Veql ?_)))))))))
 refine Dv [] Vpt ?_
 refine pC H hx0 fun hc13 H => ?_
 refine pT H hx0 fun h12 H => ?_
 have g14 := eq_of_beq h12
 refine Db h12 [] Vm (Dv [] Vm (Dv [1] (Vn 0) (Dv [1] (Vfa fo85_0 0) (Dv [2] (VldF sh80 0) (Dv [] Vm (Dv [1] (Vn 0) (Dv [1] (Vfa fo85_1 0) (Dv [2] (VldF sh3 0) (Dv [3] (Vi sl80 0) ?_)))))))))
 refine Dv [0] (Vfa fo90_1 0) (Dv [0] (VldF sh9 0) ?_)
 refine pC H hx0 fun hc17 H => ?_
 refine lvH H fun rv15 hg16 H => ?_
 refine Dx [] [] [0] (fun G => vb rv15) [fun G => SP.fact (True)] (fun G => xC [] ca94 (fn94 ((p.l.getD p.at_.toNat default).Text) pre rv15 hg16)) (Dv [] Vpt (Dv [] Va ?_))
 refine Dn ⟨by kernel_rfl, fun G => ?_⟩
 refine Jw2 [(2, vb rv15)] [0, 1, 2, 3] [SP.fact (True)] ?_
 refine Jk [0, 2, 2] ?_
 have hq := rI H; subst hq
 exact Kr () rfl (.tmp rfl .nil) [1] trivial
theorem fn65 (pP : Value) (p : Gparser) (pa0 : Option Addr) (pk0 : Nat) (hp_1 : i64ok p.at_) (hp_2 : i64ok p.Err) (rr : Str × Gparser) (hrr : pz_name p = .ret rr) : FT Tryz.prog 65 #[pP] [Cl pP [vl pa0 pk0 p.l, vi p.at_, vi p.Err], S pa0 pk0 p.l] (fun g : Unit => rr.1.b.length ≤ 140737488355328 ∧ i64ok rr.2.at_ ∧ i64ok rr.2.Err) (fun g => .string (bs rr.1)) (fun g => [Cl pP [vl pa0 pk0 p.l, vi rr.2.at_, vi rr.2.Err]]) := by
 refine FTi Tryz.func65 fun w0 M0 F0 => ?_
 unfold i64ok at hp_1 hp_2
 refine Fb 40 1 fun _ => ?_
 have hx0 := lrn rr; have H := hrr; unfold pz_name at H
 refine KS ?_
 refine Oq Va (KS ?_)
 refine Oq Vm ?_
 refine lbH H hx0 fun rv2 hg3 H => ?_
 have hc4 := fn98 pP p pa0 pk0 pre pre rv2 hg3
 refine Oc [0, 0] ca98 hc4 ?_
 rintro - -
 refine Oq Vnot (KS ?_)
 refine pF H hx0 fun h5 H => ?_
 refine KcF h5 ?_
 have h7 := not_false h5
 refine KS ?_
 refine Oq Vm (Oq (Vn 0) (Oq (Vfa fo85_1 0) (Oq (VldF sh3 0) ?_)))
 refine pC H hx0 fun hc9 H => ?_
 refine Oq Vadd (Oq (Vn 0) (Oq (Vfa fo85_1 0) (Ost (SclF [0] sh3 [vl pa0 pk0 p.l, vi (p.at_ + 1), vi p.Err]) (KS ?_))))
 refine Jp 0 fun hp10 => ?_
 refine pC H hx0 fun hc11 H => ?_
 refine pC H hx0 fun hc12 H => ?_
 refine JJ_peek_GToken (((p.at_ + 1) - 1) : Int).toNat 2 rfl rng fun hb13 hb14 hb15 hb16 => ?_
 unfold i64ok at hb13 hb15 hb16
 refine Kq [0, 1, 3, 7, 0, 16, 48, 112, 240, 511, 1023, 2047, 4095] fmix ?_
 refine Qv [] Vm (Qv [1] (Vn 0) (Qv [1] (Vfa fo85_0 0) (Qv [2] (VldF sh80 0) (Qv [] Vm (Qv [1] (Vn 0) (Qv [1] (Vfa fo85_1 0) (Qv [2] (VldF sh3 0) (Qv [] Vsub (Qv [3] (Vi sl80 0) ?_)))))))))
 refine Qv [0] (Vfa fo90_1 0) (Qv [0] (VldF sh9 0) (Qv [] Va ?_))
 refine Qn ⟨by kernel_rfl, ?_⟩
 refine pC H hx0 fun hc17 H => ?_
 have hq := rI H; subst hq
 exact Kr () rfl (.tmp rfl .nil) [2] en
theorem fn99 (pP : Value) (p : Gparser) (pa0 : Option Addr) (pk0 : Nat) (k : Int) (hp_1 : i64ok p.at_) (hp_2 : i64ok p.Err) (hk_0 : i64ok k) (rr : Bool) (hrr : pz_isKind p k = .ret rr) : FT Tryz.prog 99 #[pP, vi k] [Cl pP [vl pa0 pk0 p.l, vi p.at_, vi p.Err], S pa0 pk0 p.l] (fun g : Unit => True) (fun g => vb rr) (fun g => [Cl pP [vl pa0 pk0 p.l, vi p.at_, vi p.Err]]) := by
 refine FTi Tryz.func99 fun w0 M0 F0 => ?_
 unfold i64ok at hp_1 hp_2 hk_0
 refine Fb 40 1 fun _ => ?_
 have hx0 := lrn rr; have H := hrr; unfold pz_isKind at H
 refine KS ?_
 refine Oq Va (KS ?_)
 refine Jp 0 fun hp2 => ?_
 refine pT H hx0 fun h3 H => ?_
 have g4 := eq_of_beq h3
 refine pT H hx0 fun h5 H => ?_
 have g6 := dt h5
 refine pC H hx0 fun hc7 H => ?_
 refine JJ_peek_GToken p.at_.toNat 2 rfl rng fun hb8 hb9 hb10 hb11 => ?_
 unfold i64ok at hb8 hb10 hb11
 refine Kq [0, 1, 3, 7, 15, 31, 63, 127, 255, 511, 63, 1087, 3135, 7231, 15423, 32767, 65535, 131071, 262143, 524287, 1048575, 2097151, 262143, 4456447, 12845055, 29622271, 67108863, 134217727, 268435455, 262143, 1073741823, 2147483647, 4294967295] fmix ?_
 refine Qv [] Vm (Qv [1] (Vn 0) (Qv [1] (Vfa fo85_2 0) (Qv [2] (VldF sh52 0) (Qb h3 [] Veql (Qv [] Vm (Qv [] Vm (Qv [1] (Vn 0) (Qv [1] (Vfa fo85_1 0) (Qv [2] (VldF sh3 0) ?_)))))))))
 refine Qv [] Vm (Qv [1] (Vn 0) (Qv [1] (Vfa fo85_0 0) (Qv [2] (VldF sh80 0) (Qv [] (Vlen sl80) (Qb h5 [] Vlss (Qv [] Vpt (Qv [] Vm (Qv [] Vm (Qv [1] (Vn 0) ?_)))))))))
 refine Qv [1] (Vfa fo85_0 0) (Qv [2] (VldF sh80 0) (Qv [] Vm (Qv [1] (Vn 0) (Qv [1] (Vfa fo85_1 0) (Qv [2] (VldF sh3 0) (Qv [3] (Vi sl80 0) (Qv [0] (Vfa fo90_0 0) (Qv [0] (VldF sh3 0) (Qv [] Vm ?_)))))))))
 refine Qv [] Veql (Qv [] Vpt (Qv [] Va ?_))
 refine Qn ⟨by kernel_rfl, ?_⟩
 refine pC H hx0 fun hc12 H => ?_
 have hq := rI H; subst hq
 exact Kr () rfl (.tmp rfl .nil) [2] trivial
theorem fn66 (pP : Value) (p : Gparser) (pa0 : Option Addr) (pk0 : Nat) (hp_1 : i64ok p.at_) (hp_2 : i64ok p.Err) (rr : Gparser) (hrr : pz_end p = .ret rr) : FT Tryz.prog 66 #[pP] [Cl pP [vl pa0 pk0 p.l, vi p.at_, vi p.Err], S pa0 pk0 p.l] (fun g : Unit => i64ok rr.at_ ∧ i64ok rr.Err) (fun g => .tuple #[]) (fun g => [Cl pP [vl pa0 pk0 p.l, vi rr.at_, vi rr.Err]]) := by
 refine FTi Tryz.func66 fun w0 M0 F0 => ?_
 unfold i64ok at hp_1 hp_2
 refine Fb 40 1 fun _ => ?_
 have hx0 := lrn rr; have H := hrr; unfold pz_end at H
 refine KS ?_
 refine Oq Vm ?_
 refine lbH H hx0 fun rv2 hg3 H => ?_
 have hc4 := fn99 pP p pa0 pk0 3 pre pre pre rv2 hg3
 refine Oc [0, 0] ca99 hc4 ?_
 rintro - -
 refine Oq Vnot (KS ?_)
 refine pF H hx0 fun h5 H => ?_
 refine KcF h5 ?_
 have h7 := not_false h5
 refine KS ?_
 refine Oq Vm (Oq (Vn 0) (Oq (Vfa fo85_1 0) (Oq (VldF sh3 0) ?_)))
 refine pC H hx0 fun hc9 H => ?_
 refine Oq Vadd (Oq (Vn 0) (Oq (Vfa fo85_1 0) (Ost (SclF [0] sh3 [vl pa0 pk0 p.l, vi (p.at_ + 1), vi p.Err]) (KS ?_))))
 have hq := rI H; subst hq
 exact Kz () rfl .nil [0] en
theorem fn100 (pP : Value) (p : Gparser) (pa0 : Option Addr) (pk0 : Nat) (hp_1 : i64ok p.at_) (hp_2 : i64ok p.Err) (rr : Bool) (hrr : pz_begins p = .ret rr) : FT Tryz.prog 100 #[pP] [Cl pP [vl pa0 pk0 p.l, vi p.at_, vi p.Err], S pa0 pk0 p.l] (fun g : Unit => True) (fun g => vb rr) (fun g => [Cl pP [vl pa0 pk0 p.l, vi p.at_, vi p.Err]]) := by
 refine FTi Tryz.func100 fun w0 M0 F0 => ?_
 unfold i64ok at hp_1 hp_2
 refine Fb 40 1 fun _ => ?_
 have hx0 := lrn rr; have H := hrr; unfold pz_begins at H
 refine KS ?_
 refine Oq Va (KS ?_)
 refine Oa (AsV sl36 sz36 [.string (bs (Str.mk [117, 115, 101])), .string (bs (Str.mk [99, 97, 108, 108])), .string (bs (Str.mk [115, 111, 117, 114, 99, 101])), .string (bs (Str.mk [115, 105, 110, 107])), .string (bs (Str.mk [115, 97, 110, 105, 116, 105, 122, 101])), .string (bs (Str.mk [103, 111, 116, 111])), .string (bs (Str.mk [98, 114, 97, 110, 99, 104])), .string (bs (Str.mk [114, 101, 116, 117, 114, 110]))] [.string (bs (Str.mk [117, 115, 101])), .string (bs (Str.mk [99, 97, 108, 108])), .string (bs (Str.mk [115, 111, 117, 114, 99, 101])), .string (bs (Str.mk [115, 105, 110, 107])), .string (bs (Str.mk [115, 97, 110, 105, 116, 105, 122, 101])), .string (bs (Str.mk [103, 111, 116, 111])), .string (bs (Str.mk [98, 114, 97, 110, 99, 104])), .string (bs (Str.mk [114, 101, 116, 117, 114, 110]))]) fun c2 => ?_
 refine Jo 0 ?_; rintro a3 k4 rfl
 refine Oq Va (KS ?_)
 refine Oq Va (KS ?_)
 refine Jl [0] (Ent.crOs (α := Str) (A := []) _ ([(Str.mk [117, 115, 101]), (Str.mk [99, 97, 108, 108]), (Str.mk [115, 111, 117, 114, 99, 101]), (Str.mk [115, 105, 110, 107]), (Str.mk [115, 97, 110, 105, 116, 105, 122, 101]), (Str.mk [103, 111, 116, 111]), (Str.mk [98, 114, 97, 110, 99, 104]), (Str.mk [114, 101, 116, 117, 114, 110])] : List Str) _ aB1 (fun h => ⟨[.string (bs (Str.mk [117, 115, 101]))], [.string (bs (Str.mk [99, 97, 108, 108])), .string (bs (Str.mk [115, 111, 117, 114, 99, 101])), .string (bs (Str.mk [115, 105, 110, 107])), .string (bs (Str.mk [115, 97, 110, 105, 116, 105, 122, 101])), .string (bs (Str.mk [103, 111, 116, 111])), .string (bs (Str.mk [98, 114, 97, 110, 99, 104])), .string (bs (Str.mk [114, 101, 116, 117, 114, 110]))], rfl, (fun _ => ⟨rfl, by first | omega | (simp; done) | (dsimp only; omega) | exact lit_bl rfl⟩) h, ⟨[.string (bs (Str.mk [99, 97, 108, 108]))], [.string (bs (Str.mk [115, 111, 117, 114, 99, 101])), .string (bs (Str.mk [115, 105, 110, 107])), .string (bs (Str.mk [115, 97, 110, 105, 116, 105, 122, 101])), .string (bs (Str.mk [103, 111, 116, 111])), .string (bs (Str.mk [98, 114, 97, 110, 99, 104])), .string (bs (Str.mk [114, 101, 116, 117, 114, 110]))], rfl, (fun _ => ⟨rfl, by first | omega | (simp; done) | (dsimp only; omega) | exact lit_bl rfl⟩) h, ⟨[.string (bs (Str.mk [115, 111, 117, 114, 99, 101]))], [.string (bs (Str.mk [115, 105, 110, 107])), .string (bs (Str.mk [115, 97, 110, 105, 116, 105, 122, 101])), .string (bs (Str.mk [103, 111, 116, 111])), .string (bs (Str.mk [98, 114, 97, 110, 99, 104])), .string (bs (Str.mk [114, 101, 116, 117, 114, 110]))], rfl, (fun _ => ⟨rfl, by first | omega | (simp; done) | (dsimp only; omega) | exact lit_bl rfl⟩) h, ⟨[.string (bs (Str.mk [115, 105, 110, 107]))], [.string (bs (Str.mk [115, 97, 110, 105, 116, 105, 122, 101])), .string (bs (Str.mk [103, 111, 116, 111])), .string (bs (Str.mk [98, 114, 97, 110, 99, 104])), .string (bs (Str.mk [114, 101, 116, 117, 114, 110]))], rfl, (fun _ => ⟨rfl, by first | omega | (simp; done) | (dsimp only; omega) | exact lit_bl rfl⟩) h, ⟨[.string (bs (Str.mk [115, 97, 110, 105, 116, 105, 122, 101]))], [.string (bs (Str.mk [103, 111, 116, 111])), .string (bs (Str.mk [98, 114, 97, 110, 99, 104])), .string (bs (Str.mk [114, 101, 116, 117, 114, 110]))], rfl, (fun _ => ⟨rfl, by first | omega | (simp; done) | (dsimp only; omega) | exact lit_bl rfl⟩) h, ⟨[.string (bs (Str.mk [103, 111, 116, 111]))], [.string (bs (Str.mk [98, 114, 97, 110, 99, 104])), .string (bs (Str.mk [114, 101, 116, 117, 114, 110]))], rfl, (fun _ => ⟨rfl, by first | omega | (simp; done) | (dsimp only; omega) | exact lit_bl rfl⟩) h, ⟨[.string (bs (Str.mk [98, 114, 97, 110, 99, 104]))], [.string (bs (Str.mk [114, 101, 116, 117, 114, 110]))], rfl, (fun _ => ⟨rfl, by first | omega | (simp; done) | (dsimp only; omega) | exact lit_bl rfl⟩) h, ⟨[.string (bs (Str.mk [114, 101, 116, 117, 114, 110]))], [], rfl, (fun _ => ⟨rfl, by first | omega | (simp; done) | (dsimp only; omega) | exact lit_bl rfl⟩) h, rfl⟩⟩⟩⟩⟩⟩⟩⟩)) ?_
 refine Fb 16 0 fun _ => ?_
 refine FoS 0 fun ho6 => ?_
 refine llH H hx0 fun X14 hX15 hx16 HL17 => ?_
 refine Kl (γ := Nat × Int) (fun (r7, i_8) => ⟨[(0, pP), (3, .slice a3 8 k4), (4, vi i_8)], [os (.slice a3 8 k4) ([(Str.mk [117, 115, 101]), (Str.mk [99, 97, 108, 108]), (Str.mk [115, 111, 117, 114, 99, 101]), (Str.mk [115, 105, 110, 107]), (Str.mk [115, 97, 110, 105, 116, 105, 122, 101]), (Str.mk [103, 111, 116, 111]), (Str.mk [98, 114, 97, 110, 99, 104]), (Str.mk [114, 101, 116, 117, 114, 110])] : List Str), Cl pP [vl pa0 pk0 p.l, vi p.at_, vi p.Err], S pa0 pk0 p.l], pz_begins_L0 p r7 i_8 = X14 ∧ r7 = ((((8 : Nat) : Int) : Int) - i_8).toNat ∧ (0 : Int) ≤ i_8 ∧ (i_8 ≤ ((8 : Nat) : Int) ∨ i_8 = 0) ∧ (-9223372036854775808 ≤ i_8 ∧ i_8 ≤ 9223372036854775807), r7⟩) (((((8 : Nat) : Int) : Int) - 0).toNat, 0) [0, 0, 0] ⟨hX15, rfl, aM1, (.inr rfl), aM1⟩ ?_
 rintro ⟨r7, i_8⟩ ⟨hM9, hr10, hi11, hi12, hk13⟩
 refine JJ_nx fun _ _ hL hA => ?_; dsimp only at hL hA; subst hL hA
 refine Fb 16 0 fun _ => ?_
 refine FoS 0 fun ho19 => ?_
 refine Fl 0 fun hn20 => Fb 40 2 fun _ => ?_
 refine KS ?_
 refine Oq Vm (Oq Vm (Oq (Vlen sl36) (Oq Vlss (KS ?_))))
 refine Kc ?_ ?_
 ·intro h22
  have g23 := dt h22
  obtain ⟨r24, rfl⟩ := scc (n := r7) aM1
  have H := hM9; rw [pz_begins_L0] at H
  refine KS ?_
  refine Oq Vm (Oq Vm (Oq Vm ?_))
  refine pC H hx16 fun hc25 H => ?_
  refine Oq (Vi sl36 0) ?_
  have hb26 := okS (i := i_8.toNat) ho19 rng
  refine Oq (VldS sh9 0) ?_
  refine lbH H hx16 fun rv27 hg28 H => ?_
  have hc29 := fn34 pP p pa0 pk0 (([(Str.mk [117, 115, 101]), (Str.mk [99, 97, 108, 108]), (Str.mk [115, 111, 117, 114, 99, 101]), (Str.mk [115, 105, 110, 107]), (Str.mk [115, 97, 110, 105, 116, 105, 122, 101]), (Str.mk [103, 111, 116, 111]), (Str.mk [98, 114, 97, 110, 99, 104]), (Str.mk [114, 101, 116, 117, 114, 110])].getD i_8.toNat default)) pre pre pre rv27 hg28
  refine Oc [1, 1] ca34 hc29 ?_
  rintro - -
  refine KS ?_
  refine KcH H ?_ ?_
  ·intro h30 H
   refine KS ?_
   refine Oq Va (KS ?_)
   have H := llR H HL17
   have hq := rI H; subst hq
   exact Kr () rfl (.tmp rfl .nil) [0] trivial
  intro h30 H
  refine KS ?_
  refine Oq Vm (Oq Vadd (Oq Va (KS ?_)))
  refine pC H hx16 fun hc33 H => ?_
  exact Kg (r24, (i_8 + 1)) [1, 0, 0] ⟨H, aM1, aM1, aM1, aM1⟩
 intro h22
 have g34 := df h22
 obtain rfl : r7 = 0 := by omega
 have H := hM9; rw [pz_begins_L0] at H
 refine Ke ?_
 have H := llB H HL17
 refine KS ?_
 refine Oq Vm ?_
 refine lbH H hx0 fun rv35 hg36 H => ?_
 have hc37 := fn98 pP p pa0 pk0 pre pre rv35 hg36
 refine Oc [1, 1] ca98 hc37 ?_
 rintro - -
 refine Oq Va (KS ?_)
 have hq := rI H; subst hq
 exact Kr () rfl (.tmp rfl .nil) [0] trivial
theorem fn101 (pP : Value) (p : Gparser) (pa0 : Option Addr) (pk0 : Nat) (hp_1 : i64ok p.at_) (hp_2 : i64ok p.Err) (rr : GStmt × Gparser) (hrr : pz_stmt p = .ret rr) : FT Tryz.prog 101 #[pP] [Cl pP [vl pa0 pk0 p.l, vi p.at_, vi p.Err], S pa0 pk0 p.l] (fun g : Value × Value => i64ok rr.1.Op ∧ rr.1.Def.b.length ≤ 140737488355328 ∧ i64ok rr.2.at_ ∧ i64ok rr.2.Err) (fun g => .agg #[vi rr.1.Op, .string (bs rr.1.Def), g.1, g.2]) (fun g => [sl g.1 rr.1.Uses, sl g.2 rr.1.Targets, Cl pP [vl pa0 pk0 p.l, vi rr.2.at_, vi rr.2.Err]]) := by
 refine FTi Tryz.func101 fun w0 M0 F0 => ?_
 unfold i64ok at hp_1 hp_2
 refine Fb 40 1 fun _ => ?_
 have hx0 := lrn rr; have H := hrr; unfold pz_stmt at H
 refine KS ?_
 refine Oa (Al ze44 [vi 0, .string (bs (Str.mk [])), .slice none 0 0, .slice none 0 0]) fun p2 => KS ?_
 refine Oa (Al ze44 [vi 0, .string (bs (Str.mk [])), .slice none 0 0, .slice none 0 0]) fun p3 => KS ?_
 refine Oq Va (KS ?_)
 refine Oq Vm ?_
 refine lbH H hx0 fun rv4 hg5 H => ?_
 have hc6 := fn98 pP p pa0 pk0 pre pre rv4 hg5
 refine Oc [2, 2] ca98 hc6 ?_
 rintro - -
 refine Oq Vnot (KS ?_)
 refine pT H hx0 fun h7 H => ?_
 refine KcT h7 ?_
 have h9 := not_true h7
 refine KS ?_
 refine Jp 0 fun hp11 => ?_
 refine pC H hx0 fun hc12 H => ?_
 refine JJ_peek_GToken p.at_.toNat 4 rfl rng fun hb13 hb14 hb15 hb16 => ?_
 unfold i64ok at hb13 hb15 hb16
 refine Kq [0, 1, 3, 7, 0, 16, 48, 112, 255, 511, 1023, 2047] fmix ?_
 refine Qv [] Vm (Qv [1] (Vn 0) (Qv [1] (Vfa fo85_0 0) (Qv [2] (VldF sh80 0) (Qv [] Vm (Qv [1] (Vn 0) (Qv [1] (Vfa fo85_1 0) (Qv [2] (VldF sh3 0) (Qv [5] (Vi sl80 0) (Qv [0] (Vfa fo90_1 0) ?_)))))))))
 refine Qv [0] (VldF sh9 0) (Qv [] Va ?_)
 refine Qn ⟨by kernel_rfl, ?_⟩
 refine KS ?_
 refine Oq Vm (Oq (Vn 2) (Oq (Vfa fo85_1 2) (Oq (VldF sh3 2) ?_)))
 refine pC H hx0 fun hc17 H => ?_
 refine pC H hx0 fun hc18 H => ?_
 refine Oq Vadd (Oq (Vn 2) (Oq (Vfa fo85_1 2) (Ost (SclF [2] sh3 [vl pa0 pk0 p.l, vi (p.at_ + 1), vi p.Err]) (KS ?_))))
 refine Oq Vm (KS ?_)
 refine Oq (VeqS (l := (p.l.getD p.at_.toNat default).Text) (m := (Str.mk [117, 115, 101]))) (Oq Va (KS ?_))
 refine pF H hx0 fun h19 H => ?_
 refine KcF h19 ?_
 have g20 := ne_of_beq_false h19
 refine KS ?_
 refine Oq (VeqS (l := (p.l.getD p.at_.toNat default).Text) (m := (Str.mk [99, 97, 108, 108]))) (Oq Va (KS ?_))
 refine pF H hx0 fun h21 H => ?_
 refine KcF h21 ?_
 have g22 := ne_of_beq_false h21
 refine KS ?_
 refine Oq (VeqS (l := (p.l.getD p.at_.toNat default).Text) (m := (Str.mk [115, 111, 117, 114, 99, 101]))) (Oq Va (KS ?_))
 refine pF H hx0 fun h23 H => ?_
 refine KcF h23 ?_
 have g24 := ne_of_beq_false h23
 refine KS ?_
 refine Oq (VeqS (l := (p.l.getD p.at_.toNat default).Text) (m := (Str.mk [115, 105, 110, 107]))) (Oq Va (KS ?_))
 refine pF H hx0 fun h25 H => ?_
 refine KcF h25 ?_
 have g26 := ne_of_beq_false h25
 refine KS ?_
 refine Oq (VeqS (l := (p.l.getD p.at_.toNat default).Text) (m := (Str.mk [115, 97, 110, 105, 116, 105, 122, 101]))) (Oq Va (KS ?_))
 refine pF H hx0 fun h27 H => ?_
 refine KcF h27 ?_
 have g28 := ne_of_beq_false h27
 refine KS ?_
 refine Oq (VeqS (l := (p.l.getD p.at_.toNat default).Text) (m := (Str.mk [103, 111, 116, 111]))) (Oq Va (KS ?_))
 refine pF H hx0 fun h29 H => ?_
 refine KcF h29 ?_
 have g30 := ne_of_beq_false h29
 refine KS ?_
 refine Oq (VeqS (l := (p.l.getD p.at_.toNat default).Text) (m := (Str.mk [98, 114, 97, 110, 99, 104]))) (Oq Va (KS ?_))
 refine pT H hx0 fun h31 H => ?_
 refine KcT h31 ?_
 have g32 := eq_of_beq h31
 refine KS ?_
 refine Oq Vm ?_
 refine lbH H hx0 fun rv33 hg34 H => ?_
 have hc35 := fn65 pP (Gparser.mk p.l (p.at_ + 1) p.Err) pa0 pk0 pre pre rv33 hg34
 refine Oc [0, 4] ca65 hc35 ?_
 rintro - ⟨he36, he37, he38⟩
 unfold i64ok at he37 he38
 refine Oa (AsV sl36 sz36 [.string (bs rv33.1)] [.string (bs rv33.1)]) fun c39 => ?_
 refine Jo 0 ?_; rintro a40 k41 rfl
 refine Oq (Vfa fo44_0 4) (Ost (SclF [4] sh3 [vi 8, .string (bs (Str.mk [])), .slice none 0 0, .slice none 0 0]) (Oq (Vfa fo44_2 0) (Ost (SclF [0] sh36 [vi 8, .string (bs (Str.mk [])), .slice a40 1 k41, .slice none 0 0]) (KS ?_))))
 refine Oq Vm ?_
 refine lbH H hx0 fun rv42 hg43 H => ?_
 have hc44 := fn65 pP (Gparser.mk p.l rv33.2.at_ rv33.2.Err) pa0 pk0 pre pre rv42 hg43
 refine Oc [2, 5] ca65 hc44 ?_
 rintro - ⟨he45, he46, he47⟩
 unfold i64ok at he46 he47
 refine Oa (AsV sl36 sz36 [.string (bs rv42.1)] [.string (bs rv42.1)]) fun c48 => ?_
 refine Jo 0 ?_; rintro a49 k50 rfl
 refine Oq (Vfa fo44_3 2) (Ost (SclF [2] sh36 [vi 8, .string (bs (Str.mk [])), .slice a40 1 k41, .slice a49 1 k50]) (KS ?_))
 refine Jp 0 fun hp51 => ?_
 refine JK_drawK [0, 1, 0, 4, 12, 31, 63, 127] fmix ?_
 refine Dv [0] (Vfa fo44_3 0) (Dv [1] (VldF sh36 0) (Dv [] Vm ?_))
 refine lbH H hx0 fun rv52 hg53 H => ?_
 refine Dx [3, 8] [3] [2, 0, 1] (fun G => .string (bs rv52.1)) [fun G => SP.fact (rv52.1.b.length ≤ 140737488355328 ∧ i64ok rv52.2.at_ ∧ i64ok rv52.2.Err), fun G => Cl pP [vl pa0 pk0 p.l, vi rv52.2.at_, vi rv52.2.Err]] (fun G => xC [0, 0] ca65 (fn65 pP (Gparser.mk p.l rv42.2.at_ rv42.2.Err) pa0 pk0 pre pre rv52 hg53)) (Dx [] [] [0] (fun G => (G.g 4 0)) [fun G => Cr (G.g 4 0) 1 [.string (bs rv52.1)]] (fun G => xA (AsV sl36 sz36 [.string (bs rv52.1)] [.string (bs rv52.1)])) ?_)
 refine pC H hx0 fun hc55 H => ?_
 have hn57 : ([rv42.1] ++ [rv52.1] : List Str).length = 1 + 1 := la ([rv42.1] : List Str) ([rv52.1] : List Str)
 refine Dx [2, 9, 11] [2, 11] [1, 0] (fun G => (G.g 5 0)) [fun G => os (G.g 5 0) (([rv42.1] ++ [rv52.1]) : List Str)] (fun G => by refine xf 1 rfl ?_; rintro ⟨he58, he59, he60⟩; unfold i64ok at he59 he60; exact xp [0] rfl (Ent.cr1 (α := Str) (A := []) _ rv42.1 _ aB1 (fun _ => ⟨rfl, aS1⟩)) (xp [2] rfl (Ent.cr1 (α := Str) (A := []) _ rv52.1 _ aB1 (fun _ => ⟨rfl, aS1⟩)) (xA (ApO [1, 0] sl36 sl36 sz36)))) (Dv [0] (Vfa fo44_3 0) (Dx0 [1, 12] [1] [1, 0] [fun G => Cl p3 [vi 8, .string (bs (Str.mk [])), .slice a40 1 k41, (G.g 5 0)]] (fun G => x1 1 rfl os_one fun ho61 => (xS (OpS.frame [0] rfl (OpS.storeClF [(G.g 5 0)] [vi 8, .string (bs (Str.mk [])), .slice a40 1 k41, (G.g 5 0)] rfl rfl rfl sh36 (cells_of_one ho61) rfl (by simp only [List.all_cons, List.all_nil, ho61, Bool.and_true, Bool.true_and] <;> rfl) aB1 rfl)))) ?_))
 refine Dn ⟨by kernel_rfl, fun G => ?_⟩
 refine Jw2 [(0, pP), (2, p2), (3, p3)] [0, 4, 5, 6, 7, 8] [SP.fact (rv52.1.b.length ≤ 140737488355328 ∧ i64ok rv52.2.at_ ∧ i64ok rv52.2.Err), Cl pP [vl pa0 pk0 p.l, vi rv52.2.at_, vi rv52.2.Err], os (G.g 5 0) (([rv42.1] ++ [rv52.1]) : List Str), Cl p3 [vi 8, .string (bs (Str.mk [])), .slice a40 1 k41, (G.g 5 0)]] ?_
 generalize G.g 5 0 = c56
 refine Jf 6 rfl ?_; rintro ⟨he62, he63, he64⟩
 unfold i64ok at he63 he64
 refine Jk [1, 1, 3, 3, 5, 5, 5] ?_
 refine Jo 5 ?_; rintro a65 k66 rfl
 refine Fb 16 5 fun _ => ?_
 refine FoS 5 fun ho68 => ?_
 refine KS ?_
 refine Oq Vm ?_
 refine lbH H hx0 fun rv69 hg70 H => ?_
 have hc71 := fn66 pP (Gparser.mk p.l rv52.2.at_ rv52.2.Err) pa0 pk0 pre pre rv69 hg70
 refine Oc [4, 3] ca66 hc71 ?_
 rintro - ⟨he72, he73⟩
 unfold i64ok at he72 he73
 refine KS ?_
 refine Oq (VldA sh44 6) (Ost (Scl [3] sh44 [vi 8, .string (bs (Str.mk [])), .slice a40 1 k41, vl a65 k66 ([rv42.1] ++ [rv52.1])]) (KS ?_))
 refine Jl [2] (Ent.cr1 (α := Str) (A := []) _ rv33.1 _ aB1 (fun _ => ⟨rfl, aS1⟩)) ?_
 refine Jl [0] (Ent.freeze _ _) ?_
 refine Jl [5] (Ent.freeze _ _) ?_
 have hq := rI H; subst hq
 exact Kr (.slice a40 1 k41, vl a65 k66 ([rv42.1] ++ [rv52.1])) rfl (.cellN 2 rfl sh44 rfl (reads_Cl _ _) rfl .nil) [1, 0, 3] en
theorem fn67 (pP : Value) (p : Gparser) (pa0 : Option Addr) (pk0 : Nat) (hp_1 : i64ok p.at_) (hp_2 : i64ok p.Err) (rr : GBlock × Gparser) (hrr : pz_block p = .ret rr) : FT Tryz.prog 67 #[pP] [Cl pP [vl pa0 pk0 p.l, vi p.at_, vi p.Err], S pa0 pk0 p.l] (fun g : Value => rr.1.Name.b.length ≤ 140737488355328 ∧ i64ok rr.2.at_ ∧ i64ok rr.2.Err) (fun g => .agg #[.string (bs rr.1.Name), g]) (fun g => [sl g rr.1.Stmts, Cl pP [vl pa0 pk0 p.l, vi rr.2.at_, vi rr.2.Err]]) := by
 refine FTi Tryz.func67 fun w0 M0 F0 => ?_
 unfold i64ok at hp_1 hp_2
 refine Fb 40 1 fun _ => ?_
 have hx0 := lrn rr; have H := hrr; unfold pz_block at H
 refine KS ?_
 refine Oa (Al ze42 [.string (bs (Str.mk [])), .slice none 0 0]) fun p2 => KS ?_
 refine Oa (Al ze42 [.string (bs (Str.mk [])), .slice none 0 0]) fun p3 => KS ?_
 refine Oq Vm ?_
 refine lbH H hx0 fun rv4 hg5 H => ?_
 have hc6 := fn64 pP p pa0 pk0 ((Str.mk [98, 108, 111, 99, 107])) pre pre pre rv4 hg5
 refine Oc [2, 2] ca64 hc6 ?_
 rintro - ⟨he7, he8⟩
 unfold i64ok at he7 he8
 refine KS ?_
 refine Oq Vm ?_
 refine lbH H hx0 fun rv9 hg10 H => ?_
 have hc11 := fn65 pP (Gparser.mk p.l rv4.at_ rv4.Err) pa0 pk0 pre pre rv9 hg10
 refine Oc [0, 2] ca65 hc11 ?_
 rintro - ⟨he12, he13, he14⟩
 unfold i64ok at he13 he14
 refine Oq (Vfa fo42_0 1) (Ost (SclF [1] sh9 [.string (bs rv9.1), .slice none 0 0]) (KS ?_))
 refine Oq Vm ?_
 refine lbH H hx0 fun rv15 hg16 H => ?_
 have hc17 := fn66 pP (Gparser.mk p.l rv9.2.at_ rv9.2.Err) pa0 pk0 pre pre rv15 hg16
 refine Oc [1, 2] ca66 hc17 ?_
 rintro - ⟨he18, he19⟩
 unfold i64ok at he18 he19
 refine KS ?_
 refine Oq Vm ?_
 refine lbH H hx0 fun rv20 hg21 H => ?_
 have hc22 := fn100 pP (Gparser.mk p.l rv15.at_ rv15.Err) pa0 pk0 pre pre rv20 hg21
 refine Oc [0, 2] ca100 hc22 ?_
 rintro - -
 refine Oq Vnot (KS ?_)
 refine pF H hx0 fun h23 H => ?_
 refine KcF h23 ?_
 have h25 := not_false h23
 refine KS ?_
 refine Jl [] (Ent.osNil (α := GStmt)) ?_
 refine llH H hx0 fun X36 hX37 hx38 HL39 => ?_
 refine Kl (γ := Nat × Int × Int × List GStmt × Option Addr × Nat) (fun (r27, p1_28, p2_29, b1_30, a31, k32) => ⟨[(0, pP), (2, p2), (3, p3)], [O a31 k32 b1_30, Cl pP [vl pa0 pk0 p.l, vi p1_28, vi p2_29], Cl p3 [.string (bs rv9.1), vl a31 k32 b1_30], Cl p2 [.string (bs (Str.mk [])), .slice none 0 0], S pa0 pk0 p.l], pz_block_L0 p r27 p1_28 p2_29 b1_30 = X36 ∧ (-9223372036854775808 ≤ p1_28 ∧ p1_28 ≤ 9223372036854775807) ∧ (-9223372036854775808 ≤ p2_29 ∧ p2_29 ≤ 9223372036854775807), r27⟩) (100000, rv15.at_, rv15.Err, [], none, 0) [0, 0, 0, 0, 0] ⟨hX37, aM1, aM1⟩ ?_
 rintro ⟨r27, p1_28, p2_29, b1_30, a31, k32⟩ ⟨hM33, hk34, hk35⟩
 refine JJ_nx fun _ _ hL hA => ?_; dsimp only at hL hA; subst hL hA
 refine Fb 72 0 fun _ => Fb 40 4 fun _ => ?_
 rcases r27 with _ | r27
 ·exact absurd (hM33.symm.trans rfl) hx38
 have H := hM33; rw [pz_block_L0] at H
 refine KS ?_
 refine Oq Vm ?_
 refine lbH H hx38 fun rv42 hg43 H => ?_
 have hc44 := fn100 pP (Gparser.mk p.l p1_28 p2_29) pa0 pk0 pre pre rv42 hg43
 refine Oc [1, 3] ca100 hc44 ?_
 rintro - -
 refine KS ?_
 refine KcH H ?_ ?_
 ·intro h45 H
  refine KS ?_
  refine Oq (Vfa fo42_1 2) (Oq (VldF sh40 2) (Oq (Vlen sl40) (Oq Veql (KS ?_))))
  refine pF H hx38 fun h47 H => ?_
  refine KcF h47 ?_
  have g48 := ne_of_beq_false h47
  refine KS ?_
  refine Jp 2 fun hp49 => ?_
  refine JK_drawK [0, 1, 0, 4, 12, 31, 63, 127] fmix ?_
  refine Dv [0] (Vfa fo42_1 0) (Dv [3] (VldF sh40 0) (Dv [] Vm ?_))
  refine lbH H hx38 fun rv52 hg53 H => ?_
  refine Dx [1, 5] [1] [4, 0, 1, 2, 3] (fun G => .agg #[vi rv52.1.Op, .string (bs rv52.1.Def), (G.g 3 0), (G.g 3 1)]) [fun G => SP.fact (i64ok rv52.1.Op ∧ rv52.1.Def.b.length ≤ 140737488355328 ∧ i64ok rv52.2.at_ ∧ i64ok rv52.2.Err), fun G => sl (G.g 3 0) rv52.1.Uses, fun G => sl (G.g 3 1) rv52.1.Targets, fun G => Cl pP [vl pa0 pk0 p.l, vi rv52.2.at_, vi rv52.2.Err]] (fun G => xC [0, 0] ca101 (fn101 pP (Gparser.mk p.l p1_28 p2_29) pa0 pk0 pre pre rv52 hg53)) (Dx [] [] [0] (fun G => (G.g 4 0)) [fun G => Cr (G.g 4 0) 1 [vi rv52.1.Op, .string (bs rv52.1.Def), (G.g 3 0), (G.g 3 1)]] (fun G => xA (AsV sl40 sz40 [.agg #[vi rv52.1.Op, .string (bs rv52.1.Def), (G.g 3 0), (G.g 3 1)]] [vi rv52.1.Op, .string (bs rv52.1.Def), (G.g 3 0), (G.g 3 1)])) ?_)
  refine pC H hx38 fun hc55 H => ?_
  have hn57 := la b1_30 ([rv52.1] : List GStmt)
  refine Dx [2, 6, 7, 8, 10] [2, 10] [3, 1, 2, 0] (fun G => (G.g 5 0)) [fun G => os (G.g 5 0) ((b1_30 ++ [rv52.1]) : List GStmt)] (fun G => by refine xf 1 rfl ?_; rintro ⟨he58, he59, he60, he61⟩; unfold i64ok at he58 he60 he61; exact xp [4, 2, 3] rfl (Ent.cr1 (α := GStmt) (A := [sl (G.g 3 0) rv52.1.Uses, sl (G.g 3 1) rv52.1.Targets]) _ rv52.1 _ aB1 (fun h => ⟨_, _, rfl, aL1, aS1, sepAll_get (i := 0) rfl h, sepAll_get (i := 1) rfl h⟩)) (xA (ApO [3, 0] sl40 sl40 sz40))) (Dv [0] (Vfa fo42_1 0) (Dx0 [3, 11] [3] [1, 0] [fun G => Cl p3 [.string (bs rv9.1), (G.g 5 0)]] (fun G => x1 1 rfl os_one fun ho62 => (xS (OpS.frame [0] rfl (OpS.storeClF [(G.g 5 0)] [.string (bs rv9.1), (G.g 5 0)] rfl rfl rfl sh40 (cells_of_one ho62) rfl (by simp only [List.all_cons, List.all_nil, ho62, Bool.and_true, Bool.true_and] <;> rfl) aB1 rfl)))) ?_))
  refine Dn ⟨by kernel_rfl, fun G => ?_⟩
  refine Jw2 [(0, pP), (2, p2), (3, p3)] [0, 4, 5] [SP.fact (i64ok rv52.1.Op ∧ rv52.1.Def.b.length ≤ 140737488355328 ∧ i64ok rv52.2.at_ ∧ i64ok rv52.2.Err), sl (G.g 3 0) rv52.1.Uses, sl (G.g 3 1) rv52.1.Targets, Cl pP [vl pa0 pk0 p.l, vi rv52.2.at_, vi rv52.2.Err], os (G.g 5 0) ((b1_30 ++ [rv52.1]) : List GStmt), Cl p3 [.string (bs rv9.1), (G.g 5 0)]] ?_
  generalize G.g 3 0 = c50, G.g 3 1 = c51, G.g 5 0 = c56
  refine Jf 3 rfl ?_; rintro ⟨he63, he64, he65, he66⟩
  unfold i64ok at he63 he65 he66
  refine Jk [1, 1, 3, 4, 5, 5, 5] ?_
  refine Jo 2 ?_; rintro a67 k68 rfl
  refine Fb 16 2 fun _ => ?_
  refine FoS 2 fun ho70 => ?_
  refine Jo 3 ?_; rintro a71 k72 rfl
  refine Fb 16 3 fun _ => ?_
  refine FoS 3 fun ho74 => ?_
  refine Jo 5 ?_; rintro a75 k76 rfl
  refine Fb 72 5 fun _ => KS ?_
  exact Kg (r27, rv52.2.at_, rv52.2.Err, (b1_30 ++ [rv52.1]), a75, k76) [5, 4, 4, 0, 0] ⟨H, aM1, aM1⟩
 intro h45 H
 refine Ke ?_
 have H := llB H HL39
 dsimp only at H
 refine KS ?_
 refine Oq (VldA sh42 2) (Ost (Scl [3] sh42 [.string (bs rv9.1), vl a31 k32 b1_30]) (KS ?_))
 refine Jl [2] (Ent.freeze _ _) ?_
 have hq := rI H; subst hq
 exact Kr (vl a31 k32 b1_30) rfl (.cellN 1 rfl sh42 rfl (reads_Cl _ _) rfl .nil) [0, 2] en
theorem fn36 (pP : Value) (p : Gparser) (pa0 : Option Addr) (pk0 : Nat) (hp_1 : i64ok p.at_) (hp_2 : i64ok p.Err) (rr : GFunc × Gparser) (hrr : pz_function p = .ret rr) : FT Tryz.prog 36 #[pP] [Cl pP [vl pa0 pk0 p.l, vi p.at_, vi p.Err], S pa0 pk0 p.l] (fun g : Value => rr.1.Name.b.length ≤ 140737488355328 ∧ i64ok rr.2.at_ ∧ i64ok rr.2.Err) (fun g => .agg #[.string (bs rr.1.Name), g]) (fun g => [sl g rr.1.Blocks, Cl pP [vl pa0 pk0 p.l, vi rr.2.at_, vi rr.2.Err]]) := by
 refine FTi Tryz.func36 fun w0 M0 F0 => ?_
 unfold i64ok at hp_1 hp_2
 refine Fb 40 1 fun _ => ?_
 have hx0 := lrn rr; have H := hrr; unfold pz_function at H
 refine KS ?_
 refine Oa (Al ze39 [.string (bs (Str.mk [])), .slice none 0 0]) fun p2 => KS ?_
 refine Oa (Al ze39 [.string (bs (Str.mk [])), .slice none 0 0]) fun p3 => KS ?_
 refine Oq Vm ?_
 refine lbH H hx0 fun rv4 hg5 H => ?_
 have hc6 := fn64 pP p pa0 pk0 ((Str.mk [102, 117, 110, 99])) pre pre pre rv4 hg5
 refine Oc [2, 2] ca64 hc6 ?_
 rintro - ⟨he7, he8⟩
 unfold i64ok at he7 he8
 refine KS ?_
 refine Oq Vm ?_
 refine lbH H hx0 fun rv9 hg10 H => ?_
 have hc11 := fn65 pP (Gparser.mk p.l rv4.at_ rv4.Err) pa0 pk0 pre pre rv9 hg10
 refine Oc [0, 2] ca65 hc11 ?_
 rintro - ⟨he12, he13, he14⟩
 unfold i64ok at he13 he14
 refine Oq (Vfa fo39_0 1) (Ost (SclF [1] sh9 [.string (bs rv9.1), .slice none 0 0]) (KS ?_))
 refine Oq Vm ?_
 refine lbH H hx0 fun rv15 hg16 H => ?_
 have hc17 := fn66 pP (Gparser.mk p.l rv9.2.at_ rv9.2.Err) pa0 pk0 pre pre rv15 hg16
 refine Oc [1, 2] ca66 hc17 ?_
 rintro - ⟨he18, he19⟩
 unfold i64ok at he18 he19
 refine KS ?_
 refine Oq Vm ?_
 refine lbH H hx0 fun rv20 hg21 H => ?_
 have hc22 := fn34 pP (Gparser.mk p.l rv15.at_ rv15.Err) pa0 pk0 ((Str.mk [98, 108, 111, 99, 107])) pre pre pre rv20 hg21
 refine Oc [0, 2] ca34 hc22 ?_
 rintro - -
 refine Oq Vnot (KS ?_)
 refine pF H hx0 fun h23 H => ?_
 refine KcF h23 ?_
 have h25 := not_false h23
 refine KS ?_
 refine Jl [] (Ent.osNil (α := GBlock)) ?_
 refine llH H hx0 fun X36 hX37 hx38 HL39 => ?_
 refine Kl (γ := Nat × Int × Int × List GBlock × Option Addr × Nat) (fun (r27, p1_28, p2_29, f1_30, a31, k32) => ⟨[(0, pP), (2, p2), (3, p3)], [O a31 k32 f1_30, Cl pP [vl pa0 pk0 p.l, vi p1_28, vi p2_29], Cl p3 [.string (bs rv9.1), vl a31 k32 f1_30], Cl p2 [.string (bs (Str.mk [])), .slice none 0 0], S pa0 pk0 p.l], pz_function_L0 p r27 p1_28 p2_29 f1_30 = X36 ∧ (-9223372036854775808 ≤ p1_28 ∧ p1_28 ≤ 9223372036854775807) ∧ (-9223372036854775808 ≤ p2_29 ∧ p2_29 ≤ 9223372036854775807), r27⟩) (100000, rv15.at_, rv15.Err, [], none, 0) [0, 0, 0, 0, 0] ⟨hX37, aM1, aM1⟩ ?_
 rintro ⟨r27, p1_28, p2_29, f1_30, a31, k32⟩ ⟨hM33, hk34, hk35⟩
 refine JJ_nx fun _ _ hL hA => ?_; dsimp only at hL hA; subst hL hA
 refine Fb 40 0 fun _ => Fb 40 4 fun _ => ?_
 rcases r27 with _ | r27
 ·exact absurd (hM33.symm.trans rfl) hx38
 have H := hM33; rw [pz_function_L0] at H
 refine KS ?_
 refine Oq Vm ?_
 refine lbH H hx38 fun rv42 hg43 H => ?_
 have hc44 := fn34 pP (Gparser.mk p.l p1_28 p2_29) pa0 pk0 ((Str.mk [98, 108, 111, 99, 107])) pre pre pre rv42 hg43
 refine Oc [1, 3] ca34 hc44 ?_
 rintro - -
 refine KS ?_
 refine KcH H ?_ ?_
 ·intro h45 H
  refine KS ?_
  refine Oq (Vfa fo39_1 2) (Oq (VldF sh37 2) (Oq (Vlen sl37) (Oq Veql (KS ?_))))
  refine pF H hx38 fun h47 H => ?_
  refine KcF h47 ?_
  have g48 := ne_of_beq_false h47
  refine KS ?_
  refine Jp 2 fun hp49 => ?_
  refine JK_drawK [0, 1, 0, 4, 12, 31, 63, 127] fmix ?_
  refine Dv [0] (Vfa fo39_1 0) (Dv [3] (VldF sh37 0) (Dv [] Vm ?_))
  refine lbH H hx38 fun rv51 hg52 H => ?_
  refine Dx [1, 5] [1] [3, 0, 1, 2] (fun G => .agg #[.string (bs rv51.1.Name), (G.g 3 0)]) [fun G => SP.fact (rv51.1.Name.b.length ≤ 140737488355328 ∧ i64ok rv51.2.at_ ∧ i64ok rv51.2.Err), fun G => sl (G.g 3 0) rv51.1.Stmts, fun G => Cl pP [vl pa0 pk0 p.l, vi rv51.2.at_, vi rv51.2.Err]] (fun G => xC [0, 0] ca67 (fn67 pP (Gparser.mk p.l p1_28 p2_29) pa0 pk0 pre pre rv51 hg52)) (Dx [] [] [0] (fun G => (G.g 4 0)) [fun G => Cr (G.g 4 0) 1 [.string (bs rv51.1.Name), (G.g 3 0)]] (fun G => xA (AsV sl37 sz37 [.agg #[.string (bs rv51.1.Name), (G.g 3 0)]] [.string (bs rv51.1.Name), (G.g 3 0)])) ?_)
  refine pC H hx38 fun hc54 H => ?_
  have hn56 := la f1_30 ([rv51.1] : List GBlock)
  refine Dx [2, 6, 7, 9] [2, 9] [2, 1, 0] (fun G => (G.g 5 0)) [fun G => os (G.g 5 0) ((f1_30 ++ [rv51.1]) : List GBlock)] (fun G => by refine xf 1 rfl ?_; rintro ⟨he57, he58, he59⟩; unfold i64ok at he58 he59; exact xp [3, 2] rfl (Ent.cr1 (α := GBlock) (A := [sl (G.g 3 0) rv51.1.Stmts]) _ rv51.1 _ aB1 (fun h => ⟨_, rfl, aS1, sepAll_get (i := 0) rfl h⟩)) (xA (ApO [2, 0] sl37 sl37 sz37))) (Dv [0] (Vfa fo39_1 0) (Dx0 [3, 10] [3] [1, 0] [fun G => Cl p3 [.string (bs rv9.1), (G.g 5 0)]] (fun G => x1 1 rfl os_one fun ho60 => (xS (OpS.frame [0] rfl (OpS.storeClF [(G.g 5 0)] [.string (bs rv9.1), (G.g 5 0)] rfl rfl rfl sh37 (cells_of_one ho60) rfl (by simp only [List.all_cons, List.all_nil, ho60, Bool.and_true, Bool.true_and] <;> rfl) aB1 rfl)))) ?_))
  refine Dn ⟨by kernel_rfl, fun G => ?_⟩
  refine Jw2 [(0, pP), (2, p2), (3, p3)] [0, 4, 5] [SP.fact (rv51.1.Name.b.length ≤ 140737488355328 ∧ i64ok rv51.2.at_ ∧ i64ok rv51.2.Err), sl (G.g 3 0) rv51.1.Stmts, Cl pP [vl pa0 pk0 p.l, vi rv51.2.at_, vi rv51.2.Err], os (G.g 5 0) ((f1_30 ++ [rv51.1]) : List GBlock), Cl p3 [.string (bs rv9.1), (G.g 5 0)]] ?_
  generalize G.g 3 0 = c50, G.g 5 0 = c55
  refine Jf 3 rfl ?_; rintro ⟨he61, he62, he63⟩
  unfold i64ok at he62 he63
  refine Jk [1, 1, 3, 4, 4, 4] ?_
  refine Jo 2 ?_; rintro a64 k65 rfl
  refine Fb 72 2 fun _ => ?_
  refine Jo 4 ?_; rintro a67 k68 rfl
  refine Fb 40 4 fun _ => KS ?_
  exact Kg (r27, rv51.2.at_, rv51.2.Err, (f1_30 ++ [rv51.1]), a67, k68) [4, 3, 3, 0, 0] ⟨H, aM1, aM1⟩
 intro h45 H
 refine Ke ?_
 have H := llB H HL39
 dsimp only at H
 refine KS ?_
 refine Oq Vm ?_
 refine lbH H hx0 fun rv71 hg72 H => ?_
 have hc73 := fn64 pP (Gparser.mk p.l p1_28 p2_29) pa0 pk0 ((Str.mk [101, 110, 100])) pre pre pre rv71 hg72
 refine Oc [0, 3] ca64 hc73 ?_
 rintro - ⟨he74, he75⟩
 unfold i64ok at he74 he75
 refine KS ?_
 refine Oq Vm ?_
 refine lbH H hx0 fun rv76 hg77 H => ?_
 have hc78 := fn66 pP (Gparser.mk p.l rv71.at_ rv71.Err) pa0 pk0 pre pre rv76 hg77
 refine Oc [0, 3] ca66 hc78 ?_
 rintro - ⟨he79, he80⟩
 unfold i64ok at he79 he80
 refine KS ?_
 refine Oq (VldA sh39 2) (Ost (Scl [3] sh39 [.string (bs rv9.1), vl a31 k32 f1_30]) (KS ?_))
 refine Jl [2] (Ent.freeze _ _) ?_
 have hq := rI H; subst hq
 exact Kr (vl a31 k32 f1_30) rfl (.cellN 1 rfl sh39 rfl (reads_Cl _ _) rfl .nil) [0, 2] en
theorem fn18 (text : Str) (htext_0 : text.b.length ≤ 140737488355328) (rr : GProgram × Int × Int × Int) (hrr : r4_Parse text = .ret rr) : FT Tryz.prog 18 #[.string (bs text)] [] (fun g : Value => i64ok rr.2.1 ∧ i64ok rr.2.2.1 ∧ i64ok rr.2.2.2) (fun g => .tuple #[.agg #[g], vi rr.2.1, vi rr.2.2.1, vi rr.2.2.2]) (fun g => [sl g rr.1.Funcs]) := by
 refine FTi Tryz.func18 fun w0 M0 F0 => ?_
 have hx0 := lrn rr; have H := hrr; unfold r4_Parse at H
 refine KS ?_
 refine Oa (Al ze25 [.slice none 0 0]) fun p1 => Oq Va (Oq Va (Oq Va (KS ?_)))
 refine Oq Vm ?_
 refine lbH H hx0 fun rv3 hg4 H => ?_
 have hc5 := fn33 text pre rv3 hg4
 refine Oc [] ca33 hc5 ?_
 rintro c2 ⟨he6, he7, he8⟩
 unfold i64ok at he6 he7 he8
 refine Jo 0 ?_; rintro a9 k10 rfl
 refine Fb 40 0 fun _ => ?_
 refine Oq Vm (Oq Vx (Oq Vx (Oq Vx (Oq Vx (Oq Va (Oq Va (Oq Va (Oq Va (KS ?_)))))))))
 refine Oq Vm (Oq Vneq (KS ?_))
 refine pF H hx0 fun h12 H => ?_
 refine KcF h12 ?_
 have g13 := eq_of_bne_false h12
 refine KS ?_
 refine Oq Vm (Oq (Vbd st85 [vl a9 k10 rv3.1, vi 0, vi 0]) (Oa (AbO [vl a9 k10 rv3.1, vi 0, vi 0]) fun p14 => Oq Va (KS ?_)))
 refine Oa (Al ze25 [.slice none 0 0]) fun p15 => KS ?_
 refine Oq Vm ?_
 refine lbH H hx0 fun rv16 hg17 H => ?_
 have hc18 := fn34 p14 (Gparser.mk rv3.1 0 0) a9 k10 ((Str.mk [102, 117, 110, 99])) pre pre pre rv16 hg17
 refine Oc [1, 1] ca34 hc18 ?_
 rintro - -
 refine Oq Vnot (KS ?_)
 refine pF H hx0 fun h19 H => ?_
 refine KcF h19 ?_
 have h21 := not_false h19
 refine KS ?_
 refine Jl [] (Ent.osNil (α := GFunc)) ?_
 refine llH H hx0 fun X32 hX33 hx34 HL35 => ?_
 refine Kl (γ := Nat × Int × Int × List GFunc × Option Addr × Nat) (fun (r23, p1_24, p2_25, out0_26, a27, k28) => ⟨[(2, p1), (6, vl a9 k10 rv3.1), (10, p14), (11, p15)], [O a27 k28 out0_26, Cl p14 [vl a9 k10 rv3.1, vi p1_24, vi p2_25], Cl p15 [vl a27 k28 out0_26], S a9 k10 rv3.1, Cl p1 [.slice none 0 0]], r4_Parse_L0 rv3.1 r23 p1_24 p2_25 out0_26 = X32 ∧ (-9223372036854775808 ≤ p1_24 ∧ p1_24 ≤ 9223372036854775807) ∧ (-9223372036854775808 ≤ p2_25 ∧ p2_25 ≤ 9223372036854775807), r23⟩) (100000, 0, 0, [], none, 0) [0, 0, 0, 0, 1] ⟨hX33, aM1, aM1⟩ ?_
 rintro ⟨r23, p1_24, p2_25, out0_26, a27, k28⟩ ⟨hM29, hk30, hk31⟩
 refine JJ_nx fun _ _ hL hA => ?_; dsimp only at hL hA; subst hL hA
 refine Fb 40 0 fun _ => Fb 40 3 fun _ => ?_
 rcases r23 with _ | r23
 ·exact absurd (hM29.symm.trans rfl) hx34
 have H := hM29; rw [r4_Parse_L0] at H
 refine KS ?_
 refine Oq Vm ?_
 refine lbH H hx34 fun rv38 hg39 H => ?_
 have hc40 := fn34 p14 (Gparser.mk rv3.1 p1_24 p2_25) a9 k10 ((Str.mk [102, 117, 110, 99])) pre pre pre rv38 hg39
 refine Oc [1, 2] ca34 hc40 ?_
 rintro - -
 refine KS ?_
 refine KcH H ?_ ?_
 ·intro h41 H
  refine KS ?_
  refine Oq (Vfa fo25_0 2) (Oq (VldF sh23 2) (Oq (Vlen sl23) (Oq Veql (KS ?_))))
  refine pF H hx34 fun h43 H => ?_
  refine KcF h43 ?_
  have g44 := ne_of_beq_false h43
  refine KS ?_
  refine Jp 2 fun hp45 => ?_
  refine JK_drawK [0, 1, 0, 4, 12, 31, 63, 127] fmix ?_
  refine Dv [0] (Vfa fo25_0 0) (Dv [3] (VldF sh23 0) (Dv [] Vm ?_))
  refine lbH H hx34 fun rv47 hg48 H => ?_
  refine Dx [1, 4] [1] [3, 0, 1, 2] (fun G => .agg #[.string (bs rv47.1.Name), (G.g 3 0)]) [fun G => SP.fact (rv47.1.Name.b.length ≤ 140737488355328 ∧ i64ok rv47.2.at_ ∧ i64ok rv47.2.Err), fun G => sl (G.g 3 0) rv47.1.Blocks, fun G => Cl p14 [vl a9 k10 rv3.1, vi rv47.2.at_, vi rv47.2.Err]] (fun G => xC [0, 0] ca36 (fn36 p14 (Gparser.mk rv3.1 p1_24 p2_25) a9 k10 pre pre rv47 hg48)) (Dx [] [] [0] (fun G => (G.g 4 0)) [fun G => Cr (G.g 4 0) 1 [.string (bs rv47.1.Name), (G.g 3 0)]] (fun G => xA (AsV sl23 sz23 [.agg #[.string (bs rv47.1.Name), (G.g 3 0)]] [.string (bs rv47.1.Name), (G.g 3 0)])) ?_)
  refine pC H hx34 fun hc50 H => ?_
  have hn52 := la out0_26 ([rv47.1] : List GFunc)
  refine Dx [2, 6, 7, 9] [2, 9] [2, 1, 0] (fun G => (G.g 5 0)) [fun G => os (G.g 5 0) ((out0_26 ++ [rv47.1]) : List GFunc)] (fun G => by refine xf 1 rfl ?_; rintro ⟨he53, he54, he55⟩; unfold i64ok at he54 he55; exact xp [3, 2] rfl (Ent.cr1 (α := GFunc) (A := [sl (G.g 3 0) rv47.1.Blocks]) _ rv47.1 _ aB1 (fun h => ⟨_, rfl, aS1, sepAll_get (i := 0) rfl h⟩)) (xA (ApO [2, 0] sl23 sl23 sz23))) (Dv [0] (Vfa fo25_0 0) (Dx0 [3, 10] [3] [1, 0] [fun G => Cl p15 [(G.g 5 0)]] (fun G => x1 1 rfl os_one fun ho56 => (xS (OpS.frame [0] rfl (OpS.storeClF [(G.g 5 0)] [(G.g 5 0)] rfl rfl rfl sh23 (cells_of_one ho56) rfl (by simp only [List.all_cons, List.all_nil, ho56, Bool.and_true, Bool.true_and] <;> rfl) aB1 rfl)))) ?_))
  refine Dn ⟨by kernel_rfl, fun G => ?_⟩
  refine Jw2 [(2, p1), (6, vl a9 k10 rv3.1), (10, p14), (11, p15)] [0, 4, 5] [SP.fact (rv47.1.Name.b.length ≤ 140737488355328 ∧ i64ok rv47.2.at_ ∧ i64ok rv47.2.Err), sl (G.g 3 0) rv47.1.Blocks, Cl p14 [vl a9 k10 rv3.1, vi rv47.2.at_, vi rv47.2.Err], os (G.g 5 0) ((out0_26 ++ [rv47.1]) : List GFunc), Cl p15 [(G.g 5 0)]] ?_
  generalize G.g 3 0 = c46, G.g 5 0 = c51
  refine Jf 3 rfl ?_; rintro ⟨he57, he58, he59⟩
  unfold i64ok at he58 he59
  refine Jk [1, 2, 3, 4, 4, 4] ?_
  refine Jo 2 ?_; rintro a60 k61 rfl
  refine Fb 40 2 fun _ => ?_
  refine Jo 4 ?_; rintro a63 k64 rfl
  refine Fb 40 4 fun _ => KS ?_
  exact Kg (r23, rv47.2.at_, rv47.2.Err, (out0_26 ++ [rv47.1]), a63, k64) [4, 3, 3, 0, 1] ⟨H, aM1, aM1⟩
 intro h41 H
 refine Ke ?_
 have H := llB H HL35
 dsimp only at H
 refine KS ?_
 refine Oq Vm (Oq (Vn 0) (Oq (Vfa fo85_2 0) (Oq (VldF sh52 0) (Oq Veql (Oq Vm ?_)))))
 refine pT H hx0 fun h67 H => ?_
 refine JsT 53 h67 ?_
 have g68 := eq_of_beq h67
 refine Oq Vm (Oq (Vn 0) (Oq (Vfa fo85_1 0) (Oq (VldF sh3 0) (Oq Vm (Oq (Vlen sl80) (Oq Vlss (Oq Vpt (KS ?_))))))))
 refine pF H hx0 fun h69 H => ?_
 refine KcF h69 ?_
 have g70 := df h69
 refine KS ?_
 refine Oq Vm (Oq (Vn 0) (Oq (Vfa fo85_2 0) (Oq (VldF sh52 0) (Oq Veql (KS ?_)))))
 refine Kc ?_ ?_
 ·intro h71
  have g72 := eq_of_beq h71
  refine KS ?_
  refine Oq (VldA sh25 2) (Ost (Scl [4] sh25 [vl a27 k28 out0_26]) (Oq Va (Oq Va (Oq Va (KS ?_)))))
  refine Jl [2] (Ent.freeze _ _) ?_
  have hq := rI H; subst hq
  exact Kr (vl a27 k28 out0_26) rfl (.cellN 1 rfl sh25 rfl (reads_Cl _ _) rfl (.tmp rfl (.tmp rfl (.tmp rfl .nil)))) [0] en
 intro h71
 exact absurd h71 (by first | (simp [h67]; done) | (simp only [bne, h67]; decide) | (simp only [bne, h67, Bool.not_true, Bool.not_false]; decide) | (exfalso; omega) | (intro hq; simp only [bne, hq, Bool.not_false, Bool.not_true, reduceCtorEq] at h67))
theorem fn68 (l : List Int) (la0 : Option Addr) (lk0 : Nat) (n : Int) (hn_0 : i64ok n) (rr : Bool) (hrr : gh_ascending l n = .ret rr) : FT Tryz.prog 68 #[vl la0 lk0 l, vi n] [S la0 lk0 l] (fun g : Unit => True) (fun g => vb rr) (fun g => []) := by
 refine FTi Tryz.func68 fun w0 M0 F0 => ?_
 unfold i64ok at hn_0
 refine Fb 8 0 fun _ => Fo 0 fun ho2 => ?_
 have hx0 := lrn rr; have H := hrr; unfold gh_ascending at H
 refine KS ?_
 refine Oq Va (KS ?_)
 refine Oq Vm (Oq (Vlen sl22) (Oq Vm (KS ?_)))
 refine llH H hx0 fun X10 hX11 hx12 HL13 => ?_
 refine Kl (γ := Nat × Int) (fun (r3, v9_4) => ⟨[(0, vl la0 lk0 l), (1, vi n), (7, vl la0 lk0 l), (8, vi (l.length : Int)), (9, vi v9_4)], [S la0 lk0 l], gh_ascending_L0 l n r3 v9_4 = X10 ∧ r3 = ((l.length : Int) - v9_4).toNat ∧ (0 : Int) ≤ v9_4 ∧ v9_4 ≤ (l.length : Int) ∧ (-9223372036854775808 ≤ v9_4 ∧ v9_4 ≤ 9223372036854775807), r3⟩) (((l.length : Int) - 0).toNat, 0) [0] ⟨hX11, rfl, aM1, aM1, aM1⟩ ?_
 rintro ⟨r3, v9_4⟩ ⟨hM5, hr6, hi7, hi8, hk9⟩
 refine JJ_nx fun _ _ hL hA => ?_; dsimp only at hL hA; subst hL hA
 refine Fb 8 0 fun _ => Fo 0 fun ho15 => KS ?_
 refine Oq Vlss (KS ?_)
 refine Kc ?_ ?_
 ·intro h16
  have g17 := dt h16
  obtain ⟨r18, rfl⟩ := scc (n := r3) aM1
  have H := hM5; rw [gh_ascending_L0] at H
  refine KS ?_
  refine Oq Vm ?_
  refine pC H hx12 fun hc19 H => ?_
  refine Oq (Vi sl22 0) ?_
  have hb20 := ok1 (i := v9_4.toNat) ho15 rng
  refine Oq (VldI sh3 0) (Oq Va (Oq Va (KS ?_)))
  refine Oq Vm (Oq Vlss (Oq Vm ?_))
  refine pF H hx12 fun h21 H => ?_
  refine JsF 16 h21 ?_
  have g22 := df h21
  refine Oq Vm (Oq Vm (Oq Vgeq (Oq Vpf (Oq Vm ?_))))
  refine pF H hx12 fun h23 H => ?_
  refine JsF 21 h23 ?_
  have g24 := df h23
  refine Oq Vm (Oq Vgtr (Oq Vm ?_))
  refine JsH 24 H ?_ ?_
  ·intro h25 H
   have g26 := dt h25
   refine Oq Vm (Oq Vm (Oq Vm ?_))
   refine pC H hx12 fun hc27 H => ?_
   refine Oq Vsub ?_
   refine pC H hx12 fun hc28 H => ?_
   refine Oq (Vi sl22 0) ?_
   have hb29 := ok1 (i := ((v9_4 - 1) : Int).toNat) ho15 rng
   refine Oq (VldI sh3 0) (Oq Vleq (Oq Vpt (Oq Vpf (KS ?_))))
   refine pF H hx12 fun h30 H => ?_
   refine KcF h30 ?_
   have g31 := df h30
   refine KS ?_
   refine Oq Vadd (Oq Vm (KS ?_))
   refine pC H hx12 fun hc32 H => ?_
   exact Kg (r18, (v9_4 + 1)) [0] ⟨H, aM1, aM1, aM1, aM1⟩
  intro h25 H
  have g33 := df h25
  refine Osk (Osk (Osk (Osk (Osk (Osk (Osk (Oq Vpf (Oq Vpf (KS ?_)))))))))
  refine Kf (KS ?_)
  refine Oq Vadd (Oq Vm (KS ?_))
  refine pC H hx12 fun hc34 H => ?_
  exact Kg (r18, (v9_4 + 1)) [0] ⟨H, aM1, aM1, aM1, aM1⟩
 intro h16
 have g35 := df h16
 obtain rfl : r3 = 0 := by omega
 have H := hM5; rw [gh_ascending_L0] at H
 refine Ke ?_
 have H := llB H HL13
 refine KS ?_
 refine Oq Va (KS ?_)
 have hq := rI H; subst hq
 exact Kr () rfl (.tmp rfl .nil) [] trivial
theorem fn38 (l : List (List Int)) (la0 : Option Addr) (lk0 : Nat) (rr : Int) (hrr : gh_count l = .ret rr) : FT Tryz.prog 38 #[vl la0 lk0 l] [S la0 lk0 l] (fun g : Unit => i64ok rr) (fun g => vi rr) (fun g => []) := by
 refine FTi Tryz.func38 fun w0 M0 F0 => Fb 24 0 fun _ => ?_
 have hx0 := lrn rr; have H := hrr; unfold gh_count at H
 refine KS ?_
 refine Oq Va (KS ?_)
 refine Oq Va (KS ?_)
 refine Oq Vm (Oq (Vlen sl49) (Oq Vm (KS ?_)))
 refine llH H hx0 fun X11 hX12 hx13 HL14 => ?_
 refine Kl (γ := Nat × Int × Int) (fun (r2, edges_3, v8_4) => ⟨[(0, vl la0 lk0 l), (3, vi edges_3), (6, vl la0 lk0 l), (7, vi (l.length : Int)), (8, vi v8_4)], [S la0 lk0 l], gh_count_L0 l r2 edges_3 v8_4 = X11 ∧ r2 = ((l.length : Int) - v8_4).toNat ∧ (0 : Int) ≤ v8_4 ∧ v8_4 ≤ (l.length : Int) ∧ (-9223372036854775808 ≤ edges_3 ∧ edges_3 ≤ 9223372036854775807) ∧ (-9223372036854775808 ≤ v8_4 ∧ v8_4 ≤ 9223372036854775807), r2⟩) (((l.length : Int) - 0).toNat, 0, 0) [0] ⟨hX12, rfl, aM1, aM1, aM1, aM1⟩ ?_
 rintro ⟨r2, edges_3, v8_4⟩ ⟨hM5, hr6, hi7, hi8, hk9, hk10⟩
 refine JJ_nx fun _ _ hL hA => ?_; dsimp only at hL hA; subst hL hA
 refine Fb 24 0 fun _ => KS ?_
 refine Oq Vlss (KS ?_)
 refine Kc ?_ ?_
 ·intro h16
  have g17 := dt h16
  obtain ⟨r18, rfl⟩ := scc (n := r2) aM1
  have H := hM5; rw [gh_count_L0] at H
  refine KS ?_
  refine pC H hx13 fun hc19 H => ?_
  refine Oq (Vi sl49 0) ?_
  refine JJ_peekL v8_4.toNat 0 rfl rng fun a20 k21 => ?_
  refine Fb 8 1 fun _ => Fo 1 fun ho23 => ?_
  refine Oq (Vld sh22 0) (Oq Va (KS ?_))
  refine Oq Vm (Oq Vm (Oq (Vlen sl22) ?_))
  refine pC H hx13 fun hc24 H => ?_
  refine pC H hx13 fun hc25 H => ?_
  refine Oq Vadd (Oq Va (KS ?_))
  refine Oq Vm (Oq Vgtr (Oq Vm ?_))
  refine pF H hx13 fun h26 H => ?_
  refine JsF 18 h26 ?_
  have g27 := df h26
  refine Oq Vm (Oq Vm (Oq (Vlen sl49) ?_))
  refine lbH H hx13 fun rv28 hg29 H => ?_
  have hc30 := fn68 ((l.getD v8_4.toNat [])) a20 k21 ((l.length : Int)) pre rv28 hg29
  refine Oc [1] ca68 hc30 ?_
  rintro - -
  refine Oq Vnot (Oq Vpf (KS ?_))
  refine pF H hx13 fun h31 H => ?_
  refine KcF h31 ?_
  have h33 := not_false h31
  refine KS ?_
  refine Oq Vadd (Oq Vm (KS ?_))
  refine pC H hx13 fun hc35 H => ?_
  exact Kg (r18, (edges_3 + ((l.getD v8_4.toNat []).length : Int)), (v8_4 + 1)) [2] ⟨H, aM1, aM1, aM1, aM1, aM1⟩
 intro h16
 have g36 := df h16
 obtain rfl : r2 = 0 := by omega
 have H := hM5; rw [gh_count_L0] at H
 refine Ke ?_
 have H := llB H HL14
 refine KS ?_
 refine Oq Vm (Oq Va (KS ?_))
 have hq := rI H; subst hq
 exact Kr () rfl (.tmp rfl .nil) [] en
theorem fn37 (g : GGraph) (ga0 : Option Addr) (gk0 : Nat) (ga1 : Option Addr) (gk1 : Nat) (ga2 : Option Addr) (gk2 : Nat) (rr : Bool) (hrr : gh_Valid g = .ret rr) : FT Tryz.prog 37 #[.agg #[vl ga0 gk0 g.Nodes, vl ga1 gk1 g.Succ, vl ga2 gk2 g.Pred]] [S ga0 gk0 g.Nodes, S ga1 gk1 g.Succ, S ga2 gk2 g.Pred] (fun g : Unit => True) (fun g => vb rr) (fun g => []) := by
 refine FTi Tryz.func37 fun w0 M0 F0 => Fb 32 0 fun _ => Fb 24 1 fun _ => Fb 24 2 fun _ => ?_
 have hx0 := lrn rr; have H := hrr; unfold gh_Valid at H
 refine KS ?_
 refine Oa (Ab [vl ga0 gk0 g.Nodes, vl ga1 gk1 g.Succ, vl ga2 gk2 g.Pred]) fun p4 => Oq Va (KS ?_)
 refine Oq (Vfa fo51_0 0) (Oq (VldF sh48 0) (Oq (Vlen sl48) (Oq Va (KS ?_))))
 refine Oq Vm (Oq Vlss (Oq Vm ?_))
 refine pF H hx0 fun h5 H => ?_
 refine JsF 14 h5 ?_
 have g6 := df h5
 refine Oq Vm (Oq Vgtr (Oq Vpf (Oq Vm ?_)))
 refine pF H hx0 fun h7 H => ?_
 refine JsF 18 h7 ?_
 have g8 := df h7
 refine Oq (Vfa fo51_1 0) (Oq (VldF sh49 0) (Oq (Vlen sl49) (Oq Vm (Oq Vneq (Oq Vpf (Oq Vm ?_))))))
 refine pF H hx0 fun h9 H => ?_
 refine JsF 25 h9 ?_
 have g10 := eq_of_bne_false h9
 refine Oq (Vfa fo51_2 0) (Oq (VldF sh49 0) (Oq (Vlen sl49) (Oq Vm (Oq Vneq (Oq Vpf (KS ?_))))))
 refine pF H hx0 fun h11 H => ?_
 refine KcF h11 ?_
 have g12 := eq_of_bne_false h11
 refine KS ?_
 refine Oq (Vfa fo51_1 0) (Oq (VldF sh49 0) ?_)
 refine lbH H hx0 fun rv13 hg14 H => ?_
 have hc15 := fn38 g.Succ ga1 gk1 rv13 hg14
 refine Oc [2] ca38 hc15 ?_
 rintro - he16
 unfold i64ok at he16
 refine Oq Va (KS ?_)
 refine Oq Vm (Oq Vlss (Oq Vm ?_))
 refine pF H hx0 fun h17 H => ?_
 refine JsF 37 h17 ?_
 have g18 := df h17
 refine Oq (Vfa fo51_2 0) (Oq (VldF sh49 0) ?_)
 refine lbH H hx0 fun rv19 hg20 H => ?_
 have hc21 := fn38 g.Pred ga2 gk2 rv19 hg20
 refine Oc [3] ca38 hc21 ?_
 rintro - he22
 unfold i64ok at he22
 refine Oq Vm (Oq Vneq (Oq Vpf (KS ?_)))
 refine pF H hx0 fun h23 H => ?_
 refine KcF h23 ?_
 have g24 := eq_of_bne_false h23
 refine KS ?_
 refine Oq (Vfa fo51_1 0) (Oq (VldF sh49 0) (Oq (Vlen sl49) (Oq Vm (KS ?_))))
 refine llH H hx0 fun X32 hX33 hx34 HL35 => ?_
 refine Kl (γ := Nat × Int) (fun (r25, v47_26) => ⟨[(1, p4), (45, vl ga1 gk1 g.Succ), (46, vi (g.Succ.length : Int)), (47, vi v47_26)], [pv p4 [vl ga0 gk0 g.Nodes, vl ga1 gk1 g.Succ, vl ga2 gk2 g.Pred], S ga0 gk0 g.Nodes, S ga1 gk1 g.Succ, S ga2 gk2 g.Pred], gh_Valid_L0 g r25 v47_26 = X32 ∧ r25 = ((g.Succ.length : Int) - v47_26).toNat ∧ (0 : Int) ≤ v47_26 ∧ v47_26 ≤ (g.Succ.length : Int) ∧ (-9223372036854775808 ≤ v47_26 ∧ v47_26 ≤ 9223372036854775807), r25⟩) (((g.Succ.length : Int) - 0).toNat, 0) [0, 1, 2, 3] ⟨hX33, rfl, aM1, aM1, aM1⟩ ?_
 rintro ⟨r25, v47_26⟩ ⟨hM27, hr28, hi29, hi30, hk31⟩
 refine JJ_nx fun _ _ hL hA => ?_; dsimp only at hL hA; subst hL hA
 refine Fb 32 1 fun _ => Fb 24 2 fun _ => Fb 24 3 fun _ => KS ?_
 refine Oq Vlss (KS ?_)
 refine Kc ?_ ?_
 ·intro h39
  have g40 := dt h39
  obtain ⟨r41, rfl⟩ := scc (n := r25) aM1
  have H := hM27; rw [gh_Valid_L0] at H
  refine KS ?_
  refine Oq Vm ?_
  refine pC H hx34 fun hc42 H => ?_
  refine Oq (Vi sl49 2) ?_
  refine JJ_peekL v47_26.toNat 2 rfl rng fun a43 k44 => ?_
  refine Fb 8 1 fun _ => Fo 1 fun ho46 => ?_
  refine Oq (Vld sh22 0) (Oq Va (Oq Va (KS ?_)))
  refine Oq Vm (Oq (Vlen sl22) (Oq Vm (KS ?_)))
  refine pC H hx34 fun hc54 H => ?_
  refine llH H hx34 fun X55 hX56 hx57 HL58 => ?_
  refine Kl (γ := Nat × Int) (fun (r47, v54_48) => ⟨[(1, p4), (45, vl ga1 gk1 g.Succ), (46, vi (g.Succ.length : Int)), (47, vi v47_26), (5, vi v47_26), (52, vl a43 k44 (g.Succ.getD v47_26.toNat [])), (53, vi ((g.Succ.getD v47_26.toNat []).length : Int)), (54, vi v54_48)], [S a43 k44 ((g.Succ.getD v47_26.toNat []) : List Int), pv p4 [vl ga0 gk0 g.Nodes, vl ga1 gk1 g.Succ, vl ga2 gk2 g.Pred], S ga0 gk0 g.Nodes, S ga1 gk1 g.Succ, S ga2 gk2 g.Pred], gh_Valid_L1 g v47_26 (g.Succ.getD v47_26.toNat []) r47 v54_48 = X55 ∧ r47 = ((((g.Succ.getD v47_26.toNat []).length : Int) : Int) - v54_48).toNat ∧ (0 : Int) ≤ v54_48 ∧ (v54_48 ≤ ((g.Succ.getD v47_26.toNat []).length : Int) ∨ v54_48 = 0) ∧ (-9223372036854775808 ≤ v54_48 ∧ v54_48 ≤ 9223372036854775807), r47⟩) (((((g.Succ.getD v47_26.toNat []).length : Int) : Int) - 0).toNat, 0) [1, 2, 3, 4, 5] ⟨hX56, rfl, aM1, (.inr rfl), aM1⟩ ?_
  rintro ⟨r47, v54_48⟩ ⟨hM49, hr50, hi51, hi52, hk53⟩
  refine JJ_nx fun _ _ hL hA => ?_; dsimp only at hL hA; subst hL hA
  refine Fb 8 0 fun _ => Fo 0 fun ho60 => Fb 32 2 fun _ => Fb 24 3 fun _ => Fb 24 4 fun _ => KS ?_
  refine Oq Vlss (KS ?_)
  refine Kc ?_ ?_
  ·intro h64
   have g65 := dt h64
   obtain ⟨r66, rfl⟩ := scc (n := r47) aM1
   have H := hM49; rw [gh_Valid_L1] at H
   refine KS ?_
   refine pC H hx57 fun hc67 H => ?_
   refine Oq (Vi sl22 0) ?_
   have hb68 := ok1 (i := v54_48.toNat) ho60 rng
   refine Oq (VldI sh3 0) (Oq Va (KS ?_))
   refine Oq (Vfa fo51_2 1) (Oq (VldF sh49 1) (Oq Vm ?_))
   refine pC H hx57 fun hc69 H => ?_
   refine Oq (Vi sl49 4) ?_
   refine JJ_peekL (((g.Succ.getD v47_26.toNat []).getD v54_48.toNat 0) : Int).toNat 4 rfl rng fun a70 k71 => ?_
   refine Fb 8 1 fun _ => Fo 1 fun ho73 => ?_
   refine Oq (Vld sh22 0) (Oq Vm ?_)
   refine pC H hx57 fun hc76 H => ?_
   refine lvH H fun rv74 hg75 H => ?_
   have hc77 := fn45 ((g.Pred.getD (((g.Succ.getD v47_26.toNat []).getD v54_48.toNat 0) : Int).toNat [])) a70 k71 v47_26 pre rv74 hg75
   refine Oc [1] ca45 hc77 ?_
   rintro - -
   refine Oq Vnot (KS ?_)
   refine pF H hx57 fun h78 H => ?_
   refine KcF h78 ?_
   have h80 := not_false h78
   refine KS ?_
   refine Oq Vadd (Oq Vm (KS ?_))
   refine pC H hx57 fun hc82 H => ?_
   exact Kg (r66, (v54_48 + 1)) [2, 3, 4, 5, 6] ⟨H, aM1, aM1, aM1, aM1⟩
  intro h64
  have g83 := df h64
  obtain rfl : r47 = 0 := by omega
  have H := hM49; rw [gh_Valid_L1] at H
  refine Ke ?_
  have H := llB H HL58
  refine KS ?_
  refine Oq Vadd (Oq Vm (KS ?_))
  refine pC H hx34 fun hc84 H => ?_
  exact Kg (r41, (v47_26 + 1)) [1, 2, 3, 4] ⟨H, aM1, aM1, aM1, aM1⟩
 intro h39
 have g85 := df h39
 obtain rfl : r25 = 0 := by omega
 have H := hM27; rw [gh_Valid_L0] at H
 refine Ke ?_
 have H := llB H HL35
 refine KS ?_
 refine Oq Va (KS ?_)
 have hq := rI H; subst hq
 exact Kr () rfl (.tmp rfl .nil) [] trivial
theorem fn20 (g : GGraph) (ga0 : Option Addr) (gk0 : Nat) (ga1 : Option Addr) (gk1 : Nat) (ga2 : Option Addr) (gk2 : Nat) (rr : Int) (hrr : gh_Edges g = .ret rr) : FT Tryz.prog 20 #[.agg #[vl ga0 gk0 g.Nodes, vl ga1 gk1 g.Succ, vl ga2 gk2 g.Pred]] [S ga0 gk0 g.Nodes, S ga1 gk1 g.Succ, S ga2 gk2 g.Pred] (fun g : Unit => i64ok rr) (fun g => vi rr) (fun g => []) := by
 refine FTi Tryz.func20 fun w0 M0 F0 => Fb 32 0 fun _ => Fb 24 1 fun _ => Fb 24 2 fun _ => ?_
 have hx0 := lrn rr; have H := hrr; unfold gh_Edges at H
 refine KS ?_
 refine Oa (Ab [vl ga0 gk0 g.Nodes, vl ga1 gk1 g.Succ, vl ga2 gk2 g.Pred]) fun p4 => Oq Va (KS ?_)
 refine Oq (VldA sh51 0) ?_
 refine lbH H hx0 fun rv5 hg6 H => ?_
 have hc7 := fn37 g ga0 gk0 ga1 gk1 ga2 gk2 rv5 hg6
 refine Oc [1, 2, 3] ca37 hc7 ?_
 rintro - -
 refine Oq Vnot (KS ?_)
 refine pF H hx0 fun h8 H => ?_
 refine KcF h8 ?_
 have h10 := not_false h8
 refine KS ?_
 refine Oq (Vfa fo51_1 0) (Oq (VldF sh49 0) ?_)
 refine lbH H hx0 fun rv12 hg13 H => ?_
 have hc14 := fn38 g.Succ ga1 gk1 rv12 hg13
 refine Oc [2] ca38 hc14 ?_
 rintro - he15
 unfold i64ok at he15
 refine Oq Va (KS ?_)
 have hq := rI H; subst hq
 exact Kr () rfl (.tmp rfl .nil) [] en
theorem fn9O (kwLA : Option Addr) (kwLK : Nat) (rr : Bool) (hrr : w8_saneO = .ret rr) : FT Tryz.prog 9 #[] [pv (gp 0) [vl kwLA kwLK kwL], S kwLA kwLK kwL] (fun g : Unit => True) (fun g => vb rr) (fun g => []) := by
 refine FTi Tryz.func9 fun w0 M0 F0 => Fb 16 1 fun _ => ?_
 refine FoS 1 fun ho2 => ?_
 have hx0 := lrn rr; have H := hrr; unfold w8_saneO at H
 refine KS ?_
 refine Oq Va (KS ?_)
 refine lbH H hx0 fun rv4 hg5 H => ?_
 have hc6 := fn18 ((Str.mk [102, 117, 110, 99, 32, 109, 59, 32, 98, 108, 111, 99, 107, 32, 98, 59, 32, 98, 114, 97, 110, 99, 104, 32, 120, 32, 98, 32, 98, 59, 32, 101, 110, 100])) pre rv4 hg5
 refine Oc [] ca18 hc6 ?_
 rintro c3 ⟨he7, he8, he9⟩
 unfold i64ok at he7 he8 he9
 refine Jo 0 ?_; rintro a10 k11 rfl
 refine Fb 40 0 fun _ => ?_
 refine Oq Vm (Oq Vx (Oq Vx (Oq Vx (Oq Vx (Oa (Al ze25 [.slice none 0 0]) fun p13 => Ost (Scl [0] sh25 [vl a10 k11 rv4.1.Funcs]) (Oq Va (Oq Va (Oq Va ?_))))))))
 refine KS ?_
 refine Oq (VldA sh25 0) ?_
 refine pC H hx0 fun hc14 H => ?_
 refine lvH H fun rv18 hg19 H => ?_
 have hc20 := fn14 rv4.1 a10 k11 kwLA kwLK hc14 rv18 hg19
 refine Oc [1, 2, 3] ca14 hc20 ?_
 rintro ⟨c15, c16, c17⟩ ⟨he21, he22⟩
 unfold i64ok at he21
 refine Jo 0 ?_; rintro a23 k24 rfl
 refine Fb 32 0 fun _ => ?_
 refine Jo 1 ?_; rintro a26 k27 rfl
 refine Fb 24 1 fun _ => ?_
 refine Jo 2 ?_; rintro a29 k30 rfl
 refine Fb 24 2 fun _ => ?_
 refine Oq Vm (Oq Vx (Oq Vx (Oa (Al ze51 [.slice none 0 0, .slice none 0 0, .slice none 0 0]) fun p32 => Ost (Scl [0] sh51 [vl a23 k24 rv18.1.Nodes, vl a26 k27 rv18.1.Succ, vl a29 k30 rv18.1.Pred]) (Oq Va (KS ?_)))))
 refine Oq Vm (Oq Veql (Oq Vm ?_))
 refine pT H hx0 fun h33 H => ?_
 refine JsT 20 h33 ?_
 have g34 := eq_of_beq h33
 refine Oq (Vfa fo51_1 0) (Oq (VldF sh49 0) (Oq (Vlen sl49) (Oq Veql (Oq Vpt (Oq Vm ?_)))))
 refine pT H hx0 fun h35 H => ?_
 refine JsT 26 h35 ?_
 have g36 := eq_of_beq h35
 refine Oq (Vfa fo51_1 0) (Oq (VldF sh49 0) ?_)
 refine pC H hx0 fun hc37 H => ?_
 refine Oq (Vi sl49 2) ?_
 refine JJ_peekL (0 : Int).toNat 2 rfl rng fun a38 k39 => ?_
 refine Fb 8 1 fun _ => Fo 1 fun ho41 => ?_
 refine Oq (Vld sh22 0) (Oa (AsV sl22 sz22 [vi 1] [vi 1]) fun c42 => ?_)
 refine Jo 0 ?_; rintro a43 k44 rfl
 refine Jl [0] (Ent.crInt _ [1] _ _ rfl rfl (by intro x hx; rw [List.mem_singleton] at hx; subst hx; unfold i64ok; omega) aB1) ?_
 refine pC H hx0 fun hc47 H => ?_
 refine lvH H fun rv45 hg46 H => ?_
 refine Oc [0, 1] ca19 (FT_borrow (A := _) (fun _ _ h => by cases h) (FT_ent (Ent.take (is := [1, 0]) rfl) (fn19 ((rv18.1.Succ.getD (0 : Int).toNat [])) a38 k39 ([1]) a43 k44 rv45 hg46))) ?_ (ht := rfl)
 rintro - -
 refine Oq Vpt (Oq Vm ?_)
 refine pT H hx0 fun h48 H => ?_
 refine JsT 34 h48 ?_
 refine Oq (Vfa fo51_1 3) (Oq (VldF sh49 3) ?_)
 refine pC H hx0 fun hc50 H => ?_
 refine Oq (Vi sl49 5) ?_
 refine JJ_peekL (1 : Int).toNat 5 rfl rng fun a51 k52 => ?_
 refine Fb 8 1 fun _ => Fo 1 fun ho54 => ?_
 refine Oq (Vld sh22 0) (Oa (AsV sl22 sz22 [vi 1] [vi 1]) fun c55 => ?_)
 refine Jo 0 ?_; rintro a56 k57 rfl
 refine Jl [0] (Ent.crInt _ [1] _ _ rfl rfl (by intro x hx; rw [List.mem_singleton] at hx; subst hx; unfold i64ok; omega) aB1) ?_
 refine pC H hx0 fun hc60 H => ?_
 refine lvH H fun rv58 hg59 H => ?_
 refine Oc [0, 1] ca19 (FT_borrow (A := _) (fun _ _ h => by cases h) (FT_ent (Ent.take (is := [1, 0]) rfl) (fn19 ((rv18.1.Succ.getD (1 : Int).toNat [])) a51 k52 ([1]) a56 k57 rv58 hg59))) ?_ (ht := rfl)
 rintro - -
 refine Oq Vpt (Oq Vm ?_)
 refine pT H hx0 fun h61 H => ?_
 refine JsT 42 h61 ?_
 refine Oq (Vfa fo51_1 6) (Oq (VldF sh49 6) ?_)
 refine pC H hx0 fun hc63 H => ?_
 refine Oq (Vi sl49 8) ?_
 refine JJ_peekL (2 : Int).toNat 8 rfl rng fun a64 k65 => ?_
 refine Fb 8 1 fun _ => Fo 1 fun ho67 => ?_
 refine Oq (Vld sh22 0) (Oq (Vlen sl22) (Oq Veql (Oq Vpt (Oq Vm ?_))))
 refine pC H hx0 fun hc69 H => ?_
 refine pT H hx0 fun h68 H => ?_
 refine JsT 50 h68 ?_
 have g70 := eq_of_beq h68
 refine Oq (Vfa fo51_2 8) (Oq (VldF sh49 8) ?_)
 refine pC H hx0 fun hc71 H => ?_
 refine Oq (Vi sl49 11) ?_
 refine JJ_peekL (1 : Int).toNat 11 rfl rng fun a72 k73 => ?_
 refine Fb 8 1 fun _ => Fo 1 fun ho75 => ?_
 refine Oq (Vld sh22 0) (Oa (AsV sl22 sz22 [vi 0, vi 1] [vi 0, vi 1]) fun c76 => ?_)
 refine Jo 0 ?_; rintro a77 k78 rfl
 refine Jl [0] (Ent.crInt _ [0, 1] _ _ rfl rfl (by intro x hx; simp only [List.mem_cons, List.not_mem_nil, or_false] at hx; rcases hx with rfl | rfl <;> (unfold i64ok; omega)) aB1) ?_
 refine pC H hx0 fun hc81 H => ?_
 refine lvH H fun rv79 hg80 H => ?_
 refine Oc [0, 1] ca19 (FT_borrow (A := _) (fun _ _ h => by cases h) (FT_ent (Ent.take (is := [1, 0]) rfl) (fn19 ((rv18.1.Pred.getD (1 : Int).toNat [])) a72 k73 ([0, 1]) a77 k78 rv79 hg80))) ?_ (ht := rfl)
 rintro - -
 refine Oq Vpt (Oq Vm ?_)
 refine pT H hx0 fun h82 H => ?_
 refine JsT 58 h82 ?_
 refine Oq (VldA sh51 11) ?_
 refine lbH H hx0 fun rv84 hg85 H => ?_
 have hc86 := fn20 rv18.1 a23 k24 a26 k27 a29 k30 rv84 hg85
 refine Oc [12, 13, 14] ca20 hc86 ?_
 rintro - he87
 unfold i64ok at he87
 refine Oq Veql (Oq Vpt (Oq Va (KS ?_)))
 have hq := rI H; subst hq
 exact Kr () rfl (.tmp rfl .nil) [] trivial
theorem w8_sane_c : w8_saneO = .ret true := by kernel_rfl
theorem fn9 (kwLA : Option Addr) (kwLK : Nat) (rr : Bool) (hrr : w8_sane = rr) : FT Tryz.prog 9 #[] [pv (gp 0) [vl kwLA kwLK kwL], S kwLA kwLK kwL] (fun g : Unit => True) (fun g => vb rr) (fun g => []) := by
 subst hrr; exact fn9O kwLA kwLK true w8_sane_c
theorem fn3 (t : List Int) (ta0 : Option Addr) (tk0 : Nat) (p : GProgram) (pa0 : Option Addr) (pk0 : Nat) (kwLA : Option Addr) (kwLK : Nat) (hps : PSm p = true) (rr : Bool) (hrr : w8_GraphBuilds t p = rr) : FT Tryz.prog 3 #[vl ta0 tk0 t, .agg #[vl pa0 pk0 p.Funcs]] [S ta0 tk0 t, S pa0 pk0 p.Funcs, pv (gp 0) [vl kwLA kwLK kwL], S kwLA kwLK kwL] (fun g : Unit => True) (fun g => vb rr) (fun g => []) := by
 refine FTi Tryz.func3 fun w0 M0 F0 => Fb 8 0 fun _ => Fo 0 fun ho2 => Fb 40 1 fun _ => Fb 16 3 fun _ => ?_
 refine FoS 3 fun ho5 => ?_
 refine KS ?_
 refine Oa (Ab [vl pa0 pk0 p.Funcs]) fun p6 => Oq Va (KS ?_)
 refine Oq Vm ?_
 refine letv (g_New t) fun rv8 hg9 => ?_
 have hc10 := fn4 t ta0 tk0 rv8 hg9
 refine Oc [1] ca4 hc10 ?_
 rintro c7 -
 refine Oq Va (KS ?_)
 refine Oq Va (KS ?_)
 refine Kl (γ := Nat × Int × Int) (fun (r11, k1_12, i_13) => ⟨[(3, p6), (5, c7), (6, vi i_13)], [Cl c7 [vl ta0 tk0 t, vi k1_12], pv p6 [vl pa0 pk0 p.Funcs], S ta0 tk0 t, S pa0 pk0 p.Funcs, pv (gp 0) [vl kwLA kwLK kwL], S kwLA kwLK kwL], w8_GraphBuilds_L0 t r11 k1_12 i_13 = w8_GraphBuilds_L0 t 4 0 0 ∧ r11 = ((4 : Int) - i_13).toNat ∧ (0 : Int) ≤ i_13 ∧ i_13 ≤ 4 ∧ (-9223372036854775808 ≤ k1_12 ∧ k1_12 ≤ 9223372036854775807) ∧ (0 ≤ k1_12 ∧ k1_12 ≤ (t.length : Int)) ∧ (-9223372036854775808 ≤ i_13 ∧ i_13 ≤ 9223372036854775807), r11⟩) (4, 0, 0) [0, 0, 1, 2, 3, 4] ⟨rfl, rfl, aM1, aM1, aM1, aM1, aM1⟩ ?_
 rintro ⟨r11, k1_12, i_13⟩ ⟨hM14, hr15, hi16, hi17, hk18, ht19, hk20⟩
 refine JJ_nx fun _ _ hL hA => ?_; dsimp only at hL hA; subst hL hA
 refine Fb 8 2 fun _ => Fo 2 fun ho22 => Fb 40 3 fun _ => Fb 16 5 fun _ => ?_
 refine FoS 5 fun ho25 => ?_
 refine KS ?_
 refine Oq Vm (Oq Vlss (KS ?_))
 refine Kc ?_ ?_
 ·intro h26
  have g27 := dt h26
  obtain ⟨r28, rfl⟩ := scc (n := r11) aM1
  refine KS ?_
  refine Oq Vm ?_
  refine letv (tp_Program t k1_12) fun rv30 hg31 => ?_
  have hc32 := fn5 c7 ta0 tk0 t k1_12 pre rv30 hg31
  refine Oc [0, 1] ca5 hc32 ?_
  rintro c29 he33
  refine Jo 0 ?_; rintro a34 k35 rfl
  refine Fb 40 0 fun _ => ?_
  refine Oa (Al ze25 [.slice none 0 0]) fun p37 => Ost (Scl [0] sh25 [vl a34 k35 rv30.1.Funcs]) (KS ?_)
  refine Oq (VldA sh25 0) ?_
  refine letv (w8_builds rv30.1) fun rv38 hg39 => ?_
  have hc40 := fn6 rv30.1 a34 k35 kwLA kwLK (by first | assumption | exact Spoil_PSm (by assumption) (Program_SpP (by assumption)) | exact SpP_PSm (Program_SpP (by assumption))) rv38 hg39
  refine Oc [1, 6, 7] ca6 hc40 ?_
  rintro - -
  refine Oq Vnot (Oq Vm ?_)
  refine Js 19 ?_ ?_
  ·intro h41
   have h43 := not_true h41
   exact absurd h41 (by rw [← ‹w8_builds _ = rv38›, builds_true]; decide)
  intro h41
  have h46 := not_false h41
  refine Oq Vm (Oq (VldA sh25 0) ?_)
  refine letv (tp_SpoilProgram t rv30.2 rv30.1) fun rv49 hg50 => ?_
  have hc51 := fn7 c7 ta0 tk0 t rv30.2 rv30.1 a34 k35 pre (Program_SpP (by assumption)) rv49 hg50
  refine Oc [2, 3, 1] ca7 hc51 ?_
  rintro c48 he52
  refine Jo 0 ?_; rintro a53 k54 rfl
  refine Fb 40 0 fun _ => ?_
  refine letv (w8_builds rv49.1) fun rv56 hg57 => ?_
  have hc58 := fn6 rv49.1 a53 k54 kwLA kwLK (by first | assumption | exact Spoil_PSm (by assumption) (Program_SpP (by assumption)) | exact SpP_PSm (Program_SpP (by assumption))) rv56 hg57
  refine Oc [0, 7, 8] ca6 hc58 ?_
  rintro - -
  refine Oq Vnot (Oq Vpf (KS ?_))
  refine Kc ?_ ?_
  ·intro h59
   have h61 := not_true h59
   exact absurd h59 (by rw [← ‹w8_builds _ = rv56›, builds_true]; decide)
  intro h59
  have h64 := not_false h59
  refine KS ?_
  refine Oq Vm (Oq Vadd (Oq Va (KS ?_)))
  exact Kg (r28, rv49.2, (i_13 + 1)) [1, 3, 4, 5, 6, 7] ⟨(q3 hM14 (by simp only [w8_GraphBuilds_L0, h26, h41, h46, h59, h64, hg31, hg39, hg50, hg57, cs4])), aM1, aM1, aM1, aM1, aM1, aM1⟩
 intro h26
 have g66 := df h26
 obtain rfl : r11 = 0 := by omega
 refine Ke ?_
 have hR67 := q2 hM14 () (by simp only [w8_GraphBuilds_L0, h26, cs4])
 refine KS ?_
 refine Oq (VldA sh25 1) ?_
 refine letv (g_HugeProgram p) fun rv68 hg69 => ?_
 have hc70 := fn8 p pa0 pk0 rv68 hg69
 refine Oc [3] ca8 hc70 ?_
 rintro - -
 refine Oq Vm ?_
 refine Js 28 ?_ ?_
 ·intro h71
  refine Osk (Osk (Osk (Osk (Osk (Oq Vpt (Oq Va (KS ?_)))))))
  have hq := q4 hrr true (by unfold w8_GraphBuilds; simp only [h26, h71, hg9, hR67, hg69, cs4]); subst hq
  exact Kr () rfl (.tmp rfl .nil) [] trivial
 intro h71
 refine Oq (VldA sh25 1) ?_
 refine letv (w8_builds p) fun rv74 hg75 => ?_
 have hc76 := fn6 p pa0 pk0 kwLA kwLK (by first | assumption | exact Spoil_PSm (by assumption) (Program_SpP (by assumption)) | exact SpP_PSm (Program_SpP (by assumption))) rv74 hg75
 refine Oc [3, 4, 5] ca6 hc76 ?_
 rintro - -
 refine Oq Vm ?_
 refine Js 31 ?_ ?_
 ·intro h77
  have hc79 := fn9 kwLA kwLK w8_sane rfl
  refine Oc [4, 5] ca9 hc79 ?_
  rintro - -
  refine Oq Vpt (Oq Vpf (Oq Va (KS ?_)))
  have hq := q4 hrr w8_sane (by unfold w8_GraphBuilds; simp only [h26, h71, h77, hg9, hR67, hg69, hg75, cs4]); subst hq
  exact Kr () rfl (.tmp rfl .nil) [] trivial
 intro h77
 refine Osk (Oq Vpf (Oq Vpf (Oq Va (KS ?_))))
 have hq := q4 hrr false (by unfold w8_GraphBuilds; simp only [h26, h71, h77, hg9, hR67, hg69, hg75, cs4]); subst hq
 exact Kr () rfl (.tmp rfl .nil) [] trivial
end Go.SL.G
