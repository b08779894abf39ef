/- Part 3 of the walks: mirrors, plain laws and walks used by the last text of this claim. -/
import Derived.Test.YtcoflgblhhohdaaDoorW2
import Derived.Test.YtcoflgblhhohdaaDoorProg
set_option linter.unusedVariables false
set_option linter.unusedSimpArgs false
namespace Go.SL.G
open Go Go.SL Go.Proofs
set_option maxHeartbeats 20000000
set_option maxRecDepth 100000
theorem fn11 (p : GProgram) (pa0 : Option Addr) (pk0 : Nat) (hsm : SmP p) (rr : GProgram) (hrr : flqlaw6_renamed p = rr) : FT Tryd.prog 11 #[.agg #[vl pa0 pk0 p.Funcs]] [S pa0 pk0 p.Funcs] (fun g : Value => True) (fun g => .agg #[g]) (fun g => [sl g rr.Funcs]) := by
 refine FTi Tryd.func11 fun w0 M0 F0 => ?_
 refine Fb 40 0 fun hl1 => ?_
 refine KS ?_
 refine Oa (Ab [vl pa0 pk0 p.Funcs]) fun p2 => Oa (Al ze27 [.slice none 0 0]) fun p3 => KS ?_
 refine Oq (VldA sh27 1) ?_
 refine letv (flqgen_CopyProgram p) fun rv5 hg6 => ?_
 have hc7 := fn23 p pa0 pk0 rv5 hg6
 refine Oc [2] ca23 hc7 ?_
 rintro c4 -
 refine Jo 0 ?_; rintro a8 k9 rfl
 refine FbD 40 0 fun hl10 => ?_
 refine Oa (Al ze27 [.slice none 0 0]) fun p11 => Ost (Scl [0] sh27 [vl a8 k9 rv5.Funcs]) (KS ?_)
 refine Oq Va (KS ?_)
 have hterm21 : flqlaw6_renamed_L0 (rv5.Funcs.length + 1) rv5.Funcs 0 ≠ LR.oof := (ren_t0 _ _ _ (by omega) (by omega))
 refine Kl (γ := Nat × List GFunc × Int × Option Addr × Nat) (fun (r12, q0_13, i_14, a15, k16) => ⟨[(2, p3), (3, p11), (4, vi i_14)], [D a15 k16 q0_13, Cl p11 [vl a15 k16 q0_13], Cl p3 [.slice none 0 0]], flqlaw6_renamed_L0 r12 q0_13 i_14 = flqlaw6_renamed_L0 (rv5.Funcs.length + 1) rv5.Funcs 0 ∧ (-9223372036854775808 ≤ i_14 ∧ i_14 ≤ 9223372036854775807) ∧ SmT SmF q0_13 i_14 ∧ (0 ≤ i_14), r12⟩) ((rv5.Funcs.length + 1), rv5.Funcs, 0, a8, k9) [1, 0, 0] ⟨rfl, (by omega), (SmP_copy hsm (by assumption)), iv0⟩ ?_
 rintro ⟨r12, q0_13, i_14, a15, k16⟩ ⟨hM17, hk18, hv19, hv20⟩
 refine JJ_nx fun _ _ hL hA => ?_; dsimp only at hL hA; subst hL hA
 refine FbD 40 0 fun hl22 => ?_
 rcases r12 with _ | r12
 · exact absurd (hM17.symm.trans rfl) hterm21
 refine KS ?_
 refine Oq Vm (Oq (Vfa fo27_0 1) (Oq (VldF sh25 1) (Oq (Vlen sl25) (Oq Vlss (KS ?_)))))
 refine Kc ?_ ?_
 · intro h23
   have g24 := of_decide_eq_true h23
   have hz0 := SmT_at (P := SmF) (i := i_14) (by assumption) (by omega)
   obtain ⟨hz1, hz2⟩ := hz0
   refine KS ?_
   refine Oq (Vfa fo27_0 1) (Oq (VldF sh25 1) (Oq Vm (Oq (Vi sl25 0) ?_)))
   refine JJ_openD_GFunc i_14.toNat 0 rfl rng fun a25 k26 hb27 => ?_
   refine FbD 40 1 fun hl28 => ?_
   refine Oq (Vfa fo45_0 0) (Oq (VldF sh9 0) ?_)
   have hb29 := sadd_len ((q0_13.getD i_14.toNat default).Name) (Str.mk [95, 102])
   have hb30 : (Str.mk [95, 102]).b.length = 2 := rfl
   refine Oq (VadS (l := (q0_13.getD i_14.toNat default).Name) (m := (Str.mk [95, 102]))) (Oq (Vi sl25 0) (Oq (Vfa fo45_0 0) (Ost (SoH (α := GFunc) [0] sh9 [.string (bs ((q0_13.getD i_14.toNat default).Name ++ (Str.mk [95, 102]))), vl a25 k26 ((q0_13.getD i_14.toNat default).Blocks)]) (KS ?_))))
   refine Oq Va (KS ?_)
   refine Jl [0, 0] (Ent.closeD (A := [D a25 k26 ((q0_13.getD i_14.toNat default).Blocks)]) _ _ _ _ (GFunc.mk ((q0_13.getD i_14.toNat default).Name ++ (Str.mk [95, 102])) ((q0_13.getD i_14.toNat default).Blocks)) (innmk_GFunc (z0 := ((q0_13.getD i_14.toNat default).Name ++ (Str.mk [95, 102]))) (by first | omega | (unfold i64ok; omega) | (simp only [lens]; omega)))) ?_
   have hterm39 : flqlaw6_renamed_L1 i_14 (((q0_13.set i_14.toNat (GFunc.mk ((q0_13.getD i_14.toNat default).Name ++ (Str.mk [95, 102])) ((q0_13.getD i_14.toNat default).Blocks))).getD i_14.toNat default).Blocks.length + 1) (q0_13.set i_14.toNat (GFunc.mk ((q0_13.getD i_14.toNat default).Name ++ (Str.mk [95, 102])) ((q0_13.getD i_14.toNat default).Blocks))) 0 ≠ LR.oof := (ren_ne1 (by omega) (by omega))
   refine Kl (γ := Nat × List GFunc × Int) (fun (r31, q0_32, k_33) => ⟨[(2, p3), (3, p11), (4, vi i_14), (5, vi k_33)], [ds (vl a15 k16 q0_13) q0_32, Cl p11 [vl a15 k16 q0_13], Cl p3 [.slice none 0 0]], flqlaw6_renamed_L1 i_14 r31 q0_32 k_33 = flqlaw6_renamed_L1 i_14 (((q0_13.set i_14.toNat (GFunc.mk ((q0_13.getD i_14.toNat default).Name ++ (Str.mk [95, 102])) ((q0_13.getD i_14.toNat default).Blocks))).getD i_14.toNat default).Blocks.length + 1) (q0_13.set i_14.toNat (GFunc.mk ((q0_13.getD i_14.toNat default).Name ++ (Str.mk [95, 102])) ((q0_13.getD i_14.toNat default).Blocks))) 0 ∧ (-9223372036854775808 ≤ k_33 ∧ k_33 ≤ 9223372036854775807) ∧ SmT SmF q0_32 (i_14 + 1) ∧ SmT SmB ((q0_32.getD i_14.toNat default).Blocks) k_33 ∧ (0 ≤ i_14 ∧ i_14 < (q0_32.length : Int) ∧ 0 ≤ k_33), r31⟩) ((((q0_13.set i_14.toNat (GFunc.mk ((q0_13.getD i_14.toNat default).Name ++ (Str.mk [95, 102])) ((q0_13.getD i_14.toNat default).Blocks))).getD i_14.toNat default).Blocks.length + 1), (q0_13.set i_14.toNat (GFunc.mk ((q0_13.getD i_14.toNat default).Name ++ (Str.mk [95, 102])) ((q0_13.getD i_14.toNat default).Blocks))), 0) [0, 0, 0] ⟨rfl, (by omega), (SmT_s1 (by assumption) (by omega)), (SmT_b0 (by assumption) (by omega)), (by rw [List.length_set]; omega)⟩ ?_
   rintro ⟨r31, q0_32, k_33⟩ ⟨hM34, hk35, hv36, hv37, hv38⟩
   refine JJ_nx fun _ _ hL hA => ?_; dsimp only at hL hA; subst hL hA
   refine FbD 40 0 fun hl40 => ?_
   refine FlD 0 fun hn41 => ?_
   rcases r31 with _ | r31
   · exact absurd (hM34.symm.trans rfl) hterm39
   refine KS ?_
   refine Oq Vm (Oq (Vfa fo27_0 1) (Oq (VldF sh25 1) (Oq Vm (Oq (Vi sl25 0) ?_))))
   refine JJ_openD_GFunc i_14.toNat 0 rfl rng fun a42 k43 hb44 => ?_
   refine FbD 40 1 fun hl45 => ?_
   refine Oq (Vfa fo45_1 0) (Oq (VldF sh43 0) (Oq (Vlen sl43) (Oq Vlss (KS ?_))))
   refine Kc ?_ ?_
   · intro h46
     have g47 := of_decide_eq_true h46
     have hz0 := SmT_at (P := SmB) (i := k_33) (by assumption) (by omega)
     obtain ⟨hz3, hz4⟩ := hz0
     refine KS ?_
     refine Oq (Vfa fo27_0 2) (Oq (VldF sh25 2) (Oq Vm (Oq (Vi sl25 0) (Oq (Vfa fo45_1 0) (Oq (VldF sh43 0) (Oq Vm (Oq (Vi sl43 1) (Oq Va (KS ?_)))))))))
     refine Oq Vm ?_
     refine JJ_openD_GBlock k_33.toNat 1 rfl rng fun a48 k49 hb50 => ?_
     refine FbD 72 1 fun hl51 => ?_
     refine Oq (Vn 0) (Oq (Vfa fo49_0 0) (Oq (VldF sh9 0) ?_))
     have hb52 := sadd_len ((((q0_32.getD i_14.toNat default).Blocks).getD k_33.toNat default).Name) (Str.mk [95, 98])
     have hb53 : (Str.mk [95, 98]).b.length = 2 := rfl
     refine Oq (VadS (l := (((q0_32.getD i_14.toNat default).Blocks).getD k_33.toNat default).Name) (m := (Str.mk [95, 98]))) (Oq (Vn 0) (Oq (Vfa fo49_0 0) (Ost (SoH (α := GBlock) [0] sh9 [.string (bs ((((q0_32.getD i_14.toNat default).Blocks).getD k_33.toNat default).Name ++ (Str.mk [95, 98]))), .slice a48 (((((q0_32.getD i_14.toNat default).Blocks).getD k_33.toNat default).Stmts).length) k49]) (KS ?_))))
     refine Oq Va (KS ?_)
     refine Kl (γ := Nat × List GStmt × Int) (fun (r54, b1_55, j_56) => ⟨[(2, p3), (3, p11), (4, vi i_14), (5, vi k_33), (6, (eptr 2 (vl a42 k43 ((q0_32.getD i_14.toNat default).Blocks)) k_33.toNat)), (7, vi j_56)], [dh (vl a42 k43 ((q0_32.getD i_14.toNat default).Blocks)) ((q0_32.getD i_14.toNat default).Blocks : List GBlock) k_33.toNat [.string (bs ((((q0_32.getD i_14.toNat default).Blocks).getD k_33.toNat default).Name ++ (Str.mk [95, 98]))), .slice a48 (((((q0_32.getD i_14.toNat default).Blocks).getD k_33.toNat default).Stmts).length) k49], ds (.slice a48 (((((q0_32.getD i_14.toNat default).Blocks).getD k_33.toNat default).Stmts).length) k49) b1_55, dh (vl a15 k16 q0_13) (q0_32 : List GFunc) i_14.toNat [.string (bs ((q0_32.getD i_14.toNat default).Name)), vl a42 k43 ((q0_32.getD i_14.toNat default).Blocks)], Cl p11 [vl a15 k16 q0_13], Cl p3 [.slice none 0 0]], flqlaw6_renamed_L2 r54 b1_55 j_56 = flqlaw6_renamed_L2 ((((((((q0_32.getD i_14.toNat default).Blocks).getD k_33.toNat default).Stmts).length : Int) : Int) - 0).toNat) ((((q0_32.getD i_14.toNat default).Blocks).getD k_33.toNat default).Stmts) 0 ∧ r54 = (((((((q0_32.getD i_14.toNat default).Blocks).getD k_33.toNat default).Stmts).length : Int) : Int) - j_56).toNat ∧ (0 : Int) ≤ j_56 ∧ (j_56 ≤ (((((q0_32.getD i_14.toNat default).Blocks).getD k_33.toNat default).Stmts).length : Int) ∨ j_56 = 0) ∧ (-9223372036854775808 ≤ j_56 ∧ j_56 ≤ 9223372036854775807) ∧ SmT SmS b1_55 j_56, r54⟩) ((((((((q0_32.getD i_14.toNat default).Blocks).getD k_33.toNat default).Stmts).length : Int) : Int) - 0).toNat, (((q0_32.getD i_14.toNat default).Blocks).getD k_33.toNat default).Stmts, 0) [0, 0, 0, 0, 0] ⟨rfl, rfl, (by omega), (.inr rfl), (by omega), hz4⟩ ?_
     rintro ⟨r54, b1_55, j_56⟩ ⟨hM57, hr58, hi59, hi60, hk61, hv62⟩
     refine JJ_nx fun _ _ hL hA => ?_; dsimp only at hL hA; subst hL hA
     refine FbD 72 1 fun hl63 => ?_
     refine FlD 1 fun hn64 => ?_
     refine KS ?_
     refine Oq Vm (Oq Vm (Oq (Vn 0) (Oq (Vfa fo49_1 0) (Oq (VldF sh47 0) (Oq (Vlen sl47) (Oq Vlss (KS ?_)))))))
     refine Kc ?_ ?_
     · intro h65
       have g66 := of_decide_eq_true h65
       have hz0 := SmT_at (P := SmS) (i := j_56) (by assumption) (by omega)
       obtain ⟨hz5, hz6, hz7⟩ := hz0
       obtain ⟨r67, rfl⟩ := scc (n := r54) (by omega)
       refine KS ?_
       refine Oq Vm (Oq (Vn 0) (Oq (Vfa fo49_1 0) (Oq (VldF sh47 0) (Oq Vm (Oq (Vi sl47 1) (Oq Va (KS ?_)))))))
       refine Oq Vm ?_
       refine JJ_openD_GStmt j_56.toNat 1 rfl rng fun a68 k69 a70 k71 hb72 hb73 => ?_
       unfold i64ok at hb72
       refine Fb 16 1 fun hl74 => ?_
       refine FoS 1 fun ho75 => ?_
       refine Fb 16 2 fun hl76 => ?_
       refine FoS 2 fun ho77 => ?_
       refine Oq (Vn 0) (Oq (Vfa fo51_1 0) (Oq (VldF sh9 0) (Oq (VneS (l := (b1_55.getD j_56.toNat default).Def) (m := (Str.mk []))) (KS ?_))))
       refine Kc ?_ ?_
       · intro h78
         have g79 := ne_of_bne h78
         refine KS ?_
         refine Oq Vm (Oq (Vn 0) (Oq (Vfa fo51_1 0) (Oq (VldF sh9 0) ?_)))
         have hb80 := sadd_len ((b1_55.getD j_56.toNat default).Def) (Str.mk [95, 118])
         have hb81 : (Str.mk [95, 118]).b.length = 2 := rfl
         refine Oq (VadS (l := (b1_55.getD j_56.toNat default).Def) (m := (Str.mk [95, 118]))) (Oq (Vn 0) (Oq (Vfa fo51_1 0) (Ost (SoH (α := GStmt) [0] sh9 [vi ((b1_55.getD j_56.toNat default).Op), .string (bs ((b1_55.getD j_56.toNat default).Def ++ (Str.mk [95, 118]))), vl a68 k69 ((b1_55.getD j_56.toNat default).Uses), vl a70 k71 ((b1_55.getD j_56.toNat default).Targets)]) (KS ?_))))
         refine Oq Va (KS ?_)
         refine Kl (γ := Nat × List Str × Int) (fun (r82, s2_83, u_84) => ⟨[(2, p3), (3, p11), (4, vi i_14), (5, vi k_33), (6, (eptr 2 (vl a42 k43 ((q0_32.getD i_14.toNat default).Blocks)) k_33.toNat)), (7, vi j_56), (8, (eptr 4 (.slice a48 (((((q0_32.getD i_14.toNat default).Blocks).getD k_33.toNat default).Stmts).length) k49) j_56.toNat)), (9, vi u_84)], [dh (.slice a48 (((((q0_32.getD i_14.toNat default).Blocks).getD k_33.toNat default).Stmts).length) k49) (b1_55 : List GStmt) j_56.toNat [vi ((b1_55.getD j_56.toNat default).Op), .string (bs ((b1_55.getD j_56.toNat default).Def ++ (Str.mk [95, 118]))), vl a68 k69 ((b1_55.getD j_56.toNat default).Uses), vl a70 k71 ((b1_55.getD j_56.toNat default).Targets)], os (vl a68 k69 ((b1_55.getD j_56.toNat default).Uses)) s2_83, O a70 k71 ((b1_55.getD j_56.toNat default).Targets), dh (vl a42 k43 ((q0_32.getD i_14.toNat default).Blocks)) ((q0_32.getD i_14.toNat default).Blocks : List GBlock) k_33.toNat [.string (bs ((((q0_32.getD i_14.toNat default).Blocks).getD k_33.toNat default).Name ++ (Str.mk [95, 98]))), .slice a48 (((((q0_32.getD i_14.toNat default).Blocks).getD k_33.toNat default).Stmts).length) k49], dh (vl a15 k16 q0_13) (q0_32 : List GFunc) i_14.toNat [.string (bs ((q0_32.getD i_14.toNat default).Name)), vl a42 k43 ((q0_32.getD i_14.toNat default).Blocks)], Cl p11 [vl a15 k16 q0_13], Cl p3 [.slice none 0 0]], flqlaw6_renamed_L3 r82 s2_83 u_84 = flqlaw6_renamed_L3 ((((((b1_55.getD j_56.toNat default).Uses).length : Int) : Int) - 0).toNat) ((b1_55.getD j_56.toNat default).Uses) 0 ∧ r82 = (((((b1_55.getD j_56.toNat default).Uses).length : Int) : Int) - u_84).toNat ∧ (0 : Int) ≤ u_84 ∧ (u_84 ≤ (((b1_55.getD j_56.toNat default).Uses).length : Int) ∨ u_84 = 0) ∧ (-9223372036854775808 ≤ u_84 ∧ u_84 ≤ 9223372036854775807) ∧ SmT SmW s2_83 u_84, r82⟩) ((((((b1_55.getD j_56.toNat default).Uses).length : Int) : Int) - 0).toNat, (b1_55.getD j_56.toNat default).Uses, 0) [0, 0, 0, 0, 0, 0, 0] ⟨rfl, rfl, (by omega), (.inr rfl), (by omega), hz6⟩ ?_
         rintro ⟨r82, s2_83, u_84⟩ ⟨hM85, hr86, hi87, hi88, hk89, hv90⟩
         refine JJ_nx fun _ _ hL hA => ?_; dsimp only at hL hA; subst hL hA
         refine Fb 16 1 fun hl91 => ?_
         refine FoS 1 fun ho92 => ?_
         refine Fl 1 fun hn93 => ?_
         refine Fb 16 2 fun hl94 => ?_
         refine FoS 2 fun ho95 => ?_
         refine KS ?_
         refine Oq Vm (Oq Vm (Oq (Vn 0) (Oq (Vfa fo51_2 0) (Oq (VldF sh40 0) (Oq (Vlen sl40) (Oq Vlss (KS ?_)))))))
         refine Kc ?_ ?_
         · intro h96
           have g97 := of_decide_eq_true h96
           have hz0 := SmT_at (P := SmW) (i := u_84) (by assumption) (by omega)
           unfold SmW at hz0
           obtain ⟨r98, rfl⟩ := scc (n := r82) (by omega)
           refine KS ?_
           refine Oq Vm (Oq (Vn 0) (Oq (Vfa fo51_2 0) (Oq (VldF sh40 0) (Oq Vm (Oq (Vi sl40 1) ?_)))))
           have hb99 := okS (i := u_84.toNat) ho92 rng
           refine Oq (VldS sh9 1) ?_
           have hb100 := sadd_len (s2_83.getD u_84.toNat default) (Str.mk [95, 118])
           have hb101 : (Str.mk [95, 118]).b.length = 2 := rfl
           refine Oq (VadS (l := (s2_83.getD u_84.toNat default)) (m := (Str.mk [95, 118]))) (Oq (Vi sl40 1) ?_)
           refine Ost (So (Rs := []) [1] sh9 ((s2_83.getD u_84.toNat default) ++ (Str.mk [95, 118])) (fun _ => ⟨rfl, by first | omega | (simp; done) | (dsimp only; omega) | exact lit_bl rfl⟩)) (KS ?_)
           refine Oq Vm (Oq Vadd (Oq Va (KS ?_)))
           exact Kg (r98, (s2_83.set u_84.toNat ((s2_83.getD u_84.toNat default) ++ (Str.mk [95, 118]))), (u_84 + 1)) [1, 0, 0, 0, 0, 0, 0] ⟨(q3 hM85 (by simp only [flqlaw6_renamed_L3, h23, h46, h65, h78, h96, hg6, cs4])), (by omega), (by omega), (by omega), (by omega), (SmT_s1 (by assumption) (by omega))⟩
         intro h96
         have g102 := of_decide_eq_false h96
         obtain rfl : r82 = 0 := by omega
         refine Ke ?_
         have hR103 := q2 hM85 s2_83 (by simp only [flqlaw6_renamed_L3, h23, h46, h65, h78, h96, hg6, cs4])
         refine KS ?_
         refine Oq Va (KS ?_)
         refine Kl (γ := Nat × List Str × Int) (fun (r104, s3_105, u_106) => ⟨[(2, p3), (3, p11), (4, vi i_14), (5, vi k_33), (6, (eptr 2 (vl a42 k43 ((q0_32.getD i_14.toNat default).Blocks)) k_33.toNat)), (7, vi j_56), (8, (eptr 4 (.slice a48 (((((q0_32.getD i_14.toNat default).Blocks).getD k_33.toNat default).Stmts).length) k49) j_56.toNat)), (10, vi u_106)], [dh (.slice a48 (((((q0_32.getD i_14.toNat default).Blocks).getD k_33.toNat default).Stmts).length) k49) (b1_55 : List GStmt) j_56.toNat [vi ((b1_55.getD j_56.toNat default).Op), .string (bs ((b1_55.getD j_56.toNat default).Def ++ (Str.mk [95, 118]))), vl a68 k69 ((b1_55.getD j_56.toNat default).Uses), vl a70 k71 ((b1_55.getD j_56.toNat default).Targets)], os (vl a68 k69 ((b1_55.getD j_56.toNat default).Uses)) s2_83, os (vl a70 k71 ((b1_55.getD j_56.toNat default).Targets)) s3_105, dh (vl a42 k43 ((q0_32.getD i_14.toNat default).Blocks)) ((q0_32.getD i_14.toNat default).Blocks : List GBlock) k_33.toNat [.string (bs ((((q0_32.getD i_14.toNat default).Blocks).getD k_33.toNat default).Name ++ (Str.mk [95, 98]))), .slice a48 (((((q0_32.getD i_14.toNat default).Blocks).getD k_33.toNat default).Stmts).length) k49], dh (vl a15 k16 q0_13) (q0_32 : List GFunc) i_14.toNat [.string (bs ((q0_32.getD i_14.toNat default).Name)), vl a42 k43 ((q0_32.getD i_14.toNat default).Blocks)], Cl p11 [vl a15 k16 q0_13], Cl p3 [.slice none 0 0]], flqlaw6_renamed_L4 ((b1_55.getD j_56.toNat default).Op) r104 s3_105 u_106 = flqlaw6_renamed_L4 ((b1_55.getD j_56.toNat default).Op) ((((((b1_55.getD j_56.toNat default).Targets).length : Int) : Int) - 0).toNat) ((b1_55.getD j_56.toNat default).Targets) 0 ∧ r104 = (((((b1_55.getD j_56.toNat default).Targets).length : Int) : Int) - u_106).toNat ∧ (0 : Int) ≤ u_106 ∧ (u_106 ≤ (((b1_55.getD j_56.toNat default).Targets).length : Int) ∨ u_106 = 0) ∧ (-9223372036854775808 ≤ u_106 ∧ u_106 ≤ 9223372036854775807) ∧ SmT SmW s3_105 u_106, r104⟩) ((((((b1_55.getD j_56.toNat default).Targets).length : Int) : Int) - 0).toNat, (b1_55.getD j_56.toNat default).Targets, 0) [0, 0, 0, 0, 0, 0, 0] ⟨rfl, rfl, (by omega), (.inr rfl), (by omega), hz7⟩ ?_
         rintro ⟨r104, s3_105, u_106⟩ ⟨hM107, hr108, hi109, hi110, hk111, hv112⟩
         refine JJ_nx fun _ _ hL hA => ?_; dsimp only at hL hA; subst hL hA
         refine Fb 16 1 fun hl113 => ?_
         refine FoS 1 fun ho114 => ?_
         refine Fl 1 fun hn115 => ?_
         refine Fb 16 2 fun hl116 => ?_
         refine FoS 2 fun ho117 => ?_
         refine Fl 2 fun hn118 => ?_
         refine KS ?_
         refine Oq Vm (Oq Vm (Oq (Vn 0) (Oq (Vfa fo51_3 0) (Oq (VldF sh40 0) (Oq (Vlen sl40) (Oq Vlss (KS ?_)))))))
         refine Kc ?_ ?_
         · intro h119
           have g120 := of_decide_eq_true h119
           have hz0 := SmT_at (P := SmW) (i := u_106) (by assumption) (by omega)
           unfold SmW at hz0
           obtain ⟨r121, rfl⟩ := scc (n := r104) (by omega)
           refine KS ?_
           refine Oq Vm (Oq (Vn 0) (Oq (Vfa fo51_0 0) (Oq (VldF sh3 0) (Oq Veql (KS ?_)))))
           refine Kc ?_ ?_
           · intro h122
             have g123 := eq_of_beq h122
             refine KS ?_
             refine Oq Vm (Oq (Vn 0) (Oq (Vfa fo51_3 0) (Oq (VldF sh40 0) (Oq Vm (Oq (Vi sl40 2) ?_)))))
             have hb124 := okS (i := u_106.toNat) ho117 rng
             refine Oq (VldS sh9 2) ?_
             have hb125 := sadd_len (s3_105.getD u_106.toNat default) (Str.mk [95, 102])
             have hb126 : (Str.mk [95, 102]).b.length = 2 := rfl
             refine Oq (VadS (l := (s3_105.getD u_106.toNat default)) (m := (Str.mk [95, 102]))) (Oq (Vi sl40 2) ?_)
             refine Ost (So (Rs := []) [2] sh9 ((s3_105.getD u_106.toNat default) ++ (Str.mk [95, 102])) (fun _ => ⟨rfl, by first | omega | (simp; done) | (dsimp only; omega) | exact lit_bl rfl⟩)) (KS ?_)
             refine Oq Vm (Oq Vadd (Oq Va (KS ?_)))
             exact Kg (r121, (s3_105.set u_106.toNat ((s3_105.getD u_106.toNat default) ++ (Str.mk [95, 102]))), (u_106 + 1)) [1, 1, 0, 0, 0, 0, 0] ⟨(q3 hM107 (by simp only [flqlaw6_renamed_L4, h23, h46, h65, h78, h96, h119, h122, hg6, hR103, cs4])), (by omega), (by omega), (by omega), (by omega), (SmT_s1 (by assumption) (by omega))⟩
           intro h122
           have g127 := ne_of_beq_false h122
           refine KS ?_
           refine Oq Vm (Oq (Vn 0) (Oq (Vfa fo51_3 0) (Oq (VldF sh40 0) (Oq Vm (Oq (Vi sl40 2) ?_)))))
           have hb128 := okS (i := u_106.toNat) ho117 rng
           refine Oq (VldS sh9 2) ?_
           have hb129 := sadd_len (s3_105.getD u_106.toNat default) (Str.mk [95, 98])
           have hb130 : (Str.mk [95, 98]).b.length = 2 := rfl
           refine Oq (VadS (l := (s3_105.getD u_106.toNat default)) (m := (Str.mk [95, 98]))) (Oq (Vi sl40 2) ?_)
           refine Ost (So (Rs := []) [2] sh9 ((s3_105.getD u_106.toNat default) ++ (Str.mk [95, 98])) (fun _ => ⟨rfl, by first | omega | (simp; done) | (dsimp only; omega) | exact lit_bl rfl⟩)) (KS ?_)
           refine Oq Vm (Oq Vadd (Oq Va (KS ?_)))
           exact Kg (r121, (s3_105.set u_106.toNat ((s3_105.getD u_106.toNat default) ++ (Str.mk [95, 98]))), (u_106 + 1)) [1, 1, 0, 0, 0, 0, 0] ⟨(q3 hM107 (by simp only [flqlaw6_renamed_L4, h23, h46, h65, h78, h96, h119, h122, hg6, hR103, cs4])), (by omega), (by omega), (by omega), (by omega), (SmT_s1 (by assumption) (by omega))⟩
         intro h119
         have g131 := of_decide_eq_false h119
         obtain rfl : r104 = 0 := by omega
         refine Ke ?_
         have hR132 := q2 hM107 s3_105 (by simp only [flqlaw6_renamed_L4, h23, h46, h65, h78, h96, h119, hg6, hR103, cs4])
         refine KS ?_
         refine Oq Vm (Oq Vadd (Oq Va (KS ?_)))
         refine Jl [0, 0, 0] (Ent.closeD (A := [os (vl a68 k69 ((b1_55.getD j_56.toNat default).Uses)) s2_83, os (vl a70 k71 ((b1_55.getD j_56.toNat default).Targets)) s3_105]) _ _ _ _ (GStmt.mk ((b1_55.getD j_56.toNat default).Op) ((b1_55.getD j_56.toNat default).Def ++ (Str.mk [95, 118])) s2_83 s3_105) (innmk_GStmt (z0 := (b1_55.getD j_56.toNat default).Op) (z1 := ((b1_55.getD j_56.toNat default).Def ++ (Str.mk [95, 118]))) (by first | omega | (unfold i64ok; omega) | (simp only [lens]; omega)) (by first | omega | (unfold i64ok; omega) | (simp only [lens]; omega)))) ?_
         exact Kg (r67, (b1_55.set j_56.toNat (GStmt.mk ((b1_55.getD j_56.toNat default).Op) ((b1_55.getD j_56.toNat default).Def ++ (Str.mk [95, 118])) s2_83 s3_105)), (j_56 + 1)) [1, 0, 0, 0, 0] ⟨(q3 hM57 (by simp only [flqlaw6_renamed_L2, h23, h46, h65, h78, h96, h119, hg6, hR103, hR132, cs4])), (by omega), (by omega), (by omega), (by omega), (SmT_s1 (by assumption) (by omega))⟩
       intro h78
       have g133 := eq_of_bne_false h78
       refine KS ?_
       refine Oq Va (KS ?_)
       refine Kl (γ := Nat × List Str × Int) (fun (r134, s2_135, u_136) => ⟨[(2, p3), (3, p11), (4, vi i_14), (5, vi k_33), (6, (eptr 2 (vl a42 k43 ((q0_32.getD i_14.toNat default).Blocks)) k_33.toNat)), (7, vi j_56), (8, (eptr 4 (.slice a48 (((((q0_32.getD i_14.toNat default).Blocks).getD k_33.toNat default).Stmts).length) k49) j_56.toNat)), (9, vi u_136)], [dh (.slice a48 (((((q0_32.getD i_14.toNat default).Blocks).getD k_33.toNat default).Stmts).length) k49) (b1_55 : List GStmt) j_56.toNat [vi ((b1_55.getD j_56.toNat default).Op), .string (bs ((b1_55.getD j_56.toNat default).Def)), vl a68 k69 ((b1_55.getD j_56.toNat default).Uses), vl a70 k71 ((b1_55.getD j_56.toNat default).Targets)], os (vl a68 k69 ((b1_55.getD j_56.toNat default).Uses)) s2_135, O a70 k71 ((b1_55.getD j_56.toNat default).Targets), dh (vl a42 k43 ((q0_32.getD i_14.toNat default).Blocks)) ((q0_32.getD i_14.toNat default).Blocks : List GBlock) k_33.toNat [.string (bs ((((q0_32.getD i_14.toNat default).Blocks).getD k_33.toNat default).Name ++ (Str.mk [95, 98]))), .slice a48 (((((q0_32.getD i_14.toNat default).Blocks).getD k_33.toNat default).Stmts).length) k49], dh (vl a15 k16 q0_13) (q0_32 : List GFunc) i_14.toNat [.string (bs ((q0_32.getD i_14.toNat default).Name)), vl a42 k43 ((q0_32.getD i_14.toNat default).Blocks)], Cl p11 [vl a15 k16 q0_13], Cl p3 [.slice none 0 0]], flqlaw6_renamed_L3 r134 s2_135 u_136 = flqlaw6_renamed_L3 ((((((b1_55.getD j_56.toNat default).Uses).length : Int) : Int) - 0).toNat) ((b1_55.getD j_56.toNat default).Uses) 0 ∧ r134 = (((((b1_55.getD j_56.toNat default).Uses).length : Int) : Int) - u_136).toNat ∧ (0 : Int) ≤ u_136 ∧ (u_136 ≤ (((b1_55.getD j_56.toNat default).Uses).length : Int) ∨ u_136 = 0) ∧ (-9223372036854775808 ≤ u_136 ∧ u_136 ≤ 9223372036854775807) ∧ SmT SmW s2_135 u_136, r134⟩) ((((((b1_55.getD j_56.toNat default).Uses).length : Int) : Int) - 0).toNat, (b1_55.getD j_56.toNat default).Uses, 0) [0, 0, 0, 0, 0, 0, 0] ⟨rfl, rfl, (by omega), (.inr rfl), (by omega), hz6⟩ ?_
       rintro ⟨r134, s2_135, u_136⟩ ⟨hM137, hr138, hi139, hi140, hk141, hv142⟩
       refine JJ_nx fun _ _ hL hA => ?_; dsimp only at hL hA; subst hL hA
       refine Fb 16 1 fun hl143 => ?_
       refine FoS 1 fun ho144 => ?_
       refine Fl 1 fun hn145 => ?_
       refine Fb 16 2 fun hl146 => ?_
       refine FoS 2 fun ho147 => ?_
       refine KS ?_
       refine Oq Vm (Oq Vm (Oq (Vn 0) (Oq (Vfa fo51_2 0) (Oq (VldF sh40 0) (Oq (Vlen sl40) (Oq Vlss (KS ?_)))))))
       refine Kc ?_ ?_
       · intro h148
         have g149 := of_decide_eq_true h148
         have hz0 := SmT_at (P := SmW) (i := u_136) (by assumption) (by omega)
         unfold SmW at hz0
         obtain ⟨r150, rfl⟩ := scc (n := r134) (by omega)
         refine KS ?_
         refine Oq Vm (Oq (Vn 0) (Oq (Vfa fo51_2 0) (Oq (VldF sh40 0) (Oq Vm (Oq (Vi sl40 1) ?_)))))
         have hb151 := okS (i := u_136.toNat) ho144 rng
         refine Oq (VldS sh9 1) ?_
         have hb152 := sadd_len (s2_135.getD u_136.toNat default) (Str.mk [95, 118])
         have hb153 : (Str.mk [95, 118]).b.length = 2 := rfl
         refine Oq (VadS (l := (s2_135.getD u_136.toNat default)) (m := (Str.mk [95, 118]))) (Oq (Vi sl40 1) ?_)
         refine Ost (So (Rs := []) [1] sh9 ((s2_135.getD u_136.toNat default) ++ (Str.mk [95, 118])) (fun _ => ⟨rfl, by first | omega | (simp; done) | (dsimp only; omega) | exact lit_bl rfl⟩)) (KS ?_)
         refine Oq Vm (Oq Vadd (Oq Va (KS ?_)))
         exact Kg (r150, (s2_135.set u_136.toNat ((s2_135.getD u_136.toNat default) ++ (Str.mk [95, 118]))), (u_136 + 1)) [1, 0, 0, 0, 0, 0, 0] ⟨(q3 hM137 (by simp only [flqlaw6_renamed_L3, h23, h46, h65, h78, h148, hg6, cs4])), (by omega), (by omega), (by omega), (by omega), (SmT_s1 (by assumption) (by omega))⟩
       intro h148
       have g154 := of_decide_eq_false h148
       obtain rfl : r134 = 0 := by omega
       refine Ke ?_
       have hR155 := q2 hM137 s2_135 (by simp only [flqlaw6_renamed_L3, h23, h46, h65, h78, h148, hg6, cs4])
       refine KS ?_
       refine Oq Va (KS ?_)
       refine Kl (γ := Nat × List Str × Int) (fun (r156, s3_157, u_158) => ⟨[(2, p3), (3, p11), (4, vi i_14), (5, vi k_33), (6, (eptr 2 (vl a42 k43 ((q0_32.getD i_14.toNat default).Blocks)) k_33.toNat)), (7, vi j_56), (8, (eptr 4 (.slice a48 (((((q0_32.getD i_14.toNat default).Blocks).getD k_33.toNat default).Stmts).length) k49) j_56.toNat)), (10, vi u_158)], [dh (.slice a48 (((((q0_32.getD i_14.toNat default).Blocks).getD k_33.toNat default).Stmts).length) k49) (b1_55 : List GStmt) j_56.toNat [vi ((b1_55.getD j_56.toNat default).Op), .string (bs ((b1_55.getD j_56.toNat default).Def)), vl a68 k69 ((b1_55.getD j_56.toNat default).Uses), vl a70 k71 ((b1_55.getD j_56.toNat default).Targets)], os (vl a68 k69 ((b1_55.getD j_56.toNat default).Uses)) s2_135, os (vl a70 k71 ((b1_55.getD j_56.toNat default).Targets)) s3_157, dh (vl a42 k43 ((q0_32.getD i_14.toNat default).Blocks)) ((q0_32.getD i_14.toNat default).Blocks : List GBlock) k_33.toNat [.string (bs ((((q0_32.getD i_14.toNat default).Blocks).getD k_33.toNat default).Name ++ (Str.mk [95, 98]))), .slice a48 (((((q0_32.getD i_14.toNat default).Blocks).getD k_33.toNat default).Stmts).length) k49], dh (vl a15 k16 q0_13) (q0_32 : List GFunc) i_14.toNat [.string (bs ((q0_32.getD i_14.toNat default).Name)), vl a42 k43 ((q0_32.getD i_14.toNat default).Blocks)], Cl p11 [vl a15 k16 q0_13], Cl p3 [.slice none 0 0]], flqlaw6_renamed_L4 ((b1_55.getD j_56.toNat default).Op) r156 s3_157 u_158 = flqlaw6_renamed_L4 ((b1_55.getD j_56.toNat default).Op) ((((((b1_55.getD j_56.toNat default).Targets).length : Int) : Int) - 0).toNat) ((b1_55.getD j_56.toNat default).Targets) 0 ∧ r156 = (((((b1_55.getD j_56.toNat default).Targets).length : Int) : Int) - u_158).toNat ∧ (0 : Int) ≤ u_158 ∧ (u_158 ≤ (((b1_55.getD j_56.toNat default).Targets).length : Int) ∨ u_158 = 0) ∧ (-9223372036854775808 ≤ u_158 ∧ u_158 ≤ 9223372036854775807) ∧ SmT SmW s3_157 u_158, r156⟩) ((((((b1_55.getD j_56.toNat default).Targets).length : Int) : Int) - 0).toNat, (b1_55.getD j_56.toNat default).Targets, 0) [0, 0, 0, 0, 0, 0, 0] ⟨rfl, rfl, (by omega), (.inr rfl), (by omega), hz7⟩ ?_
       rintro ⟨r156, s3_157, u_158⟩ ⟨hM159, hr160, hi161, hi162, hk163, hv164⟩
       refine JJ_nx fun _ _ hL hA => ?_; dsimp only at hL hA; subst hL hA
       refine Fb 16 1 fun hl165 => ?_
       refine FoS 1 fun ho166 => ?_
       refine Fl 1 fun hn167 => ?_
       refine Fb 16 2 fun hl168 => ?_
       refine FoS 2 fun ho169 => ?_
       refine Fl 2 fun hn170 => ?_
       refine KS ?_
       refine Oq Vm (Oq Vm (Oq (Vn 0) (Oq (Vfa fo51_3 0) (Oq (VldF sh40 0) (Oq (Vlen sl40) (Oq Vlss (KS ?_)))))))
       refine Kc ?_ ?_
       · intro h171
         have g172 := of_decide_eq_true h171
         have hz0 := SmT_at (P := SmW) (i := u_158) (by assumption) (by omega)
         unfold SmW at hz0
         obtain ⟨r173, rfl⟩ := scc (n := r156) (by omega)
         refine KS ?_
         refine Oq Vm (Oq (Vn 0) (Oq (Vfa fo51_0 0) (Oq (VldF sh3 0) (Oq Veql (KS ?_)))))
         refine Kc ?_ ?_
         · intro h174
           have g175 := eq_of_beq h174
           refine KS ?_
           refine Oq Vm (Oq (Vn 0) (Oq (Vfa fo51_3 0) (Oq (VldF sh40 0) (Oq Vm (Oq (Vi sl40 2) ?_)))))
           have hb176 := okS (i := u_158.toNat) ho169 rng
           refine Oq (VldS sh9 2) ?_
           have hb177 := sadd_len (s3_157.getD u_158.toNat default) (Str.mk [95, 102])
           have hb178 : (Str.mk [95, 102]).b.length = 2 := rfl
           refine Oq (VadS (l := (s3_157.getD u_158.toNat default)) (m := (Str.mk [95, 102]))) (Oq (Vi sl40 2) ?_)
           refine Ost (So (Rs := []) [2] sh9 ((s3_157.getD u_158.toNat default) ++ (Str.mk [95, 102])) (fun _ => ⟨rfl, by first | omega | (simp; done) | (dsimp only; omega) | exact lit_bl rfl⟩)) (KS ?_)
           refine Oq Vm (Oq Vadd (Oq Va (KS ?_)))
           exact Kg (r173, (s3_157.set u_158.toNat ((s3_157.getD u_158.toNat default) ++ (Str.mk [95, 102]))), (u_158 + 1)) [1, 1, 0, 0, 0, 0, 0] ⟨(q3 hM159 (by simp only [flqlaw6_renamed_L4, h23, h46, h65, h78, h148, h171, h174, hg6, hR155, cs4])), (by omega), (by omega), (by omega), (by omega), (SmT_s1 (by assumption) (by omega))⟩
         intro h174
         have g179 := ne_of_beq_false h174
         refine KS ?_
         refine Oq Vm (Oq (Vn 0) (Oq (Vfa fo51_3 0) (Oq (VldF sh40 0) (Oq Vm (Oq (Vi sl40 2) ?_)))))
         have hb180 := okS (i := u_158.toNat) ho169 rng
         refine Oq (VldS sh9 2) ?_
         have hb181 := sadd_len (s3_157.getD u_158.toNat default) (Str.mk [95, 98])
         have hb182 : (Str.mk [95, 98]).b.length = 2 := rfl
         refine Oq (VadS (l := (s3_157.getD u_158.toNat default)) (m := (Str.mk [95, 98]))) (Oq (Vi sl40 2) ?_)
         refine Ost (So (Rs := []) [2] sh9 ((s3_157.getD u_158.toNat default) ++ (Str.mk [95, 98])) (fun _ => ⟨rfl, by first | omega | (simp; done) | (dsimp only; omega) | exact lit_bl rfl⟩)) (KS ?_)
         refine Oq Vm (Oq Vadd (Oq Va (KS ?_)))
         exact Kg (r173, (s3_157.set u_158.toNat ((s3_157.getD u_158.toNat default) ++ (Str.mk [95, 98]))), (u_158 + 1)) [1, 1, 0, 0, 0, 0, 0] ⟨(q3 hM159 (by simp only [flqlaw6_renamed_L4, h23, h46, h65, h78, h148, h171, h174, hg6, hR155, cs4])), (by omega), (by omega), (by omega), (by omega), (SmT_s1 (by assumption) (by omega))⟩
       intro h171
       have g183 := of_decide_eq_false h171
       obtain rfl : r156 = 0 := by omega
       refine Ke ?_
       have hR184 := q2 hM159 s3_157 (by simp only [flqlaw6_renamed_L4, h23, h46, h65, h78, h148, h171, hg6, hR155, cs4])
       refine KS ?_
       refine Oq Vm (Oq Vadd (Oq Va (KS ?_)))
       refine Jl [0, 0, 0] (Ent.closeD (A := [os (vl a68 k69 ((b1_55.getD j_56.toNat default).Uses)) s2_135, os (vl a70 k71 ((b1_55.getD j_56.toNat default).Targets)) s3_157]) _ _ _ _ (GStmt.mk ((b1_55.getD j_56.toNat default).Op) ((b1_55.getD j_56.toNat default).Def) s2_135 s3_157) (innmk_GStmt (z0 := (b1_55.getD j_56.toNat default).Op) (z1 := (b1_55.getD j_56.toNat default).Def) (by first | omega | (unfold i64ok; omega) | (simp only [lens]; omega)) (by first | omega | (unfold i64ok; omega) | (simp only [lens]; omega)))) ?_
       exact Kg (r67, (b1_55.set j_56.toNat (GStmt.mk ((b1_55.getD j_56.toNat default).Op) ((b1_55.getD j_56.toNat default).Def) s2_135 s3_157)), (j_56 + 1)) [1, 0, 0, 0, 0] ⟨(q3 hM57 (by simp only [flqlaw6_renamed_L2, h23, h46, h65, h78, h148, h171, hg6, hR155, hR184, cs4])), (by omega), (by omega), (by omega), (by omega), (SmT_s1 (by assumption) (by omega))⟩
     intro h65
     have g185 := of_decide_eq_false h65
     obtain rfl : r54 = 0 := by omega
     refine Ke ?_
     have hR186 := q2 hM57 b1_55 (by simp only [flqlaw6_renamed_L2, h23, h46, h65, hg6, cs4])
     refine KS ?_
     refine Oq Vm (Oq Vadd (Oq Va (KS ?_)))
     refine Jl [0, 0] (Ent.closeD (A := [ds (.slice a48 (((((q0_32.getD i_14.toNat default).Blocks).getD k_33.toNat default).Stmts).length) k49) b1_55]) _ _ _ _ (GBlock.mk ((((q0_32.getD i_14.toNat default).Blocks).getD k_33.toNat default).Name ++ (Str.mk [95, 98])) b1_55) (innmk_GBlock (z0 := ((((q0_32.getD i_14.toNat default).Blocks).getD k_33.toNat default).Name ++ (Str.mk [95, 98]))) (by first | omega | (unfold i64ok; omega) | (simp only [lens]; omega)))) ?_
     refine Jl [1, 0] (Ent.closeD (A := [ds (vl a42 k43 ((q0_32.getD i_14.toNat default).Blocks)) ((((q0_32.getD i_14.toNat default).Blocks).set k_33.toNat (GBlock.mk ((((q0_32.getD i_14.toNat default).Blocks).getD k_33.toNat default).Name ++ (Str.mk [95, 98])) b1_55)) : List GBlock)]) _ _ _ _ (GFunc.mk ((q0_32.getD i_14.toNat default).Name) (((q0_32.getD i_14.toNat default).Blocks).set k_33.toNat (GBlock.mk ((((q0_32.getD i_14.toNat default).Blocks).getD k_33.toNat default).Name ++ (Str.mk [95, 98])) b1_55))) (innmk_GFunc (z0 := (q0_32.getD i_14.toNat default).Name) (by first | omega | (unfold i64ok; omega) | (simp only [lens]; omega)))) ?_
     exact Kg (r31, (q0_32.set i_14.toNat (GFunc.mk ((q0_32.getD i_14.toNat default).Name) (((q0_32.getD i_14.toNat default).Blocks).set k_33.toNat (GBlock.mk ((((q0_32.getD i_14.toNat default).Blocks).getD k_33.toNat default).Name ++ (Str.mk [95, 98])) b1_55)))), (k_33 + 1)) [0, 0, 0] ⟨(q3 hM34 (by simp only [flqlaw6_renamed_L1, h23, h46, h65, hg6, hR186, cs4])), (by omega), (SmT_s0 (by assumption) (by omega)), (SmT_b1 (by assumption) (by omega) (by omega)), (by rw [List.length_set]; omega)⟩
   intro h46
   have g187 := of_decide_eq_false h46
   refine Ke ?_
   refine Jl [0, 0] (Ent.closeS (A := [D a42 k43 ((q0_32.getD i_14.toNat default).Blocks)]) _ _ _ _ default (innmk_GFunc (z0 := (q0_32.getD i_14.toNat default).Name) (by first | omega | (unfold i64ok; omega) | (simp only [lens]; omega)))) ?_
   have hR188 := q2 hM34 (.brk q0_32) (by simp only [flqlaw6_renamed_L1, h23, h46, hg6, cs4])
   refine KS ?_
   refine Oq Vm (Oq Vadd (Oq Va (KS ?_)))
   refine FlD 0 fun hn189 => ?_; try unfold vl; rw [← hn189]
   exact Kg (r12, q0_32, (i_14 + 1), a15, k16) [0, 0, 0] ⟨(q3 hM17 (by simp only [flqlaw6_renamed_L0, h23, h46, hg6, hR188, cs4])), (by omega), (by assumption), iv1⟩
 intro h23
 have g190 := of_decide_eq_false h23
 refine Ke ?_
 have hR191 := q2 hM17 (.brk q0_13) (by simp only [flqlaw6_renamed_L0, h23, hg6, cs4])
 refine KS ?_
 refine Oq (VldA sh27 1) (Ost (Scl [2] sh27 [vl a15 k16 q0_13]) (KS ?_))
 refine Jl [1] (Ent.dsF _ _) ?_
 have hq := q4 hrr (GProgram.mk q0_13) (by simp only [flqlaw6_renamed, h23, hg6, hR191, cs4]); subst hq
 exact Kr (vl a15 k16 q0_13) rfl (.cellN 1 rfl sh27 rfl (reads_Cl _ _) rfl .nil) [0] trivial
theorem fn55 (c : Int) (hc_0 : 0 ≤ c ∧ c ≤ 255) (rr : Bool) (hrr : lexer_letter c = rr) : FT Tryd.prog 55 #[.int .u8 c] [] (fun g : Unit => True) (fun g => vb rr) (fun g => []) := by
 refine FTi Tryd.func55 fun w0 M0 F0 => ?_
 refine KS ?_
 refine Oq Va (KS ?_)
 refine Oq Vm (Oq Vgeq (Oq Vm ?_))
 refine Js 5 ?_ ?_
 · intro h1
   have g2 := of_decide_eq_true h1
   refine Oq Vm (Oq Vleq (Oq Vpt (Oq Vm ?_)))
   refine Js 9 ?_ ?_
   · intro h3
     have g4 := of_decide_eq_true h3
     refine Osk (Osk (Osk (Osk (Osk (Osk (Oq Vpt (Oq Va (KS ?_))))))))
     have hq := q4 hrr true (by simp only [lexer_letter, h1, h3, cs4]); subst hq
     exact Kr () rfl (.tmp rfl .nil) [] trivial
   intro h3
   have g5 := of_decide_eq_false h3
   refine Oq Vm (Oq Vgeq (Oq Vm ?_))
   refine Js 12 ?_ ?_
   · intro h6
     have g7 := of_decide_eq_true h6
     refine Oq Vm (Oq Vleq (Oq Vpt (Oq Vpf (Oq Va (KS ?_)))))
     have hq := q4 hrr (decide (c ≤ 90)) (by simp only [lexer_letter, h1, h3, h6, cs4]); subst hq
     exact Kr () rfl (.tmp rfl .nil) [] trivial
   intro h6
   have g8 := of_decide_eq_false h6
   refine Osk (Osk (Oq Vpf (Oq Vpf (Oq Va (KS ?_)))))
   have hq := q4 hrr false (by simp only [lexer_letter, h1, h3, h6, cs4]); subst hq
   exact Kr () rfl (.tmp rfl .nil) [] trivial
 intro h1
 have g9 := of_decide_eq_false h1
 refine Osk (Osk (Oq Vpf (Oq Vm (Oq Vm (Oq Vgeq (Oq Vm ?_))))))
 refine Js 12 ?_ ?_
 · intro h10
   have g11 := of_decide_eq_true h10
   refine Oq Vm (Oq Vleq (Oq Vpt (Oq Vpf (Oq Va (KS ?_)))))
   have hq := q4 hrr (decide (c ≤ 90)) (by simp only [lexer_letter, h1, h10, cs4]); subst hq
   exact Kr () rfl (.tmp rfl .nil) [] trivial
 intro h10
 have g12 := of_decide_eq_false h10
 refine Osk (Osk (Oq Vpf (Oq Vpf (Oq Va (KS ?_)))))
 have hq := q4 hrr false (by simp only [lexer_letter, h1, h10, cs4]); subst hq
 exact Kr () rfl (.tmp rfl .nil) [] trivial
theorem fn67 (s : List Str) (sa0 : Option Addr) (sk0 : Nat) (v : Str) (hv_0 : v.b.length ≤ 140737488355328) (rr : Int) (hrr : slices_Index_string s v = rr) : FT Tryd.prog 67 #[vl sa0 sk0 s, .string (bs v)] [S sa0 sk0 s] (fun g : Unit => i64ok rr) (fun g => vi rr) (fun g => []) := by
 refine FTi Tryd.func67 fun w0 M0 F0 => ?_
 refine Fb 16 0 fun hl1 => ?_
 refine FoS 0 fun ho2 => ?_
 refine KS ?_
 refine Oq Va (KS ?_)
 refine Oq Vm (Oq (Vlen sl40) (Oq Vm (KS ?_)))
 refine Kl (γ := Nat × Int) (fun (r3, v8_4) => ⟨[(0, vl sa0 sk0 s), (1, .string (bs v)), (7, vi (s.length : Int)), (8, vi v8_4)], [S sa0 sk0 s], slices_Index_string_L0 s v r3 v8_4 = slices_Index_string_L0 s v (((s.length : Int) - 0).toNat) 0 ∧ r3 = ((s.length : Int) - v8_4).toNat ∧ (0 : Int) ≤ v8_4 ∧ v8_4 ≤ (s.length : Int) ∧ (-9223372036854775808 ≤ v8_4 ∧ v8_4 ≤ 9223372036854775807), r3⟩) (((s.length : Int) - 0).toNat, 0) [0] ⟨rfl, rfl, (by omega), (by omega), (by omega)⟩ ?_
 rintro ⟨r3, v8_4⟩ ⟨hM5, hr6, hi7, hi8, hk9⟩
 refine JJ_nx fun _ _ hL hA => ?_; dsimp only at hL hA; subst hL hA
 refine Fb 16 0 fun hl10 => ?_
 refine FoS 0 fun ho11 => ?_
 refine KS ?_
 refine Oq Vlss (KS ?_)
 refine Kc ?_ ?_
 · intro h12
   have g13 := of_decide_eq_true h12
   obtain ⟨r14, rfl⟩ := scc (n := r3) (by omega)
   refine KS ?_
   refine Oq Vm (Oq Va (KS ?_))
   refine Oq Vm (Oq Vm (Oq Vm (Oq (Vi sl40 0) ?_)))
   have hb15 := okS (i := v8_4.toNat) ho11 rng
   refine Oq (VldS sh9 0) (Oq (VeqS (l := v) (m := (s.getD v8_4.toNat default))) (KS ?_))
   refine Kc ?_ ?_
   · intro h16
     have g17 := eq_of_beq h16
     refine KS ?_
     refine Oq Vm (Oq Va (KS ?_))
     have hR18 := q2 hM5 (.ret v8_4) (by simp only [slices_Index_string_L0, h12, h16, cs4])
     have hq := q4 hrr v8_4 (by simp only [slices_Index_string, h12, h16, hR18, cs4]); subst hq
     exact Kr () rfl (.tmp rfl .nil) [] en
   intro h16
   have g19 := ne_of_beq_false h16
   refine KS ?_
   refine Oq Vadd (Oq Vm (KS ?_))
   exact Kg (r14, (v8_4 + 1)) [0] ⟨(q3 hM5 (by simp only [slices_Index_string_L0, h12, h16, cs4])), (by omega), (by omega), (by omega), (by omega)⟩
 intro h12
 have g20 := of_decide_eq_false h12
 obtain rfl : r3 = 0 := by omega
 refine Ke ?_
 have hR21 := q2 hM5 (.brk ()) (by simp only [slices_Index_string_L0, h12, cs4])
 refine KS ?_
 refine Oq Va (KS ?_)
 have hq := q4 hrr (-1) (by simp only [slices_Index_string, h12, hR21, cs4]); subst hq
 exact Kr () rfl (.tmp rfl .nil) [] en
theorem fn56 (s : List Str) (sa0 : Option Addr) (sk0 : Nat) (v : Str) (hv_0 : v.b.length ≤ 140737488355328) (rr : Bool) (hrr : slices_Contains_string s v = rr) : FT Tryd.prog 56 #[vl sa0 sk0 s, .string (bs v)] [S sa0 sk0 s] (fun g : Unit => True) (fun g => vb rr) (fun g => []) := by
 refine FTi Tryd.func56 fun w0 M0 F0 => ?_
 refine Fb 16 0 fun hl1 => ?_
 refine FoS 0 fun ho2 => ?_
 refine KS ?_
 refine Oq Va (KS ?_)
 refine Oq Vm (Oq Vm ?_)
 refine letv (slices_Index_string s v) fun rv3 hg4 => ?_
 have hc5 := fn67 s sa0 sk0 v pre rv3 hg4
 refine Oc [0] ca67 hc5 ?_
 rintro - he6
 unfold i64ok at he6
 refine Oq Vgeq (Oq Va (KS ?_))
 have hq := q4 hrr (decide (0 ≤ rv3)) (by simp only [slices_Contains_string, hg4, cs4]); subst hq
 exact Kr () rfl (.tmp rfl .nil) [] trivial
theorem fn72 (c : Int) (hc_0 : 0 ≤ c ∧ c ≤ 255) (rr : Bool) (hrr : lexer_digit c = rr) : FT Tryd.prog 72 #[.int .u8 c] [] (fun g : Unit => True) (fun g => vb rr) (fun g => []) := by
 refine FTi Tryd.func72 fun w0 M0 F0 => ?_
 refine KS ?_
 refine Oq Va (KS ?_)
 refine Oq Vm (Oq Vgeq (Oq Vm ?_))
 refine Js 5 ?_ ?_
 · intro h1
   have g2 := of_decide_eq_true h1
   refine Oq Vm (Oq Vleq (Oq Vpt (Oq Va (KS ?_))))
   have hq := q4 hrr (decide (c ≤ 57)) (by simp only [lexer_digit, h1, cs4]); subst hq
   exact Kr () rfl (.tmp rfl .nil) [] trivial
 intro h1
 have g3 := of_decide_eq_false h1
 refine Osk (Osk (Oq Vpf (Oq Va (KS ?_))))
 have hq := q4 hrr false (by simp only [lexer_digit, h1, cs4]); subst hq
 exact Kr () rfl (.tmp rfl .nil) [] trivial
theorem fn68 (c : Int) (hc_0 : 0 ≤ c ∧ c ≤ 255) (rr : Bool) (hrr : lexer_part c = rr) : FT Tryd.prog 68 #[.int .u8 c] [] (fun g : Unit => True) (fun g => vb rr) (fun g => []) := by
 refine FTi Tryd.func68 fun w0 M0 F0 => ?_
 refine KS ?_
 refine Oq Va (KS ?_)
 refine Oq Vm ?_
 refine letv (lexer_letter c) fun rv1 hg2 => ?_
 have hc3 := fn55 c pre rv1 hg2
 refine Oc [] ca55 hc3 ?_
 rintro - -
 refine Oq Vm ?_
 refine Js 5 ?_ ?_
 · intro h4
   refine Osk (Osk (Oq Vpt (Oq Vm (Osk (Osk (Oq Vpt (Oq Va (KS ?_))))))))
   have hq := q4 hrr true (by simp only [lexer_part, h4, hg2, cs4]); subst hq
   exact Kr () rfl (.tmp rfl .nil) [] trivial
 intro h4
 refine Oq Vm ?_
 refine letv (lexer_digit c) fun rv7 hg8 => ?_
 have hc9 := fn72 c pre rv7 hg8
 refine Oc [] ca72 hc9 ?_
 rintro - -
 refine Oq Vpf (Oq Vm ?_)
 refine Js 9 ?_ ?_
 · intro h10
   refine Osk (Osk (Oq Vpt (Oq Va (KS ?_))))
   have hq := q4 hrr true (by simp only [lexer_part, h4, h10, hg2, hg8, cs4]); subst hq
   exact Kr () rfl (.tmp rfl .nil) [] trivial
 intro h10
 refine Oq Vm (Oq Veql (Oq Vpf (Oq Va (KS ?_))))
 have hq := q4 hrr (c == 95) (by simp only [lexer_part, h4, h10, hg2, hg8, cs4]); subst hq
 exact Kr () rfl (.tmp rfl .nil) [] trivial
theorem fn57 (s : Str) (i : Int) (hs_0 : s.b.length ≤ 140737488355328) (hi_0 : i64ok i) (hi0 : 0 ≤ i ∧ i ≤ (s.b.length : Int)) (rr : Int) (hrr : lexer_wordEnd s i = rr) : FT Tryd.prog 57 #[.string (bs s), vi i] [] (fun g : Unit => i64ok rr ∧ (i ≤ rr ∧ rr ≤ (s.b.length : Int))) (fun g => vi rr) (fun g => []) := by
 refine FTi Tryd.func57 fun w0 M0 F0 => ?_
 unfold i64ok at hi_0
 refine KS ?_
 refine Oq Va (KS ?_)
 refine Kl (γ := Nat × Int) (fun (r1, i_2) => ⟨[(0, .string (bs s)), (1, vi i_2)], [], lexer_wordEnd_L0 s r1 i_2 = lexer_wordEnd_L0 s (((s.b.length : Int) - i).toNat) i ∧ r1 = ((s.b.length : Int) - i_2).toNat ∧ (i : Int) ≤ i_2 ∧ (i_2 ≤ (s.b.length : Int) ∨ i_2 = i) ∧ (-9223372036854775808 ≤ i_2 ∧ i_2 ≤ 9223372036854775807), r1⟩) (((s.b.length : Int) - i).toNat, i) [] ⟨rfl, rfl, (by omega), (.inr rfl), (by omega)⟩ ?_
 rintro ⟨r1, i_2⟩ ⟨hM3, hr4, hi5, hi6, hk7⟩
 refine JJ_nx fun _ _ hL hA => ?_; dsimp only at hL hA; subst hL hA
 refine KS ?_
 refine Oq Vm (Oq Vm (Oq (VlS un9 (l := s)) (Oq Vlss (Oq Vm ?_))))
 refine Js 9 ?_ ?_
 · intro h8
   have g9 := of_decide_eq_true h8
   obtain ⟨r10, rfl⟩ := scc (n := r1) (by omega)
   refine Oq Vm (Oq Vm (Oq (Vix un9 (l := s)) ?_))
   have hb11 := u8b (s.b.getD i_2.toNat 0)
   refine letv (lexer_part ((s.b.getD i_2.toNat 0).toNat : Int)) fun rv12 hg13 => ?_
   have hc14 := fn68 (((s.b.getD i_2.toNat 0).toNat : Int)) pre rv12 hg13
   refine Oc [] ca68 hc14 ?_
   rintro - -
   refine Oq Vpt (KS ?_)
   refine Kc ?_ ?_
   · intro h15
     refine KS ?_
     refine Oq Vm (Oq Vadd (Oq Va (KS ?_)))
     exact Kg (r10, (i_2 + 1)) [] ⟨(q3 hM3 (by simp only [lexer_wordEnd_L0, h8, h15, hg13, cs4])), (by omega), (by omega), (by omega), (by omega)⟩
   intro h15
   refine Ke ?_
   have hR18 := q2 hM3 i_2 (by simp only [lexer_wordEnd_L0, h8, h15, hg13, cs4])
   refine KS ?_
   refine Oq Vm (Oq Va (KS ?_))
   have hq := q4 hrr i_2 (by simp only [lexer_wordEnd, h8, h15, hg13, hR18, cs4]); subst hq
   exact Kr () rfl (.tmp rfl .nil) [] en
 intro h8
 have g19 := of_decide_eq_false h8
 obtain rfl : r1 = 0 := by omega
 refine Osk (Osk (Osk (Osk (Oq Vpf (KS ?_)))))
 refine Kf ?_
 refine Ke ?_
 have hR20 := q2 hM3 i_2 (by simp only [lexer_wordEnd_L0, h8, cs4])
 refine KS ?_
 refine Oq Vm (Oq Va (KS ?_))
 have hq := q4 hrr i_2 (by simp only [lexer_wordEnd, h8, hR20, cs4]); subst hq
 exact Kr () rfl (.tmp rfl .nil) [] en
theorem fn44 (s : Str) (kwLA : Option Addr) (kwLK : Nat) (hs_0 : s.b.length ≤ 140737488355328) (rr : Bool) (hrr : lexer_IsName s = rr) : FT Tryd.prog 44 #[.string (bs s)] [pv (gp 0) [vl kwLA kwLK kwL], S kwLA kwLK kwL] (fun g : Unit => True) (fun g => vb rr) (fun g => []) := by
 refine FTi Tryd.func44 fun w0 M0 F0 => ?_
 refine Fb 16 1 fun hl1 => ?_
 refine FoS 1 fun ho2 => ?_
 refine KS ?_
 refine Oq Va (KS ?_)
 refine Oq Vm (Oq (VeqS (l := s) (m := (Str.mk []))) (Oq Vm ?_))
 refine Js 5 ?_ ?_
 · intro h3
   have g4 := eq_of_beq h3
   refine Osk (Osk (Osk (Oq Vpt (Oq Vm (Osk (Osk (Osk (Osk (Oq Vpt ?_)))))))))
   refine Oq Vm (Osk (Osk (Osk (Oq Vpt (KS ?_)))))
   refine Kt ?_
   refine KS ?_
   refine Oq Va (KS ?_)
   have hq := q4 hrr false (by simp only [lexer_IsName, h3, cs4]); subst hq
   exact Kr () rfl (.tmp rfl .nil) [] trivial
 intro h3
 have g5 := ne_of_beq_false h3
 have hsp := str_pos h3
 refine Oq Vm (Oq (VlS un9 (l := s)) (Oq Vgtr (Oq Vpf (Oq Vm ?_))))
 refine Js 10 ?_ ?_
 · intro h6
   have g7 := of_decide_eq_true h6
   refine Osk (Osk (Osk (Osk (Oq Vpt (Oq Vm (Osk (Osk (Osk (Oq Vpt ?_)))))))))
   refine KS ?_
   refine Kt ?_
   refine KS ?_
   refine Oq Va (KS ?_)
   have hq := q4 hrr false (by simp only [lexer_IsName, h3, h6, cs4]); subst hq
   exact Kr () rfl (.tmp rfl .nil) [] trivial
 intro h6
 have g8 := of_decide_eq_false h6
 refine Oq Vm (Oq (Vix un9 (l := s)) ?_)
 have hb9 := u8b (s.b.getD (0 : Int).toNat 0)
 refine letv (lexer_letter ((s.b.getD (0 : Int).toNat 0).toNat : Int)) fun rv10 hg11 => ?_
 have hc12 := fn55 (((s.b.getD (0 : Int).toNat 0).toNat : Int)) pre rv10 hg11
 refine Oc [] ca55 hc12 ?_
 rintro - -
 refine Oq Vnot (Oq Vpf (Oq Vm ?_))
 refine Js 16 ?_ ?_
 · intro h13
   have h15 := not_true h13
   refine Osk (Osk (Osk (Oq Vpt (KS ?_))))
   refine Kt ?_
   refine KS ?_
   refine Oq Va (KS ?_)
   have hq := q4 hrr false (by simp only [lexer_IsName, h3, h6, h13, h15, hg11, cs4]); subst hq
   exact Kr () rfl (.tmp rfl .nil) [] trivial
 intro h13
 have h18 := not_false h13
 refine Oq (Vld sh40 0) (Oq Vm ?_)
 refine letv (slices_Contains_string kwL s) fun rv20 hg21 => ?_
 have hc22 := fn56 kwL kwLA kwLK s pre rv20 hg21
 refine Oc [1] ca56 hc22 ?_
 rintro - -
 refine Oq Vpf (KS ?_)
 refine Kc ?_ ?_
 · intro h23
   refine KS ?_
   refine Oq Va (KS ?_)
   have hq := q4 hrr false (by simp only [lexer_IsName, h3, h6, h13, h18, h23, hg11, hg21, cs4]); subst hq
   exact Kr () rfl (.tmp rfl .nil) [] trivial
 intro h23
 refine KS ?_
 refine Oq Vm ?_
 refine letv (lexer_wordEnd s 0) fun rv26 hg27 => ?_
 have hc28 := fn57 s 0 pre pre pre rv26 hg27
 refine Oc [] ca57 hc28 ?_
 rintro - ⟨he29, he30⟩
 unfold i64ok at he29
 refine Oq Vm (Oq (VlS un9 (l := s)) (Oq Veql (Oq Va (KS ?_))))
 have hq := q4 hrr (rv26 == (s.b.length : Int)) (by simp only [lexer_IsName, h3, h6, h13, h18, h23, hg11, hg21, hg27, cs4]); subst hq
 exact Kr () rfl (.tmp rfl .nil) [] trivial
theorem fn58 (s : List GStmt) (sa0 : Option Addr) (sk0 : Nat) (fF : FuncId) (fC : List Value) (fp : GStmt → Bool) (fA : List SP) (hfc : callable Tryd.prog fF = true) (hfF : ∀ x ∈ s, ∀ (a2 : Option Addr) (k2 : Nat) (a3 : Option Addr) (k3 : Nat), i64ok x.Op → x.Def.b.length ≤ 140737488355328 → FT Tryd.prog fF ([(.agg #[vi x.Op, .string (bs x.Def), vl a2 k2 x.Uses, vl a3 k3 x.Targets] : Value)] ++ fC).toArray ([S a2 k2 x.Uses, S a3 k3 x.Targets] ++ [pAll fA]) (fun _ : Unit => True) (fun _ => .bool (fp x)) (fun _ => [])) (rr : Int) (hrr : slices_IndexFunc_Stmt s fp = rr) : FT Tryd.prog 58 #[vl sa0 sk0 s, .func (.func fF) #[] fC.toArray] [S sa0 sk0 s, pAll fA] (fun g : Unit => i64ok rr) (fun g => vi rr) (fun g => []) := by
 refine FTi Tryd.func58 fun w0 M0 F0 => ?_
 refine Fb 72 0 fun hl1 => ?_
 refine KS ?_
 refine Oq Va (KS ?_)
 refine Oq Vm (Oq (Vlen sl47) (Oq Vm (KS ?_)))
 refine Kl (γ := Nat × Int) (fun (r2, v8_3) => ⟨[(0, vl sa0 sk0 s), (1, .func (.func fF) #[] fC.toArray), (7, vi (s.length : Int)), (8, vi v8_3)], [S sa0 sk0 s, pAll fA], slices_IndexFunc_Stmt_L0 s fp r2 v8_3 = slices_IndexFunc_Stmt_L0 s fp (((s.length : Int) - 0).toNat) 0 ∧ r2 = ((s.length : Int) - v8_3).toNat ∧ (0 : Int) ≤ v8_3 ∧ v8_3 ≤ (s.length : Int) ∧ (-9223372036854775808 ≤ v8_3 ∧ v8_3 ≤ 9223372036854775807), r2⟩) (((s.length : Int) - 0).toNat, 0) [0, 1] ⟨rfl, rfl, (by omega), (by omega), (by omega)⟩ ?_
 rintro ⟨r2, v8_3⟩ ⟨hM4, hr5, hi6, hi7, hk8⟩
 refine JJ_nx fun _ _ hL hA => ?_; dsimp only at hL hA; subst hL hA
 refine Fb 72 0 fun hl9 => ?_
 refine KS ?_
 refine Oq Vlss (KS ?_)
 refine Kc ?_ ?_
 · intro h10
   have g11 := of_decide_eq_true h10
   obtain ⟨r12, rfl⟩ := scc (n := r2) (by omega)
   refine KS ?_
   refine Oq Vm (Oq Va (KS ?_))
   refine Oq Vm (Oq Vm (Oq Vm (Oq (Vi sl47 0) ?_)))
   refine JJ_peek_GStmt v8_3.toNat 0 rfl rng fun a13 k14 a15 k16 hb17 hb18 => ?_
   unfold i64ok at hb17
   refine Fb 16 1 fun hl19 => ?_
   refine FoS 1 fun ho20 => ?_
   refine Fb 16 2 fun hl21 => ?_
   refine FoS 2 fun ho22 => ?_
   refine Oq (VldA sh51 0) ?_
   refine JO_call [1, 2, 4] rfl rfl rfl (OpC.clo («as» := [(.agg #[vi ((s.getD v8_3.toNat default).Op), .string (bs ((s.getD v8_3.toNat default).Def)), vl a13 k14 ((s.getD v8_3.toNat default).Uses), vl a15 k16 ((s.getD v8_3.toNat default).Targets)] : Value)] ++ fC) rfl rfl hfc rfl (by simp)) (hfF (s.getD v8_3.toNat default) (getD_mem rng) a13 k14 a15 k16 pre pre) rfl fun _ _ => ?_
   refine KS ?_
   refine Kc ?_ ?_
   · intro h23
     refine KS ?_
     refine Oq Vm (Oq Va (KS ?_))
     have hR25 := q2 hM4 (.ret v8_3) (by simp only [slices_IndexFunc_Stmt_L0, h10, h23, cs4])
     have hq := q4 hrr v8_3 (by simp only [slices_IndexFunc_Stmt, h10, h23, hR25, cs4]); subst hq
     exact Kr () rfl (.tmp rfl .nil) [] en
   intro h23
   refine KS ?_
   refine Oq Vadd (Oq Vm (KS ?_))
   exact Kg (r12, (v8_3 + 1)) [3, 4] ⟨(q3 hM4 (by simp only [slices_IndexFunc_Stmt_L0, h10, h23, cs4])), (by omega), (by omega), (by omega), (by omega)⟩
 intro h10
 have g27 := of_decide_eq_false h10
 obtain rfl : r2 = 0 := by omega
 refine Ke ?_
 have hR28 := q2 hM4 (.brk ()) (by simp only [slices_IndexFunc_Stmt_L0, h10, cs4])
 refine KS ?_
 refine Oq Va (KS ?_)
 have hq := q4 hrr (-1) (by simp only [slices_IndexFunc_Stmt, h10, hR28, cs4]); subst hq
 exact Kr () rfl (.tmp rfl .nil) [] en
theorem fn45 (s : List GStmt) (sa0 : Option Addr) (sk0 : Nat) (fF : FuncId) (fC : List Value) (fp : GStmt → Bool) (fA : List SP) (hfc : callable Tryd.prog fF = true) (hfF : ∀ x ∈ s, ∀ (a2 : Option Addr) (k2 : Nat) (a3 : Option Addr) (k3 : Nat), i64ok x.Op → x.Def.b.length ≤ 140737488355328 → FT Tryd.prog fF ([(.agg #[vi x.Op, .string (bs x.Def), vl a2 k2 x.Uses, vl a3 k3 x.Targets] : Value)] ++ fC).toArray ([S a2 k2 x.Uses, S a3 k3 x.Targets] ++ [pAll fA]) (fun _ : Unit => True) (fun _ => .bool (fp x)) (fun _ => [])) (rr : Bool) (hrr : slices_ContainsFunc_Stmt s fp = rr) : FT Tryd.prog 45 #[vl sa0 sk0 s, .func (.func fF) #[] fC.toArray] [S sa0 sk0 s, pAll fA] (fun g : Unit => True) (fun g => vb rr) (fun g => []) := by
 refine FTi Tryd.func45 fun w0 M0 F0 => ?_
 refine Fb 72 0 fun hl1 => ?_
 refine KS ?_
 refine Oq Va (KS ?_)
 refine Oq Vm (Oq Vm ?_)
 refine letv (slices_IndexFunc_Stmt s fp) fun rv2 hg3 => ?_
 have hc4 := fn58 s sa0 sk0 fF fC fp fA hfc hfF rv2 hg3
 refine Oc [0, 1] ca58 hc4 ?_
 rintro - he5
 unfold i64ok at he5
 refine Oq Vgeq (Oq Va (KS ?_))
 have hq := q4 hrr (decide (0 ≤ rv2)) (by simp only [slices_ContainsFunc_Stmt, hg3, cs4]); subst hq
 exact Kr () rfl (.tmp rfl .nil) [] trivial
theorem fn59 (s : List Str) (sa0 : Option Addr) (sk0 : Nat) (rr : List Str) (hrr : slices_Clone_string s = rr) : FT Tryd.prog 59 #[vl sa0 sk0 s] [S sa0 sk0 s] (fun g : Value => (rr.length = s.length)) (fun g => g) (fun g => [os g rr]) := by
 have hm : slices_Clone_string s = s := rfl
 rw [hm] at hrr
 subst hrr
 refine FTi Tryd.func59 fun w0 M0 F0 => ?_
 refine KS ?_
 refine Oq Va ?_
 refine KS ?_
 refine Oq Vm ?_
 refine Oq (VeqN un40) ?_
 refine KS ?_
 refine Kc ?_ ?_
 · intro h
   refine Jnil 0 h ?_
   intro h0
   subst h0
   refine KS ?_
   refine Oq Va ?_
   refine KS ?_
   refine Jl [] (Ent.osNil (α := Str)) ?_
   exact Kr (.slice none 0 0) rfl (.tmp rfl .nil) [0] rfl
 · intro _
   refine KS ?_
   refine Oa (As0 sl40) fun c1 => ?_
   refine Jo 0 ?_; rintro a2 k3 rfl
   refine Oq Vm ?_
   refine Fb 16 1 fun hl => ?_
   refine Jl [0] (Ent.crNil (α := Str) _) ?_
   refine Oa (Ap0 [0, 0] sl40 sl40 sz40) fun c4 => ?_
   refine Oq Va ?_
   refine KS ?_
   exact Kr c4 rfl (.tmp rfl .nil) [0] rfl
theorem fn69 (s : List Str) (sa0 : Option Addr) (sk0 : Nat) (fF : FuncId) (fC : List Value) (fp : Str → Bool) (fA : List SP) (hfc : callable Tryd.prog fF = true) (hfF : ∀ x ∈ s, x.b.length ≤ 140737488355328 → FT Tryd.prog fF ([(.string (bs x) : Value)] ++ fC).toArray ([] ++ [pAll fA]) (fun _ : Unit => True) (fun _ => .bool (fp x)) (fun _ => [])) (rr : Int) (hrr : slices_IndexFunc_string s fp = rr) : FT Tryd.prog 69 #[vl sa0 sk0 s, .func (.func fF) #[] fC.toArray] [S sa0 sk0 s, pAll fA] (fun g : Unit => i64ok rr) (fun g => vi rr) (fun g => []) := by
 refine FTi Tryd.func69 fun w0 M0 F0 => ?_
 refine Fb 16 0 fun hl1 => ?_
 refine FoS 0 fun ho2 => ?_
 refine KS ?_
 refine Oq Va (KS ?_)
 refine Oq Vm (Oq (Vlen sl40) (Oq Vm (KS ?_)))
 refine Kl (γ := Nat × Int) (fun (r3, v8_4) => ⟨[(0, vl sa0 sk0 s), (1, .func (.func fF) #[] fC.toArray), (7, vi (s.length : Int)), (8, vi v8_4)], [S sa0 sk0 s, pAll fA], slices_IndexFunc_string_L0 s fp r3 v8_4 = slices_IndexFunc_string_L0 s fp (((s.length : Int) - 0).toNat) 0 ∧ r3 = ((s.length : Int) - v8_4).toNat ∧ (0 : Int) ≤ v8_4 ∧ v8_4 ≤ (s.length : Int) ∧ (-9223372036854775808 ≤ v8_4 ∧ v8_4 ≤ 9223372036854775807), r3⟩) (((s.length : Int) - 0).toNat, 0) [0, 1] ⟨rfl, rfl, (by omega), (by omega), (by omega)⟩ ?_
 rintro ⟨r3, v8_4⟩ ⟨hM5, hr6, hi7, hi8, hk9⟩
 refine JJ_nx fun _ _ hL hA => ?_; dsimp only at hL hA; subst hL hA
 refine Fb 16 0 fun hl10 => ?_
 refine FoS 0 fun ho11 => ?_
 refine KS ?_
 refine Oq Vlss (KS ?_)
 refine Kc ?_ ?_
 · intro h12
   have g13 := of_decide_eq_true h12
   obtain ⟨r14, rfl⟩ := scc (n := r3) (by omega)
   refine KS ?_
   refine Oq Vm (Oq Va (KS ?_))
   refine Oq Vm (Oq Vm (Oq Vm (Oq (Vi sl40 0) ?_)))
   have hb15 := okS (i := v8_4.toNat) ho11 rng
   refine Oq (VldS sh9 0) ?_
   refine JO_call [1] rfl rfl rfl (OpC.clo («as» := [(.string (bs (s.getD v8_4.toNat default)) : Value)] ++ fC) rfl rfl hfc rfl (by simp)) (hfF (s.getD v8_4.toNat default) (getD_mem rng)  pre) rfl fun _ _ => ?_
   refine KS ?_
   refine Kc ?_ ?_
   · intro h16
     refine KS ?_
     refine Oq Vm (Oq Va (KS ?_))
     have hR18 := q2 hM5 (.ret v8_4) (by simp only [slices_IndexFunc_string_L0, h12, h16, cs4])
     have hq := q4 hrr v8_4 (by simp only [slices_IndexFunc_string, h12, h16, hR18, cs4]); subst hq
     exact Kr () rfl (.tmp rfl .nil) [] en
   intro h16
   refine KS ?_
   refine Oq Vadd (Oq Vm (KS ?_))
   exact Kg (r14, (v8_4 + 1)) [0, 1] ⟨(q3 hM5 (by simp only [slices_IndexFunc_string_L0, h12, h16, cs4])), (by omega), (by omega), (by omega), (by omega)⟩
 intro h12
 have g20 := of_decide_eq_false h12
 obtain rfl : r3 = 0 := by omega
 refine Ke ?_
 have hR21 := q2 hM5 (.brk ()) (by simp only [slices_IndexFunc_string_L0, h12, cs4])
 refine KS ?_
 refine Oq Va (KS ?_)
 have hq := q4 hrr (-1) (by simp only [slices_IndexFunc_string, h12, hR21, cs4]); subst hq
 exact Kr () rfl (.tmp rfl .nil) [] en
theorem fn60 (s : List Str) (sa0 : Option Addr) (sk0 : Nat) (fF : FuncId) (fC : List Value) (fp : Str → Bool) (fA : List SP) (hfc : callable Tryd.prog fF = true) (hfF : ∀ x ∈ s, x.b.length ≤ 140737488355328 → FT Tryd.prog fF ([(.string (bs x) : Value)] ++ fC).toArray ([] ++ [pAll fA]) (fun _ : Unit => True) (fun _ => .bool (fp x)) (fun _ => [])) (rr : Bool) (hrr : slices_ContainsFunc_string s fp = rr) : FT Tryd.prog 60 #[vl sa0 sk0 s, .func (.func fF) #[] fC.toArray] [S sa0 sk0 s, pAll fA] (fun g : Unit => True) (fun g => vb rr) (fun g => []) := by
 refine FTi Tryd.func60 fun w0 M0 F0 => ?_
 refine Fb 16 0 fun hl1 => ?_
 refine FoS 0 fun ho2 => ?_
 refine KS ?_
 refine Oq Va (KS ?_)
 refine Oq Vm (Oq Vm ?_)
 refine letv (slices_IndexFunc_string s fp) fun rv3 hg4 => ?_
 have hc5 := fn69 s sa0 sk0 fF fC fp fA hfc hfF rv3 hg4
 refine Oc [0, 1] ca69 hc5 ?_
 rintro - he6
 unfold i64ok at he6
 refine Oq Vgeq (Oq Va (KS ?_))
 have hq := q4 hrr (decide (0 ≤ rv3)) (by simp only [slices_ContainsFunc_string, hg4, cs4]); subst hq
 exact Kr () rfl (.tmp rfl .nil) [] trivial
theorem fn61 (n : Str) (kwLA : Option Addr) (kwLK : Nat) (hn_0 : n.b.length ≤ 140737488355328) (rr : Bool) (hrr : syntax_valid_1 n = rr) : FT Tryd.prog 61 #[.string (bs n)] [pv (gp 0) [vl kwLA kwLK kwL], S kwLA kwLK kwL] (fun g : Unit => True) (fun g => vb rr) (fun g => []) := by
 refine FTi Tryd.func61 fun w0 M0 F0 => ?_
 refine Fb 16 1 fun hl1 => ?_
 refine FoS 1 fun ho2 => ?_
 refine KS ?_
 refine Oq Va (KS ?_)
 refine Oq Vm ?_
 refine letv (lexer_IsName n) fun rv3 hg4 => ?_
 have hc5 := fn44 n kwLA kwLK pre rv3 hg4
 refine Oc [0, 1] ca44 hc5 ?_
 rintro - -
 refine Oq Vnot (Oq Va (KS ?_))
 have hq := q4 hrr (!rv3) (by simp only [syntax_valid_1, hg4, cs4]); subst hq
 exact Kr () rfl (.tmp rfl .nil) [] trivial
theorem fn47 (s : GStmt) (sa2 : Option Addr) (sk2 : Nat) (sa3 : Option Addr) (sk3 : Nat) (kwLA : Option Addr) (kwLK : Nat) (hs_0 : i64ok s.Op) (hs_1 : s.Def.b.length ≤ 140737488355328) (hsm : SSm s = true) (rr : Bool) (hrr : syntax_valid s = rr) : FT Tryd.prog 47 #[.agg #[vi s.Op, .string (bs s.Def), vl sa2 sk2 s.Uses, vl sa3 sk3 s.Targets]] [S sa2 sk2 s.Uses, S sa3 sk3 s.Targets, pv (gp 0) [vl kwLA kwLK kwL], S kwLA kwLK kwL] (fun g : Unit => True) (fun g => vb rr) (fun g => []) := by
 refine FTi Tryd.func47 fun w0 M0 F0 => ?_
 unfold i64ok at hs_0
 refine Fb 16 0 fun hl1 => ?_
 refine FoS 0 fun ho2 => ?_
 refine Fb 16 1 fun hl3 => ?_
 refine FoS 1 fun ho4 => ?_
 refine Fb 16 3 fun hl5 => ?_
 refine FoS 3 fun ho6 => ?_
 have hsl := SSm_l hsm
 refine KS ?_
 refine Oa (Ab [vi s.Op, .string (bs s.Def), vl sa2 sk2 s.Uses, vl sa3 sk3 s.Targets]) fun p7 => Oq Va (KS ?_)
 refine Kq [0, 1, 3, 0, 15, 31] fmix ?_
 refine Qv [0] (Vfa fo51_2 0) (Qv [0] (VldF sh40 0) (Qv [] (Vlen sl40) (Qv [] Va (Qv [] Va (Qv [] Va ?_)))))
 refine Qn ⟨by kernel_rfl, ?_⟩
 refine KS ?_
 refine Oq (Vfa fo51_0 0) (Oq (VldF sh3 0) (KS ?_))
 refine Oq Veql (Oq Va (KS ?_))
 refine Kc ?_ ?_
 · intro h8
   have g9 := eq_of_beq h8
   refine Ke ?_
   refine KS ?_
   refine Oq Va (KS ?_)
   refine Ke ?_
   refine KS ?_
   refine JK_drawK [0, 1, 3, 0, 8, 31, 63] fmix ?_
   refine Dv [0] (Vfa fo51_2 0) (Dv [0] (VldF sh40 0) ?_)
   refine letv (slices_Clone_string s.Uses) fun rv11 hg12 => ?_
   refine Dx [1] [] [2, 0, 1] (fun G => (G.g 2 0)) [fun G => SP.fact ((rv11.length = s.Uses.length)), fun G => os (G.g 2 0) rv11] (fun G => xC [0] ca59 (fn59 s.Uses sa2 sk2 rv11 hg12)) (Dv [0] (Vfa fo51_3 0) (Dv [0] (VldF sh40 0) ?_))
   have hn14 := la rv11 s.Targets
   refine Dx [2, 5, 6] [6] [1, 2, 0] (fun G => (G.g 5 0)) [fun G => os (G.g 5 0) (rv11 ++ s.Targets)] (fun G => by refine xf 1 rfl ?_; rintro he15; exact xA (Ap [2, 0] sl40 sl40 sz40)) (Dg [] (fun G => (G.g 5 0)) (fun G => Va) ?_)
   refine Dn ⟨by kernel_rfl, fun G => ?_⟩
   refine Jw2 [(1, p7), (4, vi (s.Uses.length : Int)), (5, vi 0), (3, vi 1), (6, (G.g 5 0))] [0, 1, 2, 3, 4] [SP.fact ((rv11.length = s.Uses.length)), os (G.g 5 0) (rv11 ++ s.Targets)] ?_
   generalize G.g 5 0 = c13
   refine Jf 5 rfl ?_; rintro he16
   refine Jk [0, 1, 2, 3, 4, 6] ?_
   refine Jo 5 ?_; rintro a17 k18 rfl
   refine Fb 16 5 fun hl19 => ?_
   refine FoS 5 fun ho20 => ?_
   refine KS ?_
   refine Oq Vm (Oq Veql (KS ?_))
   refine Kt ?_
   refine KS ?_
   refine Oq Vm (Oq (Vfa fo51_1 0) (Oq (VldF sh9 0) (Oa (AsV sl40 sz40 [.string (bs s.Def)] [.string (bs s.Def)]) fun c21 => ?_)))
   refine Jo 0 ?_; rintro a22 k23 rfl
   refine Jl [0] (Ent.cr1 (α := Str) (A := []) _ s.Def _ (Nat.le_of_ble_eq_true rfl) (fun _ => ⟨rfl, by first | omega | (simp; done) | (dsimp only; omega) | exact lit_bl rfl⟩)) ?_
   refine Oa (ApO [6, 0] sl40 sl40 sz40) fun c24 => ?_
   refine Jo 0 ?_; rintro a25 k26 rfl
   refine Fb 16 0 fun hl27 => ?_
   refine FoS 0 fun ho28 => ?_
   have hn29 := la (rv11 ++ s.Targets) ([s.Def] : List Str)
   refine Oq Va (KS ?_)
   refine Oq Vm (Oq Veql (Oq Vm (Osk (Osk (Osk (Oq Vpt (Oq Vm (Oq (Vfa fo51_2 1) (Oq (VldF sh40 1) ?_)))))))))
   refine Oq (Vlen sl40) (Oq Vm (Oq Veql (Oq Vpt (Oq Vm ?_))))
   refine Js 64 ?_ ?_
   · intro h30
     have g31 := eq_of_beq h30
     refine Oq Vm (Oq Vleq (Oq Vpt (Oq Vm ?_)))
     refine Js 68 ?_ ?_
     · intro h32
       have g33 := of_decide_eq_true h32
       refine Oq (Vfa fo51_3 1) (Oq (VldF sh40 1) (Oq (Vlen sl40) (Oq Vm (Oq Veql (Oq Vpt (Oq Vm ?_))))))
       refine Js 75 ?_ ?_
       · intro h34
         have g35 := eq_of_beq h34
         refine Oq Vm ?_
         refine Jl [0] (Ent.freeze _ _) ?_
         refine JJ_ent (Ent.pall [4, 5] rfl rfl) ?_
         refine letv (slices_ContainsFunc_string ((rv11 ++ s.Targets) ++ [s.Def]) (fun x => syntax_valid_1 x)) fun rv36 hg37 => ?_
         have hc38 := fn60 (((rv11 ++ s.Targets) ++ [s.Def])) a25 k26 61 [] (fun x => syntax_valid_1 x) [pv (gp 0) [vl kwLA kwLK kwL], S kwLA kwLK kwL] ca61 (fun x hx hq0 => FT_pall (A1 := _) (fn61 x  kwLA kwLK hq0 _ rfl)) rv36 hg37
         refine Oc [1, 0] ca60 hc38 ?_
         rintro - -
         refine Oq Vnot (Oq Vpt (Oq Va (KS ?_)))
         have hq := q4 hrr (!rv36) (by simp only [syntax_valid, h8, h30, h32, h34, hg12, hg37, cs4]); subst hq
         exact Kr () rfl (.tmp rfl .nil) [] trivial
       intro h34
       have g39 := ne_of_beq_false h34
       refine Osk (Osk (Osk (Oq Vpf (Oq Va (KS ?_)))))
       have hq := q4 hrr false (by simp only [syntax_valid, h8, h30, h32, h34, hg12, cs4]); subst hq
       exact Kr () rfl (.tmp rfl .nil) [] trivial
     intro h32
     have g40 := of_decide_eq_false h32
     refine Osk (Osk (Osk (Osk (Osk (Oq Vpf (Oq Vm (Osk (Osk (Osk ?_)))))))))
     refine Oq Vpf (Oq Va (KS ?_))
     have hq := q4 hrr false (by simp only [syntax_valid, h8, h30, h32, hg12, cs4]); subst hq
     exact Kr () rfl (.tmp rfl .nil) [] trivial
   intro h30
   have g41 := ne_of_beq_false h30
   refine Osk (Osk (Oq Vpf (Oq Vm (Osk (Osk (Osk (Osk (Osk (Oq Vpf ?_)))))))))
   refine Oq Vm (Osk (Osk (Osk (Oq Vpf (Oq Va (KS ?_))))))
   have hq := q4 hrr false (by simp only [syntax_valid, h8, h30, hg12, cs4]); subst hq
   exact Kr () rfl (.tmp rfl .nil) [] trivial
 intro h8
 have g42 := ne_of_beq_false h8
 refine KS ?_
 refine Oq Veql (Oq Va (KS ?_))
 refine Kc ?_ ?_
 · intro h43
   have g44 := eq_of_beq h43
   refine Ke ?_
   refine KS ?_
   refine Oq Vm (Oq Vmax (Oq Va (KS ?_)))
   refine Ke ?_
   refine KS ?_
   refine JK_drawK [0, 1, 3, 0, 8, 31, 63] fmix ?_
   refine Dv [0] (Vfa fo51_2 0) (Dv [0] (VldF sh40 0) ?_)
   refine letv (slices_Clone_string s.Uses) fun rv46 hg47 => ?_
   refine Dx [1] [] [2, 0, 1] (fun G => (G.g 2 0)) [fun G => SP.fact ((rv46.length = s.Uses.length)), fun G => os (G.g 2 0) rv46] (fun G => xC [0] ca59 (fn59 s.Uses sa2 sk2 rv46 hg47)) (Dv [0] (Vfa fo51_3 0) (Dv [0] (VldF sh40 0) ?_))
   have hn49 := la rv46 s.Targets
   refine Dx [2, 5, 6] [6] [1, 2, 0] (fun G => (G.g 5 0)) [fun G => os (G.g 5 0) (rv46 ++ s.Targets)] (fun G => by refine xf 1 rfl ?_; rintro he50; exact xA (Ap [2, 0] sl40 sl40 sz40)) (Dg [] (fun G => (G.g 5 0)) (fun G => Va) ?_)
   refine Dn ⟨by kernel_rfl, fun G => ?_⟩
   refine Jw2 [(1, p7), (3, vi 0), (5, vi 0), (4, vi (max (s.Uses.length : Int) 1)), (6, (G.g 5 0))] [0, 1, 2, 3, 4] [SP.fact ((rv46.length = s.Uses.length)), os (G.g 5 0) (rv46 ++ s.Targets)] ?_
   generalize G.g 5 0 = c48
   refine Jf 5 rfl ?_; rintro he51
   refine Jk [0, 1, 2, 3, 4, 6] ?_
   refine Jo 5 ?_; rintro a52 k53 rfl
   refine Fb 16 5 fun hl54 => ?_
   refine FoS 5 fun ho55 => ?_
   refine KS ?_
   refine Oq Vm (Oq Veql (KS ?_))
   refine Kf ?_
   refine KS ?_
   refine Oq Vm (Oq Veql (Oq Vm (Oq (Vfa fo51_1 0) (Oq (VldF sh9 0) (Oq (VeqS (l := s.Def) (m := (Str.mk []))) (Oq Vpf (Oq Vm ?_)))))))
   refine Js 57 ?_ ?_
   · intro h56
     have g57 := eq_of_beq h56
     refine Oq (Vfa fo51_2 0) (Oq (VldF sh40 0) (Oq (Vlen sl40) (Oq Vm (Oq Veql (Oq Vpt (Oq Vm ?_))))))
     refine Js 64 ?_ ?_
     · intro h58
       have g59 := eq_of_beq h58
       refine Oq Vm (Oq Vleq (Oq Vpt (Oq Vm ?_)))
       refine Js 68 ?_ ?_
       · intro h60
         have g61 := of_decide_eq_true h60
         refine Oq (Vfa fo51_3 0) (Oq (VldF sh40 0) (Oq (Vlen sl40) (Oq Vm (Oq Veql (Oq Vpt (Oq Vm ?_))))))
         refine Js 75 ?_ ?_
         · intro h62
           have g63 := eq_of_beq h62
           refine Oq Vm ?_
           refine Jl [5] (Ent.freeze _ _) ?_
           refine JJ_ent (Ent.pall [4, 5] rfl rfl) ?_
           refine letv (slices_ContainsFunc_string (rv46 ++ s.Targets) (fun x => syntax_valid_1 x)) fun rv64 hg65 => ?_
           have hc66 := fn60 ((rv46 ++ s.Targets)) a52 k53 61 [] (fun x => syntax_valid_1 x) [pv (gp 0) [vl kwLA kwLK kwL], S kwLA kwLK kwL] ca61 (fun x hx hq0 => FT_pall (A1 := _) (fn61 x  kwLA kwLK hq0 _ rfl)) rv64 hg65
           refine Oc [1, 0] ca60 hc66 ?_
           rintro - -
           refine Oq Vnot (Oq Vpt (Oq Va (KS ?_)))
           have hq := q4 hrr (!rv64) (by simp only [syntax_valid, h8, h43, h56, h58, h60, h62, hg47, hg65, cs4]); subst hq
           exact Kr () rfl (.tmp rfl .nil) [] trivial
         intro h62
         have g67 := ne_of_beq_false h62
         refine Osk (Osk (Osk (Oq Vpf (Oq Va (KS ?_)))))
         have hq := q4 hrr false (by simp only [syntax_valid, h8, h43, h56, h58, h60, h62, hg47, cs4]); subst hq
         exact Kr () rfl (.tmp rfl .nil) [] trivial
       intro h60
       have g68 := of_decide_eq_false h60
       refine Osk (Osk (Osk (Osk (Osk (Oq Vpf (Oq Vm (Osk (Osk (Osk ?_)))))))))
       refine Oq Vpf (Oq Va (KS ?_))
       have hq := q4 hrr false (by simp only [syntax_valid, h8, h43, h56, h58, h60, hg47, cs4]); subst hq
       exact Kr () rfl (.tmp rfl .nil) [] trivial
     intro h58
     have g69 := ne_of_beq_false h58
     refine Osk (Osk (Oq Vpf (Oq Vm (Osk (Osk (Osk (Osk (Osk (Oq Vpf ?_)))))))))
     refine Oq Vm (Osk (Osk (Osk (Oq Vpf (Oq Va (KS ?_))))))
     have hq := q4 hrr false (by simp only [syntax_valid, h8, h43, h56, h58, hg47, cs4]); subst hq
     exact Kr () rfl (.tmp rfl .nil) [] trivial
   intro h56
   have g70 := ne_of_beq_false h56
   refine Osk (Osk (Osk (Osk (Osk (Oq Vpf (Oq Vm (Osk (Osk (Oq Vpf ?_)))))))))
   refine Oq Vm (Osk (Osk (Osk (Osk (Osk (Oq Vpf (Oq Vm (Osk (Osk ?_)))))))))
   refine Osk (Oq Vpf (Oq Va (KS ?_)))
   have hq := q4 hrr false (by simp only [syntax_valid, h8, h43, h56, hg47, cs4]); subst hq
   exact Kr () rfl (.tmp rfl .nil) [] trivial
 intro h43
 have g71 := ne_of_beq_false h43
 refine KS ?_
 refine Oq Veql (Oq Va (KS ?_))
 refine Kc ?_ ?_
 · intro h72
   have g73 := eq_of_beq h72
   refine Ke ?_
   refine KS ?_
   refine Oq Va (KS ?_)
   refine Ke ?_
   refine KS ?_
   refine JK_drawK [0, 1, 3, 0, 8, 31, 63] fmix ?_
   refine Dv [0] (Vfa fo51_2 0) (Dv [0] (VldF sh40 0) ?_)
   refine letv (slices_Clone_string s.Uses) fun rv75 hg76 => ?_
   refine Dx [1] [] [2, 0, 1] (fun G => (G.g 2 0)) [fun G => SP.fact ((rv75.length = s.Uses.length)), fun G => os (G.g 2 0) rv75] (fun G => xC [0] ca59 (fn59 s.Uses sa2 sk2 rv75 hg76)) (Dv [0] (Vfa fo51_3 0) (Dv [0] (VldF sh40 0) ?_))
   have hn78 := la rv75 s.Targets
   refine Dx [2, 5, 6] [6] [1, 2, 0] (fun G => (G.g 5 0)) [fun G => os (G.g 5 0) (rv75 ++ s.Targets)] (fun G => by refine xf 1 rfl ?_; rintro he79; exact xA (Ap [2, 0] sl40 sl40 sz40)) (Dg [] (fun G => (G.g 5 0)) (fun G => Va) ?_)
   refine Dn ⟨by kernel_rfl, fun G => ?_⟩
   refine Jw2 [(1, p7), (3, vi 0), (5, vi 0), (4, vi 1), (6, (G.g 5 0))] [0, 1, 2, 3, 4] [SP.fact ((rv75.length = s.Uses.length)), os (G.g 5 0) (rv75 ++ s.Targets)] ?_
   generalize G.g 5 0 = c77
   refine Jf 5 rfl ?_; rintro he80
   refine Jk [0, 1, 2, 3, 4, 6] ?_
   refine Jo 5 ?_; rintro a81 k82 rfl
   refine Fb 16 5 fun hl83 => ?_
   refine FoS 5 fun ho84 => ?_
   refine KS ?_
   refine Oq Vm (Oq Veql (KS ?_))
   refine Kf ?_
   refine KS ?_
   refine Oq Vm (Oq Veql (Oq Vm (Oq (Vfa fo51_1 0) (Oq (VldF sh9 0) (Oq (VeqS (l := s.Def) (m := (Str.mk []))) (Oq Vpf (Oq Vm ?_)))))))
   refine Js 57 ?_ ?_
   · intro h85
     have g86 := eq_of_beq h85
     refine Oq (Vfa fo51_2 0) (Oq (VldF sh40 0) (Oq (Vlen sl40) (Oq Vm (Oq Veql (Oq Vpt (Oq Vm ?_))))))
     refine Js 64 ?_ ?_
     · intro h87
       have g88 := eq_of_beq h87
       refine Oq Vm (Oq Vleq (Oq Vpt (Oq Vm (Oq (Vfa fo51_3 0) (Oq (VldF sh40 0) (Oq (Vlen sl40) (Oq Vm (Oq Veql (Oq Vpt ?_)))))))))
       refine Oq Vm ?_
       refine Js 75 ?_ ?_
       · intro h89
         have g90 := eq_of_beq h89
         refine Oq Vm ?_
         refine Jl [5] (Ent.freeze _ _) ?_
         refine JJ_ent (Ent.pall [4, 5] rfl rfl) ?_
         refine letv (slices_ContainsFunc_string (rv75 ++ s.Targets) (fun x => syntax_valid_1 x)) fun rv91 hg92 => ?_
         have hc93 := fn60 ((rv75 ++ s.Targets)) a81 k82 61 [] (fun x => syntax_valid_1 x) [pv (gp 0) [vl kwLA kwLK kwL], S kwLA kwLK kwL] ca61 (fun x hx hq0 => FT_pall (A1 := _) (fn61 x  kwLA kwLK hq0 _ rfl)) rv91 hg92
         refine Oc [1, 0] ca60 hc93 ?_
         rintro - -
         refine Oq Vnot (Oq Vpt (Oq Va (KS ?_)))
         have hq := q4 hrr (!rv91) (by simp only [syntax_valid, h8, h43, h72, h85, h87, h89, hg76, hg92, cs4]); subst hq
         exact Kr () rfl (.tmp rfl .nil) [] trivial
       intro h89
       have g94 := ne_of_beq_false h89
       refine Osk (Osk (Osk (Oq Vpf (Oq Va (KS ?_)))))
       have hq := q4 hrr false (by simp only [syntax_valid, h8, h43, h72, h85, h87, h89, hg76, cs4]); subst hq
       exact Kr () rfl (.tmp rfl .nil) [] trivial
     intro h87
     have g95 := ne_of_beq_false h87
     refine Osk (Osk (Oq Vpf (Oq Vm (Osk (Osk (Osk (Osk (Osk (Oq Vpf ?_)))))))))
     refine Oq Vm (Osk (Osk (Osk (Oq Vpf (Oq Va (KS ?_))))))
     have hq := q4 hrr false (by simp only [syntax_valid, h8, h43, h72, h85, h87, hg76, cs4]); subst hq
     exact Kr () rfl (.tmp rfl .nil) [] trivial
   intro h85
   have g96 := ne_of_beq_false h85
   refine Osk (Osk (Osk (Osk (Osk (Oq Vpf (Oq Vm (Osk (Osk (Oq Vpf ?_)))))))))
   refine Oq Vm (Osk (Osk (Osk (Osk (Osk (Oq Vpf (Oq Vm (Osk (Osk ?_)))))))))
   refine Osk (Oq Vpf (Oq Va (KS ?_)))
   have hq := q4 hrr false (by simp only [syntax_valid, h8, h43, h72, h85, hg76, cs4]); subst hq
   exact Kr () rfl (.tmp rfl .nil) [] trivial
 intro h72
 have g97 := ne_of_beq_false h72
 refine KS ?_
 refine Oq Veql (Oq Va (KS ?_))
 refine Kc ?_ ?_
 · intro h98
   have g99 := eq_of_beq h98
   refine KS ?_
   refine Kc ?_ ?_
   · intro h100
     have g101 := eq_of_beq h100
     refine Ke ?_
     refine KS ?_
     refine Oq Va (KS ?_)
     refine Oq Va (KS ?_)
     refine Ke ?_
     refine KS ?_
     refine JK_drawK [0, 1, 3, 0, 8, 31, 63] fmix ?_
     refine Dv [0] (Vfa fo51_2 0) (Dv [0] (VldF sh40 0) ?_)
     refine letv (slices_Clone_string s.Uses) fun rv103 hg104 => ?_
     refine Dx [1] [] [2, 0, 1] (fun G => (G.g 2 0)) [fun G => SP.fact ((rv103.length = s.Uses.length)), fun G => os (G.g 2 0) rv103] (fun G => xC [0] ca59 (fn59 s.Uses sa2 sk2 rv103 hg104)) (Dv [0] (Vfa fo51_3 0) (Dv [0] (VldF sh40 0) ?_))
     have hn106 := la rv103 s.Targets
     refine Dx [2, 5, 6] [6] [1, 2, 0] (fun G => (G.g 5 0)) [fun G => os (G.g 5 0) (rv103 ++ s.Targets)] (fun G => by refine xf 1 rfl ?_; rintro he107; exact xA (Ap [2, 0] sl40 sl40 sz40)) (Dg [] (fun G => (G.g 5 0)) (fun G => Va) ?_)
     refine Dn ⟨by kernel_rfl, fun G => ?_⟩
     refine Jw2 [(1, p7), (5, vi 0), (3, vi 1), (4, vi 0), (6, (G.g 5 0))] [0, 1, 2, 3, 4] [SP.fact ((rv103.length = s.Uses.length)), os (G.g 5 0) (rv103 ++ s.Targets)] ?_
     generalize G.g 5 0 = c105
     refine Jf 5 rfl ?_; rintro he108
     refine Jk [0, 1, 2, 3, 4, 6] ?_
     refine Jo 5 ?_; rintro a109 k110 rfl
     refine Fb 16 5 fun hl111 => ?_
     refine FoS 5 fun ho112 => ?_
     refine KS ?_
     refine Oq Vm (Oq Veql (KS ?_))
     refine Kt ?_
     refine KS ?_
     refine Oq Vm (Oq (Vfa fo51_1 0) (Oq (VldF sh9 0) (Oa (AsV sl40 sz40 [.string (bs s.Def)] [.string (bs s.Def)]) fun c113 => ?_)))
     refine Jo 0 ?_; rintro a114 k115 rfl
     refine Jl [0] (Ent.cr1 (α := Str) (A := []) _ s.Def _ (Nat.le_of_ble_eq_true rfl) (fun _ => ⟨rfl, by first | omega | (simp; done) | (dsimp only; omega) | exact lit_bl rfl⟩)) ?_
     refine Oa (ApO [6, 0] sl40 sl40 sz40) fun c116 => ?_
     refine Jo 0 ?_; rintro a117 k118 rfl
     refine Fb 16 0 fun hl119 => ?_
     refine FoS 0 fun ho120 => ?_
     have hn121 := la (rv103 ++ s.Targets) ([s.Def] : List Str)
     refine Oq Va (KS ?_)
     refine Oq Vm (Oq Veql (Oq Vm (Osk (Osk (Osk (Oq Vpt (Oq Vm (Oq (Vfa fo51_2 1) (Oq (VldF sh40 1) ?_)))))))))
     refine Oq (Vlen sl40) (Oq Vm (Oq Veql (Oq Vpt (Oq Vm ?_))))
     refine Js 64 ?_ ?_
     · intro h122
       have g123 := eq_of_beq h122
       refine Oq Vm (Oq Vleq (Oq Vpt (Oq Vm (Oq (Vfa fo51_3 1) (Oq (VldF sh40 1) (Oq (Vlen sl40) (Oq Vm (Oq Veql (Oq Vpt ?_)))))))))
       refine Oq Vm ?_
       refine Js 75 ?_ ?_
       · intro h124
         have g125 := eq_of_beq h124
         refine Oq Vm ?_
         refine Jl [0] (Ent.freeze _ _) ?_
         refine JJ_ent (Ent.pall [4, 5] rfl rfl) ?_
         refine letv (slices_ContainsFunc_string ((rv103 ++ s.Targets) ++ [s.Def]) (fun x => syntax_valid_1 x)) fun rv126 hg127 => ?_
         have hc128 := fn60 (((rv103 ++ s.Targets) ++ [s.Def])) a117 k118 61 [] (fun x => syntax_valid_1 x) [pv (gp 0) [vl kwLA kwLK kwL], S kwLA kwLK kwL] ca61 (fun x hx hq0 => FT_pall (A1 := _) (fn61 x  kwLA kwLK hq0 _ rfl)) rv126 hg127
         refine Oc [1, 0] ca60 hc128 ?_
         rintro - -
         refine Oq Vnot (Oq Vpt (Oq Va (KS ?_)))
         have hq := q4 hrr (!rv126) (by simp only [syntax_valid, h8, h43, h72, h98, h100, h122, h124, hg104, hg127, cs4]); subst hq
         exact Kr () rfl (.tmp rfl .nil) [] trivial
       intro h124
       have g129 := ne_of_beq_false h124
       refine Osk (Osk (Osk (Oq Vpf (Oq Va (KS ?_)))))
       have hq := q4 hrr false (by simp only [syntax_valid, h8, h43, h72, h98, h100, h122, h124, hg104, cs4]); subst hq
       exact Kr () rfl (.tmp rfl .nil) [] trivial
     intro h122
     have g130 := ne_of_beq_false h122
     refine Osk (Osk (Oq Vpf (Oq Vm (Osk (Osk (Osk (Osk (Osk (Oq Vpf ?_)))))))))
     refine Oq Vm (Osk (Osk (Osk (Oq Vpf (Oq Va (KS ?_))))))
     have hq := q4 hrr false (by simp only [syntax_valid, h8, h43, h72, h98, h100, h122, hg104, cs4]); subst hq
     exact Kr () rfl (.tmp rfl .nil) [] trivial
   intro h100
   exact absurd h100 (by first | (simp [h98]; done) | (simp only [bne, h98]; decide) | (simp only [bne, h98, Bool.not_true, Bool.not_false]; decide) | (exfalso; omega) | (intro hq; simp only [bne, hq, Bool.not_false, Bool.not_true, reduceCtorEq] at h98))
 intro h98
 have g131 := ne_of_beq_false h98
 refine KS ?_
 refine Oq Veql (Oq Va (KS ?_))
 refine Kc ?_ ?_
 · intro h132
   have g133 := eq_of_beq h132
   refine Ke ?_
   refine KS ?_
   refine Oq Va (KS ?_)
   refine Oq Va (KS ?_)
   refine Ke ?_
   refine KS ?_
   refine JK_drawK [0, 1, 3, 0, 8, 31, 63] fmix ?_
   refine Dv [0] (Vfa fo51_2 0) (Dv [0] (VldF sh40 0) ?_)
   refine letv (slices_Clone_string s.Uses) fun rv135 hg136 => ?_
   refine Dx [1] [] [2, 0, 1] (fun G => (G.g 2 0)) [fun G => SP.fact ((rv135.length = s.Uses.length)), fun G => os (G.g 2 0) rv135] (fun G => xC [0] ca59 (fn59 s.Uses sa2 sk2 rv135 hg136)) (Dv [0] (Vfa fo51_3 0) (Dv [0] (VldF sh40 0) ?_))
   have hn138 := la rv135 s.Targets
   refine Dx [2, 5, 6] [6] [1, 2, 0] (fun G => (G.g 5 0)) [fun G => os (G.g 5 0) (rv135 ++ s.Targets)] (fun G => by refine xf 1 rfl ?_; rintro he139; exact xA (Ap [2, 0] sl40 sl40 sz40)) (Dg [] (fun G => (G.g 5 0)) (fun G => Va) ?_)
   refine Dn ⟨by kernel_rfl, fun G => ?_⟩
   refine Jw2 [(1, p7), (5, vi 0), (3, vi 1), (4, vi 0), (6, (G.g 5 0))] [0, 1, 2, 3, 4] [SP.fact ((rv135.length = s.Uses.length)), os (G.g 5 0) (rv135 ++ s.Targets)] ?_
   generalize G.g 5 0 = c137
   refine Jf 5 rfl ?_; rintro he140
   refine Jk [0, 1, 2, 3, 4, 6] ?_
   refine Jo 5 ?_; rintro a141 k142 rfl
   refine Fb 16 5 fun hl143 => ?_
   refine FoS 5 fun ho144 => ?_
   refine KS ?_
   refine Oq Vm (Oq Veql (KS ?_))
   refine Kt ?_
   refine KS ?_
   refine Oq Vm (Oq (Vfa fo51_1 0) (Oq (VldF sh9 0) (Oa (AsV sl40 sz40 [.string (bs s.Def)] [.string (bs s.Def)]) fun c145 => ?_)))
   refine Jo 0 ?_; rintro a146 k147 rfl
   refine Jl [0] (Ent.cr1 (α := Str) (A := []) _ s.Def _ (Nat.le_of_ble_eq_true rfl) (fun _ => ⟨rfl, by first | omega | (simp; done) | (dsimp only; omega) | exact lit_bl rfl⟩)) ?_
   refine Oa (ApO [6, 0] sl40 sl40 sz40) fun c148 => ?_
   refine Jo 0 ?_; rintro a149 k150 rfl
   refine Fb 16 0 fun hl151 => ?_
   refine FoS 0 fun ho152 => ?_
   have hn153 := la (rv135 ++ s.Targets) ([s.Def] : List Str)
   refine Oq Va (KS ?_)
   refine Oq Vm (Oq Veql (Oq Vm (Osk (Osk (Osk (Oq Vpt (Oq Vm (Oq (Vfa fo51_2 1) (Oq (VldF sh40 1) ?_)))))))))
   refine Oq (Vlen sl40) (Oq Vm (Oq Veql (Oq Vpt (Oq Vm ?_))))
   refine Js 64 ?_ ?_
   · intro h154
     have g155 := eq_of_beq h154
     refine Oq Vm (Oq Vleq (Oq Vpt (Oq Vm (Oq (Vfa fo51_3 1) (Oq (VldF sh40 1) (Oq (Vlen sl40) (Oq Vm (Oq Veql (Oq Vpt ?_)))))))))
     refine Oq Vm ?_
     refine Js 75 ?_ ?_
     · intro h156
       have g157 := eq_of_beq h156
       refine Oq Vm ?_
       refine Jl [0] (Ent.freeze _ _) ?_
       refine JJ_ent (Ent.pall [4, 5] rfl rfl) ?_
       refine letv (slices_ContainsFunc_string ((rv135 ++ s.Targets) ++ [s.Def]) (fun x => syntax_valid_1 x)) fun rv158 hg159 => ?_
       have hc160 := fn60 (((rv135 ++ s.Targets) ++ [s.Def])) a149 k150 61 [] (fun x => syntax_valid_1 x) [pv (gp 0) [vl kwLA kwLK kwL], S kwLA kwLK kwL] ca61 (fun x hx hq0 => FT_pall (A1 := _) (fn61 x  kwLA kwLK hq0 _ rfl)) rv158 hg159
       refine Oc [1, 0] ca60 hc160 ?_
       rintro - -
       refine Oq Vnot (Oq Vpt (Oq Va (KS ?_)))
       have hq := q4 hrr (!rv158) (by simp only [syntax_valid, h8, h43, h72, h98, h132, h154, h156, hg136, hg159, cs4]); subst hq
       exact Kr () rfl (.tmp rfl .nil) [] trivial
     intro h156
     have g161 := ne_of_beq_false h156
     refine Osk (Osk (Osk (Oq Vpf (Oq Va (KS ?_)))))
     have hq := q4 hrr false (by simp only [syntax_valid, h8, h43, h72, h98, h132, h154, h156, hg136, cs4]); subst hq
     exact Kr () rfl (.tmp rfl .nil) [] trivial
   intro h154
   have g162 := ne_of_beq_false h154
   refine Osk (Osk (Oq Vpf (Oq Vm (Osk (Osk (Osk (Osk (Osk (Oq Vpf ?_)))))))))
   refine Oq Vm (Osk (Osk (Osk (Oq Vpf (Oq Va (KS ?_))))))
   have hq := q4 hrr false (by simp only [syntax_valid, h8, h43, h72, h98, h132, h154, hg136, cs4]); subst hq
   exact Kr () rfl (.tmp rfl .nil) [] trivial
 intro h132
 have g163 := ne_of_beq_false h132
 refine KS ?_
 refine Oq Veql (Oq Va (KS ?_))
 refine Kc ?_ ?_
 · intro h164
   have g165 := eq_of_beq h164
   refine Ke ?_
   refine KS ?_
   refine Oq Va (KS ?_)
   refine Oq Vm (Oq Vadd (Oq Va (KS ?_)))
   refine Oq Vm (Oq Vadd (Oq Va (KS ?_)))
   refine Oq (Vfa fo51_0 0) (Oq (VldF sh3 0) (Oq Vneq (KS ?_)))
   refine Kc ?_ ?_
   · intro h166
     exact absurd h166 (by first | (simp [h164]; done) | (simp only [bne, h164]; decide) | (simp only [bne, h164, Bool.not_true, Bool.not_false]; decide) | (exfalso; omega) | (intro hq; simp only [bne, hq, Bool.not_false, Bool.not_true, reduceCtorEq] at h164))
   intro h166
   have g167 := eq_of_bne_false h166
   refine KS ?_
   refine Ke ?_
   refine KS ?_
   refine JK_drawK [0, 1, 3, 0, 8, 31, 63] fmix ?_
   refine Dv [0] (Vfa fo51_2 0) (Dv [0] (VldF sh40 0) ?_)
   refine letv (slices_Clone_string s.Uses) fun rv169 hg170 => ?_
   refine Dx [1] [] [2, 0, 1] (fun G => (G.g 2 0)) [fun G => SP.fact ((rv169.length = s.Uses.length)), fun G => os (G.g 2 0) rv169] (fun G => xC [0] ca59 (fn59 s.Uses sa2 sk2 rv169 hg170)) (Dv [0] (Vfa fo51_3 0) (Dv [0] (VldF sh40 0) ?_))
   have hn172 := la rv169 s.Targets
   refine Dx [2, 5, 6] [6] [1, 2, 0] (fun G => (G.g 5 0)) [fun G => os (G.g 5 0) (rv169 ++ s.Targets)] (fun G => by refine xf 1 rfl ?_; rintro he173; exact xA (Ap [2, 0] sl40 sl40 sz40)) (Dg [] (fun G => (G.g 5 0)) (fun G => Va) ?_)
   refine Dn ⟨by kernel_rfl, fun G => ?_⟩
   refine Jw2 [(1, p7), (3, vi 0), (4, vi 1), (5, vi ((0 + 1) + 1)), (6, (G.g 5 0))] [0, 1, 2, 3, 4] [SP.fact ((rv169.length = s.Uses.length)), os (G.g 5 0) (rv169 ++ s.Targets)] ?_
   generalize G.g 5 0 = c171
   refine Jf 5 rfl ?_; rintro he174
   refine Jk [0, 1, 2, 3, 4, 6] ?_
   refine Jo 5 ?_; rintro a175 k176 rfl
   refine Fb 16 5 fun hl177 => ?_
   refine FoS 5 fun ho178 => ?_
   refine KS ?_
   refine Oq Vm (Oq Veql (KS ?_))
   refine Kf ?_
   refine KS ?_
   refine Oq Vm (Oq Veql (Oq Vm (Oq (Vfa fo51_1 0) (Oq (VldF sh9 0) (Oq (VeqS (l := s.Def) (m := (Str.mk []))) (Oq Vpf (Oq Vm ?_)))))))
   refine Js 57 ?_ ?_
   · intro h179
     have g180 := eq_of_beq h179
     refine Oq (Vfa fo51_2 0) (Oq (VldF sh40 0) (Oq (Vlen sl40) (Oq Vm (Oq Veql (Oq Vpt (Oq Vm ?_))))))
     refine Js 64 ?_ ?_
     · intro h181
       have g182 := eq_of_beq h181
       refine Oq Vm (Oq Vleq (Oq Vpt (Oq Vm (Oq (Vfa fo51_3 0) (Oq (VldF sh40 0) (Oq (Vlen sl40) (Oq Vm (Oq Veql (Oq Vpt ?_)))))))))
       refine Oq Vm ?_
       refine Js 75 ?_ ?_
       · intro h183
         have g184 := eq_of_beq h183
         refine Oq Vm ?_
         refine Jl [5] (Ent.freeze _ _) ?_
         refine JJ_ent (Ent.pall [4, 5] rfl rfl) ?_
         refine letv (slices_ContainsFunc_string (rv169 ++ s.Targets) (fun x => syntax_valid_1 x)) fun rv185 hg186 => ?_
         have hc187 := fn60 ((rv169 ++ s.Targets)) a175 k176 61 [] (fun x => syntax_valid_1 x) [pv (gp 0) [vl kwLA kwLK kwL], S kwLA kwLK kwL] ca61 (fun x hx hq0 => FT_pall (A1 := _) (fn61 x  kwLA kwLK hq0 _ rfl)) rv185 hg186
         refine Oc [1, 0] ca60 hc187 ?_
         rintro - -
         refine Oq Vnot (Oq Vpt (Oq Va (KS ?_)))
         have hq := q4 hrr (!rv185) (by simp only [syntax_valid, h8, h43, h72, h98, h132, h164, h166, h179, h181, h183, hg170, hg186, cs4]); subst hq
         exact Kr () rfl (.tmp rfl .nil) [] trivial
       intro h183
       have g188 := ne_of_beq_false h183
       refine Osk (Osk (Osk (Oq Vpf (Oq Va (KS ?_)))))
       have hq := q4 hrr false (by simp only [syntax_valid, h8, h43, h72, h98, h132, h164, h166, h179, h181, h183, hg170, cs4]); subst hq
       exact Kr () rfl (.tmp rfl .nil) [] trivial
     intro h181
     have g189 := ne_of_beq_false h181
     refine Osk (Osk (Oq Vpf (Oq Vm (Osk (Osk (Osk (Osk (Osk (Oq Vpf ?_)))))))))
     refine Oq Vm (Osk (Osk (Osk (Oq Vpf (Oq Va (KS ?_))))))
     have hq := q4 hrr false (by simp only [syntax_valid, h8, h43, h72, h98, h132, h164, h166, h179, h181, hg170, cs4]); subst hq
     exact Kr () rfl (.tmp rfl .nil) [] trivial
   intro h179
   have g190 := ne_of_beq_false h179
   refine Osk (Osk (Osk (Osk (Osk (Oq Vpf (Oq Vm (Osk (Osk (Oq Vpf ?_)))))))))
   refine Oq Vm (Osk (Osk (Osk (Osk (Osk (Oq Vpf (Oq Vm (Osk (Osk ?_)))))))))
   refine Osk (Oq Vpf (Oq Va (KS ?_)))
   have hq := q4 hrr false (by simp only [syntax_valid, h8, h43, h72, h98, h132, h164, h166, h179, hg170, cs4]); subst hq
   exact Kr () rfl (.tmp rfl .nil) [] trivial
 intro h164
 have g191 := ne_of_beq_false h164
 refine KS ?_
 refine Oq Veql (Oq Va (KS ?_))
 refine Kc ?_ ?_
 · intro h192
   have g193 := eq_of_beq h192
   refine KS ?_
   refine Kc ?_ ?_
   · intro h194
     have g195 := eq_of_beq h194
     refine Ke ?_
     refine KS ?_
     refine Oq Vm (Oq Vadd (Oq Va (KS ?_)))
     refine Oq (Vfa fo51_0 0) (Oq (VldF sh3 0) (Oq Vneq (KS ?_)))
     refine Kc ?_ ?_
     · intro h196
       have g197 := ne_of_bne h196
       refine KS ?_
       refine Oq Va (KS ?_)
       refine Ke ?_
       refine KS ?_
       refine JK_drawK [0, 1, 3, 0, 8, 31, 63] fmix ?_
       refine Dv [0] (Vfa fo51_2 0) (Dv [0] (VldF sh40 0) ?_)
       refine letv (slices_Clone_string s.Uses) fun rv199 hg200 => ?_
       refine Dx [1] [] [2, 0, 1] (fun G => (G.g 2 0)) [fun G => SP.fact ((rv199.length = s.Uses.length)), fun G => os (G.g 2 0) rv199] (fun G => xC [0] ca59 (fn59 s.Uses sa2 sk2 rv199 hg200)) (Dv [0] (Vfa fo51_3 0) (Dv [0] (VldF sh40 0) ?_))
       have hn202 := la rv199 s.Targets
       refine Dx [2, 5, 6] [6] [1, 2, 0] (fun G => (G.g 5 0)) [fun G => os (G.g 5 0) (rv199 ++ s.Targets)] (fun G => by refine xf 1 rfl ?_; rintro he203; exact xA (Ap [2, 0] sl40 sl40 sz40)) (Dg [] (fun G => (G.g 5 0)) (fun G => Va) ?_)
       refine Dn ⟨by kernel_rfl, fun G => ?_⟩
       refine Jw2 [(1, p7), (3, vi 0), (5, vi (0 + 1)), (4, vi 0), (6, (G.g 5 0))] [0, 1, 2, 3, 4] [SP.fact ((rv199.length = s.Uses.length)), os (G.g 5 0) (rv199 ++ s.Targets)] ?_
       generalize G.g 5 0 = c201
       refine Jf 5 rfl ?_; rintro he204
       refine Jk [0, 1, 2, 3, 4, 6] ?_
       refine Jo 5 ?_; rintro a205 k206 rfl
       refine Fb 16 5 fun hl207 => ?_
       refine FoS 5 fun ho208 => ?_
       refine KS ?_
       refine Oq Vm (Oq Veql (KS ?_))
       refine Kf ?_
       refine KS ?_
       refine Oq Vm (Oq Veql (Oq Vm (Oq (Vfa fo51_1 0) (Oq (VldF sh9 0) (Oq (VeqS (l := s.Def) (m := (Str.mk []))) (Oq Vpf (Oq Vm ?_)))))))
       refine Js 57 ?_ ?_
       · intro h209
         have g210 := eq_of_beq h209
         refine Oq (Vfa fo51_2 0) (Oq (VldF sh40 0) (Oq (Vlen sl40) (Oq Vm (Oq Veql (Oq Vpt (Oq Vm ?_))))))
         refine Js 64 ?_ ?_
         · intro h211
           have g212 := eq_of_beq h211
           refine Oq Vm (Oq Vleq (Oq Vpt (Oq Vm (Oq (Vfa fo51_3 0) (Oq (VldF sh40 0) (Oq (Vlen sl40) (Oq Vm (Oq Veql (Oq Vpt ?_)))))))))
           refine Oq Vm ?_
           refine Js 75 ?_ ?_
           · intro h213
             have g214 := eq_of_beq h213
             refine Oq Vm ?_
             refine Jl [5] (Ent.freeze _ _) ?_
             refine JJ_ent (Ent.pall [4, 5] rfl rfl) ?_
             refine letv (slices_ContainsFunc_string (rv199 ++ s.Targets) (fun x => syntax_valid_1 x)) fun rv215 hg216 => ?_
             have hc217 := fn60 ((rv199 ++ s.Targets)) a205 k206 61 [] (fun x => syntax_valid_1 x) [pv (gp 0) [vl kwLA kwLK kwL], S kwLA kwLK kwL] ca61 (fun x hx hq0 => FT_pall (A1 := _) (fn61 x  kwLA kwLK hq0 _ rfl)) rv215 hg216
             refine Oc [1, 0] ca60 hc217 ?_
             rintro - -
             refine Oq Vnot (Oq Vpt (Oq Va (KS ?_)))
             have hq := q4 hrr (!rv215) (by simp only [syntax_valid, h8, h43, h72, h98, h132, h164, h192, h194, h196, h209, h211, h213, hg200, hg216, cs4]); subst hq
             exact Kr () rfl (.tmp rfl .nil) [] trivial
           intro h213
           have g218 := ne_of_beq_false h213
           refine Osk (Osk (Osk (Oq Vpf (Oq Va (KS ?_)))))
           have hq := q4 hrr false (by simp only [syntax_valid, h8, h43, h72, h98, h132, h164, h192, h194, h196, h209, h211, h213, hg200, cs4]); subst hq
           exact Kr () rfl (.tmp rfl .nil) [] trivial
         intro h211
         have g219 := ne_of_beq_false h211
         refine Osk (Osk (Oq Vpf (Oq Vm (Osk (Osk (Osk (Osk (Osk (Oq Vpf ?_)))))))))
         refine Oq Vm (Osk (Osk (Osk (Oq Vpf (Oq Va (KS ?_))))))
         have hq := q4 hrr false (by simp only [syntax_valid, h8, h43, h72, h98, h132, h164, h192, h194, h196, h209, h211, hg200, cs4]); subst hq
         exact Kr () rfl (.tmp rfl .nil) [] trivial
       intro h209
       have g220 := ne_of_beq_false h209
       refine Osk (Osk (Osk (Osk (Osk (Oq Vpf (Oq Vm (Osk (Osk (Oq Vpf ?_)))))))))
       refine Oq Vm (Osk (Osk (Osk (Osk (Osk (Oq Vpf (Oq Vm (Osk (Osk ?_)))))))))
       refine Osk (Oq Vpf (Oq Va (KS ?_)))
       have hq := q4 hrr false (by simp only [syntax_valid, h8, h43, h72, h98, h132, h164, h192, h194, h196, h209, hg200, cs4]); subst hq
       exact Kr () rfl (.tmp rfl .nil) [] trivial
     intro h196
     exact absurd h196 (by first | (simp [h164]; done) | (simp only [bne, h164]; decide) | (simp only [bne, h164, Bool.not_true, Bool.not_false]; decide) | (exfalso; omega) | (intro hq; simp only [bne, hq, Bool.not_false, Bool.not_true, reduceCtorEq] at h164))
   intro h194
   exact absurd h194 (by first | (simp [h192]; done) | (simp only [bne, h192]; decide) | (simp only [bne, h192, Bool.not_true, Bool.not_false]; decide) | (exfalso; omega) | (intro hq; simp only [bne, hq, Bool.not_false, Bool.not_true, reduceCtorEq] at h192))
 intro h192
 have g221 := ne_of_beq_false h192
 refine KS ?_
 refine Oq Veql (Oq Va (KS ?_))
 refine Kc ?_ ?_
 · intro h222
   have g223 := eq_of_beq h222
   refine Ke ?_
   refine KS ?_
   refine Oq Vm (Oq Vadd (Oq Va (KS ?_)))
   refine Oq (Vfa fo51_0 0) (Oq (VldF sh3 0) (Oq Vneq (KS ?_)))
   refine Kc ?_ ?_
   · intro h224
     have g225 := ne_of_bne h224
     refine KS ?_
     refine Oq Va (KS ?_)
     refine Ke ?_
     refine KS ?_
     refine JK_drawK [0, 1, 3, 0, 8, 31, 63] fmix ?_
     refine Dv [0] (Vfa fo51_2 0) (Dv [0] (VldF sh40 0) ?_)
     refine letv (slices_Clone_string s.Uses) fun rv227 hg228 => ?_
     refine Dx [1] [] [2, 0, 1] (fun G => (G.g 2 0)) [fun G => SP.fact ((rv227.length = s.Uses.length)), fun G => os (G.g 2 0) rv227] (fun G => xC [0] ca59 (fn59 s.Uses sa2 sk2 rv227 hg228)) (Dv [0] (Vfa fo51_3 0) (Dv [0] (VldF sh40 0) ?_))
     have hn230 := la rv227 s.Targets
     refine Dx [2, 5, 6] [6] [1, 2, 0] (fun G => (G.g 5 0)) [fun G => os (G.g 5 0) (rv227 ++ s.Targets)] (fun G => by refine xf 1 rfl ?_; rintro he231; exact xA (Ap [2, 0] sl40 sl40 sz40)) (Dg [] (fun G => (G.g 5 0)) (fun G => Va) ?_)
     refine Dn ⟨by kernel_rfl, fun G => ?_⟩
     refine Jw2 [(1, p7), (3, vi 0), (5, vi (0 + 1)), (4, vi 0), (6, (G.g 5 0))] [0, 1, 2, 3, 4] [SP.fact ((rv227.length = s.Uses.length)), os (G.g 5 0) (rv227 ++ s.Targets)] ?_
     generalize G.g 5 0 = c229
     refine Jf 5 rfl ?_; rintro he232
     refine Jk [0, 1, 2, 3, 4, 6] ?_
     refine Jo 5 ?_; rintro a233 k234 rfl
     refine Fb 16 5 fun hl235 => ?_
     refine FoS 5 fun ho236 => ?_
     refine KS ?_
     refine Oq Vm (Oq Veql (KS ?_))
     refine Kf ?_
     refine KS ?_
     refine Oq Vm (Oq Veql (Oq Vm (Oq (Vfa fo51_1 0) (Oq (VldF sh9 0) (Oq (VeqS (l := s.Def) (m := (Str.mk []))) (Oq Vpf (Oq Vm ?_)))))))
     refine Js 57 ?_ ?_
     · intro h237
       have g238 := eq_of_beq h237
       refine Oq (Vfa fo51_2 0) (Oq (VldF sh40 0) (Oq (Vlen sl40) (Oq Vm (Oq Veql (Oq Vpt (Oq Vm ?_))))))
       refine Js 64 ?_ ?_
       · intro h239
         have g240 := eq_of_beq h239
         refine Oq Vm (Oq Vleq (Oq Vpt (Oq Vm (Oq (Vfa fo51_3 0) (Oq (VldF sh40 0) (Oq (Vlen sl40) (Oq Vm (Oq Veql (Oq Vpt ?_)))))))))
         refine Oq Vm ?_
         refine Js 75 ?_ ?_
         · intro h241
           have g242 := eq_of_beq h241
           refine Oq Vm ?_
           refine Jl [5] (Ent.freeze _ _) ?_
           refine JJ_ent (Ent.pall [4, 5] rfl rfl) ?_
           refine letv (slices_ContainsFunc_string (rv227 ++ s.Targets) (fun x => syntax_valid_1 x)) fun rv243 hg244 => ?_
           have hc245 := fn60 ((rv227 ++ s.Targets)) a233 k234 61 [] (fun x => syntax_valid_1 x) [pv (gp 0) [vl kwLA kwLK kwL], S kwLA kwLK kwL] ca61 (fun x hx hq0 => FT_pall (A1 := _) (fn61 x  kwLA kwLK hq0 _ rfl)) rv243 hg244
           refine Oc [1, 0] ca60 hc245 ?_
           rintro - -
           refine Oq Vnot (Oq Vpt (Oq Va (KS ?_)))
           have hq := q4 hrr (!rv243) (by simp only [syntax_valid, h8, h43, h72, h98, h132, h164, h192, h222, h224, h237, h239, h241, hg228, hg244, cs4]); subst hq
           exact Kr () rfl (.tmp rfl .nil) [] trivial
         intro h241
         have g246 := ne_of_beq_false h241
         refine Osk (Osk (Osk (Oq Vpf (Oq Va (KS ?_)))))
         have hq := q4 hrr false (by simp only [syntax_valid, h8, h43, h72, h98, h132, h164, h192, h222, h224, h237, h239, h241, hg228, cs4]); subst hq
         exact Kr () rfl (.tmp rfl .nil) [] trivial
       intro h239
       have g247 := ne_of_beq_false h239
       refine Osk (Osk (Oq Vpf (Oq Vm (Osk (Osk (Osk (Osk (Osk (Oq Vpf ?_)))))))))
       refine Oq Vm (Osk (Osk (Osk (Oq Vpf (Oq Va (KS ?_))))))
       have hq := q4 hrr false (by simp only [syntax_valid, h8, h43, h72, h98, h132, h164, h192, h222, h224, h237, h239, hg228, cs4]); subst hq
       exact Kr () rfl (.tmp rfl .nil) [] trivial
     intro h237
     have g248 := ne_of_beq_false h237
     refine Osk (Osk (Osk (Osk (Osk (Oq Vpf (Oq Vm (Osk (Osk (Oq Vpf ?_)))))))))
     refine Oq Vm (Osk (Osk (Osk (Osk (Osk (Oq Vpf (Oq Vm (Osk (Osk ?_)))))))))
     refine Osk (Oq Vpf (Oq Va (KS ?_)))
     have hq := q4 hrr false (by simp only [syntax_valid, h8, h43, h72, h98, h132, h164, h192, h222, h224, h237, hg228, cs4]); subst hq
     exact Kr () rfl (.tmp rfl .nil) [] trivial
   intro h224
   exact absurd h224 (by first | (simp [h164]; done) | (simp only [bne, h164]; decide) | (simp only [bne, h164, Bool.not_true, Bool.not_false]; decide) | (exfalso; omega) | (intro hq; simp only [bne, hq, Bool.not_false, Bool.not_true, reduceCtorEq] at h164))
 intro h222
 have g249 := ne_of_beq_false h222
 refine KS ?_
 refine Oq Veql (Oq Va (KS ?_))
 refine Kc ?_ ?_
 · intro h250
   have g251 := eq_of_beq h250
   refine Ke ?_
   refine KS ?_
   refine Oq Va (KS ?_)
   refine Ke ?_
   refine KS ?_
   refine JK_drawK [0, 1, 3, 0, 8, 31, 63] fmix ?_
   refine Dv [0] (Vfa fo51_2 0) (Dv [0] (VldF sh40 0) ?_)
   refine letv (slices_Clone_string s.Uses) fun rv253 hg254 => ?_
   refine Dx [1] [] [2, 0, 1] (fun G => (G.g 2 0)) [fun G => SP.fact ((rv253.length = s.Uses.length)), fun G => os (G.g 2 0) rv253] (fun G => xC [0] ca59 (fn59 s.Uses sa2 sk2 rv253 hg254)) (Dv [0] (Vfa fo51_3 0) (Dv [0] (VldF sh40 0) ?_))
   have hn256 := la rv253 s.Targets
   refine Dx [2, 5, 6] [6] [1, 2, 0] (fun G => (G.g 5 0)) [fun G => os (G.g 5 0) (rv253 ++ s.Targets)] (fun G => by refine xf 1 rfl ?_; rintro he257; exact xA (Ap [2, 0] sl40 sl40 sz40)) (Dg [] (fun G => (G.g 5 0)) (fun G => Va) ?_)
   refine Dn ⟨by kernel_rfl, fun G => ?_⟩
   refine Jw2 [(1, p7), (3, vi 0), (5, vi 0), (4, vi 0), (6, (G.g 5 0))] [0, 1, 2, 3, 4] [SP.fact ((rv253.length = s.Uses.length)), os (G.g 5 0) (rv253 ++ s.Targets)] ?_
   generalize G.g 5 0 = c255
   refine Jf 5 rfl ?_; rintro he258
   refine Jk [0, 1, 2, 3, 4, 6] ?_
   refine Jo 5 ?_; rintro a259 k260 rfl
   refine Fb 16 5 fun hl261 => ?_
   refine FoS 5 fun ho262 => ?_
   refine KS ?_
   refine Oq Vm (Oq Veql (KS ?_))
   refine Kf ?_
   refine KS ?_
   refine Oq Vm (Oq Veql (Oq Vm (Oq (Vfa fo51_1 0) (Oq (VldF sh9 0) (Oq (VeqS (l := s.Def) (m := (Str.mk []))) (Oq Vpf (Oq Vm ?_)))))))
   refine Js 57 ?_ ?_
   · intro h263
     have g264 := eq_of_beq h263
     refine Oq (Vfa fo51_2 0) (Oq (VldF sh40 0) (Oq (Vlen sl40) (Oq Vm (Oq Veql (Oq Vpt (Oq Vm ?_))))))
     refine Js 64 ?_ ?_
     · intro h265
       have g266 := eq_of_beq h265
       refine Oq Vm (Oq Vleq (Oq Vpt (Oq Vm (Oq (Vfa fo51_3 0) (Oq (VldF sh40 0) (Oq (Vlen sl40) (Oq Vm (Oq Veql (Oq Vpt ?_)))))))))
       refine Oq Vm ?_
       refine Js 75 ?_ ?_
       · intro h267
         have g268 := eq_of_beq h267
         refine Oq Vm ?_
         refine Jl [5] (Ent.freeze _ _) ?_
         refine JJ_ent (Ent.pall [4, 5] rfl rfl) ?_
         refine letv (slices_ContainsFunc_string (rv253 ++ s.Targets) (fun x => syntax_valid_1 x)) fun rv269 hg270 => ?_
         have hc271 := fn60 ((rv253 ++ s.Targets)) a259 k260 61 [] (fun x => syntax_valid_1 x) [pv (gp 0) [vl kwLA kwLK kwL], S kwLA kwLK kwL] ca61 (fun x hx hq0 => FT_pall (A1 := _) (fn61 x  kwLA kwLK hq0 _ rfl)) rv269 hg270
         refine Oc [1, 0] ca60 hc271 ?_
         rintro - -
         refine Oq Vnot (Oq Vpt (Oq Va (KS ?_)))
         have hq := q4 hrr (!rv269) (by simp only [syntax_valid, h8, h43, h72, h98, h132, h164, h192, h222, h250, h263, h265, h267, hg254, hg270, cs4]); subst hq
         exact Kr () rfl (.tmp rfl .nil) [] trivial
       intro h267
       have g272 := ne_of_beq_false h267
       refine Osk (Osk (Osk (Oq Vpf (Oq Va (KS ?_)))))
       have hq := q4 hrr false (by simp only [syntax_valid, h8, h43, h72, h98, h132, h164, h192, h222, h250, h263, h265, h267, hg254, cs4]); subst hq
       exact Kr () rfl (.tmp rfl .nil) [] trivial
     intro h265
     have g273 := ne_of_beq_false h265
     refine Osk (Osk (Oq Vpf (Oq Vm (Osk (Osk (Osk (Osk (Osk (Oq Vpf ?_)))))))))
     refine Oq Vm (Osk (Osk (Osk (Oq Vpf (Oq Va (KS ?_))))))
     have hq := q4 hrr false (by simp only [syntax_valid, h8, h43, h72, h98, h132, h164, h192, h222, h250, h263, h265, hg254, cs4]); subst hq
     exact Kr () rfl (.tmp rfl .nil) [] trivial
   intro h263
   have g274 := ne_of_beq_false h263
   refine Osk (Osk (Osk (Osk (Osk (Oq Vpf (Oq Vm (Osk (Osk (Oq Vpf ?_)))))))))
   refine Oq Vm (Osk (Osk (Osk (Osk (Osk (Oq Vpf (Oq Vm (Osk (Osk ?_)))))))))
   refine Osk (Oq Vpf (Oq Va (KS ?_)))
   have hq := q4 hrr false (by simp only [syntax_valid, h8, h43, h72, h98, h132, h164, h192, h222, h250, h263, hg254, cs4]); subst hq
   exact Kr () rfl (.tmp rfl .nil) [] trivial
 intro h250
 have g275 := ne_of_beq_false h250
 refine KS ?_
 refine Ke ?_
 refine KS ?_
 refine Oq Va (KS ?_)
 have hq := q4 hrr false (by simp only [syntax_valid, h8, h43, h72, h98, h132, h164, h192, h222, h250, cs4]); subst hq
 exact Kr () rfl (.tmp rfl .nil) [] trivial
theorem fn46 (s : GStmt) (sa2 : Option Addr) (sk2 : Nat) (sa3 : Option Addr) (sk3 : Nat) (kwLA : Option Addr) (kwLK : Nat) (hs_0 : i64ok s.Op) (hs_1 : s.Def.b.length ≤ 140737488355328) (hsm : SSm s = true) (rr : Bool) (hrr : syntax_Valid_1 s = rr) : FT Tryd.prog 46 #[.agg #[vi s.Op, .string (bs s.Def), vl sa2 sk2 s.Uses, vl sa3 sk3 s.Targets]] [S sa2 sk2 s.Uses, S sa3 sk3 s.Targets, pv (gp 0) [vl kwLA kwLK kwL], S kwLA kwLK kwL] (fun g : Unit => True) (fun g => vb rr) (fun g => []) := by
 refine FTi Tryd.func46 fun w0 M0 F0 => ?_
 unfold i64ok at hs_0
 refine Fb 16 0 fun hl1 => ?_
 refine FoS 0 fun ho2 => ?_
 refine Fb 16 1 fun hl3 => ?_
 refine FoS 1 fun ho4 => ?_
 refine Fb 16 3 fun hl5 => ?_
 refine FoS 3 fun ho6 => ?_
 refine KS ?_
 refine Oa (Ab [vi s.Op, .string (bs s.Def), vl sa2 sk2 s.Uses, vl sa3 sk3 s.Targets]) fun p7 => Oq Va (KS ?_)
 refine Oq (VldA sh51 0) ?_
 refine letv (syntax_valid s) fun rv8 hg9 => ?_
 have hc10 := fn47 s sa2 sk2 sa3 sk3 kwLA kwLK pre pre pre rv8 hg9
 refine Oc [1, 2, 3, 4] ca47 hc10 ?_
 rintro - -
 refine Oq Vnot (Oq Va (KS ?_))
 have hq := q4 hrr (!rv8) (by simp only [syntax_Valid_1, hg9, cs4]); subst hq
 exact Kr () rfl (.tmp rfl .nil) [] trivial
theorem fn27 (p : GProgram) (pa0 : Option Addr) (pk0 : Nat) (kwLA : Option Addr) (kwLK : Nat) (hps : PSm p = true) (rr : Bool) (hrr : syntax_Valid p = rr) : FT Tryd.prog 27 #[.agg #[vl pa0 pk0 p.Funcs]] [S pa0 pk0 p.Funcs, pv (gp 0) [vl kwLA kwLK kwL], S kwLA kwLK kwL] (fun g : Unit => True) (fun g => vb rr) (fun g => []) := by
 refine FTi Tryd.func27 fun w0 M0 F0 => ?_
 refine Fb 40 0 fun hl1 => ?_
 refine Fb 16 2 fun hl2 => ?_
 refine FoS 2 fun ho3 => ?_
 refine KS ?_
 refine Oa (Ab [vl pa0 pk0 p.Funcs]) fun p4 => Oq Va (KS ?_)
 refine Oq (Vfa fo27_0 0) (Oq (VldF sh25 0) (Oq (Vlen sl25) (Oq Vlss (Oq Vm ?_))))
 refine Js 11 ?_ ?_
 · intro h5
   have g6 := of_decide_eq_true h5
   refine Osk (Osk (Osk (Osk (Oq Vpt (KS ?_)))))
   refine Kt ?_
   refine KS ?_
   refine Oq Va (KS ?_)
   have hq := q4 hrr false (by simp only [syntax_Valid, h5, cs4]); subst hq
   exact Kr () rfl (.tmp rfl .nil) [] trivial
 intro h5
 have g7 := of_decide_eq_false h5
 refine Oq (Vfa fo27_0 0) (Oq (VldF sh25 0) (Oq (Vlen sl25) (Oq Vgtr (Oq Vpf (KS ?_)))))
 refine Kc ?_ ?_
 · intro h8
   have g9 := of_decide_eq_true h8
   have hfm := PSm_f hps (i := 8) (by omega)
   refine KS ?_
   refine Oq Va (KS ?_)
   have hq := q4 hrr false (by simp only [syntax_Valid, h5, h8, cs4]); subst hq
   exact Kr () rfl (.tmp rfl .nil) [] trivial
 intro h8
 have g10 := of_decide_eq_false h8
 refine KS ?_
 refine Oq (Vfa fo27_0 0) (Oq (VldF sh25 0) (Oq (Vlen sl25) (Oq Vm (KS ?_))))
 refine Kl (γ := Nat × Int) (fun (r11, v20_12) => ⟨[(18, vl pa0 pk0 p.Funcs), (19, vi (p.Funcs.length : Int)), (20, vi v20_12)], [S pa0 pk0 p.Funcs, pv (gp 0) [vl kwLA kwLK kwL], S kwLA kwLK kwL], syntax_Valid_L0 p r11 v20_12 = syntax_Valid_L0 p (((p.Funcs.length : Int) - 0).toNat) 0 ∧ r11 = ((p.Funcs.length : Int) - v20_12).toNat ∧ (0 : Int) ≤ v20_12 ∧ v20_12 ≤ (p.Funcs.length : Int) ∧ (-9223372036854775808 ≤ v20_12 ∧ v20_12 ≤ 9223372036854775807), r11⟩) (((p.Funcs.length : Int) - 0).toNat, 0) [1, 2, 3] ⟨rfl, rfl, (by omega), (by omega), (by omega)⟩ ?_
 rintro ⟨r11, v20_12⟩ ⟨hM13, hr14, hi15, hi16, hk17⟩
 refine JJ_nx fun _ _ hL hA => ?_; dsimp only at hL hA; subst hL hA
 refine Fb 40 0 fun hl18 => ?_
 refine Fb 16 2 fun hl19 => ?_
 refine FoS 2 fun ho20 => ?_
 refine KS ?_
 refine Oq Vlss (KS ?_)
 refine Kc ?_ ?_
 · intro h21
   have g22 := of_decide_eq_true h21
   have hfm := PSm_f hps (i := v20_12) (by omega)
   obtain ⟨r23, rfl⟩ := scc (n := r11) (by omega)
   refine KS ?_
   refine Oq (Vi sl25 0) ?_
   refine JJ_peek_GFunc v20_12.toNat 0 rfl rng fun a24 k25 hb26 => ?_
   refine Fb 40 1 fun hl27 => ?_
   refine Oq (VldA sh45 0) (Oa (Al ze45 [.string (bs (Str.mk [])), .slice none 0 0]) fun p28 => Ost (Scl [0] sh45 [.string (bs ((p.Funcs.getD v20_12.toNat default).Name)), vl a24 k25 ((p.Funcs.getD v20_12.toNat default).Blocks)]) (KS ?_))
   refine Oq (Vfa fo45_0 0) (Oq (VldF sh9 0) ?_)
   refine letv (lexer_IsName ((p.Funcs.getD v20_12.toNat default).Name)) fun rv29 hg30 => ?_
   have hc31 := fn44 ((p.Funcs.getD v20_12.toNat default).Name) kwLA kwLK pre rv29 hg30
   refine Oc [4, 5] ca44 hc31 ?_
   rintro - -
   refine Oq Vnot (Oq Vm ?_)
   refine Js 28 ?_ ?_
   · intro h32
     have h34 := not_true h32
     refine Osk (Osk (Osk (Osk (Oq Vpt (Oq Vm (Osk (Osk (Osk (Osk ?_)))))))))
     refine Oq Vpt (KS ?_)
     refine Kt ?_
     refine KS ?_
     refine Oq Va (KS ?_)
     have hR36 := q2 hM13 (.ret false) (by simp only [syntax_Valid_L0, h5, h8, h21, h32, h34, hg30, cs4])
     have hq := q4 hrr false (by simp only [syntax_Valid, h5, h8, h21, h32, h34, hg30, hR36, cs4]); subst hq
     exact Kr () rfl (.tmp rfl .nil) [] trivial
   intro h32
   have h38 := not_false h32
   refine Oq (Vfa fo45_1 0) (Oq (VldF sh43 0) (Oq (Vlen sl43) (Oq Vlss (Oq Vpf (Oq Vm ?_)))))
   refine Js 34 ?_ ?_
   · intro h40
     have g41 := of_decide_eq_true h40
     refine Osk (Osk (Osk (Osk (Oq Vpt (KS ?_)))))
     refine Kt ?_
     refine KS ?_
     refine Oq Va (KS ?_)
     have hR42 := q2 hM13 (.ret false) (by simp only [syntax_Valid_L0, h5, h8, h21, h32, h38, h40, hg30, cs4])
     have hq := q4 hrr false (by simp only [syntax_Valid, h5, h8, h21, h32, h38, h40, hg30, hR42, cs4]); subst hq
     exact Kr () rfl (.tmp rfl .nil) [] trivial
   intro h40
   have g43 := of_decide_eq_false h40
   refine Oq (Vfa fo45_1 0) (Oq (VldF sh43 0) (Oq (Vlen sl43) (Oq Vgtr (Oq Vpf (KS ?_)))))
   refine Kc ?_ ?_
   · intro h44
     have g45 := of_decide_eq_true h44
     have hbm := FSm_b hfm (i := 16) (by omega)
     refine KS ?_
     refine Oq Va (KS ?_)
     have hR46 := q2 hM13 (.ret false) (by simp only [syntax_Valid_L0, h5, h8, h21, h32, h38, h40, h44, hg30, cs4])
     have hq := q4 hrr false (by simp only [syntax_Valid, h5, h8, h21, h32, h38, h40, h44, hg30, hR46, cs4]); subst hq
     exact Kr () rfl (.tmp rfl .nil) [] trivial
   intro h44
   have g47 := of_decide_eq_false h44
   refine KS ?_
   refine Oq (Vfa fo45_1 0) (Oq (VldF sh43 0) (Oq (Vlen sl43) (Oq Vm (KS ?_))))
   refine Kl (γ := Nat × Int) (fun (r48, v43_49) => ⟨[(18, vl pa0 pk0 p.Funcs), (19, vi (p.Funcs.length : Int)), (20, vi v20_12), (41, vl a24 k25 ((p.Funcs.getD v20_12.toNat default).Blocks)), (42, vi (((p.Funcs.getD v20_12.toNat default).Blocks).length : Int)), (43, vi v43_49)], [S a24 k25 ((p.Funcs.getD v20_12.toNat default).Blocks), S pa0 pk0 p.Funcs, pv (gp 0) [vl kwLA kwLK kwL], S kwLA kwLK kwL], syntax_Valid_L1 ((p.Funcs.getD v20_12.toNat default).Blocks) r48 v43_49 = syntax_Valid_L1 ((p.Funcs.getD v20_12.toNat default).Blocks) ((((((p.Funcs.getD v20_12.toNat default).Blocks).length : Int) : Int) - 0).toNat) 0 ∧ r48 = (((((p.Funcs.getD v20_12.toNat default).Blocks).length : Int) : Int) - v43_49).toNat ∧ (0 : Int) ≤ v43_49 ∧ (v43_49 ≤ (((p.Funcs.getD v20_12.toNat default).Blocks).length : Int) ∨ v43_49 = 0) ∧ (-9223372036854775808 ≤ v43_49 ∧ v43_49 ≤ 9223372036854775807), r48⟩) ((((((p.Funcs.getD v20_12.toNat default).Blocks).length : Int) : Int) - 0).toNat, 0) [2, 3, 4, 5] ⟨rfl, rfl, (by omega), (.inr rfl), (by omega)⟩ ?_
   rintro ⟨r48, v43_49⟩ ⟨hM50, hr51, hi52, hi53, hk54⟩
   refine JJ_nx fun _ _ hL hA => ?_; dsimp only at hL hA; subst hL hA
   refine Fb 40 0 fun hl55 => ?_
   refine Fb 40 1 fun hl56 => ?_
   refine Fb 16 3 fun hl57 => ?_
   refine FoS 3 fun ho58 => ?_
   refine KS ?_
   refine Oq Vlss (KS ?_)
   refine Kc ?_ ?_
   · intro h59
     have g60 := of_decide_eq_true h59
     have hbm := FSm_b hfm (i := v43_49) (by omega)
     obtain ⟨r61, rfl⟩ := scc (n := r48) (by omega)
     refine KS ?_
     refine Oq (Vi sl43 0) ?_
     refine JJ_peek_GBlock v43_49.toNat 0 rfl rng fun a62 k63 hb64 => ?_
     refine Fb 72 1 fun hl65 => ?_
     refine Oq (VldA sh49 0) (Oa (Al ze49 [.string (bs (Str.mk [])), .slice none 0 0]) fun p66 => Ost (Scl [0] sh49 [.string (bs ((((p.Funcs.getD v20_12.toNat default).Blocks).getD v43_49.toNat default).Name)), .slice a62 (((((p.Funcs.getD v20_12.toNat default).Blocks).getD v43_49.toNat default).Stmts).length) k63]) (KS ?_))
     refine Oq (Vfa fo49_0 0) (Oq (VldF sh9 0) ?_)
     refine letv (lexer_IsName ((((p.Funcs.getD v20_12.toNat default).Blocks).getD v43_49.toNat default).Name)) fun rv67 hg68 => ?_
     have hc69 := fn44 ((((p.Funcs.getD v20_12.toNat default).Blocks).getD v43_49.toNat default).Name) kwLA kwLK pre rv67 hg68
     refine Oc [5, 6] ca44 hc69 ?_
     rintro - -
     refine Oq Vnot (Oq Vm ?_)
     refine Js 51 ?_ ?_
     · intro h70
       have h72 := not_true h70
       refine Osk (Osk (Osk (Osk (Oq Vpt (Oq Vm (Osk (Osk (Osk (Osk ?_)))))))))
       refine Oq Vpt (Oq Vm (Osk (Osk (Osk (Oq Vpt (KS ?_))))))
       refine Kt ?_
       refine KS ?_
       refine Oq Va (KS ?_)
       have hR74 := q2 hM50 (.ret false) (by simp only [syntax_Valid_L1, h5, h8, h21, h32, h38, h40, h44, h59, h70, h72, hg30, hg68, cs4])
       have hR75 := q2 hM13 (.ret false) (by simp only [syntax_Valid_L0, h5, h8, h21, h32, h38, h40, h44, h59, h70, h72, hg30, hg68, hR74, cs4])
       have hq := q4 hrr false (by simp only [syntax_Valid, h5, h8, h21, h32, h38, h40, h44, h59, h70, h72, hg30, hg68, hR74, hR75, cs4]); subst hq
       exact Kr () rfl (.tmp rfl .nil) [] trivial
     intro h70
     have h77 := not_false h70
     refine Oq (Vfa fo49_1 0) (Oq (VldF sh47 0) (Oq (Vlen sl47) (Oq Vlss (Oq Vpf (Oq Vm ?_)))))
     refine Js 57 ?_ ?_
     · intro h79
       have g80 := of_decide_eq_true h79
       refine Osk (Osk (Osk (Osk (Oq Vpt (Oq Vm (Osk (Osk (Osk (Oq Vpt ?_)))))))))
       refine KS ?_
       refine Kt ?_
       refine KS ?_
       refine Oq Va (KS ?_)
       have hR81 := q2 hM50 (.ret false) (by simp only [syntax_Valid_L1, h5, h8, h21, h32, h38, h40, h44, h59, h70, h77, h79, hg30, hg68, cs4])
       have hR82 := q2 hM13 (.ret false) (by simp only [syntax_Valid_L0, h5, h8, h21, h32, h38, h40, h44, h59, h70, h77, h79, hg30, hg68, hR81, cs4])
       have hq := q4 hrr false (by simp only [syntax_Valid, h5, h8, h21, h32, h38, h40, h44, h59, h70, h77, h79, hg30, hg68, hR81, hR82, cs4]); subst hq
       exact Kr () rfl (.tmp rfl .nil) [] trivial
     intro h79
     have g83 := of_decide_eq_false h79
     refine Oq (Vfa fo49_1 0) (Oq (VldF sh47 0) (Oq (Vlen sl47) (Oq Vgtr (Oq Vpf (Oq Vm ?_)))))
     refine Js 63 ?_ ?_
     · intro h84
       have g85 := of_decide_eq_true h84
       refine Osk (Osk (Osk (Oq Vpt (KS ?_))))
       refine Kt ?_
       refine KS ?_
       refine Oq Va (KS ?_)
       have hR86 := q2 hM50 (.ret false) (by simp only [syntax_Valid_L1, h5, h8, h21, h32, h38, h40, h44, h59, h70, h77, h79, h84, hg30, hg68, cs4])
       have hR87 := q2 hM13 (.ret false) (by simp only [syntax_Valid_L0, h5, h8, h21, h32, h38, h40, h44, h59, h70, h77, h79, h84, hg30, hg68, hR86, cs4])
       have hq := q4 hrr false (by simp only [syntax_Valid, h5, h8, h21, h32, h38, h40, h44, h59, h70, h77, h79, h84, hg30, hg68, hR86, hR87, cs4]); subst hq
       exact Kr () rfl (.tmp rfl .nil) [] trivial
     intro h84
     have g88 := of_decide_eq_false h84
     refine Oq (Vfa fo49_1 0) (Oq (VldF sh47 0) ?_)
     refine JJ_ent (Ent.pall [5, 6] rfl rfl) ?_
     refine letv (slices_ContainsFunc_Stmt ((((p.Funcs.getD v20_12.toNat default).Blocks).getD v43_49.toNat default).Stmts) (fun x => syntax_Valid_1 x)) fun rv89 hg90 => ?_
     have hc91 := fn45 ((((p.Funcs.getD v20_12.toNat default).Blocks).getD v43_49.toNat default).Stmts) a62 k63 46 [] (fun x => syntax_Valid_1 x) [pv (gp 0) [vl kwLA kwLK kwL], S kwLA kwLK kwL] ca46 (fun x hx a2 k2 a3 k3 hq0 hq1 => FT_pall (A1 := _) (fn46 x a2 k2 a3 k3 kwLA kwLK hq0 hq1 (BSm_m hbm hx) _ rfl)) rv89 hg90
     refine Oc [3, 0] ca45 hc91 ?_
     rintro - -
     refine Oq Vpf (KS ?_)
     refine Kc ?_ ?_
     · intro h92
       refine KS ?_
       refine Oq Va (KS ?_)
       have hR94 := q2 hM50 (.ret false) (by simp only [syntax_Valid_L1, h5, h8, h21, h32, h38, h40, h44, h59, h70, h77, h79, h84, h92, hg30, hg68, hg90, cs4])
       have hR95 := q2 hM13 (.ret false) (by simp only [syntax_Valid_L0, h5, h8, h21, h32, h38, h40, h44, h59, h70, h77, h79, h84, h92, hg30, hg68, hg90, hR94, cs4])
       have hq := q4 hrr false (by simp only [syntax_Valid, h5, h8, h21, h32, h38, h40, h44, h59, h70, h77, h79, h84, h92, hg30, hg68, hg90, hR94, hR95, cs4]); subst hq
       exact Kr () rfl (.tmp rfl .nil) [] trivial
     intro h92
     refine KS ?_
     refine Oq Vadd (Oq Vm (KS ?_))
     exact Kg (r61, (v43_49 + 1)) [4, 5, 6, 7] ⟨(q3 hM50 (by simp only [syntax_Valid_L1, h5, h8, h21, h32, h38, h40, h44, h59, h70, h77, h79, h84, h92, hg30, hg68, hg90, cs4])), (by omega), (by omega), (by omega), (by omega)⟩
   intro h59
   have g97 := of_decide_eq_false h59
   obtain rfl : r48 = 0 := by omega
   refine Ke ?_
   have hR98 := q2 hM50 (.brk ()) (by simp only [syntax_Valid_L1, h5, h8, h21, h32, h38, h40, h44, h59, hg30, cs4])
   refine KS ?_
   refine Oq Vadd (Oq Vm (KS ?_))
   exact Kg (r23, (v20_12 + 1)) [1, 2, 3] ⟨(q3 hM13 (by simp only [syntax_Valid_L0, h5, h8, h21, h32, h38, h40, h44, h59, hg30, hR98, cs4])), (by omega), (by omega), (by omega), (by omega)⟩
 intro h21
 have g99 := of_decide_eq_false h21
 obtain rfl : r11 = 0 := by omega
 refine Ke ?_
 have hR100 := q2 hM13 (.brk ()) (by simp only [syntax_Valid_L0, h5, h8, h21, cs4])
 refine KS ?_
 refine Oq Va (KS ?_)
 have hq := q4 hrr true (by simp only [syntax_Valid, h5, h8, h21, hR100, cs4]); subst hq
 exact Kr () rfl (.tmp rfl .nil) [] trivial
theorem fn32 (s : GStmt) (sa2 : Option Addr) (sk2 : Nat) (sa3 : Option Addr) (sk3 : Nat) (cap0P : Value) (cap0 : Int) (cap1P : Value) (cap1 : Int) (hs_0 : i64ok s.Op) (hs_1 : s.Def.b.length ≤ 140737488355328) (hcap0_0 : i64ok cap0) (hcap1_0 : i64ok cap1) (hn : 0 ≤ cap0 ∧ cap0 ≤ 100000 ∧ 0 ≤ cap1 ∧ cap1 ≤ 100000) (rr : Int × Int) (hrr : validate_Sizes_1 s cap0 cap1 = rr) : FT Tryd.prog 32 #[.agg #[vi s.Op, .string (bs s.Def), vl sa2 sk2 s.Uses, vl sa3 sk3 s.Targets], cap0P, cap1P] [S sa2 sk2 s.Uses, S sa3 sk3 s.Targets, Cl cap0P [vi cap0], Cl cap1P [vi cap1]] (fun g : Unit => i64ok rr.1 ∧ i64ok rr.2 ∧ (cap0 ≤ rr.1 ∧ rr.1 ≤ cap0 + 2 ∧ cap1 ≤ rr.2 ∧ rr.2 ≤ cap1 + 3)) (fun g => .tuple #[]) (fun g => [Cl cap0P [vi rr.1], Cl cap1P [vi rr.2]]) := by
 refine FTi Tryd.func32 fun w0 M0 F0 => ?_
 unfold i64ok at hs_0 hcap0_0 hcap1_0
 refine Fb 16 0 fun hl1 => ?_
 refine FoS 0 fun ho2 => ?_
 refine Fb 16 1 fun hl3 => ?_
 refine FoS 1 fun ho4 => ?_
 refine KS ?_
 refine Oa (Ab [vi s.Op, .string (bs s.Def), vl sa2 sk2 s.Uses, vl sa3 sk3 s.Targets]) fun p5 => KS ?_
 refine Oq (Vld sh3 3) (Oq Vadd (Ost (Scl [3] sh3 [vi (cap0 + 1)]) (KS ?_)))
 refine Oq (Vfa fo51_0 1) (Oq (VldF sh3 1) (KS ?_))
 refine Oq Veql (Oq Va (KS ?_))
 refine Kc ?_ ?_
 · intro h6
   have g7 := eq_of_beq h6
   refine KS ?_
   refine Oq (Vld sh3 0) (Oq Vadd (Ost (Scl [0] sh3 [vi ((cap0 + 1) + 1)]) (KS ?_)))
   refine Oq (Vld sh3 4) (Oq Vadd (Ost (Scl [4] sh3 [vi (cap1 + 3)]) (KS ?_)))
   have hq := q4 hrr (((cap0 + 1) + 1), (cap1 + 3)) (by simp only [validate_Sizes_1, h6, cs4]); subst hq
   exact Kz () rfl .nil [1, 0] en
 intro h6
 have g8 := ne_of_beq_false h6
 refine KS ?_
 refine Oq Veql (Oq Va (KS ?_))
 refine Kc ?_ ?_
 · intro h9
   have g10 := eq_of_beq h9
   refine KS ?_
   refine Oq (Vld sh3 4) (Oq Vadd (Ost (Scl [4] sh3 [vi (cap1 + 2)]) (KS ?_)))
   have hq := q4 hrr ((cap0 + 1), (cap1 + 2)) (by simp only [validate_Sizes_1, h6, h9, cs4]); subst hq
   exact Kz () rfl .nil [1, 0] en
 intro h9
 have g11 := ne_of_beq_false h9
 refine KS ?_
 refine Oq (Vld sh3 4) (Oq Vadd (Ost (Scl [4] sh3 [vi (cap1 + 1)]) (KS ?_)))
 have hq := q4 hrr ((cap0 + 1), (cap1 + 1)) (by simp only [validate_Sizes_1, h6, h9, cs4]); subst hq
 exact Kz () rfl .nil [1, 0] en
theorem fn31m0 (p : GProgram) (pa0 : Option Addr) (pk0 : Nat) (st0P : Value) (st0 : Int) (st1P : Value) (st1 : Int) (kwLA : Option Addr) (kwLK : Nat) (hst0_0 : i64ok st0) (hst1_0 : i64ok st1) (hps : PSm p = true) (hn : 0 ≤ st0 ∧ st0 ≤ 100 ∧ 0 ≤ st1 ∧ st1 ≤ 100) (rr : Int × Int) (hrr : validate_each_Sizes_1 p st0 st1 = rr) : FT Tryd.prog 31 #[.agg #[vl pa0 pk0 p.Funcs], .func (.func 32) #[] #[st0P, st1P]] [S pa0 pk0 p.Funcs, Cl st0P [vi st0], Cl st1P [vi st1], pv (gp 0) [vl kwLA kwLK kwL], S kwLA kwLK kwL] (fun g : Unit => i64ok rr.1 ∧ i64ok rr.2 ∧ (0 ≤ rr.1 ∧ rr.1 ≤ 10000 ∧ 0 ≤ rr.2 ∧ rr.2 ≤ 20000)) (fun g => .tuple #[]) (fun g => [Cl st0P [vi rr.1], Cl st1P [vi rr.2]]) := by
 refine FTi Tryd.func31 fun w0 M0 F0 => ?_
 unfold i64ok at hst0_0 hst1_0
 refine Fb 40 0 fun hl1 => ?_
 refine Fb 16 4 fun hl2 => ?_
 refine FoS 4 fun ho3 => ?_
 refine KS ?_
 refine Oa (Ab [vl pa0 pk0 p.Funcs]) fun p4 => KS ?_
 refine Oq (VldA sh27 0) ?_
 refine letv (syntax_Valid p) fun rv5 hg6 => ?_
 have hc7 := fn27 p pa0 pk0 kwLA kwLK pre rv5 hg6
 refine Oc [1, 4, 5] ca27 hc7 ?_
 rintro - -
 refine Oq Vnot (KS ?_)
 refine Kc ?_ ?_
 · intro h8
   have h10 := not_true h8
   have hq := q4 hrr (st0, st1) (by simp only [validate_each_Sizes_1, h8, h10, hg6, cs4]); subst hq
   exact Kr () rfl .nil [2, 2] en
 intro h8
 have h13 := not_false h8
 try have hVb := SVal_b (p := p) (by simp only [h8, h13, hg6])
 refine KS ?_
 refine Oq (Vfa fo27_0 0) (Oq (VldF sh25 0) (Oq (Vlen sl25) (Oq Vm (KS ?_))))
 refine Kl (γ := Nat × Int × Int × Int) (fun (r15, st00_16, st10_17, v16_18) => ⟨[(1, .func (.func 32) #[] #[st0P, st1P]), (14, vl pa0 pk0 p.Funcs), (15, vi (p.Funcs.length : Int)), (16, vi v16_18)], [S pa0 pk0 p.Funcs, Cl st0P [vi st00_16], Cl st1P [vi st10_17], pv (gp 0) [vl kwLA kwLK kwL], S kwLA kwLK kwL], validate_each_Sizes_1_L0 p r15 st00_16 st10_17 v16_18 = validate_each_Sizes_1_L0 p (((p.Funcs.length : Int) - 0).toNat) st0 st1 0 ∧ r15 = ((p.Funcs.length : Int) - v16_18).toNat ∧ (0 : Int) ≤ v16_18 ∧ v16_18 ≤ (p.Funcs.length : Int) ∧ (-9223372036854775808 ≤ st00_16 ∧ st00_16 ≤ 9223372036854775807) ∧ (-9223372036854775808 ≤ st10_17 ∧ st10_17 ≤ 9223372036854775807) ∧ (-9223372036854775808 ≤ v16_18 ∧ v16_18 ≤ 9223372036854775807) ∧ (0 ≤ st00_16 ∧ st00_16 ≤ 100 + 1100 * v16_18) ∧ (0 ≤ st10_17 ∧ st10_17 ≤ 100 + 1600 * v16_18), r15⟩) (((p.Funcs.length : Int) - 0).toNat, st0, st1, 0) [1, 2, 2, 2, 3] ⟨rfl, rfl, (by omega), (by omega), (by omega), (by omega), (by omega), iv0, iv0⟩ ?_
 rintro ⟨r15, st00_16, st10_17, v16_18⟩ ⟨hM19, hr20, hi21, hi22, hk23, hk24, hk25, hv26, hv27⟩
 refine JJ_nx fun _ _ hL hA => ?_; dsimp only at hL hA; subst hL hA
 refine Fb 40 0 fun hl28 => ?_
 refine Fb 16 4 fun hl29 => ?_
 refine FoS 4 fun ho30 => ?_
 refine KS ?_
 refine Oq Vlss (KS ?_)
 refine Kc ?_ ?_
 · intro h31
   have g32 := of_decide_eq_true h31
   have hVf := hVb.2 v16_18.toNat
   obtain ⟨r33, rfl⟩ := scc (n := r15) (by omega)
   refine KS ?_
   refine Oq (Vi sl25 0) ?_
   refine JJ_peek_GFunc v16_18.toNat 0 rfl rng fun a34 k35 hb36 => ?_
   refine Fb 40 1 fun hl37 => ?_
   refine Oq (VldA sh45 0) (Oa (Al ze45 [.string (bs (Str.mk [])), .slice none 0 0]) fun p38 => Ost (Scl [0] sh45 [.string (bs ((p.Funcs.getD v16_18.toNat default).Name)), vl a34 k35 ((p.Funcs.getD v16_18.toNat default).Blocks)]) (KS ?_))
   refine Oq (Vfa fo45_1 0) (Oq (VldF sh43 0) (Oq (Vlen sl43) (Oq Vm (KS ?_))))
   refine Kl (γ := Nat × Int × Int × Int) (fun (r39, st00_40, st10_41, v23_42) => ⟨[(1, .func (.func 32) #[] #[st0P, st1P]), (14, vl pa0 pk0 p.Funcs), (15, vi (p.Funcs.length : Int)), (16, vi v16_18), (21, vl a34 k35 ((p.Funcs.getD v16_18.toNat default).Blocks)), (22, vi (((p.Funcs.getD v16_18.toNat default).Blocks).length : Int)), (23, vi v23_42)], [S a34 k35 ((p.Funcs.getD v16_18.toNat default).Blocks), S pa0 pk0 p.Funcs, Cl st0P [vi st00_40], Cl st1P [vi st10_41], pv (gp 0) [vl kwLA kwLK kwL], S kwLA kwLK kwL], validate_each_Sizes_1_L1 ((p.Funcs.getD v16_18.toNat default).Blocks) r39 st00_40 st10_41 v23_42 = validate_each_Sizes_1_L1 ((p.Funcs.getD v16_18.toNat default).Blocks) ((((((p.Funcs.getD v16_18.toNat default).Blocks).length : Int) : Int) - 0).toNat) st00_16 st10_17 0 ∧ r39 = (((((p.Funcs.getD v16_18.toNat default).Blocks).length : Int) : Int) - v23_42).toNat ∧ (0 : Int) ≤ v23_42 ∧ (v23_42 ≤ (((p.Funcs.getD v16_18.toNat default).Blocks).length : Int) ∨ v23_42 = 0) ∧ (-9223372036854775808 ≤ st00_40 ∧ st00_40 ≤ 9223372036854775807) ∧ (-9223372036854775808 ≤ st10_41 ∧ st10_41 ≤ 9223372036854775807) ∧ (-9223372036854775808 ≤ v23_42 ∧ v23_42 ≤ 9223372036854775807) ∧ (0 ≤ st00_40 ∧ st00_40 ≤ st00_16 + 66 * v23_42) ∧ (0 ≤ st10_41 ∧ st10_41 ≤ st10_17 + 98 * v23_42), r39⟩) ((((((p.Funcs.getD v16_18.toNat default).Blocks).length : Int) : Int) - 0).toNat, st00_16, st10_17, 0) [2, 3, 4, 4, 4, 5] ⟨rfl, rfl, (by omega), (.inr rfl), (by omega), (by omega), (by omega), iv0, iv0⟩ ?_
   rintro ⟨r39, st00_40, st10_41, v23_42⟩ ⟨hM43, hr44, hi45, hi46, hk47, hk48, hk49, hv50, hv51⟩
   refine JJ_nx fun _ _ hL hA => ?_; dsimp only at hL hA; subst hL hA
   refine Fb 40 0 fun hl52 => ?_
   refine Fb 40 1 fun hl53 => ?_
   refine Fb 16 5 fun hl54 => ?_
   refine FoS 5 fun ho55 => ?_
   refine KS ?_
   refine Oq Vlss (KS ?_)
   refine Kc ?_ ?_
   · intro h56
     have g57 := of_decide_eq_true h56
     have hVk := hVf.2 v23_42.toNat
     obtain ⟨r58, rfl⟩ := scc (n := r39) (by omega)
     refine KS ?_
     refine Oq (Vi sl43 0) ?_
     refine JJ_peek_GBlock v23_42.toNat 0 rfl rng fun a59 k60 hb61 => ?_
     refine Fb 72 1 fun hl62 => ?_
     refine Oq (VldA sh49 0) (Oa (Al ze49 [.string (bs (Str.mk [])), .slice none 0 0]) fun p63 => Ost (Scl [0] sh49 [.string (bs ((((p.Funcs.getD v16_18.toNat default).Blocks).getD v23_42.toNat default).Name)), .slice a59 (((((p.Funcs.getD v16_18.toNat default).Blocks).getD v23_42.toNat default).Stmts).length) k60]) (KS ?_))
     refine Oq (Vfa fo49_1 0) (Oq (VldF sh47 0) (Oq (Vlen sl47) (Oq Vm (KS ?_))))
     refine Kl (γ := Nat × Int × Int × Int) (fun (r64, st00_65, st10_66, v30_67) => ⟨[(1, .func (.func 32) #[] #[st0P, st1P]), (14, vl pa0 pk0 p.Funcs), (15, vi (p.Funcs.length : Int)), (16, vi v16_18), (21, vl a34 k35 ((p.Funcs.getD v16_18.toNat default).Blocks)), (22, vi (((p.Funcs.getD v16_18.toNat default).Blocks).length : Int)), (23, vi v23_42), (28, .slice a59 (((((p.Funcs.getD v16_18.toNat default).Blocks).getD v23_42.toNat default).Stmts).length) k60), (29, vi (((((p.Funcs.getD v16_18.toNat default).Blocks).getD v23_42.toNat default).Stmts).length : Int)), (30, vi v30_67)], [S a59 k60 ((((p.Funcs.getD v16_18.toNat default).Blocks).getD v23_42.toNat default).Stmts), S a34 k35 ((p.Funcs.getD v16_18.toNat default).Blocks), S pa0 pk0 p.Funcs, Cl st0P [vi st00_65], Cl st1P [vi st10_66], pv (gp 0) [vl kwLA kwLK kwL], S kwLA kwLK kwL], validate_each_Sizes_1_L2 ((((p.Funcs.getD v16_18.toNat default).Blocks).getD v23_42.toNat default).Stmts) r64 st00_65 st10_66 v30_67 = validate_each_Sizes_1_L2 ((((p.Funcs.getD v16_18.toNat default).Blocks).getD v23_42.toNat default).Stmts) ((((((((p.Funcs.getD v16_18.toNat default).Blocks).getD v23_42.toNat default).Stmts).length : Int) : Int) - 0).toNat) st00_40 st10_41 0 ∧ r64 = (((((((p.Funcs.getD v16_18.toNat default).Blocks).getD v23_42.toNat default).Stmts).length : Int) : Int) - v30_67).toNat ∧ (0 : Int) ≤ v30_67 ∧ (v30_67 ≤ (((((p.Funcs.getD v16_18.toNat default).Blocks).getD v23_42.toNat default).Stmts).length : Int) ∨ v30_67 = 0) ∧ (-9223372036854775808 ≤ st00_65 ∧ st00_65 ≤ 9223372036854775807) ∧ (-9223372036854775808 ≤ st10_66 ∧ st10_66 ≤ 9223372036854775807) ∧ (-9223372036854775808 ≤ v30_67 ∧ v30_67 ≤ 9223372036854775807) ∧ (0 ≤ st00_65 ∧ st00_65 ≤ st00_40 + 2 * v30_67) ∧ (0 ≤ st10_66 ∧ st10_66 ≤ st10_41 + 3 * v30_67), r64⟩) ((((((((p.Funcs.getD v16_18.toNat default).Blocks).getD v23_42.toNat default).Stmts).length : Int) : Int) - 0).toNat, st00_40, st10_41, 0) [2, 3, 4, 5, 5, 5, 6] ⟨rfl, rfl, (by omega), (.inr rfl), (by omega), (by omega), (by omega), iv0, iv0⟩ ?_
     rintro ⟨r64, st00_65, st10_66, v30_67⟩ ⟨hM68, hr69, hi70, hi71, hk72, hk73, hk74, hv75, hv76⟩
     refine JJ_nx fun _ _ hL hA => ?_; dsimp only at hL hA; subst hL hA
     refine Fb 72 0 fun hl77 => ?_
     refine Fb 40 1 fun hl78 => ?_
     refine Fb 40 2 fun hl79 => ?_
     refine Fb 16 6 fun hl80 => ?_
     refine FoS 6 fun ho81 => ?_
     refine KS ?_
     refine Oq Vlss (KS ?_)
     refine Kc ?_ ?_
     · intro h82
       have g83 := of_decide_eq_true h82
       have hVs := hVk.2 v30_67.toNat
       obtain ⟨r84, rfl⟩ := scc (n := r64) (by omega)
       refine KS ?_
       refine Oq (Vi sl47 0) ?_
       refine JJ_peek_GStmt v30_67.toNat 0 rfl rng fun a85 k86 a87 k88 hb89 hb90 => ?_
       unfold i64ok at hb89
       refine Fb 16 1 fun hl91 => ?_
       refine FoS 1 fun ho92 => ?_
       refine Fb 16 2 fun hl93 => ?_
       refine FoS 2 fun ho94 => ?_
       refine Oq (VldA sh51 0) (Oa (Al ze51 [vi 0, .string (bs (Str.mk [])), .slice none 0 0, .slice none 0 0]) fun p95 => Ost (Scl [0] sh51 [vi ((((((p.Funcs.getD v16_18.toNat default).Blocks).getD v23_42.toNat default).Stmts).getD v30_67.toNat default).Op), .string (bs ((((((p.Funcs.getD v16_18.toNat default).Blocks).getD v23_42.toNat default).Stmts).getD v30_67.toNat default).Def)), .slice a85 (((((((p.Funcs.getD v16_18.toNat default).Blocks).getD v23_42.toNat default).Stmts).getD v30_67.toNat default).Uses).length) k86, .slice a87 (((((((p.Funcs.getD v16_18.toNat default).Blocks).getD v23_42.toNat default).Stmts).getD v30_67.toNat default).Targets).length) k88]) (KS ?_))
       refine Oq Vm (Oq (VldA sh51 0) ?_)
       refine letv (validate_Sizes_1 (((((p.Funcs.getD v16_18.toNat default).Blocks).getD v23_42.toNat default).Stmts).getD v30_67.toNat default) st00_65 st10_66) fun rv96 hg97 => ?_
       have hc98 := fn32 ((((((p.Funcs.getD v16_18.toNat default).Blocks).getD v23_42.toNat default).Stmts).getD v30_67.toNat default)) a85 k86 a87 k88 st0P st00_65 st1P st10_66 pre pre pre pre pre rv96 hg97
       refine JO_call [2, 3, 7, 7] rfl rfl rfl (OpC.clo («as» := [(.agg #[vi ((((((p.Funcs.getD v16_18.toNat default).Blocks).getD v23_42.toNat default).Stmts).getD v30_67.toNat default).Op), .string (bs ((((((p.Funcs.getD v16_18.toNat default).Blocks).getD v23_42.toNat default).Stmts).getD v30_67.toNat default).Def)), .slice a85 (((((((p.Funcs.getD v16_18.toNat default).Blocks).getD v23_42.toNat default).Stmts).getD v30_67.toNat default).Uses).length) k86, .slice a87 (((((((p.Funcs.getD v16_18.toNat default).Blocks).getD v23_42.toNat default).Stmts).getD v30_67.toNat default).Targets).length) k88] : Value), (st0P : Value), (st1P : Value)]) rfl rfl ca32 rfl (by simp)) hc98 rfl ?_
       rintro - ⟨he99, he100, he101⟩
       unfold i64ok at he99 he100
       refine KS ?_
       refine Oq Vadd (Oq Vm (KS ?_))
       exact Kg (r84, rv96.1, rv96.2, (v30_67 + 1)) [6, 7, 8, 0, 0, 7, 8] ⟨(q3 hM68 (by simp only [validate_each_Sizes_1_L2, h8, h13, h31, h56, h82, hg6, hg97, cs4])), (by omega), (by omega), (by omega), (by omega), (by omega), (by omega), iv1, iv1⟩
     intro h82
     have g102 := of_decide_eq_false h82
     obtain rfl : r64 = 0 := by omega
     refine Ke ?_
     have hR103 := q2 hM68 (st00_65, st10_66) (by simp only [validate_each_Sizes_1_L2, h8, h13, h31, h56, h82, hg6, cs4])
     refine KS ?_
     refine Oq Vadd (Oq Vm (KS ?_))
     exact Kg (r58, st00_65, st10_66, (v23_42 + 1)) [1, 2, 3, 3, 3, 4] ⟨(q3 hM43 (by simp only [validate_each_Sizes_1_L1, h8, h13, h31, h56, h82, hg6, hR103, cs4])), (by omega), (by omega), (by omega), (by omega), (by omega), (by omega), iv1, iv1⟩
   intro h56
   have g104 := of_decide_eq_false h56
   obtain rfl : r39 = 0 := by omega
   refine Ke ?_
   have hR105 := q2 hM43 (st00_40, st10_41) (by simp only [validate_each_Sizes_1_L1, h8, h13, h31, h56, hg6, cs4])
   refine KS ?_
   refine Oq Vadd (Oq Vm (KS ?_))
   exact Kg (r33, st00_40, st10_41, (v16_18 + 1)) [1, 2, 2, 2, 3] ⟨(q3 hM19 (by simp only [validate_each_Sizes_1_L0, h8, h13, h31, h56, hg6, hR105, cs4])), (by omega), (by omega), (by omega), (by omega), (by omega), (by omega), iv1, iv1⟩
 intro h31
 have g106 := of_decide_eq_false h31
 obtain rfl : r15 = 0 := by omega
 refine Ke ?_
 have hR107 := q2 hM19 (st00_16, st10_17) (by simp only [validate_each_Sizes_1_L0, h8, h13, h31, hg6, cs4])
 have hq := q4 hrr (st00_16, st10_17) (by simp only [validate_each_Sizes_1, h8, h13, h31, hg6, hR107, cs4]); subst hq
 exact Kz () rfl .nil [1, 1] en
theorem fn14 (p : GProgram) (pa0 : Option Addr) (pk0 : Nat) (kwLA : Option Addr) (kwLK : Nat) (hps : PSm p = true) (rr : Int × Int) (hrr : validate_Sizes p = rr) : FT Tryd.prog 14 #[.agg #[vl pa0 pk0 p.Funcs]] [S pa0 pk0 p.Funcs, pv (gp 0) [vl kwLA kwLK kwL], S kwLA kwLK kwL] (fun g : Unit => i64ok rr.1 ∧ i64ok rr.2 ∧ (0 ≤ rr.1 ∧ rr.1 ≤ 10000 ∧ 0 ≤ rr.2 ∧ rr.2 ≤ 20000)) (fun g => .tuple #[vi rr.1, vi rr.2]) (fun g => []) := by
 refine FTi Tryd.func14 fun w0 M0 F0 => ?_
 refine Fb 40 0 fun hl1 => ?_
 refine Fb 16 2 fun hl2 => ?_
 refine FoS 2 fun ho3 => ?_
 refine KS ?_
 refine Oa (Ab [vl pa0 pk0 p.Funcs]) fun p4 => Oq Va (Oq Va (KS ?_))
 refine Oq (VldA sh27 0) ?_
 refine letv (syntax_Valid p) fun rv5 hg6 => ?_
 have hc7 := fn27 p pa0 pk0 kwLA kwLK pre rv5 hg6
 refine Oc [1, 2, 3] ca27 hc7 ?_
 rintro - -
 refine Oq Vnot (KS ?_)
 refine Kc ?_ ?_
 · intro h8
   have h10 := not_true h8
   refine KS ?_
   refine Oq Va (Oq Va (KS ?_))
   have hq := q4 hrr (0, 0) (by simp only [validate_Sizes, h8, h10, hg6, cs4]); subst hq
   exact Kr () rfl (.tmp rfl (.tmp rfl .nil)) [] en
 intro h8
 have h13 := not_false h8
 try have hVb := SVal_b (p := p) (by simp only [h8, h13, hg6])
 refine KS ?_
 refine JK_drawK [0, 1, 3, 7, 0, 16, 48, 0, 0, 399, 1023] fmix ?_
 refine Dv [0] (Vfa fo27_0 0) (Dv [0] (VldF sh25 0) (Dv [] (Vlen sl25) (Dv [] Vmul (Dv [0] (Vfa fo27_0 0) (Dv [0] (VldF sh25 0) (Dv [] (Vlen sl25) (Dx [] [] [0] (fun G => (G.g 7 0)) [fun G => Cl (G.g 7 0) [vi 0]] (fun G => xA (Al ze3 [vi 0])) (Dx [] [] [0] (fun G => (G.g 8 0)) [fun G => Cl (G.g 8 0) [vi 0]] (fun G => xA (Al ze3 [vi 0])) (Dx0 [4] [4] [0] [fun G => Cl (G.g 7 0) [vi (2 * (p.Funcs.length : Int))]] (fun G => xS (Scl [0] sh3 [vi (2 * (p.Funcs.length : Int))])) ?_)))))))))
 refine Dx0 [5] [5] [0] [fun G => Cl (G.g 8 0) [vi (p.Funcs.length : Int)]] (fun G => xS (Scl [0] sh3 [vi (p.Funcs.length : Int)])) ?_
 refine Dn ⟨by kernel_rfl, fun G => ?_⟩
 refine Jw2 [(1, p4), (4, (G.g 7 0)), (5, (G.g 8 0))] [0, 1, 2, 3] [Cl (G.g 7 0) [vi (2 * (p.Funcs.length : Int))], Cl (G.g 8 0) [vi (p.Funcs.length : Int)]] ?_
 generalize G.g 7 0 = p15, G.g 8 0 = p16
 refine KS ?_
 refine Oq (VldA sh27 0) (Oq (Vf [p15, p16]) ?_)
 refine letv (validate_each_Sizes_1 p (2 * (p.Funcs.length : Int)) (p.Funcs.length : Int)) fun rv17 hg18 => ?_
 have hc19 := fn31m0 p pa0 pk0 p15 (2 * (p.Funcs.length : Int)) p16 (p.Funcs.length : Int) kwLA kwLK pre pre pre pre rv17 hg18
 refine Oc [1, 4, 4, 2, 3] ca31 hc19 ?_
 rintro - ⟨he20, he21, he22⟩
 unfold i64ok at he20 he21
 refine KS ?_
 refine Kq [0, 0, 1, 7] fmix ?_
 refine Qv [0] (Vld sh3 0) (Qv [1] (Vld sh3 0) (Qv [] Va (Qv [] Va ?_)))
 refine Qn ⟨by kernel_rfl, ?_⟩
 have hq := q4 hrr (rv17.1, rv17.2) (by simp only [validate_Sizes, h8, h13, hg6, hg18, cs4]); subst hq
 exact Kr () rfl (.tmp rfl (.tmp rfl .nil)) [] en
theorem fn33 (n : Str) (cap0P : Value) (cap0 : List (Str × Bool)) (cap0m0 : Value) (cap1P : Value) (cap1 : List Str) (cap1a0 : Option Addr) (cap1k0 : Nat) (hn_0 : n.b.length ≤ 140737488355328) (ho : cap1.length ≤ 1000000) (rr : (List (Str × Bool)) × List Str) (hrr : validate_Variables_1 n cap0 cap1 = rr) : FT Tryd.prog 33 #[.string (bs n), cap0P, cap1P] [Cl cap0P [cap0m0], Mp vstr vb okStr cap0m0 cap0, Cl cap1P [vl cap1a0 cap1k0 cap1], O cap1a0 cap1k0 cap1] (fun g : Value => (rr.2.length ≤ cap1.length + 1)) (fun g => .tuple #[]) (fun g => [Cl cap0P [cap0m0], Mp vstr vb okStr cap0m0 rr.1, Cl cap1P [g], os g rr.2]) := by
 refine FTi Tryd.func33 fun w0 M0 F0 => ?_
 refine Fb 16 3 fun hl1 => ?_
 refine FoS 3 fun ho2 => ?_
 refine KS ?_
 refine Oq Vm (Oq (VneS (l := n) (m := (Str.mk []))) (Oq Vm ?_))
 refine Js 6 ?_ ?_
 · intro h3
   have g4 := ne_of_bne h3
   refine Oq (Vld sh65 0) (Oq Vm (Oq (Vmk1 1 false mt65 (kStr un9) ze4 (ek := vstr) (ev := vb) (ok := okStr) (key := n) pre) (Oq Vnot (Oq Vpt (KS ?_)))))
   refine Kc ?_ ?_
   · intro h5
     have h7 := not_true h5
     refine KS ?_
     refine Oq (Vld sh65 0) (Oq Vm (Ost (Smp [1] mt65 (kStr un9) true (ek := vstr) (ev := vb) (ok := okStr) (key := n) pre) (KS ?_)))
     refine Oq (Vld sh40 2) (Oq Vm (Oa (AsV sl40 sz40 [.string (bs n)] [.string (bs n)]) fun c9 => ?_))
     refine Jo 0 ?_; rintro a10 k11 rfl
     refine Jl [0] (Ent.cr1 (α := Str) (A := []) _ n _ (Nat.le_of_ble_eq_true rfl) (fun _ => ⟨rfl, by first | omega | (simp; done) | (dsimp only; omega) | exact lit_bl rfl⟩)) ?_
     refine Oa (ApO [4, 0] sl40 sl40 sz40) fun c12 => ?_
     refine Jo 0 ?_; rintro a13 k14 rfl
     refine Fb 16 0 fun hl15 => ?_
     refine FoS 0 fun ho16 => ?_
     have hn17 := la cap1 ([n] : List Str)
     refine Ost (Scl [3] sh40 [vl a13 k14 (cap1 ++ [n])]) (KS ?_)
     have hq := q4 hrr ((mset cap0 n true), (cap1 ++ [n])) (by simp only [validate_Variables_1, h3, h5, h7, cs4]); subst hq
     exact Kz (vl a13 k14 (cap1 ++ [n])) rfl .nil [3, 2, 0, 0] en
   intro h5
   have h19 := not_false h5
   refine KS ?_
   have hq := q4 hrr (cap0, cap1) (by simp only [validate_Variables_1, h3, h5, h19, cs4]); subst hq
   exact Kz (vl cap1a0 cap1k0 cap1) rfl .nil [0, 0, 0, 0] en
 intro h3
 have g21 := eq_of_bne_false h3
 refine Osk (Osk (Osk (Osk (Oq Vpf (KS ?_)))))
 refine Kf ?_
 refine KS ?_
 have hq := q4 hrr (cap0, cap1) (by simp only [validate_Variables_1, h3, cs4]); subst hq
 exact Kz (vl cap1a0 cap1k0 cap1) rfl .nil [0, 0, 0, 0] en
theorem fn34m0 (s : GStmt) (sa2 : Option Addr) (sk2 : Nat) (sa3 : Option Addr) (sk3 : Nat) (st0P : Value) (st0 : List (Str × Bool)) (st0m0 : Value) (st1P : Value) (st1 : List Str) (st1a0 : Option Addr) (st1k0 : Nat) (cap0P : Value) (hs_0 : i64ok s.Op) (hs_1 : s.Def.b.length ≤ 140737488355328) (ho : st1.length ≤ 900000 ∧ s.Uses.length ≤ 4) (rr : (List (Str × Bool)) × List Str) (hrr : validate_Variables_2_Variables_1 s st0 st1 = rr) : FT Tryd.prog 34 #[.agg #[vi s.Op, .string (bs s.Def), vl sa2 sk2 s.Uses, vl sa3 sk3 s.Targets], cap0P] [S sa2 sk2 s.Uses, S sa3 sk3 s.Targets, Cl st0P [st0m0], Mp vstr vb okStr st0m0 st0, Cl st1P [vl st1a0 st1k0 st1], O st1a0 st1k0 st1, pv cap0P [.func (.func 33) #[] #[st0P, st1P]]] (fun g : Value => (rr.2.length ≤ st1.length + 5)) (fun g => .tuple #[]) (fun g => [Cl st0P [st0m0], Mp vstr vb okStr st0m0 rr.1, Cl st1P [g], os g rr.2]) := by
 refine FTi Tryd.func34 fun w0 M0 F0 => ?_
 unfold i64ok at hs_0
 refine Fb 16 0 fun hl1 => ?_
 refine FoS 0 fun ho2 => ?_
 refine Fb 16 1 fun hl3 => ?_
 refine FoS 1 fun ho4 => ?_
 refine Fb 16 5 fun hl5 => ?_
 refine FoS 5 fun ho6 => ?_
 refine KS ?_
 refine Oa (Ab [vi s.Op, .string (bs s.Def), vl sa2 sk2 s.Uses, vl sa3 sk3 s.Targets]) fun p7 => KS ?_
 refine Oq (Vld sh72 7) (Oq (Vfa fo51_1 0) (Oq (VldF sh9 0) ?_))
 refine letv (validate_Variables_1 s.Def st0 st1) fun rv9 hg10 => ?_
 have hc11 := fn33 s.Def st0P st0 st0m0 st1P st1 st1a0 st1k0 pre pre rv9 hg10
 refine JO_call [3, 3, 3, 3] rfl rfl rfl (OpC.clo («as» := [(.string (bs s.Def) : Value), (st0P : Value), (st1P : Value)]) rfl rfl ca33 rfl (by simp)) hc11 rfl ?_
 rintro c8 he12
 refine Jo 3 ?_; rintro a13 k14 rfl
 refine Fb 16 3 fun hl15 => ?_
 refine FoS 3 fun ho16 => ?_
 refine KS ?_
 refine Oq (Vfa fo51_2 4) (Oq (VldF sh40 4) (Oq (Vlen sl40) (Oq Vm (KS ?_))))
 refine Kl (γ := Nat × (List (Str × Bool)) × List Str × Int × Option Addr × Nat) (fun (r17, st00_18, st10_19, v12_20, a21, k22) => ⟨[(1, cap0P), (10, vl sa2 sk2 s.Uses), (11, vi (s.Uses.length : Int)), (12, vi v12_20)], [O a21 k22 st10_19, Cl st0P [st0m0], Mp vstr vb okStr st0m0 st00_18, Cl st1P [vl a21 k22 st10_19], S sa2 sk2 s.Uses, pv cap0P [.func (.func 33) #[] #[st0P, st1P]]], validate_Variables_2_Variables_1_L0 s r17 st00_18 st10_19 v12_20 = validate_Variables_2_Variables_1_L0 s (((s.Uses.length : Int) - 0).toNat) rv9.1 rv9.2 0 ∧ r17 = ((s.Uses.length : Int) - v12_20).toNat ∧ (0 : Int) ≤ v12_20 ∧ v12_20 ≤ (s.Uses.length : Int) ∧ (-9223372036854775808 ≤ v12_20 ∧ v12_20 ≤ 9223372036854775807) ∧ ((st10_19.length : Int) ≤ (st1.length : Int) + 1 + v12_20), r17⟩) (((s.Uses.length : Int) - 0).toNat, rv9.1, rv9.2, 0, a13, k14) [3, 0, 0, 0, 1, 3] ⟨rfl, rfl, (by omega), (by omega), (by omega), iv0⟩ ?_
 rintro ⟨r17, st00_18, st10_19, v12_20, a21, k22⟩ ⟨hM23, hr24, hi25, hi26, hk27, hv28⟩
 refine JJ_nx fun _ _ hL hA => ?_; dsimp only at hL hA; subst hL hA
 refine Fb 16 0 fun hl29 => ?_
 refine FoS 0 fun ho30 => ?_
 refine Fb 16 4 fun hl31 => ?_
 refine FoS 4 fun ho32 => ?_
 refine KS ?_
 refine Oq Vlss (KS ?_)
 refine Kc ?_ ?_
 · intro h33
   have g34 := of_decide_eq_true h33
   obtain ⟨r35, rfl⟩ := scc (n := r17) (by omega)
   refine KS ?_
   refine Oq (Vi sl40 4) ?_
   have hb36 := okS (i := v12_20.toNat) ho32 rng
   refine Oq (VldS sh9 4) (Oq Va (KS ?_))
   refine Oq (Vld sh72 5) (Oq Vm ?_)
   refine letv (validate_Variables_1 (s.Uses.getD v12_20.toNat default) st00_18 st10_19) fun rv38 hg39 => ?_
   have hc40 := fn33 ((s.Uses.getD v12_20.toNat default)) st0P st00_18 st0m0 st1P st10_19 a21 k22 pre pre rv38 hg39
   refine JO_call [1, 1, 1, 0] rfl rfl rfl (OpC.clo («as» := [(.string (bs (s.Uses.getD v12_20.toNat default)) : Value), (st0P : Value), (st1P : Value)]) rfl rfl ca33 rfl (by simp)) hc40 rfl ?_
   rintro c37 he41
   refine Jo 3 ?_; rintro a42 k43 rfl
   refine Fb 16 3 fun hl44 => ?_
   refine FoS 3 fun ho45 => ?_
   refine KS ?_
   refine Oq Vadd (Oq Vm (KS ?_))
   exact Kg (r35, rv38.1, rv38.2, (v12_20 + 1), a42, k43) [3, 0, 0, 0, 0, 1] ⟨(q3 hM23 (by simp only [validate_Variables_2_Variables_1_L0, h33, hg10, hg39, cs4])), (by omega), (by omega), (by omega), (by omega), iv1⟩
 intro h33
 have g46 := of_decide_eq_false h33
 obtain rfl : r17 = 0 := by omega
 refine Ke ?_
 have hR47 := q2 hM23 (st00_18, st10_19) (by simp only [validate_Variables_2_Variables_1_L0, h33, hg10, cs4])
 have hq := q4 hrr (st00_18, st10_19) (by simp only [validate_Variables_2_Variables_1, h33, hg10, hR47, cs4]); subst hq
 exact Kz (vl a21 k22 st10_19) rfl .nil [1, 1, 1, 0] en
theorem fn31m1 (p : GProgram) (pa0 : Option Addr) (pk0 : Nat) (st1P : Value) (st1 : List (Str × Bool)) (st1m0 : Value) (st2P : Value) (st2 : List Str) (st2a0 : Option Addr) (st2k0 : Nat) (st0P : Value) (kwLA : Option Addr) (kwLK : Nat) (hps : PSm p = true) (ho : st2.length = 0) (rr : (List (Str × Bool)) × List Str) (hrr : validate_each_Variables_2 p st1 st2 = rr) : FT Tryd.prog 31 #[.agg #[vl pa0 pk0 p.Funcs], .func (.func 34) #[] #[st0P]] [S pa0 pk0 p.Funcs, Cl st1P [st1m0], Mp vstr vb okStr st1m0 st1, Cl st2P [vl st2a0 st2k0 st2], O st2a0 st2k0 st2, pv st0P [.func (.func 33) #[] #[st1P, st2P]], pv (gp 0) [vl kwLA kwLK kwL], S kwLA kwLK kwL] (fun g : Value => (rr.2.length ≤ 30000)) (fun g => .tuple #[]) (fun g => [Cl st1P [st1m0], Mp vstr vb okStr st1m0 rr.1, Cl st2P [g], os g rr.2]) := by
 refine FTi Tryd.func31 fun w0 M0 F0 => ?_
 refine Fb 40 0 fun hl1 => ?_
 refine Fb 16 4 fun hl2 => ?_
 refine FoS 4 fun ho3 => ?_
 refine Fb 16 7 fun hl4 => ?_
 refine FoS 7 fun ho5 => ?_
 refine KS ?_
 refine Oa (Ab [vl pa0 pk0 p.Funcs]) fun p6 => KS ?_
 refine Oq (VldA sh27 0) ?_
 refine letv (syntax_Valid p) fun rv7 hg8 => ?_
 have hc9 := fn27 p pa0 pk0 kwLA kwLK pre rv7 hg8
 refine Oc [1, 7, 8] ca27 hc9 ?_
 rintro - -
 refine Oq Vnot (KS ?_)
 refine Kc ?_ ?_
 · intro h10
   have h12 := not_true h10
   have hq := q4 hrr (st1, st2) (by simp only [validate_each_Variables_2, h10, h12, hg8, cs4]); subst hq
   exact Kr (vl st2a0 st2k0 st2) rfl .nil [2, 2, 2, 2] en
 intro h10
 have h15 := not_false h10
 try have hVb := SVal_b (p := p) (by simp only [h10, h15, hg8])
 refine KS ?_
 refine Oq (Vfa fo27_0 0) (Oq (VldF sh25 0) (Oq (Vlen sl25) (Oq Vm (KS ?_))))
 refine Kl (γ := Nat × (List (Str × Bool)) × List Str × Int × Option Addr × Nat) (fun (r17, st10_18, st20_19, v16_20, a21, k22) => ⟨[(1, .func (.func 34) #[] #[st0P]), (14, vl pa0 pk0 p.Funcs), (15, vi (p.Funcs.length : Int)), (16, vi v16_20)], [O a21 k22 st20_19, S pa0 pk0 p.Funcs, Cl st1P [st1m0], Mp vstr vb okStr st1m0 st10_18, Cl st2P [vl a21 k22 st20_19], pv st0P [.func (.func 33) #[] #[st1P, st2P]], pv (gp 0) [vl kwLA kwLK kwL], S kwLA kwLK kwL], validate_each_Variables_2_L0 p r17 st10_18 st20_19 v16_20 = validate_each_Variables_2_L0 p (((p.Funcs.length : Int) - 0).toNat) st1 st2 0 ∧ r17 = ((p.Funcs.length : Int) - v16_20).toNat ∧ (0 : Int) ≤ v16_20 ∧ v16_20 ≤ (p.Funcs.length : Int) ∧ (-9223372036854775808 ≤ v16_20 ∧ v16_20 ≤ 9223372036854775807) ∧ ((st20_19.length : Int) ≤ 3000 * v16_20), r17⟩) (((p.Funcs.length : Int) - 0).toNat, st1, st2, 0, st2a0, st2k0) [5, 1, 2, 2, 2, 2, 3, 4] ⟨rfl, rfl, (by omega), (by omega), (by omega), iv0⟩ ?_
 rintro ⟨r17, st10_18, st20_19, v16_20, a21, k22⟩ ⟨hM23, hr24, hi25, hi26, hk27, hv28⟩
 refine JJ_nx fun _ _ hL hA => ?_; dsimp only at hL hA; subst hL hA
 refine Fb 16 0 fun hl29 => ?_
 refine FoS 0 fun ho30 => ?_
 refine Fb 40 1 fun hl31 => ?_
 refine Fb 16 7 fun hl32 => ?_
 refine FoS 7 fun ho33 => ?_
 refine KS ?_
 refine Oq Vlss (KS ?_)
 refine Kc ?_ ?_
 · intro h34
   have g35 := of_decide_eq_true h34
   have hVf := hVb.2 v16_20.toNat
   obtain ⟨r36, rfl⟩ := scc (n := r17) (by omega)
   refine KS ?_
   refine Oq (Vi sl25 1) ?_
   refine JJ_peek_GFunc v16_20.toNat 1 rfl rng fun a37 k38 hb39 => ?_
   refine Fb 40 1 fun hl40 => ?_
   refine Oq (VldA sh45 0) (Oa (Al ze45 [.string (bs (Str.mk [])), .slice none 0 0]) fun p41 => Ost (Scl [0] sh45 [.string (bs ((p.Funcs.getD v16_20.toNat default).Name)), vl a37 k38 ((p.Funcs.getD v16_20.toNat default).Blocks)]) (KS ?_))
   refine Oq (Vfa fo45_1 0) (Oq (VldF sh43 0) (Oq (Vlen sl43) (Oq Vm (KS ?_))))
   refine Kl (γ := Nat × (List (Str × Bool)) × List Str × Int × Option Addr × Nat) (fun (r42, st10_43, st20_44, v23_45, a46, k47) => ⟨[(1, .func (.func 34) #[] #[st0P]), (14, vl pa0 pk0 p.Funcs), (15, vi (p.Funcs.length : Int)), (16, vi v16_20), (21, vl a37 k38 ((p.Funcs.getD v16_20.toNat default).Blocks)), (22, vi (((p.Funcs.getD v16_20.toNat default).Blocks).length : Int)), (23, vi v23_45)], [O a46 k47 st20_44, S a37 k38 ((p.Funcs.getD v16_20.toNat default).Blocks), S pa0 pk0 p.Funcs, Cl st1P [st1m0], Mp vstr vb okStr st1m0 st10_43, Cl st2P [vl a46 k47 st20_44], pv st0P [.func (.func 33) #[] #[st1P, st2P]], pv (gp 0) [vl kwLA kwLK kwL], S kwLA kwLK kwL], validate_each_Variables_2_L1 ((p.Funcs.getD v16_20.toNat default).Blocks) r42 st10_43 st20_44 v23_45 = validate_each_Variables_2_L1 ((p.Funcs.getD v16_20.toNat default).Blocks) ((((((p.Funcs.getD v16_20.toNat default).Blocks).length : Int) : Int) - 0).toNat) st10_18 st20_19 0 ∧ r42 = (((((p.Funcs.getD v16_20.toNat default).Blocks).length : Int) : Int) - v23_45).toNat ∧ (0 : Int) ≤ v23_45 ∧ (v23_45 ≤ (((p.Funcs.getD v16_20.toNat default).Blocks).length : Int) ∨ v23_45 = 0) ∧ (-9223372036854775808 ≤ v23_45 ∧ v23_45 ≤ 9223372036854775807) ∧ ((st20_44.length : Int) ≤ (st20_19.length : Int) + 180 * v23_45), r42⟩) ((((((p.Funcs.getD v16_20.toNat default).Blocks).length : Int) : Int) - 0).toNat, st10_18, st20_19, 0, a21, k22) [3, 2, 3, 4, 4, 4, 4, 5, 6] ⟨rfl, rfl, (by omega), (.inr rfl), (by omega), iv0⟩ ?_
   rintro ⟨r42, st10_43, st20_44, v23_45, a46, k47⟩ ⟨hM48, hr49, hi50, hi51, hk52, hv53⟩
   refine JJ_nx fun _ _ hL hA => ?_; dsimp only at hL hA; subst hL hA
   refine Fb 16 0 fun hl54 => ?_
   refine FoS 0 fun ho55 => ?_
   refine Fb 40 1 fun hl56 => ?_
   refine Fb 40 2 fun hl57 => ?_
   refine Fb 16 8 fun hl58 => ?_
   refine FoS 8 fun ho59 => ?_
   refine KS ?_
   refine Oq Vlss (KS ?_)
   refine Kc ?_ ?_
   · intro h60
     have g61 := of_decide_eq_true h60
     have hVk := hVf.2 v23_45.toNat
     obtain ⟨r62, rfl⟩ := scc (n := r42) (by omega)
     refine KS ?_
     refine Oq (Vi sl43 1) ?_
     refine JJ_peek_GBlock v23_45.toNat 1 rfl rng fun a63 k64 hb65 => ?_
     refine Fb 72 1 fun hl66 => ?_
     refine Oq (VldA sh49 0) (Oa (Al ze49 [.string (bs (Str.mk [])), .slice none 0 0]) fun p67 => Ost (Scl [0] sh49 [.string (bs ((((p.Funcs.getD v16_20.toNat default).Blocks).getD v23_45.toNat default).Name)), .slice a63 (((((p.Funcs.getD v16_20.toNat default).Blocks).getD v23_45.toNat default).Stmts).length) k64]) (KS ?_))
     refine Oq (Vfa fo49_1 0) (Oq (VldF sh47 0) (Oq (Vlen sl47) (Oq Vm (KS ?_))))
     refine Kl (γ := Nat × (List (Str × Bool)) × List Str × Int × Option Addr × Nat) (fun (r68, st10_69, st20_70, v30_71, a72, k73) => ⟨[(1, .func (.func 34) #[] #[st0P]), (14, vl pa0 pk0 p.Funcs), (15, vi (p.Funcs.length : Int)), (16, vi v16_20), (21, vl a37 k38 ((p.Funcs.getD v16_20.toNat default).Blocks)), (22, vi (((p.Funcs.getD v16_20.toNat default).Blocks).length : Int)), (23, vi v23_45), (28, .slice a63 (((((p.Funcs.getD v16_20.toNat default).Blocks).getD v23_45.toNat default).Stmts).length) k64), (29, vi (((((p.Funcs.getD v16_20.toNat default).Blocks).getD v23_45.toNat default).Stmts).length : Int)), (30, vi v30_71)], [O a72 k73 st20_70, S a63 k64 ((((p.Funcs.getD v16_20.toNat default).Blocks).getD v23_45.toNat default).Stmts), S a37 k38 ((p.Funcs.getD v16_20.toNat default).Blocks), S pa0 pk0 p.Funcs, Cl st1P [st1m0], Mp vstr vb okStr st1m0 st10_69, Cl st2P [vl a72 k73 st20_70], pv st0P [.func (.func 33) #[] #[st1P, st2P]], pv (gp 0) [vl kwLA kwLK kwL], S kwLA kwLK kwL], validate_each_Variables_2_L2 ((((p.Funcs.getD v16_20.toNat default).Blocks).getD v23_45.toNat default).Stmts) r68 st10_69 st20_70 v30_71 = validate_each_Variables_2_L2 ((((p.Funcs.getD v16_20.toNat default).Blocks).getD v23_45.toNat default).Stmts) ((((((((p.Funcs.getD v16_20.toNat default).Blocks).getD v23_45.toNat default).Stmts).length : Int) : Int) - 0).toNat) st10_43 st20_44 0 ∧ r68 = (((((((p.Funcs.getD v16_20.toNat default).Blocks).getD v23_45.toNat default).Stmts).length : Int) : Int) - v30_71).toNat ∧ (0 : Int) ≤ v30_71 ∧ (v30_71 ≤ (((((p.Funcs.getD v16_20.toNat default).Blocks).getD v23_45.toNat default).Stmts).length : Int) ∨ v30_71 = 0) ∧ (-9223372036854775808 ≤ v30_71 ∧ v30_71 ≤ 9223372036854775807) ∧ ((st20_70.length : Int) ≤ (st20_44.length : Int) + 5 * v30_71), r68⟩) ((((((((p.Funcs.getD v16_20.toNat default).Blocks).getD v23_45.toNat default).Stmts).length : Int) : Int) - 0).toNat, st10_43, st20_44, 0, a46, k47) [3, 2, 3, 4, 5, 5, 5, 5, 6, 7] ⟨rfl, rfl, (by omega), (.inr rfl), (by omega), iv0⟩ ?_
     rintro ⟨r68, st10_69, st20_70, v30_71, a72, k73⟩ ⟨hM74, hr75, hi76, hi77, hk78, hv79⟩
     refine JJ_nx fun _ _ hL hA => ?_; dsimp only at hL hA; subst hL hA
     refine Fb 16 0 fun hl80 => ?_
     refine FoS 0 fun ho81 => ?_
     refine Fb 72 1 fun hl82 => ?_
     refine Fb 40 2 fun hl83 => ?_
     refine Fb 40 3 fun hl84 => ?_
     refine Fb 16 9 fun hl85 => ?_
     refine FoS 9 fun ho86 => ?_
     refine KS ?_
     refine Oq Vlss (KS ?_)
     refine Kc ?_ ?_
     · intro h87
       have g88 := of_decide_eq_true h87
       have hVs := hVk.2 v30_71.toNat
       obtain ⟨r89, rfl⟩ := scc (n := r68) (by omega)
       refine KS ?_
       refine Oq (Vi sl47 1) ?_
       refine JJ_peek_GStmt v30_71.toNat 1 rfl rng fun a90 k91 a92 k93 hb94 hb95 => ?_
       unfold i64ok at hb94
       refine Fb 16 1 fun hl96 => ?_
       refine FoS 1 fun ho97 => ?_
       refine Fb 16 2 fun hl98 => ?_
       refine FoS 2 fun ho99 => ?_
       refine Oq (VldA sh51 0) (Oa (Al ze51 [vi 0, .string (bs (Str.mk [])), .slice none 0 0, .slice none 0 0]) fun p100 => Ost (Scl [0] sh51 [vi ((((((p.Funcs.getD v16_20.toNat default).Blocks).getD v23_45.toNat default).Stmts).getD v30_71.toNat default).Op), .string (bs ((((((p.Funcs.getD v16_20.toNat default).Blocks).getD v23_45.toNat default).Stmts).getD v30_71.toNat default).Def)), .slice a90 (((((((p.Funcs.getD v16_20.toNat default).Blocks).getD v23_45.toNat default).Stmts).getD v30_71.toNat default).Uses).length) k91, .slice a92 (((((((p.Funcs.getD v16_20.toNat default).Blocks).getD v23_45.toNat default).Stmts).getD v30_71.toNat default).Targets).length) k93]) (KS ?_))
       refine Oq Vm (Oq (VldA sh51 0) ?_)
       refine letv (validate_Variables_2_Variables_1 (((((p.Funcs.getD v16_20.toNat default).Blocks).getD v23_45.toNat default).Stmts).getD v30_71.toNat default) st10_69 st20_70) fun rv102 hg103 => ?_
       have hc104 := fn34m0 ((((((p.Funcs.getD v16_20.toNat default).Blocks).getD v23_45.toNat default).Stmts).getD v30_71.toNat default)) a90 k91 a92 k93 st1P st10_69 st1m0 st2P st20_70 a72 k73 st0P pre pre pre rv102 hg103
       refine JO_call [2, 3, 8, 8, 8, 4, 7] rfl rfl rfl (OpC.clo («as» := [(.agg #[vi ((((((p.Funcs.getD v16_20.toNat default).Blocks).getD v23_45.toNat default).Stmts).getD v30_71.toNat default).Op), .string (bs ((((((p.Funcs.getD v16_20.toNat default).Blocks).getD v23_45.toNat default).Stmts).getD v30_71.toNat default).Def)), .slice a90 (((((((p.Funcs.getD v16_20.toNat default).Blocks).getD v23_45.toNat default).Stmts).getD v30_71.toNat default).Uses).length) k91, .slice a92 (((((((p.Funcs.getD v16_20.toNat default).Blocks).getD v23_45.toNat default).Stmts).getD v30_71.toNat default).Targets).length) k93] : Value), (st0P : Value)]) rfl rfl ca34 rfl (by simp)) hc104 rfl ?_
       rintro c101 he105
       refine Jo 3 ?_; rintro a106 k107 rfl
       refine Fb 16 3 fun hl108 => ?_
       refine FoS 3 fun ho109 => ?_
       refine KS ?_
       refine Oq Vadd (Oq Vm (KS ?_))
       exact Kg (r89, rv102.1, rv102.2, (v30_71 + 1), a106, k107) [3, 7, 8, 9, 0, 0, 0, 7, 8, 9] ⟨(q3 hM74 (by simp only [validate_each_Variables_2_L2, h10, h15, h34, h60, h87, hg8, hg103, cs4])), (by omega), (by omega), (by omega), (by omega), iv1⟩
     intro h87
     have g110 := of_decide_eq_false h87
     obtain rfl : r68 = 0 := by omega
     refine Ke ?_
     have hR111 := q2 hM74 (st10_69, st20_70) (by simp only [validate_each_Variables_2_L2, h10, h15, h34, h60, h87, hg8, cs4])
     refine KS ?_
     refine Oq Vadd (Oq Vm (KS ?_))
     exact Kg (r62, st10_69, st20_70, (v23_45 + 1), a72, k73) [0, 1, 2, 3, 3, 3, 3, 4, 5] ⟨(q3 hM48 (by simp only [validate_each_Variables_2_L1, h10, h15, h34, h60, h87, hg8, hR111, cs4])), (by omega), (by omega), (by omega), (by omega), iv1⟩
   intro h60
   have g112 := of_decide_eq_false h60
   obtain rfl : r42 = 0 := by omega
   refine Ke ?_
   have hR113 := q2 hM48 (st10_43, st20_44) (by simp only [validate_each_Variables_2_L1, h10, h15, h34, h60, hg8, cs4])
   refine KS ?_
   refine Oq Vadd (Oq Vm (KS ?_))
   exact Kg (r36, st10_43, st20_44, (v16_20 + 1), a46, k47) [0, 1, 2, 2, 2, 2, 3, 4] ⟨(q3 hM23 (by simp only [validate_each_Variables_2_L0, h10, h15, h34, h60, hg8, hR113, cs4])), (by omega), (by omega), (by omega), (by omega), iv1⟩
 intro h34
 have g114 := of_decide_eq_false h34
 obtain rfl : r17 = 0 := by omega
 refine Ke ?_
 have hR115 := q2 hM23 (st10_18, st20_19) (by simp only [validate_each_Variables_2_L0, h10, h15, h34, hg8, cs4])
 have hq := q4 hrr (st10_18, st20_19) (by simp only [validate_each_Variables_2, h10, h15, h34, hg8, hR115, cs4]); subst hq
 exact Kz (vl a21 k22 st20_19) rfl .nil [2, 2, 2, 0] en
theorem fn15 (p : GProgram) (pa0 : Option Addr) (pk0 : Nat) (kwLA : Option Addr) (kwLK : Nat) (hps : PSm p = true) (rr : List Str) (hrr : validate_Variables p = rr) : FT Tryd.prog 15 #[.agg #[vl pa0 pk0 p.Funcs]] [S pa0 pk0 p.Funcs, pv (gp 0) [vl kwLA kwLK kwL], S kwLA kwLK kwL] (fun g : Value => (rr.length ≤ 30000)) (fun g => g) (fun g => [sl g rr]) := by
 refine FTi Tryd.func15 fun w0 M0 F0 => ?_
 refine Fb 40 0 fun hl1 => ?_
 refine Fb 16 2 fun hl2 => ?_
 refine FoS 2 fun ho3 => ?_
 refine KS ?_
 refine Oa (Ab [vl pa0 pk0 p.Funcs]) fun p4 => Oq Va (KS ?_)
 refine Oa (Amp (κ := Str) (ν := Bool) (ek := vstr) (ev := vb) (ok := okStr)) fun p5 => ?_
 refine Jom 0 ?_; rintro b6 rfl
 refine Oa (Al ze65 [.map none]) fun p7 => Ost (Scl [0] sh65 [(mv b6)]) (KS ?_)
 refine Oa (Al ze40 [.slice none 0 0]) fun p8 => KS ?_
 refine Oq (Vf [p7, p8]) (Oa (Al ze72 [.nilFunc]) fun p9 => Ost (Scl [0] sh72 [.func (.func 33) #[] #[p7, p8]]) (KS ?_))
 refine Oq (VldA sh27 4) (Oq (Vf [p9]) ?_)
 refine Jl [] (Ent.osNil (α := Str)) ?_
 refine Jl [1] (Ent.freezeCl _ _) ?_
 refine letv (validate_each_Variables_2 p [] []) fun rv11 hg12 => ?_
 have hc13 := fn31m1 p pa0 pk0 p7 [] (mv b6) p8 [] none 0 p9 kwLA kwLK pre pre rv11 hg12
 refine Oc [6, 3, 3, 2, 1, 0, 3, 4] ca31 hc13 ?_
 rintro c10 he14
 refine Jo 3 ?_; rintro a15 k16 rfl
 refine Fb 16 3 fun hl17 => ?_
 refine FoS 3 fun ho18 => ?_
 refine KS ?_
 refine Oq (Vld sh40 2) (Oq Va (KS ?_))
 refine Jl [3] (Ent.freeze _ _) ?_
 have hq := q4 hrr rv11.2 (by simp only [validate_Variables, hg12, cs4]); subst hq
 exact Kr (vl a15 k16 rv11.2) rfl (.tmp rfl .nil) [0] en
theorem fn28 (l : List GFunc) (la0 : Option Addr) (lk0 : Nat) (nameF : FuncId) (nameC : List Value) (namep : GFunc → Str) (nameA : List SP) (hnamec : callable Tryd.prog nameF = true) (hnameF : ∀ x0, ∀ (a0 : Option Addr) (k0 : Nat), x0.Name.b.length ≤ 140737488355328 → FT Tryd.prog nameF ([(.agg #[.string (bs x0.Name), vl a0 k0 x0.Blocks] : Value)] ++ nameC).toArray ([S a0 k0 x0.Blocks] ++ [pAll nameA]) (fun _ : Unit => (namep x0).b.length ≤ 140737488355328) (fun _ => .string (bs (namep x0))) (fun _ => [])) (rr : Int × (List (Str × Bool))) (hrr : validate_duplicate_Func l namep = rr) : FT Tryd.prog 28 #[vl la0 lk0 l, .func (.func nameF) #[] nameC.toArray] [S la0 lk0 l, pAll nameA] (fun g : Value => i64ok rr.1) (fun g => .tuple #[vi rr.1, g]) (fun g => [Mp vstr vb okStr g rr.2]) := by
 refine FTi Tryd.func28 fun w0 M0 F0 => ?_
 refine Fb 40 0 fun hl1 => ?_
 refine KS ?_
 refine Oq Va (Oq Va (KS ?_))
 refine Oa (Amp (κ := Str) (ν := Bool) (ek := vstr) (ev := vb) (ok := okStr)) fun p2 => ?_
 refine Jom 0 ?_; rintro b3 rfl
 refine Oq Va (KS ?_)
 refine Oq Va (KS ?_)
 refine Oq Vm (Oq (Vlen sl25) (Oq Vm (KS ?_)))
 refine Kl (γ := Nat × (List (Str × Bool)) × Int × Int) (fun (r4, known_5, at__6, v13_7) => ⟨[(1, .func (.func nameF) #[] nameC.toArray), (6, (mv b3)), (7, vi at__6), (11, vl la0 lk0 l), (12, vi (l.length : Int)), (13, vi v13_7)], [Mp vstr vb okStr (mv b3) known_5, S la0 lk0 l, pAll nameA], validate_duplicate_Func_L0 l namep r4 known_5 at__6 v13_7 = validate_duplicate_Func_L0 l namep (((l.length : Int) - 0).toNat) [] (-1) 0 ∧ r4 = ((l.length : Int) - v13_7).toNat ∧ (0 : Int) ≤ v13_7 ∧ v13_7 ≤ (l.length : Int) ∧ (-9223372036854775808 ≤ at__6 ∧ at__6 ≤ 9223372036854775807) ∧ (-9223372036854775808 ≤ v13_7 ∧ v13_7 ≤ 9223372036854775807), r4⟩) (((l.length : Int) - 0).toNat, [], -1, 0) [0, 0, 1] ⟨rfl, rfl, (by omega), (by omega), (by omega), (by omega)⟩ ?_
 rintro ⟨r4, known_5, at__6, v13_7⟩ ⟨hM8, hr9, hi10, hi11, hk12, hk13⟩
 refine JJ_nx fun _ _ hL hA => ?_; dsimp only at hL hA; subst hL hA
 refine Fb 40 1 fun hl14 => ?_
 refine KS ?_
 refine Oq Vlss (KS ?_)
 refine Kc ?_ ?_
 · intro h15
   have g16 := of_decide_eq_true h15
   obtain ⟨r17, rfl⟩ := scc (n := r4) (by omega)
   refine KS ?_
   refine Oq Vm (Oq (Vi sl25 1) ?_)
   refine JJ_peek_GFunc v13_7.toNat 1 rfl rng fun a18 k19 hb20 => ?_
   refine Fb 40 1 fun hl21 => ?_
   refine Oq (VldA sh45 0) (Oa (Al ze45 [.string (bs (Str.mk [])), .slice none 0 0]) fun p22 => Oq Va (Ost (Scl [0] sh45 [.string (bs ((l.getD v13_7.toNat default).Name)), vl a18 k19 ((l.getD v13_7.toNat default).Blocks)]) (KS ?_)))
   refine Oq Vm (Oq Vm (Oq (VldA sh45 0) ?_))
   refine JO_call [2, 5] rfl rfl rfl (OpC.clo («as» := [(.agg #[.string (bs ((l.getD v13_7.toNat default).Name)), vl a18 k19 ((l.getD v13_7.toNat default).Blocks)] : Value)] ++ nameC) rfl rfl hnamec rfl (by simp)) (hnameF (l.getD v13_7.toNat default) a18 k19 pre) rfl fun _ he23 => ?_
   refine Oq (Vmk1 3 false mt65 (kStr un9) ze4 (ek := vstr) (ev := vb) (ok := okStr) (key := (namep (l.getD v13_7.toNat default))) pre) (Oq Vm ?_)
   refine Js 23 ?_ ?_
   · intro h24
     refine Oq Vm (Oq Vlss (Oq Vpt (KS ?_)))
     refine Kc ?_ ?_
     · intro h26
       have g27 := of_decide_eq_true h26
       refine KS ?_
       refine Oq Vm (Oq Va (KS ?_))
       refine Oq Vm (Oq Vm (Oq (VldA sh45 0) ?_))
       refine JO_call [2, 5] rfl rfl rfl (OpC.clo («as» := [(.agg #[.string (bs ((l.getD v13_7.toNat default).Name)), vl a18 k19 ((l.getD v13_7.toNat default).Blocks)] : Value)] ++ nameC) rfl rfl hnamec rfl (by simp)) (hnameF (l.getD v13_7.toNat default) a18 k19 pre) rfl fun _ he28 => ?_
       refine Ost (Smp [3] mt65 (kStr un9) true (ek := vstr) (ev := vb) (ok := okStr) (key := (namep (l.getD v13_7.toNat default))) pre) (KS ?_)
       refine Oq Vadd (Oq Vm (KS ?_))
       exact Kg (r17, (mset known_5 (namep (l.getD v13_7.toNat default)) true), v13_7, (v13_7 + 1)) [0, 3, 4] ⟨(q3 hM8 (by simp only [validate_duplicate_Func_L0, h15, h24, h26, cs4])), (by omega), (by omega), (by omega), (by omega), (by omega)⟩
     intro h26
     have g29 := of_decide_eq_false h26
     refine KS ?_
     refine Oq Vm (Oq Vm (Oq (VldA sh45 0) ?_))
     refine JO_call [2, 5] rfl rfl rfl (OpC.clo («as» := [(.agg #[.string (bs ((l.getD v13_7.toNat default).Name)), vl a18 k19 ((l.getD v13_7.toNat default).Blocks)] : Value)] ++ nameC) rfl rfl hnamec rfl (by simp)) (hnameF (l.getD v13_7.toNat default) a18 k19 pre) rfl fun _ he30 => ?_
     refine Ost (Smp [3] mt65 (kStr un9) true (ek := vstr) (ev := vb) (ok := okStr) (key := (namep (l.getD v13_7.toNat default))) pre) (KS ?_)
     refine Oq Vadd (Oq Vm (KS ?_))
     exact Kg (r17, (mset known_5 (namep (l.getD v13_7.toNat default)) true), at__6, (v13_7 + 1)) [0, 3, 4] ⟨(q3 hM8 (by simp only [validate_duplicate_Func_L0, h15, h24, h26, cs4])), (by omega), (by omega), (by omega), (by omega), (by omega)⟩
   intro h24
   refine Osk (Osk (Oq Vpf (KS ?_)))
   refine Kf ?_
   refine KS ?_
   refine Oq Vm (Oq Vm (Oq (VldA sh45 0) ?_))
   refine JO_call [2, 5] rfl rfl rfl (OpC.clo («as» := [(.agg #[.string (bs ((l.getD v13_7.toNat default).Name)), vl a18 k19 ((l.getD v13_7.toNat default).Blocks)] : Value)] ++ nameC) rfl rfl hnamec rfl (by simp)) (hnameF (l.getD v13_7.toNat default) a18 k19 pre) rfl fun _ he32 => ?_
   refine Ost (Smp [3] mt65 (kStr un9) true (ek := vstr) (ev := vb) (ok := okStr) (key := (namep (l.getD v13_7.toNat default))) pre) (KS ?_)
   refine Oq Vadd (Oq Vm (KS ?_))
   exact Kg (r17, (mset known_5 (namep (l.getD v13_7.toNat default)) true), at__6, (v13_7 + 1)) [0, 3, 4] ⟨(q3 hM8 (by simp only [validate_duplicate_Func_L0, h15, h24, cs4])), (by omega), (by omega), (by omega), (by omega), (by omega)⟩
 intro h15
 have g33 := of_decide_eq_false h15
 obtain rfl : r4 = 0 := by omega
 refine Ke ?_
 have hR34 := q2 hM8 (known_5, at__6) (by simp only [validate_duplicate_Func_L0, h15, cs4])
 refine KS ?_
 refine Oq Vm (Oq Vm (Oq Va (Oq Va (KS ?_))))
 have hq := q4 hrr (at__6, known_5) (by simp only [validate_duplicate_Func, h15, hR34, cs4]); subst hq
 exact Kr (mv b3) rfl (.tmp rfl (.tmp rfl .nil)) [0] en
theorem fn29 (f : GFunc) (fa1 : Option Addr) (fk1 : Nat) (hf_0 : f.Name.b.length ≤ 140737488355328) (rr : Str) (hrr : validate_Check_1 f = rr) : FT Tryd.prog 29 #[.agg #[.string (bs f.Name), vl fa1 fk1 f.Blocks]] [S fa1 fk1 f.Blocks] (fun g : Unit => rr.b.length ≤ 140737488355328) (fun g => .string (bs rr)) (fun g => []) := by
 refine FTi Tryd.func29 fun w0 M0 F0 => ?_
 refine Fb 40 0 fun hl1 => ?_
 refine KS ?_
 refine Oa (Ab [.string (bs f.Name), vl fa1 fk1 f.Blocks]) fun p2 => Oq Va (KS ?_)
 refine Oq (Vfa fo45_0 0) (Oq (VldF sh9 0) (Oq Va (KS ?_)))
 have hq := q4 hrr f.Name (by simp only [validate_Check_1, cs4]); subst hq
 exact Kr () rfl (.tmp rfl .nil) [] en
theorem fn48 (l : List GBlock) (la0 : Option Addr) (lk0 : Nat) (nameF : FuncId) (nameC : List Value) (namep : GBlock → Str) (nameA : List SP) (hnamec : callable Tryd.prog nameF = true) (hnameF : ∀ x0, ∀ (a0 : Option Addr) (k0 : Nat), x0.Name.b.length ≤ 140737488355328 → FT Tryd.prog nameF ([(.agg #[.string (bs x0.Name), vl a0 k0 x0.Stmts] : Value)] ++ nameC).toArray ([S a0 k0 x0.Stmts] ++ [pAll nameA]) (fun _ : Unit => (namep x0).b.length ≤ 140737488355328) (fun _ => .string (bs (namep x0))) (fun _ => [])) (rr : Int × (List (Str × Bool))) (hrr : validate_duplicate_Block l namep = rr) : FT Tryd.prog 48 #[vl la0 lk0 l, .func (.func nameF) #[] nameC.toArray] [S la0 lk0 l, pAll nameA] (fun g : Value => i64ok rr.1) (fun g => .tuple #[vi rr.1, g]) (fun g => [Mp vstr vb okStr g rr.2]) := by
 refine FTi Tryd.func48 fun w0 M0 F0 => ?_
 refine Fb 40 0 fun hl1 => ?_
 refine KS ?_
 refine Oq Va (Oq Va (KS ?_))
 refine Oa (Amp (κ := Str) (ν := Bool) (ek := vstr) (ev := vb) (ok := okStr)) fun p2 => ?_
 refine Jom 0 ?_; rintro b3 rfl
 refine Oq Va (KS ?_)
 refine Oq Va (KS ?_)
 refine Oq Vm (Oq (Vlen sl43) (Oq Vm (KS ?_)))
 refine Kl (γ := Nat × (List (Str × Bool)) × Int × Int) (fun (r4, known_5, at__6, v13_7) => ⟨[(1, .func (.func nameF) #[] nameC.toArray), (6, (mv b3)), (7, vi at__6), (11, vl la0 lk0 l), (12, vi (l.length : Int)), (13, vi v13_7)], [Mp vstr vb okStr (mv b3) known_5, S la0 lk0 l, pAll nameA], validate_duplicate_Block_L0 l namep r4 known_5 at__6 v13_7 = validate_duplicate_Block_L0 l namep (((l.length : Int) - 0).toNat) [] (-1) 0 ∧ r4 = ((l.length : Int) - v13_7).toNat ∧ (0 : Int) ≤ v13_7 ∧ v13_7 ≤ (l.length : Int) ∧ (-9223372036854775808 ≤ at__6 ∧ at__6 ≤ 9223372036854775807) ∧ (-9223372036854775808 ≤ v13_7 ∧ v13_7 ≤ 9223372036854775807), r4⟩) (((l.length : Int) - 0).toNat, [], -1, 0) [0, 0, 1] ⟨rfl, rfl, (by omega), (by omega), (by omega), (by omega)⟩ ?_
 rintro ⟨r4, known_5, at__6, v13_7⟩ ⟨hM8, hr9, hi10, hi11, hk12, hk13⟩
 refine JJ_nx fun _ _ hL hA => ?_; dsimp only at hL hA; subst hL hA
 refine Fb 40 1 fun hl14 => ?_
 refine KS ?_
 refine Oq Vlss (KS ?_)
 refine Kc ?_ ?_
 · intro h15
   have g16 := of_decide_eq_true h15
   obtain ⟨r17, rfl⟩ := scc (n := r4) (by omega)
   refine KS ?_
   refine Oq Vm (Oq (Vi sl43 1) ?_)
   refine JJ_peek_GBlock v13_7.toNat 1 rfl rng fun a18 k19 hb20 => ?_
   refine Fb 72 1 fun hl21 => ?_
   refine Oq (VldA sh49 0) (Oa (Al ze49 [.string (bs (Str.mk [])), .slice none 0 0]) fun p22 => Oq Va (Ost (Scl [0] sh49 [.string (bs ((l.getD v13_7.toNat default).Name)), vl a18 k19 ((l.getD v13_7.toNat default).Stmts)]) (KS ?_)))
   refine Oq Vm (Oq Vm (Oq (VldA sh49 0) ?_))
   refine JO_call [2, 5] rfl rfl rfl (OpC.clo («as» := [(.agg #[.string (bs ((l.getD v13_7.toNat default).Name)), vl a18 k19 ((l.getD v13_7.toNat default).Stmts)] : Value)] ++ nameC) rfl rfl hnamec rfl (by simp)) (hnameF (l.getD v13_7.toNat default) a18 k19 pre) rfl fun _ he23 => ?_
   refine Oq (Vmk1 3 false mt65 (kStr un9) ze4 (ek := vstr) (ev := vb) (ok := okStr) (key := (namep (l.getD v13_7.toNat default))) pre) (Oq Vm ?_)
   refine Js 23 ?_ ?_
   · intro h24
     refine Oq Vm (Oq Vlss (Oq Vpt (KS ?_)))
     refine Kc ?_ ?_
     · intro h26
       have g27 := of_decide_eq_true h26
       refine KS ?_
       refine Oq Vm (Oq Va (KS ?_))
       refine Oq Vm (Oq Vm (Oq (VldA sh49 0) ?_))
       refine JO_call [2, 5] rfl rfl rfl (OpC.clo («as» := [(.agg #[.string (bs ((l.getD v13_7.toNat default).Name)), vl a18 k19 ((l.getD v13_7.toNat default).Stmts)] : Value)] ++ nameC) rfl rfl hnamec rfl (by simp)) (hnameF (l.getD v13_7.toNat default) a18 k19 pre) rfl fun _ he28 => ?_
       refine Ost (Smp [3] mt65 (kStr un9) true (ek := vstr) (ev := vb) (ok := okStr) (key := (namep (l.getD v13_7.toNat default))) pre) (KS ?_)
       refine Oq Vadd (Oq Vm (KS ?_))
       exact Kg (r17, (mset known_5 (namep (l.getD v13_7.toNat default)) true), v13_7, (v13_7 + 1)) [0, 3, 4] ⟨(q3 hM8 (by simp only [validate_duplicate_Block_L0, h15, h24, h26, cs4])), (by omega), (by omega), (by omega), (by omega), (by omega)⟩
     intro h26
     have g29 := of_decide_eq_false h26
     refine KS ?_
     refine Oq Vm (Oq Vm (Oq (VldA sh49 0) ?_))
     refine JO_call [2, 5] rfl rfl rfl (OpC.clo («as» := [(.agg #[.string (bs ((l.getD v13_7.toNat default).Name)), vl a18 k19 ((l.getD v13_7.toNat default).Stmts)] : Value)] ++ nameC) rfl rfl hnamec rfl (by simp)) (hnameF (l.getD v13_7.toNat default) a18 k19 pre) rfl fun _ he30 => ?_
     refine Ost (Smp [3] mt65 (kStr un9) true (ek := vstr) (ev := vb) (ok := okStr) (key := (namep (l.getD v13_7.toNat default))) pre) (KS ?_)
     refine Oq Vadd (Oq Vm (KS ?_))
     exact Kg (r17, (mset known_5 (namep (l.getD v13_7.toNat default)) true), at__6, (v13_7 + 1)) [0, 3, 4] ⟨(q3 hM8 (by simp only [validate_duplicate_Block_L0, h15, h24, h26, cs4])), (by omega), (by omega), (by omega), (by omega), (by omega)⟩
   intro h24
   refine Osk (Osk (Oq Vpf (KS ?_)))
   refine Kf ?_
   refine KS ?_
   refine Oq Vm (Oq Vm (Oq (VldA sh49 0) ?_))
   refine JO_call [2, 5] rfl rfl rfl (OpC.clo («as» := [(.agg #[.string (bs ((l.getD v13_7.toNat default).Name)), vl a18 k19 ((l.getD v13_7.toNat default).Stmts)] : Value)] ++ nameC) rfl rfl hnamec rfl (by simp)) (hnameF (l.getD v13_7.toNat default) a18 k19 pre) rfl fun _ he32 => ?_
   refine Ost (Smp [3] mt65 (kStr un9) true (ek := vstr) (ev := vb) (ok := okStr) (key := (namep (l.getD v13_7.toNat default))) pre) (KS ?_)
   refine Oq Vadd (Oq Vm (KS ?_))
   exact Kg (r17, (mset known_5 (namep (l.getD v13_7.toNat default)) true), at__6, (v13_7 + 1)) [0, 3, 4] ⟨(q3 hM8 (by simp only [validate_duplicate_Block_L0, h15, h24, cs4])), (by omega), (by omega), (by omega), (by omega), (by omega)⟩
 intro h15
 have g33 := of_decide_eq_false h15
 obtain rfl : r4 = 0 := by omega
 refine Ke ?_
 have hR34 := q2 hM8 (known_5, at__6) (by simp only [validate_duplicate_Block_L0, h15, cs4])
 refine KS ?_
 refine Oq Vm (Oq Vm (Oq Va (Oq Va (KS ?_))))
 have hq := q4 hrr (at__6, known_5) (by simp only [validate_duplicate_Block, h15, hR34, cs4]); subst hq
 exact Kr (mv b3) rfl (.tmp rfl (.tmp rfl .nil)) [0] en
theorem fn49 (b : GBlock) (ba1 : Option Addr) (bk1 : Nat) (hb_0 : b.Name.b.length ≤ 140737488355328) (rr : Str) (hrr : validate_function_1 b = rr) : FT Tryd.prog 49 #[.agg #[.string (bs b.Name), vl ba1 bk1 b.Stmts]] [S ba1 bk1 b.Stmts] (fun g : Unit => rr.b.length ≤ 140737488355328) (fun g => .string (bs rr)) (fun g => []) := by
 refine FTi Tryd.func49 fun w0 M0 F0 => ?_
 refine Fb 72 0 fun hl1 => ?_
 refine KS ?_
 refine Oa (Ab [.string (bs b.Name), vl ba1 bk1 b.Stmts]) fun p2 => Oq Va (KS ?_)
 refine Oq (Vfa fo49_0 0) (Oq (VldF sh9 0) (Oq Va (KS ?_)))
 have hq := q4 hrr b.Name (by simp only [validate_function_1, cs4]); subst hq
 exact Kr () rfl (.tmp rfl .nil) [] en
theorem fn62 (s : GStmt) (sa2 : Option Addr) (sk2 : Nat) (sa3 : Option Addr) (sk3 : Nat) (hs_0 : i64ok s.Op) (hs_1 : s.Def.b.length ≤ 140737488355328) (rr : Bool) (hrr : validate_terminator s = rr) : FT Tryd.prog 62 #[.agg #[vi s.Op, .string (bs s.Def), vl sa2 sk2 s.Uses, vl sa3 sk3 s.Targets]] [S sa2 sk2 s.Uses, S sa3 sk3 s.Targets] (fun g : Unit => True) (fun g => vb rr) (fun g => []) := by
 refine FTi Tryd.func62 fun w0 M0 F0 => ?_
 unfold i64ok at hs_0
 refine Fb 16 0 fun hl1 => ?_
 refine FoS 0 fun ho2 => ?_
 refine Fb 16 1 fun hl3 => ?_
 refine FoS 1 fun ho4 => ?_
 refine KS ?_
 refine Oa (Ab [vi s.Op, .string (bs s.Def), vl sa2 sk2 s.Uses, vl sa3 sk3 s.Targets]) fun p5 => Oq Va (KS ?_)
 refine Oq (Vfa fo51_0 0) (Oq (VldF sh3 0) (Oq Veql (Oq Vm ?_)))
 refine Js 6 ?_ ?_
 · intro h6
   have g7 := eq_of_beq h6
   refine Osk (Osk (Osk (Oq Vpt (Oq Vm (Osk (Osk (Osk (Oq Vpt (Oq Va ?_)))))))))
   refine KS ?_
   have hq := q4 hrr true (by simp only [validate_terminator, h6, cs4]); subst hq
   exact Kr () rfl (.tmp rfl .nil) [] trivial
 intro h6
 have g8 := ne_of_beq_false h6
 refine Oq (Vfa fo51_0 0) (Oq (VldF sh3 0) (Oq Veql (Oq Vpf (Oq Vm ?_))))
 refine Js 11 ?_ ?_
 · intro h9
   have g10 := eq_of_beq h9
   refine Osk (Osk (Osk (Oq Vpt (Oq Va (KS ?_)))))
   have hq := q4 hrr true (by simp only [validate_terminator, h6, h9, cs4]); subst hq
   exact Kr () rfl (.tmp rfl .nil) [] trivial
 intro h9
 have g11 := ne_of_beq_false h9
 refine Oq (Vfa fo51_0 0) (Oq (VldF sh3 0) (Oq Veql (Oq Vpf (Oq Va (KS ?_)))))
 have hq := q4 hrr (s.Op == 9) (by simp only [validate_terminator, h6, h9, cs4]); subst hq
 exact Kr () rfl (.tmp rfl .nil) [] trivial
theorem fn50 (s : GStmt) (sa2 : Option Addr) (sk2 : Nat) (sa3 : Option Addr) (sk3 : Nat) (last : Bool) (knownP : Value) (known : List (Str × Bool)) (hs_0 : i64ok s.Op) (hs_1 : s.Def.b.length ≤ 140737488355328) (rr : Int) (hrr : validate_statement s last known = rr) : FT Tryd.prog 50 #[.agg #[vi s.Op, .string (bs s.Def), vl sa2 sk2 s.Uses, vl sa3 sk3 s.Targets], vb last, knownP] [S sa2 sk2 s.Uses, S sa3 sk3 s.Targets, Mp vstr vb okStr knownP known] (fun g : Unit => i64ok rr) (fun g => vi rr) (fun g => [Mp vstr vb okStr knownP known]) := by
 refine FTi Tryd.func50 fun w0 M0 F0 => ?_
 unfold i64ok at hs_0
 refine Fb 16 0 fun hl1 => ?_
 refine FoS 0 fun ho2 => ?_
 refine Fb 16 1 fun hl3 => ?_
 refine FoS 1 fun ho4 => ?_
 refine KS ?_
 refine Oa (Ab [vi s.Op, .string (bs s.Def), vl sa2 sk2 s.Uses, vl sa3 sk3 s.Targets]) fun p5 => Oq Va (KS ?_)
 refine Oq (VldA sh51 0) ?_
 refine letv (validate_terminator s) fun rv6 hg7 => ?_
 have hc8 := fn62 s sa2 sk2 sa3 sk3 pre pre rv6 hg7
 refine Oc [1, 2] ca62 hc8 ?_
 rintro - -
 refine Oq Vm (Oq (Vnb un4) (KS ?_))
 refine Kc ?_ ?_
 · intro h9
   refine KS ?_
   refine Oq Va (KS ?_)
   have hq := q4 hrr 4 (by simp only [validate_statement, h9, hg7, cs4]); subst hq
   exact Kr () rfl (.tmp rfl .nil) [3] en
 intro h9
 refine KS ?_
 refine Oq (Vfa fo51_3 0) (Oq (VldF sh40 0) (Oq (Vlen sl40) (Oq Vm (KS ?_))))
 refine Kl (γ := Nat × Int) (fun (r12, v16_13) => ⟨[(2, knownP), (14, vl sa3 sk3 s.Targets), (15, vi (s.Targets.length : Int)), (16, vi v16_13)], [S sa3 sk3 s.Targets, Mp vstr vb okStr knownP known], validate_statement_L0 s known r12 v16_13 = validate_statement_L0 s known (((s.Targets.length : Int) - 0).toNat) 0 ∧ r12 = ((s.Targets.length : Int) - v16_13).toNat ∧ (0 : Int) ≤ v16_13 ∧ v16_13 ≤ (s.Targets.length : Int) ∧ (-9223372036854775808 ≤ v16_13 ∧ v16_13 ≤ 9223372036854775807), r12⟩) (((s.Targets.length : Int) - 0).toNat, 0) [2, 3] ⟨rfl, rfl, (by omega), (by omega), (by omega)⟩ ?_
 rintro ⟨r12, v16_13⟩ ⟨hM14, hr15, hi16, hi17, hk18⟩
 refine JJ_nx fun _ _ hL hA => ?_; dsimp only at hL hA; subst hL hA
 refine Fb 16 0 fun hl19 => ?_
 refine FoS 0 fun ho20 => ?_
 refine KS ?_
 refine Oq Vlss (KS ?_)
 refine Kc ?_ ?_
 · intro h21
   have g22 := of_decide_eq_true h21
   obtain ⟨r23, rfl⟩ := scc (n := r12) (by omega)
   refine KS ?_
   refine Oq (Vi sl40 0) ?_
   have hb24 := okS (i := v16_13.toNat) ho20 rng
   refine Oq (VldS sh9 0) (Oq Va (KS ?_))
   refine Oq Vm (Oq Vm (Oq (Vmk1 1 false mt65 (kStr un9) ze4 (ek := vstr) (ev := vb) (ok := okStr) (key := (s.Targets.getD v16_13.toNat default)) pre) (Oq Vnot (KS ?_))))
   refine Kc ?_ ?_
   · intro h25
     have h27 := not_true h25
     refine KS ?_
     refine Oq Va (KS ?_)
     have hR29 := q2 hM14 (.ret 5) (by simp only [validate_statement_L0, h9, h21, h25, h27, hg7, cs4])
     have hq := q4 hrr 5 (by simp only [validate_statement, h9, h21, h25, h27, hg7, hR29, cs4]); subst hq
     exact Kr () rfl (.tmp rfl .nil) [1] en
   intro h25
   have h31 := not_false h25
   refine KS ?_
   refine Oq Vadd (Oq Vm (KS ?_))
   exact Kg (r23, (v16_13 + 1)) [0, 1] ⟨(q3 hM14 (by simp only [validate_statement_L0, h9, h21, h25, h31, hg7, cs4])), (by omega), (by omega), (by omega), (by omega)⟩
 intro h21
 have g33 := of_decide_eq_false h21
 obtain rfl : r12 = 0 := by omega
 refine Ke ?_
 have hR34 := q2 hM14 (.brk ()) (by simp only [validate_statement_L0, h9, h21, hg7, cs4])
 refine KS ?_
 refine Oq Va (KS ?_)
 have hq := q4 hrr 0 (by simp only [validate_statement, h9, h21, hg7, hR34, cs4]); subst hq
 exact Kr () rfl (.tmp rfl .nil) [1] en
theorem fn30 (f : GFunc) (fa1 : Option Addr) (fk1 : Nat) (i : Int) (funcsP : Value) (funcs : List (Str × Bool)) (hf_0 : f.Name.b.length ≤ 140737488355328) (hi_0 : i64ok i) (rr : GNode × Int) (hrr : validate_function f i funcs = rr) : FT Tryd.prog 30 #[.agg #[.string (bs f.Name), vl fa1 fk1 f.Blocks], vi i, funcsP] [S fa1 fk1 f.Blocks, Mp vstr vb okStr funcsP funcs] (fun g : Unit => i64ok rr.1.Kind ∧ i64ok rr.1.Func ∧ i64ok rr.1.Block ∧ i64ok rr.1.Stmt ∧ i64ok rr.2) (fun g => .tuple #[.agg #[vi rr.1.Kind, vi rr.1.Func, vi rr.1.Block, vi rr.1.Stmt], vi rr.2]) (fun g => [Mp vstr vb okStr funcsP funcs]) := by
 refine FTi Tryd.func30 fun w0 M0 F0 => ?_
 unfold i64ok at hi_0
 refine Fb 40 0 fun hl1 => ?_
 refine KS ?_
 refine Oa (Ab [.string (bs f.Name), vl fa1 fk1 f.Blocks]) fun p2 => Oa (Al ze34 [vi 0, vi 0, vi 0, vi 0]) fun p3 => Oq Va (KS ?_)
 refine Oq (Vfa fo45_1 1) (Oq (VldF sh43 1) ?_)
 refine JJ_ent (Ent.pall [] rfl rfl) ?_
 refine letv (validate_duplicate_Block f.Blocks (fun x0 => validate_function_1 x0)) fun rv5 hg6 => ?_
 have hc7 := fn48 f.Blocks fa1 fk1 49 [] (fun x0 => validate_function_1 x0) [] ca49 (fun x0 a0 k0 hq0 => FT_pall (A1 := _) (fn49 x0 a0 k0  hq0 _ rfl)) rv5 hg6
 refine Oc [3, 0] ca48 hc7 ?_
 rintro c4 he8
 unfold i64ok at he8
 refine Jom 0 ?_; rintro b9 rfl
 refine Oq Vm (Oq Vx (Oq Vx (Oq Va (Oq Va (KS ?_)))))
 refine Oq Vm (Oq Vgeq (KS ?_))
 refine Kc ?_ ?_
 · intro h10
   have g11 := of_decide_eq_true h10
   refine KS ?_
   refine Oq Vm (Oq Vm (Oq (Vbd st34 [vi 3, vi i, vi rv5.1, vi (-1)]) (Ost (Scl [2] sh34 [vi 3, vi i, vi rv5.1, vi (-1)]) (Oq Va (KS ?_)))))
   have hq := q4 hrr ((GNode.mk 3 i rv5.1 (-1)), 6) (by simp only [validate_function, h10, hg6, cs4]); subst hq
   exact Kr () rfl (.cellN 0 rfl sh34 rfl (reads_Cl _ _) rfl (.tmp rfl .nil)) [5] en
 intro h10
 have g12 := of_decide_eq_false h10
 refine KS ?_
 refine Oq (Vfa fo45_1 3) (Oq (VldF sh43 3) (Oq (Vlen sl43) (Oq Vm (KS ?_))))
 refine Kl (γ := Nat × Int) (fun (r13, v30_14) => ⟨[(1, vi i), (2, funcsP), (6, p3), (9, (mv b9)), (28, vl fa1 fk1 f.Blocks), (29, vi (f.Blocks.length : Int)), (30, vi v30_14)], [Mp vstr vb okStr (mv b9) rv5.2, pAll [], Cl p3 [vi 0, vi 0, vi 0, vi 0], S fa1 fk1 f.Blocks, Mp vstr vb okStr funcsP funcs], validate_function_L0 f i funcs rv5.2 r13 v30_14 = validate_function_L0 f i funcs rv5.2 (((f.Blocks.length : Int) - 0).toNat) 0 ∧ r13 = ((f.Blocks.length : Int) - v30_14).toNat ∧ (0 : Int) ≤ v30_14 ∧ v30_14 ≤ (f.Blocks.length : Int) ∧ (-9223372036854775808 ≤ v30_14 ∧ v30_14 ≤ 9223372036854775807), r13⟩) (((f.Blocks.length : Int) - 0).toNat, 0) [0, 0, 1, 2, 3] ⟨rfl, rfl, (by omega), (by omega), (by omega)⟩ ?_
 rintro ⟨r13, v30_14⟩ ⟨hM15, hr16, hi17, hi18, hk19⟩
 refine JJ_nx fun _ _ hL hA => ?_; dsimp only at hL hA; subst hL hA
 refine Fb 40 3 fun hl20 => ?_
 refine KS ?_
 refine Oq Vlss (KS ?_)
 refine Kc ?_ ?_
 · intro h21
   have g22 := of_decide_eq_true h21
   obtain ⟨r23, rfl⟩ := scc (n := r13) (by omega)
   refine KS ?_
   refine Oq Vm (Oq (Vi sl43 3) ?_)
   refine JJ_peek_GBlock v30_14.toNat 3 rfl rng fun a24 k25 hb26 => ?_
   refine Fb 72 1 fun hl27 => ?_
   refine Oq (VldA sh49 0) (Oa (Al ze49 [.string (bs (Str.mk [])), .slice none 0 0]) fun p28 => Oq Va (Ost (Scl [0] sh49 [.string (bs ((f.Blocks.getD v30_14.toNat default).Name)), vl a24 k25 ((f.Blocks.getD v30_14.toNat default).Stmts)]) (KS ?_)))
   refine Oq (Vfa fo49_1 0) (Oq (VldF sh47 0) (Oq (Vlen sl47) (Oq Vm (KS ?_))))
   refine Kl (γ := Nat × Int) (fun (r29, v38_30) => ⟨[(1, vi i), (2, funcsP), (6, p3), (9, (mv b9)), (28, vl fa1 fk1 f.Blocks), (29, vi (f.Blocks.length : Int)), (30, vi v30_14), (11, p28), (10, vi v30_14), (36, vl a24 k25 ((f.Blocks.getD v30_14.toNat default).Stmts)), (37, vi (((f.Blocks.getD v30_14.toNat default).Stmts).length : Int)), (38, vi v38_30)], [Cl p28 [.string (bs ((f.Blocks.getD v30_14.toNat default).Name)), vl a24 k25 ((f.Blocks.getD v30_14.toNat default).Stmts)], S a24 k25 ((f.Blocks.getD v30_14.toNat default).Stmts), Mp vstr vb okStr (mv b9) rv5.2, pAll [], Cl p3 [vi 0, vi 0, vi 0, vi 0], S fa1 fk1 f.Blocks, Mp vstr vb okStr funcsP funcs], validate_function_L1 i funcs rv5.2 v30_14 ((f.Blocks.getD v30_14.toNat default).Stmts) ((f.Blocks.getD v30_14.toNat default).Stmts) r29 v38_30 = validate_function_L1 i funcs rv5.2 v30_14 ((f.Blocks.getD v30_14.toNat default).Stmts) ((f.Blocks.getD v30_14.toNat default).Stmts) ((((((f.Blocks.getD v30_14.toNat default).Stmts).length : Int) : Int) - 0).toNat) 0 ∧ r29 = (((((f.Blocks.getD v30_14.toNat default).Stmts).length : Int) : Int) - v38_30).toNat ∧ (0 : Int) ≤ v38_30 ∧ (v38_30 ≤ (((f.Blocks.getD v30_14.toNat default).Stmts).length : Int) ∨ v38_30 = 0) ∧ (-9223372036854775808 ≤ v38_30 ∧ v38_30 ≤ 9223372036854775807), r29⟩) ((((((f.Blocks.getD v30_14.toNat default).Stmts).length : Int) : Int) - 0).toNat, 0) [0, 1, 2, 2, 3, 3, 4] ⟨rfl, rfl, (by omega), (.inr rfl), (by omega)⟩ ?_
   rintro ⟨r29, v38_30⟩ ⟨hM31, hr32, hi33, hi34, hk35⟩
   refine JJ_nx fun _ _ hL hA => ?_; dsimp only at hL hA; subst hL hA
   refine Fb 72 1 fun hl36 => ?_
   refine Fb 40 5 fun hl37 => ?_
   refine KS ?_
   refine Oq Vlss (KS ?_)
   refine Kc ?_ ?_
   · intro h38
     have g39 := of_decide_eq_true h38
     obtain ⟨r40, rfl⟩ := scc (n := r29) (by omega)
     refine KS ?_
     refine Oq Vm (Oq (Vi sl47 1) ?_)
     refine JJ_peek_GStmt v38_30.toNat 1 rfl rng fun a41 k42 a43 k44 hb45 hb46 => ?_
     unfold i64ok at hb45
     refine Fb 16 1 fun hl47 => ?_
     refine FoS 1 fun ho48 => ?_
     refine Fb 16 2 fun hl49 => ?_
     refine FoS 2 fun ho50 => ?_
     refine Oq (VldA sh51 0) (Oa (Al ze51 [vi 0, .string (bs (Str.mk [])), .slice none 0 0, .slice none 0 0]) fun p51 => Oq Va (Ost (Scl [0] sh51 [vi ((((f.Blocks.getD v30_14.toNat default).Stmts).getD v38_30.toNat default).Op), .string (bs ((((f.Blocks.getD v30_14.toNat default).Stmts).getD v38_30.toNat default).Def)), .slice a41 (((((f.Blocks.getD v30_14.toNat default).Stmts).getD v38_30.toNat default).Uses).length) k42, .slice a43 (((((f.Blocks.getD v30_14.toNat default).Stmts).getD v38_30.toNat default).Targets).length) k44]) (KS ?_)))
     refine Oq Vm (Oq Va (KS ?_))
     refine Oq (Vfa fo51_0 0) (Oq (VldF sh3 0) (Oq Veql (KS ?_)))
     refine Kc ?_ ?_
     · intro h52
       have g53 := eq_of_beq h52
       refine KS ?_
       refine Oq Vm (Oq Va (KS ?_))
       refine Oq (VldA sh51 0) (Oq Vm (Oq (Vfa fo49_1 4) (Oq (VldF sh47 4) (Oq (Vlen sl47) (Oq Vsub (Oq Veql (Oq Vm ?_)))))))
       refine letv (validate_statement (((f.Blocks.getD v30_14.toNat default).Stmts).getD v38_30.toNat default) (v38_30 == ((((f.Blocks.getD v30_14.toNat default).Stmts).length : Int) - 1)) funcs) fun rv54 hg55 => ?_
       have hc56 := fn50 ((((f.Blocks.getD v30_14.toNat default).Stmts).getD v38_30.toNat default)) a41 k42 a43 k44 ((v38_30 == ((((f.Blocks.getD v30_14.toNat default).Stmts).length : Int) - 1))) funcsP funcs pre pre rv54 hg55
       refine Oc [2, 3, 10] ca50 hc56 ?_
       rintro - he57
       unfold i64ok at he57
       refine Oq Va (KS ?_)
       refine Oq Vm (Oq Vneq (KS ?_))
       refine Kc ?_ ?_
       · intro h58
         have g59 := ne_of_bne h58
         refine KS ?_
         refine Oq Vm (Oq Vm (Oq Vm (Oq (Vbd st34 [vi 3, vi i, vi v30_14, vi v38_30]) (Oq Vm (Ost (Scl [9] sh34 [vi 3, vi i, vi v30_14, vi v38_30]) (Oq Va (KS ?_)))))))
         have hR60 := q2 hM31 (.ret ((GNode.mk 3 i v30_14 v38_30), rv54)) (by simp only [validate_function_L1, h10, h21, h38, h52, h58, hg6, hg55, cs4])
         have hR61 := q2 hM15 (.ret ((GNode.mk 3 i v30_14 v38_30), rv54)) (by simp only [validate_function_L0, h10, h21, h38, h52, h58, hg6, hg55, hR60, cs4])
         have hq := q4 hrr ((GNode.mk 3 i v30_14 v38_30), rv54) (by simp only [validate_function, h10, h21, h38, h52, h58, hg6, hg55, hR60, hR61, cs4]); subst hq
         exact Kr () rfl (.cellN 0 rfl sh34 rfl (reads_Cl _ _) rfl (.tmp rfl .nil)) [1] en
       intro h58
       have g62 := eq_of_bne_false h58
       refine KS ?_
       refine Oq Vadd (Oq Vm (KS ?_))
       exact Kg (r40, (v38_30 + 1)) [5, 5, 6, 6, 7, 7, 0] ⟨(q3 hM31 (by simp only [validate_function_L1, h10, h21, h38, h52, h58, hg6, hg55, cs4])), (by omega), (by omega), (by omega), (by omega)⟩
     intro h52
     have g63 := ne_of_beq_false h52
     refine KS ?_
     refine Oq (VldA sh51 0) (Oq Vm (Oq (Vfa fo49_1 4) (Oq (VldF sh47 4) (Oq (Vlen sl47) (Oq Vsub (Oq Veql (Oq Vm ?_)))))))
     refine letv (validate_statement (((f.Blocks.getD v30_14.toNat default).Stmts).getD v38_30.toNat default) (v38_30 == ((((f.Blocks.getD v30_14.toNat default).Stmts).length : Int) - 1)) rv5.2) fun rv64 hg65 => ?_
     have hc66 := fn50 ((((f.Blocks.getD v30_14.toNat default).Stmts).getD v38_30.toNat default)) a41 k42 a43 k44 ((v38_30 == ((((f.Blocks.getD v30_14.toNat default).Stmts).length : Int) - 1))) (mv b9) rv5.2 pre pre rv64 hg65
     refine Oc [2, 3, 6] ca50 hc66 ?_
     rintro - he67
     unfold i64ok at he67
     refine Oq Va (KS ?_)
     refine Oq Vm (Oq Vneq (KS ?_))
     refine Kc ?_ ?_
     · intro h68
       have g69 := ne_of_bne h68
       refine KS ?_
       refine Oq Vm (Oq Vm (Oq Vm (Oq (Vbd st34 [vi 3, vi i, vi v30_14, vi v38_30]) (Oq Vm (Ost (Scl [8] sh34 [vi 3, vi i, vi v30_14, vi v38_30]) (Oq Va (KS ?_)))))))
       have hR70 := q2 hM31 (.ret ((GNode.mk 3 i v30_14 v38_30), rv64)) (by simp only [validate_function_L1, h10, h21, h38, h52, h68, hg6, hg65, cs4])
       have hR71 := q2 hM15 (.ret ((GNode.mk 3 i v30_14 v38_30), rv64)) (by simp only [validate_function_L0, h10, h21, h38, h52, h68, hg6, hg65, hR70, cs4])
       have hq := q4 hrr ((GNode.mk 3 i v30_14 v38_30), rv64) (by simp only [validate_function, h10, h21, h38, h52, h68, hg6, hg65, hR70, hR71, cs4]); subst hq
       exact Kr () rfl (.cellN 0 rfl sh34 rfl (reads_Cl _ _) rfl (.tmp rfl .nil)) [10] en
     intro h68
     have g72 := eq_of_bne_false h68
     refine KS ?_
     refine Oq Vadd (Oq Vm (KS ?_))
     exact Kg (r40, (v38_30 + 1)) [5, 5, 0, 5, 6, 6, 7] ⟨(q3 hM31 (by simp only [validate_function_L1, h10, h21, h38, h52, h68, hg6, hg65, cs4])), (by omega), (by omega), (by omega), (by omega)⟩
   intro h38
   have g73 := of_decide_eq_false h38
   obtain rfl : r29 = 0 := by omega
   refine Ke ?_
   have hR74 := q2 hM31 (.brk ()) (by simp only [validate_function_L1, h10, h21, h38, hg6, cs4])
   refine KS ?_
   refine Oq Vadd (Oq Vm (KS ?_))
   exact Kg (r23, (v30_14 + 1)) [2, 2, 3, 3, 4] ⟨(q3 hM15 (by simp only [validate_function_L0, h10, h21, h38, hg6, hR74, cs4])), (by omega), (by omega), (by omega), (by omega)⟩
 intro h21
 have g75 := of_decide_eq_false h21
 obtain rfl : r13 = 0 := by omega
 refine Ke ?_
 have hR76 := q2 hM15 (.brk ()) (by simp only [validate_function_L0, h10, h21, hg6, cs4])
 refine KS ?_
 refine Oq (Vbd st34 [vi 0, vi 0, vi 0, vi 0]) (Ost (Scl [2] sh34 [vi 0, vi 0, vi 0, vi 0]) (Oq Va (KS ?_)))
 have hq := q4 hrr ((GNode.mk 0 0 0 0), 0) (by simp only [validate_function, h10, h21, hg6, hR76, cs4]); subst hq
 exact Kr () rfl (.cellN 0 rfl sh34 rfl (reads_Cl _ _) rfl (.tmp rfl .nil)) [4] en
theorem fn13 (p : GProgram) (pa0 : Option Addr) (pk0 : Nat) (kwLA : Option Addr) (kwLK : Nat) (hps : PSm p = true) (rr : GNode × Int) (hrr : validate_Check p = rr) : FT Tryd.prog 13 #[.agg #[vl pa0 pk0 p.Funcs]] [S pa0 pk0 p.Funcs, pv (gp 0) [vl kwLA kwLK kwL], S kwLA kwLK kwL] (fun g : Unit => i64ok rr.1.Kind ∧ i64ok rr.1.Func ∧ i64ok rr.1.Block ∧ i64ok rr.1.Stmt ∧ i64ok rr.2) (fun g => .tuple #[.agg #[vi rr.1.Kind, vi rr.1.Func, vi rr.1.Block, vi rr.1.Stmt], vi rr.2]) (fun g => []) := by
 refine FTi Tryd.func13 fun w0 M0 F0 => ?_
 refine Fb 40 0 fun hl1 => ?_
 refine Fb 16 2 fun hl2 => ?_
 refine FoS 2 fun ho3 => ?_
 refine KS ?_
 refine Oa (Ab [vl pa0 pk0 p.Funcs]) fun p4 => Oa (Al ze34 [vi 0, vi 0, vi 0, vi 0]) fun p5 => Oq Va (KS ?_)
 refine Oq (VldA sh27 1) ?_
 refine letv (syntax_Valid p) fun rv6 hg7 => ?_
 have hc8 := fn27 p pa0 pk0 kwLA kwLK pre rv6 hg7
 refine Oc [2, 3, 4] ca27 hc8 ?_
 rintro - -
 refine Oq Vnot (KS ?_)
 refine Kc ?_ ?_
 · intro h9
   have h11 := not_true h9
   refine KS ?_
   refine Oq (Vbd st34 [vi 0, vi 0, vi 0, vi 0]) (Ost (Scl [0] sh34 [vi 0, vi 0, vi 0, vi 0]) (Oq Va (KS ?_)))
   have hq := q4 hrr ((GNode.mk 0 0 0 0), 1) (by simp only [validate_Check, h9, h11, hg7, cs4]); subst hq
   exact Kr () rfl (.cellN 0 rfl sh34 rfl (reads_Cl _ _) rfl (.tmp rfl .nil)) [] en
 intro h9
 have h14 := not_false h9
 refine KS ?_
 refine Oq (Vfa fo27_0 1) (Oq (VldF sh25 1) ?_)
 refine JJ_ent (Ent.pall [] rfl rfl) ?_
 refine letv (validate_duplicate_Func p.Funcs (fun x0 => validate_Check_1 x0)) fun rv17 hg18 => ?_
 have hc19 := fn28 p.Funcs pa0 pk0 29 [] (fun x0 => validate_Check_1 x0) [] ca29 (fun x0 a0 k0 hq0 => FT_pall (A1 := _) (fn29 x0 a0 k0  hq0 _ rfl)) rv17 hg18
 refine Oc [3, 0] ca28 hc19 ?_
 rintro c16 he20
 unfold i64ok at he20
 refine Jom 0 ?_; rintro b21 rfl
 refine Oq Vm (Oq Vx (Oq Vx (Oq Va (Oq Va (KS ?_)))))
 refine Oq Vm (Oq Vgeq (KS ?_))
 refine Kc ?_ ?_
 · intro h22
   have g23 := of_decide_eq_true h22
   refine KS ?_
   refine Oq Vm (Oq (Vbd st34 [vi 1, vi rv17.1, vi (-1), vi (-1)]) (Ost (Scl [2] sh34 [vi 1, vi rv17.1, vi (-1), vi (-1)]) (Oq Va (KS ?_))))
   have hq := q4 hrr ((GNode.mk 1 rv17.1 (-1) (-1)), 6) (by simp only [validate_Check, h9, h14, h22, hg7, hg18, cs4]); subst hq
   exact Kr () rfl (.cellN 0 rfl sh34 rfl (reads_Cl _ _) rfl (.tmp rfl .nil)) [] en
 intro h22
 have g24 := of_decide_eq_false h22
 refine KS ?_
 refine Oq (Vfa fo27_0 3) (Oq (VldF sh25 3) (Oq (Vlen sl25) (Oq Vm (KS ?_))))
 refine Kl (γ := Nat × Int) (fun (r25, v29_26) => ⟨[(1, p4), (2, p5), (5, (mv b21)), (27, vl pa0 pk0 p.Funcs), (28, vi (p.Funcs.length : Int)), (29, vi v29_26)], [Mp vstr vb okStr (mv b21) rv17.2, pAll [], Cl p5 [vi 0, vi 0, vi 0, vi 0], pv p4 [vl pa0 pk0 p.Funcs], S pa0 pk0 p.Funcs, pv (gp 0) [vl kwLA kwLK kwL], S kwLA kwLK kwL], validate_Check_L0 p rv17.2 r25 v29_26 = validate_Check_L0 p rv17.2 (((p.Funcs.length : Int) - 0).toNat) 0 ∧ r25 = ((p.Funcs.length : Int) - v29_26).toNat ∧ (0 : Int) ≤ v29_26 ∧ v29_26 ≤ (p.Funcs.length : Int) ∧ (-9223372036854775808 ≤ v29_26 ∧ v29_26 ≤ 9223372036854775807), r25⟩) (((p.Funcs.length : Int) - 0).toNat, 0) [0, 0, 1, 1, 2, 3, 4] ⟨rfl, rfl, (by omega), (by omega), (by omega)⟩ ?_
 rintro ⟨r25, v29_26⟩ ⟨hM27, hr28, hi29, hi30, hk31⟩
 refine JJ_nx fun _ _ hL hA => ?_; dsimp only at hL hA; subst hL hA
 refine Fb 40 4 fun hl32 => ?_
 refine Fb 16 6 fun hl33 => ?_
 refine FoS 6 fun ho34 => ?_
 refine KS ?_
 refine Oq Vlss (KS ?_)
 refine Kc ?_ ?_
 · intro h35
   have g36 := of_decide_eq_true h35
   obtain ⟨r37, rfl⟩ := scc (n := r25) (by omega)
   refine KS ?_
   refine Oq Vm (Oq (Vi sl25 4) ?_)
   refine JJ_peek_GFunc v29_26.toNat 4 rfl rng fun a38 k39 hb40 => ?_
   refine Fb 40 1 fun hl41 => ?_
   refine Oq (VldA sh45 0) (Oa (Al ze45 [.string (bs (Str.mk [])), .slice none 0 0]) fun p42 => Oq Va (Ost (Scl [0] sh45 [.string (bs ((p.Funcs.getD v29_26.toNat default).Name)), vl a38 k39 ((p.Funcs.getD v29_26.toNat default).Blocks)]) (KS ?_)))
   refine Oq (VldA sh45 0) (Oq Vm (Oq Vm ?_))
   refine letv (validate_function (p.Funcs.getD v29_26.toNat default) v29_26 rv17.2) fun rv43 hg44 => ?_
   have hc45 := fn30 ((p.Funcs.getD v29_26.toNat default)) a38 k39 v29_26 (mv b21) rv17.2 pre pre rv43 hg44
   refine Oc [2, 3] ca30 hc45 ?_
   rintro - ⟨he46, he47, he48, he49, he50⟩
   unfold i64ok at he46 he47 he48 he49 he50
   refine Oq Vm (Oq Vx (Oq Vx (Oa (Al ze34 [vi 0, vi 0, vi 0, vi 0]) fun p51 => Ost (Scl [0] sh34 [vi rv43.1.Kind, vi rv43.1.Func, vi rv43.1.Block, vi rv43.1.Stmt]) (Oq Va (KS ?_)))))
   refine Oq Vm (Oq Vneq (KS ?_))
   refine Kc ?_ ?_
   · intro h52
     have g53 := ne_of_bne h52
     refine KS ?_
     refine Oq (VldA sh34 0) (Oq Vm (Ost (Scl [6] sh34 [vi rv43.1.Kind, vi rv43.1.Func, vi rv43.1.Block, vi rv43.1.Stmt]) (Oq Va (KS ?_))))
     have hR54 := q2 hM27 (.ret (rv43.1, rv43.2)) (by simp only [validate_Check_L0, h9, h14, h22, h35, h52, hg7, hg18, hg44, cs4])
     have hq := q4 hrr (rv43.1, rv43.2) (by simp only [validate_Check, h9, h14, h22, h35, h52, hg7, hg18, hg44, hR54, cs4]); subst hq
     exact Kr () rfl (.cellN 0 rfl sh34 rfl (reads_Cl _ _) rfl (.tmp rfl .nil)) [] en
   intro h52
   have g55 := eq_of_bne_false h52
   refine KS ?_
   refine Oq Vadd (Oq Vm (KS ?_))
   exact Kg (r37, (v29_26 + 1)) [1, 4, 5, 5, 6, 7, 8] ⟨(q3 hM27 (by simp only [validate_Check_L0, h9, h14, h22, h35, h52, hg7, hg18, hg44, cs4])), (by omega), (by omega), (by omega), (by omega)⟩
 intro h35
 have g56 := of_decide_eq_false h35
 obtain rfl : r25 = 0 := by omega
 refine Ke ?_
 have hR57 := q2 hM27 (.brk ()) (by simp only [validate_Check_L0, h9, h14, h22, h35, hg7, hg18, cs4])
 refine KS ?_
 refine Oq (VldA sh27 3) ?_
 refine letv (validate_Sizes p) fun rv58 hg59 => ?_
 have hc60 := fn14 p pa0 pk0 kwLA kwLK pre rv58 hg59
 refine Oc [4, 5, 6] ca14 hc60 ?_
 rintro - ⟨he61, he62, he63⟩
 unfold i64ok at he61 he62
 refine Oq Vm (Oq Vx (Oq Vx (Oq Va (Oq Va (KS ?_)))))
 refine Oq (VldA sh27 3) ?_
 refine letv (validate_Variables p) fun rv65 hg66 => ?_
 have hc67 := fn15 p pa0 pk0 kwLA kwLK pre rv65 hg66
 refine Oc [4, 5, 6] ca15 hc67 ?_
 rintro c64 he68
 refine Jo 0 ?_; rintro a69 k70 rfl
 refine Fb 16 0 fun hl71 => ?_
 refine FoS 0 fun ho72 => ?_
 refine Oq (Vlen sl40) (Oq Vgtr (Oq Vm ?_))
 refine Js 55 ?_ ?_
 · intro h73
   have g74 := of_decide_eq_true h73
   refine Osk (Osk (Oq Vpt (Oq Vm (Osk (Osk (Oq Vpt (KS ?_)))))))
   refine Kt ?_
   refine KS ?_
   refine Oq (Vbd st34 [vi 0, vi 0, vi 0, vi 0]) (Ost (Scl [3] sh34 [vi 0, vi 0, vi 0, vi 0]) (Oq Va (KS ?_)))
   have hq := q4 hrr ((GNode.mk 0 0 0 0), 7) (by simp only [validate_Check, h9, h14, h22, h35, h73, hg7, hg18, hR57, hg59, hg66, cs4]); subst hq
   exact Kr () rfl (.cellN 0 rfl sh34 rfl (reads_Cl _ _) rfl (.tmp rfl .nil)) [] en
 intro h73
 have g75 := of_decide_eq_false h73
 refine Oq Vm (Oq Vgtr (Oq Vpf (Oq Vm ?_)))
 refine Js 59 ?_ ?_
 · intro h76
   have g77 := of_decide_eq_true h76
   refine Osk (Osk (Oq Vpt (KS ?_)))
   refine Kt ?_
   refine KS ?_
   refine Oq (Vbd st34 [vi 0, vi 0, vi 0, vi 0]) (Ost (Scl [3] sh34 [vi 0, vi 0, vi 0, vi 0]) (Oq Va (KS ?_)))
   have hq := q4 hrr ((GNode.mk 0 0 0 0), 7) (by simp only [validate_Check, h9, h14, h22, h35, h73, h76, hg7, hg18, hR57, hg59, hg66, cs4]); subst hq
   exact Kr () rfl (.cellN 0 rfl sh34 rfl (reads_Cl _ _) rfl (.tmp rfl .nil)) [] en
 intro h76
 have g78 := of_decide_eq_false h76
 refine Oq Vm (Oq Vgtr (Oq Vpf (KS ?_)))
 refine Kc ?_ ?_
 · intro h79
   have g80 := of_decide_eq_true h79
   refine KS ?_
   refine Oq (Vbd st34 [vi 0, vi 0, vi 0, vi 0]) (Ost (Scl [3] sh34 [vi 0, vi 0, vi 0, vi 0]) (Oq Va (KS ?_)))
   have hq := q4 hrr ((GNode.mk 0 0 0 0), 7) (by simp only [validate_Check, h9, h14, h22, h35, h73, h76, h79, hg7, hg18, hR57, hg59, hg66, cs4]); subst hq
   exact Kr () rfl (.cellN 0 rfl sh34 rfl (reads_Cl _ _) rfl (.tmp rfl .nil)) [] en
 intro h79
 have g81 := of_decide_eq_false h79
 refine KS ?_
 refine Oq (Vbd st34 [vi 0, vi 0, vi 0, vi 0]) (Ost (Scl [3] sh34 [vi 0, vi 0, vi 0, vi 0]) (Oq Va (KS ?_)))
 have hq := q4 hrr ((GNode.mk 0 0 0 0), 0) (by simp only [validate_Check, h9, h14, h22, h35, h73, h76, h79, hg7, hg18, hR57, hg59, hg66, cs4]); subst hq
 exact Kr () rfl (.cellN 0 rfl sh34 rfl (reads_Cl _ _) rfl (.tmp rfl .nil)) [] en
theorem fn40 (text : Str) (htext_0 : text.b.length ≤ 140737488355328) (rr : List GToken × Int × Int × Int) (hrr : flqref4_Scan text = rr) : FT Tryd.prog 40 #[.string (bs text)] [] (fun g : Value => i64ok rr.2.1 ∧ i64ok rr.2.2.1 ∧ i64ok rr.2.2.2) (fun g => .tuple #[g, vi rr.2.1, vi rr.2.2.1, vi rr.2.2.2]) (fun g => [sl g rr.1]) := by
 refine FTi Tryd.func40 fun w0 M0 F0 => ?_
 refine KS ?_
 refine Oq Va (Oq Va (Oq Va (Oq Va (KS ?_))))
 refine Oq Vm (Oq (VlS un9 (l := text)) (Oq Vgtr (KS ?_)))
 refine Kc ?_ ?_
 · intro h1
   have g2 := of_decide_eq_true h1
   refine KS ?_
   refine Oq Va (Oq Va (Oq Va (Oq Va (KS ?_))))
   refine Jl [] (Ent.slNil (α := GToken)) ?_
   have hq := q4 hrr ([], 0, 0, 7) (by simp only [flqref4_Scan, h1, cs4]); subst hq
   exact Kr (.slice none 0 0) rfl (.tmp rfl (.tmp rfl (.tmp rfl (.tmp rfl .nil)))) [0] en
 intro h1
 have g3 := of_decide_eq_false h1
 refine KS ?_
 refine Oq Va (KS ?_)
 refine Oq Va (Oq Va (Oq Va (KS ?_)))
 refine Oq Va (KS ?_)
 refine Jl [] (Ent.osNil (α := GToken)) ?_
 have hterm20 : flqref4_Scan_L0 text (text.b.length + 1) [] 1 1 false 0 ≠ LR.oof := (Scan_term _ _ _ _ _ _ _ (by omega))
 refine Kl (γ := Nat × List GToken × Int × Int × Bool × Int × Option Addr × Nat) (fun (r4, out_5, line_6, col_7, open__8, i_9, a10, k11) => ⟨[(0, .string (bs text)), (6, vl a10 k11 out_5), (7, vi line_6), (8, vi col_7), (9, vb open__8), (10, vi i_9)], [O a10 k11 out_5], flqref4_Scan_L0 text r4 out_5 line_6 col_7 open__8 i_9 = flqref4_Scan_L0 text (text.b.length + 1) [] 1 1 false 0 ∧ (-9223372036854775808 ≤ line_6 ∧ line_6 ≤ 9223372036854775807) ∧ (-9223372036854775808 ≤ col_7 ∧ col_7 ≤ 9223372036854775807) ∧ (-9223372036854775808 ≤ i_9 ∧ i_9 ≤ 9223372036854775807) ∧ (0 ≤ i_9 ∧ i_9 ≤ (text.b.length : Int)) ∧ (0 ≤ line_6 ∧ line_6 ≤ i_9 + 1) ∧ (0 ≤ col_7 ∧ col_7 ≤ i_9 + 1) ∧ (out_5.length + r4 ≤ text.b.length + 1), r4⟩) ((text.b.length + 1), [], 1, 1, false, 0, none, 0) [0] ⟨rfl, (by omega), (by omega), (by omega), iv0, iv0, iv0, iv0⟩ ?_
 rintro ⟨r4, out_5, line_6, col_7, open__8, i_9, a10, k11⟩ ⟨hM12, hk13, hk14, hk15, hv16, hv17, hv18, hv19⟩
 refine JJ_nx fun _ _ hL hA => ?_; dsimp only at hL hA; subst hL hA
 refine Fb 40 0 fun hl21 => ?_
 rcases r4 with _ | r4
 · exact absurd (hM12.symm.trans rfl) hterm20
 refine KS ?_
 refine Oq Vm (Oq Vm (Oq (VlS un9 (l := text)) (Oq Vlss (KS ?_))))
 refine Kc ?_ ?_
 · intro h22
   have g23 := of_decide_eq_true h22
   refine KS ?_
   refine Oq Vm (Oq Vm (Oq (Vix un9 (l := text)) ?_))
   have hb24 := u8b (text.b.getD i_9.toNat 0)
   refine Oq Va (KS ?_)
   refine Oq Vm (Oq Veql (Oq Vm ?_))
   refine Js 28 ?_ ?_
   · intro h25
     have g26 := eq_of_beq h25
     refine Osk (Osk (Oq Vpt (Oq Va (KS ?_))))
     refine Kt ?_
     refine KS ?_
     refine Oq Vm (Oq Vadd (Oq Vm (Oq Vadd (Oq Va (Oq Va (KS ?_))))))
     exact Kg (r4, out_5, line_6, (col_7 + 1), open__8, (i_9 + 1), a10, k11) [0] ⟨(q3 hM12 (by simp only [flqref4_Scan_L0, h1, h22, h25, cs4])), (by omega), (by omega), (by omega), iv1, iv1, iv1, iv1⟩
   intro h25
   have g27 := ne_of_beq_false h25
   refine Oq Vm (Oq Veql (Oq Vpf (Oq Va (KS ?_))))
   refine Kc ?_ ?_
   · intro h28
     have g29 := eq_of_beq h28
     refine KS ?_
     refine Oq Vm (Oq Vadd (Oq Vm (Oq Vadd (Oq Va (Oq Va (KS ?_))))))
     exact Kg (r4, out_5, line_6, (col_7 + 1), open__8, (i_9 + 1), a10, k11) [0] ⟨(q3 hM12 (by simp only [flqref4_Scan_L0, h1, h22, h25, h28, cs4])), (by omega), (by omega), (by omega), iv1, iv1, iv1, iv1⟩
   intro h28
   have g30 := ne_of_beq_false h28
   refine KS ?_
   refine Oq Vm (Oq Veql (Oq Vm ?_))
   refine Js 39 ?_ ?_
   · intro h31
     have g32 := eq_of_beq h31
     refine Osk (Osk (Oq Vpt (Oq Vm (Osk (Osk (Oq Vpt (Oq Va (KS ?_))))))))
     refine Kt ?_
     refine KS ?_
     refine Oq Vm (KS ?_)
     refine Kc ?_ ?_
     · intro h33
       refine KS ?_
       refine Oq Vm (Oq Vm (Oq Vm (Oq (Vbd st85 [vi 3, .string (bs (Str.mk [])), vi line_6, vi col_7]) (Oa (AsV sl76 sz76 [.agg #[vi 3, .string (bs (Str.mk [])), vi line_6, vi col_7]] [vi 3, .string (bs (Str.mk [])), vi line_6, vi col_7]) fun c35 => ?_))))
       refine Jo 0 ?_; rintro a36 k37 rfl
       refine Jl [0] (Ent.cr1 (α := GToken) (A := []) _ (GToken.mk 3 (Str.mk []) line_6 col_7) _ (Nat.le_of_ble_eq_true rfl) (fun h => ⟨rfl, (by unfold i64ok; first | omega | (dsimp only; omega)), (by first | omega | (simp; done) | (dsimp only; omega) | exact lit_bl rfl), (by unfold i64ok; first | omega | (dsimp only; omega)), (by unfold i64ok; first | omega | (dsimp only; omega))⟩)) ?_
       refine Oa (ApO [1, 0] sl76 sl76 sz76) fun c38 => ?_
       refine Jo 0 ?_; rintro a39 k40 rfl
       refine Fb 40 0 fun hl41 => ?_
       have hn42 := la out_5 ([(GToken.mk 3 (Str.mk []) line_6 col_7)] : List GToken)
       refine Oq Va (KS ?_)
       refine Oq Va (KS ?_)
       have hterm51 : flqref4_Scan_L1 text ((text.b.getD i_9.toNat 0).toNat : Int) (text.b.length + 1) col_7 i_9 ≠ LR.oof := (Scan1_term _ _ _ _ _ (by omega)).1
       refine Kl (γ := Nat × Int × Int) (fun (r43, col_44, i_45) => ⟨[(0, .string (bs text)), (7, vi line_6), (8, vi col_44), (10, vi i_45), (11, .int .u8 ((text.b.getD i_9.toNat 0).toNat : Int)), (6, vl a39 k40 (out_5 ++ [(GToken.mk 3 (Str.mk []) line_6 col_7)])), (9, vb false)], [O a39 k40 ((out_5 ++ [(GToken.mk 3 (Str.mk []) line_6 col_7)]) : List GToken)], flqref4_Scan_L1 text ((text.b.getD i_9.toNat 0).toNat : Int) r43 col_44 i_45 = flqref4_Scan_L1 text ((text.b.getD i_9.toNat 0).toNat : Int) (text.b.length + 1) col_7 i_9 ∧ (-9223372036854775808 ≤ col_44 ∧ col_44 ≤ 9223372036854775807) ∧ (-9223372036854775808 ≤ i_45 ∧ i_45 ≤ 9223372036854775807) ∧ (i_9 ≤ i_45 ∧ i_45 ≤ (text.b.length : Int) ∧ col_7 ≤ col_44 ∧ col_44 ≤ col_7 + (i_45 - i_9)) ∧ (((text.b.getD i_9.toNat 0).toNat : Int) = 35 ∨ i_45 = i_9), r43⟩) ((text.b.length + 1), col_7, i_9) [0] ⟨rfl, (by omega), (by omega), iv0, iv0⟩ ?_
       rintro ⟨r43, col_44, i_45⟩ ⟨hM46, hk47, hk48, hv49, hv50⟩
       refine JJ_nx fun _ _ hL hA => ?_; dsimp only at hL hA; subst hL hA
       refine Fb 40 0 fun hl52 => ?_
       rcases r43 with _ | r43
       · exact absurd (hM46.symm.trans rfl) hterm51
       refine KS ?_
       refine Oq Vm (Oq Veql (Oq Vm ?_))
       refine Js 56 ?_ ?_
       · intro h53
         have g54 := eq_of_beq h53
         refine Oq Vm (Oq Vm (Oq (VlS un9 (l := text)) (Oq Vlss (Oq Vpt (Oq Vm ?_)))))
         refine Js 62 ?_ ?_
         · intro h55
           have g56 := of_decide_eq_true h55
           refine Oq Vm (Oq Vm (Oq (Vix un9 (l := text)) ?_))
           have hb57 := u8b (text.b.getD i_45.toNat 0)
           refine Oq Vneq (Oq Vpt (KS ?_))
           refine Kc ?_ ?_
           · intro h58
             have g59 := ne_of_bne h58
             refine KS ?_
             refine Oq Vm (Oq Vadd (Oq Vm (Oq Vadd (Oq Va (Oq Va (KS ?_))))))
             exact Kg (r43, (col_44 + 1), (i_45 + 1)) [0] ⟨(q3 hM46 (by simp only [flqref4_Scan_L1, h1, h22, h25, h28, h31, h33, h53, h55, h58, cs4])), (by omega), (by omega), iv1, iv1⟩
           intro h58
           have g60 := eq_of_bne_false h58
           refine Ke ?_
           have hR61 := q2 hM46 (.brk (col_44, i_45)) (by simp only [flqref4_Scan_L1, h1, h22, h25, h28, h31, h33, h53, h55, h58, cs4])
           refine KS ?_
           refine Oq Vm (Oq Veql (KS ?_))
           refine Kc ?_ ?_
           · intro h62
             have g63 := eq_of_beq h62
             refine KS ?_
             refine Oq Vm (Oq Vadd (Oq Vm (Oq Vadd (Oq Va (Oq Va (KS ?_))))))
             refine Oq Vm (Oq Vm (Oq (VlS un9 (l := text)) (Oq Vlss (Oq Vm ?_))))
             refine Js 82 ?_ ?_
             · intro h64
               have g65 := of_decide_eq_true h64
               refine Oq Vm (Oq Vm (Oq (Vix un9 (l := text)) ?_))
               have hb66 := u8b (text.b.getD ((i_45 + 1) : Int).toNat 0)
               refine Oq Veql (Oq Vpt (Oq Vm ?_))
               refine Js 88 ?_ ?_
               · intro h67
                 have g68 := eq_of_beq h67
                 refine Oq Vm (Oq Vneq (Oq Vpt (KS ?_)))
                 refine Kc ?_ ?_
                 · intro h69
                   exact absurd h69 (by first | (simp [h62]; done) | (simp only [bne, h62]; decide) | (simp only [bne, h62, Bool.not_true, Bool.not_false]; decide) | (exfalso; omega) | (intro hq; simp only [bne, hq, Bool.not_false, Bool.not_true, reduceCtorEq] at h62))
                 intro h69
                 have g70 := eq_of_bne_false h69
                 refine KS ?_
                 exact Kg (r4, (out_5 ++ [(GToken.mk 3 (Str.mk []) line_6 col_7)]), line_6, (col_44 + 1), false, (i_45 + 1), a39, k40) [0] ⟨(q3 hM12 (by simp only [flqref4_Scan_L0, h1, h22, h25, h28, h31, h33, h53, h55, h58, h62, h64, h67, h69, hR61, cs4])), (by omega), (by omega), (by omega), iv1, iv1, iv1, iv1⟩
               intro h67
               have g71 := ne_of_beq_false h67
               refine Osk (Osk (Oq Vpf (KS ?_)))
               refine Kf ?_
               refine KS ?_
               exact Kg (r4, (out_5 ++ [(GToken.mk 3 (Str.mk []) line_6 col_7)]), line_6, (col_44 + 1), false, (i_45 + 1), a39, k40) [0] ⟨(q3 hM12 (by simp only [flqref4_Scan_L0, h1, h22, h25, h28, h31, h33, h53, h55, h58, h62, h64, h67, hR61, cs4])), (by omega), (by omega), (by omega), iv1, iv1, iv1, iv1⟩
             intro h64
             have g72 := of_decide_eq_false h64
             refine Osk (Osk (Osk (Osk (Oq Vpf (Oq Vm (Osk (Osk (Oq Vpf (KS ?_)))))))))
             refine Kf ?_
             refine KS ?_
             exact Kg (r4, (out_5 ++ [(GToken.mk 3 (Str.mk []) line_6 col_7)]), line_6, (col_44 + 1), false, (i_45 + 1), a39, k40) [0] ⟨(q3 hM12 (by simp only [flqref4_Scan_L0, h1, h22, h25, h28, h31, h33, h53, h55, h58, h62, h64, hR61, cs4])), (by omega), (by omega), (by omega), iv1, iv1, iv1, iv1⟩
           intro h62
           have g73 := ne_of_beq_false h62
           refine KS ?_
           refine Oq Vm (Oq Vm (Oq (VlS un9 (l := text)) (Oq Vlss (Oq Vm ?_))))
           refine Js 82 ?_ ?_
           · intro h74
             have g75 := of_decide_eq_true h74
             refine Oq Vm (Oq Vm (Oq (Vix un9 (l := text)) ?_))
             have hb76 := u8b (text.b.getD i_45.toNat 0)
             refine Oq Veql (Oq Vpt (Oq Vm ?_))
             refine Js 88 ?_ ?_
             · intro h77
               have g78 := eq_of_beq h77
               refine Oq Vm (Oq Vneq (Oq Vpt (KS ?_)))
               refine Kc ?_ ?_
               · intro h79
                 have g80 := ne_of_bne h79
                 refine KS ?_
                 refine Oq Vm (Oq Vadd (Oq Vm (Oq Vadd (Oq Va (Oq Va (Oq Va (KS ?_)))))))
                 exact Kg (r4, (out_5 ++ [(GToken.mk 3 (Str.mk []) line_6 col_7)]), (line_6 + 1), 1, false, (i_45 + 1), a39, k40) [0] ⟨(q3 hM12 (by simp only [flqref4_Scan_L0, h1, h22, h25, h28, h31, h33, h53, h55, h58, h62, h74, h77, h79, hR61, cs4])), (by omega), (by omega), (by omega), iv1, iv1, iv1, iv1⟩
               intro h79
               exact absurd h79 (by first | (simp [h62]; done) | (simp only [bne, h62]; decide) | (simp only [bne, h62, Bool.not_true, Bool.not_false]; decide) | (exfalso; omega) | (intro hq; simp only [bne, hq, Bool.not_false, Bool.not_true, reduceCtorEq] at h62))
             intro h77
             exact absurd h77 (by first | (simp [h58]; done) | (simp only [bne, h58]; decide) | (simp only [bne, h58, Bool.not_true, Bool.not_false]; decide) | (exfalso; omega) | (intro hq; simp only [bne, hq, Bool.not_false, Bool.not_true, reduceCtorEq] at h58))
           intro h74
           exact absurd h74 (by first | (simp [h55]; done) | (simp only [bne, h55]; decide) | (simp only [bne, h55, Bool.not_true, Bool.not_false]; decide) | (exfalso; omega) | (intro hq; simp only [bne, hq, Bool.not_false, Bool.not_true, reduceCtorEq] at h55))
         intro h55
         have g81 := of_decide_eq_false h55
         refine Osk (Osk (Osk (Osk (Oq Vpf (KS ?_)))))
         refine Kf ?_
         refine Ke ?_
         have hR82 := q2 hM46 (.brk (col_44, i_45)) (by simp only [flqref4_Scan_L1, h1, h22, h25, h28, h31, h33, h53, h55, cs4])
         refine KS ?_
         refine Oq Vm (Oq Veql (KS ?_))
         refine Kc ?_ ?_
         · intro h83
           have g84 := eq_of_beq h83
           refine KS ?_
           refine Oq Vm (Oq Vadd (Oq Vm (Oq Vadd (Oq Va (Oq Va (KS ?_))))))
           refine Oq Vm (Oq Vm (Oq (VlS un9 (l := text)) (Oq Vlss (Oq Vm ?_))))
           refine Js 82 ?_ ?_
           · intro h85
             have g86 := of_decide_eq_true h85
             refine Oq Vm (Oq Vm (Oq (Vix un9 (l := text)) ?_))
             have hb87 := u8b (text.b.getD ((i_45 + 1) : Int).toNat 0)
             refine Oq Veql (Oq Vpt (Oq Vm ?_))
             refine Js 88 ?_ ?_
             · intro h88
               have g89 := eq_of_beq h88
               refine Oq Vm (Oq Vneq (Oq Vpt (KS ?_)))
               refine Kc ?_ ?_
               · intro h90
                 exact absurd h90 (by first | (simp [h83]; done) | (simp only [bne, h83]; decide) | (simp only [bne, h83, Bool.not_true, Bool.not_false]; decide) | (exfalso; omega) | (intro hq; simp only [bne, hq, Bool.not_false, Bool.not_true, reduceCtorEq] at h83))
               intro h90
               have g91 := eq_of_bne_false h90
               refine KS ?_
               exact Kg (r4, (out_5 ++ [(GToken.mk 3 (Str.mk []) line_6 col_7)]), line_6, (col_44 + 1), false, (i_45 + 1), a39, k40) [0] ⟨(q3 hM12 (by simp only [flqref4_Scan_L0, h1, h22, h25, h28, h31, h33, h53, h55, h83, h85, h88, h90, hR82, cs4])), (by omega), (by omega), (by omega), iv1, iv1, iv1, iv1⟩
             intro h88
             have g92 := ne_of_beq_false h88
             refine Osk (Osk (Oq Vpf (KS ?_)))
             refine Kf ?_
             refine KS ?_
             exact Kg (r4, (out_5 ++ [(GToken.mk 3 (Str.mk []) line_6 col_7)]), line_6, (col_44 + 1), false, (i_45 + 1), a39, k40) [0] ⟨(q3 hM12 (by simp only [flqref4_Scan_L0, h1, h22, h25, h28, h31, h33, h53, h55, h83, h85, h88, hR82, cs4])), (by omega), (by omega), (by omega), iv1, iv1, iv1, iv1⟩
           intro h85
           have g93 := of_decide_eq_false h85
           refine Osk (Osk (Osk (Osk (Oq Vpf (Oq Vm (Osk (Osk (Oq Vpf (KS ?_)))))))))
           refine Kf ?_
           refine KS ?_
           exact Kg (r4, (out_5 ++ [(GToken.mk 3 (Str.mk []) line_6 col_7)]), line_6, (col_44 + 1), false, (i_45 + 1), a39, k40) [0] ⟨(q3 hM12 (by simp only [flqref4_Scan_L0, h1, h22, h25, h28, h31, h33, h53, h55, h83, h85, hR82, cs4])), (by omega), (by omega), (by omega), iv1, iv1, iv1, iv1⟩
         intro h83
         have g94 := ne_of_beq_false h83
         refine KS ?_
         refine Oq Vm (Oq Vm (Oq (VlS un9 (l := text)) (Oq Vlss (Oq Vm ?_))))
         refine Js 82 ?_ ?_
         · intro h95
           exact absurd h95 (by first | (simp [h55]; done) | (simp only [bne, h55]; decide) | (simp only [bne, h55, Bool.not_true, Bool.not_false]; decide) | (exfalso; omega) | (intro hq; simp only [bne, hq, Bool.not_false, Bool.not_true, reduceCtorEq] at h55))
         intro h95
         have g96 := of_decide_eq_false h95
         refine Osk (Osk (Osk (Osk (Oq Vpf (Oq Vm (Osk (Osk (Oq Vpf (KS ?_)))))))))
         refine Kf ?_
         refine KS ?_
         exact Kg (r4, (out_5 ++ [(GToken.mk 3 (Str.mk []) line_6 col_7)]), line_6, col_44, false, i_45, a39, k40) [0] ⟨(q3 hM12 (by simp only [flqref4_Scan_L0, h1, h22, h25, h28, h31, h33, h53, h55, h83, h95, hR82, cs4])), (by omega), (by omega), (by omega), iv1, iv1, iv1, iv1⟩
       intro h53
       have g97 := ne_of_beq_false h53
       refine Osk (Osk (Osk (Osk (Oq Vpf (Oq Vm (Osk (Osk (Osk (Osk ?_)))))))))
       refine Oq Vpf (KS ?_)
       refine Kf ?_
       refine Ke ?_
       have hR98 := q2 hM46 (.brk (col_44, i_45)) (by simp only [flqref4_Scan_L1, h1, h22, h25, h28, h31, h33, h53, cs4])
       refine KS ?_
       refine Oq Vm (Oq Veql (KS ?_))
       refine Kc ?_ ?_
       · intro h99
         have g100 := eq_of_beq h99
         refine KS ?_
         refine Oq Vm (Oq Vadd (Oq Vm (Oq Vadd (Oq Va (Oq Va (KS ?_))))))
         refine Oq Vm (Oq Vm (Oq (VlS un9 (l := text)) (Oq Vlss (Oq Vm ?_))))
         refine Js 82 ?_ ?_
         · intro h101
           have g102 := of_decide_eq_true h101
           refine Oq Vm (Oq Vm (Oq (Vix un9 (l := text)) ?_))
           have hb103 := u8b (text.b.getD ((i_45 + 1) : Int).toNat 0)
           refine Oq Veql (Oq Vpt (Oq Vm ?_))
           refine Js 88 ?_ ?_
           · intro h104
             have g105 := eq_of_beq h104
             refine Oq Vm (Oq Vneq (Oq Vpt (KS ?_)))
             refine Kc ?_ ?_
             · intro h106
               exact absurd h106 (by first | (simp [h99]; done) | (simp only [bne, h99]; decide) | (simp only [bne, h99, Bool.not_true, Bool.not_false]; decide) | (exfalso; omega) | (intro hq; simp only [bne, hq, Bool.not_false, Bool.not_true, reduceCtorEq] at h99))
             intro h106
             have g107 := eq_of_bne_false h106
             refine KS ?_
             exact Kg (r4, (out_5 ++ [(GToken.mk 3 (Str.mk []) line_6 col_7)]), line_6, (col_44 + 1), false, (i_45 + 1), a39, k40) [0] ⟨(q3 hM12 (by simp only [flqref4_Scan_L0, h1, h22, h25, h28, h31, h33, h53, h99, h101, h104, h106, hR98, cs4])), (by omega), (by omega), (by omega), iv1, iv1, iv1, iv1⟩
           intro h104
           have g108 := ne_of_beq_false h104
           refine Osk (Osk (Oq Vpf (KS ?_)))
           refine Kf ?_
           refine KS ?_
           exact Kg (r4, (out_5 ++ [(GToken.mk 3 (Str.mk []) line_6 col_7)]), line_6, (col_44 + 1), false, (i_45 + 1), a39, k40) [0] ⟨(q3 hM12 (by simp only [flqref4_Scan_L0, h1, h22, h25, h28, h31, h33, h53, h99, h101, h104, hR98, cs4])), (by omega), (by omega), (by omega), iv1, iv1, iv1, iv1⟩
         intro h101
         have g109 := of_decide_eq_false h101
         refine Osk (Osk (Osk (Osk (Oq Vpf (Oq Vm (Osk (Osk (Oq Vpf (KS ?_)))))))))
         refine Kf ?_
         refine KS ?_
         exact Kg (r4, (out_5 ++ [(GToken.mk 3 (Str.mk []) line_6 col_7)]), line_6, (col_44 + 1), false, (i_45 + 1), a39, k40) [0] ⟨(q3 hM12 (by simp only [flqref4_Scan_L0, h1, h22, h25, h28, h31, h33, h53, h99, h101, hR98, cs4])), (by omega), (by omega), (by omega), iv1, iv1, iv1, iv1⟩
       intro h99
       have g110 := ne_of_beq_false h99
       refine KS ?_
       refine Oq Vm (Oq Vm (Oq (VlS un9 (l := text)) (Oq Vlss (Oq Vm ?_))))
       refine Js 82 ?_ ?_
       · intro h111
         have g112 := of_decide_eq_true h111
         refine Oq Vm (Oq Vm (Oq (Vix un9 (l := text)) ?_))
         have hb113 := u8b (text.b.getD i_45.toNat 0)
         refine Oq Veql (Oq Vpt (Oq Vm ?_))
         refine Js 88 ?_ ?_
         · intro h114
           have g115 := eq_of_beq h114
           refine Oq Vm (Oq Vneq (Oq Vpt (KS ?_)))
           refine Kc ?_ ?_
           · intro h116
             have g117 := ne_of_bne h116
             refine KS ?_
             refine Oq Vm (Oq Vadd (Oq Vm (Oq Vadd (Oq Va (Oq Va (Oq Va (KS ?_)))))))
             exact Kg (r4, (out_5 ++ [(GToken.mk 3 (Str.mk []) line_6 col_7)]), (line_6 + 1), 1, false, (i_45 + 1), a39, k40) [0] ⟨(q3 hM12 (by simp only [flqref4_Scan_L0, h1, h22, h25, h28, h31, h33, h53, h99, h111, h114, h116, hR98, cs4])), (by omega), (by omega), (by omega), iv1, iv1, iv1, iv1⟩
           intro h116
           exact absurd h116 (by first | (simp [h99]; done) | (simp only [bne, h99]; decide) | (simp only [bne, h99, Bool.not_true, Bool.not_false]; decide) | (exfalso; omega) | (intro hq; simp only [bne, hq, Bool.not_false, Bool.not_true, reduceCtorEq] at h99))
         intro h114
         have g118 := ne_of_beq_false h114
         refine Osk (Osk (Oq Vpf (KS ?_)))
         refine Kf ?_
         refine KS ?_
         exact Kg (r4, (out_5 ++ [(GToken.mk 3 (Str.mk []) line_6 col_7)]), line_6, col_44, false, i_45, a39, k40) [0] ⟨(q3 hM12 (by simp only [flqref4_Scan_L0, h1, h22, h25, h28, h31, h33, h53, h99, h111, h114, hR98, cs4])), (by omega), (by omega), (by omega), iv1, iv1, iv1, iv1⟩
       intro h111
       have g119 := of_decide_eq_false h111
       refine Osk (Osk (Osk (Osk (Oq Vpf (Oq Vm (Osk (Osk (Oq Vpf (KS ?_)))))))))
       refine Kf ?_
       refine KS ?_
       exact Kg (r4, (out_5 ++ [(GToken.mk 3 (Str.mk []) line_6 col_7)]), line_6, col_44, false, i_45, a39, k40) [0] ⟨(q3 hM12 (by simp only [flqref4_Scan_L0, h1, h22, h25, h28, h31, h33, h53, h99, h111, hR98, cs4])), (by omega), (by omega), (by omega), iv1, iv1, iv1, iv1⟩
     intro h33
     refine KS ?_
     refine Oq Va (KS ?_)
     have hterm129 : flqref4_Scan_L1 text ((text.b.getD i_9.toNat 0).toNat : Int) (text.b.length + 1) col_7 i_9 ≠ LR.oof := (Scan1_term _ _ _ _ _ (by omega)).1
     refine Kl (γ := Nat × Int × Int) (fun (r121, col_122, i_123) => ⟨[(0, .string (bs text)), (6, vl a10 k11 out_5), (7, vi line_6), (8, vi col_122), (10, vi i_123), (11, .int .u8 ((text.b.getD i_9.toNat 0).toNat : Int)), (9, vb false)], [O a10 k11 out_5], flqref4_Scan_L1 text ((text.b.getD i_9.toNat 0).toNat : Int) r121 col_122 i_123 = flqref4_Scan_L1 text ((text.b.getD i_9.toNat 0).toNat : Int) (text.b.length + 1) col_7 i_9 ∧ (-9223372036854775808 ≤ col_122 ∧ col_122 ≤ 9223372036854775807) ∧ (-9223372036854775808 ≤ i_123 ∧ i_123 ≤ 9223372036854775807) ∧ (i_9 ≤ i_123 ∧ i_123 ≤ (text.b.length : Int) ∧ col_7 ≤ col_122 ∧ col_122 ≤ col_7 + (i_123 - i_9)) ∧ (((text.b.getD i_9.toNat 0).toNat : Int) = 35 ∨ i_123 = i_9), r121⟩) ((text.b.length + 1), col_7, i_9) [0] ⟨rfl, (by omega), (by omega), iv0, iv0⟩ ?_
     rintro ⟨r121, col_122, i_123⟩ ⟨hM124, hk125, hk126, hv127, hv128⟩
     refine JJ_nx fun _ _ hL hA => ?_; dsimp only at hL hA; subst hL hA
     refine Fb 40 0 fun hl130 => ?_
     rcases r121 with _ | r121
     · exact absurd (hM124.symm.trans rfl) hterm129
     refine KS ?_
     refine Oq Vm (Oq Veql (Oq Vm ?_))
     refine Js 56 ?_ ?_
     · intro h131
       have g132 := eq_of_beq h131
       refine Oq Vm (Oq Vm (Oq (VlS un9 (l := text)) (Oq Vlss (Oq Vpt (Oq Vm ?_)))))
       refine Js 62 ?_ ?_
       · intro h133
         have g134 := of_decide_eq_true h133
         refine Oq Vm (Oq Vm (Oq (Vix un9 (l := text)) ?_))
         have hb135 := u8b (text.b.getD i_123.toNat 0)
         refine Oq Vneq (Oq Vpt (KS ?_))
         refine Kc ?_ ?_
         · intro h136
           have g137 := ne_of_bne h136
           refine KS ?_
           refine Oq Vm (Oq Vadd (Oq Vm (Oq Vadd (Oq Va (Oq Va (KS ?_))))))
           exact Kg (r121, (col_122 + 1), (i_123 + 1)) [0] ⟨(q3 hM124 (by simp only [flqref4_Scan_L1, h1, h22, h25, h28, h31, h33, h131, h133, h136, cs4])), (by omega), (by omega), iv1, iv1⟩
         intro h136
         have g138 := eq_of_bne_false h136
         refine Ke ?_
         have hR139 := q2 hM124 (.brk (col_122, i_123)) (by simp only [flqref4_Scan_L1, h1, h22, h25, h28, h31, h33, h131, h133, h136, cs4])
         refine KS ?_
         refine Oq Vm (Oq Veql (KS ?_))
         refine Kc ?_ ?_
         · intro h140
           have g141 := eq_of_beq h140
           refine KS ?_
           refine Oq Vm (Oq Vadd (Oq Vm (Oq Vadd (Oq Va (Oq Va (KS ?_))))))
           refine Oq Vm (Oq Vm (Oq (VlS un9 (l := text)) (Oq Vlss (Oq Vm ?_))))
           refine Js 82 ?_ ?_
           · intro h142
             have g143 := of_decide_eq_true h142
             refine Oq Vm (Oq Vm (Oq (Vix un9 (l := text)) ?_))
             have hb144 := u8b (text.b.getD ((i_123 + 1) : Int).toNat 0)
             refine Oq Veql (Oq Vpt (Oq Vm ?_))
             refine Js 88 ?_ ?_
             · intro h145
               have g146 := eq_of_beq h145
               refine Oq Vm (Oq Vneq (Oq Vpt (KS ?_)))
               refine Kc ?_ ?_
               · intro h147
                 exact absurd h147 (by first | (simp [h140]; done) | (simp only [bne, h140]; decide) | (simp only [bne, h140, Bool.not_true, Bool.not_false]; decide) | (exfalso; omega) | (intro hq; simp only [bne, hq, Bool.not_false, Bool.not_true, reduceCtorEq] at h140))
               intro h147
               have g148 := eq_of_bne_false h147
               refine KS ?_
               exact Kg (r4, out_5, line_6, (col_122 + 1), false, (i_123 + 1), a10, k11) [0] ⟨(q3 hM12 (by simp only [flqref4_Scan_L0, h1, h22, h25, h28, h31, h33, h131, h133, h136, h140, h142, h145, h147, hR139, cs4])), (by omega), (by omega), (by omega), iv1, iv1, iv1, iv1⟩
             intro h145
             have g149 := ne_of_beq_false h145
             refine Osk (Osk (Oq Vpf (KS ?_)))
             refine Kf ?_
             refine KS ?_
             exact Kg (r4, out_5, line_6, (col_122 + 1), false, (i_123 + 1), a10, k11) [0] ⟨(q3 hM12 (by simp only [flqref4_Scan_L0, h1, h22, h25, h28, h31, h33, h131, h133, h136, h140, h142, h145, hR139, cs4])), (by omega), (by omega), (by omega), iv1, iv1, iv1, iv1⟩
           intro h142
           have g150 := of_decide_eq_false h142
           refine Osk (Osk (Osk (Osk (Oq Vpf (Oq Vm (Osk (Osk (Oq Vpf (KS ?_)))))))))
           refine Kf ?_
           refine KS ?_
           exact Kg (r4, out_5, line_6, (col_122 + 1), false, (i_123 + 1), a10, k11) [0] ⟨(q3 hM12 (by simp only [flqref4_Scan_L0, h1, h22, h25, h28, h31, h33, h131, h133, h136, h140, h142, hR139, cs4])), (by omega), (by omega), (by omega), iv1, iv1, iv1, iv1⟩
         intro h140
         have g151 := ne_of_beq_false h140
         refine KS ?_
         refine Oq Vm (Oq Vm (Oq (VlS un9 (l := text)) (Oq Vlss (Oq Vm ?_))))
         refine Js 82 ?_ ?_
         · intro h152
           have g153 := of_decide_eq_true h152
           refine Oq Vm (Oq Vm (Oq (Vix un9 (l := text)) ?_))
           have hb154 := u8b (text.b.getD i_123.toNat 0)
           refine Oq Veql (Oq Vpt (Oq Vm ?_))
           refine Js 88 ?_ ?_
           · intro h155
             have g156 := eq_of_beq h155
             refine Oq Vm (Oq Vneq (Oq Vpt (KS ?_)))
             refine Kc ?_ ?_
             · intro h157
               have g158 := ne_of_bne h157
               refine KS ?_
               refine Oq Vm (Oq Vadd (Oq Vm (Oq Vadd (Oq Va (Oq Va (Oq Va (KS ?_)))))))
               exact Kg (r4, out_5, (line_6 + 1), 1, false, (i_123 + 1), a10, k11) [0] ⟨(q3 hM12 (by simp only [flqref4_Scan_L0, h1, h22, h25, h28, h31, h33, h131, h133, h136, h140, h152, h155, h157, hR139, cs4])), (by omega), (by omega), (by omega), iv1, iv1, iv1, iv1⟩
             intro h157
             exact absurd h157 (by first | (simp [h140]; done) | (simp only [bne, h140]; decide) | (simp only [bne, h140, Bool.not_true, Bool.not_false]; decide) | (exfalso; omega) | (intro hq; simp only [bne, hq, Bool.not_false, Bool.not_true, reduceCtorEq] at h140))
           intro h155
           exact absurd h155 (by first | (simp [h136]; done) | (simp only [bne, h136]; decide) | (simp only [bne, h136, Bool.not_true, Bool.not_false]; decide) | (exfalso; omega) | (intro hq; simp only [bne, hq, Bool.not_false, Bool.not_true, reduceCtorEq] at h136))
         intro h152
         exact absurd h152 (by first | (simp [h133]; done) | (simp only [bne, h133]; decide) | (simp only [bne, h133, Bool.not_true, Bool.not_false]; decide) | (exfalso; omega) | (intro hq; simp only [bne, hq, Bool.not_false, Bool.not_true, reduceCtorEq] at h133))
       intro h133
       have g159 := of_decide_eq_false h133
       refine Osk (Osk (Osk (Osk (Oq Vpf (KS ?_)))))
       refine Kf ?_
       refine Ke ?_
       have hR160 := q2 hM124 (.brk (col_122, i_123)) (by simp only [flqref4_Scan_L1, h1, h22, h25, h28, h31, h33, h131, h133, cs4])
       refine KS ?_
       refine Oq Vm (Oq Veql (KS ?_))
       refine Kc ?_ ?_
       · intro h161
         have g162 := eq_of_beq h161
         refine KS ?_
         refine Oq Vm (Oq Vadd (Oq Vm (Oq Vadd (Oq Va (Oq Va (KS ?_))))))
         refine Oq Vm (Oq Vm (Oq (VlS un9 (l := text)) (Oq Vlss (Oq Vm ?_))))
         refine Js 82 ?_ ?_
         · intro h163
           have g164 := of_decide_eq_true h163
           refine Oq Vm (Oq Vm (Oq (Vix un9 (l := text)) ?_))
           have hb165 := u8b (text.b.getD ((i_123 + 1) : Int).toNat 0)
           refine Oq Veql (Oq Vpt (Oq Vm ?_))
           refine Js 88 ?_ ?_
           · intro h166
             have g167 := eq_of_beq h166
             refine Oq Vm (Oq Vneq (Oq Vpt (KS ?_)))
             refine Kc ?_ ?_
             · intro h168
               exact absurd h168 (by first | (simp [h161]; done) | (simp only [bne, h161]; decide) | (simp only [bne, h161, Bool.not_true, Bool.not_false]; decide) | (exfalso; omega) | (intro hq; simp only [bne, hq, Bool.not_false, Bool.not_true, reduceCtorEq] at h161))
             intro h168
             have g169 := eq_of_bne_false h168
             refine KS ?_
             exact Kg (r4, out_5, line_6, (col_122 + 1), false, (i_123 + 1), a10, k11) [0] ⟨(q3 hM12 (by simp only [flqref4_Scan_L0, h1, h22, h25, h28, h31, h33, h131, h133, h161, h163, h166, h168, hR160, cs4])), (by omega), (by omega), (by omega), iv1, iv1, iv1, iv1⟩
           intro h166
           have g170 := ne_of_beq_false h166
           refine Osk (Osk (Oq Vpf (KS ?_)))
           refine Kf ?_
           refine KS ?_
           exact Kg (r4, out_5, line_6, (col_122 + 1), false, (i_123 + 1), a10, k11) [0] ⟨(q3 hM12 (by simp only [flqref4_Scan_L0, h1, h22, h25, h28, h31, h33, h131, h133, h161, h163, h166, hR160, cs4])), (by omega), (by omega), (by omega), iv1, iv1, iv1, iv1⟩
         intro h163
         have g171 := of_decide_eq_false h163
         refine Osk (Osk (Osk (Osk (Oq Vpf (Oq Vm (Osk (Osk (Oq Vpf (KS ?_)))))))))
         refine Kf ?_
         refine KS ?_
         exact Kg (r4, out_5, line_6, (col_122 + 1), false, (i_123 + 1), a10, k11) [0] ⟨(q3 hM12 (by simp only [flqref4_Scan_L0, h1, h22, h25, h28, h31, h33, h131, h133, h161, h163, hR160, cs4])), (by omega), (by omega), (by omega), iv1, iv1, iv1, iv1⟩
       intro h161
       have g172 := ne_of_beq_false h161
       refine KS ?_
       refine Oq Vm (Oq Vm (Oq (VlS un9 (l := text)) (Oq Vlss (Oq Vm ?_))))
       refine Js 82 ?_ ?_
       · intro h173
         exact absurd h173 (by first | (simp [h133]; done) | (simp only [bne, h133]; decide) | (simp only [bne, h133, Bool.not_true, Bool.not_false]; decide) | (exfalso; omega) | (intro hq; simp only [bne, hq, Bool.not_false, Bool.not_true, reduceCtorEq] at h133))
       intro h173
       have g174 := of_decide_eq_false h173
       refine Osk (Osk (Osk (Osk (Oq Vpf (Oq Vm (Osk (Osk (Oq Vpf (KS ?_)))))))))
       refine Kf ?_
       refine KS ?_
       exact Kg (r4, out_5, line_6, col_122, false, i_123, a10, k11) [0] ⟨(q3 hM12 (by simp only [flqref4_Scan_L0, h1, h22, h25, h28, h31, h33, h131, h133, h161, h173, hR160, cs4])), (by omega), (by omega), (by omega), iv1, iv1, iv1, iv1⟩
     intro h131
     have g175 := ne_of_beq_false h131
     refine Osk (Osk (Osk (Osk (Oq Vpf (Oq Vm (Osk (Osk (Osk (Osk ?_)))))))))
     refine Oq Vpf (KS ?_)
     refine Kf ?_
     refine Ke ?_
     have hR176 := q2 hM124 (.brk (col_122, i_123)) (by simp only [flqref4_Scan_L1, h1, h22, h25, h28, h31, h33, h131, cs4])
     refine KS ?_
     refine Oq Vm (Oq Veql (KS ?_))
     refine Kc ?_ ?_
     · intro h177
       have g178 := eq_of_beq h177
       refine KS ?_
       refine Oq Vm (Oq Vadd (Oq Vm (Oq Vadd (Oq Va (Oq Va (KS ?_))))))
       refine Oq Vm (Oq Vm (Oq (VlS un9 (l := text)) (Oq Vlss (Oq Vm ?_))))
       refine Js 82 ?_ ?_
       · intro h179
         have g180 := of_decide_eq_true h179
         refine Oq Vm (Oq Vm (Oq (Vix un9 (l := text)) ?_))
         have hb181 := u8b (text.b.getD ((i_123 + 1) : Int).toNat 0)
         refine Oq Veql (Oq Vpt (Oq Vm ?_))
         refine Js 88 ?_ ?_
         · intro h182
           have g183 := eq_of_beq h182
           refine Oq Vm (Oq Vneq (Oq Vpt (KS ?_)))
           refine Kc ?_ ?_
           · intro h184
             exact absurd h184 (by first | (simp [h177]; done) | (simp only [bne, h177]; decide) | (simp only [bne, h177, Bool.not_true, Bool.not_false]; decide) | (exfalso; omega) | (intro hq; simp only [bne, hq, Bool.not_false, Bool.not_true, reduceCtorEq] at h177))
           intro h184
           have g185 := eq_of_bne_false h184
           refine KS ?_
           exact Kg (r4, out_5, line_6, (col_122 + 1), false, (i_123 + 1), a10, k11) [0] ⟨(q3 hM12 (by simp only [flqref4_Scan_L0, h1, h22, h25, h28, h31, h33, h131, h177, h179, h182, h184, hR176, cs4])), (by omega), (by omega), (by omega), iv1, iv1, iv1, iv1⟩
         intro h182
         have g186 := ne_of_beq_false h182
         refine Osk (Osk (Oq Vpf (KS ?_)))
         refine Kf ?_
         refine KS ?_
         exact Kg (r4, out_5, line_6, (col_122 + 1), false, (i_123 + 1), a10, k11) [0] ⟨(q3 hM12 (by simp only [flqref4_Scan_L0, h1, h22, h25, h28, h31, h33, h131, h177, h179, h182, hR176, cs4])), (by omega), (by omega), (by omega), iv1, iv1, iv1, iv1⟩
       intro h179
       have g187 := of_decide_eq_false h179
       refine Osk (Osk (Osk (Osk (Oq Vpf (Oq Vm (Osk (Osk (Oq Vpf (KS ?_)))))))))
       refine Kf ?_
       refine KS ?_
       exact Kg (r4, out_5, line_6, (col_122 + 1), false, (i_123 + 1), a10, k11) [0] ⟨(q3 hM12 (by simp only [flqref4_Scan_L0, h1, h22, h25, h28, h31, h33, h131, h177, h179, hR176, cs4])), (by omega), (by omega), (by omega), iv1, iv1, iv1, iv1⟩
     intro h177
     have g188 := ne_of_beq_false h177
     refine KS ?_
     refine Oq Vm (Oq Vm (Oq (VlS un9 (l := text)) (Oq Vlss (Oq Vm ?_))))
     refine Js 82 ?_ ?_
     · intro h189
       have g190 := of_decide_eq_true h189
       refine Oq Vm (Oq Vm (Oq (Vix un9 (l := text)) ?_))
       have hb191 := u8b (text.b.getD i_123.toNat 0)
       refine Oq Veql (Oq Vpt (Oq Vm ?_))
       refine Js 88 ?_ ?_
       · intro h192
         have g193 := eq_of_beq h192
         refine Oq Vm (Oq Vneq (Oq Vpt (KS ?_)))
         refine Kc ?_ ?_
         · intro h194
           have g195 := ne_of_bne h194
           refine KS ?_
           refine Oq Vm (Oq Vadd (Oq Vm (Oq Vadd (Oq Va (Oq Va (Oq Va (KS ?_)))))))
           exact Kg (r4, out_5, (line_6 + 1), 1, false, (i_123 + 1), a10, k11) [0] ⟨(q3 hM12 (by simp only [flqref4_Scan_L0, h1, h22, h25, h28, h31, h33, h131, h177, h189, h192, h194, hR176, cs4])), (by omega), (by omega), (by omega), iv1, iv1, iv1, iv1⟩
         intro h194
         exact absurd h194 (by first | (simp [h177]; done) | (simp only [bne, h177]; decide) | (simp only [bne, h177, Bool.not_true, Bool.not_false]; decide) | (exfalso; omega) | (intro hq; simp only [bne, hq, Bool.not_false, Bool.not_true, reduceCtorEq] at h177))
       intro h192
       have g196 := ne_of_beq_false h192
       refine Osk (Osk (Oq Vpf (KS ?_)))
       refine Kf ?_
       refine KS ?_
       exact Kg (r4, out_5, line_6, col_122, false, i_123, a10, k11) [0] ⟨(q3 hM12 (by simp only [flqref4_Scan_L0, h1, h22, h25, h28, h31, h33, h131, h177, h189, h192, hR176, cs4])), (by omega), (by omega), (by omega), iv1, iv1, iv1, iv1⟩
     intro h189
     have g197 := of_decide_eq_false h189
     refine Osk (Osk (Osk (Osk (Oq Vpf (Oq Vm (Osk (Osk (Oq Vpf (KS ?_)))))))))
     refine Kf ?_
     refine KS ?_
     exact Kg (r4, out_5, line_6, col_122, false, i_123, a10, k11) [0] ⟨(q3 hM12 (by simp only [flqref4_Scan_L0, h1, h22, h25, h28, h31, h33, h131, h177, h189, hR176, cs4])), (by omega), (by omega), (by omega), iv1, iv1, iv1, iv1⟩
   intro h31
   have g198 := ne_of_beq_false h31
   refine Oq Vm (Oq Veql (Oq Vpf (Oq Vm ?_)))
   refine Js 43 ?_ ?_
   · intro h199
     have g200 := eq_of_beq h199
     refine Osk (Osk (Oq Vpt (Oq Va (KS ?_))))
     refine Kt ?_
     refine KS ?_
     refine Oq Vm (KS ?_)
     refine Kc ?_ ?_
     · intro h201
       refine KS ?_
       refine Oq Vm (Oq Vm (Oq Vm (Oq (Vbd st85 [vi 3, .string (bs (Str.mk [])), vi line_6, vi col_7]) (Oa (AsV sl76 sz76 [.agg #[vi 3, .string (bs (Str.mk [])), vi line_6, vi col_7]] [vi 3, .string (bs (Str.mk [])), vi line_6, vi col_7]) fun c203 => ?_))))
       refine Jo 0 ?_; rintro a204 k205 rfl
       refine Jl [0] (Ent.cr1 (α := GToken) (A := []) _ (GToken.mk 3 (Str.mk []) line_6 col_7) _ (Nat.le_of_ble_eq_true rfl) (fun h => ⟨rfl, (by unfold i64ok; first | omega | (dsimp only; omega)), (by first | omega | (simp; done) | (dsimp only; omega) | exact lit_bl rfl), (by unfold i64ok; first | omega | (dsimp only; omega)), (by unfold i64ok; first | omega | (dsimp only; omega))⟩)) ?_
       refine Oa (ApO [1, 0] sl76 sl76 sz76) fun c206 => ?_
       refine Jo 0 ?_; rintro a207 k208 rfl
       refine Fb 40 0 fun hl209 => ?_
       have hn210 := la out_5 ([(GToken.mk 3 (Str.mk []) line_6 col_7)] : List GToken)
       refine Oq Va (KS ?_)
       refine Oq Va (KS ?_)
       have hterm219 : flqref4_Scan_L1 text ((text.b.getD i_9.toNat 0).toNat : Int) (text.b.length + 1) col_7 i_9 ≠ LR.oof := (Scan1_term _ _ _ _ _ (by omega)).1
       refine Kl (γ := Nat × Int × Int) (fun (r211, col_212, i_213) => ⟨[(0, .string (bs text)), (7, vi line_6), (8, vi col_212), (10, vi i_213), (11, .int .u8 ((text.b.getD i_9.toNat 0).toNat : Int)), (6, vl a207 k208 (out_5 ++ [(GToken.mk 3 (Str.mk []) line_6 col_7)])), (9, vb false)], [O a207 k208 ((out_5 ++ [(GToken.mk 3 (Str.mk []) line_6 col_7)]) : List GToken)], flqref4_Scan_L1 text ((text.b.getD i_9.toNat 0).toNat : Int) r211 col_212 i_213 = flqref4_Scan_L1 text ((text.b.getD i_9.toNat 0).toNat : Int) (text.b.length + 1) col_7 i_9 ∧ (-9223372036854775808 ≤ col_212 ∧ col_212 ≤ 9223372036854775807) ∧ (-9223372036854775808 ≤ i_213 ∧ i_213 ≤ 9223372036854775807) ∧ (i_9 ≤ i_213 ∧ i_213 ≤ (text.b.length : Int) ∧ col_7 ≤ col_212 ∧ col_212 ≤ col_7 + (i_213 - i_9)) ∧ (((text.b.getD i_9.toNat 0).toNat : Int) = 35 ∨ i_213 = i_9), r211⟩) ((text.b.length + 1), col_7, i_9) [0] ⟨rfl, (by omega), (by omega), iv0, iv0⟩ ?_
       rintro ⟨r211, col_212, i_213⟩ ⟨hM214, hk215, hk216, hv217, hv218⟩
       refine JJ_nx fun _ _ hL hA => ?_; dsimp only at hL hA; subst hL hA
       refine Fb 40 0 fun hl220 => ?_
       rcases r211 with _ | r211
       · exact absurd (hM214.symm.trans rfl) hterm219
       refine KS ?_
       refine Oq Vm (Oq Veql (Oq Vm ?_))
       refine Js 56 ?_ ?_
       · intro h221
         have g222 := eq_of_beq h221
         refine Oq Vm (Oq Vm (Oq (VlS un9 (l := text)) (Oq Vlss (Oq Vpt (Oq Vm ?_)))))
         refine Js 62 ?_ ?_
         · intro h223
           have g224 := of_decide_eq_true h223
           refine Oq Vm (Oq Vm (Oq (Vix un9 (l := text)) ?_))
           have hb225 := u8b (text.b.getD i_213.toNat 0)
           refine Oq Vneq (Oq Vpt (KS ?_))
           refine Kc ?_ ?_
           · intro h226
             have g227 := ne_of_bne h226
             refine KS ?_
             refine Oq Vm (Oq Vadd (Oq Vm (Oq Vadd (Oq Va (Oq Va (KS ?_))))))
             exact Kg (r211, (col_212 + 1), (i_213 + 1)) [0] ⟨(q3 hM214 (by simp only [flqref4_Scan_L1, h1, h22, h25, h28, h31, h199, h201, h221, h223, h226, cs4])), (by omega), (by omega), iv1, iv1⟩
           intro h226
           have g228 := eq_of_bne_false h226
           refine Ke ?_
           have hR229 := q2 hM214 (.brk (col_212, i_213)) (by simp only [flqref4_Scan_L1, h1, h22, h25, h28, h31, h199, h201, h221, h223, h226, cs4])
           refine KS ?_
           refine Oq Vm (Oq Veql (KS ?_))
           refine Kc ?_ ?_
           · intro h230
             have g231 := eq_of_beq h230
             refine KS ?_
             refine Oq Vm (Oq Vadd (Oq Vm (Oq Vadd (Oq Va (Oq Va (KS ?_))))))
             refine Oq Vm (Oq Vm (Oq (VlS un9 (l := text)) (Oq Vlss (Oq Vm ?_))))
             refine Js 82 ?_ ?_
             · intro h232
               have g233 := of_decide_eq_true h232
               refine Oq Vm (Oq Vm (Oq (Vix un9 (l := text)) ?_))
               have hb234 := u8b (text.b.getD ((i_213 + 1) : Int).toNat 0)
               refine Oq Veql (Oq Vpt (Oq Vm ?_))
               refine Js 88 ?_ ?_
               · intro h235
                 have g236 := eq_of_beq h235
                 refine Oq Vm (Oq Vneq (Oq Vpt (KS ?_)))
                 refine Kc ?_ ?_
                 · intro h237
                   exact absurd h237 (by first | (simp [h230]; done) | (simp only [bne, h230]; decide) | (simp only [bne, h230, Bool.not_true, Bool.not_false]; decide) | (exfalso; omega) | (intro hq; simp only [bne, hq, Bool.not_false, Bool.not_true, reduceCtorEq] at h230))
                 intro h237
                 have g238 := eq_of_bne_false h237
                 refine KS ?_
                 exact Kg (r4, (out_5 ++ [(GToken.mk 3 (Str.mk []) line_6 col_7)]), line_6, (col_212 + 1), false, (i_213 + 1), a207, k208) [0] ⟨(q3 hM12 (by simp only [flqref4_Scan_L0, h1, h22, h25, h28, h31, h199, h201, h221, h223, h226, h230, h232, h235, h237, hR229, cs4])), (by omega), (by omega), (by omega), iv1, iv1, iv1, iv1⟩
               intro h235
               have g239 := ne_of_beq_false h235
               refine Osk (Osk (Oq Vpf (KS ?_)))
               refine Kf ?_
               refine KS ?_
               exact Kg (r4, (out_5 ++ [(GToken.mk 3 (Str.mk []) line_6 col_7)]), line_6, (col_212 + 1), false, (i_213 + 1), a207, k208) [0] ⟨(q3 hM12 (by simp only [flqref4_Scan_L0, h1, h22, h25, h28, h31, h199, h201, h221, h223, h226, h230, h232, h235, hR229, cs4])), (by omega), (by omega), (by omega), iv1, iv1, iv1, iv1⟩
             intro h232
             have g240 := of_decide_eq_false h232
             refine Osk (Osk (Osk (Osk (Oq Vpf (Oq Vm (Osk (Osk (Oq Vpf (KS ?_)))))))))
             refine Kf ?_
             refine KS ?_
             exact Kg (r4, (out_5 ++ [(GToken.mk 3 (Str.mk []) line_6 col_7)]), line_6, (col_212 + 1), false, (i_213 + 1), a207, k208) [0] ⟨(q3 hM12 (by simp only [flqref4_Scan_L0, h1, h22, h25, h28, h31, h199, h201, h221, h223, h226, h230, h232, hR229, cs4])), (by omega), (by omega), (by omega), iv1, iv1, iv1, iv1⟩
           intro h230
           exact absurd h230 (by first | (simp [h199]; done) | (simp only [bne, h199]; decide) | (simp only [bne, h199, Bool.not_true, Bool.not_false]; decide) | (exfalso; omega) | (intro hq; simp only [bne, hq, Bool.not_false, Bool.not_true, reduceCtorEq] at h199))
         intro h223
         have g241 := of_decide_eq_false h223
         refine Osk (Osk (Osk (Osk (Oq Vpf (KS ?_)))))
         refine Kf ?_
         refine Ke ?_
         have hR242 := q2 hM214 (.brk (col_212, i_213)) (by simp only [flqref4_Scan_L1, h1, h22, h25, h28, h31, h199, h201, h221, h223, cs4])
         refine KS ?_
         refine Oq Vm (Oq Veql (KS ?_))
         refine Kc ?_ ?_
         · intro h243
           have g244 := eq_of_beq h243
           refine KS ?_
           refine Oq Vm (Oq Vadd (Oq Vm (Oq Vadd (Oq Va (Oq Va (KS ?_))))))
           refine Oq Vm (Oq Vm (Oq (VlS un9 (l := text)) (Oq Vlss (Oq Vm ?_))))
           refine Js 82 ?_ ?_
           · intro h245
             have g246 := of_decide_eq_true h245
             refine Oq Vm (Oq Vm (Oq (Vix un9 (l := text)) ?_))
             have hb247 := u8b (text.b.getD ((i_213 + 1) : Int).toNat 0)
             refine Oq Veql (Oq Vpt (Oq Vm ?_))
             refine Js 88 ?_ ?_
             · intro h248
               have g249 := eq_of_beq h248
               refine Oq Vm (Oq Vneq (Oq Vpt (KS ?_)))
               refine Kc ?_ ?_
               · intro h250
                 exact absurd h250 (by first | (simp [h243]; done) | (simp only [bne, h243]; decide) | (simp only [bne, h243, Bool.not_true, Bool.not_false]; decide) | (exfalso; omega) | (intro hq; simp only [bne, hq, Bool.not_false, Bool.not_true, reduceCtorEq] at h243))
               intro h250
               have g251 := eq_of_bne_false h250
               refine KS ?_
               exact Kg (r4, (out_5 ++ [(GToken.mk 3 (Str.mk []) line_6 col_7)]), line_6, (col_212 + 1), false, (i_213 + 1), a207, k208) [0] ⟨(q3 hM12 (by simp only [flqref4_Scan_L0, h1, h22, h25, h28, h31, h199, h201, h221, h223, h243, h245, h248, h250, hR242, cs4])), (by omega), (by omega), (by omega), iv1, iv1, iv1, iv1⟩
             intro h248
             have g252 := ne_of_beq_false h248
             refine Osk (Osk (Oq Vpf (KS ?_)))
             refine Kf ?_
             refine KS ?_
             exact Kg (r4, (out_5 ++ [(GToken.mk 3 (Str.mk []) line_6 col_7)]), line_6, (col_212 + 1), false, (i_213 + 1), a207, k208) [0] ⟨(q3 hM12 (by simp only [flqref4_Scan_L0, h1, h22, h25, h28, h31, h199, h201, h221, h223, h243, h245, h248, hR242, cs4])), (by omega), (by omega), (by omega), iv1, iv1, iv1, iv1⟩
           intro h245
           have g253 := of_decide_eq_false h245
           refine Osk (Osk (Osk (Osk (Oq Vpf (Oq Vm (Osk (Osk (Oq Vpf (KS ?_)))))))))
           refine Kf ?_
           refine KS ?_
           exact Kg (r4, (out_5 ++ [(GToken.mk 3 (Str.mk []) line_6 col_7)]), line_6, (col_212 + 1), false, (i_213 + 1), a207, k208) [0] ⟨(q3 hM12 (by simp only [flqref4_Scan_L0, h1, h22, h25, h28, h31, h199, h201, h221, h223, h243, h245, hR242, cs4])), (by omega), (by omega), (by omega), iv1, iv1, iv1, iv1⟩
         intro h243
         exact absurd h243 (by first | (simp [h199]; done) | (simp only [bne, h199]; decide) | (simp only [bne, h199, Bool.not_true, Bool.not_false]; decide) | (exfalso; omega) | (intro hq; simp only [bne, hq, Bool.not_false, Bool.not_true, reduceCtorEq] at h199))
       intro h221
       have g254 := ne_of_beq_false h221
       refine Osk (Osk (Osk (Osk (Oq Vpf (Oq Vm (Osk (Osk (Osk (Osk ?_)))))))))
       refine Oq Vpf (KS ?_)
       refine Kf ?_
       refine Ke ?_
       have hR255 := q2 hM214 (.brk (col_212, i_213)) (by simp only [flqref4_Scan_L1, h1, h22, h25, h28, h31, h199, h201, h221, cs4])
       refine KS ?_
       refine Oq Vm (Oq Veql (KS ?_))
       refine Kc ?_ ?_
       · intro h256
         have g257 := eq_of_beq h256
         refine KS ?_
         refine Oq Vm (Oq Vadd (Oq Vm (Oq Vadd (Oq Va (Oq Va (KS ?_))))))
         refine Oq Vm (Oq Vm (Oq (VlS un9 (l := text)) (Oq Vlss (Oq Vm ?_))))
         refine Js 82 ?_ ?_
         · intro h258
           have g259 := of_decide_eq_true h258
           refine Oq Vm (Oq Vm (Oq (Vix un9 (l := text)) ?_))
           have hb260 := u8b (text.b.getD ((i_213 + 1) : Int).toNat 0)
           refine Oq Veql (Oq Vpt (Oq Vm ?_))
           refine Js 88 ?_ ?_
           · intro h261
             have g262 := eq_of_beq h261
             refine Oq Vm (Oq Vneq (Oq Vpt (KS ?_)))
             refine Kc ?_ ?_
             · intro h263
               exact absurd h263 (by first | (simp [h256]; done) | (simp only [bne, h256]; decide) | (simp only [bne, h256, Bool.not_true, Bool.not_false]; decide) | (exfalso; omega) | (intro hq; simp only [bne, hq, Bool.not_false, Bool.not_true, reduceCtorEq] at h256))
             intro h263
             have g264 := eq_of_bne_false h263
             refine KS ?_
             exact Kg (r4, (out_5 ++ [(GToken.mk 3 (Str.mk []) line_6 col_7)]), line_6, (col_212 + 1), false, (i_213 + 1), a207, k208) [0] ⟨(q3 hM12 (by simp only [flqref4_Scan_L0, h1, h22, h25, h28, h31, h199, h201, h221, h256, h258, h261, h263, hR255, cs4])), (by omega), (by omega), (by omega), iv1, iv1, iv1, iv1⟩
           intro h261
           have g265 := ne_of_beq_false h261
           refine Osk (Osk (Oq Vpf (KS ?_)))
           refine Kf ?_
           refine KS ?_
           exact Kg (r4, (out_5 ++ [(GToken.mk 3 (Str.mk []) line_6 col_7)]), line_6, (col_212 + 1), false, (i_213 + 1), a207, k208) [0] ⟨(q3 hM12 (by simp only [flqref4_Scan_L0, h1, h22, h25, h28, h31, h199, h201, h221, h256, h258, h261, hR255, cs4])), (by omega), (by omega), (by omega), iv1, iv1, iv1, iv1⟩
         intro h258
         have g266 := of_decide_eq_false h258
         refine Osk (Osk (Osk (Osk (Oq Vpf (Oq Vm (Osk (Osk (Oq Vpf (KS ?_)))))))))
         refine Kf ?_
         refine KS ?_
         exact Kg (r4, (out_5 ++ [(GToken.mk 3 (Str.mk []) line_6 col_7)]), line_6, (col_212 + 1), false, (i_213 + 1), a207, k208) [0] ⟨(q3 hM12 (by simp only [flqref4_Scan_L0, h1, h22, h25, h28, h31, h199, h201, h221, h256, h258, hR255, cs4])), (by omega), (by omega), (by omega), iv1, iv1, iv1, iv1⟩
       intro h256
       exact absurd h256 (by first | (simp [h199]; done) | (simp only [bne, h199]; decide) | (simp only [bne, h199, Bool.not_true, Bool.not_false]; decide) | (exfalso; omega) | (intro hq; simp only [bne, hq, Bool.not_false, Bool.not_true, reduceCtorEq] at h199))
     intro h201
     refine KS ?_
     refine Oq Va (KS ?_)
     have hterm276 : flqref4_Scan_L1 text ((text.b.getD i_9.toNat 0).toNat : Int) (text.b.length + 1) col_7 i_9 ≠ LR.oof := (Scan1_term _ _ _ _ _ (by omega)).1
     refine Kl (γ := Nat × Int × Int) (fun (r268, col_269, i_270) => ⟨[(0, .string (bs text)), (6, vl a10 k11 out_5), (7, vi line_6), (8, vi col_269), (10, vi i_270), (11, .int .u8 ((text.b.getD i_9.toNat 0).toNat : Int)), (9, vb false)], [O a10 k11 out_5], flqref4_Scan_L1 text ((text.b.getD i_9.toNat 0).toNat : Int) r268 col_269 i_270 = flqref4_Scan_L1 text ((text.b.getD i_9.toNat 0).toNat : Int) (text.b.length + 1) col_7 i_9 ∧ (-9223372036854775808 ≤ col_269 ∧ col_269 ≤ 9223372036854775807) ∧ (-9223372036854775808 ≤ i_270 ∧ i_270 ≤ 9223372036854775807) ∧ (i_9 ≤ i_270 ∧ i_270 ≤ (text.b.length : Int) ∧ col_7 ≤ col_269 ∧ col_269 ≤ col_7 + (i_270 - i_9)) ∧ (((text.b.getD i_9.toNat 0).toNat : Int) = 35 ∨ i_270 = i_9), r268⟩) ((text.b.length + 1), col_7, i_9) [0] ⟨rfl, (by omega), (by omega), iv0, iv0⟩ ?_
     rintro ⟨r268, col_269, i_270⟩ ⟨hM271, hk272, hk273, hv274, hv275⟩
     refine JJ_nx fun _ _ hL hA => ?_; dsimp only at hL hA; subst hL hA
     refine Fb 40 0 fun hl277 => ?_
     rcases r268 with _ | r268
     · exact absurd (hM271.symm.trans rfl) hterm276
     refine KS ?_
     refine Oq Vm (Oq Veql (Oq Vm ?_))
     refine Js 56 ?_ ?_
     · intro h278
       have g279 := eq_of_beq h278
       refine Oq Vm (Oq Vm (Oq (VlS un9 (l := text)) (Oq Vlss (Oq Vpt (Oq Vm ?_)))))
       refine Js 62 ?_ ?_
       · intro h280
         have g281 := of_decide_eq_true h280
         refine Oq Vm (Oq Vm (Oq (Vix un9 (l := text)) ?_))
         have hb282 := u8b (text.b.getD i_270.toNat 0)
         refine Oq Vneq (Oq Vpt (KS ?_))
         refine Kc ?_ ?_
         · intro h283
           have g284 := ne_of_bne h283
           refine KS ?_
           refine Oq Vm (Oq Vadd (Oq Vm (Oq Vadd (Oq Va (Oq Va (KS ?_))))))
           exact Kg (r268, (col_269 + 1), (i_270 + 1)) [0] ⟨(q3 hM271 (by simp only [flqref4_Scan_L1, h1, h22, h25, h28, h31, h199, h201, h278, h280, h283, cs4])), (by omega), (by omega), iv1, iv1⟩
         intro h283
         have g285 := eq_of_bne_false h283
         refine Ke ?_
         have hR286 := q2 hM271 (.brk (col_269, i_270)) (by simp only [flqref4_Scan_L1, h1, h22, h25, h28, h31, h199, h201, h278, h280, h283, cs4])
         refine KS ?_
         refine Oq Vm (Oq Veql (KS ?_))
         refine Kc ?_ ?_
         · intro h287
           have g288 := eq_of_beq h287
           refine KS ?_
           refine Oq Vm (Oq Vadd (Oq Vm (Oq Vadd (Oq Va (Oq Va (KS ?_))))))
           refine Oq Vm (Oq Vm (Oq (VlS un9 (l := text)) (Oq Vlss (Oq Vm ?_))))
           refine Js 82 ?_ ?_
           · intro h289
             have g290 := of_decide_eq_true h289
             refine Oq Vm (Oq Vm (Oq (Vix un9 (l := text)) ?_))
             have hb291 := u8b (text.b.getD ((i_270 + 1) : Int).toNat 0)
             refine Oq Veql (Oq Vpt (Oq Vm ?_))
             refine Js 88 ?_ ?_
             · intro h292
               have g293 := eq_of_beq h292
               refine Oq Vm (Oq Vneq (Oq Vpt (KS ?_)))
               refine Kc ?_ ?_
               · intro h294
                 exact absurd h294 (by first | (simp [h287]; done) | (simp only [bne, h287]; decide) | (simp only [bne, h287, Bool.not_true, Bool.not_false]; decide) | (exfalso; omega) | (intro hq; simp only [bne, hq, Bool.not_false, Bool.not_true, reduceCtorEq] at h287))
               intro h294
               have g295 := eq_of_bne_false h294
               refine KS ?_
               exact Kg (r4, out_5, line_6, (col_269 + 1), false, (i_270 + 1), a10, k11) [0] ⟨(q3 hM12 (by simp only [flqref4_Scan_L0, h1, h22, h25, h28, h31, h199, h201, h278, h280, h283, h287, h289, h292, h294, hR286, cs4])), (by omega), (by omega), (by omega), iv1, iv1, iv1, iv1⟩
             intro h292
             have g296 := ne_of_beq_false h292
             refine Osk (Osk (Oq Vpf (KS ?_)))
             refine Kf ?_
             refine KS ?_
             exact Kg (r4, out_5, line_6, (col_269 + 1), false, (i_270 + 1), a10, k11) [0] ⟨(q3 hM12 (by simp only [flqref4_Scan_L0, h1, h22, h25, h28, h31, h199, h201, h278, h280, h283, h287, h289, h292, hR286, cs4])), (by omega), (by omega), (by omega), iv1, iv1, iv1, iv1⟩
           intro h289
           have g297 := of_decide_eq_false h289
           refine Osk (Osk (Osk (Osk (Oq Vpf (Oq Vm (Osk (Osk (Oq Vpf (KS ?_)))))))))
           refine Kf ?_
           refine KS ?_
           exact Kg (r4, out_5, line_6, (col_269 + 1), false, (i_270 + 1), a10, k11) [0] ⟨(q3 hM12 (by simp only [flqref4_Scan_L0, h1, h22, h25, h28, h31, h199, h201, h278, h280, h283, h287, h289, hR286, cs4])), (by omega), (by omega), (by omega), iv1, iv1, iv1, iv1⟩
         intro h287
         exact absurd h287 (by first | (simp [h199]; done) | (simp only [bne, h199]; decide) | (simp only [bne, h199, Bool.not_true, Bool.not_false]; decide) | (exfalso; omega) | (intro hq; simp only [bne, hq, Bool.not_false, Bool.not_true, reduceCtorEq] at h199))
       intro h280
       have g298 := of_decide_eq_false h280
       refine Osk (Osk (Osk (Osk (Oq Vpf (KS ?_)))))
       refine Kf ?_
       refine Ke ?_
       have hR299 := q2 hM271 (.brk (col_269, i_270)) (by simp only [flqref4_Scan_L1, h1, h22, h25, h28, h31, h199, h201, h278, h280, cs4])
       refine KS ?_
       refine Oq Vm (Oq Veql (KS ?_))
       refine Kc ?_ ?_
       · intro h300
         have g301 := eq_of_beq h300
         refine KS ?_
         refine Oq Vm (Oq Vadd (Oq Vm (Oq Vadd (Oq Va (Oq Va (KS ?_))))))
         refine Oq Vm (Oq Vm (Oq (VlS un9 (l := text)) (Oq Vlss (Oq Vm ?_))))
         refine Js 82 ?_ ?_
         · intro h302
           have g303 := of_decide_eq_true h302
           refine Oq Vm (Oq Vm (Oq (Vix un9 (l := text)) ?_))
           have hb304 := u8b (text.b.getD ((i_270 + 1) : Int).toNat 0)
           refine Oq Veql (Oq Vpt (Oq Vm ?_))
           refine Js 88 ?_ ?_
           · intro h305
             have g306 := eq_of_beq h305
             refine Oq Vm (Oq Vneq (Oq Vpt (KS ?_)))
             refine Kc ?_ ?_
             · intro h307
               exact absurd h307 (by first | (simp [h300]; done) | (simp only [bne, h300]; decide) | (simp only [bne, h300, Bool.not_true, Bool.not_false]; decide) | (exfalso; omega) | (intro hq; simp only [bne, hq, Bool.not_false, Bool.not_true, reduceCtorEq] at h300))
             intro h307
             have g308 := eq_of_bne_false h307
             refine KS ?_
             exact Kg (r4, out_5, line_6, (col_269 + 1), false, (i_270 + 1), a10, k11) [0] ⟨(q3 hM12 (by simp only [flqref4_Scan_L0, h1, h22, h25, h28, h31, h199, h201, h278, h280, h300, h302, h305, h307, hR299, cs4])), (by omega), (by omega), (by omega), iv1, iv1, iv1, iv1⟩
           intro h305
           have g309 := ne_of_beq_false h305
           refine Osk (Osk (Oq Vpf (KS ?_)))
           refine Kf ?_
           refine KS ?_
           exact Kg (r4, out_5, line_6, (col_269 + 1), false, (i_270 + 1), a10, k11) [0] ⟨(q3 hM12 (by simp only [flqref4_Scan_L0, h1, h22, h25, h28, h31, h199, h201, h278, h280, h300, h302, h305, hR299, cs4])), (by omega), (by omega), (by omega), iv1, iv1, iv1, iv1⟩
         intro h302
         have g310 := of_decide_eq_false h302
         refine Osk (Osk (Osk (Osk (Oq Vpf (Oq Vm (Osk (Osk (Oq Vpf (KS ?_)))))))))
         refine Kf ?_
         refine KS ?_
         exact Kg (r4, out_5, line_6, (col_269 + 1), false, (i_270 + 1), a10, k11) [0] ⟨(q3 hM12 (by simp only [flqref4_Scan_L0, h1, h22, h25, h28, h31, h199, h201, h278, h280, h300, h302, hR299, cs4])), (by omega), (by omega), (by omega), iv1, iv1, iv1, iv1⟩
       intro h300
       exact absurd h300 (by first | (simp [h199]; done) | (simp only [bne, h199]; decide) | (simp only [bne, h199, Bool.not_true, Bool.not_false]; decide) | (exfalso; omega) | (intro hq; simp only [bne, hq, Bool.not_false, Bool.not_true, reduceCtorEq] at h199))
     intro h278
     have g311 := ne_of_beq_false h278
     refine Osk (Osk (Osk (Osk (Oq Vpf (Oq Vm (Osk (Osk (Osk (Osk ?_)))))))))
     refine Oq Vpf (KS ?_)
     refine Kf ?_
     refine Ke ?_
     have hR312 := q2 hM271 (.brk (col_269, i_270)) (by simp only [flqref4_Scan_L1, h1, h22, h25, h28, h31, h199, h201, h278, cs4])
     refine KS ?_
     refine Oq Vm (Oq Veql (KS ?_))
     refine Kc ?_ ?_
     · intro h313
       have g314 := eq_of_beq h313
       refine KS ?_
       refine Oq Vm (Oq Vadd (Oq Vm (Oq Vadd (Oq Va (Oq Va (KS ?_))))))
       refine Oq Vm (Oq Vm (Oq (VlS un9 (l := text)) (Oq Vlss (Oq Vm ?_))))
       refine Js 82 ?_ ?_
       · intro h315
         have g316 := of_decide_eq_true h315
         refine Oq Vm (Oq Vm (Oq (Vix un9 (l := text)) ?_))
         have hb317 := u8b (text.b.getD ((i_270 + 1) : Int).toNat 0)
         refine Oq Veql (Oq Vpt (Oq Vm ?_))
         refine Js 88 ?_ ?_
         · intro h318
           have g319 := eq_of_beq h318
           refine Oq Vm (Oq Vneq (Oq Vpt (KS ?_)))
           refine Kc ?_ ?_
           · intro h320
             exact absurd h320 (by first | (simp [h313]; done) | (simp only [bne, h313]; decide) | (simp only [bne, h313, Bool.not_true, Bool.not_false]; decide) | (exfalso; omega) | (intro hq; simp only [bne, hq, Bool.not_false, Bool.not_true, reduceCtorEq] at h313))
           intro h320
           have g321 := eq_of_bne_false h320
           refine KS ?_
           exact Kg (r4, out_5, line_6, (col_269 + 1), false, (i_270 + 1), a10, k11) [0] ⟨(q3 hM12 (by simp only [flqref4_Scan_L0, h1, h22, h25, h28, h31, h199, h201, h278, h313, h315, h318, h320, hR312, cs4])), (by omega), (by omega), (by omega), iv1, iv1, iv1, iv1⟩
         intro h318
         have g322 := ne_of_beq_false h318
         refine Osk (Osk (Oq Vpf (KS ?_)))
         refine Kf ?_
         refine KS ?_
         exact Kg (r4, out_5, line_6, (col_269 + 1), false, (i_270 + 1), a10, k11) [0] ⟨(q3 hM12 (by simp only [flqref4_Scan_L0, h1, h22, h25, h28, h31, h199, h201, h278, h313, h315, h318, hR312, cs4])), (by omega), (by omega), (by omega), iv1, iv1, iv1, iv1⟩
       intro h315
       have g323 := of_decide_eq_false h315
       refine Osk (Osk (Osk (Osk (Oq Vpf (Oq Vm (Osk (Osk (Oq Vpf (KS ?_)))))))))
       refine Kf ?_
       refine KS ?_
       exact Kg (r4, out_5, line_6, (col_269 + 1), false, (i_270 + 1), a10, k11) [0] ⟨(q3 hM12 (by simp only [flqref4_Scan_L0, h1, h22, h25, h28, h31, h199, h201, h278, h313, h315, hR312, cs4])), (by omega), (by omega), (by omega), iv1, iv1, iv1, iv1⟩
     intro h313
     exact absurd h313 (by first | (simp [h199]; done) | (simp only [bne, h199]; decide) | (simp only [bne, h199, Bool.not_true, Bool.not_false]; decide) | (exfalso; omega) | (intro hq; simp only [bne, hq, Bool.not_false, Bool.not_true, reduceCtorEq] at h199))
   intro h199
   have g324 := ne_of_beq_false h199
   refine Oq Vm (Oq Veql (Oq Vpf (Oq Va (KS ?_))))
   refine Kc ?_ ?_
   · intro h325
     have g326 := eq_of_beq h325
     refine KS ?_
     refine Oq Vm (KS ?_)
     refine Kc ?_ ?_
     · intro h327
       refine KS ?_
       refine Oq Vm (Oq Vm (Oq Vm (Oq (Vbd st85 [vi 3, .string (bs (Str.mk [])), vi line_6, vi col_7]) (Oa (AsV sl76 sz76 [.agg #[vi 3, .string (bs (Str.mk [])), vi line_6, vi col_7]] [vi 3, .string (bs (Str.mk [])), vi line_6, vi col_7]) fun c329 => ?_))))
       refine Jo 0 ?_; rintro a330 k331 rfl
       refine Jl [0] (Ent.cr1 (α := GToken) (A := []) _ (GToken.mk 3 (Str.mk []) line_6 col_7) _ (Nat.le_of_ble_eq_true rfl) (fun h => ⟨rfl, (by unfold i64ok; first | omega | (dsimp only; omega)), (by first | omega | (simp; done) | (dsimp only; omega) | exact lit_bl rfl), (by unfold i64ok; first | omega | (dsimp only; omega)), (by unfold i64ok; first | omega | (dsimp only; omega))⟩)) ?_
       refine Oa (ApO [1, 0] sl76 sl76 sz76) fun c332 => ?_
       refine Jo 0 ?_; rintro a333 k334 rfl
       refine Fb 40 0 fun hl335 => ?_
       have hn336 := la out_5 ([(GToken.mk 3 (Str.mk []) line_6 col_7)] : List GToken)
       refine Oq Va (KS ?_)
       refine Oq Va (KS ?_)
       have hterm345 : flqref4_Scan_L1 text ((text.b.getD i_9.toNat 0).toNat : Int) (text.b.length + 1) col_7 i_9 ≠ LR.oof := (Scan1_term _ _ _ _ _ (by omega)).1
       refine Kl (γ := Nat × Int × Int) (fun (r337, col_338, i_339) => ⟨[(0, .string (bs text)), (7, vi line_6), (8, vi col_338), (10, vi i_339), (11, .int .u8 ((text.b.getD i_9.toNat 0).toNat : Int)), (6, vl a333 k334 (out_5 ++ [(GToken.mk 3 (Str.mk []) line_6 col_7)])), (9, vb false)], [O a333 k334 ((out_5 ++ [(GToken.mk 3 (Str.mk []) line_6 col_7)]) : List GToken)], flqref4_Scan_L1 text ((text.b.getD i_9.toNat 0).toNat : Int) r337 col_338 i_339 = flqref4_Scan_L1 text ((text.b.getD i_9.toNat 0).toNat : Int) (text.b.length + 1) col_7 i_9 ∧ (-9223372036854775808 ≤ col_338 ∧ col_338 ≤ 9223372036854775807) ∧ (-9223372036854775808 ≤ i_339 ∧ i_339 ≤ 9223372036854775807) ∧ (i_9 ≤ i_339 ∧ i_339 ≤ (text.b.length : Int) ∧ col_7 ≤ col_338 ∧ col_338 ≤ col_7 + (i_339 - i_9)) ∧ (((text.b.getD i_9.toNat 0).toNat : Int) = 35 ∨ i_339 = i_9), r337⟩) ((text.b.length + 1), col_7, i_9) [0] ⟨rfl, (by omega), (by omega), iv0, iv0⟩ ?_
       rintro ⟨r337, col_338, i_339⟩ ⟨hM340, hk341, hk342, hv343, hv344⟩
       refine JJ_nx fun _ _ hL hA => ?_; dsimp only at hL hA; subst hL hA
       refine Fb 40 0 fun hl346 => ?_
       rcases r337 with _ | r337
       · exact absurd (hM340.symm.trans rfl) hterm345
       refine KS ?_
       refine Oq Vm (Oq Veql (Oq Vm ?_))
       refine Js 56 ?_ ?_
       · intro h347
         have g348 := eq_of_beq h347
         refine Oq Vm (Oq Vm (Oq (VlS un9 (l := text)) (Oq Vlss (Oq Vpt (Oq Vm ?_)))))
         refine Js 62 ?_ ?_
         · intro h349
           have g350 := of_decide_eq_true h349
           refine Oq Vm (Oq Vm (Oq (Vix un9 (l := text)) ?_))
           have hb351 := u8b (text.b.getD i_339.toNat 0)
           refine Oq Vneq (Oq Vpt (KS ?_))
           refine Kc ?_ ?_
           · intro h352
             have g353 := ne_of_bne h352
             refine KS ?_
             refine Oq Vm (Oq Vadd (Oq Vm (Oq Vadd (Oq Va (Oq Va (KS ?_))))))
             exact Kg (r337, (col_338 + 1), (i_339 + 1)) [0] ⟨(q3 hM340 (by simp only [flqref4_Scan_L1, h1, h22, h25, h28, h31, h199, h325, h327, h347, h349, h352, cs4])), (by omega), (by omega), iv1, iv1⟩
           intro h352
           have g354 := eq_of_bne_false h352
           refine Ke ?_
           have hR355 := q2 hM340 (.brk (col_338, i_339)) (by simp only [flqref4_Scan_L1, h1, h22, h25, h28, h31, h199, h325, h327, h347, h349, h352, cs4])
           refine KS ?_
           refine Oq Vm (Oq Veql (KS ?_))
           refine Kc ?_ ?_
           · intro h356
             exact absurd h356 (by first | (simp [h199]; done) | (simp only [bne, h199]; decide) | (simp only [bne, h199, Bool.not_true, Bool.not_false]; decide) | (exfalso; omega) | (intro hq; simp only [bne, hq, Bool.not_false, Bool.not_true, reduceCtorEq] at h199))
           intro h356
           have g357 := ne_of_beq_false h356
           refine KS ?_
           refine Oq Vm (Oq Vm (Oq (VlS un9 (l := text)) (Oq Vlss (Oq Vm ?_))))
           refine Js 82 ?_ ?_
           · intro h358
             have g359 := of_decide_eq_true h358
             refine Oq Vm (Oq Vm (Oq (Vix un9 (l := text)) ?_))
             have hb360 := u8b (text.b.getD i_339.toNat 0)
             refine Oq Veql (Oq Vpt (Oq Vm ?_))
             refine Js 88 ?_ ?_
             · intro h361
               have g362 := eq_of_beq h361
               refine Oq Vm (Oq Vneq (Oq Vpt (KS ?_)))
               refine Kc ?_ ?_
               · intro h363
                 have g364 := ne_of_bne h363
                 refine KS ?_
                 refine Oq Vm (Oq Vadd (Oq Vm (Oq Vadd (Oq Va (Oq Va (Oq Va (KS ?_)))))))
                 exact Kg (r4, (out_5 ++ [(GToken.mk 3 (Str.mk []) line_6 col_7)]), (line_6 + 1), 1, false, (i_339 + 1), a333, k334) [0] ⟨(q3 hM12 (by simp only [flqref4_Scan_L0, h1, h22, h25, h28, h31, h199, h325, h327, h347, h349, h352, h356, h358, h361, h363, hR355, cs4])), (by omega), (by omega), (by omega), iv1, iv1, iv1, iv1⟩
               intro h363
               exact absurd h363 (by first | (simp [h356]; done) | (simp only [bne, h356]; decide) | (simp only [bne, h356, Bool.not_true, Bool.not_false]; decide) | (exfalso; omega) | (intro hq; simp only [bne, hq, Bool.not_false, Bool.not_true, reduceCtorEq] at h356))
             intro h361
             exact absurd h361 (by first | (simp [h352]; done) | (simp only [bne, h352]; decide) | (simp only [bne, h352, Bool.not_true, Bool.not_false]; decide) | (exfalso; omega) | (intro hq; simp only [bne, hq, Bool.not_false, Bool.not_true, reduceCtorEq] at h352))
           intro h358
           exact absurd h358 (by first | (simp [h349]; done) | (simp only [bne, h349]; decide) | (simp only [bne, h349, Bool.not_true, Bool.not_false]; decide) | (exfalso; omega) | (intro hq; simp only [bne, hq, Bool.not_false, Bool.not_true, reduceCtorEq] at h349))
         intro h349
         have g365 := of_decide_eq_false h349
         refine Osk (Osk (Osk (Osk (Oq Vpf (KS ?_)))))
         refine Kf ?_
         refine Ke ?_
         have hR366 := q2 hM340 (.brk (col_338, i_339)) (by simp only [flqref4_Scan_L1, h1, h22, h25, h28, h31, h199, h325, h327, h347, h349, cs4])
         refine KS ?_
         refine Oq Vm (Oq Veql (KS ?_))
         refine Kc ?_ ?_
         · intro h367
           exact absurd h367 (by first | (simp [h199]; done) | (simp only [bne, h199]; decide) | (simp only [bne, h199, Bool.not_true, Bool.not_false]; decide) | (exfalso; omega) | (intro hq; simp only [bne, hq, Bool.not_false, Bool.not_true, reduceCtorEq] at h199))
         intro h367
         have g368 := ne_of_beq_false h367
         refine KS ?_
         refine Oq Vm (Oq Vm (Oq (VlS un9 (l := text)) (Oq Vlss (Oq Vm ?_))))
         refine Js 82 ?_ ?_
         · intro h369
           exact absurd h369 (by first | (simp [h349]; done) | (simp only [bne, h349]; decide) | (simp only [bne, h349, Bool.not_true, Bool.not_false]; decide) | (exfalso; omega) | (intro hq; simp only [bne, hq, Bool.not_false, Bool.not_true, reduceCtorEq] at h349))
         intro h369
         have g370 := of_decide_eq_false h369
         refine Osk (Osk (Osk (Osk (Oq Vpf (Oq Vm (Osk (Osk (Oq Vpf (KS ?_)))))))))
         refine Kf ?_
         refine KS ?_
         exact Kg (r4, (out_5 ++ [(GToken.mk 3 (Str.mk []) line_6 col_7)]), line_6, col_338, false, i_339, a333, k334) [0] ⟨(q3 hM12 (by simp only [flqref4_Scan_L0, h1, h22, h25, h28, h31, h199, h325, h327, h347, h349, h367, h369, hR366, cs4])), (by omega), (by omega), (by omega), iv1, iv1, iv1, iv1⟩
       intro h347
       exact absurd h347 (by first | (simp [h325]; done) | (simp only [bne, h325]; decide) | (simp only [bne, h325, Bool.not_true, Bool.not_false]; decide) | (exfalso; omega) | (intro hq; simp only [bne, hq, Bool.not_false, Bool.not_true, reduceCtorEq] at h325))
     intro h327
     refine KS ?_
     refine Oq Va (KS ?_)
     have hterm380 : flqref4_Scan_L1 text ((text.b.getD i_9.toNat 0).toNat : Int) (text.b.length + 1) col_7 i_9 ≠ LR.oof := (Scan1_term _ _ _ _ _ (by omega)).1
     refine Kl (γ := Nat × Int × Int) (fun (r372, col_373, i_374) => ⟨[(0, .string (bs text)), (6, vl a10 k11 out_5), (7, vi line_6), (8, vi col_373), (10, vi i_374), (11, .int .u8 ((text.b.getD i_9.toNat 0).toNat : Int)), (9, vb false)], [O a10 k11 out_5], flqref4_Scan_L1 text ((text.b.getD i_9.toNat 0).toNat : Int) r372 col_373 i_374 = flqref4_Scan_L1 text ((text.b.getD i_9.toNat 0).toNat : Int) (text.b.length + 1) col_7 i_9 ∧ (-9223372036854775808 ≤ col_373 ∧ col_373 ≤ 9223372036854775807) ∧ (-9223372036854775808 ≤ i_374 ∧ i_374 ≤ 9223372036854775807) ∧ (i_9 ≤ i_374 ∧ i_374 ≤ (text.b.length : Int) ∧ col_7 ≤ col_373 ∧ col_373 ≤ col_7 + (i_374 - i_9)) ∧ (((text.b.getD i_9.toNat 0).toNat : Int) = 35 ∨ i_374 = i_9), r372⟩) ((text.b.length + 1), col_7, i_9) [0] ⟨rfl, (by omega), (by omega), iv0, iv0⟩ ?_
     rintro ⟨r372, col_373, i_374⟩ ⟨hM375, hk376, hk377, hv378, hv379⟩
     refine JJ_nx fun _ _ hL hA => ?_; dsimp only at hL hA; subst hL hA
     refine Fb 40 0 fun hl381 => ?_
     rcases r372 with _ | r372
     · exact absurd (hM375.symm.trans rfl) hterm380
     refine KS ?_
     refine Oq Vm (Oq Veql (Oq Vm ?_))
     refine Js 56 ?_ ?_
     · intro h382
       have g383 := eq_of_beq h382
       refine Oq Vm (Oq Vm (Oq (VlS un9 (l := text)) (Oq Vlss (Oq Vpt (Oq Vm ?_)))))
       refine Js 62 ?_ ?_
       · intro h384
         have g385 := of_decide_eq_true h384
         refine Oq Vm (Oq Vm (Oq (Vix un9 (l := text)) ?_))
         have hb386 := u8b (text.b.getD i_374.toNat 0)
         refine Oq Vneq (Oq Vpt (KS ?_))
         refine Kc ?_ ?_
         · intro h387
           have g388 := ne_of_bne h387
           refine KS ?_
           refine Oq Vm (Oq Vadd (Oq Vm (Oq Vadd (Oq Va (Oq Va (KS ?_))))))
           exact Kg (r372, (col_373 + 1), (i_374 + 1)) [0] ⟨(q3 hM375 (by simp only [flqref4_Scan_L1, h1, h22, h25, h28, h31, h199, h325, h327, h382, h384, h387, cs4])), (by omega), (by omega), iv1, iv1⟩
         intro h387
         have g389 := eq_of_bne_false h387
         refine Ke ?_
         have hR390 := q2 hM375 (.brk (col_373, i_374)) (by simp only [flqref4_Scan_L1, h1, h22, h25, h28, h31, h199, h325, h327, h382, h384, h387, cs4])
         refine KS ?_
         refine Oq Vm (Oq Veql (KS ?_))
         refine Kc ?_ ?_
         · intro h391
           exact absurd h391 (by first | (simp [h199]; done) | (simp only [bne, h199]; decide) | (simp only [bne, h199, Bool.not_true, Bool.not_false]; decide) | (exfalso; omega) | (intro hq; simp only [bne, hq, Bool.not_false, Bool.not_true, reduceCtorEq] at h199))
         intro h391
         have g392 := ne_of_beq_false h391
         refine KS ?_
         refine Oq Vm (Oq Vm (Oq (VlS un9 (l := text)) (Oq Vlss (Oq Vm ?_))))
         refine Js 82 ?_ ?_
         · intro h393
           have g394 := of_decide_eq_true h393
           refine Oq Vm (Oq Vm (Oq (Vix un9 (l := text)) ?_))
           have hb395 := u8b (text.b.getD i_374.toNat 0)
           refine Oq Veql (Oq Vpt (Oq Vm ?_))
           refine Js 88 ?_ ?_
           · intro h396
             have g397 := eq_of_beq h396
             refine Oq Vm (Oq Vneq (Oq Vpt (KS ?_)))
             refine Kc ?_ ?_
             · intro h398
               have g399 := ne_of_bne h398
               refine KS ?_
               refine Oq Vm (Oq Vadd (Oq Vm (Oq Vadd (Oq Va (Oq Va (Oq Va (KS ?_)))))))
               exact Kg (r4, out_5, (line_6 + 1), 1, false, (i_374 + 1), a10, k11) [0] ⟨(q3 hM12 (by simp only [flqref4_Scan_L0, h1, h22, h25, h28, h31, h199, h325, h327, h382, h384, h387, h391, h393, h396, h398, hR390, cs4])), (by omega), (by omega), (by omega), iv1, iv1, iv1, iv1⟩
             intro h398
             exact absurd h398 (by first | (simp [h391]; done) | (simp only [bne, h391]; decide) | (simp only [bne, h391, Bool.not_true, Bool.not_false]; decide) | (exfalso; omega) | (intro hq; simp only [bne, hq, Bool.not_false, Bool.not_true, reduceCtorEq] at h391))
           intro h396
           exact absurd h396 (by first | (simp [h387]; done) | (simp only [bne, h387]; decide) | (simp only [bne, h387, Bool.not_true, Bool.not_false]; decide) | (exfalso; omega) | (intro hq; simp only [bne, hq, Bool.not_false, Bool.not_true, reduceCtorEq] at h387))
         intro h393
         exact absurd h393 (by first | (simp [h384]; done) | (simp only [bne, h384]; decide) | (simp only [bne, h384, Bool.not_true, Bool.not_false]; decide) | (exfalso; omega) | (intro hq; simp only [bne, hq, Bool.not_false, Bool.not_true, reduceCtorEq] at h384))
       intro h384
       have g400 := of_decide_eq_false h384
       refine Osk (Osk (Osk (Osk (Oq Vpf (KS ?_)))))
       refine Kf ?_
       refine Ke ?_
       have hR401 := q2 hM375 (.brk (col_373, i_374)) (by simp only [flqref4_Scan_L1, h1, h22, h25, h28, h31, h199, h325, h327, h382, h384, cs4])
       refine KS ?_
       refine Oq Vm (Oq Veql (KS ?_))
       refine Kc ?_ ?_
       · intro h402
         exact absurd h402 (by first | (simp [h199]; done) | (simp only [bne, h199]; decide) | (simp only [bne, h199, Bool.not_true, Bool.not_false]; decide) | (exfalso; omega) | (intro hq; simp only [bne, hq, Bool.not_false, Bool.not_true, reduceCtorEq] at h199))
       intro h402
       have g403 := ne_of_beq_false h402
       refine KS ?_
       refine Oq Vm (Oq Vm (Oq (VlS un9 (l := text)) (Oq Vlss (Oq Vm ?_))))
       refine Js 82 ?_ ?_
       · intro h404
         exact absurd h404 (by first | (simp [h384]; done) | (simp only [bne, h384]; decide) | (simp only [bne, h384, Bool.not_true, Bool.not_false]; decide) | (exfalso; omega) | (intro hq; simp only [bne, hq, Bool.not_false, Bool.not_true, reduceCtorEq] at h384))
       intro h404
       have g405 := of_decide_eq_false h404
       refine Osk (Osk (Osk (Osk (Oq Vpf (Oq Vm (Osk (Osk (Oq Vpf (KS ?_)))))))))
       refine Kf ?_
       refine KS ?_
       exact Kg (r4, out_5, line_6, col_373, false, i_374, a10, k11) [0] ⟨(q3 hM12 (by simp only [flqref4_Scan_L0, h1, h22, h25, h28, h31, h199, h325, h327, h382, h384, h402, h404, hR401, cs4])), (by omega), (by omega), (by omega), iv1, iv1, iv1, iv1⟩
     intro h382
     exact absurd h382 (by first | (simp [h325]; done) | (simp only [bne, h325]; decide) | (simp only [bne, h325, Bool.not_true, Bool.not_false]; decide) | (exfalso; omega) | (intro hq; simp only [bne, hq, Bool.not_false, Bool.not_true, reduceCtorEq] at h325))
   intro h325
   have g406 := ne_of_beq_false h325
   refine KS ?_
   refine Oq Vm (Oq Veql (Oq Va (KS ?_)))
   refine Kc ?_ ?_
   · intro h407
     have g408 := eq_of_beq h407
     refine KS ?_
     refine Oq Vm (Oq Vm (Oq Vm (Oq (Vbd st85 [vi 2, .string (bs (Str.mk [61])), vi line_6, vi col_7]) (Oa (AsV sl76 sz76 [.agg #[vi 2, .string (bs (Str.mk [61])), vi line_6, vi col_7]] [vi 2, .string (bs (Str.mk [61])), vi line_6, vi col_7]) fun c409 => ?_))))
     refine Jo 0 ?_; rintro a410 k411 rfl
     refine Jl [0] (Ent.cr1 (α := GToken) (A := []) _ (GToken.mk 2 (Str.mk [61]) line_6 col_7) _ (Nat.le_of_ble_eq_true rfl) (fun h => ⟨rfl, (by unfold i64ok; first | omega | (dsimp only; omega)), (by first | omega | (simp; done) | (dsimp only; omega) | exact lit_bl rfl), (by unfold i64ok; first | omega | (dsimp only; omega)), (by unfold i64ok; first | omega | (dsimp only; omega))⟩)) ?_
     refine Oa (ApO [1, 0] sl76 sl76 sz76) fun c412 => ?_
     refine Jo 0 ?_; rintro a413 k414 rfl
     refine Fb 40 0 fun hl415 => ?_
     have hn416 := la out_5 ([(GToken.mk 2 (Str.mk [61]) line_6 col_7)] : List GToken)
     refine Oq Va (KS ?_)
     refine Oq Vm (Oq Vadd (Oq Vm (Oq Vadd (Oq Va (Oq Va (Oq Va (KS ?_)))))))
     exact Kg (r4, (out_5 ++ [(GToken.mk 2 (Str.mk [61]) line_6 col_7)]), line_6, (col_7 + 1), true, (i_9 + 1), a413, k414) [0] ⟨(q3 hM12 (by simp only [flqref4_Scan_L0, h1, h22, h25, h28, h31, h199, h325, h407, cs4])), (by omega), (by omega), (by omega), iv1, iv1, iv1, iv1⟩
   intro h407
   have g417 := ne_of_beq_false h407
   refine KS ?_
   refine Oq Vm ?_
   refine letv (flqref4_letter ((text.b.getD i_9.toNat 0).toNat : Int)) fun rv418 hg419 => ?_
   have hc420 := fn36 (((text.b.getD i_9.toNat 0).toNat : Int)) pre rv418 hg419
   refine Oc [] ca36 hc420 ?_
   rintro - -
   refine Oq Vm ?_
   refine Js 112 ?_ ?_
   · intro h421
     refine Osk (Osk (Oq Vpt (Oq Va (KS ?_))))
     refine Kt ?_
     refine KS ?_
     refine Oq Va (KS ?_)
     have hterm428 : flqref4_Scan_L2 text i_9 (text.b.length + 1) 0 ≠ LR.oof := (Scan2_term _ _ _ _ (by omega)).1
     refine Kl (γ := Nat × Int) (fun (r423, n_424) => ⟨[(0, .string (bs text)), (6, vl a10 k11 out_5), (7, vi line_6), (8, vi col_7), (10, vi i_9), (11, .int .u8 ((text.b.getD i_9.toNat 0).toNat : Int)), (12, vi n_424)], [O a10 k11 out_5], flqref4_Scan_L2 text i_9 r423 n_424 = flqref4_Scan_L2 text i_9 (text.b.length + 1) 0 ∧ (-9223372036854775808 ≤ n_424 ∧ n_424 ≤ 9223372036854775807) ∧ (0 ≤ n_424 ∧ i_9 + n_424 ≤ (text.b.length : Int)), r423⟩) ((text.b.length + 1), 0) [0] ⟨rfl, (by omega), iv0⟩ ?_
     rintro ⟨r423, n_424⟩ ⟨hM425, hk426, hv427⟩
     refine JJ_nx fun _ _ hL hA => ?_; dsimp only at hL hA; subst hL hA
     refine Fb 40 0 fun hl429 => ?_
     rcases r423 with _ | r423
     · exact absurd (hM425.symm.trans rfl) hterm428
     refine KS ?_
     refine Oq Vm (Oq Vm (Oq Vadd (Oq Vm (Oq (VlS un9 (l := text)) (Oq Vlss (Oq Vm ?_))))))
     refine Js 122 ?_ ?_
     · intro h430
       have g431 := of_decide_eq_true h430
       refine Oq Vm (Oq Vm (Oq Vm (Oq Vadd (Oq (Vix un9 (l := text)) ?_))))
       have hb432 := u8b (text.b.getD ((i_9 + n_424) : Int).toNat 0)
       refine letv (flqref4_letter ((text.b.getD ((i_9 + n_424) : Int).toNat 0).toNat : Int)) fun rv433 hg434 => ?_
       have hc435 := fn36 (((text.b.getD ((i_9 + n_424) : Int).toNat 0).toNat : Int)) pre rv433 hg434
       refine Oc [] ca36 hc435 ?_
       rintro - -
       refine Oq Vm ?_
       refine Js 129 ?_ ?_
       · intro h436
         refine Osk (Osk (Osk (Osk (Osk (Osk (Oq Vpt (Oq Vpt (KS ?_))))))))
         refine Kt ?_
         refine KS ?_
         refine Oq Vm (Oq Vadd (Oq Va (KS ?_)))
         exact Kg (r423, (n_424 + 1)) [0] ⟨(q3 hM425 (by simp only [flqref4_Scan_L2, h1, h22, h25, h28, h31, h199, h325, h407, h421, h430, h436, hg419, hg434, cs4])), (by omega), iv1⟩
       intro h436
       refine Oq Vm (Oq Vm (Oq Vm (Oq Vadd (Oq (Vix un9 (l := text)) ?_))))
       have hb439 := u8b (text.b.getD ((i_9 + n_424) : Int).toNat 0)
       refine letv (flqref4_digit ((text.b.getD ((i_9 + n_424) : Int).toNat 0).toNat : Int)) fun rv440 hg441 => ?_
       have hc442 := fn37 (((text.b.getD ((i_9 + n_424) : Int).toNat 0).toNat : Int)) pre rv440 hg441
       refine Oc [] ca37 hc442 ?_
       rintro - -
       refine Oq Vpf (Oq Vpt (KS ?_))
       refine Kc ?_ ?_
       · intro h443
         refine KS ?_
         refine Oq Vm (Oq Vadd (Oq Va (KS ?_)))
         exact Kg (r423, (n_424 + 1)) [0] ⟨(q3 hM425 (by simp only [flqref4_Scan_L2, h1, h22, h25, h28, h31, h199, h325, h407, h421, h430, h436, h443, hg419, hg434, hg441, cs4])), (by omega), iv1⟩
       intro h443
       refine Ke ?_
       have hR446 := q2 hM425 (.brk n_424) (by simp only [flqref4_Scan_L2, h1, h22, h25, h28, h31, h199, h325, h407, h421, h430, h436, h443, hg419, hg434, hg441, cs4])
       refine KS ?_
       refine Oq Vm ?_
       refine letv (flqref4_digit ((text.b.getD i_9.toNat 0).toNat : Int)) fun rv447 hg448 => ?_
       have hc449 := fn37 (((text.b.getD i_9.toNat 0).toNat : Int)) pre rv447 hg448
       refine Oc [] ca37 hc449 ?_
       rintro - -
       refine KS ?_
       refine Kc ?_ ?_
       · intro h450
         refine KS ?_
         refine Oq Vm (Oq Vm (Oq Va (Oq Va (Oq Va (Oq Va (KS ?_))))))
         refine Jl [] (Ent.slNil (α := GToken)) ?_
         have hR452 := q2 hM12 (.ret ([], line_6, col_7, 4)) (by simp only [flqref4_Scan_L0, h1, h22, h25, h28, h31, h199, h325, h407, h421, h430, h436, h443, h450, hg419, hg434, hg441, hR446, hg448, cs4])
         have hq := q4 hrr ([], line_6, col_7, 4) (by simp only [flqref4_Scan, h1, h22, h25, h28, h31, h199, h325, h407, h421, h430, h436, h443, h450, hg419, hg434, hg441, hR446, hg448, hR452, cs4]); subst hq
         exact Kr (.slice none 0 0) rfl (.tmp rfl (.tmp rfl (.tmp rfl (.tmp rfl .nil)))) [0] en
       intro h450
       refine KS ?_
       refine Oq Vm (Oq Vgtr (KS ?_))
       refine Kc ?_ ?_
       · intro h454
         have g455 := of_decide_eq_true h454
         refine KS ?_
         refine Oq Vm (Oq Vm (Oq Va (Oq Va (Oq Va (Oq Va (KS ?_))))))
         refine Jl [] (Ent.slNil (α := GToken)) ?_
         have hR456 := q2 hM12 (.ret ([], line_6, col_7, 7)) (by simp only [flqref4_Scan_L0, h1, h22, h25, h28, h31, h199, h325, h407, h421, h430, h436, h443, h450, h454, hg419, hg434, hg441, hR446, hg448, cs4])
         have hq := q4 hrr ([], line_6, col_7, 7) (by simp only [flqref4_Scan, h1, h22, h25, h28, h31, h199, h325, h407, h421, h430, h436, h443, h450, h454, hg419, hg434, hg441, hR446, hg448, hR456, cs4]); subst hq
         exact Kr (.slice none 0 0) rfl (.tmp rfl (.tmp rfl (.tmp rfl (.tmp rfl .nil)))) [0] en
       intro h454
       have g457 := of_decide_eq_false h454
       refine KS ?_
       refine Oq Vm (Oq Vm (Oq Vm (Oq Vm (Oq Vm (Oq Vadd (Oq (VslS un9 (l := text)) ?_))))))
       have hb458 := sub_len3 text i_9.toNat ((i_9 + n_424) : Int).toNat
       refine Oq Vm (Oq Vm (Oq (Vbd st85 [vi 1, .string (bs (text.sub i_9.toNat ((i_9 + n_424) : Int).toNat)), vi line_6, vi col_7]) (Oa (AsV sl76 sz76 [.agg #[vi 1, .string (bs (text.sub i_9.toNat ((i_9 + n_424) : Int).toNat)), vi line_6, vi col_7]] [vi 1, .string (bs (text.sub i_9.toNat ((i_9 + n_424) : Int).toNat)), vi line_6, vi col_7]) fun c459 => ?_)))
       refine Jo 0 ?_; rintro a460 k461 rfl
       refine Jl [0] (Ent.cr1 (α := GToken) (A := []) _ (GToken.mk 1 (text.sub i_9.toNat ((i_9 + n_424) : Int).toNat) line_6 col_7) _ (Nat.le_of_ble_eq_true rfl) (fun h => ⟨rfl, (by unfold i64ok; first | omega | (dsimp only; omega)), (by first | omega | (simp; done) | (dsimp only; omega) | exact lit_bl rfl), (by unfold i64ok; first | omega | (dsimp only; omega)), (by unfold i64ok; first | omega | (dsimp only; omega))⟩)) ?_
       refine Oa (ApO [1, 0] sl76 sl76 sz76) fun c462 => ?_
       refine Jo 0 ?_; rintro a463 k464 rfl
       refine Fb 40 0 fun hl465 => ?_
       have hn466 := la out_5 ([(GToken.mk 1 (text.sub i_9.toNat ((i_9 + n_424) : Int).toNat) line_6 col_7)] : List GToken)
       refine Oq Va (KS ?_)
       refine Oq Vm (Oq Vm (Oq Vadd (Oq Vm (Oq Vm (Oq Vadd (Oq Va (Oq Va (Oq Va (KS ?_)))))))))
       exact Kg (r4, (out_5 ++ [(GToken.mk 1 (text.sub i_9.toNat ((i_9 + n_424) : Int).toNat) line_6 col_7)]), line_6, (col_7 + n_424), true, (i_9 + n_424), a463, k464) [0] ⟨(q3 hM12 (by simp only [flqref4_Scan_L0, h1, h22, h25, h28, h31, h199, h325, h407, h421, h430, h436, h443, h450, h454, hg419, hg434, hg441, hR446, hg448, cs4])), (by omega), (by omega), (by omega), iv1, iv1, iv1, iv1⟩
     intro h430
     have g467 := of_decide_eq_false h430
     refine Osk (Osk (Osk (Osk (Osk (Osk (Osk (Osk (Osk (Osk ?_)))))))))
     refine Osk (Osk (Osk (Osk (Oq Vpf (KS ?_)))))
     refine Kf ?_
     refine Ke ?_
     have hR468 := q2 hM425 (.brk n_424) (by simp only [flqref4_Scan_L2, h1, h22, h25, h28, h31, h199, h325, h407, h421, h430, hg419, cs4])
     refine KS ?_
     refine Oq Vm ?_
     refine letv (flqref4_digit ((text.b.getD i_9.toNat 0).toNat : Int)) fun rv469 hg470 => ?_
     have hc471 := fn37 (((text.b.getD i_9.toNat 0).toNat : Int)) pre rv469 hg470
     refine Oc [] ca37 hc471 ?_
     rintro - -
     refine KS ?_
     refine Kc ?_ ?_
     · intro h472
       refine KS ?_
       refine Oq Vm (Oq Vm (Oq Va (Oq Va (Oq Va (Oq Va (KS ?_))))))
       refine Jl [] (Ent.slNil (α := GToken)) ?_
       have hR474 := q2 hM12 (.ret ([], line_6, col_7, 4)) (by simp only [flqref4_Scan_L0, h1, h22, h25, h28, h31, h199, h325, h407, h421, h430, h472, hg419, hR468, hg470, cs4])
       have hq := q4 hrr ([], line_6, col_7, 4) (by simp only [flqref4_Scan, h1, h22, h25, h28, h31, h199, h325, h407, h421, h430, h472, hg419, hR468, hg470, hR474, cs4]); subst hq
       exact Kr (.slice none 0 0) rfl (.tmp rfl (.tmp rfl (.tmp rfl (.tmp rfl .nil)))) [0] en
     intro h472
     refine KS ?_
     refine Oq Vm (Oq Vgtr (KS ?_))
     refine Kc ?_ ?_
     · intro h476
       have g477 := of_decide_eq_true h476
       refine KS ?_
       refine Oq Vm (Oq Vm (Oq Va (Oq Va (Oq Va (Oq Va (KS ?_))))))
       refine Jl [] (Ent.slNil (α := GToken)) ?_
       have hR478 := q2 hM12 (.ret ([], line_6, col_7, 7)) (by simp only [flqref4_Scan_L0, h1, h22, h25, h28, h31, h199, h325, h407, h421, h430, h472, h476, hg419, hR468, hg470, cs4])
       have hq := q4 hrr ([], line_6, col_7, 7) (by simp only [flqref4_Scan, h1, h22, h25, h28, h31, h199, h325, h407, h421, h430, h472, h476, hg419, hR468, hg470, hR478, cs4]); subst hq
       exact Kr (.slice none 0 0) rfl (.tmp rfl (.tmp rfl (.tmp rfl (.tmp rfl .nil)))) [0] en
     intro h476
     have g479 := of_decide_eq_false h476
     refine KS ?_
     refine Oq Vm (Oq Vm (Oq Vm (Oq Vm (Oq Vm (Oq Vadd (Oq (VslS un9 (l := text)) ?_))))))
     have hb480 := sub_len3 text i_9.toNat ((i_9 + n_424) : Int).toNat
     refine Oq Vm (Oq Vm (Oq (Vbd st85 [vi 1, .string (bs (text.sub i_9.toNat ((i_9 + n_424) : Int).toNat)), vi line_6, vi col_7]) (Oa (AsV sl76 sz76 [.agg #[vi 1, .string (bs (text.sub i_9.toNat ((i_9 + n_424) : Int).toNat)), vi line_6, vi col_7]] [vi 1, .string (bs (text.sub i_9.toNat ((i_9 + n_424) : Int).toNat)), vi line_6, vi col_7]) fun c481 => ?_)))
     refine Jo 0 ?_; rintro a482 k483 rfl
     refine Jl [0] (Ent.cr1 (α := GToken) (A := []) _ (GToken.mk 1 (text.sub i_9.toNat ((i_9 + n_424) : Int).toNat) line_6 col_7) _ (Nat.le_of_ble_eq_true rfl) (fun h => ⟨rfl, (by unfold i64ok; first | omega | (dsimp only; omega)), (by first | omega | (simp; done) | (dsimp only; omega) | exact lit_bl rfl), (by unfold i64ok; first | omega | (dsimp only; omega)), (by unfold i64ok; first | omega | (dsimp only; omega))⟩)) ?_
     refine Oa (ApO [1, 0] sl76 sl76 sz76) fun c484 => ?_
     refine Jo 0 ?_; rintro a485 k486 rfl
     refine Fb 40 0 fun hl487 => ?_
     have hn488 := la out_5 ([(GToken.mk 1 (text.sub i_9.toNat ((i_9 + n_424) : Int).toNat) line_6 col_7)] : List GToken)
     refine Oq Va (KS ?_)
     refine Oq Vm (Oq Vm (Oq Vadd (Oq Vm (Oq Vm (Oq Vadd (Oq Va (Oq Va (Oq Va (KS ?_)))))))))
     exact Kg (r4, (out_5 ++ [(GToken.mk 1 (text.sub i_9.toNat ((i_9 + n_424) : Int).toNat) line_6 col_7)]), line_6, (col_7 + n_424), true, (i_9 + n_424), a485, k486) [0] ⟨(q3 hM12 (by simp only [flqref4_Scan_L0, h1, h22, h25, h28, h31, h199, h325, h407, h421, h430, h472, h476, hg419, hR468, hg470, cs4])), (by omega), (by omega), (by omega), iv1, iv1, iv1, iv1⟩
   intro h421
   refine Oq Vm ?_
   refine letv (flqref4_digit ((text.b.getD i_9.toNat 0).toNat : Int)) fun rv490 hg491 => ?_
   have hc492 := fn37 (((text.b.getD i_9.toNat 0).toNat : Int)) pre rv490 hg491
   refine Oc [] ca37 hc492 ?_
   rintro - -
   refine Oq Vpf (Oq Va (KS ?_))
   refine Kc ?_ ?_
   · intro h493
     refine KS ?_
     refine Oq Va (KS ?_)
     have hterm500 : flqref4_Scan_L2 text i_9 (text.b.length + 1) 0 ≠ LR.oof := (Scan2_term _ _ _ _ (by omega)).1
     refine Kl (γ := Nat × Int) (fun (r495, n_496) => ⟨[(0, .string (bs text)), (6, vl a10 k11 out_5), (7, vi line_6), (8, vi col_7), (10, vi i_9), (11, .int .u8 ((text.b.getD i_9.toNat 0).toNat : Int)), (12, vi n_496)], [O a10 k11 out_5], flqref4_Scan_L2 text i_9 r495 n_496 = flqref4_Scan_L2 text i_9 (text.b.length + 1) 0 ∧ (-9223372036854775808 ≤ n_496 ∧ n_496 ≤ 9223372036854775807) ∧ (0 ≤ n_496 ∧ i_9 + n_496 ≤ (text.b.length : Int)), r495⟩) ((text.b.length + 1), 0) [0] ⟨rfl, (by omega), iv0⟩ ?_
     rintro ⟨r495, n_496⟩ ⟨hM497, hk498, hv499⟩
     refine JJ_nx fun _ _ hL hA => ?_; dsimp only at hL hA; subst hL hA
     refine Fb 40 0 fun hl501 => ?_
     rcases r495 with _ | r495
     · exact absurd (hM497.symm.trans rfl) hterm500
     refine KS ?_
     refine Oq Vm (Oq Vm (Oq Vadd (Oq Vm (Oq (VlS un9 (l := text)) (Oq Vlss (Oq Vm ?_))))))
     refine Js 122 ?_ ?_
     · intro h502
       have g503 := of_decide_eq_true h502
       refine Oq Vm (Oq Vm (Oq Vm (Oq Vadd (Oq (Vix un9 (l := text)) ?_))))
       have hb504 := u8b (text.b.getD ((i_9 + n_496) : Int).toNat 0)
       refine letv (flqref4_letter ((text.b.getD ((i_9 + n_496) : Int).toNat 0).toNat : Int)) fun rv505 hg506 => ?_
       have hc507 := fn36 (((text.b.getD ((i_9 + n_496) : Int).toNat 0).toNat : Int)) pre rv505 hg506
       refine Oc [] ca36 hc507 ?_
       rintro - -
       refine Oq Vm ?_
       refine Js 129 ?_ ?_
       · intro h508
         refine Osk (Osk (Osk (Osk (Osk (Osk (Oq Vpt (Oq Vpt (KS ?_))))))))
         refine Kt ?_
         refine KS ?_
         refine Oq Vm (Oq Vadd (Oq Va (KS ?_)))
         exact Kg (r495, (n_496 + 1)) [0] ⟨(q3 hM497 (by simp only [flqref4_Scan_L2, h1, h22, h25, h28, h31, h199, h325, h407, h421, h493, h502, h508, hg419, hg491, hg506, cs4])), (by omega), iv1⟩
       intro h508
       refine Oq Vm (Oq Vm (Oq Vm (Oq Vadd (Oq (Vix un9 (l := text)) ?_))))
       have hb511 := u8b (text.b.getD ((i_9 + n_496) : Int).toNat 0)
       refine letv (flqref4_digit ((text.b.getD ((i_9 + n_496) : Int).toNat 0).toNat : Int)) fun rv512 hg513 => ?_
       have hc514 := fn37 (((text.b.getD ((i_9 + n_496) : Int).toNat 0).toNat : Int)) pre rv512 hg513
       refine Oc [] ca37 hc514 ?_
       rintro - -
       refine Oq Vpf (Oq Vpt (KS ?_))
       refine Kc ?_ ?_
       · intro h515
         refine KS ?_
         refine Oq Vm (Oq Vadd (Oq Va (KS ?_)))
         exact Kg (r495, (n_496 + 1)) [0] ⟨(q3 hM497 (by simp only [flqref4_Scan_L2, h1, h22, h25, h28, h31, h199, h325, h407, h421, h493, h502, h508, h515, hg419, hg491, hg506, hg513, cs4])), (by omega), iv1⟩
       intro h515
       refine Ke ?_
       have hR518 := q2 hM497 (.brk n_496) (by simp only [flqref4_Scan_L2, h1, h22, h25, h28, h31, h199, h325, h407, h421, h493, h502, h508, h515, hg419, hg491, hg506, hg513, cs4])
       refine KS ?_
       refine Oq Vm ?_
       have hc519 := fn37 (((text.b.getD i_9.toNat 0).toNat : Int)) pre rv490 hg491
       refine Oc [] ca37 hc519 ?_
       rintro - -
       refine KS ?_
       refine Kc ?_ ?_
       · intro h520
         refine KS ?_
         refine Oq Vm (Oq Vm (Oq Va (Oq Va (Oq Va (Oq Va (KS ?_))))))
         refine Jl [] (Ent.slNil (α := GToken)) ?_
         have hR522 := q2 hM12 (.ret ([], line_6, col_7, 4)) (by simp only [flqref4_Scan_L0, h1, h22, h25, h28, h31, h199, h325, h407, h421, h493, h502, h508, h515, h520, hg419, hg491, hg506, hg513, hR518, cs4])
         have hq := q4 hrr ([], line_6, col_7, 4) (by simp only [flqref4_Scan, h1, h22, h25, h28, h31, h199, h325, h407, h421, h493, h502, h508, h515, h520, hg419, hg491, hg506, hg513, hR518, hR522, cs4]); subst hq
         exact Kr (.slice none 0 0) rfl (.tmp rfl (.tmp rfl (.tmp rfl (.tmp rfl .nil)))) [0] en
       intro h520
       exact absurd h520 (by first | (simp [h493]; done) | (simp only [bne, h493]; decide) | (simp only [bne, h493, Bool.not_true, Bool.not_false]; decide) | (exfalso; omega) | (intro hq; simp only [bne, hq, Bool.not_false, Bool.not_true, reduceCtorEq] at h493))
     intro h502
     have g523 := of_decide_eq_false h502
     refine Osk (Osk (Osk (Osk (Osk (Osk (Osk (Osk (Osk (Osk ?_)))))))))
     refine Osk (Osk (Osk (Osk (Oq Vpf (KS ?_)))))
     refine Kf ?_
     refine Ke ?_
     have hR524 := q2 hM497 (.brk n_496) (by simp only [flqref4_Scan_L2, h1, h22, h25, h28, h31, h199, h325, h407, h421, h493, h502, hg419, hg491, cs4])
     refine KS ?_
     refine Oq Vm ?_
     have hc525 := fn37 (((text.b.getD i_9.toNat 0).toNat : Int)) pre rv490 hg491
     refine Oc [] ca37 hc525 ?_
     rintro - -
     refine KS ?_
     refine Kc ?_ ?_
     · intro h526
       refine KS ?_
       refine Oq Vm (Oq Vm (Oq Va (Oq Va (Oq Va (Oq Va (KS ?_))))))
       refine Jl [] (Ent.slNil (α := GToken)) ?_
       have hR528 := q2 hM12 (.ret ([], line_6, col_7, 4)) (by simp only [flqref4_Scan_L0, h1, h22, h25, h28, h31, h199, h325, h407, h421, h493, h502, h526, hg419, hg491, hR524, cs4])
       have hq := q4 hrr ([], line_6, col_7, 4) (by simp only [flqref4_Scan, h1, h22, h25, h28, h31, h199, h325, h407, h421, h493, h502, h526, hg419, hg491, hR524, hR528, cs4]); subst hq
       exact Kr (.slice none 0 0) rfl (.tmp rfl (.tmp rfl (.tmp rfl (.tmp rfl .nil)))) [0] en
     intro h526
     exact absurd h526 (by first | (simp [h493]; done) | (simp only [bne, h493]; decide) | (simp only [bne, h493, Bool.not_true, Bool.not_false]; decide) | (exfalso; omega) | (intro hq; simp only [bne, hq, Bool.not_false, Bool.not_true, reduceCtorEq] at h493))
   intro h493
   refine KS ?_
   refine Oq Vm (Oq Vm (Oq Va (Oq Va (Oq Va (Oq Va (KS ?_))))))
   refine Jl [] (Ent.slNil (α := GToken)) ?_
   have hR530 := q2 hM12 (.ret ([], line_6, col_7, 4)) (by simp only [flqref4_Scan_L0, h1, h22, h25, h28, h31, h199, h325, h407, h421, h493, hg419, hg491, cs4])
   have hq := q4 hrr ([], line_6, col_7, 4) (by simp only [flqref4_Scan, h1, h22, h25, h28, h31, h199, h325, h407, h421, h493, hg419, hg491, hR530, cs4]); subst hq
   exact Kr (.slice none 0 0) rfl (.tmp rfl (.tmp rfl (.tmp rfl (.tmp rfl .nil)))) [0] en
 intro h22
 have g531 := of_decide_eq_false h22
 refine Ke ?_
 have hR532 := q2 hM12 (.brk (out_5, line_6, col_7, open__8)) (by simp only [flqref4_Scan_L0, h1, h22, cs4])
 refine KS ?_
 refine Oq Vm (KS ?_)
 refine Kc ?_ ?_
 · intro h533
   refine KS ?_
   refine Oq Vm (Oq Vm (Oq Vm (Oq (Vbd st85 [vi 3, .string (bs (Str.mk [])), vi line_6, vi col_7]) (Oa (AsV sl76 sz76 [.agg #[vi 3, .string (bs (Str.mk [])), vi line_6, vi col_7]] [vi 3, .string (bs (Str.mk [])), vi line_6, vi col_7]) fun c535 => ?_))))
   refine Jo 0 ?_; rintro a536 k537 rfl
   refine Jl [0] (Ent.cr1 (α := GToken) (A := []) _ (GToken.mk 3 (Str.mk []) line_6 col_7) _ (Nat.le_of_ble_eq_true rfl) (fun h => ⟨rfl, (by unfold i64ok; first | omega | (dsimp only; omega)), (by first | omega | (simp; done) | (dsimp only; omega) | exact lit_bl rfl), (by unfold i64ok; first | omega | (dsimp only; omega)), (by unfold i64ok; first | omega | (dsimp only; omega))⟩)) ?_
   refine Oa (ApO [1, 0] sl76 sl76 sz76) fun c538 => ?_
   refine Jo 0 ?_; rintro a539 k540 rfl
   refine Fb 40 0 fun hl541 => ?_
   have hn542 := la out_5 ([(GToken.mk 3 (Str.mk []) line_6 col_7)] : List GToken)
   refine Oq Va (KS ?_)
   refine Oq Vm (Oq Va (Oq Va (Oq Va (Oq Va (KS ?_)))))
   refine Jl [0] (Ent.freeze _ _) ?_
   have hq := q4 hrr ((out_5 ++ [(GToken.mk 3 (Str.mk []) line_6 col_7)]), 0, 0, 0) (by simp only [flqref4_Scan, h1, h22, h533, hR532, cs4]); subst hq
   exact Kr (vl a539 k540 (out_5 ++ [(GToken.mk 3 (Str.mk []) line_6 col_7)])) rfl (.tmp rfl (.tmp rfl (.tmp rfl (.tmp rfl .nil)))) [0] en
 intro h533
 refine KS ?_
 refine Oq Vm (Oq Va (Oq Va (Oq Va (Oq Va (KS ?_)))))
 refine Jl [0] (Ent.freeze _ _) ?_
 have hq := q4 hrr (out_5, 0, 0, 0) (by simp only [flqref4_Scan, h1, h22, h533, hR532, cs4]); subst hq
 exact Kr (vl a10 k11 out_5) rfl (.tmp rfl (.tmp rfl (.tmp rfl (.tmp rfl .nil)))) [0] en
end Go.SL.G
