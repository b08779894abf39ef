/- Part 5 of the walks: mirrors, plain laws and walks used by the last text of this claim. -/
import Derived.Test.YtcoflgblhhohdaaDoorW4
import Derived.Test.YtcoflgblhhohdaaDoorProg
set_option linter.unusedVariables false
set_option linter.unusedSimpArgs false
namespace Go.SL.G
open Go Go.SL Go.Proofs
set_option maxHeartbeats 20000000
set_option maxRecDepth 100000
theorem fn9 (tP : Value) (ta : Option Addr) (tk : Nat) (tT : List Int) (tI : Int) (p : GProgram) (pa0 : Option Addr) (pk0 : Nat) (htI : 0 ≤ tI ∧ tI ≤ (tT.length : Int)) (hsp : SpP p) (rr : GProgram × Int) (hrr : Tape_SpoilProgram tT tI p = rr) : FT Tryd.prog 9 #[tP, .agg #[vl pa0 pk0 p.Funcs]] [Cl tP [vl ta tk tT, vi tI], S ta tk tT, S pa0 pk0 p.Funcs] (fun g : Value => (0 ≤ rr.2 ∧ rr.2 ≤ (tT.length : Int))) (fun g => .agg #[g]) (fun g => [sl g rr.1.Funcs, Cl tP [vl ta tk tT, vi rr.2]]) := by
 refine FTi Tryd.func9 fun w0 M0 F0 => ?_
 refine Fb 8 1 fun hl1 => ?_
 refine Fo 1 fun ho2 => ?_
 refine Fb 40 2 fun hl3 => ?_
 refine KS ?_
 refine Oa (Ab [vl pa0 pk0 p.Funcs]) fun p4 => Oa (Al ze27 [.slice none 0 0]) fun p5 => KS ?_
 refine Oq (VldA sh27 1) ?_
 refine letv (flqgen_CopyProgram p) fun rv7 hg8 => ?_
 have hc9 := fn23 p pa0 pk0 rv7 hg8
 refine Oc [4] ca23 hc9 ?_
 rintro c6 -
 refine Jo 0 ?_; rintro a10 k11 rfl
 refine FbD 40 0 fun hl12 => ?_
 refine Oa (Al ze27 [.slice none 0 0]) fun p13 => Ost (Scl [0] sh27 [vl a10 k11 rv7.Funcs]) (KS ?_)
 refine Jp 0 fun hp14 => ?_
 refine JK_drawK [0, 1, 0, 0, 8, 24, 60, 127, 255] fmix ?_
 refine Dv [0] (Vfa fo27_0 0) (Dv [1] (VldF sh25 0) (Dv [] Vm (Dv [0] (Vfa fo27_0 0) (Dv [1] (VldF sh25 0) (Dv [] (Vlen sl25) ?_)))))
 refine letv (Tape_Next tT tI (rv7.Funcs.length : Int)) fun rv15 hg16 => ?_
 have hs1 := spoil_1 hsp (by assumption) hg16
 refine Dx [5, 6] [5] [2, 0, 1] (fun G => vi rv15.1) [fun G => SP.fact (i64ok rv15.1 ∧ (0 ≤ rv15.2 ∧ rv15.2 ≤ (tT.length : Int)) ∧ (0 ≤ rv15.1 ∧ (rv15.1 < (rv7.Funcs.length : Int) ∨ rv15.1 = 0))), fun G => Cl tP [vl ta tk tT, vi rv15.2]] (fun G => xC [0, 0] ca8 (fn8 tP ta tk tT tI ((rv7.Funcs.length : Int)) pre pre rv15 hg16)) ?_
 refine Dx [2, 8] [] [0, 0] (fun G => (eptr 2 (vl a10 k11 rv7.Funcs) rv15.1.toNat)) [] (fun G => by refine xf 1 rfl ?_; rintro ⟨he17, he18, he19⟩; unfold i64ok at he17; exact xV (Vi sl25 0)) (Dv [] Va ?_)
 refine Dn ⟨by kernel_rfl, fun G => ?_⟩
 refine Jw2 [(0, tP), (4, p5), (5, p13), (6, (eptr 2 (vl a10 k11 rv7.Funcs) rv15.1.toNat))] [0, 1, 2, 3, 4, 6, 7] [SP.fact (i64ok rv15.1 ∧ (0 ≤ rv15.2 ∧ rv15.2 ≤ (tT.length : Int)) ∧ (0 ≤ rv15.1 ∧ (rv15.1 < (rv7.Funcs.length : Int) ∨ rv15.1 = 0))), Cl tP [vl ta tk tT, vi rv15.2]] ?_
 refine Jf 7 rfl ?_; rintro ⟨he20, he21, he22⟩
 unfold i64ok at he20
 refine Jk [1, 1, 1, 1, 2, 3, 5] ?_
 refine KS ?_
 refine JJ_openD_GFunc rv15.1.toNat 1 rfl rng fun a23 k24 hb25 => ?_
 refine FbD 40 1 fun hl26 => ?_
 refine JK_drawK [0, 1, 3, 7, 0, 0, 32, 96, 224, 480, 1008, 2047, 4095] fmix ?_
 refine Dv [] Vm (Dv [0] (Vn 0) (Dv [0] (Vfa fo45_1 0) (Dv [0] (VldF sh43 0) (Dv [] Vm (Dv [] Vm (Dv [0] (Vn 0) (Dv [0] (Vfa fo45_1 0) (Dv [0] (VldF sh43 0) (Dv [] (Vlen sl43) ?_)))))))))
 refine letv (Tape_Next tT rv15.2 (((rv7.Funcs.getD rv15.1.toNat default).Blocks).length : Int)) fun rv27 hg28 => ?_
 refine Dx [5, 7] [7] [2, 0, 1] (fun G => vi rv27.1) [fun G => SP.fact (i64ok rv27.1 ∧ (0 ≤ rv27.2 ∧ rv27.2 ≤ (tT.length : Int)) ∧ (0 ≤ rv27.1 ∧ (rv27.1 < (((rv7.Funcs.getD rv15.1.toNat default).Blocks).length : Int) ∨ rv27.1 = 0))), fun G => Cl tP [vl ta tk tT, vi rv27.2]] (fun G => xC [1, 0] ca8 (fn8 tP ta tk tT rv15.2 ((((rv7.Funcs.getD rv15.1.toNat default).Blocks).length : Int)) pre pre rv27 hg28)) ?_
 refine Dx [1, 8] [] [0, 0] (fun G => (eptr 2 (vl a23 k24 ((rv7.Funcs.getD rv15.1.toNat default).Blocks)) rv27.1.toNat)) [] (fun G => by refine xf 1 rfl ?_; rintro ⟨he29, he30, he31⟩; unfold i64ok at he29; exact xV (Vi sl43 0)) (Dv [] Va ?_)
 refine Dn ⟨by kernel_rfl, fun G => ?_⟩
 refine Jw2 [(0, tP), (4, p5), (5, p13), (6, (eptr 2 (vl a10 k11 rv7.Funcs) rv15.1.toNat)), (7, (eptr 2 (vl a23 k24 ((rv7.Funcs.getD rv15.1.toNat default).Blocks)) rv27.1.toNat))] [0, 1, 2, 3, 4, 5, 6] [SP.fact (i64ok rv27.1 ∧ (0 ≤ rv27.2 ∧ rv27.2 ≤ (tT.length : Int)) ∧ (0 ≤ rv27.1 ∧ (rv27.1 < (((rv7.Funcs.getD rv15.1.toNat default).Blocks).length : Int) ∨ rv27.1 = 0))), Cl tP [vl ta tk tT, vi rv27.2]] ?_
 refine Jf 7 rfl ?_; rintro ⟨he32, he33, he34⟩
 unfold i64ok at he32
 refine Jk [0, 0, 0, 0, 0, 1, 2, 4] ?_
 refine KS ?_
 refine Oq Vm ?_
 refine JJ_openD_GBlock rv27.1.toNat 1 rfl rng fun a35 k36 hb37 => ?_
 refine FbD 72 1 fun hl38 => ?_
 refine Oq (Vn 0) (Oq (Vfa fo49_1 0) (Oq (VldF sh47 0) (Oq (Vlen sl47) (Oq Veql (KS ?_)))))
 refine Kc ?_ ?_
 · intro h39
   have g40 := eq_of_beq h39
   refine KS ?_
   refine JK_drawK [0, 0, 2, 6, 14, 0, 32, 96, 254, 511, 1023, 2047] fmix ?_
   refine Dv [] Vm (Dv [] Vm (Dv [0] (Vn 0) (Dv [0] (Vfa fo49_1 0) (Dv [0] (VldF sh47 0) (Dv [] Vm ?_)))))
   refine letv (Tape_stmt tT rv27.2 3) fun rv43 hg44 => ?_
   refine Dx [6, 8] [8] [4, 0, 1, 1, 1] (fun G => .agg #[vi rv43.1.Op, .string (bs rv43.1.Def), (G.g 6 0), (G.g 6 1)]) [fun G => SP.fact (i64ok rv43.1.Op ∧ rv43.1.Def.b.length ≤ 140737488355328 ∧ (0 ≤ rv43.2 ∧ rv43.2 ≤ (tT.length : Int))), fun G => os (G.g 6 0) rv43.1.Uses, fun G => os (G.g 6 1) rv43.1.Targets, fun G => Cl tP [vl ta tk tT, vi rv43.2]] (fun G => xC [1, 0] ca19 (fn19 tP ta tk tT rv27.2 3 pre pre pre rv43 hg44)) (Dx [] [] [0] (fun G => (G.g 7 0)) [fun G => Cr (G.g 7 0) 1 [vi rv43.1.Op, .string (bs rv43.1.Def), (G.g 6 0), (G.g 6 1)]] (fun G => xA (AsV sl47 sz47 [.agg #[vi rv43.1.Op, .string (bs rv43.1.Def), (G.g 6 0), (G.g 6 1)]] [vi rv43.1.Op, .string (bs rv43.1.Def), (G.g 6 0), (G.g 6 1)])) ?_)
   have hn47 := la ((((rv7.Funcs.getD rv15.1.toNat default).Blocks).getD rv27.1.toNat default).Stmts) ([rv43.1] : List GStmt)
   refine Dx [1, 9, 10, 11, 13] [1, 10, 11, 13] [1, 0] (fun G => (G.g 8 0)) [fun G => ds (G.g 8 0) (((((rv7.Funcs.getD rv15.1.toNat default).Blocks).getD rv27.1.toNat default).Stmts ++ [rv43.1]) : List GStmt)] (fun G => by refine xf 1 rfl ?_; rintro ⟨he48, he49, he50⟩; unfold i64ok at he48; exact xp [4, 2, 2] rfl (Ent.crD (α := GStmt) (A := [os (G.g 6 0) rv43.1.Uses, os (G.g 6 1) rv43.1.Targets]) _ rv43.1 _ (Nat.le_of_ble_eq_true rfl) (innmk_GStmt (z0 := rv43.1.Op) (z1 := rv43.1.Def) (by first | omega | (unfold i64ok; omega) | (simp only [lens]; omega)) (by first | omega | (unfold i64ok; omega) | (simp only [lens]; omega)))) (xA (ApD [1, 0] sl47 sl47 sz47))) (Dv [0] (Vn 0) (Dv [0] (Vfa fo49_1 0) (Dx0 [0, 14] [0] [1, 0] [fun G => dh (vl a23 k24 ((rv7.Funcs.getD rv15.1.toNat default).Blocks)) ((rv7.Funcs.getD rv15.1.toNat default).Blocks : List GBlock) rv27.1.toNat [.string (bs ((((rv7.Funcs.getD rv15.1.toNat default).Blocks).getD rv27.1.toNat default).Name)), (G.g 8 0)]] (fun G => x1 1 rfl ds_one fun ho51 => (xS (SoHr (α := GBlock) [0] sh47 [(G.g 8 0)] [.string (bs ((((rv7.Funcs.getD rv15.1.toNat default).Blocks).getD rv27.1.toNat default).Name)), (G.g 8 0)] (cells_of_one ho51) rfl (by simp only [List.all_cons, List.all_nil, ho51, Bool.and_true, Bool.true_and] <;> rfl)))) ?_)))
   refine Dn ⟨by kernel_rfl, fun G => ?_⟩
   refine Jw2 [(4, p5), (5, p13)] [2, 3, 4, 5, 6, 7] [SP.fact (i64ok rv43.1.Op ∧ rv43.1.Def.b.length ≤ 140737488355328 ∧ (0 ≤ rv43.2 ∧ rv43.2 ≤ (tT.length : Int))), Cl tP [vl ta tk tT, vi rv43.2], ds (G.g 8 0) (((((rv7.Funcs.getD rv15.1.toNat default).Blocks).getD rv27.1.toNat default).Stmts ++ [rv43.1]) : List GStmt), dh (vl a23 k24 ((rv7.Funcs.getD rv15.1.toNat default).Blocks)) ((rv7.Funcs.getD rv15.1.toNat default).Blocks : List GBlock) rv27.1.toNat [.string (bs ((((rv7.Funcs.getD rv15.1.toNat default).Blocks).getD rv27.1.toNat default).Name)), (G.g 8 0)]] ?_
   generalize G.g 8 0 = c46
   refine Jf 6 rfl ?_; rintro ⟨he52, he53, he54⟩
   unfold i64ok at he52
   refine Jk [0, 0, 0, 0, 1, 2, 4, 4, 4] ?_
   refine Jo 7 ?_; rintro a55 k56 rfl
   refine FbD 72 7 fun hl57 => ?_
   refine KS ?_
   refine Oq (VldA sh27 1) (Ost (Scl [2] sh27 [vl a10 k11 rv7.Funcs]) (KS ?_))
   refine Jl [8, 7] (Ent.closeD (A := [D a55 k56 (((((rv7.Funcs.getD rv15.1.toNat default).Blocks).getD rv27.1.toNat default).Stmts ++ [rv43.1]) : List GStmt)]) _ _ _ _ (GBlock.mk ((((rv7.Funcs.getD rv15.1.toNat default).Blocks).getD rv27.1.toNat default).Name) ((((rv7.Funcs.getD rv15.1.toNat default).Blocks).getD rv27.1.toNat default).Stmts ++ [rv43.1])) (innmk_GBlock (z0 := (((rv7.Funcs.getD rv15.1.toNat default).Blocks).getD rv27.1.toNat default).Name) (by first | omega | (unfold i64ok; omega) | (simp only [lens]; omega)))) ?_
   refine Jl [2, 0] (Ent.closeD (A := [ds (vl a23 k24 ((rv7.Funcs.getD rv15.1.toNat default).Blocks)) ((((rv7.Funcs.getD rv15.1.toNat default).Blocks).set rv27.1.toNat (GBlock.mk ((((rv7.Funcs.getD rv15.1.toNat default).Blocks).getD rv27.1.toNat default).Name) ((((rv7.Funcs.getD rv15.1.toNat default).Blocks).getD rv27.1.toNat default).Stmts ++ [rv43.1]))) : List GBlock)]) _ _ _ _ (GFunc.mk ((rv7.Funcs.getD rv15.1.toNat default).Name) (((rv7.Funcs.getD rv15.1.toNat default).Blocks).set rv27.1.toNat (GBlock.mk ((((rv7.Funcs.getD rv15.1.toNat default).Blocks).getD rv27.1.toNat default).Name) ((((rv7.Funcs.getD rv15.1.toNat default).Blocks).getD rv27.1.toNat default).Stmts ++ [rv43.1])))) (innmk_GFunc (z0 := (rv7.Funcs.getD rv15.1.toNat default).Name) (by first | omega | (unfold i64ok; omega) | (simp only [lens]; omega)))) ?_
   refine Jl [0] (Ent.dsF _ _) ?_
   have hq := q4 hrr ((GProgram.mk (rv7.Funcs.set rv15.1.toNat (GFunc.mk ((rv7.Funcs.getD rv15.1.toNat default).Name) (((rv7.Funcs.getD rv15.1.toNat default).Blocks).set rv27.1.toNat (GBlock.mk ((((rv7.Funcs.getD rv15.1.toNat default).Blocks).getD rv27.1.toNat default).Name) ((((rv7.Funcs.getD rv15.1.toNat default).Blocks).getD rv27.1.toNat default).Stmts ++ [rv43.1])))))), rv43.2) (by simp only [Tape_SpoilProgram, h39, hg8, hg16, hg28, hg44, cs4]); subst hq
   exact Kr (vl a10 k11 rv7.Funcs) rfl (.cellN 1 rfl sh27 rfl (reads_Cl _ _) rfl .nil) [0, 6] en
 intro h39
 have g58 := ne_of_beq_false h39
 refine KS ?_
 refine JK_drawK [0, 1, 3, 7, 0, 0, 32, 96, 224, 480, 1008, 2047, 4095] fmix ?_
 refine Dv [] Vm (Dv [0] (Vn 0) (Dv [0] (Vfa fo49_1 0) (Dv [0] (VldF sh47 0) (Dv [] Vm (Dv [] Vm (Dv [0] (Vn 0) (Dv [0] (Vfa fo49_1 0) (Dv [0] (VldF sh47 0) (Dv [] (Vlen sl47) ?_)))))))))
 refine letv (Tape_Next tT rv27.2 (((((rv7.Funcs.getD rv15.1.toNat default).Blocks).getD rv27.1.toNat default).Stmts).length : Int)) fun rv59 hg60 => ?_
 have hs2 := spoil_2 hsp (by assumption) rv15.1.toNat rv27.1.toNat
 have hs3 := spoil_3 hsp (by assumption) rv15.1.toNat rv27.1.toNat rv59.1.toNat
 refine Dx [6, 8] [8] [2, 0, 1] (fun G => vi rv59.1) [fun G => SP.fact (i64ok rv59.1 ∧ (0 ≤ rv59.2 ∧ rv59.2 ≤ (tT.length : Int)) ∧ (0 ≤ rv59.1 ∧ (rv59.1 < (((((rv7.Funcs.getD rv15.1.toNat default).Blocks).getD rv27.1.toNat default).Stmts).length : Int) ∨ rv59.1 = 0))), fun G => Cl tP [vl ta tk tT, vi rv59.2]] (fun G => xC [1, 0] ca8 (fn8 tP ta tk tT rv27.2 ((((((rv7.Funcs.getD rv15.1.toNat default).Blocks).getD rv27.1.toNat default).Stmts).length : Int)) pre pre rv59 hg60)) ?_
 refine Dx [1, 9] [] [0, 0] (fun G => (eptr 4 (.slice a35 (((((rv7.Funcs.getD rv15.1.toNat default).Blocks).getD rv27.1.toNat default).Stmts).length) k36) rv59.1.toNat)) [] (fun G => by refine xf 1 rfl ?_; rintro ⟨he61, he62, he63⟩; unfold i64ok at he61; exact xV (Vi sl47 0)) (Dv [] Va ?_)
 refine Dn ⟨by kernel_rfl, fun G => ?_⟩
 refine Jw2 [(0, tP), (4, p5), (5, p13), (6, (eptr 2 (vl a10 k11 rv7.Funcs) rv15.1.toNat)), (7, (eptr 2 (vl a23 k24 ((rv7.Funcs.getD rv15.1.toNat default).Blocks)) rv27.1.toNat)), (8, (eptr 4 (.slice a35 (((((rv7.Funcs.getD rv15.1.toNat default).Blocks).getD rv27.1.toNat default).Stmts).length) k36) rv59.1.toNat))] [0, 1, 2, 3, 4, 5, 6, 7] [SP.fact (i64ok rv59.1 ∧ (0 ≤ rv59.2 ∧ rv59.2 ≤ (tT.length : Int)) ∧ (0 ≤ rv59.1 ∧ (rv59.1 < (((((rv7.Funcs.getD rv15.1.toNat default).Blocks).getD rv27.1.toNat default).Stmts).length : Int) ∨ rv59.1 = 0))), Cl tP [vl ta tk tT, vi rv59.2]] ?_
 refine Jf 8 rfl ?_; rintro ⟨he64, he65, he66⟩
 unfold i64ok at he64
 refine Jk [0, 0, 0, 0, 0, 0, 1, 2, 4] ?_
 refine KS ?_
 refine Oq Vm ?_
 refine letv (Tape_Next tT rv59.2 10) fun rv67 hg68 => ?_
 have hs4 := Next_r hg68 (by omega)
 have hc69 := fn8 tP ta tk tT rv59.2 10 pre pre rv67 hg68
 refine Oc [8, 6] ca8 hc69 ?_
 rintro - ⟨he70, he71, he72⟩
 unfold i64ok at he70
 refine KS ?_
 refine Oq Veql (Oq Va (KS ?_))
 refine Kc ?_ ?_
 · intro h73
   have g74 := eq_of_beq h73
   refine KS ?_
   refine Oq Vm (Oa (AsV sl40 sz40 [.string (bs (Str.mk [109])), .string (bs (Str.mk [102])), .string (bs (Str.mk [49])), .string (bs (Str.mk [101, 110, 100])), .string (bs (Str.mk []))] [.string (bs (Str.mk [109])), .string (bs (Str.mk [102])), .string (bs (Str.mk [49])), .string (bs (Str.mk [101, 110, 100])), .string (bs (Str.mk []))]) fun c75 => ?_)
   refine Jo 0 ?_; rintro a76 k77 rfl
   refine Oq Vm ?_
   refine letv (Tape_Next tT rv67.2 5) fun rv78 hg79 => ?_
   have hs4 := Next_r hg79 (by omega)
   have hc80 := fn8 tP ta tk tT rv67.2 5 pre pre rv78 hg79
   refine Oc [1, 7] ca8 hc80 ?_
   rintro - ⟨he81, he82, he83⟩
   unfold i64ok at he81
   refine Jl [1] (Ent.crOs (α := Str) (A := []) _ ([(Str.mk [109]), (Str.mk [102]), (Str.mk [49]), (Str.mk [101, 110, 100]), (Str.mk [])] : List Str) _ (Nat.le_of_ble_eq_true rfl) (fun h => ⟨[.string (bs (Str.mk [109]))], [.string (bs (Str.mk [102])), .string (bs (Str.mk [49])), .string (bs (Str.mk [101, 110, 100])), .string (bs (Str.mk []))], rfl, (fun _ => ⟨rfl, by first | omega | (simp; done) | (dsimp only; omega) | exact lit_bl rfl⟩) h, ⟨[.string (bs (Str.mk [102]))], [.string (bs (Str.mk [49])), .string (bs (Str.mk [101, 110, 100])), .string (bs (Str.mk []))], rfl, (fun _ => ⟨rfl, by first | omega | (simp; done) | (dsimp only; omega) | exact lit_bl rfl⟩) h, ⟨[.string (bs (Str.mk [49]))], [.string (bs (Str.mk [101, 110, 100])), .string (bs (Str.mk []))], rfl, (fun _ => ⟨rfl, by first | omega | (simp; done) | (dsimp only; omega) | exact lit_bl rfl⟩) h, ⟨[.string (bs (Str.mk [101, 110, 100]))], [.string (bs (Str.mk []))], rfl, (fun _ => ⟨rfl, by first | omega | (simp; done) | (dsimp only; omega) | exact lit_bl rfl⟩) h, ⟨[.string (bs (Str.mk []))], [], rfl, (fun _ => ⟨rfl, by first | omega | (simp; done) | (dsimp only; omega) | exact lit_bl rfl⟩) h, rfl⟩⟩⟩⟩⟩)) ?_
   refine Oq (Vi sl40 0) ?_
   refine Fb 16 0 fun hl84 => ?_
   refine FoS 0 fun ho85 => ?_
   have hb86 := okS (i := rv78.1.toNat) ho85 rng
   refine Oq (VldS sh9 0) (Oq (Vn 4) (Oq (Vfa fo45_0 4) (Ost (SoH (α := GFunc) [4] sh9 [.string (bs ([(Str.mk [109]), (Str.mk [102]), (Str.mk [49]), (Str.mk [101, 110, 100]), (Str.mk [])].getD rv78.1.toNat default)), vl a23 k24 ((rv7.Funcs.getD rv15.1.toNat default).Blocks)]) (KS ?_))))
   refine Oq (VldA sh27 5) (Ost (Scl [6] sh27 [vl a10 k11 rv7.Funcs]) (KS ?_))
   refine Jl [4, 4] (Ent.closeS (A := [D a35 k36 ((((rv7.Funcs.getD rv15.1.toNat default).Blocks).getD rv27.1.toNat default).Stmts)]) _ _ _ _ default (innmk_GBlock (z0 := (((rv7.Funcs.getD rv15.1.toNat default).Blocks).getD rv27.1.toNat default).Name) (by first | omega | (unfold i64ok; omega) | (simp only [lens]; omega)))) ?_
   refine Jl [2, 0] (Ent.closeD (A := [D a23 k24 ((rv7.Funcs.getD rv15.1.toNat default).Blocks)]) _ _ _ _ (GFunc.mk ([(Str.mk [109]), (Str.mk [102]), (Str.mk [49]), (Str.mk [101, 110, 100]), (Str.mk [])].getD rv78.1.toNat default) ((rv7.Funcs.getD rv15.1.toNat default).Blocks)) (innmk_GFunc (z0 := ([(Str.mk [109]), (Str.mk [102]), (Str.mk [49]), (Str.mk [101, 110, 100]), (Str.mk [])].getD rv78.1.toNat default)) (by first | omega | (unfold i64ok; omega) | (simp only [lens]; omega)))) ?_
   refine Jl [0] (Ent.dsF _ _) ?_
   have hq := q4 hrr ((GProgram.mk (rv7.Funcs.set rv15.1.toNat (GFunc.mk ([(Str.mk [109]), (Str.mk [102]), (Str.mk [49]), (Str.mk [101, 110, 100]), (Str.mk [])].getD rv78.1.toNat default) ((rv7.Funcs.getD rv15.1.toNat default).Blocks)))), rv78.2) (by simp only [Tape_SpoilProgram, h39, h73, hg8, hg16, hg28, hg60, hg68, hg79, cs4]); subst hq
   exact Kr (vl a10 k11 rv7.Funcs) rfl (.cellN 1 rfl sh27 rfl (reads_Cl _ _) rfl .nil) [0, 3] en
 intro h73
 have g87 := ne_of_beq_false h73
 refine KS ?_
 refine Oq Veql (Oq Va (KS ?_))
 refine Kc ?_ ?_
 · intro h88
   have g89 := eq_of_beq h88
   refine KS ?_
   refine Oq Vm (Oa (AsV sl40 sz40 [.string (bs (Str.mk [97])), .string (bs (Str.mk [98])), .string (bs (Str.mk [114, 101, 116, 117, 114, 110])), .string (bs (Str.mk [113, 95, 49])), .string (bs (Str.mk [120, 45, 121]))] [.string (bs (Str.mk [97])), .string (bs (Str.mk [98])), .string (bs (Str.mk [114, 101, 116, 117, 114, 110])), .string (bs (Str.mk [113, 95, 49])), .string (bs (Str.mk [120, 45, 121]))]) fun c90 => ?_)
   refine Jo 0 ?_; rintro a91 k92 rfl
   refine Oq Vm ?_
   refine letv (Tape_Next tT rv67.2 5) fun rv93 hg94 => ?_
   have hs4 := Next_r hg94 (by omega)
   have hc95 := fn8 tP ta tk tT rv67.2 5 pre pre rv93 hg94
   refine Oc [1, 7] ca8 hc95 ?_
   rintro - ⟨he96, he97, he98⟩
   unfold i64ok at he96
   refine Jl [1] (Ent.crOs (α := Str) (A := []) _ ([(Str.mk [97]), (Str.mk [98]), (Str.mk [114, 101, 116, 117, 114, 110]), (Str.mk [113, 95, 49]), (Str.mk [120, 45, 121])] : List Str) _ (Nat.le_of_ble_eq_true rfl) (fun h => ⟨[.string (bs (Str.mk [97]))], [.string (bs (Str.mk [98])), .string (bs (Str.mk [114, 101, 116, 117, 114, 110])), .string (bs (Str.mk [113, 95, 49])), .string (bs (Str.mk [120, 45, 121]))], rfl, (fun _ => ⟨rfl, by first | omega | (simp; done) | (dsimp only; omega) | exact lit_bl rfl⟩) h, ⟨[.string (bs (Str.mk [98]))], [.string (bs (Str.mk [114, 101, 116, 117, 114, 110])), .string (bs (Str.mk [113, 95, 49])), .string (bs (Str.mk [120, 45, 121]))], rfl, (fun _ => ⟨rfl, by first | omega | (simp; done) | (dsimp only; omega) | exact lit_bl rfl⟩) h, ⟨[.string (bs (Str.mk [114, 101, 116, 117, 114, 110]))], [.string (bs (Str.mk [113, 95, 49])), .string (bs (Str.mk [120, 45, 121]))], rfl, (fun _ => ⟨rfl, by first | omega | (simp; done) | (dsimp only; omega) | exact lit_bl rfl⟩) h, ⟨[.string (bs (Str.mk [113, 95, 49]))], [.string (bs (Str.mk [120, 45, 121]))], rfl, (fun _ => ⟨rfl, by first | omega | (simp; done) | (dsimp only; omega) | exact lit_bl rfl⟩) h, ⟨[.string (bs (Str.mk [120, 45, 121]))], [], rfl, (fun _ => ⟨rfl, by first | omega | (simp; done) | (dsimp only; omega) | exact lit_bl rfl⟩) h, rfl⟩⟩⟩⟩⟩)) ?_
   refine Oq (Vi sl40 0) ?_
   refine Fb 16 0 fun hl99 => ?_
   refine FoS 0 fun ho100 => ?_
   have hb101 := okS (i := rv93.1.toNat) ho100 rng
   refine Oq (VldS sh9 0) (Oq (Vn 2) (Oq (Vfa fo49_0 2) (Ost (SoH (α := GBlock) [2] sh9 [.string (bs ([(Str.mk [97]), (Str.mk [98]), (Str.mk [114, 101, 116, 117, 114, 110]), (Str.mk [113, 95, 49]), (Str.mk [120, 45, 121])].getD rv93.1.toNat default)), .slice a35 (((((rv7.Funcs.getD rv15.1.toNat default).Blocks).getD rv27.1.toNat default).Stmts).length) k36]) (KS ?_))))
   refine Oq (VldA sh27 5) (Ost (Scl [6] sh27 [vl a10 k11 rv7.Funcs]) (KS ?_))
   refine Jl [1, 3] (Ent.closeD (A := [D a35 k36 ((((rv7.Funcs.getD rv15.1.toNat default).Blocks).getD rv27.1.toNat default).Stmts)]) _ _ _ _ (GBlock.mk ([(Str.mk [97]), (Str.mk [98]), (Str.mk [114, 101, 116, 117, 114, 110]), (Str.mk [113, 95, 49]), (Str.mk [120, 45, 121])].getD rv93.1.toNat default) ((((rv7.Funcs.getD rv15.1.toNat default).Blocks).getD rv27.1.toNat default).Stmts)) (innmk_GBlock (z0 := ([(Str.mk [97]), (Str.mk [98]), (Str.mk [114, 101, 116, 117, 114, 110]), (Str.mk [113, 95, 49]), (Str.mk [120, 45, 121])].getD rv93.1.toNat default)) (by first | omega | (unfold i64ok; omega) | (simp only [lens]; omega)))) ?_
   refine Jl [4, 0] (Ent.closeD (A := [ds (vl a23 k24 ((rv7.Funcs.getD rv15.1.toNat default).Blocks)) ((((rv7.Funcs.getD rv15.1.toNat default).Blocks).set rv27.1.toNat (GBlock.mk ([(Str.mk [97]), (Str.mk [98]), (Str.mk [114, 101, 116, 117, 114, 110]), (Str.mk [113, 95, 49]), (Str.mk [120, 45, 121])].getD rv93.1.toNat default) ((((rv7.Funcs.getD rv15.1.toNat default).Blocks).getD rv27.1.toNat default).Stmts))) : List GBlock)]) _ _ _ _ (GFunc.mk ((rv7.Funcs.getD rv15.1.toNat default).Name) (((rv7.Funcs.getD rv15.1.toNat default).Blocks).set rv27.1.toNat (GBlock.mk ([(Str.mk [97]), (Str.mk [98]), (Str.mk [114, 101, 116, 117, 114, 110]), (Str.mk [113, 95, 49]), (Str.mk [120, 45, 121])].getD rv93.1.toNat default) ((((rv7.Funcs.getD rv15.1.toNat default).Blocks).getD rv27.1.toNat default).Stmts)))) (innmk_GFunc (z0 := (rv7.Funcs.getD rv15.1.toNat default).Name) (by first | omega | (unfold i64ok; omega) | (simp only [lens]; omega)))) ?_
   refine Jl [0] (Ent.dsF _ _) ?_
   have hq := q4 hrr ((GProgram.mk (rv7.Funcs.set rv15.1.toNat (GFunc.mk ((rv7.Funcs.getD rv15.1.toNat default).Name) (((rv7.Funcs.getD rv15.1.toNat default).Blocks).set rv27.1.toNat (GBlock.mk ([(Str.mk [97]), (Str.mk [98]), (Str.mk [114, 101, 116, 117, 114, 110]), (Str.mk [113, 95, 49]), (Str.mk [120, 45, 121])].getD rv93.1.toNat default) ((((rv7.Funcs.getD rv15.1.toNat default).Blocks).getD rv27.1.toNat default).Stmts)))))), rv93.2) (by simp only [Tape_SpoilProgram, h39, h73, h88, hg8, hg16, hg28, hg60, hg68, hg94, cs4]); subst hq
   exact Kr (vl a10 k11 rv7.Funcs) rfl (.cellN 1 rfl sh27 rfl (reads_Cl _ _) rfl .nil) [0, 3] en
 intro h88
 have g102 := ne_of_beq_false h88
 refine KS ?_
 refine Oq Veql (Oq Va (KS ?_))
 refine Kc ?_ ?_
 · intro h103
   have g104 := eq_of_beq h103
   refine KS ?_
   refine Oq Vm (Oq Vm ?_)
   refine letv (Tape_Next tT rv67.2 11) fun rv105 hg106 => ?_
   have hs4 := Next_r hg106 (by omega)
   have hc107 := fn8 tP ta tk tT rv67.2 11 pre pre rv105 hg106
   refine Oc [0, 6] ca8 hc107 ?_
   rintro - ⟨he108, he109, he110⟩
   unfold i64ok at he108
   refine JJ_openD_GStmt rv59.1.toNat 2 rfl rng fun a111 k112 a113 k114 hb115 hb116 => ?_
   unfold i64ok at hb115
   refine Fb 16 1 fun hl117 => ?_
   refine FoS 1 fun ho118 => ?_
   refine Fb 16 2 fun hl119 => ?_
   refine FoS 2 fun ho120 => ?_
   refine Oq (Vn 0) (Oq (Vfa fo51_0 0) (Ost (SoH (α := GStmt) [0] sh3 [vi rv105.1, .string (bs ((((((rv7.Funcs.getD rv15.1.toNat default).Blocks).getD rv27.1.toNat default).Stmts).getD rv59.1.toNat default).Def)), .slice a111 (((((((rv7.Funcs.getD rv15.1.toNat default).Blocks).getD rv27.1.toNat default).Stmts).getD rv59.1.toNat default).Uses).length) k112, .slice a113 (((((((rv7.Funcs.getD rv15.1.toNat default).Blocks).getD rv27.1.toNat default).Stmts).getD rv59.1.toNat default).Targets).length) k114]) (KS ?_)))
   refine Oq (VldA sh27 6) (Ost (Scl [7] sh27 [vl a10 k11 rv7.Funcs]) (KS ?_))
   refine Jl [1, 1, 1] (Ent.closeD (A := [O a111 k112 ((((((rv7.Funcs.getD rv15.1.toNat default).Blocks).getD rv27.1.toNat default).Stmts).getD rv59.1.toNat default).Uses), O a113 k114 ((((((rv7.Funcs.getD rv15.1.toNat default).Blocks).getD rv27.1.toNat default).Stmts).getD rv59.1.toNat default).Targets)]) _ _ _ _ (GStmt.mk rv105.1 ((((((rv7.Funcs.getD rv15.1.toNat default).Blocks).getD rv27.1.toNat default).Stmts).getD rv59.1.toNat default).Def) ((((((rv7.Funcs.getD rv15.1.toNat default).Blocks).getD rv27.1.toNat default).Stmts).getD rv59.1.toNat default).Uses) ((((((rv7.Funcs.getD rv15.1.toNat default).Blocks).getD rv27.1.toNat default).Stmts).getD rv59.1.toNat default).Targets)) (innmk_GStmt (z0 := rv105.1) (z1 := (((((rv7.Funcs.getD rv15.1.toNat default).Blocks).getD rv27.1.toNat default).Stmts).getD rv59.1.toNat default).Def) (by first | omega | (unfold i64ok; omega) | (simp only [lens]; omega)) (by first | omega | (unfold i64ok; omega) | (simp only [lens]; omega)))) ?_
   refine Jl [3, 0] (Ent.closeD (A := [ds (.slice a35 (((((rv7.Funcs.getD rv15.1.toNat default).Blocks).getD rv27.1.toNat default).Stmts).length) k36) (((((rv7.Funcs.getD rv15.1.toNat default).Blocks).getD rv27.1.toNat default).Stmts).set rv59.1.toNat (GStmt.mk rv105.1 ((((((rv7.Funcs.getD rv15.1.toNat default).Blocks).getD rv27.1.toNat default).Stmts).getD rv59.1.toNat default).Def) ((((((rv7.Funcs.getD rv15.1.toNat default).Blocks).getD rv27.1.toNat default).Stmts).getD rv59.1.toNat default).Uses) ((((((rv7.Funcs.getD rv15.1.toNat default).Blocks).getD rv27.1.toNat default).Stmts).getD rv59.1.toNat default).Targets)))]) _ _ _ _ (GBlock.mk ((((rv7.Funcs.getD rv15.1.toNat default).Blocks).getD rv27.1.toNat default).Name) (((((rv7.Funcs.getD rv15.1.toNat default).Blocks).getD rv27.1.toNat default).Stmts).set rv59.1.toNat (GStmt.mk rv105.1 ((((((rv7.Funcs.getD rv15.1.toNat default).Blocks).getD rv27.1.toNat default).Stmts).getD rv59.1.toNat default).Def) ((((((rv7.Funcs.getD rv15.1.toNat default).Blocks).getD rv27.1.toNat default).Stmts).getD rv59.1.toNat default).Uses) ((((((rv7.Funcs.getD rv15.1.toNat default).Blocks).getD rv27.1.toNat default).Stmts).getD rv59.1.toNat default).Targets)))) (innmk_GBlock (z0 := (((rv7.Funcs.getD rv15.1.toNat default).Blocks).getD rv27.1.toNat default).Name) (by first | omega | (unfold i64ok; omega) | (simp only [lens]; omega)))) ?_
   refine Jl [3, 0] (Ent.closeD (A := [ds (vl a23 k24 ((rv7.Funcs.getD rv15.1.toNat default).Blocks)) (((rv7.Funcs.getD rv15.1.toNat default).Blocks).set rv27.1.toNat (GBlock.mk ((((rv7.Funcs.getD rv15.1.toNat default).Blocks).getD rv27.1.toNat default).Name) (((((rv7.Funcs.getD rv15.1.toNat default).Blocks).getD rv27.1.toNat default).Stmts).set rv59.1.toNat (GStmt.mk rv105.1 ((((((rv7.Funcs.getD rv15.1.toNat default).Blocks).getD rv27.1.toNat default).Stmts).getD rv59.1.toNat default).Def) ((((((rv7.Funcs.getD rv15.1.toNat default).Blocks).getD rv27.1.toNat default).Stmts).getD rv59.1.toNat default).Uses) ((((((rv7.Funcs.getD rv15.1.toNat default).Blocks).getD rv27.1.toNat default).Stmts).getD rv59.1.toNat default).Targets)))))]) _ _ _ _ (GFunc.mk ((rv7.Funcs.getD rv15.1.toNat default).Name) (((rv7.Funcs.getD rv15.1.toNat default).Blocks).set rv27.1.toNat (GBlock.mk ((((rv7.Funcs.getD rv15.1.toNat default).Blocks).getD rv27.1.toNat default).Name) (((((rv7.Funcs.getD rv15.1.toNat default).Blocks).getD rv27.1.toNat default).Stmts).set rv59.1.toNat (GStmt.mk rv105.1 ((((((rv7.Funcs.getD rv15.1.toNat default).Blocks).getD rv27.1.toNat default).Stmts).getD rv59.1.toNat default).Def) ((((((rv7.Funcs.getD rv15.1.toNat default).Blocks).getD rv27.1.toNat default).Stmts).getD rv59.1.toNat default).Uses) ((((((rv7.Funcs.getD rv15.1.toNat default).Blocks).getD rv27.1.toNat default).Stmts).getD rv59.1.toNat default).Targets)))))) (innmk_GFunc (z0 := (rv7.Funcs.getD rv15.1.toNat default).Name) (by first | omega | (unfold i64ok; omega) | (simp only [lens]; omega)))) ?_
   refine Jl [0] (Ent.dsF _ _) ?_
   have hq := q4 hrr ((GProgram.mk (rv7.Funcs.set rv15.1.toNat (GFunc.mk ((rv7.Funcs.getD rv15.1.toNat default).Name) (((rv7.Funcs.getD rv15.1.toNat default).Blocks).set rv27.1.toNat (GBlock.mk ((((rv7.Funcs.getD rv15.1.toNat default).Blocks).getD rv27.1.toNat default).Name) (((((rv7.Funcs.getD rv15.1.toNat default).Blocks).getD rv27.1.toNat default).Stmts).set rv59.1.toNat (GStmt.mk rv105.1 ((((((rv7.Funcs.getD rv15.1.toNat default).Blocks).getD rv27.1.toNat default).Stmts).getD rv59.1.toNat default).Def) ((((((rv7.Funcs.getD rv15.1.toNat default).Blocks).getD rv27.1.toNat default).Stmts).getD rv59.1.toNat default).Uses) ((((((rv7.Funcs.getD rv15.1.toNat default).Blocks).getD rv27.1.toNat default).Stmts).getD rv59.1.toNat default).Targets)))))))), rv105.2) (by simp only [Tape_SpoilProgram, h39, h73, h88, h103, hg8, hg16, hg28, hg60, hg68, hg106, cs4]); subst hq
   exact Kr (vl a10 k11 rv7.Funcs) rfl (.cellN 1 rfl sh27 rfl (reads_Cl _ _) rfl .nil) [0, 2] en
 intro h103
 have g121 := ne_of_beq_false h103
 refine KS ?_
 refine Oq Veql (Oq Va (KS ?_))
 refine Kc ?_ ?_
 · intro h122
   have g123 := eq_of_beq h122
   refine KS ?_
   refine Oq Vm (Oa (AsV sl40 sz40 [.string (bs (Str.mk [])), .string (bs (Str.mk [120])), .string (bs (Str.mk [117, 115, 101])), .string (bs (Str.mk [108, 111, 110, 103, 101, 114, 95, 116, 104, 97, 110, 95, 49, 54, 95, 98, 121, 116, 101, 115]))] [.string (bs (Str.mk [])), .string (bs (Str.mk [120])), .string (bs (Str.mk [117, 115, 101])), .string (bs (Str.mk [108, 111, 110, 103, 101, 114, 95, 116, 104, 97, 110, 95, 49, 54, 95, 98, 121, 116, 101, 115]))]) fun c124 => ?_)
   refine Jo 0 ?_; rintro a125 k126 rfl
   refine Oq Vm ?_
   refine letv (Tape_Next tT rv67.2 4) fun rv127 hg128 => ?_
   have hs4 := Next_r hg128 (by omega)
   have hc129 := fn8 tP ta tk tT rv67.2 4 pre pre rv127 hg128
   refine Oc [1, 7] ca8 hc129 ?_
   rintro - ⟨he130, he131, he132⟩
   unfold i64ok at he130
   refine Jl [1] (Ent.crOs (α := Str) (A := []) _ ([(Str.mk []), (Str.mk [120]), (Str.mk [117, 115, 101]), (Str.mk [108, 111, 110, 103, 101, 114, 95, 116, 104, 97, 110, 95, 49, 54, 95, 98, 121, 116, 101, 115])] : List Str) _ (Nat.le_of_ble_eq_true rfl) (fun h => ⟨[.string (bs (Str.mk []))], [.string (bs (Str.mk [120])), .string (bs (Str.mk [117, 115, 101])), .string (bs (Str.mk [108, 111, 110, 103, 101, 114, 95, 116, 104, 97, 110, 95, 49, 54, 95, 98, 121, 116, 101, 115]))], rfl, (fun _ => ⟨rfl, by first | omega | (simp; done) | (dsimp only; omega) | exact lit_bl rfl⟩) h, ⟨[.string (bs (Str.mk [120]))], [.string (bs (Str.mk [117, 115, 101])), .string (bs (Str.mk [108, 111, 110, 103, 101, 114, 95, 116, 104, 97, 110, 95, 49, 54, 95, 98, 121, 116, 101, 115]))], rfl, (fun _ => ⟨rfl, by first | omega | (simp; done) | (dsimp only; omega) | exact lit_bl rfl⟩) h, ⟨[.string (bs (Str.mk [117, 115, 101]))], [.string (bs (Str.mk [108, 111, 110, 103, 101, 114, 95, 116, 104, 97, 110, 95, 49, 54, 95, 98, 121, 116, 101, 115]))], rfl, (fun _ => ⟨rfl, by first | omega | (simp; done) | (dsimp only; omega) | exact lit_bl rfl⟩) h, ⟨[.string (bs (Str.mk [108, 111, 110, 103, 101, 114, 95, 116, 104, 97, 110, 95, 49, 54, 95, 98, 121, 116, 101, 115]))], [], rfl, (fun _ => ⟨rfl, by first | omega | (simp; done) | (dsimp only; omega) | exact lit_bl rfl⟩) h, rfl⟩⟩⟩⟩)) ?_
   refine Oq (Vi sl40 0) ?_
   refine Fb 16 0 fun hl133 => ?_
   refine FoS 0 fun ho134 => ?_
   have hb135 := okS (i := rv127.1.toNat) ho134 rng
   refine Oq (VldS sh9 0) ?_
   refine JJ_openD_GStmt rv59.1.toNat 3 rfl rng fun a136 k137 a138 k139 hb140 hb141 => ?_
   unfold i64ok at hb140
   refine Fb 16 1 fun hl142 => ?_
   refine FoS 1 fun ho143 => ?_
   refine Fb 16 2 fun hl144 => ?_
   refine FoS 2 fun ho145 => ?_
   refine Oq (Vn 0) (Oq (Vfa fo51_1 0) (Ost (SoH (α := GStmt) [0] sh9 [vi ((((((rv7.Funcs.getD rv15.1.toNat default).Blocks).getD rv27.1.toNat default).Stmts).getD rv59.1.toNat default).Op), .string (bs ([(Str.mk []), (Str.mk [120]), (Str.mk [117, 115, 101]), (Str.mk [108, 111, 110, 103, 101, 114, 95, 116, 104, 97, 110, 95, 49, 54, 95, 98, 121, 116, 101, 115])].getD rv127.1.toNat default)), .slice a136 (((((((rv7.Funcs.getD rv15.1.toNat default).Blocks).getD rv27.1.toNat default).Stmts).getD rv59.1.toNat default).Uses).length) k137, .slice a138 (((((((rv7.Funcs.getD rv15.1.toNat default).Blocks).getD rv27.1.toNat default).Stmts).getD rv59.1.toNat default).Targets).length) k139]) (KS ?_)))
   refine Oq (VldA sh27 7) (Ost (Scl [8] sh27 [vl a10 k11 rv7.Funcs]) (KS ?_))
   refine Jl [1, 1, 1] (Ent.closeD (A := [O a136 k137 ((((((rv7.Funcs.getD rv15.1.toNat default).Blocks).getD rv27.1.toNat default).Stmts).getD rv59.1.toNat default).Uses), O a138 k139 ((((((rv7.Funcs.getD rv15.1.toNat default).Blocks).getD rv27.1.toNat default).Stmts).getD rv59.1.toNat default).Targets)]) _ _ _ _ (GStmt.mk ((((((rv7.Funcs.getD rv15.1.toNat default).Blocks).getD rv27.1.toNat default).Stmts).getD rv59.1.toNat default).Op) ([(Str.mk []), (Str.mk [120]), (Str.mk [117, 115, 101]), (Str.mk [108, 111, 110, 103, 101, 114, 95, 116, 104, 97, 110, 95, 49, 54, 95, 98, 121, 116, 101, 115])].getD rv127.1.toNat default) ((((((rv7.Funcs.getD rv15.1.toNat default).Blocks).getD rv27.1.toNat default).Stmts).getD rv59.1.toNat default).Uses) ((((((rv7.Funcs.getD rv15.1.toNat default).Blocks).getD rv27.1.toNat default).Stmts).getD rv59.1.toNat default).Targets)) (innmk_GStmt (z0 := (((((rv7.Funcs.getD rv15.1.toNat default).Blocks).getD rv27.1.toNat default).Stmts).getD rv59.1.toNat default).Op) (z1 := ([(Str.mk []), (Str.mk [120]), (Str.mk [117, 115, 101]), (Str.mk [108, 111, 110, 103, 101, 114, 95, 116, 104, 97, 110, 95, 49, 54, 95, 98, 121, 116, 101, 115])].getD rv127.1.toNat default)) (by first | omega | (unfold i64ok; omega) | (simp only [lens]; omega)) (by first | omega | (unfold i64ok; omega) | (simp only [lens]; omega)))) ?_
   refine Jl [4, 0] (Ent.closeD (A := [ds (.slice a35 (((((rv7.Funcs.getD rv15.1.toNat default).Blocks).getD rv27.1.toNat default).Stmts).length) k36) ((((((rv7.Funcs.getD rv15.1.toNat default).Blocks).getD rv27.1.toNat default).Stmts).set rv59.1.toNat (GStmt.mk ((((((rv7.Funcs.getD rv15.1.toNat default).Blocks).getD rv27.1.toNat default).Stmts).getD rv59.1.toNat default).Op) ([(Str.mk []), (Str.mk [120]), (Str.mk [117, 115, 101]), (Str.mk [108, 111, 110, 103, 101, 114, 95, 116, 104, 97, 110, 95, 49, 54, 95, 98, 121, 116, 101, 115])].getD rv127.1.toNat default) ((((((rv7.Funcs.getD rv15.1.toNat default).Blocks).getD rv27.1.toNat default).Stmts).getD rv59.1.toNat default).Uses) ((((((rv7.Funcs.getD rv15.1.toNat default).Blocks).getD rv27.1.toNat default).Stmts).getD rv59.1.toNat default).Targets))) : List GStmt)]) _ _ _ _ (GBlock.mk ((((rv7.Funcs.getD rv15.1.toNat default).Blocks).getD rv27.1.toNat default).Name) (((((rv7.Funcs.getD rv15.1.toNat default).Blocks).getD rv27.1.toNat default).Stmts).set rv59.1.toNat (GStmt.mk ((((((rv7.Funcs.getD rv15.1.toNat default).Blocks).getD rv27.1.toNat default).Stmts).getD rv59.1.toNat default).Op) ([(Str.mk []), (Str.mk [120]), (Str.mk [117, 115, 101]), (Str.mk [108, 111, 110, 103, 101, 114, 95, 116, 104, 97, 110, 95, 49, 54, 95, 98, 121, 116, 101, 115])].getD rv127.1.toNat default) ((((((rv7.Funcs.getD rv15.1.toNat default).Blocks).getD rv27.1.toNat default).Stmts).getD rv59.1.toNat default).Uses) ((((((rv7.Funcs.getD rv15.1.toNat default).Blocks).getD rv27.1.toNat default).Stmts).getD rv59.1.toNat default).Targets)))) (innmk_GBlock (z0 := (((rv7.Funcs.getD rv15.1.toNat default).Blocks).getD rv27.1.toNat default).Name) (by first | omega | (unfold i64ok; omega) | (simp only [lens]; omega)))) ?_
   refine Jl [4, 0] (Ent.closeD (A := [ds (vl a23 k24 ((rv7.Funcs.getD rv15.1.toNat default).Blocks)) ((((rv7.Funcs.getD rv15.1.toNat default).Blocks).set rv27.1.toNat (GBlock.mk ((((rv7.Funcs.getD rv15.1.toNat default).Blocks).getD rv27.1.toNat default).Name) (((((rv7.Funcs.getD rv15.1.toNat default).Blocks).getD rv27.1.toNat default).Stmts).set rv59.1.toNat (GStmt.mk ((((((rv7.Funcs.getD rv15.1.toNat default).Blocks).getD rv27.1.toNat default).Stmts).getD rv59.1.toNat default).Op) ([(Str.mk []), (Str.mk [120]), (Str.mk [117, 115, 101]), (Str.mk [108, 111, 110, 103, 101, 114, 95, 116, 104, 97, 110, 95, 49, 54, 95, 98, 121, 116, 101, 115])].getD rv127.1.toNat default) ((((((rv7.Funcs.getD rv15.1.toNat default).Blocks).getD rv27.1.toNat default).Stmts).getD rv59.1.toNat default).Uses) ((((((rv7.Funcs.getD rv15.1.toNat default).Blocks).getD rv27.1.toNat default).Stmts).getD rv59.1.toNat default).Targets))))) : List GBlock)]) _ _ _ _ (GFunc.mk ((rv7.Funcs.getD rv15.1.toNat default).Name) (((rv7.Funcs.getD rv15.1.toNat default).Blocks).set rv27.1.toNat (GBlock.mk ((((rv7.Funcs.getD rv15.1.toNat default).Blocks).getD rv27.1.toNat default).Name) (((((rv7.Funcs.getD rv15.1.toNat default).Blocks).getD rv27.1.toNat default).Stmts).set rv59.1.toNat (GStmt.mk ((((((rv7.Funcs.getD rv15.1.toNat default).Blocks).getD rv27.1.toNat default).Stmts).getD rv59.1.toNat default).Op) ([(Str.mk []), (Str.mk [120]), (Str.mk [117, 115, 101]), (Str.mk [108, 111, 110, 103, 101, 114, 95, 116, 104, 97, 110, 95, 49, 54, 95, 98, 121, 116, 101, 115])].getD rv127.1.toNat default) ((((((rv7.Funcs.getD rv15.1.toNat default).Blocks).getD rv27.1.toNat default).Stmts).getD rv59.1.toNat default).Uses) ((((((rv7.Funcs.getD rv15.1.toNat default).Blocks).getD rv27.1.toNat default).Stmts).getD rv59.1.toNat default).Targets)))))) (innmk_GFunc (z0 := (rv7.Funcs.getD rv15.1.toNat default).Name) (by first | omega | (unfold i64ok; omega) | (simp only [lens]; omega)))) ?_
   refine Jl [0] (Ent.dsF _ _) ?_
   have hq := q4 hrr ((GProgram.mk (rv7.Funcs.set rv15.1.toNat (GFunc.mk ((rv7.Funcs.getD rv15.1.toNat default).Name) (((rv7.Funcs.getD rv15.1.toNat default).Blocks).set rv27.1.toNat (GBlock.mk ((((rv7.Funcs.getD rv15.1.toNat default).Blocks).getD rv27.1.toNat default).Name) (((((rv7.Funcs.getD rv15.1.toNat default).Blocks).getD rv27.1.toNat default).Stmts).set rv59.1.toNat (GStmt.mk ((((((rv7.Funcs.getD rv15.1.toNat default).Blocks).getD rv27.1.toNat default).Stmts).getD rv59.1.toNat default).Op) ([(Str.mk []), (Str.mk [120]), (Str.mk [117, 115, 101]), (Str.mk [108, 111, 110, 103, 101, 114, 95, 116, 104, 97, 110, 95, 49, 54, 95, 98, 121, 116, 101, 115])].getD rv127.1.toNat default) ((((((rv7.Funcs.getD rv15.1.toNat default).Blocks).getD rv27.1.toNat default).Stmts).getD rv59.1.toNat default).Uses) ((((((rv7.Funcs.getD rv15.1.toNat default).Blocks).getD rv27.1.toNat default).Stmts).getD rv59.1.toNat default).Targets)))))))), rv127.2) (by simp only [Tape_SpoilProgram, h39, h73, h88, h103, h122, hg8, hg16, hg28, hg60, hg68, hg128, cs4]); subst hq
   exact Kr (vl a10 k11 rv7.Funcs) rfl (.cellN 1 rfl sh27 rfl (reads_Cl _ _) rfl .nil) [0, 3] en
 intro h122
 have g146 := ne_of_beq_false h122
 refine KS ?_
 refine Oq Veql (Oq Va (KS ?_))
 refine Kc ?_ ?_
 · intro h147
   have g148 := eq_of_beq h147
   refine JJ_openD_GStmt rv59.1.toNat 2 rfl rng fun a149 k150 a151 k152 hb153 hb154 => ?_
   unfold i64ok at hb153
   refine Fb 16 1 fun hl155 => ?_
   refine FoS 1 fun ho156 => ?_
   refine Fb 16 2 fun hl157 => ?_
   refine FoS 2 fun ho158 => ?_
   refine JK_drawK [0, 0, 2, 6, 14, 0, 62, 0, 0, 256, 768, 1792, 3840, 7936, 16382, 32766, 65534, 131071, 262143, 524287] fmix ?_
   refine Dv [] Vm (Dv [] Vm (Dv [0] (Vn 0) (Dv [0] (Vfa fo51_2 0) (Dv [0] (VldF sh40 0) (Dx [] [] [0] (fun G => (G.g 5 0)) [fun G => Cr (G.g 5 0) 2 [.string (bs (Str.mk [121])), .string (bs (Str.mk [120]))]] (fun G => xA (AsV sl40 sz40 [.string (bs (Str.mk [121])), .string (bs (Str.mk [120]))] [.string (bs (Str.mk [121])), .string (bs (Str.mk [120]))])) ?_)))))
   have hn161 := la ((((((rv7.Funcs.getD rv15.1.toNat default).Blocks).getD rv27.1.toNat default).Stmts).getD rv59.1.toNat default).Uses) ([(Str.mk [121]), (Str.mk [120])] : List Str)
   refine Dx [1, 11] [1, 11] [0] (fun G => (G.g 6 0)) [fun G => os (G.g 6 0) (((((((rv7.Funcs.getD rv15.1.toNat default).Blocks).getD rv27.1.toNat default).Stmts).getD rv59.1.toNat default).Uses ++ [(Str.mk [121]), (Str.mk [120])]) : List Str)] (fun G => xp [1] rfl (Ent.crOs (α := Str) (A := []) _ ([(Str.mk [121]), (Str.mk [120])] : List Str) _ (Nat.le_of_ble_eq_true rfl) (fun h => ⟨[.string (bs (Str.mk [121]))], [.string (bs (Str.mk [120]))], rfl, (fun _ => ⟨rfl, by first | omega | (simp; done) | (dsimp only; omega) | exact lit_bl rfl⟩) h, ⟨[.string (bs (Str.mk [120]))], [], rfl, (fun _ => ⟨rfl, by first | omega | (simp; done) | (dsimp only; omega) | exact lit_bl rfl⟩) h, rfl⟩⟩)) (xA (ApO [1, 0] sl40 sl40 sz40))) (Dv [] Vm (Dv [] Vm (Dv [0] (Vn 0) (Dv [0] (Vfa fo51_2 0) (Dv [0] (VldF sh40 0) (Dv [] (Vlen sl40) (Dv [] Vadd ?_)))))))
   refine letv (Tape_Next tT rv67.2 ((((((((rv7.Funcs.getD rv15.1.toNat default).Blocks).getD rv27.1.toNat default).Stmts).getD rv59.1.toNat default).Uses).length : Int) + 2)) fun rv162 hg163 => ?_
   refine Dx [3, 9] [3] [2, 0, 1] (fun G => vi rv162.1) [fun G => SP.fact (i64ok rv162.1 ∧ (0 ≤ rv162.2 ∧ rv162.2 ≤ (tT.length : Int)) ∧ (0 ≤ rv162.1 ∧ (rv162.1 < ((((((((rv7.Funcs.getD rv15.1.toNat default).Blocks).getD rv27.1.toNat default).Stmts).getD rv59.1.toNat default).Uses).length : Int) + 2) ∨ rv162.1 = 0))), fun G => Cl tP [vl ta tk tT, vi rv162.2]] (fun G => xC [0, 0] ca8 (fn8 tP ta tk tT rv67.2 (((((((((rv7.Funcs.getD rv15.1.toNat default).Blocks).getD rv27.1.toNat default).Stmts).getD rv59.1.toNat default).Uses).length : Int) + 2)) pre pre rv162 hg163)) ?_
   refine Dx [13] [] [0] (fun G => vi (1 + rv162.1)) [] (fun G => by refine xf 0 rfl ?_; rintro ⟨he164, he165, he166⟩; unfold i64ok at he164; exact xV (Vadd)) ?_
   refine Dx [12, 13] [12] [1, 0] (fun G => (G.g 16 0)) [fun G => os (G.g 16 0) (((((((((rv7.Funcs.getD rv15.1.toNat default).Blocks).getD rv27.1.toNat default).Stmts).getD rv59.1.toNat default).Uses ++ [(Str.mk [121]), (Str.mk [120])]).take (((1 + rv162.1) : Int).toNat)).drop 0) : List Str)] (fun G => by refine xf 1 rfl ?_; rintro ⟨he168, he169, he170⟩; unfold i64ok at he168; exact xA (AslOx [0] sl40 0 (((1 + rv162.1) : Int).toNat))) (Dv [0] (Vn 0) (Dv [0] (Vfa fo51_2 0) (Dx0 [0, 15] [0] [1, 0] [fun G => dh (.slice a35 (((((rv7.Funcs.getD rv15.1.toNat default).Blocks).getD rv27.1.toNat default).Stmts).length) k36) ((((rv7.Funcs.getD rv15.1.toNat default).Blocks).getD rv27.1.toNat default).Stmts : List GStmt) rv59.1.toNat [vi ((((((rv7.Funcs.getD rv15.1.toNat default).Blocks).getD rv27.1.toNat default).Stmts).getD rv59.1.toNat default).Op), .string (bs ((((((rv7.Funcs.getD rv15.1.toNat default).Blocks).getD rv27.1.toNat default).Stmts).getD rv59.1.toNat default).Def)), (G.g 16 0), .slice a151 (((((((rv7.Funcs.getD rv15.1.toNat default).Blocks).getD rv27.1.toNat default).Stmts).getD rv59.1.toNat default).Targets).length) k152]] (fun G => x1 1 rfl os_one fun ho171 => (xS (SoHr (α := GStmt) [0] sh40 [(G.g 16 0)] [vi ((((((rv7.Funcs.getD rv15.1.toNat default).Blocks).getD rv27.1.toNat default).Stmts).getD rv59.1.toNat default).Op), .string (bs ((((((rv7.Funcs.getD rv15.1.toNat default).Blocks).getD rv27.1.toNat default).Stmts).getD rv59.1.toNat default).Def)), (G.g 16 0), .slice a151 (((((((rv7.Funcs.getD rv15.1.toNat default).Blocks).getD rv27.1.toNat default).Stmts).getD rv59.1.toNat default).Targets).length) k152] (cells_of_one ho171) rfl (by simp only [List.all_cons, List.all_nil, ho171, Bool.and_true, Bool.true_and] <;> rfl)))) ?_)))
   refine Dn ⟨by kernel_rfl, fun G => ?_⟩
   refine Jw2 [(4, p5), (5, p13)] [2, 4, 5, 6, 7, 8, 9, 10] [SP.fact (i64ok rv162.1 ∧ (0 ≤ rv162.2 ∧ rv162.2 ≤ (tT.length : Int)) ∧ (0 ≤ rv162.1 ∧ (rv162.1 < ((((((((rv7.Funcs.getD rv15.1.toNat default).Blocks).getD rv27.1.toNat default).Stmts).getD rv59.1.toNat default).Uses).length : Int) + 2) ∨ rv162.1 = 0))), Cl tP [vl ta tk tT, vi rv162.2], os (G.g 16 0) (((((((((rv7.Funcs.getD rv15.1.toNat default).Blocks).getD rv27.1.toNat default).Stmts).getD rv59.1.toNat default).Uses ++ [(Str.mk [121]), (Str.mk [120])]).take (((1 + rv162.1) : Int).toNat)).drop 0) : List Str), dh (.slice a35 (((((rv7.Funcs.getD rv15.1.toNat default).Blocks).getD rv27.1.toNat default).Stmts).length) k36) ((((rv7.Funcs.getD rv15.1.toNat default).Blocks).getD rv27.1.toNat default).Stmts : List GStmt) rv59.1.toNat [vi ((((((rv7.Funcs.getD rv15.1.toNat default).Blocks).getD rv27.1.toNat default).Stmts).getD rv59.1.toNat default).Op), .string (bs ((((((rv7.Funcs.getD rv15.1.toNat default).Blocks).getD rv27.1.toNat default).Stmts).getD rv59.1.toNat default).Def)), (G.g 16 0), .slice a151 (((((((rv7.Funcs.getD rv15.1.toNat default).Blocks).getD rv27.1.toNat default).Stmts).getD rv59.1.toNat default).Targets).length) k152]] ?_
   generalize G.g 16 0 = c167
   refine Jf 8 rfl ?_; rintro ⟨he172, he173, he174⟩
   unfold i64ok at he172
   refine Jk [0, 0, 0, 0, 0, 0, 1, 2, 4, 4, 4] ?_
   refine Jo 9 ?_; rintro a175 k176 rfl
   refine Fb 16 9 fun hl177 => ?_
   refine FoS 9 fun ho178 => ?_
   refine KS ?_
   refine Oq (VldA sh27 3) (Ost (Scl [4] sh27 [vl a10 k11 rv7.Funcs]) (KS ?_))
   refine Jl [10, 9, 1] (Ent.closeD (A := [O a175 k176 (((((((((rv7.Funcs.getD rv15.1.toNat default).Blocks).getD rv27.1.toNat default).Stmts).getD rv59.1.toNat default).Uses ++ [(Str.mk [121]), (Str.mk [120])]).take (((1 + rv162.1) : Int).toNat)).drop 0) : List Str), O a151 k152 ((((((rv7.Funcs.getD rv15.1.toNat default).Blocks).getD rv27.1.toNat default).Stmts).getD rv59.1.toNat default).Targets)]) _ _ _ _ (GStmt.mk ((((((rv7.Funcs.getD rv15.1.toNat default).Blocks).getD rv27.1.toNat default).Stmts).getD rv59.1.toNat default).Op) ((((((rv7.Funcs.getD rv15.1.toNat default).Blocks).getD rv27.1.toNat default).Stmts).getD rv59.1.toNat default).Def) ((((((((rv7.Funcs.getD rv15.1.toNat default).Blocks).getD rv27.1.toNat default).Stmts).getD rv59.1.toNat default).Uses ++ [(Str.mk [121]), (Str.mk [120])]).take (((1 + rv162.1) : Int).toNat)).drop 0) ((((((rv7.Funcs.getD rv15.1.toNat default).Blocks).getD rv27.1.toNat default).Stmts).getD rv59.1.toNat default).Targets)) (innmk_GStmt (z0 := (((((rv7.Funcs.getD rv15.1.toNat default).Blocks).getD rv27.1.toNat default).Stmts).getD rv59.1.toNat default).Op) (z1 := (((((rv7.Funcs.getD rv15.1.toNat default).Blocks).getD rv27.1.toNat default).Stmts).getD rv59.1.toNat default).Def) (by first | omega | (unfold i64ok; omega) | (simp only [lens]; omega)) (by first | omega | (unfold i64ok; omega) | (simp only [lens]; omega)))) ?_
   refine Jl [2, 0] (Ent.closeD (A := [ds (.slice a35 (((((rv7.Funcs.getD rv15.1.toNat default).Blocks).getD rv27.1.toNat default).Stmts).length) k36) ((((((rv7.Funcs.getD rv15.1.toNat default).Blocks).getD rv27.1.toNat default).Stmts).set rv59.1.toNat (GStmt.mk ((((((rv7.Funcs.getD rv15.1.toNat default).Blocks).getD rv27.1.toNat default).Stmts).getD rv59.1.toNat default).Op) ((((((rv7.Funcs.getD rv15.1.toNat default).Blocks).getD rv27.1.toNat default).Stmts).getD rv59.1.toNat default).Def) ((((((((rv7.Funcs.getD rv15.1.toNat default).Blocks).getD rv27.1.toNat default).Stmts).getD rv59.1.toNat default).Uses ++ [(Str.mk [121]), (Str.mk [120])]).take (((1 + rv162.1) : Int).toNat)).drop 0) ((((((rv7.Funcs.getD rv15.1.toNat default).Blocks).getD rv27.1.toNat default).Stmts).getD rv59.1.toNat default).Targets))) : List GStmt)]) _ _ _ _ (GBlock.mk ((((rv7.Funcs.getD rv15.1.toNat default).Blocks).getD rv27.1.toNat default).Name) (((((rv7.Funcs.getD rv15.1.toNat default).Blocks).getD rv27.1.toNat default).Stmts).set rv59.1.toNat (GStmt.mk ((((((rv7.Funcs.getD rv15.1.toNat default).Blocks).getD rv27.1.toNat default).Stmts).getD rv59.1.toNat default).Op) ((((((rv7.Funcs.getD rv15.1.toNat default).Blocks).getD rv27.1.toNat default).Stmts).getD rv59.1.toNat default).Def) ((((((((rv7.Funcs.getD rv15.1.toNat default).Blocks).getD rv27.1.toNat default).Stmts).getD rv59.1.toNat default).Uses ++ [(Str.mk [121]), (Str.mk [120])]).take (((1 + rv162.1) : Int).toNat)).drop 0) ((((((rv7.Funcs.getD rv15.1.toNat default).Blocks).getD rv27.1.toNat default).Stmts).getD rv59.1.toNat default).Targets)))) (innmk_GBlock (z0 := (((rv7.Funcs.getD rv15.1.toNat default).Blocks).getD rv27.1.toNat default).Name) (by first | omega | (unfold i64ok; omega) | (simp only [lens]; omega)))) ?_
   refine Jl [2, 0] (Ent.closeD (A := [ds (vl a23 k24 ((rv7.Funcs.getD rv15.1.toNat default).Blocks)) ((((rv7.Funcs.getD rv15.1.toNat default).Blocks).set rv27.1.toNat (GBlock.mk ((((rv7.Funcs.getD rv15.1.toNat default).Blocks).getD rv27.1.toNat default).Name) (((((rv7.Funcs.getD rv15.1.toNat default).Blocks).getD rv27.1.toNat default).Stmts).set rv59.1.toNat (GStmt.mk ((((((rv7.Funcs.getD rv15.1.toNat default).Blocks).getD rv27.1.toNat default).Stmts).getD rv59.1.toNat default).Op) ((((((rv7.Funcs.getD rv15.1.toNat default).Blocks).getD rv27.1.toNat default).Stmts).getD rv59.1.toNat default).Def) ((((((((rv7.Funcs.getD rv15.1.toNat default).Blocks).getD rv27.1.toNat default).Stmts).getD rv59.1.toNat default).Uses ++ [(Str.mk [121]), (Str.mk [120])]).take (((1 + rv162.1) : Int).toNat)).drop 0) ((((((rv7.Funcs.getD rv15.1.toNat default).Blocks).getD rv27.1.toNat default).Stmts).getD rv59.1.toNat default).Targets))))) : List GBlock)]) _ _ _ _ (GFunc.mk ((rv7.Funcs.getD rv15.1.toNat default).Name) (((rv7.Funcs.getD rv15.1.toNat default).Blocks).set rv27.1.toNat (GBlock.mk ((((rv7.Funcs.getD rv15.1.toNat default).Blocks).getD rv27.1.toNat default).Name) (((((rv7.Funcs.getD rv15.1.toNat default).Blocks).getD rv27.1.toNat default).Stmts).set rv59.1.toNat (GStmt.mk ((((((rv7.Funcs.getD rv15.1.toNat default).Blocks).getD rv27.1.toNat default).Stmts).getD rv59.1.toNat default).Op) ((((((rv7.Funcs.getD rv15.1.toNat default).Blocks).getD rv27.1.toNat default).Stmts).getD rv59.1.toNat default).Def) ((((((((rv7.Funcs.getD rv15.1.toNat default).Blocks).getD rv27.1.toNat default).Stmts).getD rv59.1.toNat default).Uses ++ [(Str.mk [121]), (Str.mk [120])]).take (((1 + rv162.1) : Int).toNat)).drop 0) ((((((rv7.Funcs.getD rv15.1.toNat default).Blocks).getD rv27.1.toNat default).Stmts).getD rv59.1.toNat default).Targets)))))) (innmk_GFunc (z0 := (rv7.Funcs.getD rv15.1.toNat default).Name) (by first | omega | (unfold i64ok; omega) | (simp only [lens]; omega)))) ?_
   refine Jl [0] (Ent.dsF _ _) ?_
   have hq := q4 hrr ((GProgram.mk (rv7.Funcs.set rv15.1.toNat (GFunc.mk ((rv7.Funcs.getD rv15.1.toNat default).Name) (((rv7.Funcs.getD rv15.1.toNat default).Blocks).set rv27.1.toNat (GBlock.mk ((((rv7.Funcs.getD rv15.1.toNat default).Blocks).getD rv27.1.toNat default).Name) (((((rv7.Funcs.getD rv15.1.toNat default).Blocks).getD rv27.1.toNat default).Stmts).set rv59.1.toNat (GStmt.mk ((((((rv7.Funcs.getD rv15.1.toNat default).Blocks).getD rv27.1.toNat default).Stmts).getD rv59.1.toNat default).Op) ((((((rv7.Funcs.getD rv15.1.toNat default).Blocks).getD rv27.1.toNat default).Stmts).getD rv59.1.toNat default).Def) ((((((((rv7.Funcs.getD rv15.1.toNat default).Blocks).getD rv27.1.toNat default).Stmts).getD rv59.1.toNat default).Uses ++ [(Str.mk [121]), (Str.mk [120])]).take (((1 + rv162.1) : Int).toNat)).drop 0) ((((((rv7.Funcs.getD rv15.1.toNat default).Blocks).getD rv27.1.toNat default).Stmts).getD rv59.1.toNat default).Targets)))))))), rv162.2) (by simp only [Tape_SpoilProgram, h39, h73, h88, h103, h122, h147, hg8, hg16, hg28, hg60, hg68, hg163, cs4]); subst hq
   exact Kr (vl a10 k11 rv7.Funcs) rfl (.cellN 1 rfl sh27 rfl (reads_Cl _ _) rfl .nil) [0, 6] en
 intro h147
 have g179 := ne_of_beq_false h147
 refine KS ?_
 refine Oq Veql (Oq Va (KS ?_))
 refine Kc ?_ ?_
 · intro h180
   have g181 := eq_of_beq h180
   refine JJ_openD_GStmt rv59.1.toNat 2 rfl rng fun a182 k183 a184 k185 hb186 hb187 => ?_
   unfold i64ok at hb186
   refine Fb 16 1 fun hl188 => ?_
   refine FoS 1 fun ho189 => ?_
   refine Fb 16 2 fun hl190 => ?_
   refine FoS 2 fun ho191 => ?_
   refine JK_drawK [0, 0, 2, 6, 14, 0, 0, 64, 224, 480, 992, 2046, 4095, 8191, 16383] fmix ?_
   refine Dv [] Vm (Dv [] Vm (Dv [0] (Vn 0) (Dv [0] (Vfa fo51_3 0) (Dv [0] (VldF sh40 0) (Dx [] [] [0] (fun G => (G.g 5 0)) [fun G => Cr (G.g 5 0) 3 [.string (bs (Str.mk [97])), .string (bs (Str.mk [110, 111, 119, 104, 101, 114, 101])), .string (bs (Str.mk [109]))]] (fun G => xA (AsV sl40 sz40 [.string (bs (Str.mk [97])), .string (bs (Str.mk [110, 111, 119, 104, 101, 114, 101])), .string (bs (Str.mk [109]))] [.string (bs (Str.mk [97])), .string (bs (Str.mk [110, 111, 119, 104, 101, 114, 101])), .string (bs (Str.mk [109]))])) (Dv [] Vm ?_))))))
   refine letv (Tape_Next tT rv67.2 3) fun rv193 hg194 => ?_
   have hs4 := Next_r hg194 (by omega)
   refine Dx [3, 9] [3] [2, 0, 1] (fun G => vi rv193.1) [fun G => SP.fact (i64ok rv193.1 ∧ (0 ≤ rv193.2 ∧ rv193.2 ≤ (tT.length : Int)) ∧ (0 ≤ rv193.1 ∧ (rv193.1 < 3 ∨ rv193.1 = 0))), fun G => Cl tP [vl ta tk tT, vi rv193.2]] (fun G => xC [0, 0] ca8 (fn8 tP ta tk tT rv67.2 3 pre pre rv193 hg194)) ?_
   refine Dx [11, 12] [11] [1, 0] (fun G => (eptr 1 ((G.g 5 0)) rv193.1.toNat)) [fun G => os (G.g 5 0) ([(Str.mk [97]), (Str.mk [110, 111, 119, 104, 101, 114, 101]), (Str.mk [109])] : List Str)] (fun G => by refine xf 1 rfl ?_; rintro ⟨he195, he196, he197⟩; unfold i64ok at he195; exact xp [0] rfl (Ent.crOs (α := Str) (A := []) _ ([(Str.mk [97]), (Str.mk [110, 111, 119, 104, 101, 114, 101]), (Str.mk [109])] : List Str) _ (Nat.le_of_ble_eq_true rfl) (fun h => ⟨[.string (bs (Str.mk [97]))], [.string (bs (Str.mk [110, 111, 119, 104, 101, 114, 101])), .string (bs (Str.mk [109]))], rfl, (fun _ => ⟨rfl, by first | omega | (simp; done) | (dsimp only; omega) | exact lit_bl rfl⟩) h, ⟨[.string (bs (Str.mk [110, 111, 119, 104, 101, 114, 101]))], [.string (bs (Str.mk [109]))], rfl, (fun _ => ⟨rfl, by first | omega | (simp; done) | (dsimp only; omega) | exact lit_bl rfl⟩) h, ⟨[.string (bs (Str.mk [109]))], [], rfl, (fun _ => ⟨rfl, by first | omega | (simp; done) | (dsimp only; omega) | exact lit_bl rfl⟩) h, rfl⟩⟩⟩)) (xV (Vi sl40 0))) (Dv [14] (VldS sh9 0) (Dx [] [] [0] (fun G => (G.g 10 0)) [fun G => Cr (G.g 10 0) 1 [.string (bs ([(Str.mk [97]), (Str.mk [110, 111, 119, 104, 101, 114, 101]), (Str.mk [109])].getD rv193.1.toNat default))]] (fun G => xA (AsV sl40 sz40 [.string (bs ([(Str.mk [97]), (Str.mk [110, 111, 119, 104, 101, 114, 101]), (Str.mk [109])].getD rv193.1.toNat default))] [.string (bs ([(Str.mk [97]), (Str.mk [110, 111, 119, 104, 101, 114, 101]), (Str.mk [109])].getD rv193.1.toNat default))])) ?_))
   have hn200 := la ((((((rv7.Funcs.getD rv15.1.toNat default).Blocks).getD rv27.1.toNat default).Stmts).getD rv59.1.toNat default).Targets) ([([(Str.mk [97]), (Str.mk [110, 111, 119, 104, 101, 114, 101]), (Str.mk [109])].getD rv193.1.toNat default)] : List Str)
   refine Dx [2, 12, 15] [2, 15] [1, 0] (fun G => (G.g 11 0)) [fun G => os (G.g 11 0) (((((((rv7.Funcs.getD rv15.1.toNat default).Blocks).getD rv27.1.toNat default).Stmts).getD rv59.1.toNat default).Targets ++ [([(Str.mk [97]), (Str.mk [110, 111, 119, 104, 101, 114, 101]), (Str.mk [109])].getD rv193.1.toNat default)]) : List Str)] (fun G => by refine xf 1 rfl ?_; rintro ⟨he201, he202, he203⟩; unfold i64ok at he201; exact xp [2] rfl (Ent.cr1 (α := Str) (A := []) _ ([(Str.mk [97]), (Str.mk [110, 111, 119, 104, 101, 114, 101]), (Str.mk [109])].getD rv193.1.toNat default) _ (Nat.le_of_ble_eq_true rfl) (fun _ => ⟨rfl, by first | omega | (simp; done) | (dsimp only; omega) | exact lit_bl rfl⟩)) (xA (ApO [1, 0] sl40 sl40 sz40))) (Dv [0] (Vn 0) (Dv [0] (Vfa fo51_3 0) (Dx0 [0, 16] [0] [1, 0] [fun G => dh (.slice a35 (((((rv7.Funcs.getD rv15.1.toNat default).Blocks).getD rv27.1.toNat default).Stmts).length) k36) ((((rv7.Funcs.getD rv15.1.toNat default).Blocks).getD rv27.1.toNat default).Stmts : List GStmt) rv59.1.toNat [vi ((((((rv7.Funcs.getD rv15.1.toNat default).Blocks).getD rv27.1.toNat default).Stmts).getD rv59.1.toNat default).Op), .string (bs ((((((rv7.Funcs.getD rv15.1.toNat default).Blocks).getD rv27.1.toNat default).Stmts).getD rv59.1.toNat default).Def)), .slice a182 (((((((rv7.Funcs.getD rv15.1.toNat default).Blocks).getD rv27.1.toNat default).Stmts).getD rv59.1.toNat default).Uses).length) k183, (G.g 11 0)]] (fun G => x1 1 rfl os_one fun ho204 => (xS (SoHr (α := GStmt) [0] sh40 [(G.g 11 0)] [vi ((((((rv7.Funcs.getD rv15.1.toNat default).Blocks).getD rv27.1.toNat default).Stmts).getD rv59.1.toNat default).Op), .string (bs ((((((rv7.Funcs.getD rv15.1.toNat default).Blocks).getD rv27.1.toNat default).Stmts).getD rv59.1.toNat default).Def)), .slice a182 (((((((rv7.Funcs.getD rv15.1.toNat default).Blocks).getD rv27.1.toNat default).Stmts).getD rv59.1.toNat default).Uses).length) k183, (G.g 11 0)] (cells_of_one ho204) rfl (by simp only [List.all_cons, List.all_nil, ho204, Bool.and_true, Bool.true_and] <;> rfl)))) ?_)))
   refine Dn ⟨by kernel_rfl, fun G => ?_⟩
   refine Jw2 [(4, p5), (5, p13)] [1, 4, 5, 6, 7, 8, 9, 10] [SP.fact (i64ok rv193.1 ∧ (0 ≤ rv193.2 ∧ rv193.2 ≤ (tT.length : Int)) ∧ (0 ≤ rv193.1 ∧ (rv193.1 < 3 ∨ rv193.1 = 0))), Cl tP [vl ta tk tT, vi rv193.2], os (G.g 5 0) ([(Str.mk [97]), (Str.mk [110, 111, 119, 104, 101, 114, 101]), (Str.mk [109])] : List Str), os (G.g 11 0) (((((((rv7.Funcs.getD rv15.1.toNat default).Blocks).getD rv27.1.toNat default).Stmts).getD rv59.1.toNat default).Targets ++ [([(Str.mk [97]), (Str.mk [110, 111, 119, 104, 101, 114, 101]), (Str.mk [109])].getD rv193.1.toNat default)]) : List Str), dh (.slice a35 (((((rv7.Funcs.getD rv15.1.toNat default).Blocks).getD rv27.1.toNat default).Stmts).length) k36) ((((rv7.Funcs.getD rv15.1.toNat default).Blocks).getD rv27.1.toNat default).Stmts : List GStmt) rv59.1.toNat [vi ((((((rv7.Funcs.getD rv15.1.toNat default).Blocks).getD rv27.1.toNat default).Stmts).getD rv59.1.toNat default).Op), .string (bs ((((((rv7.Funcs.getD rv15.1.toNat default).Blocks).getD rv27.1.toNat default).Stmts).getD rv59.1.toNat default).Def)), .slice a182 (((((((rv7.Funcs.getD rv15.1.toNat default).Blocks).getD rv27.1.toNat default).Stmts).getD rv59.1.toNat default).Uses).length) k183, (G.g 11 0)]] ?_
   generalize G.g 5 0 = c192, G.g 11 0 = c199
   refine Jf 8 rfl ?_; rintro ⟨he205, he206, he207⟩
   unfold i64ok at he205
   refine Jk [0, 0, 0, 0, 0, 0, 1, 2, 4, 4, 4, 4] ?_
   refine Jo 9 ?_; rintro a208 k209 rfl
   refine Fb 16 9 fun hl210 => ?_
   refine FoS 9 fun ho211 => ?_
   refine Jo 10 ?_; rintro a212 k213 rfl
   refine Fb 16 10 fun hl214 => ?_
   refine FoS 10 fun ho215 => ?_
   refine KS ?_
   refine Oq (VldA sh27 3) (Ost (Scl [4] sh27 [vl a10 k11 rv7.Funcs]) (KS ?_))
   refine Jl [11, 1, 9] (Ent.closeD (A := [O a182 k183 ((((((rv7.Funcs.getD rv15.1.toNat default).Blocks).getD rv27.1.toNat default).Stmts).getD rv59.1.toNat default).Uses), O a212 k213 (((((((rv7.Funcs.getD rv15.1.toNat default).Blocks).getD rv27.1.toNat default).Stmts).getD rv59.1.toNat default).Targets ++ [([(Str.mk [97]), (Str.mk [110, 111, 119, 104, 101, 114, 101]), (Str.mk [109])].getD rv193.1.toNat default)]) : List Str)]) _ _ _ _ (GStmt.mk ((((((rv7.Funcs.getD rv15.1.toNat default).Blocks).getD rv27.1.toNat default).Stmts).getD rv59.1.toNat default).Op) ((((((rv7.Funcs.getD rv15.1.toNat default).Blocks).getD rv27.1.toNat default).Stmts).getD rv59.1.toNat default).Def) ((((((rv7.Funcs.getD rv15.1.toNat default).Blocks).getD rv27.1.toNat default).Stmts).getD rv59.1.toNat default).Uses) ((((((rv7.Funcs.getD rv15.1.toNat default).Blocks).getD rv27.1.toNat default).Stmts).getD rv59.1.toNat default).Targets ++ [([(Str.mk [97]), (Str.mk [110, 111, 119, 104, 101, 114, 101]), (Str.mk [109])].getD rv193.1.toNat default)])) (innmk_GStmt (z0 := (((((rv7.Funcs.getD rv15.1.toNat default).Blocks).getD rv27.1.toNat default).Stmts).getD rv59.1.toNat default).Op) (z1 := (((((rv7.Funcs.getD rv15.1.toNat default).Blocks).getD rv27.1.toNat default).Stmts).getD rv59.1.toNat default).Def) (by first | omega | (unfold i64ok; omega) | (simp only [lens]; omega)) (by first | omega | (unfold i64ok; omega) | (simp only [lens]; omega)))) ?_
   refine Jl [2, 0] (Ent.closeD (A := [ds (.slice a35 (((((rv7.Funcs.getD rv15.1.toNat default).Blocks).getD rv27.1.toNat default).Stmts).length) k36) ((((((rv7.Funcs.getD rv15.1.toNat default).Blocks).getD rv27.1.toNat default).Stmts).set rv59.1.toNat (GStmt.mk ((((((rv7.Funcs.getD rv15.1.toNat default).Blocks).getD rv27.1.toNat default).Stmts).getD rv59.1.toNat default).Op) ((((((rv7.Funcs.getD rv15.1.toNat default).Blocks).getD rv27.1.toNat default).Stmts).getD rv59.1.toNat default).Def) ((((((rv7.Funcs.getD rv15.1.toNat default).Blocks).getD rv27.1.toNat default).Stmts).getD rv59.1.toNat default).Uses) ((((((rv7.Funcs.getD rv15.1.toNat default).Blocks).getD rv27.1.toNat default).Stmts).getD rv59.1.toNat default).Targets ++ [([(Str.mk [97]), (Str.mk [110, 111, 119, 104, 101, 114, 101]), (Str.mk [109])].getD rv193.1.toNat default)]))) : List GStmt)]) _ _ _ _ (GBlock.mk ((((rv7.Funcs.getD rv15.1.toNat default).Blocks).getD rv27.1.toNat default).Name) (((((rv7.Funcs.getD rv15.1.toNat default).Blocks).getD rv27.1.toNat default).Stmts).set rv59.1.toNat (GStmt.mk ((((((rv7.Funcs.getD rv15.1.toNat default).Blocks).getD rv27.1.toNat default).Stmts).getD rv59.1.toNat default).Op) ((((((rv7.Funcs.getD rv15.1.toNat default).Blocks).getD rv27.1.toNat default).Stmts).getD rv59.1.toNat default).Def) ((((((rv7.Funcs.getD rv15.1.toNat default).Blocks).getD rv27.1.toNat default).Stmts).getD rv59.1.toNat default).Uses) ((((((rv7.Funcs.getD rv15.1.toNat default).Blocks).getD rv27.1.toNat default).Stmts).getD rv59.1.toNat default).Targets ++ [([(Str.mk [97]), (Str.mk [110, 111, 119, 104, 101, 114, 101]), (Str.mk [109])].getD rv193.1.toNat default)])))) (innmk_GBlock (z0 := (((rv7.Funcs.getD rv15.1.toNat default).Blocks).getD rv27.1.toNat default).Name) (by first | omega | (unfold i64ok; omega) | (simp only [lens]; omega)))) ?_
   refine Jl [2, 0] (Ent.closeD (A := [ds (vl a23 k24 ((rv7.Funcs.getD rv15.1.toNat default).Blocks)) ((((rv7.Funcs.getD rv15.1.toNat default).Blocks).set rv27.1.toNat (GBlock.mk ((((rv7.Funcs.getD rv15.1.toNat default).Blocks).getD rv27.1.toNat default).Name) (((((rv7.Funcs.getD rv15.1.toNat default).Blocks).getD rv27.1.toNat default).Stmts).set rv59.1.toNat (GStmt.mk ((((((rv7.Funcs.getD rv15.1.toNat default).Blocks).getD rv27.1.toNat default).Stmts).getD rv59.1.toNat default).Op) ((((((rv7.Funcs.getD rv15.1.toNat default).Blocks).getD rv27.1.toNat default).Stmts).getD rv59.1.toNat default).Def) ((((((rv7.Funcs.getD rv15.1.toNat default).Blocks).getD rv27.1.toNat default).Stmts).getD rv59.1.toNat default).Uses) ((((((rv7.Funcs.getD rv15.1.toNat default).Blocks).getD rv27.1.toNat default).Stmts).getD rv59.1.toNat default).Targets ++ [([(Str.mk [97]), (Str.mk [110, 111, 119, 104, 101, 114, 101]), (Str.mk [109])].getD rv193.1.toNat default)]))))) : List GBlock)]) _ _ _ _ (GFunc.mk ((rv7.Funcs.getD rv15.1.toNat default).Name) (((rv7.Funcs.getD rv15.1.toNat default).Blocks).set rv27.1.toNat (GBlock.mk ((((rv7.Funcs.getD rv15.1.toNat default).Blocks).getD rv27.1.toNat default).Name) (((((rv7.Funcs.getD rv15.1.toNat default).Blocks).getD rv27.1.toNat default).Stmts).set rv59.1.toNat (GStmt.mk ((((((rv7.Funcs.getD rv15.1.toNat default).Blocks).getD rv27.1.toNat default).Stmts).getD rv59.1.toNat default).Op) ((((((rv7.Funcs.getD rv15.1.toNat default).Blocks).getD rv27.1.toNat default).Stmts).getD rv59.1.toNat default).Def) ((((((rv7.Funcs.getD rv15.1.toNat default).Blocks).getD rv27.1.toNat default).Stmts).getD rv59.1.toNat default).Uses) ((((((rv7.Funcs.getD rv15.1.toNat default).Blocks).getD rv27.1.toNat default).Stmts).getD rv59.1.toNat default).Targets ++ [([(Str.mk [97]), (Str.mk [110, 111, 119, 104, 101, 114, 101]), (Str.mk [109])].getD rv193.1.toNat default)])))))) (innmk_GFunc (z0 := (rv7.Funcs.getD rv15.1.toNat default).Name) (by first | omega | (unfold i64ok; omega) | (simp only [lens]; omega)))) ?_
   refine Jl [0] (Ent.dsF _ _) ?_
   have hq := q4 hrr ((GProgram.mk (rv7.Funcs.set rv15.1.toNat (GFunc.mk ((rv7.Funcs.getD rv15.1.toNat default).Name) (((rv7.Funcs.getD rv15.1.toNat default).Blocks).set rv27.1.toNat (GBlock.mk ((((rv7.Funcs.getD rv15.1.toNat default).Blocks).getD rv27.1.toNat default).Name) (((((rv7.Funcs.getD rv15.1.toNat default).Blocks).getD rv27.1.toNat default).Stmts).set rv59.1.toNat (GStmt.mk ((((((rv7.Funcs.getD rv15.1.toNat default).Blocks).getD rv27.1.toNat default).Stmts).getD rv59.1.toNat default).Op) ((((((rv7.Funcs.getD rv15.1.toNat default).Blocks).getD rv27.1.toNat default).Stmts).getD rv59.1.toNat default).Def) ((((((rv7.Funcs.getD rv15.1.toNat default).Blocks).getD rv27.1.toNat default).Stmts).getD rv59.1.toNat default).Uses) ((((((rv7.Funcs.getD rv15.1.toNat default).Blocks).getD rv27.1.toNat default).Stmts).getD rv59.1.toNat default).Targets ++ [([(Str.mk [97]), (Str.mk [110, 111, 119, 104, 101, 114, 101]), (Str.mk [109])].getD rv193.1.toNat default)])))))))), rv193.2) (by simp only [Tape_SpoilProgram, h39, h73, h88, h103, h122, h147, h180, hg8, hg16, hg28, hg60, hg68, hg194, cs4]); subst hq
   exact Kr (vl a10 k11 rv7.Funcs) rfl (.cellN 1 rfl sh27 rfl (reads_Cl _ _) rfl .nil) [0, 6] en
 intro h180
 have g216 := ne_of_beq_false h180
 refine KS ?_
 refine Oq Veql (Oq Va (KS ?_))
 refine Kc ?_ ?_
 · intro h217
   have g218 := eq_of_beq h217
   refine KS ?_
   refine Oq Vm ?_
   refine JJ_openD_GStmt rv59.1.toNat 2 rfl rng fun a219 k220 a221 k222 hb223 hb224 => ?_
   unfold i64ok at hb223
   refine Fb 16 1 fun hl225 => ?_
   refine FoS 1 fun ho226 => ?_
   refine Fb 16 2 fun hl227 => ?_
   refine FoS 2 fun ho228 => ?_
   refine Oq (Vn 0) (Oq (Vfa fo51_3 0) (Oq (VldF sh40 0) (Oq (Vlen sl40) (Oq Vgtr (KS ?_)))))
   refine Kc ?_ ?_
   · intro h229
     have g230 := of_decide_eq_true h229
     refine JK_drawK [0, 1, 3, 7, 0, 0, 32, 112, 240, 511, 1023] fmix ?_
     refine Dv [] Vm (Dv [0] (Vn 0) (Dv [0] (Vfa fo51_3 0) (Dv [0] (VldF sh40 0) (Dx [] [] [0] (fun G => (G.g 4 0)) [fun G => Cr (G.g 4 0) 4 [.string (bs (Str.mk [110, 111, 119, 104, 101, 114, 101])), .string (bs (Str.mk [97])), .string (bs (Str.mk [99])), .string (bs (Str.mk [103]))]] (fun G => xA (AsV sl40 sz40 [.string (bs (Str.mk [110, 111, 119, 104, 101, 114, 101])), .string (bs (Str.mk [97])), .string (bs (Str.mk [99])), .string (bs (Str.mk [103]))] [.string (bs (Str.mk [110, 111, 119, 104, 101, 114, 101])), .string (bs (Str.mk [97])), .string (bs (Str.mk [99])), .string (bs (Str.mk [103]))])) (Dv [] Vm ?_)))))
     refine letv (Tape_Next tT rv67.2 4) fun rv232 hg233 => ?_
     have hs4 := Next_r hg233 (by omega)
     refine Dx [3, 9] [3] [2, 0, 1] (fun G => vi rv232.1) [fun G => SP.fact (i64ok rv232.1 ∧ (0 ≤ rv232.2 ∧ rv232.2 ≤ (tT.length : Int)) ∧ (0 ≤ rv232.1 ∧ (rv232.1 < 4 ∨ rv232.1 = 0))), fun G => Cl tP [vl ta tk tT, vi rv232.2]] (fun G => xC [0, 0] ca8 (fn8 tP ta tk tT rv67.2 4 pre pre rv232 hg233)) ?_
     refine Dx [11, 12] [11] [1, 0] (fun G => (eptr 1 ((G.g 4 0)) rv232.1.toNat)) [fun G => os (G.g 4 0) ([(Str.mk [110, 111, 119, 104, 101, 114, 101]), (Str.mk [97]), (Str.mk [99]), (Str.mk [103])] : List Str)] (fun G => by refine xf 1 rfl ?_; rintro ⟨he234, he235, he236⟩; unfold i64ok at he234; exact xp [0] rfl (Ent.crOs (α := Str) (A := []) _ ([(Str.mk [110, 111, 119, 104, 101, 114, 101]), (Str.mk [97]), (Str.mk [99]), (Str.mk [103])] : List Str) _ (Nat.le_of_ble_eq_true rfl) (fun h => ⟨[.string (bs (Str.mk [110, 111, 119, 104, 101, 114, 101]))], [.string (bs (Str.mk [97])), .string (bs (Str.mk [99])), .string (bs (Str.mk [103]))], rfl, (fun _ => ⟨rfl, by first | omega | (simp; done) | (dsimp only; omega) | exact lit_bl rfl⟩) h, ⟨[.string (bs (Str.mk [97]))], [.string (bs (Str.mk [99])), .string (bs (Str.mk [103]))], rfl, (fun _ => ⟨rfl, by first | omega | (simp; done) | (dsimp only; omega) | exact lit_bl rfl⟩) h, ⟨[.string (bs (Str.mk [99]))], [.string (bs (Str.mk [103]))], rfl, (fun _ => ⟨rfl, by first | omega | (simp; done) | (dsimp only; omega) | exact lit_bl rfl⟩) h, ⟨[.string (bs (Str.mk [103]))], [], rfl, (fun _ => ⟨rfl, by first | omega | (simp; done) | (dsimp only; omega) | exact lit_bl rfl⟩) h, rfl⟩⟩⟩⟩)) (xV (Vi sl40 0))) (Dv [14] (VldS sh9 0) ?_)
     refine Dx [2, 12] [] [0, 0] (fun G => (eptr 1 (.slice a221 (((((((rv7.Funcs.getD rv15.1.toNat default).Blocks).getD rv27.1.toNat default).Stmts).getD rv59.1.toNat default).Targets).length) k222) (0 : Int).toNat)) [] (fun G => by refine xf 1 rfl ?_; rintro ⟨he237, he238, he239⟩; unfold i64ok at he237; exact xV (Vi sl40 0)) ?_
     refine Dx0 [2, 12] [2] [1, 0] [fun G => os (.slice a221 (((((((rv7.Funcs.getD rv15.1.toNat default).Blocks).getD rv27.1.toNat default).Stmts).getD rv59.1.toNat default).Targets).length) k222) ((((((((rv7.Funcs.getD rv15.1.toNat default).Blocks).getD rv27.1.toNat default).Stmts).getD rv59.1.toNat default).Targets).set (0 : Int).toNat ([(Str.mk [110, 111, 119, 104, 101, 114, 101]), (Str.mk [97]), (Str.mk [99]), (Str.mk [103])].getD rv232.1.toNat default)) : List Str)] (fun G => by refine xf 1 rfl ?_; rintro ⟨he240, he241, he242⟩; unfold i64ok at he240; exact xS (So (Rs := []) [0] sh9 ([(Str.mk [110, 111, 119, 104, 101, 114, 101]), (Str.mk [97]), (Str.mk [99]), (Str.mk [103])].getD rv232.1.toNat default) (fun _ => ⟨rfl, by first | omega | (simp; done) | (dsimp only; omega) | exact lit_bl rfl⟩))) ?_
     refine Dn ⟨by kernel_rfl, fun G => ?_⟩
     refine Jw2 [(4, p5), (5, p13)] [0, 1, 4, 5, 6, 7, 8, 9, 10] [SP.fact (i64ok rv232.1 ∧ (0 ≤ rv232.2 ∧ rv232.2 ≤ (tT.length : Int)) ∧ (0 ≤ rv232.1 ∧ (rv232.1 < 4 ∨ rv232.1 = 0))), Cl tP [vl ta tk tT, vi rv232.2], os (G.g 4 0) ([(Str.mk [110, 111, 119, 104, 101, 114, 101]), (Str.mk [97]), (Str.mk [99]), (Str.mk [103])] : List Str), os (.slice a221 (((((((rv7.Funcs.getD rv15.1.toNat default).Blocks).getD rv27.1.toNat default).Stmts).getD rv59.1.toNat default).Targets).length) k222) ((((((((rv7.Funcs.getD rv15.1.toNat default).Blocks).getD rv27.1.toNat default).Stmts).getD rv59.1.toNat default).Targets).set (0 : Int).toNat ([(Str.mk [110, 111, 119, 104, 101, 114, 101]), (Str.mk [97]), (Str.mk [99]), (Str.mk [103])].getD rv232.1.toNat default)) : List Str)] ?_
     generalize G.g 4 0 = c231
     refine Jf 9 rfl ?_; rintro ⟨he243, he244, he245⟩
     unfold i64ok at he243
     refine Jk [0, 0, 0, 0, 0, 0, 0, 1, 2, 4, 4, 4] ?_
     refine Jo 10 ?_; rintro a246 k247 rfl
     refine Fb 16 10 fun hl248 => ?_
     refine FoS 10 fun ho249 => ?_
     refine KS ?_
     refine Oq (VldA sh27 4) (Ost (Scl [5] sh27 [vl a10 k11 rv7.Funcs]) (KS ?_))
     refine Jl [1, 1, 9] (Ent.closeD (A := [O a219 k220 ((((((rv7.Funcs.getD rv15.1.toNat default).Blocks).getD rv27.1.toNat default).Stmts).getD rv59.1.toNat default).Uses), os (.slice a221 (((((((rv7.Funcs.getD rv15.1.toNat default).Blocks).getD rv27.1.toNat default).Stmts).getD rv59.1.toNat default).Targets).length) k222) ((((((((rv7.Funcs.getD rv15.1.toNat default).Blocks).getD rv27.1.toNat default).Stmts).getD rv59.1.toNat default).Targets).set (0 : Int).toNat ([(Str.mk [110, 111, 119, 104, 101, 114, 101]), (Str.mk [97]), (Str.mk [99]), (Str.mk [103])].getD rv232.1.toNat default)) : List Str)]) _ _ _ _ (GStmt.mk ((((((rv7.Funcs.getD rv15.1.toNat default).Blocks).getD rv27.1.toNat default).Stmts).getD rv59.1.toNat default).Op) ((((((rv7.Funcs.getD rv15.1.toNat default).Blocks).getD rv27.1.toNat default).Stmts).getD rv59.1.toNat default).Def) ((((((rv7.Funcs.getD rv15.1.toNat default).Blocks).getD rv27.1.toNat default).Stmts).getD rv59.1.toNat default).Uses) (((((((rv7.Funcs.getD rv15.1.toNat default).Blocks).getD rv27.1.toNat default).Stmts).getD rv59.1.toNat default).Targets).set (0 : Int).toNat ([(Str.mk [110, 111, 119, 104, 101, 114, 101]), (Str.mk [97]), (Str.mk [99]), (Str.mk [103])].getD rv232.1.toNat default))) (innmk_GStmt (z0 := (((((rv7.Funcs.getD rv15.1.toNat default).Blocks).getD rv27.1.toNat default).Stmts).getD rv59.1.toNat default).Op) (z1 := (((((rv7.Funcs.getD rv15.1.toNat default).Blocks).getD rv27.1.toNat default).Stmts).getD rv59.1.toNat default).Def) (by first | omega | (unfold i64ok; omega) | (simp only [lens]; omega)) (by first | omega | (unfold i64ok; omega) | (simp only [lens]; omega)))) ?_
     refine Jl [2, 0] (Ent.closeD (A := [ds (.slice a35 (((((rv7.Funcs.getD rv15.1.toNat default).Blocks).getD rv27.1.toNat default).Stmts).length) k36) ((((((rv7.Funcs.getD rv15.1.toNat default).Blocks).getD rv27.1.toNat default).Stmts).set rv59.1.toNat (GStmt.mk ((((((rv7.Funcs.getD rv15.1.toNat default).Blocks).getD rv27.1.toNat default).Stmts).getD rv59.1.toNat default).Op) ((((((rv7.Funcs.getD rv15.1.toNat default).Blocks).getD rv27.1.toNat default).Stmts).getD rv59.1.toNat default).Def) ((((((rv7.Funcs.getD rv15.1.toNat default).Blocks).getD rv27.1.toNat default).Stmts).getD rv59.1.toNat default).Uses) (((((((rv7.Funcs.getD rv15.1.toNat default).Blocks).getD rv27.1.toNat default).Stmts).getD rv59.1.toNat default).Targets).set (0 : Int).toNat ([(Str.mk [110, 111, 119, 104, 101, 114, 101]), (Str.mk [97]), (Str.mk [99]), (Str.mk [103])].getD rv232.1.toNat default)))) : List GStmt)]) _ _ _ _ (GBlock.mk ((((rv7.Funcs.getD rv15.1.toNat default).Blocks).getD rv27.1.toNat default).Name) (((((rv7.Funcs.getD rv15.1.toNat default).Blocks).getD rv27.1.toNat default).Stmts).set rv59.1.toNat (GStmt.mk ((((((rv7.Funcs.getD rv15.1.toNat default).Blocks).getD rv27.1.toNat default).Stmts).getD rv59.1.toNat default).Op) ((((((rv7.Funcs.getD rv15.1.toNat default).Blocks).getD rv27.1.toNat default).Stmts).getD rv59.1.toNat default).Def) ((((((rv7.Funcs.getD rv15.1.toNat default).Blocks).getD rv27.1.toNat default).Stmts).getD rv59.1.toNat default).Uses) (((((((rv7.Funcs.getD rv15.1.toNat default).Blocks).getD rv27.1.toNat default).Stmts).getD rv59.1.toNat default).Targets).set (0 : Int).toNat ([(Str.mk [110, 111, 119, 104, 101, 114, 101]), (Str.mk [97]), (Str.mk [99]), (Str.mk [103])].getD rv232.1.toNat default))))) (innmk_GBlock (z0 := (((rv7.Funcs.getD rv15.1.toNat default).Blocks).getD rv27.1.toNat default).Name) (by first | omega | (unfold i64ok; omega) | (simp only [lens]; omega)))) ?_
     refine Jl [2, 0] (Ent.closeD (A := [ds (vl a23 k24 ((rv7.Funcs.getD rv15.1.toNat default).Blocks)) ((((rv7.Funcs.getD rv15.1.toNat default).Blocks).set rv27.1.toNat (GBlock.mk ((((rv7.Funcs.getD rv15.1.toNat default).Blocks).getD rv27.1.toNat default).Name) (((((rv7.Funcs.getD rv15.1.toNat default).Blocks).getD rv27.1.toNat default).Stmts).set rv59.1.toNat (GStmt.mk ((((((rv7.Funcs.getD rv15.1.toNat default).Blocks).getD rv27.1.toNat default).Stmts).getD rv59.1.toNat default).Op) ((((((rv7.Funcs.getD rv15.1.toNat default).Blocks).getD rv27.1.toNat default).Stmts).getD rv59.1.toNat default).Def) ((((((rv7.Funcs.getD rv15.1.toNat default).Blocks).getD rv27.1.toNat default).Stmts).getD rv59.1.toNat default).Uses) (((((((rv7.Funcs.getD rv15.1.toNat default).Blocks).getD rv27.1.toNat default).Stmts).getD rv59.1.toNat default).Targets).set (0 : Int).toNat ([(Str.mk [110, 111, 119, 104, 101, 114, 101]), (Str.mk [97]), (Str.mk [99]), (Str.mk [103])].getD rv232.1.toNat default)))))) : List GBlock)]) _ _ _ _ (GFunc.mk ((rv7.Funcs.getD rv15.1.toNat default).Name) (((rv7.Funcs.getD rv15.1.toNat default).Blocks).set rv27.1.toNat (GBlock.mk ((((rv7.Funcs.getD rv15.1.toNat default).Blocks).getD rv27.1.toNat default).Name) (((((rv7.Funcs.getD rv15.1.toNat default).Blocks).getD rv27.1.toNat default).Stmts).set rv59.1.toNat (GStmt.mk ((((((rv7.Funcs.getD rv15.1.toNat default).Blocks).getD rv27.1.toNat default).Stmts).getD rv59.1.toNat default).Op) ((((((rv7.Funcs.getD rv15.1.toNat default).Blocks).getD rv27.1.toNat default).Stmts).getD rv59.1.toNat default).Def) ((((((rv7.Funcs.getD rv15.1.toNat default).Blocks).getD rv27.1.toNat default).Stmts).getD rv59.1.toNat default).Uses) (((((((rv7.Funcs.getD rv15.1.toNat default).Blocks).getD rv27.1.toNat default).Stmts).getD rv59.1.toNat default).Targets).set (0 : Int).toNat ([(Str.mk [110, 111, 119, 104, 101, 114, 101]), (Str.mk [97]), (Str.mk [99]), (Str.mk [103])].getD rv232.1.toNat default))))))) (innmk_GFunc (z0 := (rv7.Funcs.getD rv15.1.toNat default).Name) (by first | omega | (unfold i64ok; omega) | (simp only [lens]; omega)))) ?_
     refine Jl [0] (Ent.dsF _ _) ?_
     have hq := q4 hrr ((GProgram.mk (rv7.Funcs.set rv15.1.toNat (GFunc.mk ((rv7.Funcs.getD rv15.1.toNat default).Name) (((rv7.Funcs.getD rv15.1.toNat default).Blocks).set rv27.1.toNat (GBlock.mk ((((rv7.Funcs.getD rv15.1.toNat default).Blocks).getD rv27.1.toNat default).Name) (((((rv7.Funcs.getD rv15.1.toNat default).Blocks).getD rv27.1.toNat default).Stmts).set rv59.1.toNat (GStmt.mk ((((((rv7.Funcs.getD rv15.1.toNat default).Blocks).getD rv27.1.toNat default).Stmts).getD rv59.1.toNat default).Op) ((((((rv7.Funcs.getD rv15.1.toNat default).Blocks).getD rv27.1.toNat default).Stmts).getD rv59.1.toNat default).Def) ((((((rv7.Funcs.getD rv15.1.toNat default).Blocks).getD rv27.1.toNat default).Stmts).getD rv59.1.toNat default).Uses) (((((((rv7.Funcs.getD rv15.1.toNat default).Blocks).getD rv27.1.toNat default).Stmts).getD rv59.1.toNat default).Targets).set (0 : Int).toNat ([(Str.mk [110, 111, 119, 104, 101, 114, 101]), (Str.mk [97]), (Str.mk [99]), (Str.mk [103])].getD rv232.1.toNat default))))))))), rv232.2) (by simp only [Tape_SpoilProgram, h39, h73, h88, h103, h122, h147, h180, h217, h229, hg8, hg16, hg28, hg60, hg68, hg233, cs4]); subst hq
     exact Kr (vl a10 k11 rv7.Funcs) rfl (.cellN 1 rfl sh27 rfl (reads_Cl _ _) rfl .nil) [0, 6] en
   intro h229
   have g250 := of_decide_eq_false h229
   refine KS ?_
   refine Oq (VldA sh27 6) (Ost (Scl [7] sh27 [vl a10 k11 rv7.Funcs]) (KS ?_))
   refine Jl [1, 1, 1] (Ent.closeS (A := [O a219 k220 ((((((rv7.Funcs.getD rv15.1.toNat default).Blocks).getD rv27.1.toNat default).Stmts).getD rv59.1.toNat default).Uses), O a221 k222 ((((((rv7.Funcs.getD rv15.1.toNat default).Blocks).getD rv27.1.toNat default).Stmts).getD rv59.1.toNat default).Targets)]) _ _ _ _ default (innmk_GStmt (z0 := (((((rv7.Funcs.getD rv15.1.toNat default).Blocks).getD rv27.1.toNat default).Stmts).getD rv59.1.toNat default).Op) (z1 := (((((rv7.Funcs.getD rv15.1.toNat default).Blocks).getD rv27.1.toNat default).Stmts).getD rv59.1.toNat default).Def) (by first | omega | (unfold i64ok; omega) | (simp only [lens]; omega)) (by first | omega | (unfold i64ok; omega) | (simp only [lens]; omega)))) ?_
   refine Jl [3, 0] (Ent.closeS (A := [D a35 k36 ((((rv7.Funcs.getD rv15.1.toNat default).Blocks).getD rv27.1.toNat default).Stmts)]) _ _ _ _ default (innmk_GBlock (z0 := (((rv7.Funcs.getD rv15.1.toNat default).Blocks).getD rv27.1.toNat default).Name) (by first | omega | (unfold i64ok; omega) | (simp only [lens]; omega)))) ?_
   refine Jl [3, 0] (Ent.closeS (A := [D a23 k24 ((rv7.Funcs.getD rv15.1.toNat default).Blocks)]) _ _ _ _ default (innmk_GFunc (z0 := (rv7.Funcs.getD rv15.1.toNat default).Name) (by first | omega | (unfold i64ok; omega) | (simp only [lens]; omega)))) ?_
   refine Jl [0] (Ent.dsF _ _) ?_
   have hq := q4 hrr (rv7, rv67.2) (by simp only [Tape_SpoilProgram, h39, h73, h88, h103, h122, h147, h180, h217, h229, hg8, hg16, hg28, hg60, hg68, cs4]); subst hq
   exact Kr (vl a10 k11 rv7.Funcs) rfl (.cellN 1 rfl sh27 rfl (reads_Cl _ _) rfl .nil) [0, 2] en
 intro h217
 have g251 := ne_of_beq_false h217
 refine KS ?_
 refine Oq Veql (Oq Va (KS ?_))
 refine Kc ?_ ?_
 · intro h252
   have g253 := eq_of_beq h252
   refine JK_drawK [0, 0, 2, 6, 14, 0, 32, 96, 224, 480, 992, 2046, 4095, 8191, 16383] fmix ?_
   refine Dv [] Vm (Dv [] Vm (Dv [1] (Vn 0) (Dv [1] (Vfa fo49_1 0) (Dv [1] (VldF sh47 0) (Dv [] Vm (Dv [1] (Vn 0) (Dv [1] (Vfa fo49_1 0) (Dv [1] (VldF sh47 0) (Dv [] (Vlen sl47) ?_)))))))))
   refine Dv [] Vsub (Dx [2] [2] [0] (fun G => (G.g 11 0)) [fun G => ds (G.g 11 0) ((((((rv7.Funcs.getD rv15.1.toNat default).Blocks).getD rv27.1.toNat default).Stmts).take ((((((((rv7.Funcs.getD rv15.1.toNat default).Blocks).getD rv27.1.toNat default).Stmts).length : Int) - 1) : Int).toNat)).drop 0)] (fun G => xA (AslD [0] sl47 0 ((((((((rv7.Funcs.getD rv15.1.toNat default).Blocks).getD rv27.1.toNat default).Stmts).length : Int) - 1) : Int).toNat))) (Dv [1] (Vn 0) (Dv [1] (Vfa fo49_1 0) (Dx0 [1, 9] [1] [1, 0] [fun G => dh (vl a23 k24 ((rv7.Funcs.getD rv15.1.toNat default).Blocks)) ((rv7.Funcs.getD rv15.1.toNat default).Blocks : List GBlock) rv27.1.toNat [.string (bs ((((rv7.Funcs.getD rv15.1.toNat default).Blocks).getD rv27.1.toNat default).Name)), (G.g 11 0)]] (fun G => x1 1 rfl ds_one fun ho255 => (xS (SoHr (α := GBlock) [0] sh47 [(G.g 11 0)] [.string (bs ((((rv7.Funcs.getD rv15.1.toNat default).Blocks).getD rv27.1.toNat default).Name)), (G.g 11 0)] (cells_of_one ho255) rfl (by simp only [List.all_cons, List.all_nil, ho255, Bool.and_true, Bool.true_and] <;> rfl)))) ?_))))
   refine Dn ⟨by kernel_rfl, fun G => ?_⟩
   refine Jw2 [(4, p5), (5, p13)] [0, 3, 4, 5, 6, 7, 8] [ds (G.g 11 0) ((((((rv7.Funcs.getD rv15.1.toNat default).Blocks).getD rv27.1.toNat default).Stmts).take ((((((((rv7.Funcs.getD rv15.1.toNat default).Blocks).getD rv27.1.toNat default).Stmts).length : Int) - 1) : Int).toNat)).drop 0), dh (vl a23 k24 ((rv7.Funcs.getD rv15.1.toNat default).Blocks)) ((rv7.Funcs.getD rv15.1.toNat default).Blocks : List GBlock) rv27.1.toNat [.string (bs ((((rv7.Funcs.getD rv15.1.toNat default).Blocks).getD rv27.1.toNat default).Name)), (G.g 11 0)]] ?_
   generalize G.g 11 0 = c254
   refine Jo 7 ?_; rintro a256 k257 rfl
   refine FbD 72 7 fun hl258 => ?_
   refine KS ?_
   refine Oq (VldA sh27 2) (Ost (Scl [3] sh27 [vl a10 k11 rv7.Funcs]) (KS ?_))
   refine Jl [8, 7] (Ent.closeD (A := [D a256 k257 ((((((rv7.Funcs.getD rv15.1.toNat default).Blocks).getD rv27.1.toNat default).Stmts).take ((((((((rv7.Funcs.getD rv15.1.toNat default).Blocks).getD rv27.1.toNat default).Stmts).length : Int) - 1) : Int).toNat)).drop 0)]) _ _ _ _ (GBlock.mk ((((rv7.Funcs.getD rv15.1.toNat default).Blocks).getD rv27.1.toNat default).Name) ((((((rv7.Funcs.getD rv15.1.toNat default).Blocks).getD rv27.1.toNat default).Stmts).take ((((((((rv7.Funcs.getD rv15.1.toNat default).Blocks).getD rv27.1.toNat default).Stmts).length : Int) - 1) : Int).toNat)).drop 0)) (innmk_GBlock (z0 := (((rv7.Funcs.getD rv15.1.toNat default).Blocks).getD rv27.1.toNat default).Name) (by first | omega | (unfold i64ok; omega) | (simp only [lens]; omega)))) ?_
   refine Jl [3, 0] (Ent.closeD (A := [ds (vl a23 k24 ((rv7.Funcs.getD rv15.1.toNat default).Blocks)) (((rv7.Funcs.getD rv15.1.toNat default).Blocks).set rv27.1.toNat (GBlock.mk ((((rv7.Funcs.getD rv15.1.toNat default).Blocks).getD rv27.1.toNat default).Name) ((((((rv7.Funcs.getD rv15.1.toNat default).Blocks).getD rv27.1.toNat default).Stmts).take ((((((((rv7.Funcs.getD rv15.1.toNat default).Blocks).getD rv27.1.toNat default).Stmts).length : Int) - 1) : Int).toNat)).drop 0)))]) _ _ _ _ (GFunc.mk ((rv7.Funcs.getD rv15.1.toNat default).Name) (((rv7.Funcs.getD rv15.1.toNat default).Blocks).set rv27.1.toNat (GBlock.mk ((((rv7.Funcs.getD rv15.1.toNat default).Blocks).getD rv27.1.toNat default).Name) ((((((rv7.Funcs.getD rv15.1.toNat default).Blocks).getD rv27.1.toNat default).Stmts).take ((((((((rv7.Funcs.getD rv15.1.toNat default).Blocks).getD rv27.1.toNat default).Stmts).length : Int) - 1) : Int).toNat)).drop 0)))) (innmk_GFunc (z0 := (rv7.Funcs.getD rv15.1.toNat default).Name) (by first | omega | (unfold i64ok; omega) | (simp only [lens]; omega)))) ?_
   refine Jl [0] (Ent.dsF _ _) ?_
   have hq := q4 hrr ((GProgram.mk (rv7.Funcs.set rv15.1.toNat (GFunc.mk ((rv7.Funcs.getD rv15.1.toNat default).Name) (((rv7.Funcs.getD rv15.1.toNat default).Blocks).set rv27.1.toNat (GBlock.mk ((((rv7.Funcs.getD rv15.1.toNat default).Blocks).getD rv27.1.toNat default).Name) ((((((rv7.Funcs.getD rv15.1.toNat default).Blocks).getD rv27.1.toNat default).Stmts).take ((((((((rv7.Funcs.getD rv15.1.toNat default).Blocks).getD rv27.1.toNat default).Stmts).length : Int) - 1) : Int).toNat)).drop 0)))))), rv67.2) (by simp only [Tape_SpoilProgram, h39, h73, h88, h103, h122, h147, h180, h217, h252, hg8, hg16, hg28, hg60, hg68, cs4]); subst hq
   exact Kr (vl a10 k11 rv7.Funcs) rfl (.cellN 1 rfl sh27 rfl (reads_Cl _ _) rfl .nil) [0, 2] en
 intro h252
 have g259 := ne_of_beq_false h252
 refine KS ?_
 refine Oq Veql (Oq Va (KS ?_))
 refine Kc ?_ ?_
 · intro h260
   have g261 := eq_of_beq h260
   refine JK_drawK [0, 0, 2, 6, 14, 0, 32, 96, 254, 511, 1023, 2047] fmix ?_
   refine Dv [] Vm (Dv [] Vm (Dv [1] (Vn 0) (Dv [1] (Vfa fo49_1 0) (Dv [1] (VldF sh47 0) (Dv [] Vm ?_)))))
   refine letv (Tape_stmt tT rv67.2 3) fun rv264 hg265 => ?_
   refine Dx [0, 7] [0] [4, 0, 1, 1, 1] (fun G => .agg #[vi rv264.1.Op, .string (bs rv264.1.Def), (G.g 6 0), (G.g 6 1)]) [fun G => SP.fact (i64ok rv264.1.Op ∧ rv264.1.Def.b.length ≤ 140737488355328 ∧ (0 ≤ rv264.2 ∧ rv264.2 ≤ (tT.length : Int))), fun G => os (G.g 6 0) rv264.1.Uses, fun G => os (G.g 6 1) rv264.1.Targets, fun G => Cl tP [vl ta tk tT, vi rv264.2]] (fun G => xC [0, 0] ca19 (fn19 tP ta tk tT rv67.2 3 pre pre pre rv264 hg265)) (Dx [] [] [0] (fun G => (G.g 7 0)) [fun G => Cr (G.g 7 0) 1 [vi rv264.1.Op, .string (bs rv264.1.Def), (G.g 6 0), (G.g 6 1)]] (fun G => xA (AsV sl47 sz47 [.agg #[vi rv264.1.Op, .string (bs rv264.1.Def), (G.g 6 0), (G.g 6 1)]] [vi rv264.1.Op, .string (bs rv264.1.Def), (G.g 6 0), (G.g 6 1)])) ?_)
   have hn268 := la ((((rv7.Funcs.getD rv15.1.toNat default).Blocks).getD rv27.1.toNat default).Stmts) ([rv264.1] : List GStmt)
   refine Dx [2, 9, 10, 11, 13] [2, 10, 11, 13] [1, 0] (fun G => (G.g 8 0)) [fun G => ds (G.g 8 0) (((((rv7.Funcs.getD rv15.1.toNat default).Blocks).getD rv27.1.toNat default).Stmts ++ [rv264.1]) : List GStmt)] (fun G => by refine xf 1 rfl ?_; rintro ⟨he269, he270, he271⟩; unfold i64ok at he269; exact xp [4, 2, 2] rfl (Ent.crD (α := GStmt) (A := [os (G.g 6 0) rv264.1.Uses, os (G.g 6 1) rv264.1.Targets]) _ rv264.1 _ (Nat.le_of_ble_eq_true rfl) (innmk_GStmt (z0 := rv264.1.Op) (z1 := rv264.1.Def) (by first | omega | (unfold i64ok; omega) | (simp only [lens]; omega)) (by first | omega | (unfold i64ok; omega) | (simp only [lens]; omega)))) (xA (ApD [1, 0] sl47 sl47 sz47))) (Dv [1] (Vn 0) (Dv [1] (Vfa fo49_1 0) (Dx0 [1, 14] [1] [1, 0] [fun G => dh (vl a23 k24 ((rv7.Funcs.getD rv15.1.toNat default).Blocks)) ((rv7.Funcs.getD rv15.1.toNat default).Blocks : List GBlock) rv27.1.toNat [.string (bs ((((rv7.Funcs.getD rv15.1.toNat default).Blocks).getD rv27.1.toNat default).Name)), (G.g 8 0)]] (fun G => x1 1 rfl ds_one fun ho272 => (xS (SoHr (α := GBlock) [0] sh47 [(G.g 8 0)] [.string (bs ((((rv7.Funcs.getD rv15.1.toNat default).Blocks).getD rv27.1.toNat default).Name)), (G.g 8 0)] (cells_of_one ho272) rfl (by simp only [List.all_cons, List.all_nil, ho272, Bool.and_true, Bool.true_and] <;> rfl)))) ?_)))
   refine Dn ⟨by kernel_rfl, fun G => ?_⟩
   refine Jw2 [(4, p5), (5, p13)] [3, 4, 5, 6, 7, 8] [SP.fact (i64ok rv264.1.Op ∧ rv264.1.Def.b.length ≤ 140737488355328 ∧ (0 ≤ rv264.2 ∧ rv264.2 ≤ (tT.length : Int))), Cl tP [vl ta tk tT, vi rv264.2], ds (G.g 8 0) (((((rv7.Funcs.getD rv15.1.toNat default).Blocks).getD rv27.1.toNat default).Stmts ++ [rv264.1]) : List GStmt), dh (vl a23 k24 ((rv7.Funcs.getD rv15.1.toNat default).Blocks)) ((rv7.Funcs.getD rv15.1.toNat default).Blocks : List GBlock) rv27.1.toNat [.string (bs ((((rv7.Funcs.getD rv15.1.toNat default).Blocks).getD rv27.1.toNat default).Name)), (G.g 8 0)]] ?_
   generalize G.g 8 0 = c267
   refine Jf 6 rfl ?_; rintro ⟨he273, he274, he275⟩
   unfold i64ok at he273
   refine Jk [0, 0, 0, 0, 1, 2, 4, 4, 4] ?_
   refine Jo 7 ?_; rintro a276 k277 rfl
   refine FbD 72 7 fun hl278 => ?_
   refine KS ?_
   refine Oq (VldA sh27 1) (Ost (Scl [2] sh27 [vl a10 k11 rv7.Funcs]) (KS ?_))
   refine Jl [8, 7] (Ent.closeD (A := [D a276 k277 (((((rv7.Funcs.getD rv15.1.toNat default).Blocks).getD rv27.1.toNat default).Stmts ++ [rv264.1]) : List GStmt)]) _ _ _ _ (GBlock.mk ((((rv7.Funcs.getD rv15.1.toNat default).Blocks).getD rv27.1.toNat default).Name) ((((rv7.Funcs.getD rv15.1.toNat default).Blocks).getD rv27.1.toNat default).Stmts ++ [rv264.1])) (innmk_GBlock (z0 := (((rv7.Funcs.getD rv15.1.toNat default).Blocks).getD rv27.1.toNat default).Name) (by first | omega | (unfold i64ok; omega) | (simp only [lens]; omega)))) ?_
   refine Jl [2, 0] (Ent.closeD (A := [ds (vl a23 k24 ((rv7.Funcs.getD rv15.1.toNat default).Blocks)) ((((rv7.Funcs.getD rv15.1.toNat default).Blocks).set rv27.1.toNat (GBlock.mk ((((rv7.Funcs.getD rv15.1.toNat default).Blocks).getD rv27.1.toNat default).Name) ((((rv7.Funcs.getD rv15.1.toNat default).Blocks).getD rv27.1.toNat default).Stmts ++ [rv264.1]))) : List GBlock)]) _ _ _ _ (GFunc.mk ((rv7.Funcs.getD rv15.1.toNat default).Name) (((rv7.Funcs.getD rv15.1.toNat default).Blocks).set rv27.1.toNat (GBlock.mk ((((rv7.Funcs.getD rv15.1.toNat default).Blocks).getD rv27.1.toNat default).Name) ((((rv7.Funcs.getD rv15.1.toNat default).Blocks).getD rv27.1.toNat default).Stmts ++ [rv264.1])))) (innmk_GFunc (z0 := (rv7.Funcs.getD rv15.1.toNat default).Name) (by first | omega | (unfold i64ok; omega) | (simp only [lens]; omega)))) ?_
   refine Jl [0] (Ent.dsF _ _) ?_
   have hq := q4 hrr ((GProgram.mk (rv7.Funcs.set rv15.1.toNat (GFunc.mk ((rv7.Funcs.getD rv15.1.toNat default).Name) (((rv7.Funcs.getD rv15.1.toNat default).Blocks).set rv27.1.toNat (GBlock.mk ((((rv7.Funcs.getD rv15.1.toNat default).Blocks).getD rv27.1.toNat default).Name) ((((rv7.Funcs.getD rv15.1.toNat default).Blocks).getD rv27.1.toNat default).Stmts ++ [rv264.1])))))), rv264.2) (by simp only [Tape_SpoilProgram, h39, h73, h88, h103, h122, h147, h180, h217, h252, h260, hg8, hg16, hg28, hg60, hg68, hg265, cs4]); subst hq
   exact Kr (vl a10 k11 rv7.Funcs) rfl (.cellN 1 rfl sh27 rfl (reads_Cl _ _) rfl .nil) [0, 6] en
 intro h260
 have g279 := ne_of_beq_false h260
 refine Jl [1, 1] (Ent.closeS (A := [D a35 k36 ((((rv7.Funcs.getD rv15.1.toNat default).Blocks).getD rv27.1.toNat default).Stmts)]) _ _ _ _ default (innmk_GBlock (z0 := (((rv7.Funcs.getD rv15.1.toNat default).Blocks).getD rv27.1.toNat default).Name) (by first | omega | (unfold i64ok; omega) | (simp only [lens]; omega)))) ?_
 refine Jl [0] (Ent.dsO _ _) ?_
 refine JJ_peekO_GBlock (0 : Int).toNat 0 rfl rng fun a280 k281 hb282 => ?_
 refine Fb 72 1 fun hl283 => ?_
 refine JK_drawK [0, 0, 2, 6, 14, 0, 32, 96, 224, 480, 992, 2016, 4094, 8191, 16383, 32767] fmix ?_
 refine Dv [] Vm (Dv [] Vm (Dv [3] (Vn 0) (Dv [3] (Vfa fo45_1 0) (Dv [3] (VldF sh43 0) (Dv [] Vm (Dv [3] (Vn 0) (Dv [3] (Vfa fo45_1 0) (Dv [3] (VldF sh43 0) (Dv [0] (Vi sl43 0) ?_)))))))))
 refine Dv [0] (VldA sh49 0) (Dx [] [] [0] (fun G => (G.g 11 0)) [fun G => Cr (G.g 11 0) 1 [.string (bs ((((rv7.Funcs.getD rv15.1.toNat default).Blocks).getD (0 : Int).toNat default).Name)), .slice a280 (((((rv7.Funcs.getD rv15.1.toNat default).Blocks).getD (0 : Int).toNat default).Stmts).length) k281]] (fun G => xA (AsV sl43 sz43 [.agg #[.string (bs ((((rv7.Funcs.getD rv15.1.toNat default).Blocks).getD (0 : Int).toNat default).Name)), .slice a280 (((((rv7.Funcs.getD rv15.1.toNat default).Blocks).getD (0 : Int).toNat default).Stmts).length) k281]] [.string (bs ((((rv7.Funcs.getD rv15.1.toNat default).Blocks).getD (0 : Int).toNat default).Name)), .slice a280 (((((rv7.Funcs.getD rv15.1.toNat default).Blocks).getD (0 : Int).toNat default).Stmts).length) k281])) ?_)
 have hn286 := la ((rv7.Funcs.getD rv15.1.toNat default).Blocks) ([(((rv7.Funcs.getD rv15.1.toNat default).Blocks).getD (0 : Int).toNat default)] : List GBlock)
 refine Dx [0, 1, 9] [0, 9] [1, 0] (fun G => (G.g 12 0)) [fun G => os (G.g 12 0) (((rv7.Funcs.getD rv15.1.toNat default).Blocks ++ [(((rv7.Funcs.getD rv15.1.toNat default).Blocks).getD (0 : Int).toNat default)]) : List GBlock)] (fun G => xp [0] rfl (Ent.oread _ _ _ _) (xp [2, 1] rfl (Ent.cr1 (α := GBlock) (A := [S a280 k281 ((((rv7.Funcs.getD rv15.1.toNat default).Blocks).getD (0 : Int).toNat default).Stmts)]) _ (((rv7.Funcs.getD rv15.1.toNat default).Blocks).getD (0 : Int).toNat default) _ (Nat.le_of_ble_eq_true rfl) (fun h => ⟨_, rfl, (by first | omega | (simp; done) | (dsimp only; omega) | exact lit_bl rfl), sepAll_get (i := 0) rfl h⟩)) (xA (ApO [2, 0] sl43 sl43 sz43)))) (Dv [3] (Vn 0) (Dv [3] (Vfa fo45_1 0) (Dx0 [3, 10] [3] [1, 0] [fun G => dh (vl a10 k11 rv7.Funcs) (rv7.Funcs : List GFunc) rv15.1.toNat [.string (bs ((rv7.Funcs.getD rv15.1.toNat default).Name)), (G.g 12 0)]] (fun G => x1 1 rfl os_one fun ho287 => (xS (SoHr (α := GFunc) [0] sh43 [(G.g 12 0)] [.string (bs ((rv7.Funcs.getD rv15.1.toNat default).Name)), (G.g 12 0)] (cells_of_one ho287) rfl (by simp only [List.all_cons, List.all_nil, ho287, Bool.and_true, Bool.true_and] <;> rfl)))) ?_)))
 refine Dn ⟨by kernel_rfl, fun G => ?_⟩
 refine Jw2 [(4, p5), (5, p13)] [1, 2, 4, 5, 6, 7, 8] [os (G.g 12 0) (((rv7.Funcs.getD rv15.1.toNat default).Blocks ++ [(((rv7.Funcs.getD rv15.1.toNat default).Blocks).getD (0 : Int).toNat default)]) : List GBlock), dh (vl a10 k11 rv7.Funcs) (rv7.Funcs : List GFunc) rv15.1.toNat [.string (bs ((rv7.Funcs.getD rv15.1.toNat default).Name)), (G.g 12 0)]] ?_
 generalize G.g 12 0 = c285
 refine Jo 7 ?_; rintro a288 k289 rfl
 refine Fb 40 7 fun hl290 => ?_
 refine KS ?_
 refine Oq (VldA sh27 2) (Ost (Scl [3] sh27 [vl a10 k11 rv7.Funcs]) (KS ?_))
 refine Jl [7] (Ent.freeze _ _) ?_
 refine Jl [8, 0] (Ent.closeO (A := [S a288 k289 (((rv7.Funcs.getD rv15.1.toNat default).Blocks ++ [(((rv7.Funcs.getD rv15.1.toNat default).Blocks).getD (0 : Int).toNat default)]) : List GBlock)]) _ _ _ _ (GFunc.mk ((rv7.Funcs.getD rv15.1.toNat default).Name) ((rv7.Funcs.getD rv15.1.toNat default).Blocks ++ [(((rv7.Funcs.getD rv15.1.toNat default).Blocks).getD (0 : Int).toNat default)])) (fun h => ⟨_, rfl, (by first | omega | (simp; done) | (dsimp only; omega) | exact lit_bl rfl), sepAll_get (i := 0) rfl h⟩)) ?_
 refine Jl [0] (Ent.freeze _ _) ?_
 have hq := q4 hrr ((GProgram.mk (rv7.Funcs.set rv15.1.toNat (GFunc.mk ((rv7.Funcs.getD rv15.1.toNat default).Name) ((rv7.Funcs.getD rv15.1.toNat default).Blocks ++ [(((rv7.Funcs.getD rv15.1.toNat default).Blocks).getD (0 : Int).toNat default)])))), rv67.2) (by simp only [Tape_SpoilProgram, h39, h73, h88, h103, h122, h147, h180, h217, h252, h260, hg8, hg16, hg28, hg60, hg68, cs4]); subst hq
 exact Kr (vl a10 k11 rv7.Funcs) rfl (.cellN 2 rfl sh27 rfl (reads_Cl _ _) rfl .nil) [0, 4] en
theorem fn3 (t : List Int) (ta0 : Option Addr) (tk0 : Nat) (kwLA : Option Addr) (kwLK : Nat) (rr : Bool) (hrr : flqlaw6_ValidateRenames t = rr) : FT Tryd.prog 3 #[vl ta0 tk0 t] [S ta0 tk0 t, pv (gp 0) [vl kwLA kwLK kwL], S kwLA kwLK kwL] (fun g : Unit => True) (fun g => vb rr) (fun g => []) := by
 refine FTi Tryd.func3 fun w0 M0 F0 => ?_
 refine Fb 8 0 fun hl1 => ?_
 refine Fo 0 fun ho2 => ?_
 refine Fb 16 2 fun hl3 => ?_
 refine FoS 2 fun ho4 => ?_
 refine KS ?_
 refine Oq Va (KS ?_)
 refine Oq Vm ?_
 refine letv (flqgen_New t) fun rv6 hg7 => ?_
 have hc8 := fn6 t ta0 tk0 rv6 hg7
 refine Oc [0] ca6 hc8 ?_
 rintro c5 -
 refine Oq Va (KS ?_)
 refine Oq Vm ?_
 refine letv (Tape_Program t 0) fun rv10 hg11 => ?_
 have hc12 := fn7 c5 ta0 tk0 t 0 pre rv10 hg11
 refine Oc [0, 0] ca7 hc12 ?_
 rintro c9 he13
 refine Jo 0 ?_; rintro a14 k15 rfl
 refine Fb 40 0 fun hl16 => ?_
 refine Oa (Al ze27 [.slice none 0 0]) fun p17 => Ost (Scl [0] sh27 [vl a14 k15 rv10.1.Funcs]) (KS ?_)
 refine Oq Vm ?_
 refine letv (Tape_Next t rv10.2 2) fun rv18 hg19 => ?_
 have hc20 := fn8 c5 ta0 tk0 t rv10.2 2 pre pre rv18 hg19
 refine Oc [2, 2] ca8 hc20 ?_
 rintro - ⟨he21, he22, he23⟩
 unfold i64ok at he21
 refine Oq Veql (KS ?_)
 refine Kc ?_ ?_
 · intro h24
   have g25 := eq_of_beq h24
   refine KS ?_
   refine Oq Vm (Oq (VldA sh27 1) ?_)
   refine letv (Tape_SpoilProgram t rv18.2 rv10.1) fun rv27 hg28 => ?_
   have hc29 := fn9 c5 ta0 tk0 t rv18.2 rv10.1 a14 k15 pre (Program_SpP (by assumption)) rv27 hg28
   refine Oc [0, 2, 1] ca9 hc29 ?_
   rintro c26 he30
   refine Jo 0 ?_; rintro a31 k32 rfl
   refine Fb 40 0 fun hl33 => ?_
   refine Ost (Scl [2] sh27 [vl a31 k32 rv27.1.Funcs]) (KS ?_)
   refine Oq (VldA sh27 0) ?_
   refine letv (flqref4_Valid rv27.1) fun rv34 hg35 => ?_
   have hc36 := fn10 rv27.1 a31 k32 rv34 hg35
   refine Oc [1] ca10 hc36 ?_
   rintro - -
   refine Oq Vnot (Oq Vm ?_)
   refine Js 26 ?_ ?_
   · intro h37
     have h39 := not_true h37
     refine Osk (Osk (Osk (Osk (Oq Vpt (KS ?_)))))
     refine Kt ?_
     refine KS ?_
     have hc41 := fn12 kwLA kwLK flqlaw6_sane rfl
     refine Oc [5, 6] ca12 hc41 ?_
     rintro - -
     refine Oq Va (KS ?_)
     have hq := q4 hrr flqlaw6_sane (by unfold flqlaw6_ValidateRenames; simp only [h24, h37, h39, hg7, hg11, hg19, hg28, hg35, cs4]); subst hq
     exact Kr () rfl (.tmp rfl .nil) [] trivial
   intro h37
   have h43 := not_false h37
   refine Oq (VldA sh27 0) ?_
   refine letv (flqlaw6_renamed rv27.1) fun rv46 hg47 => ?_
   have hc48 := fn11 rv27.1 a31 k32 (by first | exact Valid_Sm' (by assumption) (by assumption) | exact Valid_Sm2 (by assumption) (by assumption)) rv46 hg47
   refine Oc [1] ca11 hc48 ?_
   rintro c45 -
   refine Jo 0 ?_; rintro a49 k50 rfl
   refine Fb 40 0 fun hl51 => ?_
   refine letv (flqref4_Valid rv46) fun rv52 hg53 => ?_
   have hc54 := fn10 rv46 a49 k50 rv52 hg53
   refine Oc [0] ca10 hc54 ?_
   rintro - -
   refine Oq Vnot (Oq Vpf (KS ?_))
   refine Kc ?_ ?_
   · intro h55
     have h57 := not_true h55
     refine KS ?_
     have hc59 := fn12 kwLA kwLK flqlaw6_sane rfl
     refine Oc [6, 7] ca12 hc59 ?_
     rintro - -
     refine Oq Va (KS ?_)
     have hq := q4 hrr flqlaw6_sane (by unfold flqlaw6_ValidateRenames; simp only [h24, h37, h43, h55, h57, hg7, hg11, hg19, hg28, hg35, hg47, hg53, cs4]); subst hq
     exact Kr () rfl (.tmp rfl .nil) [] trivial
   intro h55
   have h61 := not_false h55
   refine KS ?_
   refine Oq (VldA sh27 1) ?_
   refine letv (validate_Check rv27.1) fun rv63 hg64 => ?_
   have hc65 := fn13 rv27.1 a31 k32 kwLA kwLK (by first | exact SpP_PSm (Program_SpP (by assumption)) | exact Spoil_PSm (by assumption) (Program_SpP (by assumption)) | exact ren_P (by assumption) (SpP_PSm (Program_SpP (by assumption))) | exact ren_P (by assumption) (Spoil_PSm (by assumption) (Program_SpP (by assumption)))) rv63 hg64
   refine Oc [2, 6, 7] ca13 hc65 ?_
   rintro - ⟨he66, he67, he68, he69, he70⟩
   unfold i64ok at he66 he67 he68 he69 he70
   refine Oq Vm (Oq Vx (Oq Vx (Oa (Al ze34 [vi 0, vi 0, vi 0, vi 0]) fun p71 => Ost (Scl [0] sh34 [vi rv63.1.Kind, vi rv63.1.Func, vi rv63.1.Block, vi rv63.1.Stmt]) (Oq Va (KS ?_)))))
   refine Oq (VldA sh27 2) ?_
   have hc73 := fn11 rv27.1 a31 k32 (by first | exact Valid_Sm' (by assumption) (by assumption) | exact Valid_Sm2 (by assumption) (by assumption)) rv46 hg47
   refine Oc [3] ca11 hc73 ?_
   rintro c72 -
   refine Jo 0 ?_; rintro a74 k75 rfl
   refine letv (validate_Check rv46) fun rv76 hg77 => ?_
   have hc78 := fn13 rv46 a74 k75 kwLA kwLK (by first | exact SpP_PSm (Program_SpP (by assumption)) | exact Spoil_PSm (by assumption) (Program_SpP (by assumption)) | exact ren_P (by assumption) (SpP_PSm (Program_SpP (by assumption))) | exact ren_P (by assumption) (Spoil_PSm (by assumption) (Program_SpP (by assumption)))) rv76 hg77
   refine Oc [0, 8, 9] ca13 hc78 ?_
   rintro - ⟨he79, he80, he81, he82, he83⟩
   unfold i64ok at he79 he80 he81 he82 he83
   refine Oq Vm (Oq Vx (Oq Vx (Oa (Al ze34 [vi 0, vi 0, vi 0, vi 0]) fun p84 => Ost (Scl [0] sh34 [vi rv76.1.Kind, vi rv76.1.Func, vi rv76.1.Block, vi rv76.1.Stmt]) (Oq Va (KS ?_)))))
   refine Oq (VldA sh27 4) ?_
   refine letv (validate_Sizes rv27.1) fun rv85 hg86 => ?_
   have hc87 := fn14 rv27.1 a31 k32 kwLA kwLK (by first | exact SpP_PSm (Program_SpP (by assumption)) | exact Spoil_PSm (by assumption) (Program_SpP (by assumption)) | exact ren_P (by assumption) (SpP_PSm (Program_SpP (by assumption))) | exact ren_P (by assumption) (Spoil_PSm (by assumption) (Program_SpP (by assumption)))) rv85 hg86
   refine Oc [5, 9, 10] ca14 hc87 ?_
   rintro - ⟨he88, he89, he90⟩
   unfold i64ok at he88 he89
   refine Oq Vm (Oq Vx (Oq Vx (Oq Va (Oq Va (KS ?_)))))
   refine Oq (VldA sh27 4) ?_
   have hc92 := fn11 rv27.1 a31 k32 (by first | exact Valid_Sm' (by assumption) (by assumption) | exact Valid_Sm2 (by assumption) (by assumption)) rv46 hg47
   refine Oc [5] ca11 hc92 ?_
   rintro c91 -
   refine Jo 0 ?_; rintro a93 k94 rfl
   refine letv (validate_Sizes rv46) fun rv95 hg96 => ?_
   have hc97 := fn14 rv46 a93 k94 kwLA kwLK (by first | exact SpP_PSm (Program_SpP (by assumption)) | exact Spoil_PSm (by assumption) (Program_SpP (by assumption)) | exact ren_P (by assumption) (SpP_PSm (Program_SpP (by assumption))) | exact ren_P (by assumption) (Spoil_PSm (by assumption) (Program_SpP (by assumption)))) rv95 hg96
   refine Oc [0, 10, 11] ca14 hc97 ?_
   rintro - ⟨he98, he99, he100⟩
   unfold i64ok at he98 he99
   refine Oq Vm (Oq Vx (Oq Vx (Oq Va (Oq Va (KS ?_)))))
   refine JK_drawK [0, 0, 3, 7, 15, 15, 63, 127, 255, 511, 511, 2047, 4095, 8191, 16383, 16383, 65535, 131071, 262143, 524287, 1048575, 2097151, 524287, 6291455, 14680063, 31457279, 67108863, 134217727, 268435455, 536870911, 1073741823, 2147483647] fmix ?_
   refine Dv [3] (VldA sh34 0) (Dv [1] (VldA sh34 0) (Dv [] (VeqA eqi34 (l := [rv63.1.Kind, rv63.1.Func, rv63.1.Block, rv63.1.Stmt]) (m := [rv76.1.Kind, rv76.1.Func, rv76.1.Block, rv76.1.Stmt])) ?_))
   refine bool_split ([rv63.1.Kind, rv63.1.Func, rv63.1.Block, rv63.1.Stmt] == [rv76.1.Kind, rv76.1.Func, rv76.1.Block, rv76.1.Stmt]) ?_ ?_
   · intro h101
     have g102 := eq_of_beq h101
     refine Db h101 [] Vm (Dv [] Vm (Dv [] Vm (Dv [] Veql (Dv [] Vpt ?_))))
     refine bool_split (rv63.2 == rv76.2) ?_ ?_
     · intro h103
       have g104 := eq_of_beq h103
       refine Db h103 [] Vm (Dv [] Vm (Dv [] Vm (Dv [] Veql (Dv [] Vpt ?_))))
       refine bool_split (rv85.1 == rv95.1) ?_ ?_
       · intro h105
         have g106 := eq_of_beq h105
         refine Db h105 [] Vm (Dv [] Vm (Dv [] Vm (Dv [] Veql (Dv [] Vpt ?_))))
         refine bool_split (rv85.2 == rv95.2) ?_ ?_
         · intro h107
           have g108 := eq_of_beq h107
           refine Db h107 [] Vm (Dv [5] (VldA sh27 0) ?_)
           refine letv (validate_Variables rv27.1) fun rv110 hg111 => ?_
           refine Dx [6, 10, 11] [] [2, 3, 4, 0, 1] (fun G => (G.g 20 0)) [fun G => SP.fact ((rv110.length ≤ 30000)), fun G => sl (G.g 20 0) rv110] (fun G => xC [0, 1, 2] ca15 (fn15 rv27.1 a31 k32 kwLA kwLK (by first | exact SpP_PSm (Program_SpP (by assumption)) | exact Spoil_PSm (by assumption) (Program_SpP (by assumption)) | exact ren_P (by assumption) (SpP_PSm (Program_SpP (by assumption))) | exact ren_P (by assumption) (Spoil_PSm (by assumption) (Program_SpP (by assumption)))) rv110 hg111)) ?_
           refine Dv [13] (VlR (sz := 1) sl40 0) (Dv [5] (VldA sh27 0) (Dx [6] [] [2, 0, 1] (fun G => .agg #[(G.g 23 0)]) [fun G => SP.fact (True), fun G => sl (G.g 23 0) rv46.Funcs] (fun G => xC [0] ca11 (fn11 rv27.1 a31 k32 (by first | exact Valid_Sm' (by assumption) (by assumption) | exact Valid_Sm2 (by assumption) (by assumption)) rv46 hg47)) ?_))
           refine letv (validate_Variables rv46) fun rv117 hg118 => ?_
           refine Dx [10, 11, 15] [] [2, 3, 4, 0, 1] (fun G => (G.g 24 0)) [fun G => SP.fact ((rv117.length ≤ 30000)), fun G => sl (G.g 24 0) rv117] (fun G => xD [2, 0, 1] ca15 rfl rfl rfl (FT_open (γ := Value) (I := fun g => (rv117.length ≤ 30000)) (V := fun g => g) (B := fun g => [sl g rv117]) (R := sl (G.g 23 0) rv46.Funcs) sl_slice (fun aq113 kq114 eq115 => by rw [eq115]; exact FT_ent (Ent.take (is := [0, 1, 2]) rfl) (fn15 rv46 aq113 kq114 kwLA kwLK (by first | exact SpP_PSm (Program_SpP (by assumption)) | exact Spoil_PSm (by assumption) (Program_SpP (by assumption)) | exact ren_P (by assumption) (SpP_PSm (Program_SpP (by assumption))) | exact ren_P (by assumption) (Spoil_PSm (by assumption) (Program_SpP (by assumption)))) rv117 hg118)))) ?_
           refine Dv [17] (VlR (sz := 1) sl40 0) (Dv [] Veql (Dv [] Vpt ?_))
           refine bool_split ((rv110.length : Int) == (rv117.length : Int)) ?_ ?_
           · intro h119
             have g120 := eq_of_beq h119
             refine Db h119 [] Vm (Dx [10, 11] [] [1, 2, 0] (fun G => vb flqlaw6_sane) [fun G => SP.fact (True)] (fun G => xC [0, 1] ca12 (fn12 kwLA kwLK flqlaw6_sane rfl)) (Dv [] Vpt (Dv [] Va ?_)))
             refine Dn ⟨by kernel_rfl, fun G => ?_⟩
             refine Jw2 [(2, vb flqlaw6_sane)] [0, 1, 2, 3, 4, 5, 6, 7, 8, 9, 10, 11] [SP.fact ((rv110.length ≤ 30000)), sl (G.g 20 0) rv110, SP.fact (True), sl (G.g 23 0) rv46.Funcs, SP.fact ((rv117.length ≤ 30000)), sl (G.g 24 0) rv117, SP.fact (True)] ?_
             generalize G.g 20 0 = c109, G.g 23 0 = c112, G.g 24 0 = c116
             refine Jf 12 rfl ?_; rintro he121
             refine Jf 16 rfl ?_; rintro he122
             refine Jk [0, 1, 1, 2, 2, 3, 3, 4, 4, 5, 6, 7, 9, 11, 13] ?_
             refine Jo 12 ?_; rintro a123 k124 rfl
             refine Fb 16 12 fun hl125 => ?_
             refine FoS 12 fun ho126 => ?_
             refine Jo 13 ?_; rintro a127 k128 rfl
             refine Jo 14 ?_; rintro a129 k130 rfl
             refine Fb 16 14 fun hl131 => ?_
             refine FoS 14 fun ho132 => ?_
             have hq := q4 hrr flqlaw6_sane (by unfold flqlaw6_ValidateRenames; simp only [h24, h37, h43, h55, h61, h101, h103, h105, h107, h119, hg7, hg11, hg19, hg28, hg35, hg47, hg53, hg64, hg77, hg86, hg96, hg111, hg118, cs4]); subst hq
             exact Kr () rfl (.tmp rfl .nil) [] trivial
           intro h119
           have g133 := ne_of_beq_false h119
           refine Db h119 [] Vm (Ds (Dv [] Vpf (Dv [] Va ?_)))
           refine Dn ⟨by kernel_rfl, fun G => ?_⟩
           refine Jw2 [(2, vb false)] [0, 1, 2, 3, 4, 5, 6, 7, 8, 9, 10, 11] [SP.fact ((rv110.length ≤ 30000)), sl (G.g 20 0) rv110, SP.fact (True), sl (G.g 23 0) rv46.Funcs, SP.fact ((rv117.length ≤ 30000)), sl (G.g 24 0) rv117] ?_
           generalize G.g 20 0 = c109, G.g 23 0 = c112, G.g 24 0 = c116
           refine Jf 12 rfl ?_; rintro he134
           refine Jf 16 rfl ?_; rintro he135
           refine Jk [0, 1, 1, 2, 2, 3, 3, 4, 4, 5, 6, 7, 9, 11, 13] ?_
           refine Jo 12 ?_; rintro a136 k137 rfl
           refine Fb 16 12 fun hl138 => ?_
           refine FoS 12 fun ho139 => ?_
           refine Jo 13 ?_; rintro a140 k141 rfl
           refine Jo 14 ?_; rintro a142 k143 rfl
           refine Fb 16 14 fun hl144 => ?_
           refine FoS 14 fun ho145 => ?_
           have hq := q4 hrr false (by unfold flqlaw6_ValidateRenames; simp only [h24, h37, h43, h55, h61, h101, h103, h105, h107, h119, hg7, hg11, hg19, hg28, hg35, hg47, hg53, hg64, hg77, hg86, hg96, hg111, hg118, cs4]); subst hq
           exact Kr () rfl (.tmp rfl .nil) [] trivial
         intro h107
         have g146 := ne_of_beq_false h107
         refine Db h107 [] Vm (Ds (Ds (Ds (Ds (Ds (Ds (Ds (Ds (Dv [] Vpf ?_)))))))))
         refine Dv [] Vm (Ds (Dv [] Vpf (Dv [] Va ?_)))
         refine Dn ⟨by kernel_rfl, fun G => ?_⟩
         refine Jw2 [(2, vb false)] [0, 1, 2, 3, 4, 5, 6, 7, 8, 9, 10, 11] [] ?_
         have hq := q4 hrr false (by unfold flqlaw6_ValidateRenames; simp only [h24, h37, h43, h55, h61, h101, h103, h105, h107, hg7, hg11, hg19, hg28, hg35, hg47, hg53, hg64, hg77, hg86, hg96, cs4]); subst hq
         exact Kr () rfl (.tmp rfl .nil) [] trivial
       intro h105
       have g147 := ne_of_beq_false h105
       refine Db h105 [] Vm (Ds (Ds (Ds (Dv [] Vpf (Dv [] Vm (Ds (Ds (Ds (Ds ?_)))))))))
       refine Ds (Ds (Ds (Ds (Dv [] Vpf (Dv [] Vm (Ds (Dv [] Vpf (Dv [] Va ?_))))))))
       refine Dn ⟨by kernel_rfl, fun G => ?_⟩
       refine Jw2 [(2, vb false)] [0, 1, 2, 3, 4, 5, 6, 7, 8, 9, 10, 11] [] ?_
       have hq := q4 hrr false (by unfold flqlaw6_ValidateRenames; simp only [h24, h37, h43, h55, h61, h101, h103, h105, hg7, hg11, hg19, hg28, hg35, hg47, hg53, hg64, hg77, hg86, hg96, cs4]); subst hq
       exact Kr () rfl (.tmp rfl .nil) [] trivial
     intro h103
     have g148 := ne_of_beq_false h103
     refine Db h103 [] Vm (Ds (Ds (Ds (Dv [] Vpf (Dv [] Vm (Ds (Ds (Ds (Dv [] Vpf ?_)))))))))
     refine Dv [] Vm (Ds (Ds (Ds (Ds (Ds (Ds (Ds (Ds (Dv [] Vpf ?_)))))))))
     refine Dv [] Vm (Ds (Dv [] Vpf (Dv [] Va ?_)))
     refine Dn ⟨by kernel_rfl, fun G => ?_⟩
     refine Jw2 [(2, vb false)] [0, 1, 2, 3, 4, 5, 6, 7, 8, 9, 10, 11] [] ?_
     have hq := q4 hrr false (by unfold flqlaw6_ValidateRenames; simp only [h24, h37, h43, h55, h61, h101, h103, hg7, hg11, hg19, hg28, hg35, hg47, hg53, hg64, hg77, hg86, hg96, cs4]); subst hq
     exact Kr () rfl (.tmp rfl .nil) [] trivial
   intro h101
   have g149 := ne_of_beq_false h101
   refine Db h101 [] Vm (Ds (Ds (Ds (Dv [] Vpf (Dv [] Vm (Ds (Ds (Ds (Dv [] Vpf ?_)))))))))
   refine Dv [] Vm (Ds (Ds (Ds (Dv [] Vpf (Dv [] Vm (Ds (Ds (Ds (Ds ?_)))))))))
   refine Ds (Ds (Ds (Ds (Dv [] Vpf (Dv [] Vm (Ds (Dv [] Vpf (Dv [] Va ?_))))))))
   refine Dn ⟨by kernel_rfl, fun G => ?_⟩
   refine Jw2 [(2, vb false)] [0, 1, 2, 3, 4, 5, 6, 7, 8, 9, 10, 11] [] ?_
   have hq := q4 hrr false (by unfold flqlaw6_ValidateRenames; simp only [h24, h37, h43, h55, h61, h101, hg7, hg11, hg19, hg28, hg35, hg47, hg53, hg64, hg77, hg86, hg96, cs4]); subst hq
   exact Kr () rfl (.tmp rfl .nil) [] trivial
 intro h24
 have g150 := ne_of_beq_false h24
 refine KS ?_
 refine Oq (VldA sh27 1) ?_
 refine letv (flqref4_Valid rv10.1) fun rv151 hg152 => ?_
 have hc153 := fn10 rv10.1 a14 k15 rv151 hg152
 refine Oc [2] ca10 hc153 ?_
 rintro - -
 refine Oq Vnot (Oq Vm ?_)
 refine Js 26 ?_ ?_
 · intro h154
   have h156 := not_true h154
   refine Osk (Osk (Osk (Osk (Oq Vpt (KS ?_)))))
   refine Kt ?_
   refine KS ?_
   have hc158 := fn12 kwLA kwLK flqlaw6_sane rfl
   refine Oc [4, 5] ca12 hc158 ?_
   rintro - -
   refine Oq Va (KS ?_)
   have hq := q4 hrr flqlaw6_sane (by unfold flqlaw6_ValidateRenames; simp only [h24, h154, h156, hg7, hg11, hg19, hg152, cs4]); subst hq
   exact Kr () rfl (.tmp rfl .nil) [] trivial
 intro h154
 have h160 := not_false h154
 refine Oq (VldA sh27 1) ?_
 refine letv (flqlaw6_renamed rv10.1) fun rv163 hg164 => ?_
 have hc165 := fn11 rv10.1 a14 k15 (by first | exact Valid_Sm' (by assumption) (by assumption) | exact Valid_Sm2 (by assumption) (by assumption)) rv163 hg164
 refine Oc [2] ca11 hc165 ?_
 rintro c162 -
 refine Jo 0 ?_; rintro a166 k167 rfl
 refine Fb 40 0 fun hl168 => ?_
 refine letv (flqref4_Valid rv163) fun rv169 hg170 => ?_
 have hc171 := fn10 rv163 a166 k167 rv169 hg170
 refine Oc [0] ca10 hc171 ?_
 rintro - -
 refine Oq Vnot (Oq Vpf (KS ?_))
 refine Kc ?_ ?_
 · intro h172
   have h174 := not_true h172
   refine KS ?_
   have hc176 := fn12 kwLA kwLK flqlaw6_sane rfl
   refine Oc [5, 6] ca12 hc176 ?_
   rintro - -
   refine Oq Va (KS ?_)
   have hq := q4 hrr flqlaw6_sane (by unfold flqlaw6_ValidateRenames; simp only [h24, h154, h160, h172, h174, hg7, hg11, hg19, hg152, hg164, hg170, cs4]); subst hq
   exact Kr () rfl (.tmp rfl .nil) [] trivial
 intro h172
 have h178 := not_false h172
 refine KS ?_
 refine Oq (VldA sh27 2) ?_
 refine letv (validate_Check rv10.1) fun rv180 hg181 => ?_
 have hc182 := fn13 rv10.1 a14 k15 kwLA kwLK (by first | exact SpP_PSm (Program_SpP (by assumption)) | exact Spoil_PSm (by assumption) (Program_SpP (by assumption)) | exact ren_P (by assumption) (SpP_PSm (Program_SpP (by assumption))) | exact ren_P (by assumption) (Spoil_PSm (by assumption) (Program_SpP (by assumption)))) rv180 hg181
 refine Oc [3, 5, 6] ca13 hc182 ?_
 rintro - ⟨he183, he184, he185, he186, he187⟩
 unfold i64ok at he183 he184 he185 he186 he187
 refine Oq Vm (Oq Vx (Oq Vx (Oa (Al ze34 [vi 0, vi 0, vi 0, vi 0]) fun p188 => Ost (Scl [0] sh34 [vi rv180.1.Kind, vi rv180.1.Func, vi rv180.1.Block, vi rv180.1.Stmt]) (Oq Va (KS ?_)))))
 refine Oq (VldA sh27 3) ?_
 have hc190 := fn11 rv10.1 a14 k15 (by first | exact Valid_Sm' (by assumption) (by assumption) | exact Valid_Sm2 (by assumption) (by assumption)) rv163 hg164
 refine Oc [4] ca11 hc190 ?_
 rintro c189 -
 refine Jo 0 ?_; rintro a191 k192 rfl
 refine letv (validate_Check rv163) fun rv193 hg194 => ?_
 have hc195 := fn13 rv163 a191 k192 kwLA kwLK (by first | exact SpP_PSm (Program_SpP (by assumption)) | exact Spoil_PSm (by assumption) (Program_SpP (by assumption)) | exact ren_P (by assumption) (SpP_PSm (Program_SpP (by assumption))) | exact ren_P (by assumption) (Spoil_PSm (by assumption) (Program_SpP (by assumption)))) rv193 hg194
 refine Oc [0, 7, 8] ca13 hc195 ?_
 rintro - ⟨he196, he197, he198, he199, he200⟩
 unfold i64ok at he196 he197 he198 he199 he200
 refine Oq Vm (Oq Vx (Oq Vx (Oa (Al ze34 [vi 0, vi 0, vi 0, vi 0]) fun p201 => Ost (Scl [0] sh34 [vi rv193.1.Kind, vi rv193.1.Func, vi rv193.1.Block, vi rv193.1.Stmt]) (Oq Va (KS ?_)))))
 refine Oq (VldA sh27 5) ?_
 refine letv (validate_Sizes rv10.1) fun rv202 hg203 => ?_
 have hc204 := fn14 rv10.1 a14 k15 kwLA kwLK (by first | exact SpP_PSm (Program_SpP (by assumption)) | exact Spoil_PSm (by assumption) (Program_SpP (by assumption)) | exact ren_P (by assumption) (SpP_PSm (Program_SpP (by assumption))) | exact ren_P (by assumption) (Spoil_PSm (by assumption) (Program_SpP (by assumption)))) rv202 hg203
 refine Oc [6, 8, 9] ca14 hc204 ?_
 rintro - ⟨he205, he206, he207⟩
 unfold i64ok at he205 he206
 refine Oq Vm (Oq Vx (Oq Vx (Oq Va (Oq Va (KS ?_)))))
 refine Oq (VldA sh27 5) ?_
 have hc209 := fn11 rv10.1 a14 k15 (by first | exact Valid_Sm' (by assumption) (by assumption) | exact Valid_Sm2 (by assumption) (by assumption)) rv163 hg164
 refine Oc [6] ca11 hc209 ?_
 rintro c208 -
 refine Jo 0 ?_; rintro a210 k211 rfl
 refine letv (validate_Sizes rv163) fun rv212 hg213 => ?_
 have hc214 := fn14 rv163 a210 k211 kwLA kwLK (by first | exact SpP_PSm (Program_SpP (by assumption)) | exact Spoil_PSm (by assumption) (Program_SpP (by assumption)) | exact ren_P (by assumption) (SpP_PSm (Program_SpP (by assumption))) | exact ren_P (by assumption) (Spoil_PSm (by assumption) (Program_SpP (by assumption)))) rv212 hg213
 refine Oc [0, 9, 10] ca14 hc214 ?_
 rintro - ⟨he215, he216, he217⟩
 unfold i64ok at he215 he216
 refine Oq Vm (Oq Vx (Oq Vx (Oq Va (Oq Va (KS ?_)))))
 refine JK_drawK [0, 0, 3, 7, 15, 15, 63, 127, 255, 511, 511, 2047, 4095, 8191, 16383, 16383, 65535, 131071, 262143, 524287, 1048575, 2097151, 524287, 6291455, 14680063, 31457279, 67108863, 134217727, 268435455, 536870911, 1073741823, 2147483647] fmix ?_
 refine Dv [3] (VldA sh34 0) (Dv [1] (VldA sh34 0) (Dv [] (VeqA eqi34 (l := [rv180.1.Kind, rv180.1.Func, rv180.1.Block, rv180.1.Stmt]) (m := [rv193.1.Kind, rv193.1.Func, rv193.1.Block, rv193.1.Stmt])) ?_))
 refine bool_split ([rv180.1.Kind, rv180.1.Func, rv180.1.Block, rv180.1.Stmt] == [rv193.1.Kind, rv193.1.Func, rv193.1.Block, rv193.1.Stmt]) ?_ ?_
 · intro h218
   have g219 := eq_of_beq h218
   refine Db h218 [] Vm (Dv [] Vm (Dv [] Vm (Dv [] Veql (Dv [] Vpt ?_))))
   refine bool_split (rv180.2 == rv193.2) ?_ ?_
   · intro h220
     have g221 := eq_of_beq h220
     refine Db h220 [] Vm (Dv [] Vm (Dv [] Vm (Dv [] Veql (Dv [] Vpt ?_))))
     refine bool_split (rv202.1 == rv212.1) ?_ ?_
     · intro h222
       have g223 := eq_of_beq h222
       refine Db h222 [] Vm (Dv [] Vm (Dv [] Vm (Dv [] Veql (Dv [] Vpt ?_))))
       refine bool_split (rv202.2 == rv212.2) ?_ ?_
       · intro h224
         have g225 := eq_of_beq h224
         refine Db h224 [] Vm (Dv [6] (VldA sh27 0) ?_)
         refine letv (validate_Variables rv10.1) fun rv227 hg228 => ?_
         refine Dx [7, 9, 10] [] [2, 3, 4, 0, 1] (fun G => (G.g 20 0)) [fun G => SP.fact ((rv227.length ≤ 30000)), fun G => sl (G.g 20 0) rv227] (fun G => xC [0, 1, 2] ca15 (fn15 rv10.1 a14 k15 kwLA kwLK (by first | exact SpP_PSm (Program_SpP (by assumption)) | exact Spoil_PSm (by assumption) (Program_SpP (by assumption)) | exact ren_P (by assumption) (SpP_PSm (Program_SpP (by assumption))) | exact ren_P (by assumption) (Spoil_PSm (by assumption) (Program_SpP (by assumption)))) rv227 hg228)) ?_
         refine Dv [12] (VlR (sz := 1) sl40 0) (Dv [6] (VldA sh27 0) (Dx [7] [] [2, 0, 1] (fun G => .agg #[(G.g 23 0)]) [fun G => SP.fact (True), fun G => sl (G.g 23 0) rv163.Funcs] (fun G => xC [0] ca11 (fn11 rv10.1 a14 k15 (by first | exact Valid_Sm' (by assumption) (by assumption) | exact Valid_Sm2 (by assumption) (by assumption)) rv163 hg164)) ?_))
         refine letv (validate_Variables rv163) fun rv234 hg235 => ?_
         refine Dx [9, 10, 14] [] [2, 3, 4, 0, 1] (fun G => (G.g 24 0)) [fun G => SP.fact ((rv234.length ≤ 30000)), fun G => sl (G.g 24 0) rv234] (fun G => xD [2, 0, 1] ca15 rfl rfl rfl (FT_open (γ := Value) (I := fun g => (rv234.length ≤ 30000)) (V := fun g => g) (B := fun g => [sl g rv234]) (R := sl (G.g 23 0) rv163.Funcs) sl_slice (fun aq230 kq231 eq232 => by rw [eq232]; exact FT_ent (Ent.take (is := [0, 1, 2]) rfl) (fn15 rv163 aq230 kq231 kwLA kwLK (by first | exact SpP_PSm (Program_SpP (by assumption)) | exact Spoil_PSm (by assumption) (Program_SpP (by assumption)) | exact ren_P (by assumption) (SpP_PSm (Program_SpP (by assumption))) | exact ren_P (by assumption) (Spoil_PSm (by assumption) (Program_SpP (by assumption)))) rv234 hg235)))) ?_
         refine Dv [16] (VlR (sz := 1) sl40 0) (Dv [] Veql (Dv [] Vpt ?_))
         refine bool_split ((rv227.length : Int) == (rv234.length : Int)) ?_ ?_
         · intro h236
           have g237 := eq_of_beq h236
           refine Db h236 [] Vm (Dx [9, 10] [] [1, 2, 0] (fun G => vb flqlaw6_sane) [fun G => SP.fact (True)] (fun G => xC [0, 1] ca12 (fn12 kwLA kwLK flqlaw6_sane rfl)) (Dv [] Vpt (Dv [] Va ?_)))
           refine Dn ⟨by kernel_rfl, fun G => ?_⟩
           refine Jw2 [(2, vb flqlaw6_sane)] [0, 1, 2, 3, 4, 5, 6, 7, 8, 9, 10] [SP.fact ((rv227.length ≤ 30000)), sl (G.g 20 0) rv227, SP.fact (True), sl (G.g 23 0) rv163.Funcs, SP.fact ((rv234.length ≤ 30000)), sl (G.g 24 0) rv234, SP.fact (True)] ?_
           generalize G.g 20 0 = c226, G.g 23 0 = c229, G.g 24 0 = c233
           refine Jf 11 rfl ?_; rintro he238
           refine Jf 15 rfl ?_; rintro he239
           refine Jk [0, 1, 1, 2, 2, 3, 3, 3, 4, 5, 6, 8, 10, 12] ?_
           refine Jo 11 ?_; rintro a240 k241 rfl
           refine Fb 16 11 fun hl242 => ?_
           refine FoS 11 fun ho243 => ?_
           refine Jo 12 ?_; rintro a244 k245 rfl
           refine Jo 13 ?_; rintro a246 k247 rfl
           refine Fb 16 13 fun hl248 => ?_
           refine FoS 13 fun ho249 => ?_
           have hq := q4 hrr flqlaw6_sane (by unfold flqlaw6_ValidateRenames; simp only [h24, h154, h160, h172, h178, h218, h220, h222, h224, h236, hg7, hg11, hg19, hg152, hg164, hg170, hg181, hg194, hg203, hg213, hg228, hg235, cs4]); subst hq
           exact Kr () rfl (.tmp rfl .nil) [] trivial
         intro h236
         have g250 := ne_of_beq_false h236
         refine Db h236 [] Vm (Ds (Dv [] Vpf (Dv [] Va ?_)))
         refine Dn ⟨by kernel_rfl, fun G => ?_⟩
         refine Jw2 [(2, vb false)] [0, 1, 2, 3, 4, 5, 6, 7, 8, 9, 10] [SP.fact ((rv227.length ≤ 30000)), sl (G.g 20 0) rv227, SP.fact (True), sl (G.g 23 0) rv163.Funcs, SP.fact ((rv234.length ≤ 30000)), sl (G.g 24 0) rv234] ?_
         generalize G.g 20 0 = c226, G.g 23 0 = c229, G.g 24 0 = c233
         refine Jf 11 rfl ?_; rintro he251
         refine Jf 15 rfl ?_; rintro he252
         refine Jk [0, 1, 1, 2, 2, 3, 3, 3, 4, 5, 6, 8, 10, 12] ?_
         refine Jo 11 ?_; rintro a253 k254 rfl
         refine Fb 16 11 fun hl255 => ?_
         refine FoS 11 fun ho256 => ?_
         refine Jo 12 ?_; rintro a257 k258 rfl
         refine Jo 13 ?_; rintro a259 k260 rfl
         refine Fb 16 13 fun hl261 => ?_
         refine FoS 13 fun ho262 => ?_
         have hq := q4 hrr false (by unfold flqlaw6_ValidateRenames; simp only [h24, h154, h160, h172, h178, h218, h220, h222, h224, h236, hg7, hg11, hg19, hg152, hg164, hg170, hg181, hg194, hg203, hg213, hg228, hg235, cs4]); subst hq
         exact Kr () rfl (.tmp rfl .nil) [] trivial
       intro h224
       have g263 := ne_of_beq_false h224
       refine Db h224 [] Vm (Ds (Ds (Ds (Ds (Ds (Ds (Ds (Ds (Dv [] Vpf ?_)))))))))
       refine Dv [] Vm (Ds (Dv [] Vpf (Dv [] Va ?_)))
       refine Dn ⟨by kernel_rfl, fun G => ?_⟩
       refine Jw2 [(2, vb false)] [0, 1, 2, 3, 4, 5, 6, 7, 8, 9, 10] [] ?_
       have hq := q4 hrr false (by unfold flqlaw6_ValidateRenames; simp only [h24, h154, h160, h172, h178, h218, h220, h222, h224, hg7, hg11, hg19, hg152, hg164, hg170, hg181, hg194, hg203, hg213, cs4]); subst hq
       exact Kr () rfl (.tmp rfl .nil) [] trivial
     intro h222
     have g264 := ne_of_beq_false h222
     refine Db h222 [] Vm (Ds (Ds (Ds (Dv [] Vpf (Dv [] Vm (Ds (Ds (Ds (Ds ?_)))))))))
     refine Ds (Ds (Ds (Ds (Dv [] Vpf (Dv [] Vm (Ds (Dv [] Vpf (Dv [] Va ?_))))))))
     refine Dn ⟨by kernel_rfl, fun G => ?_⟩
     refine Jw2 [(2, vb false)] [0, 1, 2, 3, 4, 5, 6, 7, 8, 9, 10] [] ?_
     have hq := q4 hrr false (by unfold flqlaw6_ValidateRenames; simp only [h24, h154, h160, h172, h178, h218, h220, h222, hg7, hg11, hg19, hg152, hg164, hg170, hg181, hg194, hg203, hg213, cs4]); subst hq
     exact Kr () rfl (.tmp rfl .nil) [] trivial
   intro h220
   have g265 := ne_of_beq_false h220
   refine Db h220 [] Vm (Ds (Ds (Ds (Dv [] Vpf (Dv [] Vm (Ds (Ds (Ds (Dv [] Vpf ?_)))))))))
   refine Dv [] Vm (Ds (Ds (Ds (Ds (Ds (Ds (Ds (Ds (Dv [] Vpf ?_)))))))))
   refine Dv [] Vm (Ds (Dv [] Vpf (Dv [] Va ?_)))
   refine Dn ⟨by kernel_rfl, fun G => ?_⟩
   refine Jw2 [(2, vb false)] [0, 1, 2, 3, 4, 5, 6, 7, 8, 9, 10] [] ?_
   have hq := q4 hrr false (by unfold flqlaw6_ValidateRenames; simp only [h24, h154, h160, h172, h178, h218, h220, hg7, hg11, hg19, hg152, hg164, hg170, hg181, hg194, hg203, hg213, cs4]); subst hq
   exact Kr () rfl (.tmp rfl .nil) [] trivial
 intro h218
 have g266 := ne_of_beq_false h218
 refine Db h218 [] Vm (Ds (Ds (Ds (Dv [] Vpf (Dv [] Vm (Ds (Ds (Ds (Dv [] Vpf ?_)))))))))
 refine Dv [] Vm (Ds (Ds (Ds (Dv [] Vpf (Dv [] Vm (Ds (Ds (Ds (Ds ?_)))))))))
 refine Ds (Ds (Ds (Ds (Dv [] Vpf (Dv [] Vm (Ds (Dv [] Vpf (Dv [] Va ?_))))))))
 refine Dn ⟨by kernel_rfl, fun G => ?_⟩
 refine Jw2 [(2, vb false)] [0, 1, 2, 3, 4, 5, 6, 7, 8, 9, 10] [] ?_
 have hq := q4 hrr false (by unfold flqlaw6_ValidateRenames; simp only [h24, h154, h160, h172, h178, h218, hg7, hg11, hg19, hg152, hg164, hg170, hg181, hg194, hg203, hg213, cs4]); subst hq
 exact Kr () rfl (.tmp rfl .nil) [] trivial
end Go.SL.G
