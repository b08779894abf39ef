/- Part 4 of the walks: mirrors, plain laws and walks used by the last text of this claim. -/
import Derived.Test.YtaahlggoddafaaaDoorW3
import Derived.Test.YtaahlggoddafaaaDoorProg
set_option linter.unusedVariables false
set_option linter.unusedSimpArgs false
namespace Go.SL.G
open Go Go.SL Go.Proofs
set_option maxHeartbeats 20000000
set_option maxRecDepth 100000
theorem fn82 (pP : Value) (p : Gparser) (pa0 : Option Addr) (pk0 : Nat) (hp_1 : i64ok p.at_) (hp_2 : i64ok p.Err) (hpa : (0 ≤ p.at_ ∧ p.at_ ≤ (p.l.length : Int))) (hb : parser_begins p = true) (rr : GStmt × Gparser) (hrr : parser_stmt p = rr) : FT Tryd.prog 82 #[pP] [Cl pP [vl pa0 pk0 p.l, vi p.at_, vi p.Err], S pa0 pk0 p.l] (fun g : Value × Value => i64ok rr.1.Op ∧ rr.1.Def.b.length ≤ 140737488355328 ∧ i64ok rr.2.at_ ∧ i64ok rr.2.Err ∧ (0 ≤ rr.2.at_ ∧ rr.2.at_ ≤ (p.l.length : Int))) (fun g => .agg #[vi rr.1.Op, .string (bs rr.1.Def), g.1, g.2]) (fun g => [sl g.1 rr.1.Uses, sl g.2 rr.1.Targets, Cl pP [vl pa0 pk0 p.l, vi rr.2.at_, vi rr.2.Err]]) := by
 refine FTi Tryd.func82 fun w0 M0 F0 => ?_
 unfold i64ok at hp_1 hp_2
 refine Fb 40 1 fun hl1 => ?_
 have hbl := begins_lt hb
 refine KS ?_
 refine Oa (Al ze47 [vi 0, .string (bs (Str.mk [])), .slice none 0 0, .slice none 0 0]) fun p2 => KS ?_
 refine Oa (Al ze47 [vi 0, .string (bs (Str.mk [])), .slice none 0 0, .slice none 0 0]) fun p3 => KS ?_
 refine Oq Va (KS ?_)
 refine Oq Vm ?_
 refine letv (parser_isName p) fun rv4 hg5 => ?_
 have hc6 := fn79 pP p pa0 pk0 pre pre pre rv4 hg5
 refine Oc [2, 2] ca79 hc6 ?_
 rintro - -
 refine Oq Vnot (KS ?_)
 refine Kc ?_ ?_
 · intro h7
   have h9 := not_true h7
   refine KS ?_
   refine Jp 0 fun hp11 => ?_
   refine JJ_peek_GToken p.at_.toNat 4 rfl rng fun hb12 hb13 hb14 hb15 => ?_
   unfold i64ok at hb12 hb14 hb15
   refine Kq [0, 1, 3, 7, 0, 16, 48, 112, 255, 511, 1023, 2047] fmix ?_
   refine Qv [] Vm (Qv [1] (Vn 0) (Qv [1] (Vfa fo91_0 0) (Qv [2] (VldF sh86 0) (Qv [] Vm (Qv [1] (Vn 0) (Qv [1] (Vfa fo91_1 0) (Qv [2] (VldF sh3 0) (Qv [5] (Vi sl86 0) (Qv [0] (Vfa fo95_1 0) ?_)))))))))
   refine Qv [0] (VldF sh9 0) (Qv [] Va ?_)
   refine Qn ⟨by kernel_rfl, ?_⟩
   refine KS ?_
   refine Oq Vm (Oq (Vn 2) (Oq (Vfa fo91_1 2) (Oq (VldF sh3 2) (Oq Vadd (Oq (Vn 2) (Oq (Vfa fo91_1 2) (Ost (SclF [2] sh3 [vl pa0 pk0 p.l, vi (p.at_ + 1), vi p.Err]) (KS ?_))))))))
   refine Oq Vm (KS ?_)
   refine Oq (VeqS (l := (p.l.getD p.at_.toNat default).Text) (m := (Str.mk [117, 115, 101]))) (Oq Va (KS ?_))
   refine Kc ?_ ?_
   · intro h16
     have g17 := eq_of_beq h16
     refine KS ?_
     refine Oq Vm ?_
     refine letv (parser_name (Gparser.mk p.l (p.at_ + 1) p.Err)) fun rv18 hg19 => ?_
     have hc20 := fn68 pP (Gparser.mk p.l (p.at_ + 1) p.Err) pa0 pk0 pre pre pre rv18 hg19
     refine Oc [0, 4] ca68 hc20 ?_
     rintro - ⟨he21, he22, he23, he24⟩
     unfold i64ok at he22 he23
     have he24 : (0 ≤ rv18.2.at_ ∧ rv18.2.at_ ≤ (p.l.length : Int)) := he24
     refine Oa (AsV sl45 sz45 [.string (bs rv18.1)] [.string (bs rv18.1)]) fun c25 => ?_
     refine Jo 0 ?_; rintro a26 k27 rfl
     refine Oq (Vfa fo47_0 4) (Ost (SclF [4] sh3 [vi 2, .string (bs (Str.mk [])), .slice none 0 0, .slice none 0 0]) (Oq (Vfa fo47_2 0) (Ost (SclF [0] sh45 [vi 2, .string (bs (Str.mk [])), .slice a26 1 k27, .slice none 0 0]) (KS ?_))))
     refine Jp 0 fun hp28 => ?_
     refine JK_drawK [0, 1, 0, 4, 15, 31, 63] fmix ?_
     refine Dv [0] (Vfa fo47_2 0) (Dv [1] (VldF sh45 0) (Dv [] Vm ?_))
     refine letv (parser_more (Gparser.mk p.l rv18.2.at_ rv18.2.Err) 1) fun rv30 hg31 => ?_
     refine Dx [3, 7] [3] [3, 0, 1, 2] (fun G => (G.g 3 0)) [fun G => SP.fact (i64ok rv30.2.at_ ∧ i64ok rv30.2.Err ∧ (0 ≤ rv30.2.at_ ∧ rv30.2.at_ ≤ ((Gparser.mk p.l rv18.2.at_ rv18.2.Err).l.length : Int)) ∧ (rv30.1.length ≤ 3)), fun G => sl (G.g 3 0) rv30.1, fun G => Cl pP [vl pa0 pk0 p.l, vi rv30.2.at_, vi rv30.2.Err]] (fun G => xC [0, 0] ca86 (fn86 pP (Gparser.mk p.l rv18.2.at_ rv18.2.Err) pa0 pk0 1 pre pre pre pre pre rv30 hg31)) ?_
     have hn33 := la ([rv18.1] : List Str) rv30.1
     refine Dx [2, 8, 9] [2] [1, 2, 0] (fun G => (G.g 4 0)) [fun G => os (G.g 4 0) (([rv18.1] ++ rv30.1) : List Str)] (fun G => by refine xf 1 rfl ?_; rintro ⟨he34, he35, he36, he37⟩; unfold i64ok at he34 he35; exact xp [0] rfl (Ent.cr1 (α := Str) (A := []) _ rv18.1 _ (Nat.le_of_ble_eq_true rfl) (fun _ => ⟨rfl, by first | omega | (simp; done) | (dsimp only; omega) | exact lit_bl rfl⟩)) (xA (Ap [0, 1] sl45 sl45 sz45))) (Dv [0] (Vfa fo47_2 0) (Dx0 [1, 11] [1] [1, 0] [fun G => Cl p3 [vi 2, .string (bs (Str.mk [])), (G.g 4 0), .slice none 0 0]] (fun G => x1 1 rfl os_one fun ho38 => (xS (OpS.frame [0] rfl (OpS.storeClF [(G.g 4 0)] [vi 2, .string (bs (Str.mk [])), (G.g 4 0), .slice none 0 0] rfl rfl rfl sh45 (cells_of_one ho38) rfl (by simp only [List.all_cons, List.all_nil, ho38, Bool.and_true, Bool.true_and] <;> rfl) (Nat.le_of_ble_eq_true rfl) rfl)))) ?_))
     refine Dn ⟨by kernel_rfl, fun G => ?_⟩
     refine Jw2 [(0, pP), (2, p2), (3, p3)] [0, 4, 5, 6, 7] [SP.fact (i64ok rv30.2.at_ ∧ i64ok rv30.2.Err ∧ (0 ≤ rv30.2.at_ ∧ rv30.2.at_ ≤ ((Gparser.mk p.l rv18.2.at_ rv18.2.Err).l.length : Int)) ∧ (rv30.1.length ≤ 3)), sl (G.g 3 0) rv30.1, Cl pP [vl pa0 pk0 p.l, vi rv30.2.at_, vi rv30.2.Err], os (G.g 4 0) (([rv18.1] ++ rv30.1) : List Str), Cl p3 [vi 2, .string (bs (Str.mk [])), (G.g 4 0), .slice none 0 0]] ?_
     generalize G.g 3 0 = c29, G.g 4 0 = c32
     refine Jf 5 rfl ?_; rintro ⟨he39, he40, he41, he42⟩
     unfold i64ok at he39 he40
     refine Jk [1, 3, 3, 5, 6, 6, 6] ?_
     refine Jo 3 ?_; rintro a43 k44 rfl
     refine Fb 16 3 fun hl45 => ?_
     refine FoS 3 fun ho46 => ?_
     refine Jo 5 ?_; rintro a47 k48 rfl
     refine Fb 16 5 fun hl49 => ?_
     refine FoS 5 fun ho50 => ?_
     refine KS ?_
     refine Oq Vm ?_
     refine letv (parser_end (Gparser.mk p.l rv30.2.at_ rv30.2.Err)) fun rv51 hg52 => ?_
     have hc53 := fn69 pP (Gparser.mk p.l rv30.2.at_ rv30.2.Err) pa0 pk0 pre pre pre rv51 hg52
     refine Oc [4, 2] ca69 hc53 ?_
     rintro - ⟨he54, he55, he56⟩
     unfold i64ok at he54 he55
     have he56 : (0 ≤ rv51.at_ ∧ rv51.at_ ≤ (p.l.length : Int)) := he56
     refine KS ?_
     refine Oq (VldA sh47 6) (Ost (Scl [2] sh47 [vi 2, .string (bs (Str.mk [])), vl a47 k48 ([rv18.1] ++ rv30.1), .slice none 0 0]) (KS ?_))
     refine Jl [5] (Ent.freeze _ _) ?_
     refine Jl [] (Ent.slNil (α := Str)) ?_
     have hq := q4 hrr ((GStmt.mk 2 (Str.mk []) ([rv18.1] ++ rv30.1) []), (Gparser.mk p.l rv51.at_ rv51.Err)) (by simp only [parser_stmt, h7, h9, h16, hg5, hg19, hg31, hg52, cs4]); subst hq
     exact Kr (vl a47 k48 ([rv18.1] ++ rv30.1), .slice none 0 0) rfl (.cellN 2 rfl sh47 rfl (reads_Cl _ _) rfl .nil) [1, 0, 3] en
   intro h16
   have g57 := ne_of_beq_false h16
   refine KS ?_
   refine Oq (VeqS (l := (p.l.getD p.at_.toNat default).Text) (m := (Str.mk [99, 97, 108, 108]))) (Oq Va (KS ?_))
   refine Kc ?_ ?_
   · intro h58
     have g59 := eq_of_beq h58
     refine KS ?_
     refine Oq Vm ?_
     refine letv (parser_name (Gparser.mk p.l (p.at_ + 1) p.Err)) fun rv60 hg61 => ?_
     have hc62 := fn68 pP (Gparser.mk p.l (p.at_ + 1) p.Err) pa0 pk0 pre pre pre rv60 hg61
     refine Oc [0, 4] ca68 hc62 ?_
     rintro - ⟨he63, he64, he65, he66⟩
     unfold i64ok at he64 he65
     have he66 : (0 ≤ rv60.2.at_ ∧ rv60.2.at_ ≤ (p.l.length : Int)) := he66
     refine Oa (AsV sl45 sz45 [.string (bs rv60.1)] [.string (bs rv60.1)]) fun c67 => ?_
     refine Jo 0 ?_; rintro a68 k69 rfl
     refine Oq (Vfa fo47_0 4) (Ost (SclF [4] sh3 [vi 3, .string (bs (Str.mk [])), .slice none 0 0, .slice none 0 0]) (Oq (Vfa fo47_3 0) (Ost (SclF [0] sh45 [vi 3, .string (bs (Str.mk [])), .slice none 0 0, .slice a68 1 k69]) (KS ?_))))
     refine Oq Vm ?_
     refine letv (parser_end (Gparser.mk p.l rv60.2.at_ rv60.2.Err)) fun rv70 hg71 => ?_
     have hc72 := fn69 pP (Gparser.mk p.l rv60.2.at_ rv60.2.Err) pa0 pk0 pre pre pre rv70 hg71
     refine Oc [2, 5] ca69 hc72 ?_
     rintro - ⟨he73, he74, he75⟩
     unfold i64ok at he73 he74
     have he75 : (0 ≤ rv70.at_ ∧ rv70.at_ ≤ (p.l.length : Int)) := he75
     refine KS ?_
     refine Oq (VldA sh47 1) (Ost (Scl [5] sh47 [vi 3, .string (bs (Str.mk [])), .slice none 0 0, .slice a68 1 k69]) (KS ?_))
     refine Jl [3] (Ent.cr1 (α := Str) (A := []) _ rv60.1 _ (Nat.le_of_ble_eq_true rfl) (fun _ => ⟨rfl, by first | omega | (simp; done) | (dsimp only; omega) | exact lit_bl rfl⟩)) ?_
     refine Jl [0] (Ent.freeze _ _) ?_
     refine Jl [] (Ent.slNil (α := Str)) ?_
     have hq := q4 hrr ((GStmt.mk 3 (Str.mk []) [] [rv60.1]), (Gparser.mk p.l rv70.at_ rv70.Err)) (by simp only [parser_stmt, h7, h9, h16, h58, hg5, hg61, hg71, cs4]); subst hq
     exact Kr (.slice none 0 0, .slice a68 1 k69) rfl (.cellN 2 rfl sh47 rfl (reads_Cl _ _) rfl .nil) [0, 1, 3] en
   intro h58
   have g76 := ne_of_beq_false h58
   refine KS ?_
   refine Oq (VeqS (l := (p.l.getD p.at_.toNat default).Text) (m := (Str.mk [115, 111, 117, 114, 99, 101]))) (Oq Va (KS ?_))
   refine Kc ?_ ?_
   · intro h77
     have g78 := eq_of_beq h77
     refine KS ?_
     refine Oq Vm ?_
     refine letv (parser_name (Gparser.mk p.l (p.at_ + 1) p.Err)) fun rv79 hg80 => ?_
     have hc81 := fn68 pP (Gparser.mk p.l (p.at_ + 1) p.Err) pa0 pk0 pre pre pre rv79 hg80
     refine Oc [0, 4] ca68 hc81 ?_
     rintro - ⟨he82, he83, he84, he85⟩
     unfold i64ok at he83 he84
     have he85 : (0 ≤ rv79.2.at_ ∧ rv79.2.at_ ≤ (p.l.length : Int)) := he85
     refine Oq (Vfa fo47_0 3) (Ost (SclF [3] sh3 [vi 4, .string (bs (Str.mk [])), .slice none 0 0, .slice none 0 0]) (Oq (Vfa fo47_1 0) (Ost (SclF [0] sh9 [vi 4, .string (bs rv79.1), .slice none 0 0, .slice none 0 0]) (KS ?_))))
     refine Oq Vm ?_
     refine letv (parser_end (Gparser.mk p.l rv79.2.at_ rv79.2.Err)) fun rv86 hg87 => ?_
     have hc88 := fn69 pP (Gparser.mk p.l rv79.2.at_ rv79.2.Err) pa0 pk0 pre pre pre rv86 hg87
     refine Oc [1, 4] ca69 hc88 ?_
     rintro - ⟨he89, he90, he91⟩
     unfold i64ok at he89 he90
     have he91 : (0 ≤ rv86.at_ ∧ rv86.at_ ≤ (p.l.length : Int)) := he91
     refine KS ?_
     refine Oq (VldA sh47 1) (Ost (Scl [4] sh47 [vi 4, .string (bs rv79.1), .slice none 0 0, .slice none 0 0]) (KS ?_))
     refine Jl [] (Ent.slNil (α := Str)) ?_
     have hq := q4 hrr ((GStmt.mk 4 rv79.1 [] []), (Gparser.mk p.l rv86.at_ rv86.Err)) (by simp only [parser_stmt, h7, h9, h16, h58, h77, hg5, hg80, hg87, cs4]); subst hq
     exact Kr (.slice none 0 0, .slice none 0 0) rfl (.cellN 1 rfl sh47 rfl (reads_Cl _ _) rfl .nil) [0, 0, 2] en
   intro h77
   have g92 := ne_of_beq_false h77
   refine KS ?_
   refine Oq (VeqS (l := (p.l.getD p.at_.toNat default).Text) (m := (Str.mk [115, 105, 110, 107]))) (Oq Va (KS ?_))
   refine Kc ?_ ?_
   · intro h93
     have g94 := eq_of_beq h93
     refine KS ?_
     refine Oq Vm ?_
     refine letv (parser_name (Gparser.mk p.l (p.at_ + 1) p.Err)) fun rv95 hg96 => ?_
     have hc97 := fn68 pP (Gparser.mk p.l (p.at_ + 1) p.Err) pa0 pk0 pre pre pre rv95 hg96
     refine Oc [0, 4] ca68 hc97 ?_
     rintro - ⟨he98, he99, he100, he101⟩
     unfold i64ok at he99 he100
     have he101 : (0 ≤ rv95.2.at_ ∧ rv95.2.at_ ≤ (p.l.length : Int)) := he101
     refine Oa (AsV sl45 sz45 [.string (bs rv95.1)] [.string (bs rv95.1)]) fun c102 => ?_
     refine Jo 0 ?_; rintro a103 k104 rfl
     refine Oq (Vfa fo47_0 4) (Ost (SclF [4] sh3 [vi 5, .string (bs (Str.mk [])), .slice none 0 0, .slice none 0 0]) (Oq (Vfa fo47_2 0) (Ost (SclF [0] sh45 [vi 5, .string (bs (Str.mk [])), .slice a103 1 k104, .slice none 0 0]) (KS ?_))))
     refine Oq Vm ?_
     refine letv (parser_end (Gparser.mk p.l rv95.2.at_ rv95.2.Err)) fun rv105 hg106 => ?_
     have hc107 := fn69 pP (Gparser.mk p.l rv95.2.at_ rv95.2.Err) pa0 pk0 pre pre pre rv105 hg106
     refine Oc [2, 5] ca69 hc107 ?_
     rintro - ⟨he108, he109, he110⟩
     unfold i64ok at he108 he109
     have he110 : (0 ≤ rv105.at_ ∧ rv105.at_ ≤ (p.l.length : Int)) := he110
     refine KS ?_
     refine Oq (VldA sh47 1) (Ost (Scl [5] sh47 [vi 5, .string (bs (Str.mk [])), .slice a103 1 k104, .slice none 0 0]) (KS ?_))
     refine Jl [3] (Ent.cr1 (α := Str) (A := []) _ rv95.1 _ (Nat.le_of_ble_eq_true rfl) (fun _ => ⟨rfl, by first | omega | (simp; done) | (dsimp only; omega) | exact lit_bl rfl⟩)) ?_
     refine Jl [0] (Ent.freeze _ _) ?_
     refine Jl [] (Ent.slNil (α := Str)) ?_
     have hq := q4 hrr ((GStmt.mk 5 (Str.mk []) [rv95.1] []), (Gparser.mk p.l rv105.at_ rv105.Err)) (by simp only [parser_stmt, h7, h9, h16, h58, h77, h93, hg5, hg96, hg106, cs4]); subst hq
     exact Kr (.slice a103 1 k104, .slice none 0 0) rfl (.cellN 2 rfl sh47 rfl (reads_Cl _ _) rfl .nil) [1, 0, 3] en
   intro h93
   have g111 := ne_of_beq_false h93
   refine KS ?_
   refine Oq (VeqS (l := (p.l.getD p.at_.toNat default).Text) (m := (Str.mk [115, 97, 110, 105, 116, 105, 122, 101]))) (Oq Va (KS ?_))
   refine Kc ?_ ?_
   · intro h112
     have g113 := eq_of_beq h112
     refine KS ?_
     refine Oq Vm ?_
     refine letv (parser_name (Gparser.mk p.l (p.at_ + 1) p.Err)) fun rv114 hg115 => ?_
     have hc116 := fn68 pP (Gparser.mk p.l (p.at_ + 1) p.Err) pa0 pk0 pre pre pre rv114 hg115
     refine Oc [0, 4] ca68 hc116 ?_
     rintro - ⟨he117, he118, he119, he120⟩
     unfold i64ok at he118 he119
     have he120 : (0 ≤ rv114.2.at_ ∧ rv114.2.at_ ≤ (p.l.length : Int)) := he120
     refine Oq (Vfa fo47_0 3) (Ost (SclF [3] sh3 [vi 6, .string (bs (Str.mk [])), .slice none 0 0, .slice none 0 0]) (Oq (Vfa fo47_1 0) (Ost (SclF [0] sh9 [vi 6, .string (bs rv114.1), .slice none 0 0, .slice none 0 0]) (KS ?_))))
     refine Oq Vm ?_
     refine letv (parser_end (Gparser.mk p.l rv114.2.at_ rv114.2.Err)) fun rv121 hg122 => ?_
     have hc123 := fn69 pP (Gparser.mk p.l rv114.2.at_ rv114.2.Err) pa0 pk0 pre pre pre rv121 hg122
     refine Oc [1, 4] ca69 hc123 ?_
     rintro - ⟨he124, he125, he126⟩
     unfold i64ok at he124 he125
     have he126 : (0 ≤ rv121.at_ ∧ rv121.at_ ≤ (p.l.length : Int)) := he126
     refine KS ?_
     refine Oq (VldA sh47 1) (Ost (Scl [4] sh47 [vi 6, .string (bs rv114.1), .slice none 0 0, .slice none 0 0]) (KS ?_))
     refine Jl [] (Ent.slNil (α := Str)) ?_
     have hq := q4 hrr ((GStmt.mk 6 rv114.1 [] []), (Gparser.mk p.l rv121.at_ rv121.Err)) (by simp only [parser_stmt, h7, h9, h16, h58, h77, h93, h112, hg5, hg115, hg122, cs4]); subst hq
     exact Kr (.slice none 0 0, .slice none 0 0) rfl (.cellN 1 rfl sh47 rfl (reads_Cl _ _) rfl .nil) [0, 0, 2] en
   intro h112
   have g127 := ne_of_beq_false h112
   refine KS ?_
   refine Oq (VeqS (l := (p.l.getD p.at_.toNat default).Text) (m := (Str.mk [103, 111, 116, 111]))) (Oq Va (KS ?_))
   refine Kc ?_ ?_
   · intro h128
     have g129 := eq_of_beq h128
     refine KS ?_
     refine Oq Vm ?_
     refine letv (parser_name (Gparser.mk p.l (p.at_ + 1) p.Err)) fun rv130 hg131 => ?_
     have hc132 := fn68 pP (Gparser.mk p.l (p.at_ + 1) p.Err) pa0 pk0 pre pre pre rv130 hg131
     refine Oc [0, 4] ca68 hc132 ?_
     rintro - ⟨he133, he134, he135, he136⟩
     unfold i64ok at he134 he135
     have he136 : (0 ≤ rv130.2.at_ ∧ rv130.2.at_ ≤ (p.l.length : Int)) := he136
     refine Oa (AsV sl45 sz45 [.string (bs rv130.1)] [.string (bs rv130.1)]) fun c137 => ?_
     refine Jo 0 ?_; rintro a138 k139 rfl
     refine Oq (Vfa fo47_0 4) (Ost (SclF [4] sh3 [vi 7, .string (bs (Str.mk [])), .slice none 0 0, .slice none 0 0]) (Oq (Vfa fo47_3 0) (Ost (SclF [0] sh45 [vi 7, .string (bs (Str.mk [])), .slice none 0 0, .slice a138 1 k139]) (KS ?_))))
     refine Oq Vm ?_
     refine letv (parser_end (Gparser.mk p.l rv130.2.at_ rv130.2.Err)) fun rv140 hg141 => ?_
     have hc142 := fn69 pP (Gparser.mk p.l rv130.2.at_ rv130.2.Err) pa0 pk0 pre pre pre rv140 hg141
     refine Oc [2, 5] ca69 hc142 ?_
     rintro - ⟨he143, he144, he145⟩
     unfold i64ok at he143 he144
     have he145 : (0 ≤ rv140.at_ ∧ rv140.at_ ≤ (p.l.length : Int)) := he145
     refine KS ?_
     refine Oq (VldA sh47 1) (Ost (Scl [5] sh47 [vi 7, .string (bs (Str.mk [])), .slice none 0 0, .slice a138 1 k139]) (KS ?_))
     refine Jl [3] (Ent.cr1 (α := Str) (A := []) _ rv130.1 _ (Nat.le_of_ble_eq_true rfl) (fun _ => ⟨rfl, by first | omega | (simp; done) | (dsimp only; omega) | exact lit_bl rfl⟩)) ?_
     refine Jl [0] (Ent.freeze _ _) ?_
     refine Jl [] (Ent.slNil (α := Str)) ?_
     have hq := q4 hrr ((GStmt.mk 7 (Str.mk []) [] [rv130.1]), (Gparser.mk p.l rv140.at_ rv140.Err)) (by simp only [parser_stmt, h7, h9, h16, h58, h77, h93, h112, h128, hg5, hg131, hg141, cs4]); subst hq
     exact Kr (.slice none 0 0, .slice a138 1 k139) rfl (.cellN 2 rfl sh47 rfl (reads_Cl _ _) rfl .nil) [0, 1, 3] en
   intro h128
   have g146 := ne_of_beq_false h128
   refine KS ?_
   refine Oq (VeqS (l := (p.l.getD p.at_.toNat default).Text) (m := (Str.mk [98, 114, 97, 110, 99, 104]))) (Oq Va (KS ?_))
   refine Kc ?_ ?_
   · intro h147
     have g148 := eq_of_beq h147
     refine KS ?_
     refine Oq Vm ?_
     refine letv (parser_name (Gparser.mk p.l (p.at_ + 1) p.Err)) fun rv149 hg150 => ?_
     have hc151 := fn68 pP (Gparser.mk p.l (p.at_ + 1) p.Err) pa0 pk0 pre pre pre rv149 hg150
     refine Oc [0, 4] ca68 hc151 ?_
     rintro - ⟨he152, he153, he154, he155⟩
     unfold i64ok at he153 he154
     have he155 : (0 ≤ rv149.2.at_ ∧ rv149.2.at_ ≤ (p.l.length : Int)) := he155
     refine Oa (AsV sl45 sz45 [.string (bs rv149.1)] [.string (bs rv149.1)]) fun c156 => ?_
     refine Jo 0 ?_; rintro a157 k158 rfl
     refine Oq (Vfa fo47_0 4) (Ost (SclF [4] sh3 [vi 8, .string (bs (Str.mk [])), .slice none 0 0, .slice none 0 0]) (Oq (Vfa fo47_2 0) (Ost (SclF [0] sh45 [vi 8, .string (bs (Str.mk [])), .slice a157 1 k158, .slice none 0 0]) (KS ?_))))
     refine Oq Vm ?_
     refine letv (parser_name (Gparser.mk p.l rv149.2.at_ rv149.2.Err)) fun rv159 hg160 => ?_
     have hc161 := fn68 pP (Gparser.mk p.l rv149.2.at_ rv149.2.Err) pa0 pk0 pre pre pre rv159 hg160
     refine Oc [2, 5] ca68 hc161 ?_
     rintro - ⟨he162, he163, he164, he165⟩
     unfold i64ok at he163 he164
     have he165 : (0 ≤ rv159.2.at_ ∧ rv159.2.at_ ≤ (p.l.length : Int)) := he165
     refine Oa (AsV sl45 sz45 [.string (bs rv159.1)] [.string (bs rv159.1)]) fun c166 => ?_
     refine Jo 0 ?_; rintro a167 k168 rfl
     refine Oq (Vfa fo47_3 2) (Ost (SclF [2] sh45 [vi 8, .string (bs (Str.mk [])), .slice a157 1 k158, .slice a167 1 k168]) (KS ?_))
     refine Jp 0 fun hp169 => ?_
     refine JK_drawK [0, 1, 0, 4, 12, 31, 63, 127] fmix ?_
     refine Dv [0] (Vfa fo47_3 0) (Dv [1] (VldF sh45 0) (Dv [] Vm ?_))
     refine letv (parser_name (Gparser.mk p.l rv159.2.at_ rv159.2.Err)) fun rv170 hg171 => ?_
     refine Dx [3, 8] [3] [2, 0, 1] (fun G => .string (bs rv170.1)) [fun G => SP.fact (rv170.1.b.length ≤ 140737488355328 ∧ i64ok rv170.2.at_ ∧ i64ok rv170.2.Err ∧ (0 ≤ rv170.2.at_ ∧ rv170.2.at_ ≤ ((Gparser.mk p.l rv159.2.at_ rv159.2.Err).l.length : Int))), fun G => Cl pP [vl pa0 pk0 p.l, vi rv170.2.at_, vi rv170.2.Err]] (fun G => xC [0, 0] ca68 (fn68 pP (Gparser.mk p.l rv159.2.at_ rv159.2.Err) pa0 pk0 pre pre pre rv170 hg171)) (Dx [] [] [0] (fun G => (G.g 4 0)) [fun G => Cr (G.g 4 0) 1 [.string (bs rv170.1)]] (fun G => xA (AsV sl45 sz45 [.string (bs rv170.1)] [.string (bs rv170.1)])) ?_)
     have hn174 := la ([rv159.1] : List Str) ([rv170.1] : List Str)
     refine Dx [2, 9, 11] [2, 11] [1, 0] (fun G => (G.g 5 0)) [fun G => os (G.g 5 0) (([rv159.1] ++ [rv170.1]) : List Str)] (fun G => by refine xf 1 rfl ?_; rintro ⟨he175, he176, he177, he178⟩; unfold i64ok at he176 he177; exact xp [0] rfl (Ent.cr1 (α := Str) (A := []) _ rv159.1 _ (Nat.le_of_ble_eq_true rfl) (fun _ => ⟨rfl, by first | omega | (simp; done) | (dsimp only; omega) | exact lit_bl rfl⟩)) (xp [2] rfl (Ent.cr1 (α := Str) (A := []) _ rv170.1 _ (Nat.le_of_ble_eq_true rfl) (fun _ => ⟨rfl, by first | omega | (simp; done) | (dsimp only; omega) | exact lit_bl rfl⟩)) (xA (ApO [1, 0] sl45 sl45 sz45)))) (Dv [0] (Vfa fo47_3 0) (Dx0 [1, 12] [1] [1, 0] [fun G => Cl p3 [vi 8, .string (bs (Str.mk [])), .slice a157 1 k158, (G.g 5 0)]] (fun G => x1 1 rfl os_one fun ho179 => (xS (OpS.frame [0] rfl (OpS.storeClF [(G.g 5 0)] [vi 8, .string (bs (Str.mk [])), .slice a157 1 k158, (G.g 5 0)] rfl rfl rfl sh45 (cells_of_one ho179) rfl (by simp only [List.all_cons, List.all_nil, ho179, Bool.and_true, Bool.true_and] <;> rfl) (Nat.le_of_ble_eq_true rfl) rfl)))) ?_))
     refine Dn ⟨by kernel_rfl, fun G => ?_⟩
     refine Jw2 [(0, pP), (2, p2), (3, p3)] [0, 4, 5, 6, 7, 8] [SP.fact (rv170.1.b.length ≤ 140737488355328 ∧ i64ok rv170.2.at_ ∧ i64ok rv170.2.Err ∧ (0 ≤ rv170.2.at_ ∧ rv170.2.at_ ≤ ((Gparser.mk p.l rv159.2.at_ rv159.2.Err).l.length : Int))), Cl pP [vl pa0 pk0 p.l, vi rv170.2.at_, vi rv170.2.Err], os (G.g 5 0) (([rv159.1] ++ [rv170.1]) : List Str), Cl p3 [vi 8, .string (bs (Str.mk [])), .slice a157 1 k158, (G.g 5 0)]] ?_
     generalize G.g 5 0 = c173
     refine Jf 6 rfl ?_; rintro ⟨he180, he181, he182, he183⟩
     unfold i64ok at he181 he182
     refine Jk [1, 1, 3, 3, 5, 5, 5] ?_
     refine Jo 5 ?_; rintro a184 k185 rfl
     refine Fb 16 5 fun hl186 => ?_
     refine FoS 5 fun ho187 => ?_
     refine KS ?_
     refine Oq Vm ?_
     refine letv (parser_end (Gparser.mk p.l rv170.2.at_ rv170.2.Err)) fun rv188 hg189 => ?_
     have hc190 := fn69 pP (Gparser.mk p.l rv170.2.at_ rv170.2.Err) pa0 pk0 pre pre pre rv188 hg189
     refine Oc [4, 3] ca69 hc190 ?_
     rintro - ⟨he191, he192, he193⟩
     unfold i64ok at he191 he192
     have he193 : (0 ≤ rv188.at_ ∧ rv188.at_ ≤ (p.l.length : Int)) := he193
     refine KS ?_
     refine Oq (VldA sh47 6) (Ost (Scl [3] sh47 [vi 8, .string (bs (Str.mk [])), .slice a157 1 k158, vl a184 k185 ([rv159.1] ++ [rv170.1])]) (KS ?_))
     refine Jl [2] (Ent.cr1 (α := Str) (A := []) _ rv149.1 _ (Nat.le_of_ble_eq_true rfl) (fun _ => ⟨rfl, by first | omega | (simp; done) | (dsimp only; omega) | exact lit_bl rfl⟩)) ?_
     refine Jl [0] (Ent.freeze _ _) ?_
     refine Jl [5] (Ent.freeze _ _) ?_
     have hq := q4 hrr ((GStmt.mk 8 (Str.mk []) [rv149.1] ([rv159.1] ++ [rv170.1])), (Gparser.mk p.l rv188.at_ rv188.Err)) (by simp only [parser_stmt, h7, h9, h16, h58, h77, h93, h112, h128, h147, hg5, hg150, hg160, hg171, hg189, cs4]); subst hq
     exact Kr (.slice a157 1 k158, vl a184 k185 ([rv159.1] ++ [rv170.1])) rfl (.cellN 2 rfl sh47 rfl (reads_Cl _ _) rfl .nil) [1, 0, 3] en
   intro h147
   have g194 := ne_of_beq_false h147
   refine KS ?_
   refine Oq (VeqS (l := (p.l.getD p.at_.toNat default).Text) (m := (Str.mk [114, 101, 116, 117, 114, 110]))) (Oq Va (KS ?_))
   refine Kc ?_ ?_
   · intro h195
     have g196 := eq_of_beq h195
     refine KS ?_
     refine Oq (Vfa fo47_0 3) (Ost (SclF [3] sh3 [vi 9, .string (bs (Str.mk [])), .slice none 0 0, .slice none 0 0]) (KS ?_))
     refine Oq Vm ?_
     refine letv (parser_end (Gparser.mk p.l (p.at_ + 1) p.Err)) fun rv197 hg198 => ?_
     have hc199 := fn69 pP (Gparser.mk p.l (p.at_ + 1) p.Err) pa0 pk0 pre pre pre rv197 hg198
     refine Oc [1, 4] ca69 hc199 ?_
     rintro - ⟨he200, he201, he202⟩
     unfold i64ok at he200 he201
     have he202 : (0 ≤ rv197.at_ ∧ rv197.at_ ≤ (p.l.length : Int)) := he202
     refine KS ?_
     refine Oq (VldA sh47 1) (Ost (Scl [4] sh47 [vi 9, .string (bs (Str.mk [])), .slice none 0 0, .slice none 0 0]) (KS ?_))
     refine Jl [] (Ent.slNil (α := Str)) ?_
     have hq := q4 hrr ((GStmt.mk 9 (Str.mk []) [] []), (Gparser.mk p.l rv197.at_ rv197.Err)) (by simp only [parser_stmt, h7, h9, h16, h58, h77, h93, h112, h128, h147, h195, hg5, hg198, cs4]); subst hq
     exact Kr (.slice none 0 0, .slice none 0 0) rfl (.cellN 1 rfl sh47 rfl (reads_Cl _ _) rfl .nil) [0, 0, 2] en
   intro h195
   have g203 := ne_of_beq_false h195
   refine KS ?_
   refine Oq Vm ?_
   refine letv (parser_name (Gparser.mk p.l (p.at_ + 1) p.Err)) fun rv204 hg205 => ?_
   have hc206 := fn68 pP (Gparser.mk p.l (p.at_ + 1) p.Err) pa0 pk0 pre pre pre rv204 hg205
   refine Oc [0, 4] ca68 hc206 ?_
   rintro - ⟨he207, he208, he209, he210⟩
   unfold i64ok at he208 he209
   have he210 : (0 ≤ rv204.2.at_ ∧ rv204.2.at_ ≤ (p.l.length : Int)) := he210
   refine Oq (Vfa fo47_0 3) (Ost (SclF [3] sh3 [vi 1, .string (bs (Str.mk [])), .slice none 0 0, .slice none 0 0]) (Oq (Vfa fo47_1 0) (Ost (SclF [0] sh9 [vi 1, .string (bs rv204.1), .slice none 0 0, .slice none 0 0]) (KS ?_))))
   refine Oq Vm ?_
   refine letv (parser_isKind (Gparser.mk p.l rv204.2.at_ rv204.2.Err) 2) fun rv211 hg212 => ?_
   have hc213 := fn80 pP (Gparser.mk p.l rv204.2.at_ rv204.2.Err) pa0 pk0 2 pre pre pre pre rv211 hg212
   refine Oc [1, 4] ca80 hc213 ?_
   rintro - -
   refine Oq Vnot (KS ?_)
   refine Kc ?_ ?_
   · intro h214
     have h216 := not_true h214
     refine KS ?_
     refine Oq Vm ?_
     refine letv (parser_fail (Gparser.mk p.l rv204.2.at_ rv204.2.Err) 4) fun rv218 hg219 => ?_
     have hc220 := fn53 pP (Gparser.mk p.l rv204.2.at_ rv204.2.Err) pa0 pk0 4 pre pre pre pre rv218 hg219
     refine Oc [0, 4] ca53 hc220 ?_
     rintro - ⟨he221, he222, he223⟩
     unfold i64ok at he221 he222
     have he223 : (0 ≤ rv218.at_ ∧ rv218.at_ ≤ (p.l.length : Int)) := he223
     refine KS ?_
     refine Oq (VldA sh47 1) (Ost (Scl [4] sh47 [vi 1, .string (bs rv204.1), .slice none 0 0, .slice none 0 0]) (KS ?_))
     refine Jl [] (Ent.slNil (α := Str)) ?_
     have hq := q4 hrr ((GStmt.mk 1 rv204.1 [] []), (Gparser.mk p.l rv218.at_ rv218.Err)) (by simp only [parser_stmt, h7, h9, h16, h58, h77, h93, h112, h128, h147, h195, h214, h216, hg5, hg205, hg212, hg219, cs4]); subst hq
     exact Kr (.slice none 0 0, .slice none 0 0) rfl (.cellN 1 rfl sh47 rfl (reads_Cl _ _) rfl .nil) [0, 0, 2] en
   intro h214
   have h225 := not_false h214
   try (have hlt := is_lt2 (by assumption : parser_is _ _ = rv211) h225; try dsimp only at hlt)
   try (have hlt := isName_lt2 (by assumption : parser_isName _ = rv211) h225; try dsimp only at hlt)
   try (have hlt := isKind_lt2 (by assumption : parser_isKind _ _ = rv211) h225; try dsimp only at hlt)
   refine KS ?_
   refine Oq Vm (Oq (Vn 0) (Oq (Vfa fo91_1 0) (Oq (VldF sh3 0) (Oq Vadd (Oq (Vn 0) (Oq (Vfa fo91_1 0) (Ost (SclF [0] sh3 [vl pa0 pk0 p.l, vi (rv204.2.at_ + 1), vi rv204.2.Err]) (KS ?_))))))))
   refine Oq Vm ?_
   refine letv (parser_names (Gparser.mk p.l (rv204.2.at_ + 1) rv204.2.Err)) fun rv228 hg229 => ?_
   have hc230 := fn87 pP (Gparser.mk p.l (rv204.2.at_ + 1) rv204.2.Err) pa0 pk0 pre pre pre rv228 hg229
   refine Oc [0, 4] ca87 hc230 ?_
   rintro c227 ⟨he231, he232, he233, he234⟩
   unfold i64ok at he231 he232
   have he233 : (0 ≤ rv228.2.at_ ∧ rv228.2.at_ ≤ (p.l.length : Int)) := he233
   refine Jo 0 ?_; rintro a235 k236 rfl
   refine Fb 16 0 fun hl237 => ?_
   refine FoS 0 fun ho238 => ?_
   refine Oq (Vfa fo47_2 2) (Ost (SclF [2] sh45 [vi 1, .string (bs rv204.1), vl a235 k236 rv228.1, .slice none 0 0]) (KS ?_))
   refine Oq Vm ?_
   refine letv (parser_end (Gparser.mk p.l rv228.2.at_ rv228.2.Err)) fun rv239 hg240 => ?_
   have hc241 := fn69 pP (Gparser.mk p.l rv228.2.at_ rv228.2.Err) pa0 pk0 pre pre pre rv239 hg240
   refine Oc [2, 5] ca69 hc241 ?_
   rintro - ⟨he242, he243, he244⟩
   unfold i64ok at he242 he243
   have he244 : (0 ≤ rv239.at_ ∧ rv239.at_ ≤ (p.l.length : Int)) := he244
   refine KS ?_
   refine Oq (VldA sh47 1) (Ost (Scl [5] sh47 [vi 1, .string (bs rv204.1), vl a235 k236 rv228.1, .slice none 0 0]) (KS ?_))
   refine Jl [] (Ent.slNil (α := Str)) ?_
   have hq := q4 hrr ((GStmt.mk 1 rv204.1 rv228.1 []), (Gparser.mk p.l rv239.at_ rv239.Err)) (by simp only [parser_stmt, h7, h9, h16, h58, h77, h93, h112, h128, h147, h195, h214, h225, hg5, hg205, hg212, hg229, hg240, cs4]); subst hq
   exact Kr (vl a235 k236 rv228.1, .slice none 0 0) rfl (.cellN 1 rfl sh47 rfl (reads_Cl _ _) rfl .nil) [4, 0, 2] en
 intro h7
 have h246 := not_false h7
 try (have hlt := is_lt2 (by assumption : parser_is _ _ = rv4) h246; try dsimp only at hlt)
 try (have hlt := isName_lt2 (by assumption : parser_isName _ = rv4) h246; try dsimp only at hlt)
 try (have hlt := isKind_lt2 (by assumption : parser_isKind _ _ = rv4) h246; try dsimp only at hlt)
 refine KS ?_
 refine Oq Vm (KS ?_)
 refine Oq (VeqS (l := (Str.mk [])) (m := (Str.mk [117, 115, 101]))) (Oq Va (KS ?_))
 refine Kc ?_ ?_
 · intro h248
   have g249 := eq_of_beq h248
   refine KS ?_
   refine Oq Vm ?_
   refine letv (parser_name p) fun rv250 hg251 => ?_
   have hc252 := fn68 pP p pa0 pk0 pre pre pre rv250 hg251
   refine Oc [0, 2] ca68 hc252 ?_
   rintro - ⟨he253, he254, he255, he256⟩
   unfold i64ok at he254 he255
   refine Oa (AsV sl45 sz45 [.string (bs rv250.1)] [.string (bs rv250.1)]) fun c257 => ?_
   refine Jo 0 ?_; rintro a258 k259 rfl
   refine Oq (Vfa fo47_0 2) (Ost (SclF [2] sh3 [vi 2, .string (bs (Str.mk [])), .slice none 0 0, .slice none 0 0]) (Oq (Vfa fo47_2 0) (Ost (SclF [0] sh45 [vi 2, .string (bs (Str.mk [])), .slice a258 1 k259, .slice none 0 0]) (KS ?_))))
   refine Jp 0 fun hp260 => ?_
   refine JK_drawK [0, 1, 0, 4, 15, 31, 63] fmix ?_
   refine Dv [0] (Vfa fo47_2 0) (Dv [1] (VldF sh45 0) (Dv [] Vm ?_))
   refine letv (parser_more (Gparser.mk p.l rv250.2.at_ rv250.2.Err) 1) fun rv262 hg263 => ?_
   refine Dx [3, 5] [3] [3, 0, 1, 2] (fun G => (G.g 3 0)) [fun G => SP.fact (i64ok rv262.2.at_ ∧ i64ok rv262.2.Err ∧ (0 ≤ rv262.2.at_ ∧ rv262.2.at_ ≤ ((Gparser.mk p.l rv250.2.at_ rv250.2.Err).l.length : Int)) ∧ (rv262.1.length ≤ 3)), fun G => sl (G.g 3 0) rv262.1, fun G => Cl pP [vl pa0 pk0 p.l, vi rv262.2.at_, vi rv262.2.Err]] (fun G => xC [0, 0] ca86 (fn86 pP (Gparser.mk p.l rv250.2.at_ rv250.2.Err) pa0 pk0 1 pre pre pre pre pre rv262 hg263)) ?_
   have hn265 := la ([rv250.1] : List Str) rv262.1
   refine Dx [2, 6, 7] [2] [1, 2, 0] (fun G => (G.g 4 0)) [fun G => os (G.g 4 0) (([rv250.1] ++ rv262.1) : List Str)] (fun G => by refine xf 1 rfl ?_; rintro ⟨he266, he267, he268, he269⟩; unfold i64ok at he266 he267; exact xp [0] rfl (Ent.cr1 (α := Str) (A := []) _ rv250.1 _ (Nat.le_of_ble_eq_true rfl) (fun _ => ⟨rfl, by first | omega | (simp; done) | (dsimp only; omega) | exact lit_bl rfl⟩)) (xA (Ap [0, 1] sl45 sl45 sz45))) (Dv [0] (Vfa fo47_2 0) (Dx0 [1, 9] [1] [1, 0] [fun G => Cl p3 [vi 2, .string (bs (Str.mk [])), (G.g 4 0), .slice none 0 0]] (fun G => x1 1 rfl os_one fun ho270 => (xS (OpS.frame [0] rfl (OpS.storeClF [(G.g 4 0)] [vi 2, .string (bs (Str.mk [])), (G.g 4 0), .slice none 0 0] rfl rfl rfl sh45 (cells_of_one ho270) rfl (by simp only [List.all_cons, List.all_nil, ho270, Bool.and_true, Bool.true_and] <;> rfl) (Nat.le_of_ble_eq_true rfl) rfl)))) ?_))
   refine Dn ⟨by kernel_rfl, fun G => ?_⟩
   refine Jw2 [(0, pP), (2, p2), (3, p3)] [0, 4, 5] [SP.fact (i64ok rv262.2.at_ ∧ i64ok rv262.2.Err ∧ (0 ≤ rv262.2.at_ ∧ rv262.2.at_ ≤ ((Gparser.mk p.l rv250.2.at_ rv250.2.Err).l.length : Int)) ∧ (rv262.1.length ≤ 3)), sl (G.g 3 0) rv262.1, Cl pP [vl pa0 pk0 p.l, vi rv262.2.at_, vi rv262.2.Err], os (G.g 4 0) (([rv250.1] ++ rv262.1) : List Str), Cl p3 [vi 2, .string (bs (Str.mk [])), (G.g 4 0), .slice none 0 0]] ?_
   generalize G.g 3 0 = c261, G.g 4 0 = c264
   refine Jf 3 rfl ?_; rintro ⟨he271, he272, he273, he274⟩
   unfold i64ok at he271 he272
   refine Jk [1, 1, 3, 4, 4, 4] ?_
   refine Jo 2 ?_; rintro a275 k276 rfl
   refine Fb 16 2 fun hl277 => ?_
   refine FoS 2 fun ho278 => ?_
   refine Jo 4 ?_; rintro a279 k280 rfl
   refine Fb 16 4 fun hl281 => ?_
   refine FoS 4 fun ho282 => ?_
   refine KS ?_
   refine Oq Vm ?_
   refine letv (parser_end (Gparser.mk p.l rv262.2.at_ rv262.2.Err)) fun rv283 hg284 => ?_
   have hc285 := fn69 pP (Gparser.mk p.l rv262.2.at_ rv262.2.Err) pa0 pk0 pre pre pre rv283 hg284
   refine Oc [3, 1] ca69 hc285 ?_
   rintro - ⟨he286, he287, he288⟩
   unfold i64ok at he286 he287
   have he288 : (0 ≤ rv283.at_ ∧ rv283.at_ ≤ (p.l.length : Int)) := he288
   refine KS ?_
   refine Oq (VldA sh47 5) (Ost (Scl [1] sh47 [vi 2, .string (bs (Str.mk [])), vl a279 k280 ([rv250.1] ++ rv262.1), .slice none 0 0]) (KS ?_))
   refine Jl [4] (Ent.freeze _ _) ?_
   refine Jl [] (Ent.slNil (α := Str)) ?_
   have hq := q4 hrr ((GStmt.mk 2 (Str.mk []) ([rv250.1] ++ rv262.1) []), (Gparser.mk p.l rv283.at_ rv283.Err)) (by simp only [parser_stmt, h7, h246, h248, hg5, hg251, hg263, hg284, cs4]); subst hq
   exact Kr (vl a279 k280 ([rv250.1] ++ rv262.1), .slice none 0 0) rfl (.cellN 2 rfl sh47 rfl (reads_Cl _ _) rfl .nil) [1, 0, 3] en
 intro h248
 have g289 := ne_of_beq_false h248
 refine KS ?_
 refine Oq (VeqS (l := (Str.mk [])) (m := (Str.mk [99, 97, 108, 108]))) (Oq Va (KS ?_))
 refine Kc ?_ ?_
 · intro h290
   have g291 := eq_of_beq h290
   refine KS ?_
   refine Oq Vm ?_
   refine letv (parser_name p) fun rv292 hg293 => ?_
   have hc294 := fn68 pP p pa0 pk0 pre pre pre rv292 hg293
   refine Oc [0, 2] ca68 hc294 ?_
   rintro - ⟨he295, he296, he297, he298⟩
   unfold i64ok at he296 he297
   refine Oa (AsV sl45 sz45 [.string (bs rv292.1)] [.string (bs rv292.1)]) fun c299 => ?_
   refine Jo 0 ?_; rintro a300 k301 rfl
   refine Oq (Vfa fo47_0 2) (Ost (SclF [2] sh3 [vi 3, .string (bs (Str.mk [])), .slice none 0 0, .slice none 0 0]) (Oq (Vfa fo47_3 0) (Ost (SclF [0] sh45 [vi 3, .string (bs (Str.mk [])), .slice none 0 0, .slice a300 1 k301]) (KS ?_))))
   refine Oq Vm ?_
   refine letv (parser_end (Gparser.mk p.l rv292.2.at_ rv292.2.Err)) fun rv302 hg303 => ?_
   have hc304 := fn69 pP (Gparser.mk p.l rv292.2.at_ rv292.2.Err) pa0 pk0 pre pre pre rv302 hg303
   refine Oc [2, 3] ca69 hc304 ?_
   rintro - ⟨he305, he306, he307⟩
   unfold i64ok at he305 he306
   have he307 : (0 ≤ rv302.at_ ∧ rv302.at_ ≤ (p.l.length : Int)) := he307
   refine KS ?_
   refine Oq (VldA sh47 1) (Ost (Scl [3] sh47 [vi 3, .string (bs (Str.mk [])), .slice none 0 0, .slice a300 1 k301]) (KS ?_))
   refine Jl [3] (Ent.cr1 (α := Str) (A := []) _ rv292.1 _ (Nat.le_of_ble_eq_true rfl) (fun _ => ⟨rfl, by first | omega | (simp; done) | (dsimp only; omega) | exact lit_bl rfl⟩)) ?_
   refine Jl [0] (Ent.freeze _ _) ?_
   refine Jl [] (Ent.slNil (α := Str)) ?_
   have hq := q4 hrr ((GStmt.mk 3 (Str.mk []) [] [rv292.1]), (Gparser.mk p.l rv302.at_ rv302.Err)) (by simp only [parser_stmt, h7, h246, h248, h290, hg5, hg293, hg303, cs4]); subst hq
   exact Kr (.slice none 0 0, .slice a300 1 k301) rfl (.cellN 2 rfl sh47 rfl (reads_Cl _ _) rfl .nil) [0, 1, 3] en
 intro h290
 have g308 := ne_of_beq_false h290
 refine KS ?_
 refine Oq (VeqS (l := (Str.mk [])) (m := (Str.mk [115, 111, 117, 114, 99, 101]))) (Oq Va (KS ?_))
 refine Kc ?_ ?_
 · intro h309
   have g310 := eq_of_beq h309
   refine KS ?_
   refine Oq Vm ?_
   refine letv (parser_name p) fun rv311 hg312 => ?_
   have hc313 := fn68 pP p pa0 pk0 pre pre pre rv311 hg312
   refine Oc [0, 2] ca68 hc313 ?_
   rintro - ⟨he314, he315, he316, he317⟩
   unfold i64ok at he315 he316
   refine Oq (Vfa fo47_0 1) (Ost (SclF [1] sh3 [vi 4, .string (bs (Str.mk [])), .slice none 0 0, .slice none 0 0]) (Oq (Vfa fo47_1 0) (Ost (SclF [0] sh9 [vi 4, .string (bs rv311.1), .slice none 0 0, .slice none 0 0]) (KS ?_))))
   refine Oq Vm ?_
   refine letv (parser_end (Gparser.mk p.l rv311.2.at_ rv311.2.Err)) fun rv318 hg319 => ?_
   have hc320 := fn69 pP (Gparser.mk p.l rv311.2.at_ rv311.2.Err) pa0 pk0 pre pre pre rv318 hg319
   refine Oc [1, 2] ca69 hc320 ?_
   rintro - ⟨he321, he322, he323⟩
   unfold i64ok at he321 he322
   have he323 : (0 ≤ rv318.at_ ∧ rv318.at_ ≤ (p.l.length : Int)) := he323
   refine KS ?_
   refine Oq (VldA sh47 1) (Ost (Scl [2] sh47 [vi 4, .string (bs rv311.1), .slice none 0 0, .slice none 0 0]) (KS ?_))
   refine Jl [] (Ent.slNil (α := Str)) ?_
   have hq := q4 hrr ((GStmt.mk 4 rv311.1 [] []), (Gparser.mk p.l rv318.at_ rv318.Err)) (by simp only [parser_stmt, h7, h246, h248, h290, h309, hg5, hg312, hg319, cs4]); subst hq
   exact Kr (.slice none 0 0, .slice none 0 0) rfl (.cellN 1 rfl sh47 rfl (reads_Cl _ _) rfl .nil) [0, 0, 2] en
 intro h309
 have g324 := ne_of_beq_false h309
 refine KS ?_
 refine Oq (VeqS (l := (Str.mk [])) (m := (Str.mk [115, 105, 110, 107]))) (Oq Va (KS ?_))
 refine Kc ?_ ?_
 · intro h325
   have g326 := eq_of_beq h325
   refine KS ?_
   refine Oq Vm ?_
   refine letv (parser_name p) fun rv327 hg328 => ?_
   have hc329 := fn68 pP p pa0 pk0 pre pre pre rv327 hg328
   refine Oc [0, 2] ca68 hc329 ?_
   rintro - ⟨he330, he331, he332, he333⟩
   unfold i64ok at he331 he332
   refine Oa (AsV sl45 sz45 [.string (bs rv327.1)] [.string (bs rv327.1)]) fun c334 => ?_
   refine Jo 0 ?_; rintro a335 k336 rfl
   refine Oq (Vfa fo47_0 2) (Ost (SclF [2] sh3 [vi 5, .string (bs (Str.mk [])), .slice none 0 0, .slice none 0 0]) (Oq (Vfa fo47_2 0) (Ost (SclF [0] sh45 [vi 5, .string (bs (Str.mk [])), .slice a335 1 k336, .slice none 0 0]) (KS ?_))))
   refine Oq Vm ?_
   refine letv (parser_end (Gparser.mk p.l rv327.2.at_ rv327.2.Err)) fun rv337 hg338 => ?_
   have hc339 := fn69 pP (Gparser.mk p.l rv327.2.at_ rv327.2.Err) pa0 pk0 pre pre pre rv337 hg338
   refine Oc [2, 3] ca69 hc339 ?_
   rintro - ⟨he340, he341, he342⟩
   unfold i64ok at he340 he341
   have he342 : (0 ≤ rv337.at_ ∧ rv337.at_ ≤ (p.l.length : Int)) := he342
   refine KS ?_
   refine Oq (VldA sh47 1) (Ost (Scl [3] sh47 [vi 5, .string (bs (Str.mk [])), .slice a335 1 k336, .slice none 0 0]) (KS ?_))
   refine Jl [3] (Ent.cr1 (α := Str) (A := []) _ rv327.1 _ (Nat.le_of_ble_eq_true rfl) (fun _ => ⟨rfl, by first | omega | (simp; done) | (dsimp only; omega) | exact lit_bl rfl⟩)) ?_
   refine Jl [0] (Ent.freeze _ _) ?_
   refine Jl [] (Ent.slNil (α := Str)) ?_
   have hq := q4 hrr ((GStmt.mk 5 (Str.mk []) [rv327.1] []), (Gparser.mk p.l rv337.at_ rv337.Err)) (by simp only [parser_stmt, h7, h246, h248, h290, h309, h325, hg5, hg328, hg338, cs4]); subst hq
   exact Kr (.slice a335 1 k336, .slice none 0 0) rfl (.cellN 2 rfl sh47 rfl (reads_Cl _ _) rfl .nil) [1, 0, 3] en
 intro h325
 have g343 := ne_of_beq_false h325
 refine KS ?_
 refine Oq (VeqS (l := (Str.mk [])) (m := (Str.mk [115, 97, 110, 105, 116, 105, 122, 101]))) (Oq Va (KS ?_))
 refine Kc ?_ ?_
 · intro h344
   have g345 := eq_of_beq h344
   refine KS ?_
   refine Oq Vm ?_
   refine letv (parser_name p) fun rv346 hg347 => ?_
   have hc348 := fn68 pP p pa0 pk0 pre pre pre rv346 hg347
   refine Oc [0, 2] ca68 hc348 ?_
   rintro - ⟨he349, he350, he351, he352⟩
   unfold i64ok at he350 he351
   refine Oq (Vfa fo47_0 1) (Ost (SclF [1] sh3 [vi 6, .string (bs (Str.mk [])), .slice none 0 0, .slice none 0 0]) (Oq (Vfa fo47_1 0) (Ost (SclF [0] sh9 [vi 6, .string (bs rv346.1), .slice none 0 0, .slice none 0 0]) (KS ?_))))
   refine Oq Vm ?_
   refine letv (parser_end (Gparser.mk p.l rv346.2.at_ rv346.2.Err)) fun rv353 hg354 => ?_
   have hc355 := fn69 pP (Gparser.mk p.l rv346.2.at_ rv346.2.Err) pa0 pk0 pre pre pre rv353 hg354
   refine Oc [1, 2] ca69 hc355 ?_
   rintro - ⟨he356, he357, he358⟩
   unfold i64ok at he356 he357
   have he358 : (0 ≤ rv353.at_ ∧ rv353.at_ ≤ (p.l.length : Int)) := he358
   refine KS ?_
   refine Oq (VldA sh47 1) (Ost (Scl [2] sh47 [vi 6, .string (bs rv346.1), .slice none 0 0, .slice none 0 0]) (KS ?_))
   refine Jl [] (Ent.slNil (α := Str)) ?_
   have hq := q4 hrr ((GStmt.mk 6 rv346.1 [] []), (Gparser.mk p.l rv353.at_ rv353.Err)) (by simp only [parser_stmt, h7, h246, h248, h290, h309, h325, h344, hg5, hg347, hg354, cs4]); subst hq
   exact Kr (.slice none 0 0, .slice none 0 0) rfl (.cellN 1 rfl sh47 rfl (reads_Cl _ _) rfl .nil) [0, 0, 2] en
 intro h344
 have g359 := ne_of_beq_false h344
 refine KS ?_
 refine Oq (VeqS (l := (Str.mk [])) (m := (Str.mk [103, 111, 116, 111]))) (Oq Va (KS ?_))
 refine Kc ?_ ?_
 · intro h360
   have g361 := eq_of_beq h360
   refine KS ?_
   refine Oq Vm ?_
   refine letv (parser_name p) fun rv362 hg363 => ?_
   have hc364 := fn68 pP p pa0 pk0 pre pre pre rv362 hg363
   refine Oc [0, 2] ca68 hc364 ?_
   rintro - ⟨he365, he366, he367, he368⟩
   unfold i64ok at he366 he367
   refine Oa (AsV sl45 sz45 [.string (bs rv362.1)] [.string (bs rv362.1)]) fun c369 => ?_
   refine Jo 0 ?_; rintro a370 k371 rfl
   refine Oq (Vfa fo47_0 2) (Ost (SclF [2] sh3 [vi 7, .string (bs (Str.mk [])), .slice none 0 0, .slice none 0 0]) (Oq (Vfa fo47_3 0) (Ost (SclF [0] sh45 [vi 7, .string (bs (Str.mk [])), .slice none 0 0, .slice a370 1 k371]) (KS ?_))))
   refine Oq Vm ?_
   refine letv (parser_end (Gparser.mk p.l rv362.2.at_ rv362.2.Err)) fun rv372 hg373 => ?_
   have hc374 := fn69 pP (Gparser.mk p.l rv362.2.at_ rv362.2.Err) pa0 pk0 pre pre pre rv372 hg373
   refine Oc [2, 3] ca69 hc374 ?_
   rintro - ⟨he375, he376, he377⟩
   unfold i64ok at he375 he376
   have he377 : (0 ≤ rv372.at_ ∧ rv372.at_ ≤ (p.l.length : Int)) := he377
   refine KS ?_
   refine Oq (VldA sh47 1) (Ost (Scl [3] sh47 [vi 7, .string (bs (Str.mk [])), .slice none 0 0, .slice a370 1 k371]) (KS ?_))
   refine Jl [3] (Ent.cr1 (α := Str) (A := []) _ rv362.1 _ (Nat.le_of_ble_eq_true rfl) (fun _ => ⟨rfl, by first | omega | (simp; done) | (dsimp only; omega) | exact lit_bl rfl⟩)) ?_
   refine Jl [0] (Ent.freeze _ _) ?_
   refine Jl [] (Ent.slNil (α := Str)) ?_
   have hq := q4 hrr ((GStmt.mk 7 (Str.mk []) [] [rv362.1]), (Gparser.mk p.l rv372.at_ rv372.Err)) (by simp only [parser_stmt, h7, h246, h248, h290, h309, h325, h344, h360, hg5, hg363, hg373, cs4]); subst hq
   exact Kr (.slice none 0 0, .slice a370 1 k371) rfl (.cellN 2 rfl sh47 rfl (reads_Cl _ _) rfl .nil) [0, 1, 3] en
 intro h360
 have g378 := ne_of_beq_false h360
 refine KS ?_
 refine Oq (VeqS (l := (Str.mk [])) (m := (Str.mk [98, 114, 97, 110, 99, 104]))) (Oq Va (KS ?_))
 refine Kc ?_ ?_
 · intro h379
   have g380 := eq_of_beq h379
   refine KS ?_
   refine Oq Vm ?_
   refine letv (parser_name p) fun rv381 hg382 => ?_
   have hc383 := fn68 pP p pa0 pk0 pre pre pre rv381 hg382
   refine Oc [0, 2] ca68 hc383 ?_
   rintro - ⟨he384, he385, he386, he387⟩
   unfold i64ok at he385 he386
   refine Oa (AsV sl45 sz45 [.string (bs rv381.1)] [.string (bs rv381.1)]) fun c388 => ?_
   refine Jo 0 ?_; rintro a389 k390 rfl
   refine Oq (Vfa fo47_0 2) (Ost (SclF [2] sh3 [vi 8, .string (bs (Str.mk [])), .slice none 0 0, .slice none 0 0]) (Oq (Vfa fo47_2 0) (Ost (SclF [0] sh45 [vi 8, .string (bs (Str.mk [])), .slice a389 1 k390, .slice none 0 0]) (KS ?_))))
   refine Oq Vm ?_
   refine letv (parser_name (Gparser.mk p.l rv381.2.at_ rv381.2.Err)) fun rv391 hg392 => ?_
   have hc393 := fn68 pP (Gparser.mk p.l rv381.2.at_ rv381.2.Err) pa0 pk0 pre pre pre rv391 hg392
   refine Oc [2, 3] ca68 hc393 ?_
   rintro - ⟨he394, he395, he396, he397⟩
   unfold i64ok at he395 he396
   have he397 : (0 ≤ rv391.2.at_ ∧ rv391.2.at_ ≤ (p.l.length : Int)) := he397
   refine Oa (AsV sl45 sz45 [.string (bs rv391.1)] [.string (bs rv391.1)]) fun c398 => ?_
   refine Jo 0 ?_; rintro a399 k400 rfl
   refine Oq (Vfa fo47_3 2) (Ost (SclF [2] sh45 [vi 8, .string (bs (Str.mk [])), .slice a389 1 k390, .slice a399 1 k400]) (KS ?_))
   refine Jp 0 fun hp401 => ?_
   refine JK_drawK [0, 1, 0, 4, 12, 31, 63, 127] fmix ?_
   refine Dv [0] (Vfa fo47_3 0) (Dv [1] (VldF sh45 0) (Dv [] Vm ?_))
   refine letv (parser_name (Gparser.mk p.l rv391.2.at_ rv391.2.Err)) fun rv402 hg403 => ?_
   refine Dx [3, 6] [3] [2, 0, 1] (fun G => .string (bs rv402.1)) [fun G => SP.fact (rv402.1.b.length ≤ 140737488355328 ∧ i64ok rv402.2.at_ ∧ i64ok rv402.2.Err ∧ (0 ≤ rv402.2.at_ ∧ rv402.2.at_ ≤ ((Gparser.mk p.l rv391.2.at_ rv391.2.Err).l.length : Int))), fun G => Cl pP [vl pa0 pk0 p.l, vi rv402.2.at_, vi rv402.2.Err]] (fun G => xC [0, 0] ca68 (fn68 pP (Gparser.mk p.l rv391.2.at_ rv391.2.Err) pa0 pk0 pre pre pre rv402 hg403)) (Dx [] [] [0] (fun G => (G.g 4 0)) [fun G => Cr (G.g 4 0) 1 [.string (bs rv402.1)]] (fun G => xA (AsV sl45 sz45 [.string (bs rv402.1)] [.string (bs rv402.1)])) ?_)
   have hn406 := la ([rv391.1] : List Str) ([rv402.1] : List Str)
   refine Dx [2, 7, 9] [2, 9] [1, 0] (fun G => (G.g 5 0)) [fun G => os (G.g 5 0) (([rv391.1] ++ [rv402.1]) : List Str)] (fun G => by refine xf 1 rfl ?_; rintro ⟨he407, he408, he409, he410⟩; unfold i64ok at he408 he409; exact xp [0] rfl (Ent.cr1 (α := Str) (A := []) _ rv391.1 _ (Nat.le_of_ble_eq_true rfl) (fun _ => ⟨rfl, by first | omega | (simp; done) | (dsimp only; omega) | exact lit_bl rfl⟩)) (xp [2] rfl (Ent.cr1 (α := Str) (A := []) _ rv402.1 _ (Nat.le_of_ble_eq_true rfl) (fun _ => ⟨rfl, by first | omega | (simp; done) | (dsimp only; omega) | exact lit_bl rfl⟩)) (xA (ApO [1, 0] sl45 sl45 sz45)))) (Dv [0] (Vfa fo47_3 0) (Dx0 [1, 10] [1] [1, 0] [fun G => Cl p3 [vi 8, .string (bs (Str.mk [])), .slice a389 1 k390, (G.g 5 0)]] (fun G => x1 1 rfl os_one fun ho411 => (xS (OpS.frame [0] rfl (OpS.storeClF [(G.g 5 0)] [vi 8, .string (bs (Str.mk [])), .slice a389 1 k390, (G.g 5 0)] rfl rfl rfl sh45 (cells_of_one ho411) rfl (by simp only [List.all_cons, List.all_nil, ho411, Bool.and_true, Bool.true_and] <;> rfl) (Nat.le_of_ble_eq_true rfl) rfl)))) ?_))
   refine Dn ⟨by kernel_rfl, fun G => ?_⟩
   refine Jw2 [(0, pP), (2, p2), (3, p3)] [0, 4, 5, 6] [SP.fact (rv402.1.b.length ≤ 140737488355328 ∧ i64ok rv402.2.at_ ∧ i64ok rv402.2.Err ∧ (0 ≤ rv402.2.at_ ∧ rv402.2.at_ ≤ ((Gparser.mk p.l rv391.2.at_ rv391.2.Err).l.length : Int))), Cl pP [vl pa0 pk0 p.l, vi rv402.2.at_, vi rv402.2.Err], os (G.g 5 0) (([rv391.1] ++ [rv402.1]) : List Str), Cl p3 [vi 8, .string (bs (Str.mk [])), .slice a389 1 k390, (G.g 5 0)]] ?_
   generalize G.g 5 0 = c405
   refine Jf 4 rfl ?_; rintro ⟨he412, he413, he414, he415⟩
   unfold i64ok at he413 he414
   refine Jk [1, 1, 1, 3, 3, 3] ?_
   refine Jo 4 ?_; rintro a416 k417 rfl
   refine Fb 16 4 fun hl418 => ?_
   refine FoS 4 fun ho419 => ?_
   refine KS ?_
   refine Oq Vm ?_
   refine letv (parser_end (Gparser.mk p.l rv402.2.at_ rv402.2.Err)) fun rv420 hg421 => ?_
   have hc422 := fn69 pP (Gparser.mk p.l rv402.2.at_ rv402.2.Err) pa0 pk0 pre pre pre rv420 hg421
   refine Oc [3, 2] ca69 hc422 ?_
   rintro - ⟨he423, he424, he425⟩
   unfold i64ok at he423 he424
   have he425 : (0 ≤ rv420.at_ ∧ rv420.at_ ≤ (p.l.length : Int)) := he425
   refine KS ?_
   refine Oq (VldA sh47 5) (Ost (Scl [2] sh47 [vi 8, .string (bs (Str.mk [])), .slice a389 1 k390, vl a416 k417 ([rv391.1] ++ [rv402.1])]) (KS ?_))
   refine Jl [2] (Ent.cr1 (α := Str) (A := []) _ rv381.1 _ (Nat.le_of_ble_eq_true rfl) (fun _ => ⟨rfl, by first | omega | (simp; done) | (dsimp only; omega) | exact lit_bl rfl⟩)) ?_
   refine Jl [0] (Ent.freeze _ _) ?_
   refine Jl [4] (Ent.freeze _ _) ?_
   have hq := q4 hrr ((GStmt.mk 8 (Str.mk []) [rv381.1] ([rv391.1] ++ [rv402.1])), (Gparser.mk p.l rv420.at_ rv420.Err)) (by simp only [parser_stmt, h7, h246, h248, h290, h309, h325, h344, h360, h379, hg5, hg382, hg392, hg403, hg421, cs4]); subst hq
   exact Kr (.slice a389 1 k390, vl a416 k417 ([rv391.1] ++ [rv402.1])) rfl (.cellN 2 rfl sh47 rfl (reads_Cl _ _) rfl .nil) [1, 0, 3] en
 intro h379
 have g426 := ne_of_beq_false h379
 refine KS ?_
 refine Oq (VeqS (l := (Str.mk [])) (m := (Str.mk [114, 101, 116, 117, 114, 110]))) (Oq Va (KS ?_))
 refine Kc ?_ ?_
 · intro h427
   have g428 := eq_of_beq h427
   refine KS ?_
   refine Oq (Vfa fo47_0 1) (Ost (SclF [1] sh3 [vi 9, .string (bs (Str.mk [])), .slice none 0 0, .slice none 0 0]) (KS ?_))
   refine Oq Vm ?_
   refine letv (parser_end p) fun rv429 hg430 => ?_
   have hc431 := fn69 pP p pa0 pk0 pre pre pre rv429 hg430
   refine Oc [1, 2] ca69 hc431 ?_
   rintro - ⟨he432, he433, he434⟩
   unfold i64ok at he432 he433
   refine KS ?_
   refine Oq (VldA sh47 1) (Ost (Scl [2] sh47 [vi 9, .string (bs (Str.mk [])), .slice none 0 0, .slice none 0 0]) (KS ?_))
   refine Jl [] (Ent.slNil (α := Str)) ?_
   have hq := q4 hrr ((GStmt.mk 9 (Str.mk []) [] []), (Gparser.mk p.l rv429.at_ rv429.Err)) (by simp only [parser_stmt, h7, h246, h248, h290, h309, h325, h344, h360, h379, h427, hg5, hg430, cs4]); subst hq
   exact Kr (.slice none 0 0, .slice none 0 0) rfl (.cellN 1 rfl sh47 rfl (reads_Cl _ _) rfl .nil) [0, 0, 2] en
 intro h427
 have g435 := ne_of_beq_false h427
 refine KS ?_
 refine Oq Vm ?_
 refine letv (parser_name p) fun rv436 hg437 => ?_
 have hc438 := fn68 pP p pa0 pk0 pre pre pre rv436 hg437
 refine Oc [0, 2] ca68 hc438 ?_
 rintro - ⟨he439, he440, he441, he442⟩
 unfold i64ok at he440 he441
 refine Oq (Vfa fo47_0 1) (Ost (SclF [1] sh3 [vi 1, .string (bs (Str.mk [])), .slice none 0 0, .slice none 0 0]) (Oq (Vfa fo47_1 0) (Ost (SclF [0] sh9 [vi 1, .string (bs rv436.1), .slice none 0 0, .slice none 0 0]) (KS ?_))))
 refine Oq Vm ?_
 refine letv (parser_isKind (Gparser.mk p.l rv436.2.at_ rv436.2.Err) 2) fun rv443 hg444 => ?_
 have hc445 := fn80 pP (Gparser.mk p.l rv436.2.at_ rv436.2.Err) pa0 pk0 2 pre pre pre pre rv443 hg444
 refine Oc [1, 2] ca80 hc445 ?_
 rintro - -
 refine Oq Vnot (KS ?_)
 refine Kc ?_ ?_
 · intro h446
   have h448 := not_true h446
   refine KS ?_
   refine Oq Vm ?_
   refine letv (parser_fail (Gparser.mk p.l rv436.2.at_ rv436.2.Err) 4) fun rv450 hg451 => ?_
   have hc452 := fn53 pP (Gparser.mk p.l rv436.2.at_ rv436.2.Err) pa0 pk0 4 pre pre pre pre rv450 hg451
   refine Oc [0, 2] ca53 hc452 ?_
   rintro - ⟨he453, he454, he455⟩
   unfold i64ok at he453 he454
   have he455 : (0 ≤ rv450.at_ ∧ rv450.at_ ≤ (p.l.length : Int)) := he455
   refine KS ?_
   refine Oq (VldA sh47 1) (Ost (Scl [2] sh47 [vi 1, .string (bs rv436.1), .slice none 0 0, .slice none 0 0]) (KS ?_))
   refine Jl [] (Ent.slNil (α := Str)) ?_
   have hq := q4 hrr ((GStmt.mk 1 rv436.1 [] []), (Gparser.mk p.l rv450.at_ rv450.Err)) (by simp only [parser_stmt, h7, h246, h248, h290, h309, h325, h344, h360, h379, h427, h446, h448, hg5, hg437, hg444, hg451, cs4]); subst hq
   exact Kr (.slice none 0 0, .slice none 0 0) rfl (.cellN 1 rfl sh47 rfl (reads_Cl _ _) rfl .nil) [0, 0, 2] en
 intro h446
 have h457 := not_false h446
 try (have hlt := is_lt2 (by assumption : parser_is _ _ = rv443) h457; try dsimp only at hlt)
 try (have hlt := isName_lt2 (by assumption : parser_isName _ = rv443) h457; try dsimp only at hlt)
 try (have hlt := isKind_lt2 (by assumption : parser_isKind _ _ = rv443) h457; try dsimp only at hlt)
 refine KS ?_
 refine Oq Vm (Oq (Vn 0) (Oq (Vfa fo91_1 0) (Oq (VldF sh3 0) (Oq Vadd (Oq (Vn 0) (Oq (Vfa fo91_1 0) (Ost (SclF [0] sh3 [vl pa0 pk0 p.l, vi (rv436.2.at_ + 1), vi rv436.2.Err]) (KS ?_))))))))
 refine Oq Vm ?_
 refine letv (parser_names (Gparser.mk p.l (rv436.2.at_ + 1) rv436.2.Err)) fun rv460 hg461 => ?_
 have hc462 := fn87 pP (Gparser.mk p.l (rv436.2.at_ + 1) rv436.2.Err) pa0 pk0 pre pre pre rv460 hg461
 refine Oc [0, 2] ca87 hc462 ?_
 rintro c459 ⟨he463, he464, he465, he466⟩
 unfold i64ok at he463 he464
 have he465 : (0 ≤ rv460.2.at_ ∧ rv460.2.at_ ≤ (p.l.length : Int)) := he465
 refine Jo 0 ?_; rintro a467 k468 rfl
 refine Fb 16 0 fun hl469 => ?_
 refine FoS 0 fun ho470 => ?_
 refine Oq (Vfa fo47_2 2) (Ost (SclF [2] sh45 [vi 1, .string (bs rv436.1), vl a467 k468 rv460.1, .slice none 0 0]) (KS ?_))
 refine Oq Vm ?_
 refine letv (parser_end (Gparser.mk p.l rv460.2.at_ rv460.2.Err)) fun rv471 hg472 => ?_
 have hc473 := fn69 pP (Gparser.mk p.l rv460.2.at_ rv460.2.Err) pa0 pk0 pre pre pre rv471 hg472
 refine Oc [2, 3] ca69 hc473 ?_
 rintro - ⟨he474, he475, he476⟩
 unfold i64ok at he474 he475
 have he476 : (0 ≤ rv471.at_ ∧ rv471.at_ ≤ (p.l.length : Int)) := he476
 refine KS ?_
 refine Oq (VldA sh47 1) (Ost (Scl [3] sh47 [vi 1, .string (bs rv436.1), vl a467 k468 rv460.1, .slice none 0 0]) (KS ?_))
 refine Jl [] (Ent.slNil (α := Str)) ?_
 have hq := q4 hrr ((GStmt.mk 1 rv436.1 rv460.1 []), (Gparser.mk p.l rv471.at_ rv471.Err)) (by simp only [parser_stmt, h7, h246, h248, h290, h309, h325, h344, h360, h379, h427, h446, h457, hg5, hg437, hg444, hg461, hg472, cs4]); subst hq
 exact Kr (vl a467 k468 rv460.1, .slice none 0 0) rfl (.cellN 1 rfl sh47 rfl (reads_Cl _ _) rfl .nil) [4, 0, 2] en
theorem fn70 (pP : Value) (p : Gparser) (pa0 : Option Addr) (pk0 : Nat) (hp_1 : i64ok p.at_) (hp_2 : i64ok p.Err) (hpa : (0 ≤ p.at_ ∧ p.at_ ≤ (p.l.length : Int))) (rr : GBlock × Gparser) (hrr : parser_block p = rr) : FT Tryd.prog 70 #[pP] [Cl pP [vl pa0 pk0 p.l, vi p.at_, vi p.Err], S pa0 pk0 p.l] (fun g : Value => rr.1.Name.b.length ≤ 140737488355328 ∧ i64ok rr.2.at_ ∧ i64ok rr.2.Err ∧ (0 ≤ rr.2.at_ ∧ rr.2.at_ ≤ (p.l.length : Int))) (fun g => .agg #[.string (bs rr.1.Name), g]) (fun g => [sl g rr.1.Stmts, Cl pP [vl pa0 pk0 p.l, vi rr.2.at_, vi rr.2.Err]]) := by
 refine FTi Tryd.func70 fun w0 M0 F0 => ?_
 unfold i64ok at hp_1 hp_2
 refine Fb 40 1 fun hl1 => ?_
 refine KS ?_
 refine Oa (Al ze44 [.string (bs (Str.mk [])), .slice none 0 0]) fun p2 => KS ?_
 refine Oa (Al ze44 [.string (bs (Str.mk [])), .slice none 0 0]) fun p3 => KS ?_
 refine Oq Vm ?_
 refine letv (parser_word p (Str.mk [98, 108, 111, 99, 107])) fun rv4 hg5 => ?_
 have hc6 := fn67 pP p pa0 pk0 ((Str.mk [98, 108, 111, 99, 107])) pre pre pre pre rv4 hg5
 refine Oc [2, 2] ca67 hc6 ?_
 rintro - ⟨he7, he8, he9⟩
 unfold i64ok at he7 he8
 refine KS ?_
 refine Oq Vm ?_
 refine letv (parser_name (Gparser.mk p.l rv4.at_ rv4.Err)) fun rv10 hg11 => ?_
 have hc12 := fn68 pP (Gparser.mk p.l rv4.at_ rv4.Err) pa0 pk0 pre pre pre rv10 hg11
 refine Oc [0, 2] ca68 hc12 ?_
 rintro - ⟨he13, he14, he15, he16⟩
 unfold i64ok at he14 he15
 have he16 : (0 ≤ rv10.2.at_ ∧ rv10.2.at_ ≤ (p.l.length : Int)) := he16
 refine Oq (Vfa fo44_0 1) (Ost (SclF [1] sh9 [.string (bs rv10.1), .slice none 0 0]) (KS ?_))
 refine Oq Vm ?_
 refine letv (parser_end (Gparser.mk p.l rv10.2.at_ rv10.2.Err)) fun rv17 hg18 => ?_
 have hc19 := fn69 pP (Gparser.mk p.l rv10.2.at_ rv10.2.Err) pa0 pk0 pre pre pre rv17 hg18
 refine Oc [1, 2] ca69 hc19 ?_
 rintro - ⟨he20, he21, he22⟩
 unfold i64ok at he20 he21
 have he22 : (0 ≤ rv17.at_ ∧ rv17.at_ ≤ (p.l.length : Int)) := he22
 refine KS ?_
 refine Oq Vm ?_
 refine letv (parser_begins (Gparser.mk p.l rv17.at_ rv17.Err)) fun rv23 hg24 => ?_
 have hc25 := fn81 pP (Gparser.mk p.l rv17.at_ rv17.Err) pa0 pk0 pre pre pre rv23 hg24
 refine Oc [0, 2] ca81 hc25 ?_
 rintro - -
 refine Oq Vnot (KS ?_)
 refine Kc ?_ ?_
 · intro h26
   have h28 := not_true h26
   refine KS ?_
   refine Oq Vm ?_
   refine letv (parser_fail (Gparser.mk p.l rv17.at_ rv17.Err) 4) fun rv30 hg31 => ?_
   have hc32 := fn53 pP (Gparser.mk p.l rv17.at_ rv17.Err) pa0 pk0 4 pre pre pre pre rv30 hg31
   refine Oc [0, 2] ca53 hc32 ?_
   rintro - ⟨he33, he34, he35⟩
   unfold i64ok at he33 he34
   have he35 : (0 ≤ rv30.at_ ∧ rv30.at_ ≤ (p.l.length : Int)) := he35
   refine KS ?_
   refine Jl [] (Ent.osNil (α := GStmt)) ?_
   have hterm47 : parser_block_L0 p rv10.1 (p.l.length + 1) rv30.at_ rv30.Err [] ≠ LR.oof := (block_L0_adv _ _ _ _ (by omega)).1
   refine Kl (γ := Nat × Int × Int × List GStmt × Option Addr × Nat) (fun (r36, p1_37, p2_38, b1_39, a40, k41) => ⟨[(0, pP), (2, p2), (3, p3)], [O a40 k41 b1_39, Cl pP [vl pa0 pk0 p.l, vi p1_37, vi p2_38], Cl p3 [.string (bs rv10.1), vl a40 k41 b1_39], Cl p2 [.string (bs (Str.mk [])), .slice none 0 0], S pa0 pk0 p.l], parser_block_L0 p rv10.1 r36 p1_37 p2_38 b1_39 = parser_block_L0 p rv10.1 (p.l.length + 1) rv30.at_ rv30.Err [] ∧ (-9223372036854775808 ≤ p1_37 ∧ p1_37 ≤ 9223372036854775807) ∧ (-9223372036854775808 ≤ p2_38 ∧ p2_38 ≤ 9223372036854775807) ∧ (0 ≤ p1_37 ∧ p1_37 ≤ (p.l.length : Int)) ∧ (b1_39.length ≤ 32), r36⟩) ((p.l.length + 1), rv30.at_, rv30.Err, [], none, 0) [0, 0, 0, 0, 0] ⟨rfl, (by omega), (by omega), iv0, iv0⟩ ?_
   rintro ⟨r36, p1_37, p2_38, b1_39, a40, k41⟩ ⟨hM42, hk43, hk44, hv45, hv46⟩
   refine JJ_nx fun _ _ hL hA => ?_; dsimp only at hL hA; subst hL hA
   refine Fb 72 0 fun hl48 => ?_
   refine Fb 40 4 fun hl49 => ?_
   rcases r36 with _ | r36
   · exact absurd (hM42.symm.trans rfl) hterm47
   refine KS ?_
   refine Oq Vm ?_
   refine letv (parser_begins (Gparser.mk p.l p1_37 p2_38)) fun rv50 hg51 => ?_
   have hc52 := fn81 pP (Gparser.mk p.l p1_37 p2_38) pa0 pk0 pre pre pre rv50 hg51
   refine Oc [1, 3] ca81 hc52 ?_
   rintro - -
   refine KS ?_
   refine Kc ?_ ?_
   · intro h53
     refine KS ?_
     refine Oq (Vfa fo44_1 2) (Oq (VldF sh42 2) (Oq (Vlen sl42) (Oq Veql (KS ?_))))
     refine Kc ?_ ?_
     · intro h55
       have g56 := eq_of_beq h55
       refine KS ?_
       refine Oq Vm ?_
       refine letv (parser_fail (Gparser.mk p.l p1_37 p2_38) 7) fun rv57 hg58 => ?_
       have hc59 := fn53 pP (Gparser.mk p.l p1_37 p2_38) pa0 pk0 7 pre pre pre pre rv57 hg58
       refine Oc [0, 3] ca53 hc59 ?_
       rintro - ⟨he60, he61, he62⟩
       unfold i64ok at he60 he61
       have he62 : (0 ≤ rv57.at_ ∧ rv57.at_ ≤ (p.l.length : Int)) := he62
       refine KS ?_
       refine Oq (VldA sh44 2) (Ost (Scl [3] sh44 [.string (bs rv10.1), vl a40 k41 b1_39]) (KS ?_))
       refine Jl [2] (Ent.freeze _ _) ?_
       have hR63 := q2 hM42 (.ret ((GBlock.mk rv10.1 b1_39), (Gparser.mk p.l rv57.at_ rv57.Err))) (by simp only [parser_block_L0, h26, h28, h53, h55, hg5, hg11, hg18, hg24, hg31, hg51, hg58, cs4])
       have hq := q4 hrr ((GBlock.mk rv10.1 b1_39), (Gparser.mk p.l rv57.at_ rv57.Err)) (by simp only [parser_block, h26, h28, h53, h55, hg5, hg11, hg18, hg24, hg31, hg51, hg58, hR63, cs4]); subst hq
       exact Kr (vl a40 k41 b1_39) rfl (.cellN 1 rfl sh44 rfl (reads_Cl _ _) rfl .nil) [0, 2] en
     intro h55
     have g64 := ne_of_beq_false h55
     refine KS ?_
     refine Jp 2 fun hp65 => ?_
     refine JK_drawK [0, 1, 0, 4, 12, 31, 63, 127] fmix ?_
     refine Dv [0] (Vfa fo44_1 0) (Dv [3] (VldF sh42 0) (Dv [] Vm ?_))
     refine letv (parser_stmt (Gparser.mk p.l p1_37 p2_38)) fun rv68 hg69 => ?_
     refine Dx [1, 5] [1] [4, 0, 1, 2, 3] (fun G => .agg #[vi rv68.1.Op, .string (bs rv68.1.Def), (G.g 3 0), (G.g 3 1)]) [fun G => SP.fact (i64ok rv68.1.Op ∧ rv68.1.Def.b.length ≤ 140737488355328 ∧ i64ok rv68.2.at_ ∧ i64ok rv68.2.Err ∧ (0 ≤ rv68.2.at_ ∧ rv68.2.at_ ≤ ((Gparser.mk p.l p1_37 p2_38).l.length : Int))), fun G => sl (G.g 3 0) rv68.1.Uses, fun G => sl (G.g 3 1) rv68.1.Targets, fun G => Cl pP [vl pa0 pk0 p.l, vi rv68.2.at_, vi rv68.2.Err]] (fun G => xC [0, 0] ca82 (fn82 pP (Gparser.mk p.l p1_37 p2_38) pa0 pk0 pre pre pre (by simp only [h26, h28, h53, h55, hg5, hg11, hg18, hg24, hg31, hg51]) rv68 hg69)) (Dx [] [] [0] (fun G => (G.g 4 0)) [fun G => Cr (G.g 4 0) 1 [vi rv68.1.Op, .string (bs rv68.1.Def), (G.g 3 0), (G.g 3 1)]] (fun G => xA (AsV sl42 sz42 [.agg #[vi rv68.1.Op, .string (bs rv68.1.Def), (G.g 3 0), (G.g 3 1)]] [vi rv68.1.Op, .string (bs rv68.1.Def), (G.g 3 0), (G.g 3 1)])) ?_)
     have hn72 := la b1_39 ([rv68.1] : List GStmt)
     refine Dx [2, 6, 7, 8, 10] [2, 10] [3, 1, 2, 0] (fun G => (G.g 5 0)) [fun G => os (G.g 5 0) ((b1_39 ++ [rv68.1]) : List GStmt)] (fun G => by refine xf 1 rfl ?_; rintro ⟨he73, he74, he75, he76, he77⟩; unfold i64ok at he73 he75 he76; exact xp [4, 2, 3] rfl (Ent.cr1 (α := GStmt) (A := [sl (G.g 3 0) rv68.1.Uses, sl (G.g 3 1) rv68.1.Targets]) _ rv68.1 _ (Nat.le_of_ble_eq_true rfl) (fun h => ⟨_, _, rfl, (by unfold i64ok; first | omega | (dsimp only; omega)), (by first | omega | (simp; done) | (dsimp only; omega) | exact lit_bl rfl), sepAll_get (i := 0) rfl h, sepAll_get (i := 1) rfl h⟩)) (xA (ApO [3, 0] sl42 sl42 sz42))) (Dv [0] (Vfa fo44_1 0) (Dx0 [3, 11] [3] [1, 0] [fun G => Cl p3 [.string (bs rv10.1), (G.g 5 0)]] (fun G => x1 1 rfl os_one fun ho78 => (xS (OpS.frame [0] rfl (OpS.storeClF [(G.g 5 0)] [.string (bs rv10.1), (G.g 5 0)] rfl rfl rfl sh42 (cells_of_one ho78) rfl (by simp only [List.all_cons, List.all_nil, ho78, Bool.and_true, Bool.true_and] <;> rfl) (Nat.le_of_ble_eq_true rfl) rfl)))) ?_))
     refine Dn ⟨by kernel_rfl, fun G => ?_⟩
     refine Jw2 [(0, pP), (2, p2), (3, p3)] [0, 4, 5] [SP.fact (i64ok rv68.1.Op ∧ rv68.1.Def.b.length ≤ 140737488355328 ∧ i64ok rv68.2.at_ ∧ i64ok rv68.2.Err ∧ (0 ≤ rv68.2.at_ ∧ rv68.2.at_ ≤ ((Gparser.mk p.l p1_37 p2_38).l.length : Int))), sl (G.g 3 0) rv68.1.Uses, sl (G.g 3 1) rv68.1.Targets, Cl pP [vl pa0 pk0 p.l, vi rv68.2.at_, vi rv68.2.Err], os (G.g 5 0) ((b1_39 ++ [rv68.1]) : List GStmt), Cl p3 [.string (bs rv10.1), (G.g 5 0)]] ?_
     generalize G.g 3 0 = c66, G.g 3 1 = c67, G.g 5 0 = c71
     refine Jf 3 rfl ?_; rintro ⟨he79, he80, he81, he82, he83⟩
     unfold i64ok at he79 he81 he82
     refine Jk [1, 1, 3, 4, 5, 5, 5] ?_
     refine Jo 2 ?_; rintro a84 k85 rfl
     refine Fb 16 2 fun hl86 => ?_
     refine FoS 2 fun ho87 => ?_
     refine Jo 3 ?_; rintro a88 k89 rfl
     refine Fb 16 3 fun hl90 => ?_
     refine FoS 3 fun ho91 => ?_
     refine Jo 5 ?_; rintro a92 k93 rfl
     refine Fb 72 5 fun hl94 => ?_
     refine KS ?_
     exact Kg (r36, rv68.2.at_, rv68.2.Err, (b1_39 ++ [rv68.1]), a92, k93) [5, 4, 4, 0, 0] ⟨(q3 hM42 (by simp only [parser_block_L0, h26, h28, h53, h55, hg5, hg11, hg18, hg24, hg31, hg51, hg69, cs4])), (by omega), (by omega), iv1, iv1⟩
   intro h53
   refine Ke ?_
   have hR96 := q2 hM42 (.brk (p1_37, p2_38, b1_39)) (by simp only [parser_block_L0, h26, h28, h53, hg5, hg11, hg18, hg24, hg31, hg51, cs4])
   refine KS ?_
   refine Oq (VldA sh44 2) (Ost (Scl [3] sh44 [.string (bs rv10.1), vl a40 k41 b1_39]) (KS ?_))
   refine Jl [2] (Ent.freeze _ _) ?_
   have hq := q4 hrr ((GBlock.mk rv10.1 b1_39), (Gparser.mk p.l p1_37 p2_38)) (by simp only [parser_block, h26, h28, h53, hg5, hg11, hg18, hg24, hg31, hg51, hR96, cs4]); subst hq
   exact Kr (vl a40 k41 b1_39) rfl (.cellN 1 rfl sh44 rfl (reads_Cl _ _) rfl .nil) [0, 2] en
 intro h26
 have h98 := not_false h26
 refine KS ?_
 refine Jl [] (Ent.osNil (α := GStmt)) ?_
 have hterm111 : parser_block_L0 p rv10.1 (p.l.length + 1) rv17.at_ rv17.Err [] ≠ LR.oof := (block_L0_adv _ _ _ _ (by omega)).1
 refine Kl (γ := Nat × Int × Int × List GStmt × Option Addr × Nat) (fun (r100, p1_101, p2_102, b1_103, a104, k105) => ⟨[(0, pP), (2, p2), (3, p3)], [O a104 k105 b1_103, Cl pP [vl pa0 pk0 p.l, vi p1_101, vi p2_102], Cl p3 [.string (bs rv10.1), vl a104 k105 b1_103], Cl p2 [.string (bs (Str.mk [])), .slice none 0 0], S pa0 pk0 p.l], parser_block_L0 p rv10.1 r100 p1_101 p2_102 b1_103 = parser_block_L0 p rv10.1 (p.l.length + 1) rv17.at_ rv17.Err [] ∧ (-9223372036854775808 ≤ p1_101 ∧ p1_101 ≤ 9223372036854775807) ∧ (-9223372036854775808 ≤ p2_102 ∧ p2_102 ≤ 9223372036854775807) ∧ (0 ≤ p1_101 ∧ p1_101 ≤ (p.l.length : Int)) ∧ (b1_103.length ≤ 32), r100⟩) ((p.l.length + 1), rv17.at_, rv17.Err, [], none, 0) [0, 0, 0, 0, 0] ⟨rfl, (by omega), (by omega), iv0, iv0⟩ ?_
 rintro ⟨r100, p1_101, p2_102, b1_103, a104, k105⟩ ⟨hM106, hk107, hk108, hv109, hv110⟩
 refine JJ_nx fun _ _ hL hA => ?_; dsimp only at hL hA; subst hL hA
 refine Fb 72 0 fun hl112 => ?_
 refine Fb 40 4 fun hl113 => ?_
 rcases r100 with _ | r100
 · exact absurd (hM106.symm.trans rfl) hterm111
 refine KS ?_
 refine Oq Vm ?_
 refine letv (parser_begins (Gparser.mk p.l p1_101 p2_102)) fun rv114 hg115 => ?_
 have hc116 := fn81 pP (Gparser.mk p.l p1_101 p2_102) pa0 pk0 pre pre pre rv114 hg115
 refine Oc [1, 3] ca81 hc116 ?_
 rintro - -
 refine KS ?_
 refine Kc ?_ ?_
 · intro h117
   refine KS ?_
   refine Oq (Vfa fo44_1 2) (Oq (VldF sh42 2) (Oq (Vlen sl42) (Oq Veql (KS ?_))))
   refine Kc ?_ ?_
   · intro h119
     have g120 := eq_of_beq h119
     refine KS ?_
     refine Oq Vm ?_
     refine letv (parser_fail (Gparser.mk p.l p1_101 p2_102) 7) fun rv121 hg122 => ?_
     have hc123 := fn53 pP (Gparser.mk p.l p1_101 p2_102) pa0 pk0 7 pre pre pre pre rv121 hg122
     refine Oc [0, 3] ca53 hc123 ?_
     rintro - ⟨he124, he125, he126⟩
     unfold i64ok at he124 he125
     have he126 : (0 ≤ rv121.at_ ∧ rv121.at_ ≤ (p.l.length : Int)) := he126
     refine KS ?_
     refine Oq (VldA sh44 2) (Ost (Scl [3] sh44 [.string (bs rv10.1), vl a104 k105 b1_103]) (KS ?_))
     refine Jl [2] (Ent.freeze _ _) ?_
     have hR127 := q2 hM106 (.ret ((GBlock.mk rv10.1 b1_103), (Gparser.mk p.l rv121.at_ rv121.Err))) (by simp only [parser_block_L0, h26, h98, h117, h119, hg5, hg11, hg18, hg24, hg115, hg122, cs4])
     have hq := q4 hrr ((GBlock.mk rv10.1 b1_103), (Gparser.mk p.l rv121.at_ rv121.Err)) (by simp only [parser_block, h26, h98, h117, h119, hg5, hg11, hg18, hg24, hg115, hg122, hR127, cs4]); subst hq
     exact Kr (vl a104 k105 b1_103) rfl (.cellN 1 rfl sh44 rfl (reads_Cl _ _) rfl .nil) [0, 2] en
   intro h119
   have g128 := ne_of_beq_false h119
   refine KS ?_
   refine Jp 2 fun hp129 => ?_
   refine JK_drawK [0, 1, 0, 4, 12, 31, 63, 127] fmix ?_
   refine Dv [0] (Vfa fo44_1 0) (Dv [3] (VldF sh42 0) (Dv [] Vm ?_))
   refine letv (parser_stmt (Gparser.mk p.l p1_101 p2_102)) fun rv132 hg133 => ?_
   refine Dx [1, 5] [1] [4, 0, 1, 2, 3] (fun G => .agg #[vi rv132.1.Op, .string (bs rv132.1.Def), (G.g 3 0), (G.g 3 1)]) [fun G => SP.fact (i64ok rv132.1.Op ∧ rv132.1.Def.b.length ≤ 140737488355328 ∧ i64ok rv132.2.at_ ∧ i64ok rv132.2.Err ∧ (0 ≤ rv132.2.at_ ∧ rv132.2.at_ ≤ ((Gparser.mk p.l p1_101 p2_102).l.length : Int))), fun G => sl (G.g 3 0) rv132.1.Uses, fun G => sl (G.g 3 1) rv132.1.Targets, fun G => Cl pP [vl pa0 pk0 p.l, vi rv132.2.at_, vi rv132.2.Err]] (fun G => xC [0, 0] ca82 (fn82 pP (Gparser.mk p.l p1_101 p2_102) pa0 pk0 pre pre pre (by simp only [h26, h98, h117, h119, hg5, hg11, hg18, hg24, hg115]) rv132 hg133)) (Dx [] [] [0] (fun G => (G.g 4 0)) [fun G => Cr (G.g 4 0) 1 [vi rv132.1.Op, .string (bs rv132.1.Def), (G.g 3 0), (G.g 3 1)]] (fun G => xA (AsV sl42 sz42 [.agg #[vi rv132.1.Op, .string (bs rv132.1.Def), (G.g 3 0), (G.g 3 1)]] [vi rv132.1.Op, .string (bs rv132.1.Def), (G.g 3 0), (G.g 3 1)])) ?_)
   have hn136 := la b1_103 ([rv132.1] : List GStmt)
   refine Dx [2, 6, 7, 8, 10] [2, 10] [3, 1, 2, 0] (fun G => (G.g 5 0)) [fun G => os (G.g 5 0) ((b1_103 ++ [rv132.1]) : List GStmt)] (fun G => by refine xf 1 rfl ?_; rintro ⟨he137, he138, he139, he140, he141⟩; unfold i64ok at he137 he139 he140; exact xp [4, 2, 3] rfl (Ent.cr1 (α := GStmt) (A := [sl (G.g 3 0) rv132.1.Uses, sl (G.g 3 1) rv132.1.Targets]) _ rv132.1 _ (Nat.le_of_ble_eq_true rfl) (fun h => ⟨_, _, rfl, (by unfold i64ok; first | omega | (dsimp only; omega)), (by first | omega | (simp; done) | (dsimp only; omega) | exact lit_bl rfl), sepAll_get (i := 0) rfl h, sepAll_get (i := 1) rfl h⟩)) (xA (ApO [3, 0] sl42 sl42 sz42))) (Dv [0] (Vfa fo44_1 0) (Dx0 [3, 11] [3] [1, 0] [fun G => Cl p3 [.string (bs rv10.1), (G.g 5 0)]] (fun G => x1 1 rfl os_one fun ho142 => (xS (OpS.frame [0] rfl (OpS.storeClF [(G.g 5 0)] [.string (bs rv10.1), (G.g 5 0)] rfl rfl rfl sh42 (cells_of_one ho142) rfl (by simp only [List.all_cons, List.all_nil, ho142, Bool.and_true, Bool.true_and] <;> rfl) (Nat.le_of_ble_eq_true rfl) rfl)))) ?_))
   refine Dn ⟨by kernel_rfl, fun G => ?_⟩
   refine Jw2 [(0, pP), (2, p2), (3, p3)] [0, 4, 5] [SP.fact (i64ok rv132.1.Op ∧ rv132.1.Def.b.length ≤ 140737488355328 ∧ i64ok rv132.2.at_ ∧ i64ok rv132.2.Err ∧ (0 ≤ rv132.2.at_ ∧ rv132.2.at_ ≤ ((Gparser.mk p.l p1_101 p2_102).l.length : Int))), sl (G.g 3 0) rv132.1.Uses, sl (G.g 3 1) rv132.1.Targets, Cl pP [vl pa0 pk0 p.l, vi rv132.2.at_, vi rv132.2.Err], os (G.g 5 0) ((b1_103 ++ [rv132.1]) : List GStmt), Cl p3 [.string (bs rv10.1), (G.g 5 0)]] ?_
   generalize G.g 3 0 = c130, G.g 3 1 = c131, G.g 5 0 = c135
   refine Jf 3 rfl ?_; rintro ⟨he143, he144, he145, he146, he147⟩
   unfold i64ok at he143 he145 he146
   refine Jk [1, 1, 3, 4, 5, 5, 5] ?_
   refine Jo 2 ?_; rintro a148 k149 rfl
   refine Fb 16 2 fun hl150 => ?_
   refine FoS 2 fun ho151 => ?_
   refine Jo 3 ?_; rintro a152 k153 rfl
   refine Fb 16 3 fun hl154 => ?_
   refine FoS 3 fun ho155 => ?_
   refine Jo 5 ?_; rintro a156 k157 rfl
   refine Fb 72 5 fun hl158 => ?_
   refine KS ?_
   exact Kg (r100, rv132.2.at_, rv132.2.Err, (b1_103 ++ [rv132.1]), a156, k157) [5, 4, 4, 0, 0] ⟨(q3 hM106 (by simp only [parser_block_L0, h26, h98, h117, h119, hg5, hg11, hg18, hg24, hg115, hg133, cs4])), (by omega), (by omega), iv1, iv1⟩
 intro h117
 refine Ke ?_
 have hR160 := q2 hM106 (.brk (p1_101, p2_102, b1_103)) (by simp only [parser_block_L0, h26, h98, h117, hg5, hg11, hg18, hg24, hg115, cs4])
 refine KS ?_
 refine Oq (VldA sh44 2) (Ost (Scl [3] sh44 [.string (bs rv10.1), vl a104 k105 b1_103]) (KS ?_))
 refine Jl [2] (Ent.freeze _ _) ?_
 have hq := q4 hrr ((GBlock.mk rv10.1 b1_103), (Gparser.mk p.l p1_101 p2_102)) (by simp only [parser_block, h26, h98, h117, hg5, hg11, hg18, hg24, hg115, hR160, cs4]); subst hq
 exact Kr (vl a104 k105 b1_103) rfl (.cellN 1 rfl sh44 rfl (reads_Cl _ _) rfl .nil) [0, 2] en
theorem fn54 (pP : Value) (p : Gparser) (pa0 : Option Addr) (pk0 : Nat) (hp_1 : i64ok p.at_) (hp_2 : i64ok p.Err) (hpa : (0 ≤ p.at_ ∧ p.at_ ≤ (p.l.length : Int))) (rr : GFunc × Gparser) (hrr : parser_function p = rr) : FT Tryd.prog 54 #[pP] [Cl pP [vl pa0 pk0 p.l, vi p.at_, vi p.Err], S pa0 pk0 p.l] (fun g : Value => rr.1.Name.b.length ≤ 140737488355328 ∧ i64ok rr.2.at_ ∧ i64ok rr.2.Err ∧ (0 ≤ rr.2.at_ ∧ rr.2.at_ ≤ (p.l.length : Int))) (fun g => .agg #[.string (bs rr.1.Name), g]) (fun g => [sl g rr.1.Blocks, Cl pP [vl pa0 pk0 p.l, vi rr.2.at_, vi rr.2.Err]]) := by
 refine FTi Tryd.func54 fun w0 M0 F0 => ?_
 unfold i64ok at hp_1 hp_2
 refine Fb 40 1 fun hl1 => ?_
 refine KS ?_
 refine Oa (Al ze41 [.string (bs (Str.mk [])), .slice none 0 0]) fun p2 => KS ?_
 refine Oa (Al ze41 [.string (bs (Str.mk [])), .slice none 0 0]) fun p3 => KS ?_
 refine Oq Vm ?_
 refine letv (parser_word p (Str.mk [102, 117, 110, 99])) fun rv4 hg5 => ?_
 have hc6 := fn67 pP p pa0 pk0 ((Str.mk [102, 117, 110, 99])) pre pre pre pre rv4 hg5
 refine Oc [2, 2] ca67 hc6 ?_
 rintro - ⟨he7, he8, he9⟩
 unfold i64ok at he7 he8
 refine KS ?_
 refine Oq Vm ?_
 refine letv (parser_name (Gparser.mk p.l rv4.at_ rv4.Err)) fun rv10 hg11 => ?_
 have hc12 := fn68 pP (Gparser.mk p.l rv4.at_ rv4.Err) pa0 pk0 pre pre pre rv10 hg11
 refine Oc [0, 2] ca68 hc12 ?_
 rintro - ⟨he13, he14, he15, he16⟩
 unfold i64ok at he14 he15
 have he16 : (0 ≤ rv10.2.at_ ∧ rv10.2.at_ ≤ (p.l.length : Int)) := he16
 refine Oq (Vfa fo41_0 1) (Ost (SclF [1] sh9 [.string (bs rv10.1), .slice none 0 0]) (KS ?_))
 refine Oq Vm ?_
 refine letv (parser_end (Gparser.mk p.l rv10.2.at_ rv10.2.Err)) fun rv17 hg18 => ?_
 have hc19 := fn69 pP (Gparser.mk p.l rv10.2.at_ rv10.2.Err) pa0 pk0 pre pre pre rv17 hg18
 refine Oc [1, 2] ca69 hc19 ?_
 rintro - ⟨he20, he21, he22⟩
 unfold i64ok at he20 he21
 have he22 : (0 ≤ rv17.at_ ∧ rv17.at_ ≤ (p.l.length : Int)) := he22
 refine KS ?_
 refine Oq Vm ?_
 refine letv (parser_is (Gparser.mk p.l rv17.at_ rv17.Err) (Str.mk [98, 108, 111, 99, 107])) fun rv23 hg24 => ?_
 have hc25 := fn52 pP (Gparser.mk p.l rv17.at_ rv17.Err) pa0 pk0 ((Str.mk [98, 108, 111, 99, 107])) pre pre pre pre rv23 hg24
 refine Oc [0, 2] ca52 hc25 ?_
 rintro - -
 refine Oq Vnot (KS ?_)
 refine Kc ?_ ?_
 · intro h26
   have h28 := not_true h26
   refine KS ?_
   refine Oq Vm ?_
   refine letv (parser_fail (Gparser.mk p.l rv17.at_ rv17.Err) 4) fun rv30 hg31 => ?_
   have hc32 := fn53 pP (Gparser.mk p.l rv17.at_ rv17.Err) pa0 pk0 4 pre pre pre pre rv30 hg31
   refine Oc [0, 2] ca53 hc32 ?_
   rintro - ⟨he33, he34, he35⟩
   unfold i64ok at he33 he34
   have he35 : (0 ≤ rv30.at_ ∧ rv30.at_ ≤ (p.l.length : Int)) := he35
   refine KS ?_
   refine Jl [] (Ent.osNil (α := GBlock)) ?_
   have hterm47 : parser_function_L0 p rv10.1 (p.l.length + 1) rv30.at_ rv30.Err [] ≠ LR.oof := (function_L0_adv _ _ _ _ (by omega)).1
   refine Kl (γ := Nat × Int × Int × List GBlock × Option Addr × Nat) (fun (r36, p1_37, p2_38, f1_39, a40, k41) => ⟨[(0, pP), (2, p2), (3, p3)], [O a40 k41 f1_39, Cl pP [vl pa0 pk0 p.l, vi p1_37, vi p2_38], Cl p3 [.string (bs rv10.1), vl a40 k41 f1_39], Cl p2 [.string (bs (Str.mk [])), .slice none 0 0], S pa0 pk0 p.l], parser_function_L0 p rv10.1 r36 p1_37 p2_38 f1_39 = parser_function_L0 p rv10.1 (p.l.length + 1) rv30.at_ rv30.Err [] ∧ (-9223372036854775808 ≤ p1_37 ∧ p1_37 ≤ 9223372036854775807) ∧ (-9223372036854775808 ≤ p2_38 ∧ p2_38 ≤ 9223372036854775807) ∧ (0 ≤ p1_37 ∧ p1_37 ≤ (p.l.length : Int)) ∧ (f1_39.length ≤ 16), r36⟩) ((p.l.length + 1), rv30.at_, rv30.Err, [], none, 0) [0, 0, 0, 0, 0] ⟨rfl, (by omega), (by omega), iv0, iv0⟩ ?_
   rintro ⟨r36, p1_37, p2_38, f1_39, a40, k41⟩ ⟨hM42, hk43, hk44, hv45, hv46⟩
   refine JJ_nx fun _ _ hL hA => ?_; dsimp only at hL hA; subst hL hA
   refine Fb 40 0 fun hl48 => ?_
   refine Fb 40 4 fun hl49 => ?_
   rcases r36 with _ | r36
   · exact absurd (hM42.symm.trans rfl) hterm47
   refine KS ?_
   refine Oq Vm ?_
   refine letv (parser_is (Gparser.mk p.l p1_37 p2_38) (Str.mk [98, 108, 111, 99, 107])) fun rv50 hg51 => ?_
   have hc52 := fn52 pP (Gparser.mk p.l p1_37 p2_38) pa0 pk0 ((Str.mk [98, 108, 111, 99, 107])) pre pre pre pre rv50 hg51
   refine Oc [1, 3] ca52 hc52 ?_
   rintro - -
   refine KS ?_
   refine Kc ?_ ?_
   · intro h53
     refine KS ?_
     refine Oq (Vfa fo41_1 2) (Oq (VldF sh39 2) (Oq (Vlen sl39) (Oq Veql (KS ?_))))
     refine Kc ?_ ?_
     · intro h55
       have g56 := eq_of_beq h55
       refine KS ?_
       refine Oq Vm ?_
       refine letv (parser_fail (Gparser.mk p.l p1_37 p2_38) 7) fun rv57 hg58 => ?_
       have hc59 := fn53 pP (Gparser.mk p.l p1_37 p2_38) pa0 pk0 7 pre pre pre pre rv57 hg58
       refine Oc [0, 3] ca53 hc59 ?_
       rintro - ⟨he60, he61, he62⟩
       unfold i64ok at he60 he61
       have he62 : (0 ≤ rv57.at_ ∧ rv57.at_ ≤ (p.l.length : Int)) := he62
       refine KS ?_
       refine Oq (VldA sh41 2) (Ost (Scl [3] sh41 [.string (bs rv10.1), vl a40 k41 f1_39]) (KS ?_))
       refine Jl [2] (Ent.freeze _ _) ?_
       have hR63 := q2 hM42 (.ret ((GFunc.mk rv10.1 f1_39), (Gparser.mk p.l rv57.at_ rv57.Err))) (by simp only [parser_function_L0, h26, h28, h53, h55, hg5, hg11, hg18, hg24, hg31, hg51, hg58, cs4])
       have hq := q4 hrr ((GFunc.mk rv10.1 f1_39), (Gparser.mk p.l rv57.at_ rv57.Err)) (by simp only [parser_function, h26, h28, h53, h55, hg5, hg11, hg18, hg24, hg31, hg51, hg58, hR63, cs4]); subst hq
       exact Kr (vl a40 k41 f1_39) rfl (.cellN 1 rfl sh41 rfl (reads_Cl _ _) rfl .nil) [0, 2] en
     intro h55
     have g64 := ne_of_beq_false h55
     refine KS ?_
     refine Jp 2 fun hp65 => ?_
     refine JK_drawK [0, 1, 0, 4, 12, 31, 63, 127] fmix ?_
     refine Dv [0] (Vfa fo41_1 0) (Dv [3] (VldF sh39 0) (Dv [] Vm ?_))
     refine letv (parser_block (Gparser.mk p.l p1_37 p2_38)) fun rv67 hg68 => ?_
     refine Dx [1, 5] [1] [3, 0, 1, 2] (fun G => .agg #[.string (bs rv67.1.Name), (G.g 3 0)]) [fun G => SP.fact (rv67.1.Name.b.length ≤ 140737488355328 ∧ i64ok rv67.2.at_ ∧ i64ok rv67.2.Err ∧ (0 ≤ rv67.2.at_ ∧ rv67.2.at_ ≤ ((Gparser.mk p.l p1_37 p2_38).l.length : Int))), fun G => sl (G.g 3 0) rv67.1.Stmts, fun G => Cl pP [vl pa0 pk0 p.l, vi rv67.2.at_, vi rv67.2.Err]] (fun G => xC [0, 0] ca70 (fn70 pP (Gparser.mk p.l p1_37 p2_38) pa0 pk0 pre pre pre rv67 hg68)) (Dx [] [] [0] (fun G => (G.g 4 0)) [fun G => Cr (G.g 4 0) 1 [.string (bs rv67.1.Name), (G.g 3 0)]] (fun G => xA (AsV sl39 sz39 [.agg #[.string (bs rv67.1.Name), (G.g 3 0)]] [.string (bs rv67.1.Name), (G.g 3 0)])) ?_)
     have hn71 := la f1_39 ([rv67.1] : List GBlock)
     refine Dx [2, 6, 7, 9] [2, 9] [2, 1, 0] (fun G => (G.g 5 0)) [fun G => os (G.g 5 0) ((f1_39 ++ [rv67.1]) : List GBlock)] (fun G => by refine xf 1 rfl ?_; rintro ⟨he72, he73, he74, he75⟩; unfold i64ok at he73 he74; exact xp [3, 2] rfl (Ent.cr1 (α := GBlock) (A := [sl (G.g 3 0) rv67.1.Stmts]) _ rv67.1 _ (Nat.le_of_ble_eq_true rfl) (fun h => ⟨_, rfl, (by first | omega | (simp; done) | (dsimp only; omega) | exact lit_bl rfl), sepAll_get (i := 0) rfl h⟩)) (xA (ApO [2, 0] sl39 sl39 sz39))) (Dv [0] (Vfa fo41_1 0) (Dx0 [3, 10] [3] [1, 0] [fun G => Cl p3 [.string (bs rv10.1), (G.g 5 0)]] (fun G => x1 1 rfl os_one fun ho76 => (xS (OpS.frame [0] rfl (OpS.storeClF [(G.g 5 0)] [.string (bs rv10.1), (G.g 5 0)] rfl rfl rfl sh39 (cells_of_one ho76) rfl (by simp only [List.all_cons, List.all_nil, ho76, Bool.and_true, Bool.true_and] <;> rfl) (Nat.le_of_ble_eq_true rfl) rfl)))) ?_))
     refine Dn ⟨by kernel_rfl, fun G => ?_⟩
     refine Jw2 [(0, pP), (2, p2), (3, p3)] [0, 4, 5] [SP.fact (rv67.1.Name.b.length ≤ 140737488355328 ∧ i64ok rv67.2.at_ ∧ i64ok rv67.2.Err ∧ (0 ≤ rv67.2.at_ ∧ rv67.2.at_ ≤ ((Gparser.mk p.l p1_37 p2_38).l.length : Int))), sl (G.g 3 0) rv67.1.Stmts, Cl pP [vl pa0 pk0 p.l, vi rv67.2.at_, vi rv67.2.Err], os (G.g 5 0) ((f1_39 ++ [rv67.1]) : List GBlock), Cl p3 [.string (bs rv10.1), (G.g 5 0)]] ?_
     generalize G.g 3 0 = c66, G.g 5 0 = c70
     refine Jf 3 rfl ?_; rintro ⟨he77, he78, he79, he80⟩
     unfold i64ok at he78 he79
     refine Jk [1, 1, 3, 4, 4, 4] ?_
     refine Jo 2 ?_; rintro a81 k82 rfl
     refine Fb 72 2 fun hl83 => ?_
     refine Jo 4 ?_; rintro a84 k85 rfl
     refine Fb 40 4 fun hl86 => ?_
     refine KS ?_
     exact Kg (r36, rv67.2.at_, rv67.2.Err, (f1_39 ++ [rv67.1]), a84, k85) [4, 3, 3, 0, 0] ⟨(q3 hM42 (by simp only [parser_function_L0, h26, h28, h53, h55, hg5, hg11, hg18, hg24, hg31, hg51, hg68, cs4])), (by omega), (by omega), iv1, iv1⟩
   intro h53
   refine Ke ?_
   have hR88 := q2 hM42 (.brk (p1_37, p2_38, f1_39)) (by simp only [parser_function_L0, h26, h28, h53, hg5, hg11, hg18, hg24, hg31, hg51, cs4])
   refine KS ?_
   refine Oq Vm ?_
   refine letv (parser_word (Gparser.mk p.l p1_37 p2_38) (Str.mk [101, 110, 100])) fun rv89 hg90 => ?_
   have hc91 := fn67 pP (Gparser.mk p.l p1_37 p2_38) pa0 pk0 ((Str.mk [101, 110, 100])) pre pre pre pre rv89 hg90
   refine Oc [0, 3] ca67 hc91 ?_
   rintro - ⟨he92, he93, he94⟩
   unfold i64ok at he92 he93
   have he94 : (0 ≤ rv89.at_ ∧ rv89.at_ ≤ (p.l.length : Int)) := he94
   refine KS ?_
   refine Oq Vm ?_
   refine letv (parser_end (Gparser.mk p.l rv89.at_ rv89.Err)) fun rv95 hg96 => ?_
   have hc97 := fn69 pP (Gparser.mk p.l rv89.at_ rv89.Err) pa0 pk0 pre pre pre rv95 hg96
   refine Oc [0, 3] ca69 hc97 ?_
   rintro - ⟨he98, he99, he100⟩
   unfold i64ok at he98 he99
   have he100 : (0 ≤ rv95.at_ ∧ rv95.at_ ≤ (p.l.length : Int)) := he100
   refine KS ?_
   refine Oq (VldA sh41 2) (Ost (Scl [3] sh41 [.string (bs rv10.1), vl a40 k41 f1_39]) (KS ?_))
   refine Jl [2] (Ent.freeze _ _) ?_
   have hq := q4 hrr ((GFunc.mk rv10.1 f1_39), (Gparser.mk p.l rv95.at_ rv95.Err)) (by simp only [parser_function, h26, h28, h53, hg5, hg11, hg18, hg24, hg31, hg51, hR88, hg90, hg96, cs4]); subst hq
   exact Kr (vl a40 k41 f1_39) rfl (.cellN 1 rfl sh41 rfl (reads_Cl _ _) rfl .nil) [0, 2] en
 intro h26
 have h102 := not_false h26
 refine KS ?_
 refine Jl [] (Ent.osNil (α := GBlock)) ?_
 have hterm115 : parser_function_L0 p rv10.1 (p.l.length + 1) rv17.at_ rv17.Err [] ≠ LR.oof := (function_L0_adv _ _ _ _ (by omega)).1
 refine Kl (γ := Nat × Int × Int × List GBlock × Option Addr × Nat) (fun (r104, p1_105, p2_106, f1_107, a108, k109) => ⟨[(0, pP), (2, p2), (3, p3)], [O a108 k109 f1_107, Cl pP [vl pa0 pk0 p.l, vi p1_105, vi p2_106], Cl p3 [.string (bs rv10.1), vl a108 k109 f1_107], Cl p2 [.string (bs (Str.mk [])), .slice none 0 0], S pa0 pk0 p.l], parser_function_L0 p rv10.1 r104 p1_105 p2_106 f1_107 = parser_function_L0 p rv10.1 (p.l.length + 1) rv17.at_ rv17.Err [] ∧ (-9223372036854775808 ≤ p1_105 ∧ p1_105 ≤ 9223372036854775807) ∧ (-9223372036854775808 ≤ p2_106 ∧ p2_106 ≤ 9223372036854775807) ∧ (0 ≤ p1_105 ∧ p1_105 ≤ (p.l.length : Int)) ∧ (f1_107.length ≤ 16), r104⟩) ((p.l.length + 1), rv17.at_, rv17.Err, [], none, 0) [0, 0, 0, 0, 0] ⟨rfl, (by omega), (by omega), iv0, iv0⟩ ?_
 rintro ⟨r104, p1_105, p2_106, f1_107, a108, k109⟩ ⟨hM110, hk111, hk112, hv113, hv114⟩
 refine JJ_nx fun _ _ hL hA => ?_; dsimp only at hL hA; subst hL hA
 refine Fb 40 0 fun hl116 => ?_
 refine Fb 40 4 fun hl117 => ?_
 rcases r104 with _ | r104
 · exact absurd (hM110.symm.trans rfl) hterm115
 refine KS ?_
 refine Oq Vm ?_
 refine letv (parser_is (Gparser.mk p.l p1_105 p2_106) (Str.mk [98, 108, 111, 99, 107])) fun rv118 hg119 => ?_
 have hc120 := fn52 pP (Gparser.mk p.l p1_105 p2_106) pa0 pk0 ((Str.mk [98, 108, 111, 99, 107])) pre pre pre pre rv118 hg119
 refine Oc [1, 3] ca52 hc120 ?_
 rintro - -
 refine KS ?_
 refine Kc ?_ ?_
 · intro h121
   refine KS ?_
   refine Oq (Vfa fo41_1 2) (Oq (VldF sh39 2) (Oq (Vlen sl39) (Oq Veql (KS ?_))))
   refine Kc ?_ ?_
   · intro h123
     have g124 := eq_of_beq h123
     refine KS ?_
     refine Oq Vm ?_
     refine letv (parser_fail (Gparser.mk p.l p1_105 p2_106) 7) fun rv125 hg126 => ?_
     have hc127 := fn53 pP (Gparser.mk p.l p1_105 p2_106) pa0 pk0 7 pre pre pre pre rv125 hg126
     refine Oc [0, 3] ca53 hc127 ?_
     rintro - ⟨he128, he129, he130⟩
     unfold i64ok at he128 he129
     have he130 : (0 ≤ rv125.at_ ∧ rv125.at_ ≤ (p.l.length : Int)) := he130
     refine KS ?_
     refine Oq (VldA sh41 2) (Ost (Scl [3] sh41 [.string (bs rv10.1), vl a108 k109 f1_107]) (KS ?_))
     refine Jl [2] (Ent.freeze _ _) ?_
     have hR131 := q2 hM110 (.ret ((GFunc.mk rv10.1 f1_107), (Gparser.mk p.l rv125.at_ rv125.Err))) (by simp only [parser_function_L0, h26, h102, h121, h123, hg5, hg11, hg18, hg24, hg119, hg126, cs4])
     have hq := q4 hrr ((GFunc.mk rv10.1 f1_107), (Gparser.mk p.l rv125.at_ rv125.Err)) (by simp only [parser_function, h26, h102, h121, h123, hg5, hg11, hg18, hg24, hg119, hg126, hR131, cs4]); subst hq
     exact Kr (vl a108 k109 f1_107) rfl (.cellN 1 rfl sh41 rfl (reads_Cl _ _) rfl .nil) [0, 2] en
   intro h123
   have g132 := ne_of_beq_false h123
   refine KS ?_
   refine Jp 2 fun hp133 => ?_
   refine JK_drawK [0, 1, 0, 4, 12, 31, 63, 127] fmix ?_
   refine Dv [0] (Vfa fo41_1 0) (Dv [3] (VldF sh39 0) (Dv [] Vm ?_))
   refine letv (parser_block (Gparser.mk p.l p1_105 p2_106)) fun rv135 hg136 => ?_
   refine Dx [1, 5] [1] [3, 0, 1, 2] (fun G => .agg #[.string (bs rv135.1.Name), (G.g 3 0)]) [fun G => SP.fact (rv135.1.Name.b.length ≤ 140737488355328 ∧ i64ok rv135.2.at_ ∧ i64ok rv135.2.Err ∧ (0 ≤ rv135.2.at_ ∧ rv135.2.at_ ≤ ((Gparser.mk p.l p1_105 p2_106).l.length : Int))), fun G => sl (G.g 3 0) rv135.1.Stmts, fun G => Cl pP [vl pa0 pk0 p.l, vi rv135.2.at_, vi rv135.2.Err]] (fun G => xC [0, 0] ca70 (fn70 pP (Gparser.mk p.l p1_105 p2_106) pa0 pk0 pre pre pre rv135 hg136)) (Dx [] [] [0] (fun G => (G.g 4 0)) [fun G => Cr (G.g 4 0) 1 [.string (bs rv135.1.Name), (G.g 3 0)]] (fun G => xA (AsV sl39 sz39 [.agg #[.string (bs rv135.1.Name), (G.g 3 0)]] [.string (bs rv135.1.Name), (G.g 3 0)])) ?_)
   have hn139 := la f1_107 ([rv135.1] : List GBlock)
   refine Dx [2, 6, 7, 9] [2, 9] [2, 1, 0] (fun G => (G.g 5 0)) [fun G => os (G.g 5 0) ((f1_107 ++ [rv135.1]) : List GBlock)] (fun G => by refine xf 1 rfl ?_; rintro ⟨he140, he141, he142, he143⟩; unfold i64ok at he141 he142; exact xp [3, 2] rfl (Ent.cr1 (α := GBlock) (A := [sl (G.g 3 0) rv135.1.Stmts]) _ rv135.1 _ (Nat.le_of_ble_eq_true rfl) (fun h => ⟨_, rfl, (by first | omega | (simp; done) | (dsimp only; omega) | exact lit_bl rfl), sepAll_get (i := 0) rfl h⟩)) (xA (ApO [2, 0] sl39 sl39 sz39))) (Dv [0] (Vfa fo41_1 0) (Dx0 [3, 10] [3] [1, 0] [fun G => Cl p3 [.string (bs rv10.1), (G.g 5 0)]] (fun G => x1 1 rfl os_one fun ho144 => (xS (OpS.frame [0] rfl (OpS.storeClF [(G.g 5 0)] [.string (bs rv10.1), (G.g 5 0)] rfl rfl rfl sh39 (cells_of_one ho144) rfl (by simp only [List.all_cons, List.all_nil, ho144, Bool.and_true, Bool.true_and] <;> rfl) (Nat.le_of_ble_eq_true rfl) rfl)))) ?_))
   refine Dn ⟨by kernel_rfl, fun G => ?_⟩
   refine Jw2 [(0, pP), (2, p2), (3, p3)] [0, 4, 5] [SP.fact (rv135.1.Name.b.length ≤ 140737488355328 ∧ i64ok rv135.2.at_ ∧ i64ok rv135.2.Err ∧ (0 ≤ rv135.2.at_ ∧ rv135.2.at_ ≤ ((Gparser.mk p.l p1_105 p2_106).l.length : Int))), sl (G.g 3 0) rv135.1.Stmts, Cl pP [vl pa0 pk0 p.l, vi rv135.2.at_, vi rv135.2.Err], os (G.g 5 0) ((f1_107 ++ [rv135.1]) : List GBlock), Cl p3 [.string (bs rv10.1), (G.g 5 0)]] ?_
   generalize G.g 3 0 = c134, G.g 5 0 = c138
   refine Jf 3 rfl ?_; rintro ⟨he145, he146, he147, he148⟩
   unfold i64ok at he146 he147
   refine Jk [1, 1, 3, 4, 4, 4] ?_
   refine Jo 2 ?_; rintro a149 k150 rfl
   refine Fb 72 2 fun hl151 => ?_
   refine Jo 4 ?_; rintro a152 k153 rfl
   refine Fb 40 4 fun hl154 => ?_
   refine KS ?_
   exact Kg (r104, rv135.2.at_, rv135.2.Err, (f1_107 ++ [rv135.1]), a152, k153) [4, 3, 3, 0, 0] ⟨(q3 hM110 (by simp only [parser_function_L0, h26, h102, h121, h123, hg5, hg11, hg18, hg24, hg119, hg136, cs4])), (by omega), (by omega), iv1, iv1⟩
 intro h121
 refine Ke ?_
 have hR156 := q2 hM110 (.brk (p1_105, p2_106, f1_107)) (by simp only [parser_function_L0, h26, h102, h121, hg5, hg11, hg18, hg24, hg119, cs4])
 refine KS ?_
 refine Oq Vm ?_
 refine letv (parser_word (Gparser.mk p.l p1_105 p2_106) (Str.mk [101, 110, 100])) fun rv157 hg158 => ?_
 have hc159 := fn67 pP (Gparser.mk p.l p1_105 p2_106) pa0 pk0 ((Str.mk [101, 110, 100])) pre pre pre pre rv157 hg158
 refine Oc [0, 3] ca67 hc159 ?_
 rintro - ⟨he160, he161, he162⟩
 unfold i64ok at he160 he161
 have he162 : (0 ≤ rv157.at_ ∧ rv157.at_ ≤ (p.l.length : Int)) := he162
 refine KS ?_
 refine Oq Vm ?_
 refine letv (parser_end (Gparser.mk p.l rv157.at_ rv157.Err)) fun rv163 hg164 => ?_
 have hc165 := fn69 pP (Gparser.mk p.l rv157.at_ rv157.Err) pa0 pk0 pre pre pre rv163 hg164
 refine Oc [0, 3] ca69 hc165 ?_
 rintro - ⟨he166, he167, he168⟩
 unfold i64ok at he166 he167
 have he168 : (0 ≤ rv163.at_ ∧ rv163.at_ ≤ (p.l.length : Int)) := he168
 refine KS ?_
 refine Oq (VldA sh41 2) (Ost (Scl [3] sh41 [.string (bs rv10.1), vl a108 k109 f1_107]) (KS ?_))
 refine Jl [2] (Ent.freeze _ _) ?_
 have hq := q4 hrr ((GFunc.mk rv10.1 f1_107), (Gparser.mk p.l rv163.at_ rv163.Err)) (by simp only [parser_function, h26, h102, h121, hg5, hg11, hg18, hg24, hg119, hR156, hg158, hg164, cs4]); subst hq
 exact Kr (vl a108 k109 f1_107) rfl (.cellN 1 rfl sh41 rfl (reads_Cl _ _) rfl .nil) [0, 2] en
theorem fn34 (text : Str) (htext_0 : text.b.length ≤ 140737488355328) (rr : GProgram × Int × Int × Int) (hrr : flqref4_Parse text = rr) : FT Tryd.prog 34 #[.string (bs text)] [] (fun g : Value => i64ok rr.2.1 ∧ i64ok rr.2.2.1 ∧ i64ok rr.2.2.2) (fun g => .tuple #[.agg #[g], vi rr.2.1, vi rr.2.2.1, vi rr.2.2.2]) (fun g => [sl g rr.1.Funcs]) := by
 refine FTi Tryd.func34 fun w0 M0 F0 => ?_
 refine KS ?_
 refine Oa (Al ze25 [.slice none 0 0]) fun p1 => Oq Va (Oq Va (Oq Va (KS ?_)))
 refine Oq Vm ?_
 refine letv (flqref4_Scan text) fun rv3 hg4 => ?_
 have hc5 := fn51 text pre rv3 hg4
 refine Oc [] ca51 hc5 ?_
 rintro c2 ⟨he6, he7, he8⟩
 unfold i64ok at he6 he7 he8
 refine Jo 0 ?_; rintro a9 k10 rfl
 refine Fb 40 0 fun hl11 => ?_
 refine Oq Vm (Oq Vx (Oq Vx (Oq Vx (Oq Vx (Oq Va (Oq Va (Oq Va (Oq Va (KS ?_)))))))))
 refine Oq Vm (Oq Vneq (KS ?_))
 refine Kc ?_ ?_
 · intro h12
   have g13 := ne_of_bne h12
   refine KS ?_
   refine Oq (Vbd st25 [.slice none 0 0]) (Oq Vm (Oq Vm (Oq Vm (Ost (Scl [1] sh25 [.slice none 0 0]) (Oq Va (Oq Va (Oq Va (KS ?_))))))))
   refine Jl [] (Ent.slNil (α := GFunc)) ?_
   have hq := q4 hrr ((GProgram.mk []), rv3.2.1, rv3.2.2.1, rv3.2.2.2) (by simp only [flqref4_Parse, h12, hg4, cs4]); subst hq
   exact Kr (.slice none 0 0) rfl (.cellN 1 rfl sh25 rfl (reads_Cl _ _) rfl (.tmp rfl (.tmp rfl (.tmp rfl .nil)))) [0] en
 intro h12
 have g14 := eq_of_bne_false h12
 refine KS ?_
 refine Oq Vm (Oq (Vbd st91 [vl a9 k10 rv3.1, vi 0, vi 0]) (Oa (AbO [vl a9 k10 rv3.1, vi 0, vi 0]) fun p15 => Oq Va (KS ?_)))
 refine Oa (Al ze25 [.slice none 0 0]) fun p16 => KS ?_
 refine Oq Vm ?_
 refine letv (parser_is (Gparser.mk rv3.1 0 0) (Str.mk [102, 117, 110, 99])) fun rv17 hg18 => ?_
 have hc19 := fn52 p15 (Gparser.mk rv3.1 0 0) a9 k10 ((Str.mk [102, 117, 110, 99])) pre pre pre pre rv17 hg18
 refine Oc [1, 1] ca52 hc19 ?_
 rintro - -
 refine Oq Vnot (KS ?_)
 refine Kc ?_ ?_
 · intro h20
   have h22 := not_true h20
   refine KS ?_
   refine Oq Vm ?_
   refine letv (parser_fail (Gparser.mk rv3.1 0 0) 4) fun rv24 hg25 => ?_
   have hc26 := fn53 p15 (Gparser.mk rv3.1 0 0) a9 k10 4 pre pre pre pre rv24 hg25
   refine Oc [0, 1] ca53 hc26 ?_
   rintro - ⟨he27, he28, he29⟩
   unfold i64ok at he27 he28
   have he29 : (0 ≤ rv24.at_ ∧ rv24.at_ ≤ (rv3.1.length : Int)) := he29
   refine KS ?_
   refine Jl [] (Ent.osNil (α := GFunc)) ?_
   have hterm41 : flqref4_Parse_L0 rv3.1 (rv3.1.length + 1) rv24.at_ rv24.Err [] ≠ LR.oof := (Parse_L0_adv _ _ _ _ (by omega)).1
   refine Kl (γ := Nat × Int × Int × List GFunc × Option Addr × Nat) (fun (r30, p1_31, p2_32, out0_33, a34, k35) => ⟨[(2, p1), (6, vl a9 k10 rv3.1), (10, p15), (11, p16)], [O a34 k35 out0_33, Cl p15 [vl a9 k10 rv3.1, vi p1_31, vi p2_32], Cl p16 [vl a34 k35 out0_33], S a9 k10 rv3.1, Cl p1 [.slice none 0 0]], flqref4_Parse_L0 rv3.1 r30 p1_31 p2_32 out0_33 = flqref4_Parse_L0 rv3.1 (rv3.1.length + 1) rv24.at_ rv24.Err [] ∧ (-9223372036854775808 ≤ p1_31 ∧ p1_31 ≤ 9223372036854775807) ∧ (-9223372036854775808 ≤ p2_32 ∧ p2_32 ≤ 9223372036854775807) ∧ (0 ≤ p1_31 ∧ p1_31 ≤ (rv3.1.length : Int)) ∧ (out0_33.length ≤ 8), r30⟩) ((rv3.1.length + 1), rv24.at_, rv24.Err, [], none, 0) [0, 0, 0, 0, 1] ⟨rfl, (by omega), (by omega), iv0, iv0⟩ ?_
   rintro ⟨r30, p1_31, p2_32, out0_33, a34, k35⟩ ⟨hM36, hk37, hk38, hv39, hv40⟩
   refine JJ_nx fun _ _ hL hA => ?_; dsimp only at hL hA; subst hL hA
   refine Fb 40 0 fun hl42 => ?_
   refine Fb 40 3 fun hl43 => ?_
   rcases r30 with _ | r30
   · exact absurd (hM36.symm.trans rfl) hterm41
   refine KS ?_
   refine Oq Vm ?_
   refine letv (parser_is (Gparser.mk rv3.1 p1_31 p2_32) (Str.mk [102, 117, 110, 99])) fun rv44 hg45 => ?_
   have hc46 := fn52 p15 (Gparser.mk rv3.1 p1_31 p2_32) a9 k10 ((Str.mk [102, 117, 110, 99])) pre pre pre pre rv44 hg45
   refine Oc [1, 2] ca52 hc46 ?_
   rintro - -
   refine KS ?_
   refine Kc ?_ ?_
   · intro h47
     refine KS ?_
     refine Oq (Vfa fo25_0 2) (Oq (VldF sh23 2) (Oq (Vlen sl23) (Oq Veql (KS ?_))))
     refine Kc ?_ ?_
     · intro h49
       have g50 := eq_of_beq h49
       refine KS ?_
       refine Oq Vm ?_
       refine letv (parser_fail (Gparser.mk rv3.1 p1_31 p2_32) 7) fun rv51 hg52 => ?_
       have hc53 := fn53 p15 (Gparser.mk rv3.1 p1_31 p2_32) a9 k10 7 pre pre pre pre rv51 hg52
       refine Oc [0, 2] ca53 hc53 ?_
       rintro - ⟨he54, he55, he56⟩
       unfold i64ok at he54 he55
       have he56 : (0 ≤ rv51.at_ ∧ rv51.at_ ≤ (rv3.1.length : Int)) := he56
       refine KS ?_
       refine Ke ?_
       have hR57 := q2 hM36 (.brk (rv51.at_, rv51.Err, out0_33)) (by simp only [flqref4_Parse_L0, h12, h20, h22, h47, h49, hg4, hg18, hg25, hg45, hg52, cs4])
       refine KS ?_
       refine Oq Vm (Oq (Vn 0) (Oq (Vfa fo91_2 0) (Oq (VldF sh57 0) (Oq Veql (Oq Vm ?_)))))
       refine Js 53 ?_ ?_
       · intro h58
         have g59 := eq_of_beq h58
         refine Oq Vm (Oq (Vn 0) (Oq (Vfa fo91_1 0) (Oq (VldF sh3 0) (Oq Vm (Oq (Vlen sl86) (Oq Vlss (Oq Vpt (KS ?_))))))))
         refine Kc ?_ ?_
         · intro h60
           have g61 := of_decide_eq_true h60
           refine KS ?_
           refine Oq Vm ?_
           refine letv (parser_fail (Gparser.mk rv3.1 rv51.at_ rv51.Err) 4) fun rv62 hg63 => ?_
           have hc64 := fn53 p15 (Gparser.mk rv3.1 rv51.at_ rv51.Err) a9 k10 4 pre pre pre pre rv62 hg63
           refine Oc [0, 2] ca53 hc64 ?_
           rintro - ⟨he65, he66, he67⟩
           unfold i64ok at he65 he66
           have he67 : (0 ≤ rv62.at_ ∧ rv62.at_ ≤ (rv3.1.length : Int)) := he67
           refine KS ?_
           refine Oq Vm (Oq (Vn 0) (Oq (Vfa fo91_2 0) (Oq (VldF sh57 0) (Oq Veql (KS ?_)))))
           refine Kc ?_ ?_
           · intro h68
             have g69 := eq_of_beq h68
             refine KS ?_
             refine Oq (VldA sh25 2) (Ost (Scl [4] sh25 [vl a34 k35 out0_33]) (Oq Va (Oq Va (Oq Va (KS ?_)))))
             refine Jl [2] (Ent.freeze _ _) ?_
             have hq := q4 hrr ((GProgram.mk out0_33), 0, 0, 0) (by simp only [flqref4_Parse, h12, h20, h22, h47, h49, h58, h60, h68, hg4, hg18, hg25, hg45, hg52, hR57, hg63, cs4]); subst hq
             exact Kr (vl a34 k35 out0_33) rfl (.cellN 1 rfl sh25 rfl (reads_Cl _ _) rfl (.tmp rfl (.tmp rfl (.tmp rfl .nil)))) [0] en
           intro h68
           have g70 := ne_of_beq_false h68
           refine KS ?_
           refine Oq Vm (Oq (Vn 0) (Oq (Vfa fo91_1 0) (Oq (VldF sh3 0) (Oq Vm (Oq (Vlen sl86) (Oq Vlss (KS ?_)))))))
           refine Kc ?_ ?_
           · intro h71
             have g72 := of_decide_eq_true h71
             refine KS ?_
             refine Jp 0 fun hp73 => ?_
             refine JJ_peek_GToken rv62.at_.toNat 4 rfl rng fun hb74 hb75 hb76 hb77 => ?_
             unfold i64ok at hb74 hb76 hb77
             refine JK_drawK [0, 0, 0, 4, 12, 28, 62, 126, 254, 0, 0, 1024, 3072, 7168, 15872, 32256, 65024, 0, 131072, 393216, 917504, 1, 2097663, 6422527, 16777215] fmix ?_
             refine Dv [] (Vbd st25 [.slice none 0 0]) (Dv [] Vm (Dv [] Vm (Dv [1] (Vn 0) (Dv [1] (Vfa fo91_1 0) (Dv [2] (VldF sh3 0) (Dv [5] (Vi sl86 0) (Dv [0] (Vfa fo95_2 0) (Dv [0] (VldF sh3 0) (Dv [] Vm ?_)))))))))
             refine Dv [] Vm (Dv [1] (Vn 0) (Dv [1] (Vfa fo91_1 0) (Dv [2] (VldF sh3 0) (Dv [5] (Vi sl86 0) (Dv [0] (Vfa fo95_3 0) (Dv [0] (VldF sh3 0) (Dv [] Vm (Dv [1] (Vn 0) (Dv [1] (Vfa fo91_2 0) ?_)))))))))
             refine Dv [2] (VldF sh57 0) (Dx0 [6] [6] [0] [fun G => Cl p1 [.slice none 0 0]] (fun G => xS (Scl [0] sh25 [.slice none 0 0])) (Dv [] Va (Dv [] Va (Dv [] Va ?_))))
             refine Dn ⟨by kernel_rfl, fun G => ?_⟩
             refine Jw2 [(2, p1), (3, vi ((rv3.1.getD rv62.at_.toNat default).Line)), (4, vi ((rv3.1.getD rv62.at_.toNat default).Col)), (5, vi rv62.Err)] [0, 1, 2, 3, 4, 5] [Cl p1 [.slice none 0 0]] ?_
             refine Jk [0, 2, 2, 2, 2, 3] ?_
             refine Jl [] (Ent.slNil (α := GFunc)) ?_
             have hq := q4 hrr ((GProgram.mk []), (rv3.1.getD rv62.at_.toNat default).Line, (rv3.1.getD rv62.at_.toNat default).Col, rv62.Err) (by simp only [flqref4_Parse, h12, h20, h22, h47, h49, h58, h60, h68, h71, hg4, hg18, hg25, hg45, hg52, hR57, hg63, cs4]); subst hq
             exact Kr (.slice none 0 0) rfl (.cellN 6 rfl sh25 rfl (reads_Cl _ _) rfl (.tmp rfl (.tmp rfl (.tmp rfl .nil)))) [0] en
           intro h71
           have g78 := of_decide_eq_false h71
           refine KS ?_
           refine Jp 0 fun hp79 => ?_
           refine JK_drawK [0, 0, 2, 6, 14, 1, 33, 97, 255] fmix ?_
           refine Dv [] (Vbd st25 [.slice none 0 0]) (Dv [] Vm (Dv [0] (Vn 0) (Dv [0] (Vfa fo91_2 0) (Dv [1] (VldF sh57 0) (Dx0 [5] [5] [0] [fun G => Cl p1 [.slice none 0 0]] (fun G => xS (Scl [0] sh25 [.slice none 0 0])) (Dv [] Va (Dv [] Va (Dv [] Va ?_))))))))
           refine Dn ⟨by kernel_rfl, fun G => ?_⟩
           refine Jw2 [(2, p1), (3, vi 0), (4, vi 0), (5, vi rv62.Err)] [0, 1, 2, 3, 4] [Cl p1 [.slice none 0 0]] ?_
           refine Jk [1, 1, 1, 1, 2] ?_
           refine Jl [] (Ent.slNil (α := GFunc)) ?_
           have hq := q4 hrr ((GProgram.mk []), 0, 0, rv62.Err) (by simp only [flqref4_Parse, h12, h20, h22, h47, h49, h58, h60, h68, h71, hg4, hg18, hg25, hg45, hg52, hR57, hg63, cs4]); subst hq
           exact Kr (.slice none 0 0) rfl (.cellN 5 rfl sh25 rfl (reads_Cl _ _) rfl (.tmp rfl (.tmp rfl (.tmp rfl .nil)))) [0] en
         intro h60
         have g80 := of_decide_eq_false h60
         refine KS ?_
         refine Oq Vm (Oq (Vn 0) (Oq (Vfa fo91_2 0) (Oq (VldF sh57 0) (Oq Veql (KS ?_)))))
         refine Kc ?_ ?_
         · intro h81
           have g82 := eq_of_beq h81
           refine KS ?_
           refine Oq (VldA sh25 2) (Ost (Scl [4] sh25 [vl a34 k35 out0_33]) (Oq Va (Oq Va (Oq Va (KS ?_)))))
           refine Jl [2] (Ent.freeze _ _) ?_
           have hq := q4 hrr ((GProgram.mk out0_33), 0, 0, 0) (by simp only [flqref4_Parse, h12, h20, h22, h47, h49, h58, h60, h81, hg4, hg18, hg25, hg45, hg52, hR57, cs4]); subst hq
           exact Kr (vl a34 k35 out0_33) rfl (.cellN 1 rfl sh25 rfl (reads_Cl _ _) rfl (.tmp rfl (.tmp rfl (.tmp rfl .nil)))) [0] en
         intro h81
         exact absurd h81 (by first | (simp [h58]; done) | (simp only [bne, h58]; decide) | (simp only [bne, h58, Bool.not_true, Bool.not_false]; decide) | (exfalso; omega) | (intro hq; simp only [bne, hq, Bool.not_false, Bool.not_true, reduceCtorEq] at h58))
       intro h58
       have g83 := ne_of_beq_false h58
       refine Osk (Osk (Osk (Osk (Osk (Osk (Osk (Oq Vpf (KS ?_))))))))
       refine Kf ?_
       refine KS ?_
       refine Oq Vm (Oq (Vn 0) (Oq (Vfa fo91_2 0) (Oq (VldF sh57 0) (Oq Veql (KS ?_)))))
       refine Kc ?_ ?_
       · intro h84
         exact absurd h84 (by first | (simp [h58]; done) | (simp only [bne, h58]; decide) | (simp only [bne, h58, Bool.not_true, Bool.not_false]; decide) | (exfalso; omega) | (intro hq; simp only [bne, hq, Bool.not_false, Bool.not_true, reduceCtorEq] at h58))
       intro h84
       have g85 := ne_of_beq_false h84
       refine KS ?_
       refine Oq Vm (Oq (Vn 0) (Oq (Vfa fo91_1 0) (Oq (VldF sh3 0) (Oq Vm (Oq (Vlen sl86) (Oq Vlss (KS ?_)))))))
       refine Kc ?_ ?_
       · intro h86
         have g87 := of_decide_eq_true h86
         refine KS ?_
         refine Jp 0 fun hp88 => ?_
         refine JJ_peek_GToken rv51.at_.toNat 4 rfl rng fun hb89 hb90 hb91 hb92 => ?_
         unfold i64ok at hb89 hb91 hb92
         refine JK_drawK [0, 0, 0, 4, 12, 28, 62, 126, 254, 0, 0, 1024, 3072, 7168, 15872, 32256, 65024, 0, 131072, 393216, 917504, 1, 2097663, 6422527, 16777215] fmix ?_
         refine Dv [] (Vbd st25 [.slice none 0 0]) (Dv [] Vm (Dv [] Vm (Dv [1] (Vn 0) (Dv [1] (Vfa fo91_1 0) (Dv [2] (VldF sh3 0) (Dv [5] (Vi sl86 0) (Dv [0] (Vfa fo95_2 0) (Dv [0] (VldF sh3 0) (Dv [] Vm ?_)))))))))
         refine Dv [] Vm (Dv [1] (Vn 0) (Dv [1] (Vfa fo91_1 0) (Dv [2] (VldF sh3 0) (Dv [5] (Vi sl86 0) (Dv [0] (Vfa fo95_3 0) (Dv [0] (VldF sh3 0) (Dv [] Vm (Dv [1] (Vn 0) (Dv [1] (Vfa fo91_2 0) ?_)))))))))
         refine Dv [2] (VldF sh57 0) (Dx0 [6] [6] [0] [fun G => Cl p1 [.slice none 0 0]] (fun G => xS (Scl [0] sh25 [.slice none 0 0])) (Dv [] Va (Dv [] Va (Dv [] Va ?_))))
         refine Dn ⟨by kernel_rfl, fun G => ?_⟩
         refine Jw2 [(2, p1), (3, vi ((rv3.1.getD rv51.at_.toNat default).Line)), (4, vi ((rv3.1.getD rv51.at_.toNat default).Col)), (5, vi rv51.Err)] [0, 1, 2, 3, 4, 5] [Cl p1 [.slice none 0 0]] ?_
         refine Jk [0, 2, 2, 2, 2, 3] ?_
         refine Jl [] (Ent.slNil (α := GFunc)) ?_
         have hq := q4 hrr ((GProgram.mk []), (rv3.1.getD rv51.at_.toNat default).Line, (rv3.1.getD rv51.at_.toNat default).Col, rv51.Err) (by simp only [flqref4_Parse, h12, h20, h22, h47, h49, h58, h84, h86, hg4, hg18, hg25, hg45, hg52, hR57, cs4]); subst hq
         exact Kr (.slice none 0 0) rfl (.cellN 6 rfl sh25 rfl (reads_Cl _ _) rfl (.tmp rfl (.tmp rfl (.tmp rfl .nil)))) [0] en
       intro h86
       have g93 := of_decide_eq_false h86
       refine KS ?_
       refine Jp 0 fun hp94 => ?_
       refine JK_drawK [0, 0, 2, 6, 14, 1, 33, 97, 255] fmix ?_
       refine Dv [] (Vbd st25 [.slice none 0 0]) (Dv [] Vm (Dv [0] (Vn 0) (Dv [0] (Vfa fo91_2 0) (Dv [1] (VldF sh57 0) (Dx0 [5] [5] [0] [fun G => Cl p1 [.slice none 0 0]] (fun G => xS (Scl [0] sh25 [.slice none 0 0])) (Dv [] Va (Dv [] Va (Dv [] Va ?_))))))))
       refine Dn ⟨by kernel_rfl, fun G => ?_⟩
       refine Jw2 [(2, p1), (3, vi 0), (4, vi 0), (5, vi rv51.Err)] [0, 1, 2, 3, 4] [Cl p1 [.slice none 0 0]] ?_
       refine Jk [1, 1, 1, 1, 2] ?_
       refine Jl [] (Ent.slNil (α := GFunc)) ?_
       have hq := q4 hrr ((GProgram.mk []), 0, 0, rv51.Err) (by simp only [flqref4_Parse, h12, h20, h22, h47, h49, h58, h84, h86, hg4, hg18, hg25, hg45, hg52, hR57, cs4]); subst hq
       exact Kr (.slice none 0 0) rfl (.cellN 5 rfl sh25 rfl (reads_Cl _ _) rfl (.tmp rfl (.tmp rfl (.tmp rfl .nil)))) [0] en
     intro h49
     have g95 := ne_of_beq_false h49
     refine KS ?_
     refine Jp 2 fun hp96 => ?_
     refine JK_drawK [0, 1, 0, 4, 12, 31, 63, 127] fmix ?_
     refine Dv [0] (Vfa fo25_0 0) (Dv [3] (VldF sh23 0) (Dv [] Vm ?_))
     refine letv (parser_function (Gparser.mk rv3.1 p1_31 p2_32)) fun rv98 hg99 => ?_
     refine Dx [1, 4] [1] [3, 0, 1, 2] (fun G => .agg #[.string (bs rv98.1.Name), (G.g 3 0)]) [fun G => SP.fact (rv98.1.Name.b.length ≤ 140737488355328 ∧ i64ok rv98.2.at_ ∧ i64ok rv98.2.Err ∧ (0 ≤ rv98.2.at_ ∧ rv98.2.at_ ≤ ((Gparser.mk rv3.1 p1_31 p2_32).l.length : Int))), fun G => sl (G.g 3 0) rv98.1.Blocks, fun G => Cl p15 [vl a9 k10 rv3.1, vi rv98.2.at_, vi rv98.2.Err]] (fun G => xC [0, 0] ca54 (fn54 p15 (Gparser.mk rv3.1 p1_31 p2_32) a9 k10 pre pre pre rv98 hg99)) (Dx [] [] [0] (fun G => (G.g 4 0)) [fun G => Cr (G.g 4 0) 1 [.string (bs rv98.1.Name), (G.g 3 0)]] (fun G => xA (AsV sl23 sz23 [.agg #[.string (bs rv98.1.Name), (G.g 3 0)]] [.string (bs rv98.1.Name), (G.g 3 0)])) ?_)
     have hn102 := la out0_33 ([rv98.1] : List GFunc)
     refine Dx [2, 6, 7, 9] [2, 9] [2, 1, 0] (fun G => (G.g 5 0)) [fun G => os (G.g 5 0) ((out0_33 ++ [rv98.1]) : List GFunc)] (fun G => by refine xf 1 rfl ?_; rintro ⟨he103, he104, he105, he106⟩; unfold i64ok at he104 he105; exact xp [3, 2] rfl (Ent.cr1 (α := GFunc) (A := [sl (G.g 3 0) rv98.1.Blocks]) _ rv98.1 _ (Nat.le_of_ble_eq_true rfl) (fun h => ⟨_, rfl, (by first | omega | (simp; done) | (dsimp only; omega) | exact lit_bl rfl), sepAll_get (i := 0) rfl h⟩)) (xA (ApO [2, 0] sl23 sl23 sz23))) (Dv [0] (Vfa fo25_0 0) (Dx0 [3, 10] [3] [1, 0] [fun G => Cl p16 [(G.g 5 0)]] (fun G => x1 1 rfl os_one fun ho107 => (xS (OpS.frame [0] rfl (OpS.storeClF [(G.g 5 0)] [(G.g 5 0)] rfl rfl rfl sh23 (cells_of_one ho107) rfl (by simp only [List.all_cons, List.all_nil, ho107, Bool.and_true, Bool.true_and] <;> rfl) (Nat.le_of_ble_eq_true rfl) rfl)))) ?_))
     refine Dn ⟨by kernel_rfl, fun G => ?_⟩
     refine Jw2 [(2, p1), (6, vl a9 k10 rv3.1), (10, p15), (11, p16)] [0, 4, 5] [SP.fact (rv98.1.Name.b.length ≤ 140737488355328 ∧ i64ok rv98.2.at_ ∧ i64ok rv98.2.Err ∧ (0 ≤ rv98.2.at_ ∧ rv98.2.at_ ≤ ((Gparser.mk rv3.1 p1_31 p2_32).l.length : Int))), sl (G.g 3 0) rv98.1.Blocks, Cl p15 [vl a9 k10 rv3.1, vi rv98.2.at_, vi rv98.2.Err], os (G.g 5 0) ((out0_33 ++ [rv98.1]) : List GFunc), Cl p16 [(G.g 5 0)]] ?_
     generalize G.g 3 0 = c97, G.g 5 0 = c101
     refine Jf 3 rfl ?_; rintro ⟨he108, he109, he110, he111⟩
     unfold i64ok at he109 he110
     refine Jk [1, 2, 3, 4, 4, 4] ?_
     refine Jo 2 ?_; rintro a112 k113 rfl
     refine Fb 40 2 fun hl114 => ?_
     refine Jo 4 ?_; rintro a115 k116 rfl
     refine Fb 40 4 fun hl117 => ?_
     refine KS ?_
     exact Kg (r30, rv98.2.at_, rv98.2.Err, (out0_33 ++ [rv98.1]), a115, k116) [4, 3, 3, 0, 1] ⟨(q3 hM36 (by simp only [flqref4_Parse_L0, h12, h20, h22, h47, h49, hg4, hg18, hg25, hg45, hg99, cs4])), (by omega), (by omega), iv1, iv1⟩
   intro h47
   refine Ke ?_
   have hR119 := q2 hM36 (.brk (p1_31, p2_32, out0_33)) (by simp only [flqref4_Parse_L0, h12, h20, h22, h47, hg4, hg18, hg25, hg45, cs4])
   refine KS ?_
   refine Oq Vm (Oq (Vn 0) (Oq (Vfa fo91_2 0) (Oq (VldF sh57 0) (Oq Veql (Oq Vm ?_)))))
   refine Js 53 ?_ ?_
   · intro h120
     have g121 := eq_of_beq h120
     refine Oq Vm (Oq (Vn 0) (Oq (Vfa fo91_1 0) (Oq (VldF sh3 0) (Oq Vm (Oq (Vlen sl86) (Oq Vlss (Oq Vpt (KS ?_))))))))
     refine Kc ?_ ?_
     · intro h122
       have g123 := of_decide_eq_true h122
       refine KS ?_
       refine Oq Vm ?_
       refine letv (parser_fail (Gparser.mk rv3.1 p1_31 p2_32) 4) fun rv124 hg125 => ?_
       have hc126 := fn53 p15 (Gparser.mk rv3.1 p1_31 p2_32) a9 k10 4 pre pre pre pre rv124 hg125
       refine Oc [0, 2] ca53 hc126 ?_
       rintro - ⟨he127, he128, he129⟩
       unfold i64ok at he127 he128
       have he129 : (0 ≤ rv124.at_ ∧ rv124.at_ ≤ (rv3.1.length : Int)) := he129
       refine KS ?_
       refine Oq Vm (Oq (Vn 0) (Oq (Vfa fo91_2 0) (Oq (VldF sh57 0) (Oq Veql (KS ?_)))))
       refine Kc ?_ ?_
       · intro h130
         have g131 := eq_of_beq h130
         refine KS ?_
         refine Oq (VldA sh25 2) (Ost (Scl [4] sh25 [vl a34 k35 out0_33]) (Oq Va (Oq Va (Oq Va (KS ?_)))))
         refine Jl [2] (Ent.freeze _ _) ?_
         have hq := q4 hrr ((GProgram.mk out0_33), 0, 0, 0) (by simp only [flqref4_Parse, h12, h20, h22, h47, h120, h122, h130, hg4, hg18, hg25, hg45, hR119, hg125, cs4]); subst hq
         exact Kr (vl a34 k35 out0_33) rfl (.cellN 1 rfl sh25 rfl (reads_Cl _ _) rfl (.tmp rfl (.tmp rfl (.tmp rfl .nil)))) [0] en
       intro h130
       have g132 := ne_of_beq_false h130
       refine KS ?_
       refine Oq Vm (Oq (Vn 0) (Oq (Vfa fo91_1 0) (Oq (VldF sh3 0) (Oq Vm (Oq (Vlen sl86) (Oq Vlss (KS ?_)))))))
       refine Kc ?_ ?_
       · intro h133
         have g134 := of_decide_eq_true h133
         refine KS ?_
         refine Jp 0 fun hp135 => ?_
         refine JJ_peek_GToken rv124.at_.toNat 4 rfl rng fun hb136 hb137 hb138 hb139 => ?_
         unfold i64ok at hb136 hb138 hb139
         refine JK_drawK [0, 0, 0, 4, 12, 28, 62, 126, 254, 0, 0, 1024, 3072, 7168, 15872, 32256, 65024, 0, 131072, 393216, 917504, 1, 2097663, 6422527, 16777215] fmix ?_
         refine Dv [] (Vbd st25 [.slice none 0 0]) (Dv [] Vm (Dv [] Vm (Dv [1] (Vn 0) (Dv [1] (Vfa fo91_1 0) (Dv [2] (VldF sh3 0) (Dv [5] (Vi sl86 0) (Dv [0] (Vfa fo95_2 0) (Dv [0] (VldF sh3 0) (Dv [] Vm ?_)))))))))
         refine Dv [] Vm (Dv [1] (Vn 0) (Dv [1] (Vfa fo91_1 0) (Dv [2] (VldF sh3 0) (Dv [5] (Vi sl86 0) (Dv [0] (Vfa fo95_3 0) (Dv [0] (VldF sh3 0) (Dv [] Vm (Dv [1] (Vn 0) (Dv [1] (Vfa fo91_2 0) ?_)))))))))
         refine Dv [2] (VldF sh57 0) (Dx0 [6] [6] [0] [fun G => Cl p1 [.slice none 0 0]] (fun G => xS (Scl [0] sh25 [.slice none 0 0])) (Dv [] Va (Dv [] Va (Dv [] Va ?_))))
         refine Dn ⟨by kernel_rfl, fun G => ?_⟩
         refine Jw2 [(2, p1), (3, vi ((rv3.1.getD rv124.at_.toNat default).Line)), (4, vi ((rv3.1.getD rv124.at_.toNat default).Col)), (5, vi rv124.Err)] [0, 1, 2, 3, 4, 5] [Cl p1 [.slice none 0 0]] ?_
         refine Jk [0, 2, 2, 2, 2, 3] ?_
         refine Jl [] (Ent.slNil (α := GFunc)) ?_
         have hq := q4 hrr ((GProgram.mk []), (rv3.1.getD rv124.at_.toNat default).Line, (rv3.1.getD rv124.at_.toNat default).Col, rv124.Err) (by simp only [flqref4_Parse, h12, h20, h22, h47, h120, h122, h130, h133, hg4, hg18, hg25, hg45, hR119, hg125, cs4]); subst hq
         exact Kr (.slice none 0 0) rfl (.cellN 6 rfl sh25 rfl (reads_Cl _ _) rfl (.tmp rfl (.tmp rfl (.tmp rfl .nil)))) [0] en
       intro h133
       have g140 := of_decide_eq_false h133
       refine KS ?_
       refine Jp 0 fun hp141 => ?_
       refine JK_drawK [0, 0, 2, 6, 14, 1, 33, 97, 255] fmix ?_
       refine Dv [] (Vbd st25 [.slice none 0 0]) (Dv [] Vm (Dv [0] (Vn 0) (Dv [0] (Vfa fo91_2 0) (Dv [1] (VldF sh57 0) (Dx0 [5] [5] [0] [fun G => Cl p1 [.slice none 0 0]] (fun G => xS (Scl [0] sh25 [.slice none 0 0])) (Dv [] Va (Dv [] Va (Dv [] Va ?_))))))))
       refine Dn ⟨by kernel_rfl, fun G => ?_⟩
       refine Jw2 [(2, p1), (3, vi 0), (4, vi 0), (5, vi rv124.Err)] [0, 1, 2, 3, 4] [Cl p1 [.slice none 0 0]] ?_
       refine Jk [1, 1, 1, 1, 2] ?_
       refine Jl [] (Ent.slNil (α := GFunc)) ?_
       have hq := q4 hrr ((GProgram.mk []), 0, 0, rv124.Err) (by simp only [flqref4_Parse, h12, h20, h22, h47, h120, h122, h130, h133, hg4, hg18, hg25, hg45, hR119, hg125, cs4]); subst hq
       exact Kr (.slice none 0 0) rfl (.cellN 5 rfl sh25 rfl (reads_Cl _ _) rfl (.tmp rfl (.tmp rfl (.tmp rfl .nil)))) [0] en
     intro h122
     have g142 := of_decide_eq_false h122
     refine KS ?_
     refine Oq Vm (Oq (Vn 0) (Oq (Vfa fo91_2 0) (Oq (VldF sh57 0) (Oq Veql (KS ?_)))))
     refine Kc ?_ ?_
     · intro h143
       have g144 := eq_of_beq h143
       refine KS ?_
       refine Oq (VldA sh25 2) (Ost (Scl [4] sh25 [vl a34 k35 out0_33]) (Oq Va (Oq Va (Oq Va (KS ?_)))))
       refine Jl [2] (Ent.freeze _ _) ?_
       have hq := q4 hrr ((GProgram.mk out0_33), 0, 0, 0) (by simp only [flqref4_Parse, h12, h20, h22, h47, h120, h122, h143, hg4, hg18, hg25, hg45, hR119, cs4]); subst hq
       exact Kr (vl a34 k35 out0_33) rfl (.cellN 1 rfl sh25 rfl (reads_Cl _ _) rfl (.tmp rfl (.tmp rfl (.tmp rfl .nil)))) [0] en
     intro h143
     exact absurd h143 (by first | (simp [h120]; done) | (simp only [bne, h120]; decide) | (simp only [bne, h120, Bool.not_true, Bool.not_false]; decide) | (exfalso; omega) | (intro hq; simp only [bne, hq, Bool.not_false, Bool.not_true, reduceCtorEq] at h120))
   intro h120
   have g145 := ne_of_beq_false h120
   refine Osk (Osk (Osk (Osk (Osk (Osk (Osk (Oq Vpf (KS ?_))))))))
   refine Kf ?_
   refine KS ?_
   refine Oq Vm (Oq (Vn 0) (Oq (Vfa fo91_2 0) (Oq (VldF sh57 0) (Oq Veql (KS ?_)))))
   refine Kc ?_ ?_
   · intro h146
     exact absurd h146 (by first | (simp [h120]; done) | (simp only [bne, h120]; decide) | (simp only [bne, h120, Bool.not_true, Bool.not_false]; decide) | (exfalso; omega) | (intro hq; simp only [bne, hq, Bool.not_false, Bool.not_true, reduceCtorEq] at h120))
   intro h146
   have g147 := ne_of_beq_false h146
   refine KS ?_
   refine Oq Vm (Oq (Vn 0) (Oq (Vfa fo91_1 0) (Oq (VldF sh3 0) (Oq Vm (Oq (Vlen sl86) (Oq Vlss (KS ?_)))))))
   refine Kc ?_ ?_
   · intro h148
     have g149 := of_decide_eq_true h148
     refine KS ?_
     refine Jp 0 fun hp150 => ?_
     refine JJ_peek_GToken p1_31.toNat 4 rfl rng fun hb151 hb152 hb153 hb154 => ?_
     unfold i64ok at hb151 hb153 hb154
     refine JK_drawK [0, 0, 0, 4, 12, 28, 62, 126, 254, 0, 0, 1024, 3072, 7168, 15872, 32256, 65024, 0, 131072, 393216, 917504, 1, 2097663, 6422527, 16777215] fmix ?_
     refine Dv [] (Vbd st25 [.slice none 0 0]) (Dv [] Vm (Dv [] Vm (Dv [1] (Vn 0) (Dv [1] (Vfa fo91_1 0) (Dv [2] (VldF sh3 0) (Dv [5] (Vi sl86 0) (Dv [0] (Vfa fo95_2 0) (Dv [0] (VldF sh3 0) (Dv [] Vm ?_)))))))))
     refine Dv [] Vm (Dv [1] (Vn 0) (Dv [1] (Vfa fo91_1 0) (Dv [2] (VldF sh3 0) (Dv [5] (Vi sl86 0) (Dv [0] (Vfa fo95_3 0) (Dv [0] (VldF sh3 0) (Dv [] Vm (Dv [1] (Vn 0) (Dv [1] (Vfa fo91_2 0) ?_)))))))))
     refine Dv [2] (VldF sh57 0) (Dx0 [6] [6] [0] [fun G => Cl p1 [.slice none 0 0]] (fun G => xS (Scl [0] sh25 [.slice none 0 0])) (Dv [] Va (Dv [] Va (Dv [] Va ?_))))
     refine Dn ⟨by kernel_rfl, fun G => ?_⟩
     refine Jw2 [(2, p1), (3, vi ((rv3.1.getD p1_31.toNat default).Line)), (4, vi ((rv3.1.getD p1_31.toNat default).Col)), (5, vi p2_32)] [0, 1, 2, 3, 4, 5] [Cl p1 [.slice none 0 0]] ?_
     refine Jk [0, 2, 2, 2, 2, 3] ?_
     refine Jl [] (Ent.slNil (α := GFunc)) ?_
     have hq := q4 hrr ((GProgram.mk []), (rv3.1.getD p1_31.toNat default).Line, (rv3.1.getD p1_31.toNat default).Col, p2_32) (by simp only [flqref4_Parse, h12, h20, h22, h47, h120, h146, h148, hg4, hg18, hg25, hg45, hR119, cs4]); subst hq
     exact Kr (.slice none 0 0) rfl (.cellN 6 rfl sh25 rfl (reads_Cl _ _) rfl (.tmp rfl (.tmp rfl (.tmp rfl .nil)))) [0] en
   intro h148
   have g155 := of_decide_eq_false h148
   refine KS ?_
   refine Jp 0 fun hp156 => ?_
   refine JK_drawK [0, 0, 2, 6, 14, 1, 33, 97, 255] fmix ?_
   refine Dv [] (Vbd st25 [.slice none 0 0]) (Dv [] Vm (Dv [0] (Vn 0) (Dv [0] (Vfa fo91_2 0) (Dv [1] (VldF sh57 0) (Dx0 [5] [5] [0] [fun G => Cl p1 [.slice none 0 0]] (fun G => xS (Scl [0] sh25 [.slice none 0 0])) (Dv [] Va (Dv [] Va (Dv [] Va ?_))))))))
   refine Dn ⟨by kernel_rfl, fun G => ?_⟩
   refine Jw2 [(2, p1), (3, vi 0), (4, vi 0), (5, vi p2_32)] [0, 1, 2, 3, 4] [Cl p1 [.slice none 0 0]] ?_
   refine Jk [1, 1, 1, 1, 2] ?_
   refine Jl [] (Ent.slNil (α := GFunc)) ?_
   have hq := q4 hrr ((GProgram.mk []), 0, 0, p2_32) (by simp only [flqref4_Parse, h12, h20, h22, h47, h120, h146, h148, hg4, hg18, hg25, hg45, hR119, cs4]); subst hq
   exact Kr (.slice none 0 0) rfl (.cellN 5 rfl sh25 rfl (reads_Cl _ _) rfl (.tmp rfl (.tmp rfl (.tmp rfl .nil)))) [0] en
 intro h20
 have h158 := not_false h20
 refine KS ?_
 refine Jl [] (Ent.osNil (α := GFunc)) ?_
 have hterm171 : flqref4_Parse_L0 rv3.1 (rv3.1.length + 1) 0 0 [] ≠ LR.oof := (Parse_L0_adv _ _ _ _ (by omega)).1
 refine Kl (γ := Nat × Int × Int × List GFunc × Option Addr × Nat) (fun (r160, p1_161, p2_162, out0_163, a164, k165) => ⟨[(2, p1), (6, vl a9 k10 rv3.1), (10, p15), (11, p16)], [O a164 k165 out0_163, Cl p15 [vl a9 k10 rv3.1, vi p1_161, vi p2_162], Cl p16 [vl a164 k165 out0_163], S a9 k10 rv3.1, Cl p1 [.slice none 0 0]], flqref4_Parse_L0 rv3.1 r160 p1_161 p2_162 out0_163 = flqref4_Parse_L0 rv3.1 (rv3.1.length + 1) 0 0 [] ∧ (-9223372036854775808 ≤ p1_161 ∧ p1_161 ≤ 9223372036854775807) ∧ (-9223372036854775808 ≤ p2_162 ∧ p2_162 ≤ 9223372036854775807) ∧ (0 ≤ p1_161 ∧ p1_161 ≤ (rv3.1.length : Int)) ∧ (out0_163.length ≤ 8), r160⟩) ((rv3.1.length + 1), 0, 0, [], none, 0) [0, 0, 0, 0, 1] ⟨rfl, (by omega), (by omega), iv0, iv0⟩ ?_
 rintro ⟨r160, p1_161, p2_162, out0_163, a164, k165⟩ ⟨hM166, hk167, hk168, hv169, hv170⟩
 refine JJ_nx fun _ _ hL hA => ?_; dsimp only at hL hA; subst hL hA
 refine Fb 40 0 fun hl172 => ?_
 refine Fb 40 3 fun hl173 => ?_
 rcases r160 with _ | r160
 · exact absurd (hM166.symm.trans rfl) hterm171
 refine KS ?_
 refine Oq Vm ?_
 refine letv (parser_is (Gparser.mk rv3.1 p1_161 p2_162) (Str.mk [102, 117, 110, 99])) fun rv174 hg175 => ?_
 have hc176 := fn52 p15 (Gparser.mk rv3.1 p1_161 p2_162) a9 k10 ((Str.mk [102, 117, 110, 99])) pre pre pre pre rv174 hg175
 refine Oc [1, 2] ca52 hc176 ?_
 rintro - -
 refine KS ?_
 refine Kc ?_ ?_
 · intro h177
   refine KS ?_
   refine Oq (Vfa fo25_0 2) (Oq (VldF sh23 2) (Oq (Vlen sl23) (Oq Veql (KS ?_))))
   refine Kc ?_ ?_
   · intro h179
     have g180 := eq_of_beq h179
     refine KS ?_
     refine Oq Vm ?_
     refine letv (parser_fail (Gparser.mk rv3.1 p1_161 p2_162) 7) fun rv181 hg182 => ?_
     have hc183 := fn53 p15 (Gparser.mk rv3.1 p1_161 p2_162) a9 k10 7 pre pre pre pre rv181 hg182
     refine Oc [0, 2] ca53 hc183 ?_
     rintro - ⟨he184, he185, he186⟩
     unfold i64ok at he184 he185
     have he186 : (0 ≤ rv181.at_ ∧ rv181.at_ ≤ (rv3.1.length : Int)) := he186
     refine KS ?_
     refine Ke ?_
     have hR187 := q2 hM166 (.brk (rv181.at_, rv181.Err, out0_163)) (by simp only [flqref4_Parse_L0, h12, h20, h158, h177, h179, hg4, hg18, hg175, hg182, cs4])
     refine KS ?_
     refine Oq Vm (Oq (Vn 0) (Oq (Vfa fo91_2 0) (Oq (VldF sh57 0) (Oq Veql (Oq Vm ?_)))))
     refine Js 53 ?_ ?_
     · intro h188
       have g189 := eq_of_beq h188
       refine Oq Vm (Oq (Vn 0) (Oq (Vfa fo91_1 0) (Oq (VldF sh3 0) (Oq Vm (Oq (Vlen sl86) (Oq Vlss (Oq Vpt (KS ?_))))))))
       refine Kc ?_ ?_
       · intro h190
         have g191 := of_decide_eq_true h190
         refine KS ?_
         refine Oq Vm ?_
         refine letv (parser_fail (Gparser.mk rv3.1 rv181.at_ rv181.Err) 4) fun rv192 hg193 => ?_
         have hc194 := fn53 p15 (Gparser.mk rv3.1 rv181.at_ rv181.Err) a9 k10 4 pre pre pre pre rv192 hg193
         refine Oc [0, 2] ca53 hc194 ?_
         rintro - ⟨he195, he196, he197⟩
         unfold i64ok at he195 he196
         have he197 : (0 ≤ rv192.at_ ∧ rv192.at_ ≤ (rv3.1.length : Int)) := he197
         refine KS ?_
         refine Oq Vm (Oq (Vn 0) (Oq (Vfa fo91_2 0) (Oq (VldF sh57 0) (Oq Veql (KS ?_)))))
         refine Kc ?_ ?_
         · intro h198
           have g199 := eq_of_beq h198
           refine KS ?_
           refine Oq (VldA sh25 2) (Ost (Scl [4] sh25 [vl a164 k165 out0_163]) (Oq Va (Oq Va (Oq Va (KS ?_)))))
           refine Jl [2] (Ent.freeze _ _) ?_
           have hq := q4 hrr ((GProgram.mk out0_163), 0, 0, 0) (by simp only [flqref4_Parse, h12, h20, h158, h177, h179, h188, h190, h198, hg4, hg18, hg175, hg182, hR187, hg193, cs4]); subst hq
           exact Kr (vl a164 k165 out0_163) rfl (.cellN 1 rfl sh25 rfl (reads_Cl _ _) rfl (.tmp rfl (.tmp rfl (.tmp rfl .nil)))) [0] en
         intro h198
         have g200 := ne_of_beq_false h198
         refine KS ?_
         refine Oq Vm (Oq (Vn 0) (Oq (Vfa fo91_1 0) (Oq (VldF sh3 0) (Oq Vm (Oq (Vlen sl86) (Oq Vlss (KS ?_)))))))
         refine Kc ?_ ?_
         · intro h201
           have g202 := of_decide_eq_true h201
           refine KS ?_
           refine Jp 0 fun hp203 => ?_
           refine JJ_peek_GToken rv192.at_.toNat 4 rfl rng fun hb204 hb205 hb206 hb207 => ?_
           unfold i64ok at hb204 hb206 hb207
           refine JK_drawK [0, 0, 0, 4, 12, 28, 62, 126, 254, 0, 0, 1024, 3072, 7168, 15872, 32256, 65024, 0, 131072, 393216, 917504, 1, 2097663, 6422527, 16777215] fmix ?_
           refine Dv [] (Vbd st25 [.slice none 0 0]) (Dv [] Vm (Dv [] Vm (Dv [1] (Vn 0) (Dv [1] (Vfa fo91_1 0) (Dv [2] (VldF sh3 0) (Dv [5] (Vi sl86 0) (Dv [0] (Vfa fo95_2 0) (Dv [0] (VldF sh3 0) (Dv [] Vm ?_)))))))))
           refine Dv [] Vm (Dv [1] (Vn 0) (Dv [1] (Vfa fo91_1 0) (Dv [2] (VldF sh3 0) (Dv [5] (Vi sl86 0) (Dv [0] (Vfa fo95_3 0) (Dv [0] (VldF sh3 0) (Dv [] Vm (Dv [1] (Vn 0) (Dv [1] (Vfa fo91_2 0) ?_)))))))))
           refine Dv [2] (VldF sh57 0) (Dx0 [6] [6] [0] [fun G => Cl p1 [.slice none 0 0]] (fun G => xS (Scl [0] sh25 [.slice none 0 0])) (Dv [] Va (Dv [] Va (Dv [] Va ?_))))
           refine Dn ⟨by kernel_rfl, fun G => ?_⟩
           refine Jw2 [(2, p1), (3, vi ((rv3.1.getD rv192.at_.toNat default).Line)), (4, vi ((rv3.1.getD rv192.at_.toNat default).Col)), (5, vi rv192.Err)] [0, 1, 2, 3, 4, 5] [Cl p1 [.slice none 0 0]] ?_
           refine Jk [0, 2, 2, 2, 2, 3] ?_
           refine Jl [] (Ent.slNil (α := GFunc)) ?_
           have hq := q4 hrr ((GProgram.mk []), (rv3.1.getD rv192.at_.toNat default).Line, (rv3.1.getD rv192.at_.toNat default).Col, rv192.Err) (by simp only [flqref4_Parse, h12, h20, h158, h177, h179, h188, h190, h198, h201, hg4, hg18, hg175, hg182, hR187, hg193, cs4]); subst hq
           exact Kr (.slice none 0 0) rfl (.cellN 6 rfl sh25 rfl (reads_Cl _ _) rfl (.tmp rfl (.tmp rfl (.tmp rfl .nil)))) [0] en
         intro h201
         have g208 := of_decide_eq_false h201
         refine KS ?_
         refine Jp 0 fun hp209 => ?_
         refine JK_drawK [0, 0, 2, 6, 14, 1, 33, 97, 255] fmix ?_
         refine Dv [] (Vbd st25 [.slice none 0 0]) (Dv [] Vm (Dv [0] (Vn 0) (Dv [0] (Vfa fo91_2 0) (Dv [1] (VldF sh57 0) (Dx0 [5] [5] [0] [fun G => Cl p1 [.slice none 0 0]] (fun G => xS (Scl [0] sh25 [.slice none 0 0])) (Dv [] Va (Dv [] Va (Dv [] Va ?_))))))))
         refine Dn ⟨by kernel_rfl, fun G => ?_⟩
         refine Jw2 [(2, p1), (3, vi 0), (4, vi 0), (5, vi rv192.Err)] [0, 1, 2, 3, 4] [Cl p1 [.slice none 0 0]] ?_
         refine Jk [1, 1, 1, 1, 2] ?_
         refine Jl [] (Ent.slNil (α := GFunc)) ?_
         have hq := q4 hrr ((GProgram.mk []), 0, 0, rv192.Err) (by simp only [flqref4_Parse, h12, h20, h158, h177, h179, h188, h190, h198, h201, hg4, hg18, hg175, hg182, hR187, hg193, cs4]); subst hq
         exact Kr (.slice none 0 0) rfl (.cellN 5 rfl sh25 rfl (reads_Cl _ _) rfl (.tmp rfl (.tmp rfl (.tmp rfl .nil)))) [0] en
       intro h190
       have g210 := of_decide_eq_false h190
       refine KS ?_
       refine Oq Vm (Oq (Vn 0) (Oq (Vfa fo91_2 0) (Oq (VldF sh57 0) (Oq Veql (KS ?_)))))
       refine Kc ?_ ?_
       · intro h211
         have g212 := eq_of_beq h211
         refine KS ?_
         refine Oq (VldA sh25 2) (Ost (Scl [4] sh25 [vl a164 k165 out0_163]) (Oq Va (Oq Va (Oq Va (KS ?_)))))
         refine Jl [2] (Ent.freeze _ _) ?_
         have hq := q4 hrr ((GProgram.mk out0_163), 0, 0, 0) (by simp only [flqref4_Parse, h12, h20, h158, h177, h179, h188, h190, h211, hg4, hg18, hg175, hg182, hR187, cs4]); subst hq
         exact Kr (vl a164 k165 out0_163) rfl (.cellN 1 rfl sh25 rfl (reads_Cl _ _) rfl (.tmp rfl (.tmp rfl (.tmp rfl .nil)))) [0] en
       intro h211
       exact absurd h211 (by first | (simp [h188]; done) | (simp only [bne, h188]; decide) | (simp only [bne, h188, Bool.not_true, Bool.not_false]; decide) | (exfalso; omega) | (intro hq; simp only [bne, hq, Bool.not_false, Bool.not_true, reduceCtorEq] at h188))
     intro h188
     have g213 := ne_of_beq_false h188
     refine Osk (Osk (Osk (Osk (Osk (Osk (Osk (Oq Vpf (KS ?_))))))))
     refine Kf ?_
     refine KS ?_
     refine Oq Vm (Oq (Vn 0) (Oq (Vfa fo91_2 0) (Oq (VldF sh57 0) (Oq Veql (KS ?_)))))
     refine Kc ?_ ?_
     · intro h214
       exact absurd h214 (by first | (simp [h188]; done) | (simp only [bne, h188]; decide) | (simp only [bne, h188, Bool.not_true, Bool.not_false]; decide) | (exfalso; omega) | (intro hq; simp only [bne, hq, Bool.not_false, Bool.not_true, reduceCtorEq] at h188))
     intro h214
     have g215 := ne_of_beq_false h214
     refine KS ?_
     refine Oq Vm (Oq (Vn 0) (Oq (Vfa fo91_1 0) (Oq (VldF sh3 0) (Oq Vm (Oq (Vlen sl86) (Oq Vlss (KS ?_)))))))
     refine Kc ?_ ?_
     · intro h216
       have g217 := of_decide_eq_true h216
       refine KS ?_
       refine Jp 0 fun hp218 => ?_
       refine JJ_peek_GToken rv181.at_.toNat 4 rfl rng fun hb219 hb220 hb221 hb222 => ?_
       unfold i64ok at hb219 hb221 hb222
       refine JK_drawK [0, 0, 0, 4, 12, 28, 62, 126, 254, 0, 0, 1024, 3072, 7168, 15872, 32256, 65024, 0, 131072, 393216, 917504, 1, 2097663, 6422527, 16777215] fmix ?_
       refine Dv [] (Vbd st25 [.slice none 0 0]) (Dv [] Vm (Dv [] Vm (Dv [1] (Vn 0) (Dv [1] (Vfa fo91_1 0) (Dv [2] (VldF sh3 0) (Dv [5] (Vi sl86 0) (Dv [0] (Vfa fo95_2 0) (Dv [0] (VldF sh3 0) (Dv [] Vm ?_)))))))))
       refine Dv [] Vm (Dv [1] (Vn 0) (Dv [1] (Vfa fo91_1 0) (Dv [2] (VldF sh3 0) (Dv [5] (Vi sl86 0) (Dv [0] (Vfa fo95_3 0) (Dv [0] (VldF sh3 0) (Dv [] Vm (Dv [1] (Vn 0) (Dv [1] (Vfa fo91_2 0) ?_)))))))))
       refine Dv [2] (VldF sh57 0) (Dx0 [6] [6] [0] [fun G => Cl p1 [.slice none 0 0]] (fun G => xS (Scl [0] sh25 [.slice none 0 0])) (Dv [] Va (Dv [] Va (Dv [] Va ?_))))
       refine Dn ⟨by kernel_rfl, fun G => ?_⟩
       refine Jw2 [(2, p1), (3, vi ((rv3.1.getD rv181.at_.toNat default).Line)), (4, vi ((rv3.1.getD rv181.at_.toNat default).Col)), (5, vi rv181.Err)] [0, 1, 2, 3, 4, 5] [Cl p1 [.slice none 0 0]] ?_
       refine Jk [0, 2, 2, 2, 2, 3] ?_
       refine Jl [] (Ent.slNil (α := GFunc)) ?_
       have hq := q4 hrr ((GProgram.mk []), (rv3.1.getD rv181.at_.toNat default).Line, (rv3.1.getD rv181.at_.toNat default).Col, rv181.Err) (by simp only [flqref4_Parse, h12, h20, h158, h177, h179, h188, h214, h216, hg4, hg18, hg175, hg182, hR187, cs4]); subst hq
       exact Kr (.slice none 0 0) rfl (.cellN 6 rfl sh25 rfl (reads_Cl _ _) rfl (.tmp rfl (.tmp rfl (.tmp rfl .nil)))) [0] en
     intro h216
     have g223 := of_decide_eq_false h216
     refine KS ?_
     refine Jp 0 fun hp224 => ?_
     refine JK_drawK [0, 0, 2, 6, 14, 1, 33, 97, 255] fmix ?_
     refine Dv [] (Vbd st25 [.slice none 0 0]) (Dv [] Vm (Dv [0] (Vn 0) (Dv [0] (Vfa fo91_2 0) (Dv [1] (VldF sh57 0) (Dx0 [5] [5] [0] [fun G => Cl p1 [.slice none 0 0]] (fun G => xS (Scl [0] sh25 [.slice none 0 0])) (Dv [] Va (Dv [] Va (Dv [] Va ?_))))))))
     refine Dn ⟨by kernel_rfl, fun G => ?_⟩
     refine Jw2 [(2, p1), (3, vi 0), (4, vi 0), (5, vi rv181.Err)] [0, 1, 2, 3, 4] [Cl p1 [.slice none 0 0]] ?_
     refine Jk [1, 1, 1, 1, 2] ?_
     refine Jl [] (Ent.slNil (α := GFunc)) ?_
     have hq := q4 hrr ((GProgram.mk []), 0, 0, rv181.Err) (by simp only [flqref4_Parse, h12, h20, h158, h177, h179, h188, h214, h216, hg4, hg18, hg175, hg182, hR187, cs4]); subst hq
     exact Kr (.slice none 0 0) rfl (.cellN 5 rfl sh25 rfl (reads_Cl _ _) rfl (.tmp rfl (.tmp rfl (.tmp rfl .nil)))) [0] en
   intro h179
   have g225 := ne_of_beq_false h179
   refine KS ?_
   refine Jp 2 fun hp226 => ?_
   refine JK_drawK [0, 1, 0, 4, 12, 31, 63, 127] fmix ?_
   refine Dv [0] (Vfa fo25_0 0) (Dv [3] (VldF sh23 0) (Dv [] Vm ?_))
   refine letv (parser_function (Gparser.mk rv3.1 p1_161 p2_162)) fun rv228 hg229 => ?_
   refine Dx [1, 4] [1] [3, 0, 1, 2] (fun G => .agg #[.string (bs rv228.1.Name), (G.g 3 0)]) [fun G => SP.fact (rv228.1.Name.b.length ≤ 140737488355328 ∧ i64ok rv228.2.at_ ∧ i64ok rv228.2.Err ∧ (0 ≤ rv228.2.at_ ∧ rv228.2.at_ ≤ ((Gparser.mk rv3.1 p1_161 p2_162).l.length : Int))), fun G => sl (G.g 3 0) rv228.1.Blocks, fun G => Cl p15 [vl a9 k10 rv3.1, vi rv228.2.at_, vi rv228.2.Err]] (fun G => xC [0, 0] ca54 (fn54 p15 (Gparser.mk rv3.1 p1_161 p2_162) a9 k10 pre pre pre rv228 hg229)) (Dx [] [] [0] (fun G => (G.g 4 0)) [fun G => Cr (G.g 4 0) 1 [.string (bs rv228.1.Name), (G.g 3 0)]] (fun G => xA (AsV sl23 sz23 [.agg #[.string (bs rv228.1.Name), (G.g 3 0)]] [.string (bs rv228.1.Name), (G.g 3 0)])) ?_)
   have hn232 := la out0_163 ([rv228.1] : List GFunc)
   refine Dx [2, 6, 7, 9] [2, 9] [2, 1, 0] (fun G => (G.g 5 0)) [fun G => os (G.g 5 0) ((out0_163 ++ [rv228.1]) : List GFunc)] (fun G => by refine xf 1 rfl ?_; rintro ⟨he233, he234, he235, he236⟩; unfold i64ok at he234 he235; exact xp [3, 2] rfl (Ent.cr1 (α := GFunc) (A := [sl (G.g 3 0) rv228.1.Blocks]) _ rv228.1 _ (Nat.le_of_ble_eq_true rfl) (fun h => ⟨_, rfl, (by first | omega | (simp; done) | (dsimp only; omega) | exact lit_bl rfl), sepAll_get (i := 0) rfl h⟩)) (xA (ApO [2, 0] sl23 sl23 sz23))) (Dv [0] (Vfa fo25_0 0) (Dx0 [3, 10] [3] [1, 0] [fun G => Cl p16 [(G.g 5 0)]] (fun G => x1 1 rfl os_one fun ho237 => (xS (OpS.frame [0] rfl (OpS.storeClF [(G.g 5 0)] [(G.g 5 0)] rfl rfl rfl sh23 (cells_of_one ho237) rfl (by simp only [List.all_cons, List.all_nil, ho237, Bool.and_true, Bool.true_and] <;> rfl) (Nat.le_of_ble_eq_true rfl) rfl)))) ?_))
   refine Dn ⟨by kernel_rfl, fun G => ?_⟩
   refine Jw2 [(2, p1), (6, vl a9 k10 rv3.1), (10, p15), (11, p16)] [0, 4, 5] [SP.fact (rv228.1.Name.b.length ≤ 140737488355328 ∧ i64ok rv228.2.at_ ∧ i64ok rv228.2.Err ∧ (0 ≤ rv228.2.at_ ∧ rv228.2.at_ ≤ ((Gparser.mk rv3.1 p1_161 p2_162).l.length : Int))), sl (G.g 3 0) rv228.1.Blocks, Cl p15 [vl a9 k10 rv3.1, vi rv228.2.at_, vi rv228.2.Err], os (G.g 5 0) ((out0_163 ++ [rv228.1]) : List GFunc), Cl p16 [(G.g 5 0)]] ?_
   generalize G.g 3 0 = c227, G.g 5 0 = c231
   refine Jf 3 rfl ?_; rintro ⟨he238, he239, he240, he241⟩
   unfold i64ok at he239 he240
   refine Jk [1, 2, 3, 4, 4, 4] ?_
   refine Jo 2 ?_; rintro a242 k243 rfl
   refine Fb 40 2 fun hl244 => ?_
   refine Jo 4 ?_; rintro a245 k246 rfl
   refine Fb 40 4 fun hl247 => ?_
   refine KS ?_
   exact Kg (r160, rv228.2.at_, rv228.2.Err, (out0_163 ++ [rv228.1]), a245, k246) [4, 3, 3, 0, 1] ⟨(q3 hM166 (by simp only [flqref4_Parse_L0, h12, h20, h158, h177, h179, hg4, hg18, hg175, hg229, cs4])), (by omega), (by omega), iv1, iv1⟩
 intro h177
 refine Ke ?_
 have hR249 := q2 hM166 (.brk (p1_161, p2_162, out0_163)) (by simp only [flqref4_Parse_L0, h12, h20, h158, h177, hg4, hg18, hg175, cs4])
 refine KS ?_
 refine Oq Vm (Oq (Vn 0) (Oq (Vfa fo91_2 0) (Oq (VldF sh57 0) (Oq Veql (Oq Vm ?_)))))
 refine Js 53 ?_ ?_
 · intro h250
   have g251 := eq_of_beq h250
   refine Oq Vm (Oq (Vn 0) (Oq (Vfa fo91_1 0) (Oq (VldF sh3 0) (Oq Vm (Oq (Vlen sl86) (Oq Vlss (Oq Vpt (KS ?_))))))))
   refine Kc ?_ ?_
   · intro h252
     have g253 := of_decide_eq_true h252
     refine KS ?_
     refine Oq Vm ?_
     refine letv (parser_fail (Gparser.mk rv3.1 p1_161 p2_162) 4) fun rv254 hg255 => ?_
     have hc256 := fn53 p15 (Gparser.mk rv3.1 p1_161 p2_162) a9 k10 4 pre pre pre pre rv254 hg255
     refine Oc [0, 2] ca53 hc256 ?_
     rintro - ⟨he257, he258, he259⟩
     unfold i64ok at he257 he258
     have he259 : (0 ≤ rv254.at_ ∧ rv254.at_ ≤ (rv3.1.length : Int)) := he259
     refine KS ?_
     refine Oq Vm (Oq (Vn 0) (Oq (Vfa fo91_2 0) (Oq (VldF sh57 0) (Oq Veql (KS ?_)))))
     refine Kc ?_ ?_
     · intro h260
       have g261 := eq_of_beq h260
       refine KS ?_
       refine Oq (VldA sh25 2) (Ost (Scl [4] sh25 [vl a164 k165 out0_163]) (Oq Va (Oq Va (Oq Va (KS ?_)))))
       refine Jl [2] (Ent.freeze _ _) ?_
       have hq := q4 hrr ((GProgram.mk out0_163), 0, 0, 0) (by simp only [flqref4_Parse, h12, h20, h158, h177, h250, h252, h260, hg4, hg18, hg175, hR249, hg255, cs4]); subst hq
       exact Kr (vl a164 k165 out0_163) rfl (.cellN 1 rfl sh25 rfl (reads_Cl _ _) rfl (.tmp rfl (.tmp rfl (.tmp rfl .nil)))) [0] en
     intro h260
     have g262 := ne_of_beq_false h260
     refine KS ?_
     refine Oq Vm (Oq (Vn 0) (Oq (Vfa fo91_1 0) (Oq (VldF sh3 0) (Oq Vm (Oq (Vlen sl86) (Oq Vlss (KS ?_)))))))
     refine Kc ?_ ?_
     · intro h263
       have g264 := of_decide_eq_true h263
       refine KS ?_
       refine Jp 0 fun hp265 => ?_
       refine JJ_peek_GToken rv254.at_.toNat 4 rfl rng fun hb266 hb267 hb268 hb269 => ?_
       unfold i64ok at hb266 hb268 hb269
       refine JK_drawK [0, 0, 0, 4, 12, 28, 62, 126, 254, 0, 0, 1024, 3072, 7168, 15872, 32256, 65024, 0, 131072, 393216, 917504, 1, 2097663, 6422527, 16777215] fmix ?_
       refine Dv [] (Vbd st25 [.slice none 0 0]) (Dv [] Vm (Dv [] Vm (Dv [1] (Vn 0) (Dv [1] (Vfa fo91_1 0) (Dv [2] (VldF sh3 0) (Dv [5] (Vi sl86 0) (Dv [0] (Vfa fo95_2 0) (Dv [0] (VldF sh3 0) (Dv [] Vm ?_)))))))))
       refine Dv [] Vm (Dv [1] (Vn 0) (Dv [1] (Vfa fo91_1 0) (Dv [2] (VldF sh3 0) (Dv [5] (Vi sl86 0) (Dv [0] (Vfa fo95_3 0) (Dv [0] (VldF sh3 0) (Dv [] Vm (Dv [1] (Vn 0) (Dv [1] (Vfa fo91_2 0) ?_)))))))))
       refine Dv [2] (VldF sh57 0) (Dx0 [6] [6] [0] [fun G => Cl p1 [.slice none 0 0]] (fun G => xS (Scl [0] sh25 [.slice none 0 0])) (Dv [] Va (Dv [] Va (Dv [] Va ?_))))
       refine Dn ⟨by kernel_rfl, fun G => ?_⟩
       refine Jw2 [(2, p1), (3, vi ((rv3.1.getD rv254.at_.toNat default).Line)), (4, vi ((rv3.1.getD rv254.at_.toNat default).Col)), (5, vi rv254.Err)] [0, 1, 2, 3, 4, 5] [Cl p1 [.slice none 0 0]] ?_
       refine Jk [0, 2, 2, 2, 2, 3] ?_
       refine Jl [] (Ent.slNil (α := GFunc)) ?_
       have hq := q4 hrr ((GProgram.mk []), (rv3.1.getD rv254.at_.toNat default).Line, (rv3.1.getD rv254.at_.toNat default).Col, rv254.Err) (by simp only [flqref4_Parse, h12, h20, h158, h177, h250, h252, h260, h263, hg4, hg18, hg175, hR249, hg255, cs4]); subst hq
       exact Kr (.slice none 0 0) rfl (.cellN 6 rfl sh25 rfl (reads_Cl _ _) rfl (.tmp rfl (.tmp rfl (.tmp rfl .nil)))) [0] en
     intro h263
     have g270 := of_decide_eq_false h263
     refine KS ?_
     refine Jp 0 fun hp271 => ?_
     refine JK_drawK [0, 0, 2, 6, 14, 1, 33, 97, 255] fmix ?_
     refine Dv [] (Vbd st25 [.slice none 0 0]) (Dv [] Vm (Dv [0] (Vn 0) (Dv [0] (Vfa fo91_2 0) (Dv [1] (VldF sh57 0) (Dx0 [5] [5] [0] [fun G => Cl p1 [.slice none 0 0]] (fun G => xS (Scl [0] sh25 [.slice none 0 0])) (Dv [] Va (Dv [] Va (Dv [] Va ?_))))))))
     refine Dn ⟨by kernel_rfl, fun G => ?_⟩
     refine Jw2 [(2, p1), (3, vi 0), (4, vi 0), (5, vi rv254.Err)] [0, 1, 2, 3, 4] [Cl p1 [.slice none 0 0]] ?_
     refine Jk [1, 1, 1, 1, 2] ?_
     refine Jl [] (Ent.slNil (α := GFunc)) ?_
     have hq := q4 hrr ((GProgram.mk []), 0, 0, rv254.Err) (by simp only [flqref4_Parse, h12, h20, h158, h177, h250, h252, h260, h263, hg4, hg18, hg175, hR249, hg255, cs4]); subst hq
     exact Kr (.slice none 0 0) rfl (.cellN 5 rfl sh25 rfl (reads_Cl _ _) rfl (.tmp rfl (.tmp rfl (.tmp rfl .nil)))) [0] en
   intro h252
   have g272 := of_decide_eq_false h252
   refine KS ?_
   refine Oq Vm (Oq (Vn 0) (Oq (Vfa fo91_2 0) (Oq (VldF sh57 0) (Oq Veql (KS ?_)))))
   refine Kc ?_ ?_
   · intro h273
     have g274 := eq_of_beq h273
     refine KS ?_
     refine Oq (VldA sh25 2) (Ost (Scl [4] sh25 [vl a164 k165 out0_163]) (Oq Va (Oq Va (Oq Va (KS ?_)))))
     refine Jl [2] (Ent.freeze _ _) ?_
     have hq := q4 hrr ((GProgram.mk out0_163), 0, 0, 0) (by simp only [flqref4_Parse, h12, h20, h158, h177, h250, h252, h273, hg4, hg18, hg175, hR249, cs4]); subst hq
     exact Kr (vl a164 k165 out0_163) rfl (.cellN 1 rfl sh25 rfl (reads_Cl _ _) rfl (.tmp rfl (.tmp rfl (.tmp rfl .nil)))) [0] en
   intro h273
   exact absurd h273 (by first | (simp [h250]; done) | (simp only [bne, h250]; decide) | (simp only [bne, h250, Bool.not_true, Bool.not_false]; decide) | (exfalso; omega) | (intro hq; simp only [bne, hq, Bool.not_false, Bool.not_true, reduceCtorEq] at h250))
 intro h250
 have g275 := ne_of_beq_false h250
 refine Osk (Osk (Osk (Osk (Osk (Osk (Osk (Oq Vpf (KS ?_))))))))
 refine Kf ?_
 refine KS ?_
 refine Oq Vm (Oq (Vn 0) (Oq (Vfa fo91_2 0) (Oq (VldF sh57 0) (Oq Veql (KS ?_)))))
 refine Kc ?_ ?_
 · intro h276
   exact absurd h276 (by first | (simp [h250]; done) | (simp only [bne, h250]; decide) | (simp only [bne, h250, Bool.not_true, Bool.not_false]; decide) | (exfalso; omega) | (intro hq; simp only [bne, hq, Bool.not_false, Bool.not_true, reduceCtorEq] at h250))
 intro h276
 have g277 := ne_of_beq_false h276
 refine KS ?_
 refine Oq Vm (Oq (Vn 0) (Oq (Vfa fo91_1 0) (Oq (VldF sh3 0) (Oq Vm (Oq (Vlen sl86) (Oq Vlss (KS ?_)))))))
 refine Kc ?_ ?_
 · intro h278
   have g279 := of_decide_eq_true h278
   refine KS ?_
   refine Jp 0 fun hp280 => ?_
   refine JJ_peek_GToken p1_161.toNat 4 rfl rng fun hb281 hb282 hb283 hb284 => ?_
   unfold i64ok at hb281 hb283 hb284
   refine JK_drawK [0, 0, 0, 4, 12, 28, 62, 126, 254, 0, 0, 1024, 3072, 7168, 15872, 32256, 65024, 0, 131072, 393216, 917504, 1, 2097663, 6422527, 16777215] fmix ?_
   refine Dv [] (Vbd st25 [.slice none 0 0]) (Dv [] Vm (Dv [] Vm (Dv [1] (Vn 0) (Dv [1] (Vfa fo91_1 0) (Dv [2] (VldF sh3 0) (Dv [5] (Vi sl86 0) (Dv [0] (Vfa fo95_2 0) (Dv [0] (VldF sh3 0) (Dv [] Vm ?_)))))))))
   refine Dv [] Vm (Dv [1] (Vn 0) (Dv [1] (Vfa fo91_1 0) (Dv [2] (VldF sh3 0) (Dv [5] (Vi sl86 0) (Dv [0] (Vfa fo95_3 0) (Dv [0] (VldF sh3 0) (Dv [] Vm (Dv [1] (Vn 0) (Dv [1] (Vfa fo91_2 0) ?_)))))))))
   refine Dv [2] (VldF sh57 0) (Dx0 [6] [6] [0] [fun G => Cl p1 [.slice none 0 0]] (fun G => xS (Scl [0] sh25 [.slice none 0 0])) (Dv [] Va (Dv [] Va (Dv [] Va ?_))))
   refine Dn ⟨by kernel_rfl, fun G => ?_⟩
   refine Jw2 [(2, p1), (3, vi ((rv3.1.getD p1_161.toNat default).Line)), (4, vi ((rv3.1.getD p1_161.toNat default).Col)), (5, vi p2_162)] [0, 1, 2, 3, 4, 5] [Cl p1 [.slice none 0 0]] ?_
   refine Jk [0, 2, 2, 2, 2, 3] ?_
   refine Jl [] (Ent.slNil (α := GFunc)) ?_
   have hq := q4 hrr ((GProgram.mk []), (rv3.1.getD p1_161.toNat default).Line, (rv3.1.getD p1_161.toNat default).Col, p2_162) (by simp only [flqref4_Parse, h12, h20, h158, h177, h250, h276, h278, hg4, hg18, hg175, hR249, cs4]); subst hq
   exact Kr (.slice none 0 0) rfl (.cellN 6 rfl sh25 rfl (reads_Cl _ _) rfl (.tmp rfl (.tmp rfl (.tmp rfl .nil)))) [0] en
 intro h278
 have g285 := of_decide_eq_false h278
 refine KS ?_
 refine Jp 0 fun hp286 => ?_
 refine JK_drawK [0, 0, 2, 6, 14, 1, 33, 97, 255] fmix ?_
 refine Dv [] (Vbd st25 [.slice none 0 0]) (Dv [] Vm (Dv [0] (Vn 0) (Dv [0] (Vfa fo91_2 0) (Dv [1] (VldF sh57 0) (Dx0 [5] [5] [0] [fun G => Cl p1 [.slice none 0 0]] (fun G => xS (Scl [0] sh25 [.slice none 0 0])) (Dv [] Va (Dv [] Va (Dv [] Va ?_))))))))
 refine Dn ⟨by kernel_rfl, fun G => ?_⟩
 refine Jw2 [(2, p1), (3, vi 0), (4, vi 0), (5, vi p2_162)] [0, 1, 2, 3, 4] [Cl p1 [.slice none 0 0]] ?_
 refine Jk [1, 1, 1, 1, 2] ?_
 refine Jl [] (Ent.slNil (α := GFunc)) ?_
 have hq := q4 hrr ((GProgram.mk []), 0, 0, p2_162) (by simp only [flqref4_Parse, h12, h20, h158, h177, h250, h276, h278, hg4, hg18, hg175, hR249, cs4]); subst hq
 exact Kr (.slice none 0 0) rfl (.cellN 5 rfl sh25 rfl (reads_Cl _ _) rfl (.tmp rfl (.tmp rfl (.tmp rfl .nil)))) [0] en
theorem fn21  (rr : GProgram) (hrr : flqlaw7_program = rr) : FT Tryd.prog 21 #[] [] (fun g : Value => True) (fun g => .agg #[g]) (fun g => [sl g rr.Funcs]) := by
 refine FTi Tryd.func21 fun w0 M0 F0 => ?_
 refine KS ?_
 refine Oa (Al ze25 [.slice none 0 0]) fun p1 => KS ?_
 refine letv (flqref4_Parse (Str.mk [102, 117, 110, 99, 32, 109, 59, 32, 98, 108, 111, 99, 107, 32, 98, 59, 32, 120, 32, 61, 32, 121, 59, 32, 99, 97, 108, 108, 32, 109, 59, 32, 114, 101, 116, 117, 114, 110, 59, 32, 101, 110, 100])) fun rv3 hg4 => ?_
 have hc5 := fn34 ((Str.mk [102, 117, 110, 99, 32, 109, 59, 32, 98, 108, 111, 99, 107, 32, 98, 59, 32, 120, 32, 61, 32, 121, 59, 32, 99, 97, 108, 108, 32, 109, 59, 32, 114, 101, 116, 117, 114, 110, 59, 32, 101, 110, 100])) pre rv3 hg4
 refine Oc [] ca34 hc5 ?_
 rintro c2 ⟨he6, he7, he8⟩
 unfold i64ok at he6 he7 he8
 refine Jo 0 ?_; rintro a9 k10 rfl
 refine Fb 40 0 fun hl11 => ?_
 refine Oq Vm (Oq Vx (Oq Vx (Oq Vx (Oq Vx (Oa (Al ze25 [.slice none 0 0]) fun p12 => Ost (Scl [0] sh25 [vl a9 k10 rv3.1.Funcs]) (Oq Va (Oq Va (Oq Va ?_))))))))
 refine KS ?_
 refine Oq (VldA sh25 0) (Ost (Scl [2] sh25 [vl a9 k10 rv3.1.Funcs]) (KS ?_))
 have hq := q4 hrr rv3.1 (by simp only [flqlaw7_program, hg4, cs4]); subst hq
 exact Kr (vl a9 k10 rv3.1.Funcs) rfl (.cellN 0 rfl sh25 rfl (reads_Cl _ _) rfl .nil) [2] trivial
theorem fn11 (kwLA : Option Addr) (kwLK : Nat) (rr : Bool) (hrr : flqlaw7_sane = rr) : FT Tryd.prog 11 #[] [pv (gp 0) [vl kwLA kwLK kwL], S kwLA kwLK kwL] (fun g : Unit => True) (fun g => vb rr) (fun g => []) := by
 refine FTi Tryd.func11 fun w0 M0 F0 => ?_
 refine Fb 16 1 fun hl1 => ?_
 refine FoS 1 fun ho2 => ?_
 refine KS ?_
 refine Oq Va (KS ?_)
 have hc4 := fn21  flqlaw7_program rfl
 refine Oc [] ca21 hc4 ?_
 rintro c3 -
 refine Jo 0 ?_; rintro a5 k6 rfl
 refine Fb 40 0 fun hl7 => ?_
 refine letv (nodes_List flqlaw7_program) fun rv9 hg10 => ?_
 have hc11 := fn7 flqlaw7_program a5 k6 kwLA kwLK (by first | exact Program_PSm' (by assumption) | exact SpP_PSm (Program_SpP (by assumption)) | kernel_rfl) rv9 hg10
 refine Oc [0, 1, 2] ca7 hc11 ?_
 rintro c8 he12
 refine Jo 0 ?_; rintro a13 k14 rfl
 refine Fb 32 0 fun hl15 => ?_
 refine Oq Va (KS ?_)
 refine Oa (AsV sl45 sz45 [.string (bs (Str.mk [109, 46, 101, 110, 116, 114, 121])), .string (bs (Str.mk [109, 46, 98, 46, 48])), .string (bs (Str.mk [109, 46, 98, 46, 49])), .string (bs (Str.mk [109, 46, 98, 46, 49, 43])), .string (bs (Str.mk [109, 46, 98, 46, 50])), .string (bs (Str.mk [109, 46, 101, 120, 105, 116]))] [.string (bs (Str.mk [109, 46, 101, 110, 116, 114, 121])), .string (bs (Str.mk [109, 46, 98, 46, 48])), .string (bs (Str.mk [109, 46, 98, 46, 49])), .string (bs (Str.mk [109, 46, 98, 46, 49, 43])), .string (bs (Str.mk [109, 46, 98, 46, 50])), .string (bs (Str.mk [109, 46, 101, 120, 105, 116]))]) fun c16 => ?_
 refine Jo 0 ?_; rintro a17 k18 rfl
 refine Oq Va (KS ?_)
 refine Oq Vm (Oq (Vlen sl29) (Oq Vm (Oq (Vlen sl45) (Oq Vneq (KS ?_)))))
 refine Kc ?_ ?_
 · intro h19
   have g20 := ne_of_bne h19
   refine KS ?_
   refine Oq Va (KS ?_)
   have hq := q4 hrr false (by simp only [flqlaw7_sane, h19, hg10, cs4]); subst hq
   exact Kr () rfl (.tmp rfl .nil) [] trivial
 intro h19
 have g21 := eq_of_bne_false h19
 refine KS ?_
 refine Oq Va (KS ?_)
 refine Jl [0] (Ent.crOs (α := Str) (A := []) _ ([(Str.mk [109, 46, 101, 110, 116, 114, 121]), (Str.mk [109, 46, 98, 46, 48]), (Str.mk [109, 46, 98, 46, 49]), (Str.mk [109, 46, 98, 46, 49, 43]), (Str.mk [109, 46, 98, 46, 50]), (Str.mk [109, 46, 101, 120, 105, 116])] : List Str) _ (Nat.le_of_ble_eq_true rfl) (fun h => ⟨[.string (bs (Str.mk [109, 46, 101, 110, 116, 114, 121]))], [.string (bs (Str.mk [109, 46, 98, 46, 48])), .string (bs (Str.mk [109, 46, 98, 46, 49])), .string (bs (Str.mk [109, 46, 98, 46, 49, 43])), .string (bs (Str.mk [109, 46, 98, 46, 50])), .string (bs (Str.mk [109, 46, 101, 120, 105, 116]))], rfl, (fun _ => ⟨rfl, by first | omega | (simp; done) | (dsimp only; omega) | exact lit_bl rfl⟩) h, ⟨[.string (bs (Str.mk [109, 46, 98, 46, 48]))], [.string (bs (Str.mk [109, 46, 98, 46, 49])), .string (bs (Str.mk [109, 46, 98, 46, 49, 43])), .string (bs (Str.mk [109, 46, 98, 46, 50])), .string (bs (Str.mk [109, 46, 101, 120, 105, 116]))], rfl, (fun _ => ⟨rfl, by first | omega | (simp; done) | (dsimp only; omega) | exact lit_bl rfl⟩) h, ⟨[.string (bs (Str.mk [109, 46, 98, 46, 49]))], [.string (bs (Str.mk [109, 46, 98, 46, 49, 43])), .string (bs (Str.mk [109, 46, 98, 46, 50])), .string (bs (Str.mk [109, 46, 101, 120, 105, 116]))], rfl, (fun _ => ⟨rfl, by first | omega | (simp; done) | (dsimp only; omega) | exact lit_bl rfl⟩) h, ⟨[.string (bs (Str.mk [109, 46, 98, 46, 49, 43]))], [.string (bs (Str.mk [109, 46, 98, 46, 50])), .string (bs (Str.mk [109, 46, 101, 120, 105, 116]))], rfl, (fun _ => ⟨rfl, by first | omega | (simp; done) | (dsimp only; omega) | exact lit_bl rfl⟩) h, ⟨[.string (bs (Str.mk [109, 46, 98, 46, 50]))], [.string (bs (Str.mk [109, 46, 101, 120, 105, 116]))], rfl, (fun _ => ⟨rfl, by first | omega | (simp; done) | (dsimp only; omega) | exact lit_bl rfl⟩) h, ⟨[.string (bs (Str.mk [109, 46, 101, 120, 105, 116]))], [], rfl, (fun _ => ⟨rfl, by first | omega | (simp; done) | (dsimp only; omega) | exact lit_bl rfl⟩) h, rfl⟩⟩⟩⟩⟩⟩)) ?_
 refine Fb 16 0 fun hl22 => ?_
 refine FoS 0 fun ho23 => ?_
 refine Kl (γ := Nat × Int) (fun (r24, i_25) => ⟨[(1, vl a13 k14 rv9), (2, .slice a17 6 k18), (3, vi i_25)], [os (.slice a17 6 k18) ([(Str.mk [109, 46, 101, 110, 116, 114, 121]), (Str.mk [109, 46, 98, 46, 48]), (Str.mk [109, 46, 98, 46, 49]), (Str.mk [109, 46, 98, 46, 49, 43]), (Str.mk [109, 46, 98, 46, 50]), (Str.mk [109, 46, 101, 120, 105, 116])] : List Str), S a13 k14 rv9, pv (gp 0) [vl kwLA kwLK kwL], S kwLA kwLK kwL], flqlaw7_sane_L0 rv9 r24 i_25 = flqlaw7_sane_L0 rv9 (((rv9.length : Int) - 0).toNat) 0 ∧ r24 = ((rv9.length : Int) - i_25).toNat ∧ (0 : Int) ≤ i_25 ∧ i_25 ≤ (rv9.length : Int) ∧ (-9223372036854775808 ≤ i_25 ∧ i_25 ≤ 9223372036854775807), r24⟩) (((rv9.length : Int) - 0).toNat, 0) [0, 0, 2, 3] ⟨rfl, rfl, (by omega), (by omega), (by omega)⟩ ?_
 rintro ⟨r24, i_25⟩ ⟨hM26, hr27, hi28, hi29, hk30⟩
 refine JJ_nx fun _ _ hL hA => ?_; dsimp only at hL hA; subst hL hA
 refine Fb 16 0 fun hl31 => ?_
 refine FoS 0 fun ho32 => ?_
 refine Fl 0 fun hn33 => ?_
 refine Fb 32 1 fun hl34 => ?_
 refine Fb 16 3 fun hl35 => ?_
 refine FoS 3 fun ho36 => ?_
 refine KS ?_
 refine Oq Vm (Oq Vm (Oq (Vlen sl29) (Oq Vlss (KS ?_))))
 refine Kc ?_ ?_
 · intro h37
   have g38 := of_decide_eq_true h37
   obtain ⟨r39, rfl⟩ := scc (n := r24) (by omega)
   refine KS ?_
   refine JJ_peek_GNode i_25.toNat 1 rfl rng fun hb40 hb41 hb42 hb43 => ?_
   unfold i64ok at hb40 hb41 hb42 hb43
   refine JK_drawK [0, 0, 0, 6, 14, 31, 0, 0, 192, 448, 1023] fmix ?_
   refine Dx [] [] [0, 1] (fun G => .agg #[(G.g 0 0)]) [fun G => SP.fact (True), fun G => sl (G.g 0 0) flqlaw7_program.Funcs] (fun G => xC [] ca21 (fn21  flqlaw7_program rfl)) (Dv [] Vm (Dv [] Vm (Dv [2] (Vi sl29 0) (Dv [0] (VldA sh35 0) ?_))))
   refine letv (nodes_Label flqlaw7_program (rv9.getD i_25.toNat default)) fun rv48 hg49 => ?_
   refine Dx [3, 4, 6] [] [1, 2, 3, 0] (fun G => .string (bs rv48)) [fun G => SP.fact (rv48.b.length ≤ 140737488355328 ∧ (rv48.b.length ≤ 5000))] (fun G => xD [2, 0, 1] ca10 rfl rfl rfl (FT_open (γ := Unit) (I := fun g => rv48.b.length ≤ 140737488355328 ∧ (rv48.b.length ≤ 5000)) (V := fun g => .string (bs rv48)) (B := fun g => []) (R := sl (G.g 0 0) flqlaw7_program.Funcs) sl_slice (fun aq45 kq46 eq47 => by rw [eq47]; exact FT_ent (Ent.take (is := [0, 1, 2]) rfl) (fn10 flqlaw7_program aq45 kq46 ((rv9.getD i_25.toNat default)) kwLA kwLK pre pre pre pre (by first | exact Program_PSm' (by assumption) | exact SpP_PSm (Program_SpP (by assumption)) | kernel_rfl) (by first | exact Program_SmP' (by assumption) | exact Valid_SmP (DrP_Valid (Program_Dr (by assumption))) | exact Valid_SmP (by kernel_rfl)) rv48 hg49)))) (Dv [] Vm (Dv [] Vm (Dv [1] (Vi sl45 0) ?_)))
   have hb50 := okS (i := i_25.toNat) ho32 rng
   refine Dv [1] (VldS sh9 0) (Dv [] (VneS (l := rv48) (m := ([(Str.mk [109, 46, 101, 110, 116, 114, 121]), (Str.mk [109, 46, 98, 46, 48]), (Str.mk [109, 46, 98, 46, 49]), (Str.mk [109, 46, 98, 46, 49, 43]), (Str.mk [109, 46, 98, 46, 50]), (Str.mk [109, 46, 101, 120, 105, 116])].getD i_25.toNat default))) ?_)
   refine Dn ⟨by kernel_rfl, fun G => ?_⟩
   refine Jw2 [(1, vl a13 k14 rv9), (2, .slice a17 6 k18), (3, vi i_25), (28, vb (rv48 != ([(Str.mk [109, 46, 101, 110, 116, 114, 121]), (Str.mk [109, 46, 98, 46, 48]), (Str.mk [109, 46, 98, 46, 49]), (Str.mk [109, 46, 98, 46, 49, 43]), (Str.mk [109, 46, 98, 46, 50]), (Str.mk [109, 46, 101, 120, 105, 116])].getD i_25.toNat default)))] [0, 1, 2, 3, 4] [SP.fact (True), sl (G.g 0 0) flqlaw7_program.Funcs, SP.fact (rv48.b.length ≤ 140737488355328 ∧ (rv48.b.length ≤ 5000))] ?_
   generalize G.g 0 0 = c44
   refine Jf 7 rfl ?_; rintro ⟨he51, he52⟩
   refine Jk [0, 1, 1, 2, 3, 5] ?_
   refine Jo 5 ?_; rintro a53 k54 rfl
   refine Fb 40 5 fun hl55 => ?_
   refine Kc ?_ ?_
   · intro h56
     have g57 := ne_of_bne h56
     refine KS ?_
     refine Oq Va (KS ?_)
     have hR58 := q2 hM26 (.ret false) (by simp only [flqlaw7_sane_L0, h19, h37, h56, hg10, hg49, cs4])
     have hq := q4 hrr false (by simp only [flqlaw7_sane, h19, h37, h56, hg10, hg49, hR58, cs4]); subst hq
     exact Kr () rfl (.tmp rfl .nil) [] trivial
   intro h56
   have g59 := eq_of_bne_false h56
   refine KS ?_
   refine Oq Vm (Oq Vadd (Oq Va (KS ?_)))
   exact Kg (r39, (i_25 + 1)) [1, 1, 2, 3] ⟨(q3 hM26 (by simp only [flqlaw7_sane_L0, h19, h37, h56, hg10, hg49, cs4])), (by omega), (by omega), (by omega), (by omega)⟩
 intro h37
 have g60 := of_decide_eq_false h37
 obtain rfl : r24 = 0 := by omega
 refine Ke ?_
 have hR61 := q2 hM26 (.brk ()) (by simp only [flqlaw7_sane_L0, h19, h37, hg10, cs4])
 refine KS ?_
 have hc63 := fn21  flqlaw7_program rfl
 refine Oc [] ca21 hc63 ?_
 rintro c62 -
 refine Jo 0 ?_; rintro a64 k65 rfl
 refine Fb 40 0 fun hl66 => ?_
 refine Oq (Vbd st35 [vi 3, vi 3, vi 0, vi 0]) ?_
 refine letv (nodes_Find flqlaw7_program (GNode.mk 3 3 0 0)) fun rv67 hg68 => ?_
 have hc69 := fn9 flqlaw7_program a64 k65 ((GNode.mk 3 3 0 0)) kwLA kwLK pre pre pre pre (by first | exact Program_PSm' (by assumption) | exact SpP_PSm (Program_SpP (by assumption)) | kernel_rfl) rv67 hg68
 refine Oc [0, 3, 4] ca9 hc69 ?_
 rintro - ⟨he70, he71⟩
 unfold i64ok at he70
 refine Oq Veql (Oq Va (KS ?_))
 have hq := q4 hrr (rv67 == -1) (by simp only [flqlaw7_sane, h19, h37, hg10, hR61, hg68, cs4]); subst hq
 exact Kr () rfl (.tmp rfl .nil) [] trivial
theorem fn22 (n : GNode) (hn_0 : i64ok n.Kind) (hn_1 : i64ok n.Func) (hn_2 : i64ok n.Block) (hn_3 : i64ok n.Stmt) (rr : Bool) (hrr : nodes_inside n = rr) : FT Tryd.prog 22 #[.agg #[vi n.Kind, vi n.Func, vi n.Block, vi n.Stmt]] [] (fun g : Unit => True) (fun g => vb rr) (fun g => []) := by
 refine FTi Tryd.func22 fun w0 M0 F0 => ?_
 unfold i64ok at hn_0 hn_1 hn_2 hn_3
 refine KS ?_
 refine Oa (Ab [vi n.Kind, vi n.Func, vi n.Block, vi n.Stmt]) fun p1 => Oq Va (KS ?_)
 refine Oq (Vfa fo35_0 0) (Oq (VldF sh3 0) (Oq Veql (Oq Vm ?_)))
 refine Js 6 ?_ ?_
 · intro h2
   have g3 := eq_of_beq h2
   refine Osk (Osk (Osk (Oq Vpt (Oq Va (KS ?_)))))
   have hq := q4 hrr true (by simp only [nodes_inside, h2, cs4]); subst hq
   exact Kr () rfl (.tmp rfl .nil) [] trivial
 intro h2
 have g4 := ne_of_beq_false h2
 refine Oq (Vfa fo35_0 0) (Oq (VldF sh3 0) (Oq Veql (Oq Vpf (Oq Va (KS ?_)))))
 have hq := q4 hrr (n.Kind == 4) (by simp only [nodes_inside, h2, cs4]); subst hq
 exact Kr () rfl (.tmp rfl .nil) [] trivial
theorem fn12 (p : GProgram) (pa0 : Option Addr) (pk0 : Nat) (n : GNode) (kwLA : Option Addr) (kwLK : Nat) (hn_0 : i64ok n.Kind) (hn_1 : i64ok n.Func) (hn_2 : i64ok n.Block) (hn_3 : i64ok n.Stmt) (hps : PSm p = true) (rr : GStmt × Bool) (hrr : nodes_Stmt p n = rr) : FT Tryd.prog 12 #[.agg #[vl pa0 pk0 p.Funcs], .agg #[vi n.Kind, vi n.Func, vi n.Block, vi n.Stmt]] [S pa0 pk0 p.Funcs, pv (gp 0) [vl kwLA kwLK kwL], S kwLA kwLK kwL] (fun g : Value × Value => i64ok rr.1.Op ∧ rr.1.Def.b.length ≤ 140737488355328) (fun g => .tuple #[.agg #[vi rr.1.Op, .string (bs rr.1.Def), g.1, g.2], vb rr.2]) (fun g => [sl g.1 rr.1.Uses, sl g.2 rr.1.Targets]) := by
 refine FTi Tryd.func12 fun w0 M0 F0 => ?_
 unfold i64ok at hn_0 hn_1 hn_2 hn_3
 refine Fb 40 0 fun hl1 => ?_
 refine Fb 16 2 fun hl2 => ?_
 refine FoS 2 fun ho3 => ?_
 refine KS ?_
 refine Oa (Ab [vl pa0 pk0 p.Funcs]) fun p4 => Oa (Ab [vi n.Kind, vi n.Func, vi n.Block, vi n.Stmt]) fun p5 => Oa (Al ze47 [vi 0, .string (bs (Str.mk [])), .slice none 0 0, .slice none 0 0]) fun p6 => Oq Va (KS ?_)
 refine Oq (VldA sh35 1) ?_
 refine letv (nodes_inside n) fun rv7 hg8 => ?_
 have hc9 := fn22 n pre pre pre pre rv7 hg8
 refine Oc [] ca22 hc9 ?_
 rintro - -
 refine Oq Vnot (Oq Vm ?_)
 refine Js 9 ?_ ?_
 · intro h10
   have h12 := not_true h10
   refine Osk (Osk (Osk (Osk (Oq Vpt (KS ?_)))))
   refine Kt ?_
   refine KS ?_
   refine Oq (Vbd st47 [vi 0, .string (bs (Str.mk [])), .slice none 0 0, .slice none 0 0]) (Ost (Scl [0] sh47 [vi 0, .string (bs (Str.mk [])), .slice none 0 0, .slice none 0 0]) (Oq Va (KS ?_)))
   refine Jl [] (Ent.slNil (α := Str)) ?_
   have hq := q4 hrr ((GStmt.mk 0 (Str.mk []) [] []), false) (by simp only [nodes_Stmt, h10, h12, hg8, cs4]); subst hq
   exact Kr (.slice none 0 0, .slice none 0 0) rfl (.cellN 1 rfl sh47 rfl (reads_Cl _ _) rfl (.tmp rfl .nil)) [0, 0] en
 intro h10
 have h15 := not_false h10
 refine Oq (VldA sh25 2) (Oq (VldA sh35 1) ?_)
 refine letv (nodes_Find p n) fun rv17 hg18 => ?_
 have hc19 := fn9 p pa0 pk0 n kwLA kwLK pre pre pre pre pre rv17 hg18
 refine Oc [3, 4, 5] ca9 hc19 ?_
 rintro - ⟨he20, he21⟩
 unfold i64ok at he20
 refine Oq Vlss (Oq Vpf (KS ?_))
 refine Kc ?_ ?_
 · intro h22
   have g23 := of_decide_eq_true h22
   refine KS ?_
   refine Oq (Vbd st47 [vi 0, .string (bs (Str.mk [])), .slice none 0 0, .slice none 0 0]) (Ost (Scl [0] sh47 [vi 0, .string (bs (Str.mk [])), .slice none 0 0, .slice none 0 0]) (Oq Va (KS ?_)))
   refine Jl [] (Ent.slNil (α := Str)) ?_
   have hq := q4 hrr ((GStmt.mk 0 (Str.mk []) [] []), false) (by simp only [nodes_Stmt, h10, h15, h22, hg8, hg18, cs4]); subst hq
   exact Kr (.slice none 0 0, .slice none 0 0) rfl (.cellN 1 rfl sh47 rfl (reads_Cl _ _) rfl (.tmp rfl .nil)) [0, 0] en
 intro h22
 have g24 := of_decide_eq_false h22
 have hN := Find_in (by assumption) h22
 obtain ⟨hN1, hN2⟩ := hN
 have hk := inside_k (by assumption) (by assumption)
 have hN3 := hN2 (by omega) (by omega)
 refine KS ?_
 refine JJ_peek_GFunc n.Func.toNat 3 rfl rng fun a25 k26 hb27 => ?_
 refine Fb 40 1 fun hl28 => ?_
 refine JJ_peek_GBlock n.Block.toNat 1 rfl rng fun a29 k30 hb31 => ?_
 refine Fb 72 1 fun hl32 => ?_
 refine JJ_peek_GStmt n.Stmt.toNat 1 rfl rng fun a33 k34 a35 k36 hb37 hb38 => ?_
 unfold i64ok at hb37
 refine Fb 16 1 fun hl39 => ?_
 refine FoS 1 fun ho40 => ?_
 refine Fb 16 2 fun hl41 => ?_
 refine FoS 2 fun ho42 => ?_
 refine JK_drawK [0, 1, 0, 4, 15, 31, 63, 0, 128, 511, 1023, 2047, 0, 4096, 16383, 32767, 65535, 131071] fmix ?_
 refine Dv [9] (Vfa fo25_0 0) (Dv [9] (VldF sh23 0) (Dv [8] (Vfa fo35_1 0) (Dv [8] (VldF sh3 0) (Dv [10] (Vi sl23 0) (Dv [5] (Vfa fo41_1 0) (Dv [5] (VldF sh39 0) (Dv [8] (Vfa fo35_2 0) (Dv [8] (VldF sh3 0) (Dv [6] (Vi sl39 0) ?_)))))))))
 refine Dv [3] (Vfa fo44_1 0) (Dv [3] (VldF sh42 0) (Dv [8] (Vfa fo35_3 0) (Dv [8] (VldF sh3 0) (Dv [4] (Vi sl42 0) (Dv [0] (VldA sh47 0) (Dx0 [7] [7] [0] [fun G => Cl p6 [vi ((((((p.Funcs.getD n.Func.toNat default).Blocks).getD n.Block.toNat default).Stmts).getD n.Stmt.toNat default).Op), .string (bs ((((((p.Funcs.getD n.Func.toNat default).Blocks).getD n.Block.toNat default).Stmts).getD n.Stmt.toNat default).Def)), .slice a33 (((((((p.Funcs.getD n.Func.toNat default).Blocks).getD n.Block.toNat default).Stmts).getD n.Stmt.toNat default).Uses).length) k34, .slice a35 (((((((p.Funcs.getD n.Func.toNat default).Blocks).getD n.Block.toNat default).Stmts).getD n.Stmt.toNat default).Targets).length) k36]] (fun G => xS (Scl [0] sh47 [vi ((((((p.Funcs.getD n.Func.toNat default).Blocks).getD n.Block.toNat default).Stmts).getD n.Stmt.toNat default).Op), .string (bs ((((((p.Funcs.getD n.Func.toNat default).Blocks).getD n.Block.toNat default).Stmts).getD n.Stmt.toNat default).Def)), .slice a33 (((((((p.Funcs.getD n.Func.toNat default).Blocks).getD n.Block.toNat default).Stmts).getD n.Stmt.toNat default).Uses).length) k34, .slice a35 (((((((p.Funcs.getD n.Func.toNat default).Blocks).getD n.Block.toNat default).Stmts).getD n.Stmt.toNat default).Targets).length) k36])) (Dv [] Va ?_)))))))
 refine Dn ⟨by kernel_rfl, fun G => ?_⟩
 refine Jw2 [(4, p6), (5, vb true)] [0, 1, 2, 3, 4, 5, 6, 8, 9, 10, 11, 12] [Cl p6 [vi ((((((p.Funcs.getD n.Func.toNat default).Blocks).getD n.Block.toNat default).Stmts).getD n.Stmt.toNat default).Op), .string (bs ((((((p.Funcs.getD n.Func.toNat default).Blocks).getD n.Block.toNat default).Stmts).getD n.Stmt.toNat default).Def)), .slice a33 (((((((p.Funcs.getD n.Func.toNat default).Blocks).getD n.Block.toNat default).Stmts).getD n.Stmt.toNat default).Uses).length) k34, .slice a35 (((((((p.Funcs.getD n.Func.toNat default).Blocks).getD n.Block.toNat default).Stmts).getD n.Stmt.toNat default).Targets).length) k36]] ?_
 have hq := q4 hrr ((((((p.Funcs.getD n.Func.toNat default).Blocks).getD n.Block.toNat default).Stmts).getD n.Stmt.toNat default), true) (by simp only [nodes_Stmt, h10, h15, h22, hg8, hg18, cs4]); subst hq
 exact Kr (.slice a33 (((((((p.Funcs.getD n.Func.toNat default).Blocks).getD n.Block.toNat default).Stmts).getD n.Stmt.toNat default).Uses).length) k34, .slice a35 (((((((p.Funcs.getD n.Func.toNat default).Blocks).getD n.Block.toNat default).Stmts).getD n.Stmt.toNat default).Targets).length) k36) rfl (.cellN 12 rfl sh47 rfl (reads_Cl _ _) rfl (.tmp rfl .nil)) [1, 2] en
theorem fn23 (l : List Str) (la0 : Option Addr) (lk0 : Nat) (hw : SmT SmW l 0 ∧ l.length ≤ 1000000) (rr : Str) (hrr : flqref4_words l = rr) : FT Tryd.prog 23 #[vl la0 lk0 l] [S la0 lk0 l] (fun g : Unit => rr.b.length ≤ 140737488355328 ∧ (rr.b.length ≤ 1001000000)) (fun g => .string (bs rr)) (fun g => []) := by
 refine FTi Tryd.func23 fun w0 M0 F0 => ?_
 refine Fb 16 0 fun hl1 => ?_
 refine FoS 0 fun ho2 => ?_
 refine KS ?_
 refine Oq Va (KS ?_)
 refine Oq Va (KS ?_)
 refine Oq Va (KS ?_)
 refine Kl (γ := Nat × Str × Int) (fun (r3, s_4, i_5) => ⟨[(0, vl la0 lk0 l), (3, .string (bs s_4)), (4, vi i_5)], [S la0 lk0 l], flqref4_words_L0 l r3 s_4 i_5 = flqref4_words_L0 l (((l.length : Int) - 0).toNat) (Str.mk []) 0 ∧ r3 = ((l.length : Int) - i_5).toNat ∧ (0 : Int) ≤ i_5 ∧ i_5 ≤ (l.length : Int) ∧ s_4.b.length ≤ 140737488355328 ∧ (-9223372036854775808 ≤ i_5 ∧ i_5 ≤ 9223372036854775807) ∧ ((s_4.b.length : Int) ≤ 1001 * i_5), r3⟩) (((l.length : Int) - 0).toNat, (Str.mk []), 0) [0] ⟨rfl, rfl, (by omega), (by omega), (by first | omega | (simp; done)), (by omega), (by show ((0 : Nat) : Int) ≤ _; omega)⟩ ?_
 rintro ⟨r3, s_4, i_5⟩ ⟨hM6, hr7, hi8, hi9, hk10, hk11, hv12⟩
 refine JJ_nx fun _ _ hL hA => ?_; dsimp only at hL hA; subst hL hA
 refine Fb 16 0 fun hl13 => ?_
 refine FoS 0 fun ho14 => ?_
 refine KS ?_
 refine Oq Vm (Oq Vm (Oq (Vlen sl45) (Oq Vlss (KS ?_))))
 refine Kc ?_ ?_
 · intro h15
   have g16 := of_decide_eq_true h15
   have hz := hw.1 i_5.toNat (by omega)
   unfold SmW at hz
   obtain ⟨r17, rfl⟩ := scc (n := r3) (by omega)
   refine KS ?_
   refine Oq Vm (Oq Vm (Oq Vm (Oq (Vi sl45 0) ?_)))
   have hb18 := okS (i := i_5.toNat) ho14 rng
   refine Oq (VldS sh9 0) ?_
   have hb19 := sadd_len (Str.mk [32]) (l.getD i_5.toNat default)
   have hb20 : (Str.mk [32]).b.length = 1 := rfl
   refine Oq (VadS (l := (Str.mk [32])) (m := (l.getD i_5.toNat default))) ?_
   have hb21 := sadd_len s_4 ((Str.mk [32]) ++ (l.getD i_5.toNat default))
   refine Oq (VadS (l := s_4) (m := ((Str.mk [32]) ++ (l.getD i_5.toNat default)))) (Oq Va (KS ?_))
   refine Oq Vm (Oq Vadd (Oq Va (KS ?_)))
   exact Kg (r17, (s_4 ++ ((Str.mk [32]) ++ (l.getD i_5.toNat default))), (i_5 + 1)) [0] ⟨(q3 hM6 (by simp only [flqref4_words_L0, h15, cs4])), (by omega), (by omega), (by omega), (by omega), (by omega), iv1⟩
 intro h15
 have g22 := of_decide_eq_false h15
 obtain rfl : r3 = 0 := by omega
 refine Ke ?_
 have hR23 := q2 hM6 s_4 (by simp only [flqref4_words_L0, h15, cs4])
 refine KS ?_
 refine Oq Vm (Oq Va (KS ?_))
 have hq := q4 hrr s_4 (by simp only [flqref4_words, h15, hR23, cs4]); subst hq
 exact Kr () rfl (.tmp rfl .nil) [] en
theorem fn13 (s : GStmt) (sa2 : Option Addr) (sk2 : Nat) (sa3 : Option Addr) (sk3 : Nat) (hs_0 : i64ok s.Op) (hs_1 : s.Def.b.length ≤ 140737488355328) (hs : SmS s ∧ SSm s = true) (rr : Str) (hrr : flqref4_Line s = rr) : FT Tryd.prog 13 #[.agg #[vi s.Op, .string (bs s.Def), vl sa2 sk2 s.Uses, vl sa3 sk3 s.Targets]] [S sa2 sk2 s.Uses, S sa3 sk3 s.Targets] (fun g : Unit => rr.b.length ≤ 140737488355328 ∧ (rr.b.length ≤ 3000000000)) (fun g => .string (bs rr)) (fun g => []) := by
 refine FTi Tryd.func13 fun w0 M0 F0 => ?_
 unfold i64ok at hs_0
 refine Fb 16 0 fun hl1 => ?_
 refine FoS 0 fun ho2 => ?_
 refine Fb 16 1 fun hl3 => ?_
 refine FoS 1 fun ho4 => ?_
 have hsl := SSm_l hs.2
 have hsd := hs.1.1
 refine KS ?_
 refine Oa (Ab [vi s.Op, .string (bs s.Def), vl sa2 sk2 s.Uses, vl sa3 sk3 s.Targets]) fun p5 => Oq Va (KS ?_)
 refine Oq (Vfa fo47_0 0) (Oq (VldF sh3 0) (KS ?_))
 refine Oq Veql (Oq Va (KS ?_))
 refine Kc ?_ ?_
 · intro h6
   have g7 := eq_of_beq h6
   refine KS ?_
   refine JK_drawK [0, 1, 3, 0, 8, 24, 63, 127] fmix ?_
   refine Dv [0] (Vfa fo47_1 0) (Dv [0] (VldF sh9 0) ?_)
   have hb8 := sadd_len s.Def (Str.mk [32, 61])
   have hb9 : (Str.mk [32, 61]).b.length = 2 := rfl
   refine Dv [] (VadS (l := s.Def) (m := (Str.mk [32, 61]))) (Dv [0] (Vfa fo47_2 0) (Dv [0] (VldF sh45 0) ?_))
   refine letv (flqref4_words s.Uses) fun rv10 hg11 => ?_
   have hW := words_len hg11 (by first | exact ⟨hs.1.2.1, hsl.1⟩ | exact ⟨hs.1.2.2, hsl.2⟩)
   refine Dx [1] [] [1, 0] (fun G => .string (bs rv10)) [fun G => SP.fact (rv10.b.length ≤ 140737488355328 ∧ (rv10.b.length ≤ 1001000000))] (fun G => xC [0] ca23 (fn23 s.Uses sa2 sk2 (by first | exact ⟨hs.1.2.1, hsl.1⟩ | exact ⟨hs.1.2.2, hsl.2⟩) rv10 hg11)) ?_
   have hb12 := sadd_len (s.Def ++ (Str.mk [32, 61])) rv10
   refine Dv [] (VadS (l := (s.Def ++ (Str.mk [32, 61]))) (m := rv10)) (Dv [] Va ?_)
   refine Dn ⟨by kernel_rfl, fun G => ?_⟩
   refine Jw2 [(2, .string (bs ((s.Def ++ (Str.mk [32, 61])) ++ rv10)))] [0, 1, 2] [SP.fact (rv10.b.length ≤ 140737488355328 ∧ (rv10.b.length ≤ 1001000000))] ?_
   refine Jf 3 rfl ?_; rintro ⟨he13, he14⟩
   refine Jk [0, 1, 2] ?_
   have hq := q4 hrr ((s.Def ++ (Str.mk [32, 61])) ++ rv10) (by simp only [flqref4_Line, h6, hg11, cs4]); subst hq
   exact Kr () rfl (.tmp rfl .nil) [] en
 intro h6
 have g15 := ne_of_beq_false h6
 refine KS ?_
 refine Oq Veql (Oq Va (KS ?_))
 refine Kc ?_ ?_
 · intro h16
   have g17 := eq_of_beq h16
   refine KS ?_
   refine Oq (Vfa fo47_2 0) (Oq (VldF sh45 0) ?_)
   refine letv (flqref4_words s.Uses) fun rv18 hg19 => ?_
   have hW := words_len hg19 (by first | exact ⟨hs.1.2.1, hsl.1⟩ | exact ⟨hs.1.2.2, hsl.2⟩)
   have hc20 := fn23 s.Uses sa2 sk2 (by first | exact ⟨hs.1.2.1, hsl.1⟩ | exact ⟨hs.1.2.2, hsl.2⟩) rv18 hg19
   refine Oc [1] ca23 hc20 ?_
   rintro - ⟨he21, he22⟩
   have hb23 := sadd_len (Str.mk [117, 115, 101]) rv18
   have hb24 : (Str.mk [117, 115, 101]).b.length = 3 := rfl
   refine Oq (VadS (l := (Str.mk [117, 115, 101])) (m := rv18)) (Oq Va (KS ?_))
   have hq := q4 hrr ((Str.mk [117, 115, 101]) ++ rv18) (by simp only [flqref4_Line, h6, h16, hg19, cs4]); subst hq
   exact Kr () rfl (.tmp rfl .nil) [] en
 intro h16
 have g25 := ne_of_beq_false h16
 refine KS ?_
 refine Oq Veql (Oq Va (KS ?_))
 refine Kc ?_ ?_
 · intro h26
   have g27 := eq_of_beq h26
   refine KS ?_
   refine Oq (Vfa fo47_3 0) (Oq (VldF sh45 0) ?_)
   refine letv (flqref4_words s.Targets) fun rv28 hg29 => ?_
   have hW := words_len hg29 (by first | exact ⟨hs.1.2.1, hsl.1⟩ | exact ⟨hs.1.2.2, hsl.2⟩)
   have hc30 := fn23 s.Targets sa3 sk3 (by first | exact ⟨hs.1.2.1, hsl.1⟩ | exact ⟨hs.1.2.2, hsl.2⟩) rv28 hg29
   refine Oc [2] ca23 hc30 ?_
   rintro - ⟨he31, he32⟩
   have hb33 := sadd_len (Str.mk [99, 97, 108, 108]) rv28
   have hb34 : (Str.mk [99, 97, 108, 108]).b.length = 4 := rfl
   refine Oq (VadS (l := (Str.mk [99, 97, 108, 108])) (m := rv28)) (Oq Va (KS ?_))
   have hq := q4 hrr ((Str.mk [99, 97, 108, 108]) ++ rv28) (by simp only [flqref4_Line, h6, h16, h26, hg29, cs4]); subst hq
   exact Kr () rfl (.tmp rfl .nil) [] en
 intro h26
 have g35 := ne_of_beq_false h26
 refine KS ?_
 refine Oq Veql (Oq Va (KS ?_))
 refine Kc ?_ ?_
 · intro h36
   have g37 := eq_of_beq h36
   refine KS ?_
   refine Oq (Vfa fo47_1 0) (Oq (VldF sh9 0) ?_)
   have hb38 := sadd_len (Str.mk [115, 111, 117, 114, 99, 101, 32]) s.Def
   have hb39 : (Str.mk [115, 111, 117, 114, 99, 101, 32]).b.length = 7 := rfl
   refine Oq (VadS (l := (Str.mk [115, 111, 117, 114, 99, 101, 32])) (m := s.Def)) (Oq Va (KS ?_))
   have hq := q4 hrr ((Str.mk [115, 111, 117, 114, 99, 101, 32]) ++ s.Def) (by simp only [flqref4_Line, h6, h16, h26, h36, cs4]); subst hq
   exact Kr () rfl (.tmp rfl .nil) [] en
 intro h36
 have g40 := ne_of_beq_false h36
 refine KS ?_
 refine Oq Veql (Oq Va (KS ?_))
 refine Kc ?_ ?_
 · intro h41
   have g42 := eq_of_beq h41
   refine KS ?_
   refine Oq (Vfa fo47_2 0) (Oq (VldF sh45 0) ?_)
   refine letv (flqref4_words s.Uses) fun rv43 hg44 => ?_
   have hW := words_len hg44 (by first | exact ⟨hs.1.2.1, hsl.1⟩ | exact ⟨hs.1.2.2, hsl.2⟩)
   have hc45 := fn23 s.Uses sa2 sk2 (by first | exact ⟨hs.1.2.1, hsl.1⟩ | exact ⟨hs.1.2.2, hsl.2⟩) rv43 hg44
   refine Oc [1] ca23 hc45 ?_
   rintro - ⟨he46, he47⟩
   have hb48 := sadd_len (Str.mk [115, 105, 110, 107]) rv43
   have hb49 : (Str.mk [115, 105, 110, 107]).b.length = 4 := rfl
   refine Oq (VadS (l := (Str.mk [115, 105, 110, 107])) (m := rv43)) (Oq Va (KS ?_))
   have hq := q4 hrr ((Str.mk [115, 105, 110, 107]) ++ rv43) (by simp only [flqref4_Line, h6, h16, h26, h36, h41, hg44, cs4]); subst hq
   exact Kr () rfl (.tmp rfl .nil) [] en
 intro h41
 have g50 := ne_of_beq_false h41
 refine KS ?_
 refine Oq Veql (Oq Va (KS ?_))
 refine Kc ?_ ?_
 · intro h51
   have g52 := eq_of_beq h51
   refine KS ?_
   refine Oq (Vfa fo47_1 0) (Oq (VldF sh9 0) ?_)
   have hb53 := sadd_len (Str.mk [115, 97, 110, 105, 116, 105, 122, 101, 32]) s.Def
   have hb54 : (Str.mk [115, 97, 110, 105, 116, 105, 122, 101, 32]).b.length = 9 := rfl
   refine Oq (VadS (l := (Str.mk [115, 97, 110, 105, 116, 105, 122, 101, 32])) (m := s.Def)) (Oq Va (KS ?_))
   have hq := q4 hrr ((Str.mk [115, 97, 110, 105, 116, 105, 122, 101, 32]) ++ s.Def) (by simp only [flqref4_Line, h6, h16, h26, h36, h41, h51, cs4]); subst hq
   exact Kr () rfl (.tmp rfl .nil) [] en
 intro h51
 have g55 := ne_of_beq_false h51
 refine KS ?_
 refine Oq Veql (Oq Va (KS ?_))
 refine Kc ?_ ?_
 · intro h56
   have g57 := eq_of_beq h56
   refine KS ?_
   refine Oq (Vfa fo47_3 0) (Oq (VldF sh45 0) ?_)
   refine letv (flqref4_words s.Targets) fun rv58 hg59 => ?_
   have hW := words_len hg59 (by first | exact ⟨hs.1.2.1, hsl.1⟩ | exact ⟨hs.1.2.2, hsl.2⟩)
   have hc60 := fn23 s.Targets sa3 sk3 (by first | exact ⟨hs.1.2.1, hsl.1⟩ | exact ⟨hs.1.2.2, hsl.2⟩) rv58 hg59
   refine Oc [2] ca23 hc60 ?_
   rintro - ⟨he61, he62⟩
   have hb63 := sadd_len (Str.mk [103, 111, 116, 111]) rv58
   have hb64 : (Str.mk [103, 111, 116, 111]).b.length = 4 := rfl
   refine Oq (VadS (l := (Str.mk [103, 111, 116, 111])) (m := rv58)) (Oq Va (KS ?_))
   have hq := q4 hrr ((Str.mk [103, 111, 116, 111]) ++ rv58) (by simp only [flqref4_Line, h6, h16, h26, h36, h41, h51, h56, hg59, cs4]); subst hq
   exact Kr () rfl (.tmp rfl .nil) [] en
 intro h56
 have g65 := ne_of_beq_false h56
 refine KS ?_
 refine Oq Veql (Oq Va (KS ?_))
 refine Kc ?_ ?_
 · intro h66
   have g67 := eq_of_beq h66
   refine KS ?_
   refine JK_drawK [0, 1, 3, 7, 0, 16, 55, 127, 255] fmix ?_
   refine Dv [0] (Vfa fo47_2 0) (Dv [0] (VldF sh45 0) ?_)
   refine letv (flqref4_words s.Uses) fun rv68 hg69 => ?_
   have hW := words_len hg69 (by first | exact ⟨hs.1.2.1, hsl.1⟩ | exact ⟨hs.1.2.2, hsl.2⟩)
   refine Dx [1] [] [1, 0] (fun G => .string (bs rv68)) [fun G => SP.fact (rv68.b.length ≤ 140737488355328 ∧ (rv68.b.length ≤ 1001000000))] (fun G => xC [0] ca23 (fn23 s.Uses sa2 sk2 (by first | exact ⟨hs.1.2.1, hsl.1⟩ | exact ⟨hs.1.2.2, hsl.2⟩) rv68 hg69)) ?_
   have hb70 := sadd_len (Str.mk [98, 114, 97, 110, 99, 104]) rv68
   have hb71 : (Str.mk [98, 114, 97, 110, 99, 104]).b.length = 6 := rfl
   refine Dv [] (VadS (l := (Str.mk [98, 114, 97, 110, 99, 104])) (m := rv68)) (Dv [0] (Vfa fo47_3 0) (Dv [0] (VldF sh45 0) ?_))
   refine letv (flqref4_words s.Targets) fun rv72 hg73 => ?_
   have hW := words_len hg73 (by first | exact ⟨hs.1.2.1, hsl.1⟩ | exact ⟨hs.1.2.2, hsl.2⟩)
   refine Dx [2] [] [1, 0] (fun G => .string (bs rv72)) [fun G => SP.fact (rv72.b.length ≤ 140737488355328 ∧ (rv72.b.length ≤ 1001000000))] (fun G => xC [0] ca23 (fn23 s.Targets sa3 sk3 (by first | exact ⟨hs.1.2.1, hsl.1⟩ | exact ⟨hs.1.2.2, hsl.2⟩) rv72 hg73)) ?_
   have hb74 := sadd_len ((Str.mk [98, 114, 97, 110, 99, 104]) ++ rv68) rv72
   refine Dv [] (VadS (l := ((Str.mk [98, 114, 97, 110, 99, 104]) ++ rv68)) (m := rv72)) (Dv [] Va ?_)
   refine Dn ⟨by kernel_rfl, fun G => ?_⟩
   refine Jw2 [(2, .string (bs (((Str.mk [98, 114, 97, 110, 99, 104]) ++ rv68) ++ rv72)))] [0, 1, 2] [SP.fact (rv68.b.length ≤ 140737488355328 ∧ (rv68.b.length ≤ 1001000000)), SP.fact (rv72.b.length ≤ 140737488355328 ∧ (rv72.b.length ≤ 1001000000))] ?_
   refine Jf 3 rfl ?_; rintro ⟨he75, he76⟩
   refine Jf 4 rfl ?_; rintro ⟨he77, he78⟩
   refine Jk [0, 1, 2] ?_
   have hq := q4 hrr (((Str.mk [98, 114, 97, 110, 99, 104]) ++ rv68) ++ rv72) (by simp only [flqref4_Line, h6, h16, h26, h36, h41, h51, h56, h66, hg69, hg73, cs4]); subst hq
   exact Kr () rfl (.tmp rfl .nil) [] en
 intro h66
 have g79 := ne_of_beq_false h66
 refine KS ?_
 refine Oq Va (KS ?_)
 have hq := q4 hrr (Str.mk [114, 101, 116, 117, 114, 110]) (by simp only [flqref4_Line, h6, h16, h26, h36, h41, h51, h56, h66, cs4]); subst hq
 exact Kr () rfl (.tmp rfl .nil) [] en
theorem fn5 (l : List Int) (la0 : Option Addr) (lk0 : Nat) (rr : Unit) (hrr : flqgen_New l = rr) : FT Tryd.prog 5 #[vl la0 lk0 l] [S la0 lk0 l] (fun g : Value => True) (fun g => g) (fun g => [Cl g [vl la0 lk0 l, vi 0]]) := by
 refine FTi Tryd.func5 fun w0 M0 F0 => ?_
 refine Fb 8 0 fun hl1 => ?_
 refine Fo 0 fun ho2 => ?_
 refine KS ?_
 refine Oq Va (KS ?_)
 refine Oq Vm (Oq (Vbd st52 [vl la0 lk0 l, vi 0]) (Oa (AbO [vl la0 lk0 l, vi 0]) fun p3 => Oq Va (KS ?_)))
 have hq := q4 hrr () (by simp only [flqgen_New, cs4]); subst hq
 exact Kr p3 rfl (.tmp rfl .nil) [0] trivial
theorem fn24 (v : Int) (n : Int) (hv_0 : i64ok v) (hn_0 : i64ok n) (hn1 : 1 ≤ n) (rr : Int) (hrr : flqgen_Mod v n = rr) : FT Tryd.prog 24 #[vi v, vi n] [] (fun g : Unit => i64ok rr ∧ (0 ≤ rr ∧ rr < n)) (fun g => vi rr) (fun g => []) := by
 refine FTi Tryd.func24 fun w0 M0 F0 => ?_
 unfold i64ok at hv_0 hn_0
 have hm := mod_range v n (by omega)
 refine KS ?_
 refine Oq Va (KS ?_)
 refine Oq Vm (Oq (VcU un3 un74) (Oq Vm (Oq (VcU un3 un74) (Oq (VremU (ofInt_ne n (by omega))) (Oq (VcN un74 un3 (h := (mod_le v n (by omega)))) (Oq Va (KS ?_)))))))
 have hq := q4 hrr (((BitVec.ofInt 64 v) % (BitVec.ofInt 64 n)).toNat : Int) (by simp only [flqgen_Mod, cs4]); subst hq
 exact Kr () rfl (.tmp rfl .nil) [] en
theorem fn14 (tP : Value) (ta : Option Addr) (tk : Nat) (tT : List Int) (tI : Int) (n : Int) (htI : 0 ≤ tI ∧ tI ≤ (tT.length : Int)) (hn_0 : i64ok n) (rr : Int × Int) (hrr : Tape_Next tT tI n = rr) : FT Tryd.prog 14 #[tP, vi n] [Cl tP [vl ta tk tT, vi tI], S ta tk tT] (fun g : Unit => i64ok rr.1 ∧ (0 ≤ rr.2 ∧ rr.2 ≤ (tT.length : Int)) ∧ (0 ≤ rr.1 ∧ (rr.1 < n ∨ rr.1 = 0))) (fun g => vi rr.1) (fun g => [Cl tP [vl ta tk tT, vi rr.2]]) := by
 refine FTi Tryd.func14 fun w0 M0 F0 => ?_
 unfold i64ok at hn_0
 refine Fb 8 1 fun hl1 => ?_
 refine Fo 1 fun ho2 => ?_
 refine KS ?_
 refine Oq Va (KS ?_)
 refine Jp 0 fun hp3 => ?_
 refine Kq [0, 1, 3, 7, 15, 31, 63, 7, 135, 391, 903, 1927, 4095, 8191] fmix ?_
 refine Qv [] Vm (Qv [] Vleq ?_)
 refine bool_split (decide (n ≤ 1)) ?_ ?_
 · intro h4
   have g5 := of_decide_eq_true h4
   refine Qb h4 [] Vm (Qs (Qs (Qs (Qs (Qs (Qs (Qs (Qs (Qs ?_)))))))))
   refine Qs (Qv [] Vpt ?_)
   refine Qn ⟨by kernel_rfl, ?_⟩
   refine Kt ?_
   refine KS ?_
   refine Oq Va (KS ?_)
   have hq := q4 hrr (0, tI) (by simp only [Tape_Next, h4, cs4]); subst hq
   exact Kr () rfl (.tmp rfl .nil) [1] en
 intro h4
 have g6 := of_decide_eq_false h4
 refine Qb h4 [] Vm (Qv [] Vm (Qv [0] (Vn 0) (Qv [0] (Vfa fo52_1 0) (Qv [1] (VldF sh3 0) (Qv [] Vm (Qv [0] (Vn 0) (Qv [0] (Vfa fo52_0 0) (Qv [1] (VldF sh22 0) (Qv [] (Vlen sl22) ?_)))))))))
 refine Qv [] Vgeq (Qv [] Vpf ?_)
 refine Qn ⟨by kernel_rfl, ?_⟩
 refine Kc ?_ ?_
 · intro h7
   have g8 := of_decide_eq_true h7
   refine KS ?_
   refine Oq Va (KS ?_)
   have hq := q4 hrr (0, tI) (by simp only [Tape_Next, h4, h7, cs4]); subst hq
   exact Kr () rfl (.tmp rfl .nil) [1] en
 intro h7
 have g9 := of_decide_eq_false h7
 refine KS ?_
 refine Oq Vm (Oq (Vn 1) (Oq (Vfa fo52_1 1) (Oq (VldF sh3 1) (Oq Vadd (Oq (Vn 1) (Oq (Vfa fo52_1 1) (Ost (SclF [1] sh3 [vl ta tk tT, vi (tI + 1)]) (KS ?_))))))))
 refine JK_drawK [0, 1, 3, 7, 0, 16, 48, 112, 240, 511, 1023, 0, 4095, 8191] fmix ?_
 refine Dv [] Vm (Dv [1] (Vn 0) (Dv [1] (Vfa fo52_0 0) (Dv [0] (VldF sh22 0) (Dv [] Vm (Dv [1] (Vn 0) (Dv [1] (Vfa fo52_1 0) (Dv [0] (VldF sh3 0) (Dv [] Vsub (Dv [2] (Vi sl22 0) ?_)))))))))
 have hb10 := ok1 (i := (((tI + 1) - 1) : Int).toNat) ho2 rng
 refine Dv [2] (VldI sh3 0) (Dv [] Vm ?_)
 refine letv (flqgen_Mod (tT.getD (((tI + 1) - 1) : Int).toNat 0) n) fun rv11 hg12 => ?_
 refine Dx [] [] [0] (fun G => vi rv11) [fun G => SP.fact (i64ok rv11 ∧ (0 ≤ rv11 ∧ rv11 < n))] (fun G => xC [] ca24 (fn24 ((tT.getD (((tI + 1) - 1) : Int).toNat 0)) n pre pre pre rv11 hg12)) (Dv [] Va ?_)
 refine Dn ⟨by kernel_rfl, fun G => ?_⟩
 refine Jw2 [(4, vi rv11)] [0, 1, 2] [SP.fact (i64ok rv11 ∧ (0 ≤ rv11 ∧ rv11 < n))] ?_
 refine Jf 3 rfl ?_; rintro ⟨he13, he14⟩
 unfold i64ok at he13
 refine Jk [0, 1] ?_
 have hq := q4 hrr (rv11, (tI + 1)) (by simp only [Tape_Next, h4, h7, hg12, cs4]); subst hq
 exact Kr () rfl (.tmp rfl .nil) [0] en
theorem fn17 (tP : Value) (ta : Option Addr) (tk : Nat) (tT : List Int) (tI : Int) (htI : 0 ≤ tI ∧ tI ≤ (tT.length : Int)) (rr : Str × Int) (hrr : Tape_name tT tI = rr) : FT Tryd.prog 17 #[tP] [Cl tP [vl ta tk tT, vi tI], S ta tk tT] (fun g : Unit => rr.1.b.length ≤ 140737488355328 ∧ (0 ≤ rr.2 ∧ rr.2 ≤ (tT.length : Int))) (fun g => .string (bs rr.1)) (fun g => [Cl tP [vl ta tk tT, vi rr.2]]) := by
 refine FTi Tryd.func17 fun w0 M0 F0 => ?_
 refine Fb 8 1 fun hl1 => ?_
 refine Fo 1 fun ho2 => ?_
 refine KS ?_
 refine Oq Va (KS ?_)
 refine Oa (AsV sl45 sz45 [.string (bs (Str.mk [120])), .string (bs (Str.mk [121])), .string (bs (Str.mk [122])), .string (bs (Str.mk [119]))] [.string (bs (Str.mk [120])), .string (bs (Str.mk [121])), .string (bs (Str.mk [122])), .string (bs (Str.mk [119]))]) fun c3 => ?_
 refine Jo 0 ?_; rintro a4 k5 rfl
 refine Oq Vm ?_
 refine letv (Tape_Next tT tI 4) fun rv6 hg7 => ?_
 have hc8 := fn14 tP ta tk tT tI 4 pre pre rv6 hg7
 refine Oc [1, 1] ca14 hc8 ?_
 rintro - ⟨he9, he10, he11⟩
 unfold i64ok at he9
 refine Jl [1] (Ent.crOs (α := Str) (A := []) _ ([(Str.mk [120]), (Str.mk [121]), (Str.mk [122]), (Str.mk [119])] : List Str) _ (Nat.le_of_ble_eq_true rfl) (fun h => ⟨[.string (bs (Str.mk [120]))], [.string (bs (Str.mk [121])), .string (bs (Str.mk [122])), .string (bs (Str.mk [119]))], rfl, (fun _ => ⟨rfl, by first | omega | (simp; done) | (dsimp only; omega) | exact lit_bl rfl⟩) h, ⟨[.string (bs (Str.mk [121]))], [.string (bs (Str.mk [122])), .string (bs (Str.mk [119]))], rfl, (fun _ => ⟨rfl, by first | omega | (simp; done) | (dsimp only; omega) | exact lit_bl rfl⟩) h, ⟨[.string (bs (Str.mk [122]))], [.string (bs (Str.mk [119]))], rfl, (fun _ => ⟨rfl, by first | omega | (simp; done) | (dsimp only; omega) | exact lit_bl rfl⟩) h, ⟨[.string (bs (Str.mk [119]))], [], rfl, (fun _ => ⟨rfl, by first | omega | (simp; done) | (dsimp only; omega) | exact lit_bl rfl⟩) h, rfl⟩⟩⟩⟩)) ?_
 refine Oq (Vi sl45 0) ?_
 refine Fb 16 0 fun hl12 => ?_
 refine FoS 0 fun ho13 => ?_
 have hb14 := okS (i := rv6.1.toNat) ho13 rng
 refine Oq (VldS sh9 0) (Oq Va (KS ?_))
 have hq := q4 hrr (([(Str.mk [120]), (Str.mk [121]), (Str.mk [122]), (Str.mk [119])].getD rv6.1.toNat default), rv6.2) (by simp only [Tape_name, hg7, cs4]); subst hq
 exact Kr () rfl (.tmp rfl .nil) [1] en
theorem fn15 (tP : Value) (ta : Option Addr) (tk : Nat) (tT : List Int) (tI : Int) (funcs : Int) (htI : 0 ≤ tI ∧ tI ≤ (tT.length : Int)) (hfuncs_0 : i64ok funcs) (hfu : funcs ≤ 3) (rr : GStmt × Int) (hrr : Tape_stmt tT tI funcs = rr) : FT Tryd.prog 15 #[tP, vi funcs] [Cl tP [vl ta tk tT, vi tI], S ta tk tT] (fun g : Value × Value => i64ok rr.1.Op ∧ rr.1.Def.b.length ≤ 140737488355328 ∧ (0 ≤ rr.2 ∧ rr.2 ≤ (tT.length : Int))) (fun g => .agg #[vi rr.1.Op, .string (bs rr.1.Def), g.1, g.2]) (fun g => [os g.1 rr.1.Uses, os g.2 rr.1.Targets, Cl tP [vl ta tk tT, vi rr.2]]) := by
 refine FTi Tryd.func15 fun w0 M0 F0 => ?_
 unfold i64ok at hfuncs_0
 refine Fb 8 1 fun hl1 => ?_
 refine Fo 1 fun ho2 => ?_
 refine KS ?_
 refine Oa (Al ze47 [vi 0, .string (bs (Str.mk [])), .slice none 0 0, .slice none 0 0]) fun p3 => KS ?_
 refine Oq Vm ?_
 refine letv (Tape_Next tT tI 9) fun rv4 hg5 => ?_
 have hc6 := fn14 tP ta tk tT tI 9 pre pre rv4 hg5
 refine Oc [1, 1] ca14 hc6 ?_
 rintro - ⟨he7, he8, he9⟩
 unfold i64ok at he7
 refine KS ?_
 refine Oq Veql (Oq Va (KS ?_))
 refine Kc ?_ ?_
 · intro h10
   have g11 := eq_of_beq h10
   refine KS ?_
   refine Oq Vm ?_
   refine letv (Tape_name tT rv4.2) fun rv12 hg13 => ?_
   have hc14 := fn17 tP ta tk tT rv4.2 pre rv12 hg13
   refine Oc [0, 1] ca17 hc14 ?_
   rintro - ⟨he15, he16⟩
   refine Oq Vm ?_
   refine letv (Tape_name tT rv12.2) fun rv17 hg18 => ?_
   have hc19 := fn17 tP ta tk tT rv12.2 pre rv17 hg18
   refine Oc [0, 1] ca17 hc19 ?_
   rintro - ⟨he20, he21⟩
   refine Oa (AsV sl45 sz45 [.string (bs rv12.1), .string (bs rv17.1)] [.string (bs rv12.1), .string (bs rv17.1)]) fun c22 => ?_
   refine Jo 0 ?_; rintro a23 k24 rfl
   refine Oq Vm ?_
   refine letv (Tape_Next tT rv17.2 2) fun rv25 hg26 => ?_
   have hc27 := fn14 tP ta tk tT rv17.2 2 pre pre rv25 hg26
   refine Oc [1, 2] ca14 hc27 ?_
   rintro - ⟨he28, he29, he30⟩
   unfold i64ok at he28
   refine Oq Vadd ?_
   refine Jl [1] (Ent.crOs (α := Str) (A := []) _ ([rv12.1, rv17.1] : List Str) _ (Nat.le_of_ble_eq_true rfl) (fun h => ⟨[.string (bs rv12.1)], [.string (bs rv17.1)], rfl, (fun _ => ⟨rfl, by first | omega | (simp; done) | (dsimp only; omega) | exact lit_bl rfl⟩) h, ⟨[.string (bs rv17.1)], [], rfl, (fun _ => ⟨rfl, by first | omega | (simp; done) | (dsimp only; omega) | exact lit_bl rfl⟩) h, rfl⟩⟩)) ?_
   refine Oa (AslO [0] sl45 0 (((1 + rv25.1) : Int).toNat)) fun c31 => ?_
   refine Jo 0 ?_; rintro a32 k33 rfl
   refine Fb 16 0 fun hl34 => ?_
   refine FoS 0 fun ho35 => ?_
   have hn36 : (([rv12.1, rv17.1].take (((1 + rv25.1) : Int).toNat)).drop 0).length = (((1 + rv25.1) : Int).toNat) - 0 := len_slice rng rng
   refine Oq (Vbd st47 [vi 2, .string (bs (Str.mk [])), .slice a32 ((([rv12.1, rv17.1].take (((1 + rv25.1) : Int).toNat)).drop 0).length) k33, .slice none 0 0]) (Ost (Scl [2] sh47 [vi 2, .string (bs (Str.mk [])), .slice a32 ((([rv12.1, rv17.1].take (((1 + rv25.1) : Int).toNat)).drop 0).length) k33, .slice none 0 0]) (KS ?_))
   refine Jl [] (Ent.osNil (α := Str)) ?_
   have hq := q4 hrr ((GStmt.mk 2 (Str.mk []) (([rv12.1, rv17.1].take (((1 + rv25.1) : Int).toNat)).drop 0) []), rv25.2) (by simp only [Tape_stmt, h10, hg5, hg13, hg18, hg26, cs4]); subst hq
   exact Kr (.slice a32 ((([rv12.1, rv17.1].take (((1 + rv25.1) : Int).toNat)).drop 0).length) k33, .slice none 0 0) rfl (.cellN 1 rfl sh47 rfl (reads_Cl _ _) rfl .nil) [2, 0, 1] en
 intro h10
 have g37 := ne_of_beq_false h10
 refine KS ?_
 refine Oq Veql (Oq Va (KS ?_))
 refine Kc ?_ ?_
 · intro h38
   have g39 := eq_of_beq h38
   refine KS ?_
   refine Oq Vm ?_
   refine letv (Tape_name tT rv4.2) fun rv40 hg41 => ?_
   have hc42 := fn17 tP ta tk tT rv4.2 pre rv40 hg41
   refine Oc [0, 1] ca17 hc42 ?_
   rintro - ⟨he43, he44⟩
   refine Oq (Vbd st47 [vi 4, .string (bs rv40.1), .slice none 0 0, .slice none 0 0]) (Ost (Scl [1] sh47 [vi 4, .string (bs rv40.1), .slice none 0 0, .slice none 0 0]) (KS ?_))
   refine Jl [] (Ent.osNil (α := Str)) ?_
   refine Jl [] (Ent.osNil (α := Str)) ?_
   have hq := q4 hrr ((GStmt.mk 4 rv40.1 [] []), rv40.2) (by simp only [Tape_stmt, h10, h38, hg5, hg41, cs4]); subst hq
   exact Kr (.slice none 0 0, .slice none 0 0) rfl (.cellN 2 rfl sh47 rfl (reads_Cl _ _) rfl .nil) [1, 0, 1] en
 intro h38
 have g45 := ne_of_beq_false h38
 refine KS ?_
 refine Oq Veql (Oq Va (KS ?_))
 refine Kc ?_ ?_
 · intro h46
   have g47 := eq_of_beq h46
   refine KS ?_
   refine Oq Vm ?_
   refine letv (Tape_name tT rv4.2) fun rv48 hg49 => ?_
   have hc50 := fn17 tP ta tk tT rv4.2 pre rv48 hg49
   refine Oc [0, 1] ca17 hc50 ?_
   rintro - ⟨he51, he52⟩
   refine Oa (AsV sl45 sz45 [.string (bs rv48.1)] [.string (bs rv48.1)]) fun c53 => ?_
   refine Jo 0 ?_; rintro a54 k55 rfl
   refine Oq (Vbd st47 [vi 5, .string (bs (Str.mk [])), .slice a54 1 k55, .slice none 0 0]) (Ost (Scl [2] sh47 [vi 5, .string (bs (Str.mk [])), .slice a54 1 k55, .slice none 0 0]) (KS ?_))
   refine Jl [1] (Ent.cr1 (α := Str) (A := []) _ rv48.1 _ (Nat.le_of_ble_eq_true rfl) (fun _ => ⟨rfl, by first | omega | (simp; done) | (dsimp only; omega) | exact lit_bl rfl⟩)) ?_
   refine Jl [] (Ent.osNil (α := Str)) ?_
   have hq := q4 hrr ((GStmt.mk 5 (Str.mk []) [rv48.1] []), rv48.2) (by simp only [Tape_stmt, h10, h38, h46, hg5, hg49, cs4]); subst hq
   exact Kr (.slice a54 1 k55, .slice none 0 0) rfl (.cellN 2 rfl sh47 rfl (reads_Cl _ _) rfl .nil) [1, 0, 1] en
 intro h46
 have g56 := ne_of_beq_false h46
 refine KS ?_
 refine Oq Veql (Oq Va (KS ?_))
 refine Kc ?_ ?_
 · intro h57
   have g58 := eq_of_beq h57
   refine KS ?_
   refine Oq Vm ?_
   refine letv (Tape_name tT rv4.2) fun rv59 hg60 => ?_
   have hc61 := fn17 tP ta tk tT rv4.2 pre rv59 hg60
   refine Oc [0, 1] ca17 hc61 ?_
   rintro - ⟨he62, he63⟩
   refine Oq (Vbd st47 [vi 6, .string (bs rv59.1), .slice none 0 0, .slice none 0 0]) (Ost (Scl [1] sh47 [vi 6, .string (bs rv59.1), .slice none 0 0, .slice none 0 0]) (KS ?_))
   refine Jl [] (Ent.osNil (α := Str)) ?_
   refine Jl [] (Ent.osNil (α := Str)) ?_
   have hq := q4 hrr ((GStmt.mk 6 rv59.1 [] []), rv59.2) (by simp only [Tape_stmt, h10, h38, h46, h57, hg5, hg60, cs4]); subst hq
   exact Kr (.slice none 0 0, .slice none 0 0) rfl (.cellN 2 rfl sh47 rfl (reads_Cl _ _) rfl .nil) [1, 0, 1] en
 intro h57
 have g64 := ne_of_beq_false h57
 refine KS ?_
 refine Oq Veql (Oq Va (KS ?_))
 refine Kc ?_ ?_
 · intro h65
   have g66 := eq_of_beq h65
   refine KS ?_
   refine Kc ?_ ?_
   · intro h67
     have g68 := eq_of_beq h67
     refine KS ?_
     refine Oa (AsV sl45 sz45 [.string (bs (Str.mk [109])), .string (bs (Str.mk [102])), .string (bs (Str.mk [103]))] [.string (bs (Str.mk [109])), .string (bs (Str.mk [102])), .string (bs (Str.mk [103]))]) fun c69 => ?_
     refine Jo 0 ?_; rintro a70 k71 rfl
     refine Oq Vm (Oq Vm ?_)
     refine letv (Tape_Next tT rv4.2 funcs) fun rv72 hg73 => ?_
     have hc74 := fn14 tP ta tk tT rv4.2 funcs pre pre rv72 hg73
     refine Oc [1, 2] ca14 hc74 ?_
     rintro - ⟨he75, he76, he77⟩
     unfold i64ok at he75
     refine Jl [1] (Ent.crOs (α := Str) (A := []) _ ([(Str.mk [109]), (Str.mk [102]), (Str.mk [103])] : List Str) _ (Nat.le_of_ble_eq_true rfl) (fun h => ⟨[.string (bs (Str.mk [109]))], [.string (bs (Str.mk [102])), .string (bs (Str.mk [103]))], rfl, (fun _ => ⟨rfl, by first | omega | (simp; done) | (dsimp only; omega) | exact lit_bl rfl⟩) h, ⟨[.string (bs (Str.mk [102]))], [.string (bs (Str.mk [103]))], rfl, (fun _ => ⟨rfl, by first | omega | (simp; done) | (dsimp only; omega) | exact lit_bl rfl⟩) h, ⟨[.string (bs (Str.mk [103]))], [], rfl, (fun _ => ⟨rfl, by first | omega | (simp; done) | (dsimp only; omega) | exact lit_bl rfl⟩) h, rfl⟩⟩⟩)) ?_
     refine Oq (Vi sl45 0) ?_
     refine Fb 16 0 fun hl78 => ?_
     refine FoS 0 fun ho79 => ?_
     have hb80 := okS (i := rv72.1.toNat) ho79 rng
     refine Oq (VldS sh9 0) (Oa (AsV sl45 sz45 [.string (bs ([(Str.mk [109]), (Str.mk [102]), (Str.mk [103])].getD rv72.1.toNat default))] [.string (bs ([(Str.mk [109]), (Str.mk [102]), (Str.mk [103])].getD rv72.1.toNat default))]) fun c81 => ?_)
     refine Jo 0 ?_; rintro a82 k83 rfl
     refine Oq (Vbd st47 [vi 3, .string (bs (Str.mk [])), .slice none 0 0, .slice a82 1 k83]) (Ost (Scl [3] sh47 [vi 3, .string (bs (Str.mk [])), .slice none 0 0, .slice a82 1 k83]) (KS ?_))
     refine Jl [] (Ent.osNil (α := Str)) ?_
     refine Jl [2] (Ent.cr1 (α := Str) (A := []) _ ([(Str.mk [109]), (Str.mk [102]), (Str.mk [103])].getD rv72.1.toNat default) _ (Nat.le_of_ble_eq_true rfl) (fun _ => ⟨rfl, by first | omega | (simp; done) | (dsimp only; omega) | exact lit_bl rfl⟩)) ?_
     have hq := q4 hrr ((GStmt.mk 3 (Str.mk []) [] [([(Str.mk [109]), (Str.mk [102]), (Str.mk [103])].getD rv72.1.toNat default)]), rv72.2) (by simp only [Tape_stmt, h10, h38, h46, h57, h65, h67, hg5, hg73, cs4]); subst hq
     exact Kr (.slice none 0 0, .slice a82 1 k83) rfl (.cellN 2 rfl sh47 rfl (reads_Cl _ _) rfl .nil) [1, 0, 2] en
   intro h67
   exact absurd h67 (by first | (simp [h65]; done) | (simp only [bne, h65]; decide) | (simp only [bne, h65, Bool.not_true, Bool.not_false]; decide) | (exfalso; omega) | (intro hq; simp only [bne, hq, Bool.not_false, Bool.not_true, reduceCtorEq] at h65))
 intro h65
 have g84 := ne_of_beq_false h65
 refine KS ?_
 refine Oq Veql (Oq Va (KS ?_))
 refine Kc ?_ ?_
 · intro h85
   have g86 := eq_of_beq h85
   refine KS ?_
   refine Oa (AsV sl45 sz45 [.string (bs (Str.mk [109])), .string (bs (Str.mk [102])), .string (bs (Str.mk [103]))] [.string (bs (Str.mk [109])), .string (bs (Str.mk [102])), .string (bs (Str.mk [103]))]) fun c87 => ?_
   refine Jo 0 ?_; rintro a88 k89 rfl
   refine Oq Vm (Oq Vm ?_)
   refine letv (Tape_Next tT rv4.2 funcs) fun rv90 hg91 => ?_
   have hc92 := fn14 tP ta tk tT rv4.2 funcs pre pre rv90 hg91
   refine Oc [1, 2] ca14 hc92 ?_
   rintro - ⟨he93, he94, he95⟩
   unfold i64ok at he93
   refine Jl [1] (Ent.crOs (α := Str) (A := []) _ ([(Str.mk [109]), (Str.mk [102]), (Str.mk [103])] : List Str) _ (Nat.le_of_ble_eq_true rfl) (fun h => ⟨[.string (bs (Str.mk [109]))], [.string (bs (Str.mk [102])), .string (bs (Str.mk [103]))], rfl, (fun _ => ⟨rfl, by first | omega | (simp; done) | (dsimp only; omega) | exact lit_bl rfl⟩) h, ⟨[.string (bs (Str.mk [102]))], [.string (bs (Str.mk [103]))], rfl, (fun _ => ⟨rfl, by first | omega | (simp; done) | (dsimp only; omega) | exact lit_bl rfl⟩) h, ⟨[.string (bs (Str.mk [103]))], [], rfl, (fun _ => ⟨rfl, by first | omega | (simp; done) | (dsimp only; omega) | exact lit_bl rfl⟩) h, rfl⟩⟩⟩)) ?_
   refine Oq (Vi sl45 0) ?_
   refine Fb 16 0 fun hl96 => ?_
   refine FoS 0 fun ho97 => ?_
   have hb98 := okS (i := rv90.1.toNat) ho97 rng
   refine Oq (VldS sh9 0) (Oa (AsV sl45 sz45 [.string (bs ([(Str.mk [109]), (Str.mk [102]), (Str.mk [103])].getD rv90.1.toNat default))] [.string (bs ([(Str.mk [109]), (Str.mk [102]), (Str.mk [103])].getD rv90.1.toNat default))]) fun c99 => ?_)
   refine Jo 0 ?_; rintro a100 k101 rfl
   refine Oq (Vbd st47 [vi 3, .string (bs (Str.mk [])), .slice none 0 0, .slice a100 1 k101]) (Ost (Scl [3] sh47 [vi 3, .string (bs (Str.mk [])), .slice none 0 0, .slice a100 1 k101]) (KS ?_))
   refine Jl [] (Ent.osNil (α := Str)) ?_
   refine Jl [2] (Ent.cr1 (α := Str) (A := []) _ ([(Str.mk [109]), (Str.mk [102]), (Str.mk [103])].getD rv90.1.toNat default) _ (Nat.le_of_ble_eq_true rfl) (fun _ => ⟨rfl, by first | omega | (simp; done) | (dsimp only; omega) | exact lit_bl rfl⟩)) ?_
   have hq := q4 hrr ((GStmt.mk 3 (Str.mk []) [] [([(Str.mk [109]), (Str.mk [102]), (Str.mk [103])].getD rv90.1.toNat default)]), rv90.2) (by simp only [Tape_stmt, h10, h38, h46, h57, h65, h85, hg5, hg91, cs4]); subst hq
   exact Kr (.slice none 0 0, .slice a100 1 k101) rfl (.cellN 2 rfl sh47 rfl (reads_Cl _ _) rfl .nil) [1, 0, 2] en
 intro h85
 have g102 := ne_of_beq_false h85
 refine KS ?_
 refine Oq Vm ?_
 refine letv (Tape_name tT rv4.2) fun rv103 hg104 => ?_
 have hc105 := fn17 tP ta tk tT rv4.2 pre rv103 hg104
 refine Oc [0, 1] ca17 hc105 ?_
 rintro - ⟨he106, he107⟩
 refine Oq Vm ?_
 refine letv (Tape_name tT rv103.2) fun rv108 hg109 => ?_
 have hc110 := fn17 tP ta tk tT rv103.2 pre rv108 hg109
 refine Oc [0, 1] ca17 hc110 ?_
 rintro - ⟨he111, he112⟩
 refine Oq Vm ?_
 refine letv (Tape_name tT rv108.2) fun rv113 hg114 => ?_
 have hc115 := fn17 tP ta tk tT rv108.2 pre rv113 hg114
 refine Oc [0, 1] ca17 hc115 ?_
 rintro - ⟨he116, he117⟩
 refine Oq Vm ?_
 refine letv (Tape_name tT rv113.2) fun rv118 hg119 => ?_
 have hc120 := fn17 tP ta tk tT rv113.2 pre rv118 hg119
 refine Oc [0, 1] ca17 hc120 ?_
 rintro - ⟨he121, he122⟩
 refine Oa (AsV sl45 sz45 [.string (bs rv108.1), .string (bs rv113.1), .string (bs rv118.1)] [.string (bs rv108.1), .string (bs rv113.1), .string (bs rv118.1)]) fun c123 => ?_
 refine Jo 0 ?_; rintro a124 k125 rfl
 refine Oq Vm ?_
 refine letv (Tape_Next tT rv118.2 4) fun rv126 hg127 => ?_
 have hc128 := fn14 tP ta tk tT rv118.2 4 pre pre rv126 hg127
 refine Oc [1, 2] ca14 hc128 ?_
 rintro - ⟨he129, he130, he131⟩
 unfold i64ok at he129
 refine Jl [1] (Ent.crOs (α := Str) (A := []) _ ([rv108.1, rv113.1, rv118.1] : List Str) _ (Nat.le_of_ble_eq_true rfl) (fun h => ⟨[.string (bs rv108.1)], [.string (bs rv113.1), .string (bs rv118.1)], rfl, (fun _ => ⟨rfl, by first | omega | (simp; done) | (dsimp only; omega) | exact lit_bl rfl⟩) h, ⟨[.string (bs rv113.1)], [.string (bs rv118.1)], rfl, (fun _ => ⟨rfl, by first | omega | (simp; done) | (dsimp only; omega) | exact lit_bl rfl⟩) h, ⟨[.string (bs rv118.1)], [], rfl, (fun _ => ⟨rfl, by first | omega | (simp; done) | (dsimp only; omega) | exact lit_bl rfl⟩) h, rfl⟩⟩⟩)) ?_
 refine Oa (AslO [0] sl45 0 (rv126.1.toNat)) fun c132 => ?_
 refine Jo 0 ?_; rintro a133 k134 rfl
 refine Fb 16 0 fun hl135 => ?_
 refine FoS 0 fun ho136 => ?_
 have hn137 : (([rv108.1, rv113.1, rv118.1].take (rv126.1.toNat)).drop 0).length = (rv126.1.toNat) - 0 := len_slice rng rng
 refine Oq (Vbd st47 [vi 1, .string (bs rv103.1), vl a133 k134 (([rv108.1, rv113.1, rv118.1].take (rv126.1.toNat)).drop 0), .slice none 0 0]) (Ost (Scl [2] sh47 [vi 1, .string (bs rv103.1), vl a133 k134 (([rv108.1, rv113.1, rv118.1].take (rv126.1.toNat)).drop 0), .slice none 0 0]) (KS ?_))
 refine Jl [] (Ent.osNil (α := Str)) ?_
 have hq := q4 hrr ((GStmt.mk 1 rv103.1 (([rv108.1, rv113.1, rv118.1].take (rv126.1.toNat)).drop 0) []), rv126.2) (by simp only [Tape_stmt, h10, h38, h46, h57, h65, h85, hg5, hg104, hg109, hg114, hg119, hg127, cs4]); subst hq
 exact Kr (vl a133 k134 (([rv108.1, rv113.1, rv118.1].take (rv126.1.toNat)).drop 0), .slice none 0 0) rfl (.cellN 1 rfl sh47 rfl (reads_Cl _ _) rfl .nil) [2, 0, 1] en
theorem fn16 (i : Int) (hi_0 : i64ok i) (hi2 : (0 ≤ i ∧ i < 3)) (rr : Str) (hrr : flqgen_func2 i = rr) : FT Tryd.prog 16 #[vi i] [] (fun g : Unit => rr.b.length ≤ 140737488355328) (fun g => .string (bs rr)) (fun g => []) := by
 refine FTi Tryd.func16 fun w0 M0 F0 => ?_
 unfold i64ok at hi_0
 refine KS ?_
 refine Oq Va (KS ?_)
 refine Oa (AsV sl45 sz45 [.string (bs (Str.mk [97])), .string (bs (Str.mk [98])), .string (bs (Str.mk [99]))] [.string (bs (Str.mk [97])), .string (bs (Str.mk [98])), .string (bs (Str.mk [99]))]) fun c1 => ?_
 refine Jo 0 ?_; rintro a2 k3 rfl
 refine Oq Vm ?_
 refine Jl [0] (Ent.crOs (α := Str) (A := []) _ ([(Str.mk [97]), (Str.mk [98]), (Str.mk [99])] : List Str) _ (Nat.le_of_ble_eq_true rfl) (fun h => ⟨[.string (bs (Str.mk [97]))], [.string (bs (Str.mk [98])), .string (bs (Str.mk [99]))], rfl, (fun _ => ⟨rfl, by first | omega | (simp; done) | (dsimp only; omega) | exact lit_bl rfl⟩) h, ⟨[.string (bs (Str.mk [98]))], [.string (bs (Str.mk [99]))], rfl, (fun _ => ⟨rfl, by first | omega | (simp; done) | (dsimp only; omega) | exact lit_bl rfl⟩) h, ⟨[.string (bs (Str.mk [99]))], [], rfl, (fun _ => ⟨rfl, by first | omega | (simp; done) | (dsimp only; omega) | exact lit_bl rfl⟩) h, rfl⟩⟩⟩)) ?_
 refine Oq (Vi sl45 0) ?_
 refine Fb 16 0 fun hl4 => ?_
 refine FoS 0 fun ho5 => ?_
 have hb6 := okS (i := i.toNat) ho5 rng
 refine Oq (VldS sh9 0) (Oq Va (KS ?_))
 have hq := q4 hrr ([(Str.mk [97]), (Str.mk [98]), (Str.mk [99])].getD i.toNat default) (by simp only [flqgen_func2, cs4]); subst hq
 exact Kr () rfl (.tmp rfl .nil) [] en
theorem fn6 (tP : Value) (ta : Option Addr) (tk : Nat) (tT : List Int) (tI : Int) (htI : 0 ≤ tI ∧ tI ≤ (tT.length : Int)) (rr : GProgram × Int) (hrr : Tape_Program tT tI = rr) : FT Tryd.prog 6 #[tP] [Cl tP [vl ta tk tT, vi tI], S ta tk tT] (fun g : Value => (0 ≤ rr.2 ∧ rr.2 ≤ (tT.length : Int))) (fun g => .agg #[g]) (fun g => [sl g rr.1.Funcs, Cl tP [vl ta tk tT, vi rr.2]]) := by
 refine FTi Tryd.func6 fun w0 M0 F0 => ?_
 refine Fb 8 1 fun hl1 => ?_
 refine Fo 1 fun ho2 => ?_
 refine KS ?_
 refine Oa (Al ze25 [.slice none 0 0]) fun p3 => KS ?_
 refine Oa (Al ze25 [.slice none 0 0]) fun p4 => KS ?_
 refine Oq Vm ?_
 refine letv (Tape_Next tT tI 3) fun rv5 hg6 => ?_
 have hc7 := fn14 tP ta tk tT tI 3 pre pre rv5 hg6
 refine Oc [2, 2] ca14 hc7 ?_
 rintro - ⟨he8, he9, he10⟩
 unfold i64ok at he8
 refine Oq Vadd (Oq Va (KS ?_))
 refine Oq Va (KS ?_)
 refine Jl [] (Ent.osNil (α := GFunc)) ?_
 refine Kl (γ := Nat × Int × List GFunc × Int × Option Addr × Nat) (fun (r11, ti_12, p0_13, i_14, a15, k16) => ⟨[(0, tP), (2, p3), (3, p4), (4, vi (1 + rv5.1)), (5, vi i_14)], [O a15 k16 p0_13, Cl tP [vl ta tk tT, vi ti_12], Cl p4 [vl a15 k16 p0_13], Cl p3 [.slice none 0 0], S ta tk tT], Tape_Program_L0 tT (1 + rv5.1) r11 ti_12 p0_13 i_14 = Tape_Program_L0 tT (1 + rv5.1) ((((1 + rv5.1) : Int) - 0).toNat) rv5.2 [] 0 ∧ r11 = (((1 + rv5.1) : Int) - i_14).toNat ∧ (0 : Int) ≤ i_14 ∧ (i_14 ≤ (1 + rv5.1) ∨ i_14 = 0) ∧ (-9223372036854775808 ≤ ti_12 ∧ ti_12 ≤ 9223372036854775807) ∧ (0 ≤ ti_12 ∧ ti_12 ≤ (tT.length : Int)) ∧ (-9223372036854775808 ≤ i_14 ∧ i_14 ≤ 9223372036854775807) ∧ ((p0_13.length : Int) = i_14), r11⟩) ((((1 + rv5.1) : Int) - 0).toNat, rv5.2, [], 0, none, 0) [0, 0, 0, 0, 0] ⟨rfl, rfl, (by omega), (.inr rfl), (by omega), (by omega), (by omega), iv0⟩ ?_
 rintro ⟨r11, ti_12, p0_13, i_14, a15, k16⟩ ⟨hM17, hr18, hi19, hi20, hk21, ht22, hk23, hv24⟩
 refine JJ_nx fun _ _ hL hA => ?_; dsimp only at hL hA; subst hL hA
 refine Fb 40 0 fun hl25 => ?_
 refine Fb 8 4 fun hl26 => ?_
 refine Fo 4 fun ho27 => ?_
 refine KS ?_
 refine Oq Vm (Oq Vm (Oq Vlss (KS ?_)))
 refine Kc ?_ ?_
 · intro h28
   have g29 := of_decide_eq_true h28
   obtain ⟨r30, rfl⟩ := scc (n := r11) (by omega)
   refine KS ?_
   refine Oa (AsV sl45 sz45 [.string (bs (Str.mk [109])), .string (bs (Str.mk [102])), .string (bs (Str.mk [103]))] [.string (bs (Str.mk [109])), .string (bs (Str.mk [102])), .string (bs (Str.mk [103]))]) fun c31 => ?_
   refine Jo 0 ?_; rintro a32 k33 rfl
   refine Oq Vm ?_
   refine Jl [0] (Ent.crOs (α := Str) (A := []) _ ([(Str.mk [109]), (Str.mk [102]), (Str.mk [103])] : List Str) _ (Nat.le_of_ble_eq_true rfl) (fun h => ⟨[.string (bs (Str.mk [109]))], [.string (bs (Str.mk [102])), .string (bs (Str.mk [103]))], rfl, (fun _ => ⟨rfl, by first | omega | (simp; done) | (dsimp only; omega) | exact lit_bl rfl⟩) h, ⟨[.string (bs (Str.mk [102]))], [.string (bs (Str.mk [103]))], rfl, (fun _ => ⟨rfl, by first | omega | (simp; done) | (dsimp only; omega) | exact lit_bl rfl⟩) h, ⟨[.string (bs (Str.mk [103]))], [], rfl, (fun _ => ⟨rfl, by first | omega | (simp; done) | (dsimp only; omega) | exact lit_bl rfl⟩) h, rfl⟩⟩⟩)) ?_
   refine Oq (Vi sl45 0) ?_
   refine Fb 16 0 fun hl34 => ?_
   refine FoS 0 fun ho35 => ?_
   have hb36 := okS (i := i_14.toNat) ho35 rng
   refine Oq (VldS sh9 0) (Oq (Vbd st41 [.string (bs ([(Str.mk [109]), (Str.mk [102]), (Str.mk [103])].getD i_14.toNat default)), .slice none 0 0]) (Oa (Al ze41 [.string (bs (Str.mk [])), .slice none 0 0]) fun p37 => Ost (Scl [0] sh41 [.string (bs ([(Str.mk [109]), (Str.mk [102]), (Str.mk [103])].getD i_14.toNat default)), .slice none 0 0]) (KS ?_)))
   refine Oq Vm ?_
   refine letv (Tape_Next tT ti_12 3) fun rv38 hg39 => ?_
   have hc40 := fn14 tP ta tk tT ti_12 3 pre pre rv38 hg39
   refine Oc [3, 5] ca14 hc40 ?_
   rintro - ⟨he41, he42, he43⟩
   unfold i64ok at he41
   refine Oq Vadd (Oq Va (KS ?_))
   refine Oq Va (KS ?_)
   refine Jl [] (Ent.osNil (α := GBlock)) ?_
   refine Kl (γ := Nat × Int × List GBlock × Int × Option Addr × Nat) (fun (r44, ti_45, f1_46, k_47, a48, k49) => ⟨[(0, tP), (2, p3), (3, p4), (4, vi (1 + rv5.1)), (5, vi i_14), (6, p37), (7, vi (1 + rv38.1)), (8, vi k_47)], [O a48 k49 f1_46, Cl tP [vl ta tk tT, vi ti_45], Cl p37 [.string (bs ([(Str.mk [109]), (Str.mk [102]), (Str.mk [103])].getD i_14.toNat default)), vl a48 k49 f1_46], O a15 k16 p0_13, Cl p4 [vl a15 k16 p0_13], Cl p3 [.slice none 0 0], S ta tk tT], Tape_Program_L1 tT (1 + rv5.1) (1 + rv38.1) r44 ti_45 f1_46 k_47 = Tape_Program_L1 tT (1 + rv5.1) (1 + rv38.1) ((((1 + rv38.1) : Int) - 0).toNat) rv38.2 [] 0 ∧ r44 = (((1 + rv38.1) : Int) - k_47).toNat ∧ (0 : Int) ≤ k_47 ∧ (k_47 ≤ (1 + rv38.1) ∨ k_47 = 0) ∧ (-9223372036854775808 ≤ ti_45 ∧ ti_45 ≤ 9223372036854775807) ∧ (0 ≤ ti_45 ∧ ti_45 ≤ (tT.length : Int)) ∧ (-9223372036854775808 ≤ k_47 ∧ k_47 ≤ 9223372036854775807) ∧ ((f1_46.length : Int) = k_47), r44⟩) ((((1 + rv38.1) : Int) - 0).toNat, rv38.2, [], 0, none, 0) [0, 0, 0, 1, 1, 1, 1] ⟨rfl, rfl, (by omega), (.inr rfl), (by omega), (by omega), (by omega), iv0⟩ ?_
   rintro ⟨r44, ti_45, f1_46, k_47, a48, k49⟩ ⟨hM50, hr51, hi52, hi53, hk54, ht55, hk56, hv57⟩
   refine JJ_nx fun _ _ hL hA => ?_; dsimp only at hL hA; subst hL hA
   refine Fb 40 0 fun hl58 => ?_
   refine Fb 40 3 fun hl59 => ?_
   refine Fb 8 6 fun hl60 => ?_
   refine Fo 6 fun ho61 => ?_
   refine KS ?_
   refine Oq Vm (Oq Vm (Oq Vlss (KS ?_)))
   refine Kc ?_ ?_
   · intro h62
     have g63 := of_decide_eq_true h62
     obtain ⟨r64, rfl⟩ := scc (n := r44) (by omega)
     refine KS ?_
     refine Oa (AsV sl45 sz45 [.string (bs (Str.mk [97])), .string (bs (Str.mk [98])), .string (bs (Str.mk [99]))] [.string (bs (Str.mk [97])), .string (bs (Str.mk [98])), .string (bs (Str.mk [99]))]) fun c65 => ?_
     refine Jo 0 ?_; rintro a66 k67 rfl
     refine Oq Vm ?_
     refine Jl [0] (Ent.crOs (α := Str) (A := []) _ ([(Str.mk [97]), (Str.mk [98]), (Str.mk [99])] : List Str) _ (Nat.le_of_ble_eq_true rfl) (fun h => ⟨[.string (bs (Str.mk [97]))], [.string (bs (Str.mk [98])), .string (bs (Str.mk [99]))], rfl, (fun _ => ⟨rfl, by first | omega | (simp; done) | (dsimp only; omega) | exact lit_bl rfl⟩) h, ⟨[.string (bs (Str.mk [98]))], [.string (bs (Str.mk [99]))], rfl, (fun _ => ⟨rfl, by first | omega | (simp; done) | (dsimp only; omega) | exact lit_bl rfl⟩) h, ⟨[.string (bs (Str.mk [99]))], [], rfl, (fun _ => ⟨rfl, by first | omega | (simp; done) | (dsimp only; omega) | exact lit_bl rfl⟩) h, rfl⟩⟩⟩)) ?_
     refine Oq (Vi sl45 0) ?_
     refine Fb 16 0 fun hl68 => ?_
     refine FoS 0 fun ho69 => ?_
     have hb70 := okS (i := k_47.toNat) ho69 rng
     refine Oq (VldS sh9 0) (Oq (Vbd st44 [.string (bs ([(Str.mk [97]), (Str.mk [98]), (Str.mk [99])].getD k_47.toNat default)), .slice none 0 0]) (Oa (Al ze44 [.string (bs (Str.mk [])), .slice none 0 0]) fun p71 => Ost (Scl [0] sh44 [.string (bs ([(Str.mk [97]), (Str.mk [98]), (Str.mk [99])].getD k_47.toNat default)), .slice none 0 0]) (KS ?_)))
     refine Oq Vm ?_
     refine letv (Tape_Next tT ti_45 4) fun rv72 hg73 => ?_
     have hc74 := fn14 tP ta tk tT ti_45 4 pre pre rv72 hg73
     refine Oc [3, 7] ca14 hc74 ?_
     rintro - ⟨he75, he76, he77⟩
     unfold i64ok at he75
     refine Oq Va (KS ?_)
     refine Jl [] (Ent.osNil (α := GStmt)) ?_
     refine Kl (γ := Nat × Int × List GStmt × Int × Option Addr × Nat) (fun (r78, ti_79, b1_80, n_81, a82, k83) => ⟨[(0, tP), (2, p3), (3, p4), (4, vi (1 + rv5.1)), (5, vi i_14), (6, p37), (7, vi (1 + rv38.1)), (8, vi k_47), (9, p71), (10, vi n_81)], [O a82 k83 b1_80, Cl tP [vl ta tk tT, vi ti_79], Cl p71 [.string (bs ([(Str.mk [97]), (Str.mk [98]), (Str.mk [99])].getD k_47.toNat default)), vl a82 k83 b1_80], O a48 k49 f1_46, Cl p37 [.string (bs ([(Str.mk [109]), (Str.mk [102]), (Str.mk [103])].getD i_14.toNat default)), vl a48 k49 f1_46], O a15 k16 p0_13, Cl p4 [vl a15 k16 p0_13], Cl p3 [.slice none 0 0], S ta tk tT], Tape_Program_L2 tT (1 + rv5.1) r78 ti_79 b1_80 n_81 = Tape_Program_L2 tT (1 + rv5.1) (rv72.1.toNat) rv72.2 [] rv72.1 ∧ r78 = n_81.toNat ∧ n_81 ≤ (rv72.1 : Int) ∧ (-9223372036854775808 ≤ ti_79 ∧ ti_79 ≤ 9223372036854775807) ∧ (0 ≤ ti_79 ∧ ti_79 ≤ (tT.length : Int)) ∧ (-9223372036854775808 ≤ n_81 ∧ n_81 ≤ 9223372036854775807) ∧ ((b1_80.length : Int) + n_81 ≤ 3 ∧ 0 ≤ n_81), r78⟩) (rv72.1.toNat, rv72.2, [], rv72.1, none, 0) [0, 0, 0, 1, 1, 1, 1, 1, 1] ⟨rfl, rfl, (by omega), (by omega), (by omega), (by omega), iv0⟩ ?_
     rintro ⟨r78, ti_79, b1_80, n_81, a82, k83⟩ ⟨hM84, hr85, hi86, hk87, ht88, hk89, hv90⟩
     refine JJ_nx fun _ _ hL hA => ?_; dsimp only at hL hA; subst hL hA
     refine Fb 72 0 fun hl91 => ?_
     refine Fb 40 3 fun hl92 => ?_
     refine Fb 40 5 fun hl93 => ?_
     refine Fb 8 8 fun hl94 => ?_
     refine Fo 8 fun ho95 => ?_
     refine KS ?_
     refine Oq Vm (Oq Vgtr (KS ?_))
     refine Kc ?_ ?_
     · intro h96
       have g97 := of_decide_eq_true h96
       obtain ⟨r98, rfl⟩ := scc (n := r78) (by omega)
       refine KS ?_
       refine Jp 2 fun hp99 => ?_
       refine JK_drawK [0, 1, 0, 0, 12, 28, 63, 127, 255] fmix ?_
       refine Dv [0] (Vfa fo44_1 0) (Dv [3] (VldF sh42 0) (Dv [] Vm (Dv [] Vm ?_)))
       refine letv (Tape_stmt tT ti_79 (1 + rv5.1)) fun rv102 hg103 => ?_
       refine Dx [2, 9] [2] [4, 0, 1, 1, 1] (fun G => .agg #[vi rv102.1.Op, .string (bs rv102.1.Def), (G.g 4 0), (G.g 4 1)]) [fun G => SP.fact (i64ok rv102.1.Op ∧ rv102.1.Def.b.length ≤ 140737488355328 ∧ (0 ≤ rv102.2 ∧ rv102.2 ≤ (tT.length : Int))), fun G => os (G.g 4 0) rv102.1.Uses, fun G => os (G.g 4 1) rv102.1.Targets, fun G => Cl tP [vl ta tk tT, vi rv102.2]] (fun G => xC [0, 0] ca15 (fn15 tP ta tk tT ti_79 ((1 + rv5.1)) pre pre pre rv102 hg103)) (Dx [] [] [0] (fun G => (G.g 5 0)) [fun G => Cr (G.g 5 0) 1 [vi rv102.1.Op, .string (bs rv102.1.Def), (G.g 4 0), (G.g 4 1)]] (fun G => xA (AsV sl42 sz42 [.agg #[vi rv102.1.Op, .string (bs rv102.1.Def), (G.g 4 0), (G.g 4 1)]] [vi rv102.1.Op, .string (bs rv102.1.Def), (G.g 4 0), (G.g 4 1)])) ?_)
       have hn106 := la b1_80 ([rv102.1] : List GStmt)
       refine Dx [1, 10, 11, 12, 14] [1, 11, 12, 14] [5, 1, 2, 0] (fun G => (G.g 6 0)) [fun G => sl (G.g 4 0) rv102.1.Uses, fun G => sl (G.g 4 1) rv102.1.Targets, fun G => os (G.g 6 0) ((b1_80 ++ [rv102.1]) : List GStmt)] (fun G => by refine xf 1 rfl ?_; rintro ⟨he107, he108, he109⟩; unfold i64ok at he107; exact xp [2] rfl (Ent.freeze _ _) (xp [3] rfl (Ent.freeze _ _) (xp [4, 1, 0] rfl (Ent.cr1 (α := GStmt) (A := [sl (G.g 4 0) rv102.1.Uses, sl (G.g 4 1) rv102.1.Targets]) _ rv102.1 _ (Nat.le_of_ble_eq_true rfl) (fun h => ⟨_, _, rfl, (by unfold i64ok; first | omega | (dsimp only; omega)), (by first | omega | (simp; done) | (dsimp only; omega) | exact lit_bl rfl), sepAll_get (i := 0) rfl h, sepAll_get (i := 1) rfl h⟩)) (xA (ApO [5, 0] sl42 sl42 sz42))))) (Dv [0] (Vfa fo44_1 0) (Dx0 [3, 17] [3] [1, 0] [fun G => Cl p71 [.string (bs ([(Str.mk [97]), (Str.mk [98]), (Str.mk [99])].getD k_47.toNat default)), (G.g 6 0)]] (fun G => x1 1 rfl os_one fun ho110 => (xS (OpS.frame [0] rfl (OpS.storeClF [(G.g 6 0)] [.string (bs ([(Str.mk [97]), (Str.mk [98]), (Str.mk [99])].getD k_47.toNat default)), (G.g 6 0)] rfl rfl rfl sh42 (cells_of_one ho110) rfl (by simp only [List.all_cons, List.all_nil, ho110, Bool.and_true, Bool.true_and] <;> rfl) (Nat.le_of_ble_eq_true rfl) rfl)))) ?_))
       refine Dn ⟨by kernel_rfl, fun G => ?_⟩
       refine Jw2 [(0, tP), (2, p3), (3, p4), (4, vi (1 + rv5.1)), (5, vi i_14), (6, p37), (7, vi (1 + rv38.1)), (8, vi k_47), (9, p71), (10, vi n_81)] [0, 4, 5, 6, 7, 8, 9] [SP.fact (i64ok rv102.1.Op ∧ rv102.1.Def.b.length ≤ 140737488355328 ∧ (0 ≤ rv102.2 ∧ rv102.2 ≤ (tT.length : Int))), Cl tP [vl ta tk tT, vi rv102.2], sl (G.g 4 0) rv102.1.Uses, sl (G.g 4 1) rv102.1.Targets, os (G.g 6 0) ((b1_80 ++ [rv102.1]) : List GStmt), Cl p71 [.string (bs ([(Str.mk [97]), (Str.mk [98]), (Str.mk [99])].getD k_47.toNat default)), (G.g 6 0)]] ?_
       generalize G.g 4 0 = c100, G.g 4 1 = c101, G.g 6 0 = c105
       refine Jf 7 rfl ?_; rintro ⟨he111, he112, he113⟩
       unfold i64ok at he111
       refine Jk [1, 1, 1, 1, 1, 1, 3, 3, 4, 5, 5] ?_
       refine Jo 7 ?_; rintro a114 k115 rfl
       refine Fb 16 7 fun hl116 => ?_
       refine FoS 7 fun ho117 => ?_
       refine Jo 8 ?_; rintro a118 k119 rfl
       refine Fb 16 8 fun hl120 => ?_
       refine FoS 8 fun ho121 => ?_
       refine Jo 9 ?_; rintro a122 k123 rfl
       refine Fb 72 9 fun hl124 => ?_
       refine KS ?_
       refine Oq Vm (Oq Vsub (Oq Va (KS ?_)))
       exact Kg (r98, rv102.2, (b1_80 ++ [rv102.1]), (n_81 - 1), a122, k123) [9, 6, 8, 0, 0, 0, 0, 0, 0] ⟨(q3 hM84 (by simp only [Tape_Program_L2, h28, h62, h96, hg6, hg39, hg73, hg103, cs4])), (by omega), (by omega), (by omega), (by omega), (by omega), iv1⟩
     intro h96
     have g125 := of_decide_eq_false h96
     obtain rfl : r78 = 0 := by omega
     refine Ke ?_
     have hR126 := q2 hM84 (ti_79, b1_80) (by simp only [Tape_Program_L2, h28, h62, h96, hg6, hg39, hg73, cs4])
     refine KS ?_
     refine Oq Vm (Oq Vm ?_)
     refine letv (Tape_Next tT ti_79 (1 + rv38.1)) fun rv127 hg128 => ?_
     have hc129 := fn14 tP ta tk tT ti_79 ((1 + rv38.1)) pre pre rv127 hg128
     refine Oc [1, 7] ca14 hc129 ?_
     rintro - ⟨he130, he131, he132⟩
     unfold i64ok at he130
     refine letv (flqgen_func2 rv127.1) fun rv133 hg134 => ?_
     have hc135 := fn16 rv127.1 pre pre rv133 hg134
     refine Oc [] ca16 hc135 ?_
     rintro - he136
     refine Oq Va (KS ?_)
     refine Oq Vm ?_
     refine letv (Tape_Next tT rv127.2 4) fun rv137 hg138 => ?_
     have hc139 := fn14 tP ta tk tT rv127.2 4 pre pre rv137 hg138
     refine Oc [0, 7] ca14 hc139 ?_
     rintro - ⟨he140, he141, he142⟩
     unfold i64ok at he140
     refine KS ?_
     refine Oq Veql (Oq Va (KS ?_))
     refine Kc ?_ ?_
     · intro h143
       have g144 := eq_of_beq h143
       refine KS ?_
       refine Oq (Vfa fo44_1 2) (Oq (VldF sh42 2) (Oq (Vbd st47 [vi 9, .string (bs (Str.mk [])), .slice none 0 0, .slice none 0 0]) (Oa (AsV sl42 sz42 [.agg #[vi 9, .string (bs (Str.mk [])), .slice none 0 0, .slice none 0 0]] [vi 9, .string (bs (Str.mk [])), .slice none 0 0, .slice none 0 0]) fun c145 => ?_)))
       refine Jo 0 ?_; rintro a146 k147 rfl
       refine Jl [0] (Ent.cr1 (α := GStmt) (A := []) _ (GStmt.mk 9 (Str.mk []) [] []) _ (Nat.le_of_ble_eq_true rfl) (fun h => ⟨_, _, rfl, (by unfold i64ok; first | omega | (dsimp only; omega)), (by first | omega | (simp; done) | (dsimp only; omega) | exact lit_bl rfl), slrd_nil, slrd_nil⟩)) ?_
       refine Oa (ApO [2, 0] sl42 sl42 sz42) fun c148 => ?_
       refine Jo 0 ?_; rintro a149 k150 rfl
       refine Fb 72 0 fun hl151 => ?_
       have hn152 := la b1_80 ([(GStmt.mk 9 (Str.mk []) [] [])] : List GStmt)
       refine Oq (Vfa fo44_1 2) (Ost (SclF [2] sh42 [.string (bs ([(Str.mk [97]), (Str.mk [98]), (Str.mk [99])].getD k_47.toNat default)), vl a149 k150 (b1_80 ++ [(GStmt.mk 9 (Str.mk []) [] [])])]) (KS ?_))
       refine Oq (Vfa fo41_1 4) (Oq (VldF sh39 4) (Oq (VldA sh44 0) (Oa (AsV sl39 sz39 [.agg #[.string (bs ([(Str.mk [97]), (Str.mk [98]), (Str.mk [99])].getD k_47.toNat default)), vl a149 k150 (b1_80 ++ [(GStmt.mk 9 (Str.mk []) [] [])])]] [.string (bs ([(Str.mk [97]), (Str.mk [98]), (Str.mk [99])].getD k_47.toNat default)), vl a149 k150 (b1_80 ++ [(GStmt.mk 9 (Str.mk []) [] [])])]) fun c153 => ?_)))
       refine Jo 0 ?_; rintro a154 k155 rfl
       refine Jl [2] (Ent.freeze _ _) ?_
       refine Jl [1, 0] (Ent.cr1 (α := GBlock) (A := [S a149 k150 ((b1_80 ++ [(GStmt.mk 9 (Str.mk []) [] [])]) : List GStmt)]) _ (GBlock.mk ([(Str.mk [97]), (Str.mk [98]), (Str.mk [99])].getD k_47.toNat default) (b1_80 ++ [(GStmt.mk 9 (Str.mk []) [] [])])) _ (Nat.le_of_ble_eq_true rfl) (fun h => ⟨_, rfl, (by first | omega | (simp; done) | (dsimp only; omega) | exact lit_bl rfl), sepAll_get (i := 0) rfl h⟩)) ?_
       refine Oa (ApO [5, 0] sl39 sl39 sz39) fun c156 => ?_
       refine Jo 0 ?_; rintro a157 k158 rfl
       refine Fb 40 0 fun hl159 => ?_
       have hn160 := la f1_46 ([(GBlock.mk ([(Str.mk [97]), (Str.mk [98]), (Str.mk [99])].getD k_47.toNat default) (b1_80 ++ [(GStmt.mk 9 (Str.mk []) [] [])]))] : List GBlock)
       refine Oq (Vfa fo41_1 5) (Ost (SclF [5] sh39 [.string (bs ([(Str.mk [109]), (Str.mk [102]), (Str.mk [103])].getD i_14.toNat default)), .slice a157 ((f1_46 ++ [(GBlock.mk ([(Str.mk [97]), (Str.mk [98]), (Str.mk [99])].getD k_47.toNat default) (b1_80 ++ [(GStmt.mk 9 (Str.mk []) [] [])]))]).length) k158]) (KS ?_))
       refine Oq Vm (Oq Vadd (Oq Va (KS ?_)))
       exact Kg (r64, rv137.2, (f1_46 ++ [(GBlock.mk ([(Str.mk [97]), (Str.mk [98]), (Str.mk [99])].getD k_47.toNat default) (b1_80 ++ [(GStmt.mk 9 (Str.mk []) [] [])]))]), (k_47 + 1), a157, k158) [1, 4, 0, 3, 3, 3, 3] ⟨(q3 hM50 (by simp only [Tape_Program_L1, h28, h62, h96, h143, hg6, hg39, hg73, hR126, hg128, hg134, hg138, cs4])), (by omega), (by omega), (by omega), (by omega), (by omega), (by omega), iv1⟩
     intro h143
     have g161 := ne_of_beq_false h143
     refine KS ?_
     refine Oq Veql (Oq Va (KS ?_))
     refine Kc ?_ ?_
     · intro h162
       have g163 := eq_of_beq h162
       refine KS ?_
       refine Oq (Vfa fo44_1 2) (Oq (VldF sh42 2) (Oq Vm (Oa (AsV sl45 sz45 [.string (bs rv133)] [.string (bs rv133)]) fun c164 => ?_)))
       refine Jo 0 ?_; rintro a165 k166 rfl
       refine Oq (Vbd st47 [vi 7, .string (bs (Str.mk [])), .slice none 0 0, .slice a165 1 k166]) (Oa (AsV sl42 sz42 [.agg #[vi 7, .string (bs (Str.mk [])), .slice none 0 0, .slice a165 1 k166]] [vi 7, .string (bs (Str.mk [])), .slice none 0 0, .slice a165 1 k166]) fun c167 => ?_)
       refine Jo 0 ?_; rintro a168 k169 rfl
       refine Jl [1] (Ent.cr1 (α := Str) (A := []) _ rv133 _ (Nat.le_of_ble_eq_true rfl) (fun _ => ⟨rfl, by first | omega | (simp; done) | (dsimp only; omega) | exact lit_bl rfl⟩)) ?_
       refine Jl [0] (Ent.freeze _ _) ?_
       refine Jl [1, 0] (Ent.cr1 (α := GStmt) (A := [sl (.slice a165 1 k166) ([rv133] : List Str)]) _ (GStmt.mk 7 (Str.mk []) [] [rv133]) _ (Nat.le_of_ble_eq_true rfl) (fun h => ⟨_, _, rfl, (by unfold i64ok; first | omega | (dsimp only; omega)), (by first | omega | (simp; done) | (dsimp only; omega) | exact lit_bl rfl), slrd_nil, sepAll_get (i := 0) rfl h⟩)) ?_
       refine Oa (ApO [4, 0] sl42 sl42 sz42) fun c170 => ?_
       refine Jo 0 ?_; rintro a171 k172 rfl
       refine Fb 72 0 fun hl173 => ?_
       have hn174 := la b1_80 ([(GStmt.mk 7 (Str.mk []) [] [rv133])] : List GStmt)
       refine Oq (Vfa fo44_1 4) (Ost (SclF [4] sh42 [.string (bs ([(Str.mk [97]), (Str.mk [98]), (Str.mk [99])].getD k_47.toNat default)), vl a171 k172 (b1_80 ++ [(GStmt.mk 7 (Str.mk []) [] [rv133])])]) (KS ?_))
       refine Oq (Vfa fo41_1 6) (Oq (VldF sh39 6) (Oq (VldA sh44 0) (Oa (AsV sl39 sz39 [.agg #[.string (bs ([(Str.mk [97]), (Str.mk [98]), (Str.mk [99])].getD k_47.toNat default)), vl a171 k172 (b1_80 ++ [(GStmt.mk 7 (Str.mk []) [] [rv133])])]] [.string (bs ([(Str.mk [97]), (Str.mk [98]), (Str.mk [99])].getD k_47.toNat default)), vl a171 k172 (b1_80 ++ [(GStmt.mk 7 (Str.mk []) [] [rv133])])]) fun c175 => ?_)))
       refine Jo 0 ?_; rintro a176 k177 rfl
       refine Jl [2] (Ent.freeze _ _) ?_
       refine Jl [1, 0] (Ent.cr1 (α := GBlock) (A := [S a171 k172 ((b1_80 ++ [(GStmt.mk 7 (Str.mk []) [] [rv133])]) : List GStmt)]) _ (GBlock.mk ([(Str.mk [97]), (Str.mk [98]), (Str.mk [99])].getD k_47.toNat default) (b1_80 ++ [(GStmt.mk 7 (Str.mk []) [] [rv133])])) _ (Nat.le_of_ble_eq_true rfl) (fun h => ⟨_, rfl, (by first | omega | (simp; done) | (dsimp only; omega) | exact lit_bl rfl), sepAll_get (i := 0) rfl h⟩)) ?_
       refine Oa (ApO [7, 0] sl39 sl39 sz39) fun c178 => ?_
       refine Jo 0 ?_; rintro a179 k180 rfl
       refine Fb 40 0 fun hl181 => ?_
       have hn182 := la f1_46 ([(GBlock.mk ([(Str.mk [97]), (Str.mk [98]), (Str.mk [99])].getD k_47.toNat default) (b1_80 ++ [(GStmt.mk 7 (Str.mk []) [] [rv133])]))] : List GBlock)
       refine Oq (Vfa fo41_1 7) (Ost (SclF [7] sh39 [.string (bs ([(Str.mk [109]), (Str.mk [102]), (Str.mk [103])].getD i_14.toNat default)), .slice a179 ((f1_46 ++ [(GBlock.mk ([(Str.mk [97]), (Str.mk [98]), (Str.mk [99])].getD k_47.toNat default) (b1_80 ++ [(GStmt.mk 7 (Str.mk []) [] [rv133])]))]).length) k180]) (KS ?_))
       refine Oq Vm (Oq Vadd (Oq Va (KS ?_)))
       exact Kg (r64, rv137.2, (f1_46 ++ [(GBlock.mk ([(Str.mk [97]), (Str.mk [98]), (Str.mk [99])].getD k_47.toNat default) (b1_80 ++ [(GStmt.mk 7 (Str.mk []) [] [rv133])]))]), (k_47 + 1), a179, k180) [1, 6, 0, 5, 5, 5, 5] ⟨(q3 hM50 (by simp only [Tape_Program_L1, h28, h62, h96, h143, h162, hg6, hg39, hg73, hR126, hg128, hg134, hg138, cs4])), (by omega), (by omega), (by omega), (by omega), (by omega), (by omega), iv1⟩
     intro h162
     have g183 := ne_of_beq_false h162
     refine Jp 2 fun hp184 => ?_
     refine JK_drawK [0, 1, 0, 4, 12, 0, 0, 0, 204, 460, 1004, 2044, 4092, 8191, 16383, 32767] fmix ?_
     refine Dv [0] (Vfa fo44_1 0) (Dv [3] (VldF sh42 0) (Dv [] Vm ?_))
     refine letv (Tape_name tT rv137.2) fun rv185 hg186 => ?_
     refine Dx [1, 9] [1] [2, 0, 1] (fun G => .string (bs rv185.1)) [fun G => SP.fact (rv185.1.b.length ≤ 140737488355328 ∧ (0 ≤ rv185.2 ∧ rv185.2 ≤ (tT.length : Int))), fun G => Cl tP [vl ta tk tT, vi rv185.2]] (fun G => xC [0, 0] ca17 (fn17 tP ta tk tT rv137.2 pre rv185 hg186)) (Dx [] [] [0] (fun G => (G.g 4 0)) [fun G => Cr (G.g 4 0) 1 [.string (bs rv185.1)]] (fun G => xA (AsV sl45 sz45 [.string (bs rv185.1)] [.string (bs rv185.1)])) (Dv [] Vm (Dv [] Vm (Dv [] Vm ?_))))
     refine letv (Tape_Next tT rv185.2 (1 + rv38.1)) fun rv188 hg189 => ?_
     refine Dx [9, 10, 11] [11] [2, 3, 0, 1] (fun G => vi rv188.1) [fun G => SP.fact (i64ok rv188.1 ∧ (0 ≤ rv188.2 ∧ rv188.2 ≤ (tT.length : Int)) ∧ (0 ≤ rv188.1 ∧ (rv188.1 < (1 + rv38.1) ∨ rv188.1 = 0))), fun G => Cl tP [vl ta tk tT, vi rv188.2]] (fun G => by refine xf 1 rfl ?_; rintro ⟨he190, he191⟩; exact xC [2, 0] ca14 (fn14 tP ta tk tT rv185.2 ((1 + rv38.1)) pre pre rv188 hg189)) ?_
     refine letv (flqgen_func2 rv188.1) fun rv192 hg193 => ?_
     refine Dx [10, 13] [] [1, 2, 0] (fun G => .string (bs rv192)) [fun G => SP.fact (rv192.b.length ≤ 140737488355328)] (fun G => by refine xf 0 rfl ?_; rintro ⟨he194, he195⟩; refine xf 1 rfl ?_; rintro ⟨he196, he197, he198⟩; unfold i64ok at he196; exact xC [] ca16 (fn16 rv188.1 pre pre rv192 hg193)) (Dx [] [] [0] (fun G => (G.g 10 0)) [fun G => Cr (G.g 10 0) 2 [.string (bs rv133), .string (bs rv192)]] (fun G => xA (AsV sl45 sz45 [.string (bs rv133), .string (bs rv192)] [.string (bs rv133), .string (bs rv192)])) ?_)
     refine Dx [12, 16] [] [0, 0] (fun G => .agg #[vi 8, .string (bs (Str.mk [])), (G.g 4 0), (G.g 10 0)]) [] (fun G => xV (v := .agg #[vi 8, .string (bs (Str.mk [])), (G.g 4 0), (G.g 10 0)]) (Vo 0 rfl (isO_Cr _ _ _) fun aq200 kq201 eq202 => (by rw [eq202]; exact Vo 1 rfl (isO_Cr _ _ _) fun aq203 kq204 eq205 => (by rw [eq205]; exact Vbd st47 [vi 8, .string (bs (Str.mk [])), .slice aq200 1 kq201, .slice aq203 2 kq204])))) (Dx [] [] [0] (fun G => (G.g 12 0)) [fun G => Cr (G.g 12 0) 1 [vi 8, .string (bs (Str.mk [])), (G.g 4 0), (G.g 10 0)]] (fun G => xA (AsV sl42 sz42 [.agg #[vi 8, .string (bs (Str.mk [])), (G.g 4 0), (G.g 10 0)]] [vi 8, .string (bs (Str.mk [])), (G.g 4 0), (G.g 10 0)])) ?_)
     have hn208 := la b1_80 ([(GStmt.mk 8 (Str.mk []) [rv185.1] [rv133, rv192])] : List GStmt)
     refine Dx [2, 10, 12, 13, 15, 16, 17] [2, 12, 16, 17] [5, 6, 7, 1, 2, 0] (fun G => (G.g 13 0)) [fun G => sl (G.g 4 0) ([rv185.1] : List Str), fun G => sl (G.g 10 0) ([rv133, rv192] : List Str), fun G => os (G.g 13 0) ((b1_80 ++ [(GStmt.mk 8 (Str.mk []) [rv185.1] [rv133, rv192])]) : List GStmt)] (fun G => by refine xf 1 rfl ?_; rintro ⟨he209, he210⟩; refine xf 3 rfl ?_; rintro ⟨he211, he212, he213⟩; unfold i64ok at he211; refine xf 4 rfl ?_; rintro he214; exact xp [2] rfl (Ent.cr1 (α := Str) (A := []) _ rv185.1 _ (Nat.le_of_ble_eq_true rfl) (fun _ => ⟨rfl, by first | omega | (simp; done) | (dsimp only; omega) | exact lit_bl rfl⟩)) (xp [0] rfl (Ent.freeze _ _) (xp [5] rfl (Ent.crOs (α := Str) (A := []) _ ([rv133, rv192] : List Str) _ (Nat.le_of_ble_eq_true rfl) (fun h => ⟨[.string (bs rv133)], [.string (bs rv192)], rfl, (fun _ => ⟨rfl, by first | omega | (simp; done) | (dsimp only; omega) | exact lit_bl rfl⟩) h, ⟨[.string (bs rv192)], [], rfl, (fun _ => ⟨rfl, by first | omega | (simp; done) | (dsimp only; omega) | exact lit_bl rfl⟩) h, rfl⟩⟩)) (xp [0] rfl (Ent.freeze _ _) (xp [6, 1, 0] rfl (Ent.cr1 (α := GStmt) (A := [sl (G.g 4 0) ([rv185.1] : List Str), sl (G.g 10 0) ([rv133, rv192] : List Str)]) _ (GStmt.mk 8 (Str.mk []) [rv185.1] [rv133, rv192]) _ (Nat.le_of_ble_eq_true rfl) (fun h => ⟨_, _, rfl, (by unfold i64ok; first | omega | (dsimp only; omega)), (by first | omega | (simp; done) | (dsimp only; omega) | exact lit_bl rfl), sepAll_get (i := 0) rfl h, sepAll_get (i := 1) rfl h⟩)) (xA (ApO [5, 0] sl42 sl42 sz42))))))) (Dv [0] (Vfa fo44_1 0) (Dx0 [3, 20] [3] [1, 0] [fun G => Cl p71 [.string (bs ([(Str.mk [97]), (Str.mk [98]), (Str.mk [99])].getD k_47.toNat default)), (G.g 13 0)]] (fun G => x1 1 rfl os_one fun ho215 => (xS (OpS.frame [0] rfl (OpS.storeClF [(G.g 13 0)] [.string (bs ([(Str.mk [97]), (Str.mk [98]), (Str.mk [99])].getD k_47.toNat default)), (G.g 13 0)] rfl rfl rfl sh42 (cells_of_one ho215) rfl (by simp only [List.all_cons, List.all_nil, ho215, Bool.and_true, Bool.true_and] <;> rfl) (Nat.le_of_ble_eq_true rfl) rfl)))) ?_))
     refine Dn ⟨by kernel_rfl, fun G => ?_⟩
     refine Jw2 [(0, tP), (2, p3), (3, p4), (4, vi (1 + rv5.1)), (5, vi i_14), (6, p37), (7, vi (1 + rv38.1)), (8, vi k_47), (9, p71)] [0, 4, 5, 6, 7, 8, 9] [SP.fact (rv185.1.b.length ≤ 140737488355328 ∧ (0 ≤ rv185.2 ∧ rv185.2 ≤ (tT.length : Int))), SP.fact (i64ok rv188.1 ∧ (0 ≤ rv188.2 ∧ rv188.2 ≤ (tT.length : Int)) ∧ (0 ≤ rv188.1 ∧ (rv188.1 < (1 + rv38.1) ∨ rv188.1 = 0))), Cl tP [vl ta tk tT, vi rv188.2], SP.fact (rv192.b.length ≤ 140737488355328), sl (G.g 4 0) ([rv185.1] : List Str), sl (G.g 10 0) ([rv133, rv192] : List Str), os (G.g 13 0) ((b1_80 ++ [(GStmt.mk 8 (Str.mk []) [rv185.1] [rv133, rv192])]) : List GStmt), Cl p71 [.string (bs ([(Str.mk [97]), (Str.mk [98]), (Str.mk [99])].getD k_47.toNat default)), (G.g 13 0)]] ?_
     generalize G.g 4 0 = c187, G.g 10 0 = c199, G.g 13 0 = c207
     refine Jf 7 rfl ?_; rintro ⟨he216, he217⟩
     refine Jf 8 rfl ?_; rintro ⟨he218, he219, he220⟩
     unfold i64ok at he218
     refine Jf 10 rfl ?_; rintro he221
     refine Jk [1, 1, 1, 1, 1, 1, 4, 5, 6, 7, 7] ?_
     refine Jo 7 ?_; rintro a222 k223 rfl
     refine Fb 16 7 fun hl224 => ?_
     refine FoS 7 fun ho225 => ?_
     refine Jo 8 ?_; rintro a226 k227 rfl
     refine Fb 16 8 fun hl228 => ?_
     refine FoS 8 fun ho229 => ?_
     refine Jo 9 ?_; rintro a230 k231 rfl
     refine Fb 72 9 fun hl232 => ?_
     refine KS ?_
     refine Oq (Vfa fo41_1 1) (Oq (VldF sh39 1) (Oq (VldA sh44 10) (Oa (AsV sl39 sz39 [.agg #[.string (bs ([(Str.mk [97]), (Str.mk [98]), (Str.mk [99])].getD k_47.toNat default)), vl a230 k231 (b1_80 ++ [(GStmt.mk 8 (Str.mk []) [rv185.1] [rv133, rv192])])]] [.string (bs ([(Str.mk [97]), (Str.mk [98]), (Str.mk [99])].getD k_47.toNat default)), vl a230 k231 (b1_80 ++ [(GStmt.mk 8 (Str.mk []) [rv185.1] [rv133, rv192])])]) fun c233 => ?_)))
     refine Jo 0 ?_; rintro a234 k235 rfl
     refine Jl [10] (Ent.freeze _ _) ?_
     refine Jl [1, 0] (Ent.cr1 (α := GBlock) (A := [S a230 k231 ((b1_80 ++ [(GStmt.mk 8 (Str.mk []) [rv185.1] [rv133, rv192])]) : List GStmt)]) _ (GBlock.mk ([(Str.mk [97]), (Str.mk [98]), (Str.mk [99])].getD k_47.toNat default) (b1_80 ++ [(GStmt.mk 8 (Str.mk []) [rv185.1] [rv133, rv192])])) _ (Nat.le_of_ble_eq_true rfl) (fun h => ⟨_, rfl, (by first | omega | (simp; done) | (dsimp only; omega) | exact lit_bl rfl), sepAll_get (i := 0) rfl h⟩)) ?_
     refine Oa (ApO [3, 0] sl39 sl39 sz39) fun c236 => ?_
     refine Jo 0 ?_; rintro a237 k238 rfl
     refine Fb 40 0 fun hl239 => ?_
     have hn240 := la f1_46 ([(GBlock.mk ([(Str.mk [97]), (Str.mk [98]), (Str.mk [99])].getD k_47.toNat default) (b1_80 ++ [(GStmt.mk 8 (Str.mk []) [rv185.1] [rv133, rv192])]))] : List GBlock)
     refine Oq (Vfa fo41_1 3) (Ost (SclF [3] sh39 [.string (bs ([(Str.mk [109]), (Str.mk [102]), (Str.mk [103])].getD i_14.toNat default)), .slice a237 ((f1_46 ++ [(GBlock.mk ([(Str.mk [97]), (Str.mk [98]), (Str.mk [99])].getD k_47.toNat default) (b1_80 ++ [(GStmt.mk 8 (Str.mk []) [rv185.1] [rv133, rv192])]))]).length) k238]) (KS ?_))
     refine Oq Vm (Oq Vadd (Oq Va (KS ?_)))
     exact Kg (r64, rv188.2, (f1_46 ++ [(GBlock.mk ([(Str.mk [97]), (Str.mk [98]), (Str.mk [99])].getD k_47.toNat default) (b1_80 ++ [(GStmt.mk 8 (Str.mk []) [rv185.1] [rv133, rv192])]))]), (k_47 + 1), a237, k238) [1, 7, 0, 2, 2, 2, 2] ⟨(q3 hM50 (by simp only [Tape_Program_L1, h28, h62, h96, h143, h162, hg6, hg39, hg73, hR126, hg128, hg134, hg138, hg186, hg189, hg193, cs4])), (by omega), (by omega), (by omega), (by omega), (by omega), (by omega), iv1⟩
   intro h62
   have g241 := of_decide_eq_false h62
   obtain rfl : r44 = 0 := by omega
   refine Ke ?_
   have hR242 := q2 hM50 (ti_45, f1_46) (by simp only [Tape_Program_L1, h28, h62, hg6, hg39, cs4])
   refine KS ?_
   refine Oq (Vfa fo25_0 4) (Oq (VldF sh23 4) (Oq (VldA sh41 2) (Oa (AsV sl23 sz23 [.agg #[.string (bs ([(Str.mk [109]), (Str.mk [102]), (Str.mk [103])].getD i_14.toNat default)), vl a48 k49 f1_46]] [.string (bs ([(Str.mk [109]), (Str.mk [102]), (Str.mk [103])].getD i_14.toNat default)), vl a48 k49 f1_46]) fun c243 => ?_)))
   refine Jo 0 ?_; rintro a244 k245 rfl
   refine Jl [1] (Ent.freeze _ _) ?_
   refine Jl [1, 0] (Ent.cr1 (α := GFunc) (A := [S a48 k49 f1_46]) _ (GFunc.mk ([(Str.mk [109]), (Str.mk [102]), (Str.mk [103])].getD i_14.toNat default) f1_46) _ (Nat.le_of_ble_eq_true rfl) (fun h => ⟨_, rfl, (by first | omega | (simp; done) | (dsimp only; omega) | exact lit_bl rfl), sepAll_get (i := 0) rfl h⟩)) ?_
   refine Oa (ApO [5, 0] sl23 sl23 sz23) fun c246 => ?_
   refine Jo 0 ?_; rintro a247 k248 rfl
   refine Fb 40 0 fun hl249 => ?_
   have hn250 := la p0_13 ([(GFunc.mk ([(Str.mk [109]), (Str.mk [102]), (Str.mk [103])].getD i_14.toNat default) f1_46)] : List GFunc)
   refine Oq (Vfa fo25_0 5) (Ost (SclF [5] sh23 [vl a247 k248 (p0_13 ++ [(GFunc.mk ([(Str.mk [109]), (Str.mk [102]), (Str.mk [103])].getD i_14.toNat default) f1_46)])]) (KS ?_))
   refine Oq Vm (Oq Vadd (Oq Va (KS ?_)))
   exact Kg (r30, ti_45, (p0_13 ++ [(GFunc.mk ([(Str.mk [109]), (Str.mk [102]), (Str.mk [103])].getD i_14.toNat default) f1_46)]), (i_14 + 1), a247, k248) [1, 3, 0, 3, 3] ⟨(q3 hM17 (by simp only [Tape_Program_L0, h28, h62, hg6, hg39, hR242, cs4])), (by omega), (by omega), (by omega), (by omega), (by omega), (by omega), iv1⟩
 intro h28
 have g251 := of_decide_eq_false h28
 obtain rfl : r11 = 0 := by omega
 refine Ke ?_
 have hR252 := q2 hM17 (ti_12, p0_13) (by simp only [Tape_Program_L0, h28, hg6, cs4])
 refine KS ?_
 refine Oq (VldA sh25 2) (Ost (Scl [3] sh25 [vl a15 k16 p0_13]) (KS ?_))
 refine Jl [1] (Ent.freeze _ _) ?_
 have hq := q4 hrr ((GProgram.mk p0_13), ti_12) (by simp only [Tape_Program, h28, hg6, hR252, cs4]); subst hq
 exact Kr (vl a15 k16 p0_13) rfl (.cellN 1 rfl sh25 rfl (reads_Cl _ _) rfl .nil) [0, 2] en
theorem fn4 (t : List Int) (ta0 : Option Addr) (tk0 : Nat) (kwLA : Option Addr) (kwLK : Nat) (rr : Bool) (hrr : flqlaw7_NodesStatements t = rr) : FT Tryd.prog 4 #[vl ta0 tk0 t] [S ta0 tk0 t, pv (gp 0) [vl kwLA kwLK kwL], S kwLA kwLK kwL] (fun g : Unit => True) (fun g => vb rr) (fun g => []) := by
 refine FTi Tryd.func4 fun w0 M0 F0 => ?_
 refine Fb 8 0 fun hl1 => ?_
 refine Fo 0 fun ho2 => ?_
 refine Fb 16 2 fun hl3 => ?_
 refine FoS 2 fun ho4 => ?_
 refine KS ?_
 refine Oq Va (KS ?_)
 refine Oq Vm ?_
 refine letv (flqgen_New t) fun rv6 hg7 => ?_
 have hc8 := fn5 t ta0 tk0 rv6 hg7
 refine Oc [0] ca5 hc8 ?_
 rintro c5 -
 refine letv (Tape_Program t 0) fun rv10 hg11 => ?_
 have hc12 := fn6 c5 ta0 tk0 t 0 pre rv10 hg11
 refine Oc [0, 0] ca6 hc12 ?_
 rintro c9 he13
 refine Jo 0 ?_; rintro a14 k15 rfl
 refine Fb 40 0 fun hl16 => ?_
 refine Oa (Al ze25 [.slice none 0 0]) fun p17 => Ost (Scl [0] sh25 [vl a14 k15 rv10.1.Funcs]) (KS ?_)
 refine Oq (VldA sh25 0) ?_
 refine letv (nodes_List rv10.1) fun rv19 hg20 => ?_
 have hc21 := fn7 rv10.1 a14 k15 kwLA kwLK (by first | exact Program_PSm' (by assumption) | exact SpP_PSm (Program_SpP (by assumption)) | kernel_rfl) rv19 hg20
 refine Oc [1, 4, 5] ca7 hc21 ?_
 rintro c18 he22
 refine Jo 0 ?_; rintro a23 k24 rfl
 refine Fb 32 0 fun hl25 => ?_
 refine Oq Va (KS ?_)
 refine Oq Va (KS ?_)
 refine Oq Va (KS ?_)
 refine Kl (γ := Nat × Int × Int) (fun (r26, at__27, f_28) => ⟨[(3, p17), (4, vl a23 k24 rv19), (5, vi at__27), (6, vi f_28)], [S a23 k24 rv19, Cl p17 [vl a14 k15 rv10.1.Funcs], S a14 k15 rv10.1.Funcs, pv (gp 0) [vl kwLA kwLK kwL], S kwLA kwLK kwL], flqlaw7_NodesStatements_L0 rv10.1.Funcs rv19 r26 at__27 f_28 = flqlaw7_NodesStatements_L0 rv10.1.Funcs rv19 (((rv10.1.Funcs.length : Int) - 0).toNat) 0 0 ∧ r26 = ((rv10.1.Funcs.length : Int) - f_28).toNat ∧ (0 : Int) ≤ f_28 ∧ f_28 ≤ (rv10.1.Funcs.length : Int) ∧ (-9223372036854775808 ≤ at__27 ∧ at__27 ≤ 9223372036854775807) ∧ (-9223372036854775808 ≤ f_28 ∧ f_28 ≤ 9223372036854775807) ∧ (0 ≤ at__27 ∧ at__27 ≤ 20000 + 2 * f_28), r26⟩) (((rv10.1.Funcs.length : Int) - 0).toNat, 0, 0) [0, 1, 1, 4, 5] ⟨rfl, rfl, (by omega), (by omega), (by omega), (by omega), iv0⟩ ?_
 rintro ⟨r26, at__27, f_28⟩ ⟨hM29, hr30, hi31, hi32, hk33, hk34, hv35⟩
 refine JJ_nx fun _ _ hL hA => ?_; dsimp only at hL hA; subst hL hA
 refine Fb 32 0 fun hl36 => ?_
 refine Fb 40 2 fun hl37 => ?_
 refine Fb 16 4 fun hl38 => ?_
 refine FoS 4 fun ho39 => ?_
 refine KS ?_
 refine Oq Vm (Oq (Vfa fo25_0 1) (Oq (VldF sh23 1) (Oq (Vlen sl23) (Oq Vlss (KS ?_)))))
 refine Kc ?_ ?_
 · intro h40
   have g41 := of_decide_eq_true h40
   obtain ⟨r42, rfl⟩ := scc (n := r26) (by omega)
   refine KS ?_
   refine Oq Vm (Oq Vadd (Oq Va (KS ?_)))
   refine Oq Va (KS ?_)
   refine Kl (γ := Nat × Int × Int) (fun (r43, at__44, b_45) => ⟨[(3, p17), (4, vl a23 k24 rv19), (6, vi f_28), (5, vi at__44), (7, vi b_45)], [S a23 k24 rv19, Cl p17 [vl a14 k15 rv10.1.Funcs], S a14 k15 rv10.1.Funcs, pv (gp 0) [vl kwLA kwLK kwL], S kwLA kwLK kwL], flqlaw7_NodesStatements_L1 rv10.1.Funcs rv19 f_28 r43 at__44 b_45 = flqlaw7_NodesStatements_L1 rv10.1.Funcs rv19 f_28 ((((((rv10.1.Funcs.getD f_28.toNat default).Blocks).length : Int) : Int) - 0).toNat) (at__27 + 1) 0 ∧ r43 = (((((rv10.1.Funcs.getD f_28.toNat default).Blocks).length : Int) : Int) - b_45).toNat ∧ (0 : Int) ≤ b_45 ∧ (b_45 ≤ (((rv10.1.Funcs.getD f_28.toNat default).Blocks).length : Int) ∨ b_45 = 0) ∧ (-9223372036854775808 ≤ at__44 ∧ at__44 ≤ 9223372036854775807) ∧ (-9223372036854775808 ≤ b_45 ∧ b_45 ≤ 9223372036854775807) ∧ (0 ≤ at__44 ∧ (at__44 ≤ 20000 ∨ at__44 ≤ (at__27 + 1))), r43⟩) ((((((rv10.1.Funcs.getD f_28.toNat default).Blocks).length : Int) : Int) - 0).toNat, (at__27 + 1), 0) [0, 1, 1, 2, 3] ⟨rfl, rfl, (by omega), (.inr rfl), (by omega), (by omega), iv0⟩ ?_
   rintro ⟨r43, at__44, b_45⟩ ⟨hM46, hr47, hi48, hi49, hk50, hk51, hv52⟩
   refine JJ_nx fun _ _ hL hA => ?_; dsimp only at hL hA; subst hL hA
   refine Fb 32 0 fun hl53 => ?_
   refine Fb 40 2 fun hl54 => ?_
   refine Fb 16 4 fun hl55 => ?_
   refine FoS 4 fun ho56 => ?_
   refine KS ?_
   refine Oq Vm (Oq (Vfa fo25_0 1) (Oq (VldF sh23 1) (Oq Vm (Oq (Vi sl23 2) ?_))))
   refine JJ_peek_GFunc f_28.toNat 2 rfl rng fun a57 k58 hb59 => ?_
   refine Fb 40 1 fun hl60 => ?_
   refine Oq (Vfa fo41_1 0) (Oq (VldF sh39 0) (Oq (Vlen sl39) (Oq Vlss (KS ?_))))
   refine Kc ?_ ?_
   · intro h61
     have g62 := of_decide_eq_true h61
     obtain ⟨r63, rfl⟩ := scc (n := r43) (by omega)
     refine KS ?_
     refine Oq (Vfa fo25_0 3) (Oq (VldF sh23 3) (Oq Vm (Oq (Vi sl23 4) (Oq (Vfa fo41_1 0) (Oq (VldF sh39 0) (Oq Vm (Oq (Vi sl39 1) ?_)))))))
     refine JJ_peek_GBlock b_45.toNat 1 rfl rng fun a64 k65 hb66 => ?_
     refine Fb 72 1 fun hl67 => ?_
     refine Oq (Vfa fo44_1 0) (Oq (VldF sh42 0) (Oq Va (KS ?_)))
     refine Oq Va (KS ?_)
     refine Kl (γ := Nat × Int × Int) (fun (r68, at__69, i_70) => ⟨[(3, p17), (4, vl a23 k24 rv19), (6, vi f_28), (5, vi at__69), (7, vi b_45), (8, .slice a64 (((((rv10.1.Funcs.getD f_28.toNat default).Blocks).getD b_45.toNat default).Stmts).length) k65), (9, vi i_70)], [S a64 k65 ((((rv10.1.Funcs.getD f_28.toNat default).Blocks).getD b_45.toNat default).Stmts), S a23 k24 rv19, Cl p17 [vl a14 k15 rv10.1.Funcs], S a14 k15 rv10.1.Funcs, pv (gp 0) [vl kwLA kwLK kwL], S kwLA kwLK kwL], flqlaw7_NodesStatements_L2 rv10.1.Funcs rv19 ((((rv10.1.Funcs.getD f_28.toNat default).Blocks).getD b_45.toNat default).Stmts) r68 at__69 i_70 = flqlaw7_NodesStatements_L2 rv10.1.Funcs rv19 ((((rv10.1.Funcs.getD f_28.toNat default).Blocks).getD b_45.toNat default).Stmts) ((((((((rv10.1.Funcs.getD f_28.toNat default).Blocks).getD b_45.toNat default).Stmts).length : Int) : Int) - 0).toNat) at__44 0 ∧ r68 = (((((((rv10.1.Funcs.getD f_28.toNat default).Blocks).getD b_45.toNat default).Stmts).length : Int) : Int) - i_70).toNat ∧ (0 : Int) ≤ i_70 ∧ (i_70 ≤ (((((rv10.1.Funcs.getD f_28.toNat default).Blocks).getD b_45.toNat default).Stmts).length : Int) ∨ i_70 = 0) ∧ (-9223372036854775808 ≤ at__69 ∧ at__69 ≤ 9223372036854775807) ∧ (-9223372036854775808 ≤ i_70 ∧ i_70 ≤ 9223372036854775807) ∧ (0 ≤ at__69 ∧ (at__69 ≤ 20000 ∨ at__69 ≤ at__44)), r68⟩) ((((((((rv10.1.Funcs.getD f_28.toNat default).Blocks).getD b_45.toNat default).Stmts).length : Int) : Int) - 0).toNat, at__44, 0) [1, 4, 5, 5, 6, 7] ⟨rfl, rfl, (by omega), (.inr rfl), (by omega), (by omega), iv0⟩ ?_
     rintro ⟨r68, at__69, i_70⟩ ⟨hM71, hr72, hi73, hi74, hk75, hk76, hv77⟩
     refine JJ_nx fun _ _ hL hA => ?_; dsimp only at hL hA; subst hL hA
     refine Fb 72 0 fun hl78 => ?_
     refine Fb 32 1 fun hl79 => ?_
     refine Fb 40 3 fun hl80 => ?_
     refine Fb 16 5 fun hl81 => ?_
     refine FoS 5 fun ho82 => ?_
     refine KS ?_
     refine Oq Vm (Oq Vm (Oq (Vlen sl42) (Oq Vlss (KS ?_))))
     refine Kc ?_ ?_
     · intro h83
       have g84 := of_decide_eq_true h83
       obtain ⟨r85, rfl⟩ := scc (n := r68) (by omega)
       refine KS ?_
       refine Oq Va (KS ?_)
       have hterm94 : flqlaw7_NodesStatements_L3 rv10.1.Funcs rv19 ((((rv10.1.Funcs.getD f_28.toNat default).Blocks).getD b_45.toNat default).Stmts) i_70 3 at__69 0 ≠ LR.oof := (NS_term _ _ _ _ _)
       refine Kl (γ := Nat × Int × Int) (fun (r86, at__87, n_88) => ⟨[(3, p17), (4, vl a23 k24 rv19), (6, vi f_28), (5, vi at__87), (7, vi b_45), (8, .slice a64 (((((rv10.1.Funcs.getD f_28.toNat default).Blocks).getD b_45.toNat default).Stmts).length) k65), (9, vi i_70), (10, vi n_88)], [S a64 k65 ((((rv10.1.Funcs.getD f_28.toNat default).Blocks).getD b_45.toNat default).Stmts), S a23 k24 rv19, Cl p17 [vl a14 k15 rv10.1.Funcs], S a14 k15 rv10.1.Funcs, pv (gp 0) [vl kwLA kwLK kwL], S kwLA kwLK kwL], flqlaw7_NodesStatements_L3 rv10.1.Funcs rv19 ((((rv10.1.Funcs.getD f_28.toNat default).Blocks).getD b_45.toNat default).Stmts) i_70 r86 at__87 n_88 = flqlaw7_NodesStatements_L3 rv10.1.Funcs rv19 ((((rv10.1.Funcs.getD f_28.toNat default).Blocks).getD b_45.toNat default).Stmts) i_70 3 at__69 0 ∧ (-9223372036854775808 ≤ at__87 ∧ at__87 ≤ 9223372036854775807) ∧ (-9223372036854775808 ≤ n_88 ∧ n_88 ≤ 9223372036854775807) ∧ (0 ≤ at__87 ∧ (at__87 ≤ 20000 ∨ at__87 ≤ at__69)) ∧ (0 ≤ n_88 ∧ n_88 ≤ 2), r86⟩) (3, at__69, 0) [0, 1, 2, 2, 3, 4] ⟨rfl, (by omega), (by omega), iv0, iv0⟩ ?_
       rintro ⟨r86, at__87, n_88⟩ ⟨hM89, hk90, hk91, hv92, hv93⟩
       refine JJ_nx fun _ _ hL hA => ?_; dsimp only at hL hA; subst hL hA
       refine Fb 72 0 fun hl95 => ?_
       refine Fb 32 1 fun hl96 => ?_
       refine Fb 40 3 fun hl97 => ?_
       refine Fb 16 5 fun hl98 => ?_
       refine FoS 5 fun ho99 => ?_
       rcases r86 with _ | r86
       · exact absurd (hM89.symm.trans rfl) hterm94
       refine KS ?_
       refine Oq Vm (Oq Veql (Oq Vm ?_))
       refine Js 56 ?_ ?_
       · intro h100
         have g101 := eq_of_beq h100
         refine Osk (Osk (Osk (Osk (Osk (Osk (Osk (Osk (Osk (Osk ?_)))))))))
         refine Oq Vpt (KS ?_)
         refine Kt ?_
         refine KS ?_
         refine Oq Vm (Oq Vm (Oq (Vlen sl29) (Oq Vgeq (KS ?_))))
         refine Kc ?_ ?_
         · intro h102
           have g103 := of_decide_eq_true h102
           refine KS ?_
           refine Oq Va (KS ?_)
           have hR104 := q2 hM89 (.ret false) (by simp only [flqlaw7_NodesStatements_L3, h40, h61, h83, h100, h102, hg7, hg11, hg20, cs4])
           have hR105 := q2 hM71 (.ret false) (by simp only [flqlaw7_NodesStatements_L2, h40, h61, h83, h100, h102, hg7, hg11, hg20, hR104, cs4])
           have hR106 := q2 hM46 (.ret false) (by simp only [flqlaw7_NodesStatements_L1, h40, h61, h83, h100, h102, hg7, hg11, hg20, hR104, hR105, cs4])
           have hR107 := q2 hM29 (.ret false) (by simp only [flqlaw7_NodesStatements_L0, h40, h61, h83, h100, h102, hg7, hg11, hg20, hR104, hR105, hR106, cs4])
           have hq := q4 hrr false (by unfold flqlaw7_NodesStatements; simp only [h40, h61, h83, h100, h102, hg7, hg11, hg20, hR104, hR105, hR106, hR107, cs4]); subst hq
           exact Kr () rfl (.tmp rfl .nil) [] trivial
         intro h102
         have g108 := of_decide_eq_false h102
         refine KS ?_
         refine JJ_peek_GNode at__87.toNat 1 rfl rng fun hb109 hb110 hb111 hb112 => ?_
         unfold i64ok at hb109 hb110 hb111 hb112
         refine JK_drawK [0, 0, 0, 6, 14, 31, 63, 127, 127, 0, 767, 2047] fmix ?_
         refine Dv [3] (VldA sh25 0) (Dv [] Vm (Dv [] Vm (Dv [2] (Vi sl29 0) (Dv [0] (VldA sh35 0) ?_))))
         refine letv (nodes_Stmt rv10.1 (rv19.getD at__87.toNat default)) fun rv115 hg116 => ?_
         refine Dx [4, 5, 6] [] [3, 4, 5, 0, 1, 2] (fun G => .tuple #[.agg #[vi rv115.1.Op, .string (bs rv115.1.Def), (G.g 5 0), (G.g 5 1)], vb rv115.2]) [fun G => SP.fact (i64ok rv115.1.Op ∧ rv115.1.Def.b.length ≤ 140737488355328), fun G => sl (G.g 5 0) rv115.1.Uses, fun G => sl (G.g 5 1) rv115.1.Targets] (fun G => xC [0, 1, 2] ca12 (fn12 rv10.1 a14 k15 ((rv19.getD at__87.toNat default)) kwLA kwLK pre pre pre pre (by first | exact Program_PSm' (by assumption) | exact SpP_PSm (Program_SpP (by assumption)) | kernel_rfl) rv115 hg116)) (Dg [] (fun G => .tuple #[.agg #[vi rv115.1.Op, .string (bs rv115.1.Def), (G.g 5 0), (G.g 5 1)], vb rv115.2]) (fun G => Vm) (Dg [] (fun G => .agg #[vi rv115.1.Op, .string (bs rv115.1.Def), (G.g 5 0), (G.g 5 1)]) (fun G => Vx) (Dv [] Vx (Dx [] [] [0] (fun G => (G.g 9 0)) [fun G => Cl (G.g 9 0) [vi 0, .string (bs (Str.mk [])), .slice none 0 0, .slice none 0 0]] (fun G => xA (Al ze47 [vi 0, .string (bs (Str.mk [])), .slice none 0 0, .slice none 0 0])) (Dx0 [8, 9, 10] [10] [1, 2, 0] [fun G => Cl (G.g 9 0) [vi rv115.1.Op, .string (bs rv115.1.Def), (G.g 5 0), (G.g 5 1)]] (fun G => x1 0 rfl sl_one fun ho118 => (x1 1 rfl sl_one fun ho119 => (xS (Scl [2] sh47 [vi rv115.1.Op, .string (bs rv115.1.Def), (G.g 5 0), (G.g 5 1)] (v := .agg #[vi rv115.1.Op, .string (bs rv115.1.Def), (G.g 5 0), (G.g 5 1)]) (h1 := show [vi rv115.1.Op, .string (bs rv115.1.Def), (G.g 5 0), (G.g 5 1)].all (·.oneCell') = true from (by simp only [List.all_cons, List.all_nil, ho118, ho119, Bool.and_true, Bool.true_and] <;> rfl)))))) (Dv [] Va ?_))))))
         refine Dn ⟨by kernel_rfl, fun G => ?_⟩
         refine Jw2 [(3, p17), (4, vl a23 k24 rv19), (6, vi f_28), (5, vi at__87), (7, vi b_45), (8, .slice a64 (((((rv10.1.Funcs.getD f_28.toNat default).Blocks).getD b_45.toNat default).Stmts).length) k65), (9, vi i_70), (10, vi n_88), (11, (G.g 9 0)), (12, vb rv115.2)] [0, 1, 2, 3, 4, 5, 6] [SP.fact (i64ok rv115.1.Op ∧ rv115.1.Def.b.length ≤ 140737488355328), sl (G.g 5 0) rv115.1.Uses, sl (G.g 5 1) rv115.1.Targets, Cl (G.g 9 0) [vi rv115.1.Op, .string (bs rv115.1.Def), (G.g 5 0), (G.g 5 1)]] ?_
         generalize G.g 5 0 = c113, G.g 5 1 = c114, G.g 9 0 = p117
         refine Jf 7 rfl ?_; rintro ⟨he120, he121⟩
         unfold i64ok at he120
         refine Jk [0, 1, 2, 3, 3, 4, 5, 7, 8, 9] ?_
         refine Jo 7 ?_; rintro a122 k123 rfl
         refine Fb 16 7 fun hl124 => ?_
         refine FoS 7 fun ho125 => ?_
         refine Jo 8 ?_; rintro a126 k127 rfl
         refine Fb 16 8 fun hl128 => ?_
         refine FoS 8 fun ho129 => ?_
         refine KS ?_
         refine bool_split (!rv115.2) ?_ ?_
         · intro h130
           have h132 := not_true h130
           refine Kq [0, 1, 3, 7, 15, 7, 7, 103, 231, 511, 1023, 2047] fmix ?_
           refine Qv [] Vm (Qb h130 [] Vnot (Qv [] Vm (Qs (Qs (Qs (Qs (Qs (Qs (Qs ?_)))))))))
           refine Qs (Qv [] Vpt ?_)
           refine Qn ⟨by kernel_rfl, ?_⟩
           refine Kt ?_
           refine KS ?_
           refine Oq Va (KS ?_)
           have hR134 := q2 hM89 (.ret false) (by simp only [flqlaw7_NodesStatements_L3, h40, h61, h83, h100, h102, h130, h132, hg7, hg11, hg20, hg116, cs4])
           have hR135 := q2 hM71 (.ret false) (by simp only [flqlaw7_NodesStatements_L2, h40, h61, h83, h100, h102, h130, h132, hg7, hg11, hg20, hg116, hR134, cs4])
           have hR136 := q2 hM46 (.ret false) (by simp only [flqlaw7_NodesStatements_L1, h40, h61, h83, h100, h102, h130, h132, hg7, hg11, hg20, hg116, hR134, hR135, cs4])
           have hR137 := q2 hM29 (.ret false) (by simp only [flqlaw7_NodesStatements_L0, h40, h61, h83, h100, h102, h130, h132, hg7, hg11, hg20, hg116, hR134, hR135, hR136, cs4])
           have hq := q4 hrr false (by unfold flqlaw7_NodesStatements; simp only [h40, h61, h83, h100, h102, h130, h132, hg7, hg11, hg20, hg116, hR134, hR135, hR136, hR137, cs4]); subst hq
           exact Kr () rfl (.tmp rfl .nil) [] trivial
         intro h130
         have h139 := not_false h130
         refine JJ_peek_GStmt i_70.toNat 1 rfl rng fun a141 k142 a143 k144 hb145 hb146 => ?_
         unfold i64ok at hb145
         refine Fb 16 1 fun hl147 => ?_
         refine FoS 1 fun ho148 => ?_
         refine Fb 16 2 fun hl149 => ?_
         refine FoS 2 fun ho150 => ?_
         refine JK_drawK [0, 1, 3, 7, 15, 7, 7, 103, 231, 511, 1023, 2047] fmix ?_
         refine Dv [] Vm (Db h130 [] Vnot (Dv [] Vm (Dv [12] (VldA sh47 0) ?_)))
         refine letv (flqref4_Line rv115.1) fun rv151 hg152 => ?_
         refine Dx [10, 11] [] [1, 2, 0] (fun G => .string (bs rv151)) [fun G => SP.fact (rv151.b.length ≤ 140737488355328 ∧ (rv151.b.length ≤ 3000000000))] (fun G => xC [0, 1] ca13 (fn13 rv115.1 a122 k123 a126 k127 pre pre (by first | exact Stmt_sm (Program_Dr' (by assumption)) (by assumption) | exact stm_sm (Program_Dr (by assumption)) _ _ _) rv151 hg152)) (Dv [] Vm (Dv [] Vm (Dv [4] (Vi sl42 0) (Dv [0] (VldA sh47 0) ?_))))
         refine letv (flqref4_Line (((((rv10.1.Funcs.getD f_28.toNat default).Blocks).getD b_45.toNat default).Stmts).getD i_70.toNat default)) fun rv153 hg154 => ?_
         refine Dx [1, 2, 13] [] [1, 2, 3, 0] (fun G => .string (bs rv153)) [fun G => SP.fact (rv153.b.length ≤ 140737488355328 ∧ (rv153.b.length ≤ 3000000000))] (fun G => by refine xf 2 rfl ?_; rintro ⟨he155, he156⟩; exact xC [0, 1] ca13 (fn13 ((((((rv10.1.Funcs.getD f_28.toNat default).Blocks).getD b_45.toNat default).Stmts).getD i_70.toNat default)) a141 k142 a143 k144 pre pre (by first | exact Stmt_sm (Program_Dr' (by assumption)) (by assumption) | exact stm_sm (Program_Dr (by assumption)) _ _ _) rv153 hg154)) (Dv [] (VneS (l := rv151) (m := rv153)) (Dv [] Vpf ?_))
         refine Dn ⟨by kernel_rfl, fun G => ?_⟩
         refine Jw2 [(3, p17), (4, vl a23 k24 rv19), (6, vi f_28), (5, vi at__87), (7, vi b_45), (8, .slice a64 (((((rv10.1.Funcs.getD f_28.toNat default).Blocks).getD b_45.toNat default).Stmts).length) k65), (9, vi i_70), (10, vi n_88), (94, vb (rv151 != rv153))] [0, 1, 2, 3, 4, 5, 6, 7, 8, 9, 10, 11, 12] [SP.fact (rv151.b.length ≤ 140737488355328 ∧ (rv151.b.length ≤ 3000000000)), SP.fact (rv153.b.length ≤ 140737488355328 ∧ (rv153.b.length ≤ 3000000000))] ?_
         refine Jf 13 rfl ?_; rintro ⟨he157, he158⟩
         refine Jf 14 rfl ?_; rintro ⟨he159, he160⟩
         refine Jk [0, 1, 2, 3, 4, 5, 6, 6, 7, 8, 9, 10, 11] ?_
         refine Kc ?_ ?_
         · intro h161
           have g162 := ne_of_bne h161
           refine KS ?_
           refine Oq Va (KS ?_)
           have hR163 := q2 hM89 (.ret false) (by simp only [flqlaw7_NodesStatements_L3, h40, h61, h83, h100, h102, h130, h139, h161, hg7, hg11, hg20, hg116, hg152, hg154, cs4])
           have hR164 := q2 hM71 (.ret false) (by simp only [flqlaw7_NodesStatements_L2, h40, h61, h83, h100, h102, h130, h139, h161, hg7, hg11, hg20, hg116, hg152, hg154, hR163, cs4])
           have hR165 := q2 hM46 (.ret false) (by simp only [flqlaw7_NodesStatements_L1, h40, h61, h83, h100, h102, h130, h139, h161, hg7, hg11, hg20, hg116, hg152, hg154, hR163, hR164, cs4])
           have hR166 := q2 hM29 (.ret false) (by simp only [flqlaw7_NodesStatements_L0, h40, h61, h83, h100, h102, h130, h139, h161, hg7, hg11, hg20, hg116, hg152, hg154, hR163, hR164, hR165, cs4])
           have hq := q4 hrr false (by unfold flqlaw7_NodesStatements; simp only [h40, h61, h83, h100, h102, h130, h139, h161, hg7, hg11, hg20, hg116, hg152, hg154, hR163, hR164, hR165, hR166, cs4]); subst hq
           exact Kr () rfl (.tmp rfl .nil) [] trivial
         intro h161
         have g167 := eq_of_bne_false h161
         refine KS ?_
         refine Oq Vm (Oq Vadd (Oq Va (KS ?_)))
         refine Oq Vm (Oq Vadd (Oq Va (KS ?_)))
         exact Kg (r86, (at__87 + 1), (n_88 + 1)) [4, 5, 6, 6, 7, 8] ⟨(q3 hM89 (by simp only [flqlaw7_NodesStatements_L3, h40, h61, h83, h100, h102, h130, h139, h161, hg7, hg11, hg20, hg116, hg152, hg154, cs4])), (by omega), (by omega), iv1, iv1⟩
       intro h100
       have g168 := ne_of_beq_false h100
       refine Oq Vm (Oq Veql (Oq Vm ?_))
       refine Js 59 ?_ ?_
       · intro h169
         have g170 := eq_of_beq h169
         refine Oq Vm (Oq Vm (Oq (Vi sl42 0) ?_))
         refine JJ_peek_GStmt i_70.toNat 0 rfl rng fun a171 k172 a173 k174 hb175 hb176 => ?_
         unfold i64ok at hb175
         refine Fb 16 1 fun hl177 => ?_
         refine FoS 1 fun ho178 => ?_
         refine Fb 16 2 fun hl179 => ?_
         refine FoS 2 fun ho180 => ?_
         refine Oq (Vfa fo47_0 0) (Oq (VldF sh3 0) (Oq Veql (Oq Vpt (Oq Vpf (KS ?_)))))
         refine Kc ?_ ?_
         · intro h181
           have g182 := eq_of_beq h181
           refine KS ?_
           refine Oq Vm (Oq Vm (Oq (Vlen sl29) (Oq Vgeq (KS ?_))))
           refine Kc ?_ ?_
           · intro h183
             have g184 := of_decide_eq_true h183
             refine KS ?_
             refine Oq Va (KS ?_)
             have hR185 := q2 hM89 (.ret false) (by simp only [flqlaw7_NodesStatements_L3, h40, h61, h83, h100, h169, h181, h183, hg7, hg11, hg20, cs4])
             have hR186 := q2 hM71 (.ret false) (by simp only [flqlaw7_NodesStatements_L2, h40, h61, h83, h100, h169, h181, h183, hg7, hg11, hg20, hR185, cs4])
             have hR187 := q2 hM46 (.ret false) (by simp only [flqlaw7_NodesStatements_L1, h40, h61, h83, h100, h169, h181, h183, hg7, hg11, hg20, hR185, hR186, cs4])
             have hR188 := q2 hM29 (.ret false) (by simp only [flqlaw7_NodesStatements_L0, h40, h61, h83, h100, h169, h181, h183, hg7, hg11, hg20, hR185, hR186, hR187, cs4])
             have hq := q4 hrr false (by unfold flqlaw7_NodesStatements; simp only [h40, h61, h83, h100, h169, h181, h183, hg7, hg11, hg20, hR185, hR186, hR187, hR188, cs4]); subst hq
             exact Kr () rfl (.tmp rfl .nil) [] trivial
           intro h183
           have g189 := of_decide_eq_false h183
           refine KS ?_
           refine JJ_peek_GNode at__87.toNat 4 rfl rng fun hb190 hb191 hb192 hb193 => ?_
           unfold i64ok at hb190 hb191 hb192 hb193
           refine JK_drawK [0, 0, 0, 6, 14, 31, 63, 127, 127, 0, 767, 2047] fmix ?_
           refine Dv [6] (VldA sh25 0) (Dv [] Vm (Dv [] Vm (Dv [5] (Vi sl29 0) (Dv [0] (VldA sh35 0) ?_))))
           refine letv (nodes_Stmt rv10.1 (rv19.getD at__87.toNat default)) fun rv196 hg197 => ?_
           refine Dx [7, 8, 9] [] [3, 4, 5, 0, 1, 2] (fun G => .tuple #[.agg #[vi rv196.1.Op, .string (bs rv196.1.Def), (G.g 5 0), (G.g 5 1)], vb rv196.2]) [fun G => SP.fact (i64ok rv196.1.Op ∧ rv196.1.Def.b.length ≤ 140737488355328), fun G => sl (G.g 5 0) rv196.1.Uses, fun G => sl (G.g 5 1) rv196.1.Targets] (fun G => xC [0, 1, 2] ca12 (fn12 rv10.1 a14 k15 ((rv19.getD at__87.toNat default)) kwLA kwLK pre pre pre pre (by first | exact Program_PSm' (by assumption) | exact SpP_PSm (Program_SpP (by assumption)) | kernel_rfl) rv196 hg197)) (Dg [] (fun G => .tuple #[.agg #[vi rv196.1.Op, .string (bs rv196.1.Def), (G.g 5 0), (G.g 5 1)], vb rv196.2]) (fun G => Vm) (Dg [] (fun G => .agg #[vi rv196.1.Op, .string (bs rv196.1.Def), (G.g 5 0), (G.g 5 1)]) (fun G => Vx) (Dv [] Vx (Dx [] [] [0] (fun G => (G.g 9 0)) [fun G => Cl (G.g 9 0) [vi 0, .string (bs (Str.mk [])), .slice none 0 0, .slice none 0 0]] (fun G => xA (Al ze47 [vi 0, .string (bs (Str.mk [])), .slice none 0 0, .slice none 0 0])) (Dx0 [11, 12, 13] [13] [1, 2, 0] [fun G => Cl (G.g 9 0) [vi rv196.1.Op, .string (bs rv196.1.Def), (G.g 5 0), (G.g 5 1)]] (fun G => x1 0 rfl sl_one fun ho199 => (x1 1 rfl sl_one fun ho200 => (xS (Scl [2] sh47 [vi rv196.1.Op, .string (bs rv196.1.Def), (G.g 5 0), (G.g 5 1)] (v := .agg #[vi rv196.1.Op, .string (bs rv196.1.Def), (G.g 5 0), (G.g 5 1)]) (h1 := show [vi rv196.1.Op, .string (bs rv196.1.Def), (G.g 5 0), (G.g 5 1)].all (·.oneCell') = true from (by simp only [List.all_cons, List.all_nil, ho199, ho200, Bool.and_true, Bool.true_and] <;> rfl)))))) (Dv [] Va ?_))))))
           refine Dn ⟨by kernel_rfl, fun G => ?_⟩
           refine Jw2 [(3, p17), (4, vl a23 k24 rv19), (6, vi f_28), (5, vi at__87), (7, vi b_45), (8, .slice a64 (((((rv10.1.Funcs.getD f_28.toNat default).Blocks).getD b_45.toNat default).Stmts).length) k65), (9, vi i_70), (10, vi n_88), (11, (G.g 9 0)), (12, vb rv196.2)] [0, 1, 2, 3, 4, 5, 6, 7, 8, 9] [SP.fact (i64ok rv196.1.Op ∧ rv196.1.Def.b.length ≤ 140737488355328), sl (G.g 5 0) rv196.1.Uses, sl (G.g 5 1) rv196.1.Targets, Cl (G.g 9 0) [vi rv196.1.Op, .string (bs rv196.1.Def), (G.g 5 0), (G.g 5 1)]] ?_
           generalize G.g 5 0 = c194, G.g 5 1 = c195, G.g 9 0 = p198
           refine Jf 10 rfl ?_; rintro ⟨he201, he202⟩
           unfold i64ok at he201
           refine Jk [0, 1, 2, 3, 4, 5, 6, 6, 7, 8, 10, 11, 12] ?_
           refine Jo 10 ?_; rintro a203 k204 rfl
           refine Fb 16 10 fun hl205 => ?_
           refine FoS 10 fun ho206 => ?_
           refine Jo 11 ?_; rintro a207 k208 rfl
           refine Fb 16 11 fun hl209 => ?_
           refine FoS 11 fun ho210 => ?_
           refine KS ?_
           refine JK_drawK [0, 1, 3, 7, 15, 7, 7, 103, 231, 511, 1023, 2047] fmix ?_
           refine Dv [] Vm (Dv [] Vnot ?_)
           refine bool_split (!rv196.2) ?_ ?_
           · intro h211
             have h213 := not_true h211
             refine Db h211 [] Vm (Ds (Ds (Ds (Ds (Ds (Ds (Ds (Ds (Dv [] Vpt ?_)))))))))
             refine Dn ⟨by kernel_rfl, fun G => ?_⟩
             refine Jw2 [(3, p17), (4, vl a23 k24 rv19), (6, vi f_28), (5, vi at__87), (7, vi b_45), (8, .slice a64 (((((rv10.1.Funcs.getD f_28.toNat default).Blocks).getD b_45.toNat default).Stmts).length) k65), (9, vi i_70), (10, vi n_88), (94, vb true)] [0, 1, 2, 3, 4, 5, 6, 7, 8, 9, 10, 11, 12] [] ?_
             refine Kt ?_
             refine KS ?_
             refine Oq Va (KS ?_)
             have hR215 := q2 hM89 (.ret false) (by simp only [flqlaw7_NodesStatements_L3, h40, h61, h83, h100, h169, h181, h183, h211, h213, hg7, hg11, hg20, hg197, cs4])
             have hR216 := q2 hM71 (.ret false) (by simp only [flqlaw7_NodesStatements_L2, h40, h61, h83, h100, h169, h181, h183, h211, h213, hg7, hg11, hg20, hg197, hR215, cs4])
             have hR217 := q2 hM46 (.ret false) (by simp only [flqlaw7_NodesStatements_L1, h40, h61, h83, h100, h169, h181, h183, h211, h213, hg7, hg11, hg20, hg197, hR215, hR216, cs4])
             have hR218 := q2 hM29 (.ret false) (by simp only [flqlaw7_NodesStatements_L0, h40, h61, h83, h100, h169, h181, h183, h211, h213, hg7, hg11, hg20, hg197, hR215, hR216, hR217, cs4])
             have hq := q4 hrr false (by unfold flqlaw7_NodesStatements; simp only [h40, h61, h83, h100, h169, h181, h183, h211, h213, hg7, hg11, hg20, hg197, hR215, hR216, hR217, hR218, cs4]); subst hq
             exact Kr () rfl (.tmp rfl .nil) [] trivial
           intro h211
           have h220 := not_false h211
           refine Db h211 [] Vm (Dv [12] (VldA sh47 0) ?_)
           refine letv (flqref4_Line rv196.1) fun rv222 hg223 => ?_
           refine Dx [10, 11] [] [1, 2, 0] (fun G => .string (bs rv222)) [fun G => SP.fact (rv222.b.length ≤ 140737488355328 ∧ (rv222.b.length ≤ 3000000000))] (fun G => xC [0, 1] ca13 (fn13 rv196.1 a203 k204 a207 k208 pre pre (by first | exact Stmt_sm (Program_Dr' (by assumption)) (by assumption) | exact stm_sm (Program_Dr (by assumption)) _ _ _) rv222 hg223)) (Dv [] Vm (Dv [] Vm (Dv [4] (Vi sl42 0) (Dv [1] (VldA sh47 0) ?_))))
           refine letv (flqref4_Line (((((rv10.1.Funcs.getD f_28.toNat default).Blocks).getD b_45.toNat default).Stmts).getD i_70.toNat default)) fun rv224 hg225 => ?_
           refine Dx [2, 3, 13] [] [1, 2, 3, 0] (fun G => .string (bs rv224)) [fun G => SP.fact (rv224.b.length ≤ 140737488355328 ∧ (rv224.b.length ≤ 3000000000))] (fun G => by refine xf 2 rfl ?_; rintro ⟨he226, he227⟩; exact xC [0, 1] ca13 (fn13 ((((((rv10.1.Funcs.getD f_28.toNat default).Blocks).getD b_45.toNat default).Stmts).getD i_70.toNat default)) a171 k172 a173 k174 pre pre (by first | exact Stmt_sm (Program_Dr' (by assumption)) (by assumption) | exact stm_sm (Program_Dr (by assumption)) _ _ _) rv224 hg225)) (Dv [] (VneS (l := rv222) (m := rv224)) (Dv [] Vpf ?_))
           refine Dn ⟨by kernel_rfl, fun G => ?_⟩
           refine Jw2 [(3, p17), (4, vl a23 k24 rv19), (6, vi f_28), (5, vi at__87), (7, vi b_45), (8, .slice a64 (((((rv10.1.Funcs.getD f_28.toNat default).Blocks).getD b_45.toNat default).Stmts).length) k65), (9, vi i_70), (10, vi n_88), (94, vb (rv222 != rv224))] [0, 1, 2, 3, 4, 5, 6, 7, 8, 9, 10, 11, 12] [SP.fact (rv222.b.length ≤ 140737488355328 ∧ (rv222.b.length ≤ 3000000000)), SP.fact (rv224.b.length ≤ 140737488355328 ∧ (rv224.b.length ≤ 3000000000))] ?_
           refine Jf 13 rfl ?_; rintro ⟨he228, he229⟩
           refine Jf 14 rfl ?_; rintro ⟨he230, he231⟩
           refine Jk [0, 1, 2, 3, 4, 5, 6, 6, 7, 8, 9, 10, 11] ?_
           refine Kc ?_ ?_
           · intro h232
             have g233 := ne_of_bne h232
             refine KS ?_
             refine Oq Va (KS ?_)
             have hR234 := q2 hM89 (.ret false) (by simp only [flqlaw7_NodesStatements_L3, h40, h61, h83, h100, h169, h181, h183, h211, h220, h232, hg7, hg11, hg20, hg197, hg223, hg225, cs4])
             have hR235 := q2 hM71 (.ret false) (by simp only [flqlaw7_NodesStatements_L2, h40, h61, h83, h100, h169, h181, h183, h211, h220, h232, hg7, hg11, hg20, hg197, hg223, hg225, hR234, cs4])
             have hR236 := q2 hM46 (.ret false) (by simp only [flqlaw7_NodesStatements_L1, h40, h61, h83, h100, h169, h181, h183, h211, h220, h232, hg7, hg11, hg20, hg197, hg223, hg225, hR234, hR235, cs4])
             have hR237 := q2 hM29 (.ret false) (by simp only [flqlaw7_NodesStatements_L0, h40, h61, h83, h100, h169, h181, h183, h211, h220, h232, hg7, hg11, hg20, hg197, hg223, hg225, hR234, hR235, hR236, cs4])
             have hq := q4 hrr false (by unfold flqlaw7_NodesStatements; simp only [h40, h61, h83, h100, h169, h181, h183, h211, h220, h232, hg7, hg11, hg20, hg197, hg223, hg225, hR234, hR235, hR236, hR237, cs4]); subst hq
             exact Kr () rfl (.tmp rfl .nil) [] trivial
           intro h232
           have g238 := eq_of_bne_false h232
           refine KS ?_
           refine Oq Vm (Oq Vadd (Oq Va (KS ?_)))
           refine Oq Vm (Oq Vadd (Oq Va (KS ?_)))
           exact Kg (r86, (at__87 + 1), (n_88 + 1)) [4, 5, 6, 6, 7, 8] ⟨(q3 hM89 (by simp only [flqlaw7_NodesStatements_L3, h40, h61, h83, h100, h169, h181, h183, h211, h220, h232, hg7, hg11, hg20, hg197, hg223, hg225, cs4])), (by omega), (by omega), iv1, iv1⟩
         intro h181
         have g239 := ne_of_beq_false h181
         refine Ke ?_
         have hR240 := q2 hM89 (.brk at__87) (by simp only [flqlaw7_NodesStatements_L3, h40, h61, h83, h100, h169, h181, hg7, hg11, hg20, cs4])
         refine KS ?_
         refine Oq Vm (Oq Vadd (Oq Va (KS ?_)))
         exact Kg (r85, at__87, (i_70 + 1)) [3, 4, 5, 5, 6, 7] ⟨(q3 hM71 (by simp only [flqlaw7_NodesStatements_L2, h40, h61, h83, h100, h169, h181, hg7, hg11, hg20, hR240, cs4])), (by omega), (by omega), (by omega), (by omega), (by omega), iv1⟩
       intro h169
       have g241 := ne_of_beq_false h169
       refine Osk (Osk (Osk (Osk (Osk (Osk (Oq Vpf (Oq Vpf (KS ?_))))))))
       refine Kf ?_
       refine Ke ?_
       have hR242 := q2 hM89 (.brk at__87) (by simp only [flqlaw7_NodesStatements_L3, h40, h61, h83, h100, h169, hg7, hg11, hg20, cs4])
       refine KS ?_
       refine Oq Vm (Oq Vadd (Oq Va (KS ?_)))
       exact Kg (r85, at__87, (i_70 + 1)) [0, 1, 2, 2, 3, 4] ⟨(q3 hM71 (by simp only [flqlaw7_NodesStatements_L2, h40, h61, h83, h100, h169, hg7, hg11, hg20, hR242, cs4])), (by omega), (by omega), (by omega), (by omega), (by omega), iv1⟩
     intro h83
     have g243 := of_decide_eq_false h83
     obtain rfl : r68 = 0 := by omega
     refine Ke ?_
     have hR244 := q2 hM71 (.brk at__69) (by simp only [flqlaw7_NodesStatements_L2, h40, h61, h83, hg7, hg11, hg20, cs4])
     refine KS ?_
     refine Oq Vm (Oq Vadd (Oq Va (KS ?_)))
     exact Kg (r63, at__69, (b_45 + 1)) [1, 2, 2, 3, 4] ⟨(q3 hM46 (by simp only [flqlaw7_NodesStatements_L1, h40, h61, h83, hg7, hg11, hg20, hR244, cs4])), (by omega), (by omega), (by omega), (by omega), (by omega), iv1⟩
   intro h61
   have g245 := of_decide_eq_false h61
   obtain rfl : r43 = 0 := by omega
   refine Ke ?_
   have hR246 := q2 hM46 (.brk at__44) (by simp only [flqlaw7_NodesStatements_L1, h40, h61, hg7, hg11, hg20, cs4])
   refine KS ?_
   refine Oq Vm (Oq Vadd (Oq Va (KS ?_)))
   refine Oq Vm (Oq Vadd (Oq Va (KS ?_)))
   exact Kg (r42, (at__44 + 1), (f_28 + 1)) [2, 3, 3, 4, 5] ⟨(q3 hM29 (by simp only [flqlaw7_NodesStatements_L0, h40, h61, hg7, hg11, hg20, hR246, cs4])), (by omega), (by omega), (by omega), (by omega), (by omega), iv1⟩
 intro h40
 have g247 := of_decide_eq_false h40
 obtain rfl : r26 = 0 := by omega
 refine Ke ?_
 have hR248 := q2 hM29 (.brk at__27) (by simp only [flqlaw7_NodesStatements_L0, h40, hg7, hg11, hg20, cs4])
 refine KS ?_
 refine Oq Vm (Oq Vm (Oq (Vlen sl29) (Oq Veql (Oq Vm ?_))))
 refine Js 103 ?_ ?_
 · intro h249
   have g250 := eq_of_beq h249
   have hc251 := fn11 kwLA kwLK flqlaw7_sane rfl
   refine Oc [3, 4] ca11 hc251 ?_
   rintro - -
   refine Oq Vpt (Oq Va (KS ?_))
   have hq := q4 hrr flqlaw7_sane (by unfold flqlaw7_NodesStatements; simp only [h40, h249, hg7, hg11, hg20, hR248, cs4]); subst hq
   exact Kr () rfl (.tmp rfl .nil) [] trivial
 intro h249
 have g252 := ne_of_beq_false h249
 refine Osk (Oq Vpf (Oq Va (KS ?_)))
 have hq := q4 hrr false (by unfold flqlaw7_NodesStatements; simp only [h40, h249, hg7, hg11, hg20, hR248, cs4]); subst hq
 exact Kr () rfl (.tmp rfl .nil) [] trivial
end Go.SL.G
