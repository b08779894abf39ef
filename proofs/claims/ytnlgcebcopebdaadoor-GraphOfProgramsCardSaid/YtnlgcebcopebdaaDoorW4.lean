/- Part 4 of the walks: mirrors, plain laws and walks used by the last text of this claim. -/
import Derived.Test.YtnlgcebcopebdaaDoorW3
import Derived.Test.YtnlgcebcopebdaaDoorProg
set_option linter.unusedVariables false
set_option linter.unusedSimpArgs false
namespace Go.SL.G
open Go Go.SL Go.Proofs
set_option maxHeartbeats 20000000
set_option maxRecDepth 100000
theorem QuI (pP : Value) (p : Qab) (pa0 : Option Addr) (pk0 : Nat) (QiC : Qac p.at_) (QiD : Qac p.Err) (hpa : (0 <= p.at_ /\ p.at_ <= (p.l.length : Int))) (hb : QdR p = true) (rr : Qax × Qab) (hrr : QcP p = rr) : FT Tryd.prog 96 #[pP] [Cl pP [vl pa0 pk0 p.l, vi p.at_, vi p.Err], S pa0 pk0 p.l] (fun g : Value × Value => Qac rr.1.Op /\ rr.1.Def.b.length <= 140737488355328 /\ Qac rr.2.at_ /\ Qac rr.2.Err /\ (0 <= rr.2.at_ /\ rr.2.at_ <= (p.l.length : Int))) (fun g => .agg #[vi rr.1.Op, .string (bs rr.1.Def), g.1, g.2]) (fun g => [sl g.1 rr.1.Uses, sl g.2 rr.1.Targets, Cl pP [vl pa0 pk0 p.l, vi rr.2.at_, vi rr.2.Err]]) := by
 refine FTi Tryd.func96 fun w0 M0 F0 => ?_
 unfold Qac at QiC QiD
 refine Fb 40 1 fun _ => ?_
 have hbl := QkS hb
 refine KS ?_
 refine Oa (Al Qqr [vi 0, .string (bs (Str.mk [])), .slice none 0 0, .slice none 0 0]) fun p2 => KS ?_
 refine Oa (Al Qqr [vi 0, .string (bs (Str.mk [])), .slice none 0 0, .slice none 0 0]) fun p3 => KS ?_
 refine Oq Va (KS ?_)
 refine Oq Vm ?_
 refine QaO (QbG p) fun rv4 hg5 => ?_
 have hc6 := Qrs pP p pa0 pk0 pre pre pre rv4 hg5
 refine Oc [2, 2] Qro hc6 ?_
 rintro - -
 refine Oq QeP (KS ?_)
 refine Kc ?_ ?_
 ·intro h7
  have h9 := not_true h7
  refine KS ?_
  refine Jp 0 fun hp11 => ?_
  refine QbZ p.at_.toNat 4 rfl rng fun hb12 hb13 hb14 hb15 => ?_
  unfold Qac at hb12 hb14 hb15
  refine Kq [0, 1, 3, 7, 0, 16, 48, 112, 255, 511, 1023, 2047] Qc8 ?_
  refine Qv [] Vm (Qv [1] (Vn 0) (Qv [1] (Vfa Qgy 0) (Qv [2] (QaQ Ql6 0) (Qv [] Vm (Qv [1] (Vn 0) (Qv [1] (Vfa QbR 0) (Qv [2] (QaQ sh3 0) (Qv [5] (Vi QeR 0) (Qv [0] (Vfa Qly 0) ?_)))))))))
  refine Qv [0] (QaQ sh9 0) (Qv [] Va ?_)
  refine Qn ⟨by kernel_rfl, ?_⟩
  refine KS ?_
  refine Oq Vm (Oq (Vn 2) (Oq (Vfa QbR 2) (Oq (QaQ sh3 2) (Oq Qbd (Oq (Vn 2) (Oq (Vfa QbR 2) (Ost (Qfk [2] sh3 [vl pa0 pk0 p.l, vi (p.at_ + 1), vi p.Err]) (KS ?_))))))))
  refine Oq Vm (KS ?_)
  refine Oq (Qhj (l := (p.l.getD p.at_.toNat default).Text) (m := (Str.mk [117, 115, 101]))) (Oq Va (KS ?_))
  refine Kc ?_ ?_
  ·intro h16
   have g17 := eq_of_beq h16
   refine KS ?_
   refine Oq Vm ?_
   refine QaO (Qbi (Qab.mk p.l (p.at_ + 1) p.Err)) fun rv18 hg19 => ?_
   have hc20 := QiN pP (Qab.mk p.l (p.at_ + 1) p.Err) pa0 pk0 pre pre pre rv18 hg19
   refine Oc [0, 4] QiP hc20 ?_
   rintro - ⟨he21, he22, he23, he24⟩
   unfold Qac at he22 he23
   have he24 : (0 <= rv18.2.at_ /\ rv18.2.at_ <= (p.l.length : Int)) := he24
   refine Oa (AsV Qcy Qe3 [.string (bs rv18.1)] [.string (bs rv18.1)]) fun c25 => ?_
   refine Jo 0 ?_; rintro a26 k27 rfl
   refine Oq (Vfa Qdw 4) (Ost (Qfk [4] sh3 [vi 2, .string (bs (Str.mk [])), .slice none 0 0, .slice none 0 0]) (Oq (Vfa Qdg 0) (Ost (Qfk [0] Qeq [vi 2, .string (bs (Str.mk [])), .slice a26 1 k27, .slice none 0 0]) (KS ?_))))
   refine Jp 0 fun hp28 => ?_
   refine Qav [0, 1, 0, 4, 15, 31, 63] Qc8 ?_
   refine Dv [0] (Vfa Qdg 0) (Dv [1] (QaQ Qeq 0) (Dv [] Vm ?_))
   refine QaO (QgP (Qab.mk p.l rv18.2.at_ rv18.2.Err) 1) fun rv30 hg31 => Dx [3, 7] [3] [3, 0, 1, 2] (fun G => (G.g 3 0)) [fun G => SP.fact (Qac rv30.2.at_ /\ Qac rv30.2.Err /\ (0 <= rv30.2.at_ /\ rv30.2.at_ <= ((Qab.mk p.l rv18.2.at_ rv18.2.Err).l.length : Int)) /\ (rv30.1.length <= 3)), fun G => sl (G.g 3 0) rv30.1, fun G => Cl pP [vl pa0 pk0 p.l, vi rv30.2.at_, vi rv30.2.Err]] (fun G => xC [0, 0] QqY (Qry pP (Qab.mk p.l rv18.2.at_ rv18.2.Err) pa0 pk0 1 pre pre pre pre pre rv30 hg31)) ?_
   have hn33 : ([rv18.1] ++ rv30.1 : List Str).length = 1 + rv30.1.length := la ([rv18.1] : List Str) rv30.1
   refine Dx [2, 8, 9] [2] [1, 2, 0] (fun G => (G.g 4 0)) [fun G => os (G.g 4 0) (([rv18.1] ++ rv30.1) : List Str)] (fun G => by refine xf 1 rfl ?_; rintro ⟨he34, he35, he36, he37⟩; unfold Qac at he34 he35; exact xp [0] rfl (Ent.cr1 (α := Str) (A := []) _ rv18.1 _ aB1 (fun _ => ⟨rfl, aS1⟩)) (xA (Ap [0, 1] Qcy Qcy Qe3))) (Dv [0] (Vfa Qdg 0) (Dx0 [1, 11] [1] [1, 0] [fun G => Cl p3 [vi 2, .string (bs (Str.mk [])), (G.g 4 0), .slice none 0 0]] (fun G => x1 1 rfl Qf2 fun ho38 => (xS (OpS.frame [0] rfl (OpS.storeClF [(G.g 4 0)] [vi 2, .string (bs (Str.mk [])), (G.g 4 0), .slice none 0 0] rfl rfl rfl Qeq (Qcs ho38) rfl (by simp only [List.all_cons, List.all_nil, ho38, Bool.and_true, Bool.true_and] <;> rfl) aB1 rfl)))) ?_))
   refine Dn ⟨by kernel_rfl, fun G => ?_⟩
   refine Jw2 [(0, pP), (2, p2), (3, p3)] [0, 4, 5, 6, 7] [SP.fact (Qac rv30.2.at_ /\ Qac rv30.2.Err /\ (0 <= rv30.2.at_ /\ rv30.2.at_ <= ((Qab.mk p.l rv18.2.at_ rv18.2.Err).l.length : Int)) /\ (rv30.1.length <= 3)), sl (G.g 3 0) rv30.1, Cl pP [vl pa0 pk0 p.l, vi rv30.2.at_, vi rv30.2.Err], os (G.g 4 0) (([rv18.1] ++ rv30.1) : List Str), Cl p3 [vi 2, .string (bs (Str.mk [])), (G.g 4 0), .slice none 0 0]] ?_
   generalize G.g 3 0 = c29, G.g 4 0 = c32
   refine Jf 5 rfl ?_; rintro ⟨he39, he40, he41, he42⟩
   unfold Qac at he39 he40
   refine Jk [1, 3, 3, 5, 6, 6, 6] ?_
   refine Jo 3 ?_; rintro a43 k44 rfl
   refine Fb 16 3 fun _ => ?_
   refine FoS 3 fun ho46 => ?_
   refine Jo 5 ?_; rintro a47 k48 rfl
   refine Fb 16 5 fun _ => ?_
   refine FoS 5 fun ho50 => ?_
   refine KS ?_
   refine Oq Vm ?_
   refine QaO (QbV (Qab.mk p.l rv30.2.at_ rv30.2.Err)) fun rv51 hg52 => ?_
   have hc53 := QjB pP (Qab.mk p.l rv30.2.at_ rv30.2.Err) pa0 pk0 pre pre pre rv51 hg52
   refine Oc [4, 2] QjC hc53 ?_
   rintro - ⟨he54, he55, he56⟩
   unfold Qac at he54 he55
   have he56 : (0 <= rv51.at_ /\ rv51.at_ <= (p.l.length : Int)) := he56
   refine KS ?_
   refine Oq (Qc9 QdF 6) (Ost (Scl [2] QdF [vi 2, .string (bs (Str.mk [])), vl a47 k48 ([rv18.1] ++ rv30.1), .slice none 0 0]) (KS ?_))
   refine Jl [5] (Ent.freeze _ _) ?_
   refine Jl [] (Ent.slNil (α := Str)) ?_
   have hq := q4 hrr ((Qax.mk 2 (Str.mk []) ([rv18.1] ++ rv30.1) []), (Qab.mk p.l rv51.at_ rv51.Err)) (by simp only [QcP, h7, h9, h16, hg5, hg19, hg31, hg52, cs4]); subst hq
   exact Kr (vl a47 k48 ([rv18.1] ++ rv30.1), .slice none 0 0) rfl (.cellN 2 rfl QdF rfl (QaC _ _) rfl .nil) [1, 0, 3] en
  intro h16
  have g57 := ne_of_beq_false h16
  refine KS ?_
  refine Oq (Qhj (l := (p.l.getD p.at_.toNat default).Text) (m := (Str.mk [99, 97, 108, 108]))) (Oq Va (KS ?_))
  refine Kc ?_ ?_
  ·intro h58
   have g59 := eq_of_beq h58
   refine KS ?_
   refine Oq Vm ?_
   refine QaO (Qbi (Qab.mk p.l (p.at_ + 1) p.Err)) fun rv60 hg61 => ?_
   have hc62 := QiN pP (Qab.mk p.l (p.at_ + 1) p.Err) pa0 pk0 pre pre pre rv60 hg61
   refine Oc [0, 4] QiP hc62 ?_
   rintro - ⟨he63, he64, he65, he66⟩
   unfold Qac at he64 he65
   have he66 : (0 <= rv60.2.at_ /\ rv60.2.at_ <= (p.l.length : Int)) := he66
   refine Oa (AsV Qcy Qe3 [.string (bs rv60.1)] [.string (bs rv60.1)]) fun c67 => ?_
   refine Jo 0 ?_; rintro a68 k69 rfl
   refine Oq (Vfa Qdw 4) (Ost (Qfk [4] sh3 [vi 3, .string (bs (Str.mk [])), .slice none 0 0, .slice none 0 0]) (Oq (Vfa Qdi 0) (Ost (Qfk [0] Qeq [vi 3, .string (bs (Str.mk [])), .slice none 0 0, .slice a68 1 k69]) (KS ?_))))
   refine Oq Vm ?_
   refine QaO (QbV (Qab.mk p.l rv60.2.at_ rv60.2.Err)) fun rv70 hg71 => ?_
   have hc72 := QjB pP (Qab.mk p.l rv60.2.at_ rv60.2.Err) pa0 pk0 pre pre pre rv70 hg71
   refine Oc [2, 5] QjC hc72 ?_
   rintro - ⟨he73, he74, he75⟩
   unfold Qac at he73 he74
   have he75 : (0 <= rv70.at_ /\ rv70.at_ <= (p.l.length : Int)) := he75
   refine KS ?_
   refine Oq (Qc9 QdF 1) (Ost (Scl [5] QdF [vi 3, .string (bs (Str.mk [])), .slice none 0 0, .slice a68 1 k69]) (KS ?_))
   refine Jl [3] (Ent.cr1 (α := Str) (A := []) _ rv60.1 _ aB1 (fun _ => ⟨rfl, aS1⟩)) ?_
   refine Jl [0] (Ent.freeze _ _) ?_
   refine Jl [] (Ent.slNil (α := Str)) ?_
   have hq := q4 hrr ((Qax.mk 3 (Str.mk []) [] [rv60.1]), (Qab.mk p.l rv70.at_ rv70.Err)) (by simp only [QcP, h7, h9, h16, h58, hg5, hg61, hg71, cs4]); subst hq
   exact Kr (.slice none 0 0, .slice a68 1 k69) rfl (.cellN 2 rfl QdF rfl (QaC _ _) rfl .nil) [0, 1, 3] en
  intro h58
  have g76 := ne_of_beq_false h58
  refine KS ?_
  refine Oq (Qhj (l := (p.l.getD p.at_.toNat default).Text) (m := (Str.mk [115, 111, 117, 114, 99, 101]))) (Oq Va (KS ?_))
  refine Kc ?_ ?_
  ·intro h77
   have g78 := eq_of_beq h77
   refine KS ?_
   refine Oq Vm ?_
   refine QaO (Qbi (Qab.mk p.l (p.at_ + 1) p.Err)) fun rv79 hg80 => ?_
   have hc81 := QiN pP (Qab.mk p.l (p.at_ + 1) p.Err) pa0 pk0 pre pre pre rv79 hg80
   refine Oc [0, 4] QiP hc81 ?_
   rintro - ⟨he82, he83, he84, he85⟩
   unfold Qac at he83 he84
   have he85 : (0 <= rv79.2.at_ /\ rv79.2.at_ <= (p.l.length : Int)) := he85
   refine Oq (Vfa Qdw 3) (Ost (Qfk [3] sh3 [vi 4, .string (bs (Str.mk [])), .slice none 0 0, .slice none 0 0]) (Oq (Vfa Qet 0) (Ost (Qfk [0] sh9 [vi 4, .string (bs rv79.1), .slice none 0 0, .slice none 0 0]) (KS ?_))))
   refine Oq Vm ?_
   refine QaO (QbV (Qab.mk p.l rv79.2.at_ rv79.2.Err)) fun rv86 hg87 => ?_
   have hc88 := QjB pP (Qab.mk p.l rv79.2.at_ rv79.2.Err) pa0 pk0 pre pre pre rv86 hg87
   refine Oc [1, 4] QjC hc88 ?_
   rintro - ⟨he89, he90, he91⟩
   unfold Qac at he89 he90
   have he91 : (0 <= rv86.at_ /\ rv86.at_ <= (p.l.length : Int)) := he91
   refine KS ?_
   refine Oq (Qc9 QdF 1) (Ost (Scl [4] QdF [vi 4, .string (bs rv79.1), .slice none 0 0, .slice none 0 0]) (KS ?_))
   refine Jl [] (Ent.slNil (α := Str)) ?_
   have hq := q4 hrr ((Qax.mk 4 rv79.1 [] []), (Qab.mk p.l rv86.at_ rv86.Err)) (by simp only [QcP, h7, h9, h16, h58, h77, hg5, hg80, hg87, cs4]); subst hq
   exact Kr (.slice none 0 0, .slice none 0 0) rfl (.cellN 1 rfl QdF rfl (QaC _ _) rfl .nil) [0, 0, 2] en
  intro h77
  have g92 := ne_of_beq_false h77
  refine KS ?_
  refine Oq (Qhj (l := (p.l.getD p.at_.toNat default).Text) (m := (Str.mk [115, 105, 110, 107]))) (Oq Va (KS ?_))
  refine Kc ?_ ?_
  ·intro h93
   have g94 := eq_of_beq h93
   refine KS ?_
   refine Oq Vm ?_
   refine QaO (Qbi (Qab.mk p.l (p.at_ + 1) p.Err)) fun rv95 hg96 => ?_
   have hc97 := QiN pP (Qab.mk p.l (p.at_ + 1) p.Err) pa0 pk0 pre pre pre rv95 hg96
   refine Oc [0, 4] QiP hc97 ?_
   rintro - ⟨he98, he99, he100, he101⟩
   unfold Qac at he99 he100
   have he101 : (0 <= rv95.2.at_ /\ rv95.2.at_ <= (p.l.length : Int)) := he101
   refine Oa (AsV Qcy Qe3 [.string (bs rv95.1)] [.string (bs rv95.1)]) fun c102 => ?_
   refine Jo 0 ?_; rintro a103 k104 rfl
   refine Oq (Vfa Qdw 4) (Ost (Qfk [4] sh3 [vi 5, .string (bs (Str.mk [])), .slice none 0 0, .slice none 0 0]) (Oq (Vfa Qdg 0) (Ost (Qfk [0] Qeq [vi 5, .string (bs (Str.mk [])), .slice a103 1 k104, .slice none 0 0]) (KS ?_))))
   refine Oq Vm ?_
   refine QaO (QbV (Qab.mk p.l rv95.2.at_ rv95.2.Err)) fun rv105 hg106 => ?_
   have hc107 := QjB pP (Qab.mk p.l rv95.2.at_ rv95.2.Err) pa0 pk0 pre pre pre rv105 hg106
   refine Oc [2, 5] QjC hc107 ?_
   rintro - ⟨he108, he109, he110⟩
   unfold Qac at he108 he109
   have he110 : (0 <= rv105.at_ /\ rv105.at_ <= (p.l.length : Int)) := he110
   refine KS ?_
   refine Oq (Qc9 QdF 1) (Ost (Scl [5] QdF [vi 5, .string (bs (Str.mk [])), .slice a103 1 k104, .slice none 0 0]) (KS ?_))
   refine Jl [3] (Ent.cr1 (α := Str) (A := []) _ rv95.1 _ aB1 (fun _ => ⟨rfl, aS1⟩)) ?_
   refine Jl [0] (Ent.freeze _ _) ?_
   refine Jl [] (Ent.slNil (α := Str)) ?_
   have hq := q4 hrr ((Qax.mk 5 (Str.mk []) [rv95.1] []), (Qab.mk p.l rv105.at_ rv105.Err)) (by simp only [QcP, h7, h9, h16, h58, h77, h93, hg5, hg96, hg106, cs4]); subst hq
   exact Kr (.slice a103 1 k104, .slice none 0 0) rfl (.cellN 2 rfl QdF rfl (QaC _ _) rfl .nil) [1, 0, 3] en
  intro h93
  have g111 := ne_of_beq_false h93
  refine KS ?_
  refine Oq (Qhj (l := (p.l.getD p.at_.toNat default).Text) (m := (Str.mk [115, 97, 110, 105, 116, 105, 122, 101]))) (Oq Va (KS ?_))
  refine Kc ?_ ?_
  ·intro h112
   have g113 := eq_of_beq h112
   refine KS ?_
   refine Oq Vm ?_
   refine QaO (Qbi (Qab.mk p.l (p.at_ + 1) p.Err)) fun rv114 hg115 => ?_
   have hc116 := QiN pP (Qab.mk p.l (p.at_ + 1) p.Err) pa0 pk0 pre pre pre rv114 hg115
   refine Oc [0, 4] QiP hc116 ?_
   rintro - ⟨he117, he118, he119, he120⟩
   unfold Qac at he118 he119
   have he120 : (0 <= rv114.2.at_ /\ rv114.2.at_ <= (p.l.length : Int)) := he120
   refine Oq (Vfa Qdw 3) (Ost (Qfk [3] sh3 [vi 6, .string (bs (Str.mk [])), .slice none 0 0, .slice none 0 0]) (Oq (Vfa Qet 0) (Ost (Qfk [0] sh9 [vi 6, .string (bs rv114.1), .slice none 0 0, .slice none 0 0]) (KS ?_))))
   refine Oq Vm ?_
   refine QaO (QbV (Qab.mk p.l rv114.2.at_ rv114.2.Err)) fun rv121 hg122 => ?_
   have hc123 := QjB pP (Qab.mk p.l rv114.2.at_ rv114.2.Err) pa0 pk0 pre pre pre rv121 hg122
   refine Oc [1, 4] QjC hc123 ?_
   rintro - ⟨he124, he125, he126⟩
   unfold Qac at he124 he125
   have he126 : (0 <= rv121.at_ /\ rv121.at_ <= (p.l.length : Int)) := he126
   refine KS ?_
   refine Oq (Qc9 QdF 1) (Ost (Scl [4] QdF [vi 6, .string (bs rv114.1), .slice none 0 0, .slice none 0 0]) (KS ?_))
   refine Jl [] (Ent.slNil (α := Str)) ?_
   have hq := q4 hrr ((Qax.mk 6 rv114.1 [] []), (Qab.mk p.l rv121.at_ rv121.Err)) (by simp only [QcP, h7, h9, h16, h58, h77, h93, h112, hg5, hg115, hg122, cs4]); subst hq
   exact Kr (.slice none 0 0, .slice none 0 0) rfl (.cellN 1 rfl QdF rfl (QaC _ _) rfl .nil) [0, 0, 2] en
  intro h112
  have g127 := ne_of_beq_false h112
  refine KS ?_
  refine Oq (Qhj (l := (p.l.getD p.at_.toNat default).Text) (m := (Str.mk [103, 111, 116, 111]))) (Oq Va (KS ?_))
  refine Kc ?_ ?_
  ·intro h128
   have g129 := eq_of_beq h128
   refine KS ?_
   refine Oq Vm ?_
   refine QaO (Qbi (Qab.mk p.l (p.at_ + 1) p.Err)) fun rv130 hg131 => ?_
   have hc132 := QiN pP (Qab.mk p.l (p.at_ + 1) p.Err) pa0 pk0 pre pre pre rv130 hg131
   refine Oc [0, 4] QiP hc132 ?_
   rintro - ⟨he133, he134, he135, he136⟩
   unfold Qac at he134 he135
   have he136 : (0 <= rv130.2.at_ /\ rv130.2.at_ <= (p.l.length : Int)) := he136
   refine Oa (AsV Qcy Qe3 [.string (bs rv130.1)] [.string (bs rv130.1)]) fun c137 => ?_
   refine Jo 0 ?_; rintro a138 k139 rfl
   refine Oq (Vfa Qdw 4) (Ost (Qfk [4] sh3 [vi 7, .string (bs (Str.mk [])), .slice none 0 0, .slice none 0 0]) (Oq (Vfa Qdi 0) (Ost (Qfk [0] Qeq [vi 7, .string (bs (Str.mk [])), .slice none 0 0, .slice a138 1 k139]) (KS ?_))))
   refine Oq Vm ?_
   refine QaO (QbV (Qab.mk p.l rv130.2.at_ rv130.2.Err)) fun rv140 hg141 => ?_
   have hc142 := QjB pP (Qab.mk p.l rv130.2.at_ rv130.2.Err) pa0 pk0 pre pre pre rv140 hg141
   refine Oc [2, 5] QjC hc142 ?_
   rintro - ⟨he143, he144, he145⟩
   unfold Qac at he143 he144
   have he145 : (0 <= rv140.at_ /\ rv140.at_ <= (p.l.length : Int)) := he145
   refine KS ?_
   refine Oq (Qc9 QdF 1) (Ost (Scl [5] QdF [vi 7, .string (bs (Str.mk [])), .slice none 0 0, .slice a138 1 k139]) (KS ?_))
   refine Jl [3] (Ent.cr1 (α := Str) (A := []) _ rv130.1 _ aB1 (fun _ => ⟨rfl, aS1⟩)) ?_
   refine Jl [0] (Ent.freeze _ _) ?_
   refine Jl [] (Ent.slNil (α := Str)) ?_
   have hq := q4 hrr ((Qax.mk 7 (Str.mk []) [] [rv130.1]), (Qab.mk p.l rv140.at_ rv140.Err)) (by simp only [QcP, h7, h9, h16, h58, h77, h93, h112, h128, hg5, hg131, hg141, cs4]); subst hq
   exact Kr (.slice none 0 0, .slice a138 1 k139) rfl (.cellN 2 rfl QdF rfl (QaC _ _) rfl .nil) [0, 1, 3] en
  intro h128
  have g146 := ne_of_beq_false h128
  refine KS ?_
  refine Oq (Qhj (l := (p.l.getD p.at_.toNat default).Text) (m := (Str.mk [98, 114, 97, 110, 99, 104]))) (Oq Va (KS ?_))
  refine Kc ?_ ?_
  ·intro h147
   have g148 := eq_of_beq h147
   refine KS ?_
   refine Oq Vm ?_
   refine QaO (Qbi (Qab.mk p.l (p.at_ + 1) p.Err)) fun rv149 hg150 => ?_
   have hc151 := QiN pP (Qab.mk p.l (p.at_ + 1) p.Err) pa0 pk0 pre pre pre rv149 hg150
   refine Oc [0, 4] QiP hc151 ?_
   rintro - ⟨he152, he153, he154, he155⟩
   unfold Qac at he153 he154
   have he155 : (0 <= rv149.2.at_ /\ rv149.2.at_ <= (p.l.length : Int)) := he155
   refine Oa (AsV Qcy Qe3 [.string (bs rv149.1)] [.string (bs rv149.1)]) fun c156 => ?_
   refine Jo 0 ?_; rintro a157 k158 rfl
   refine Oq (Vfa Qdw 4) (Ost (Qfk [4] sh3 [vi 8, .string (bs (Str.mk [])), .slice none 0 0, .slice none 0 0]) (Oq (Vfa Qdg 0) (Ost (Qfk [0] Qeq [vi 8, .string (bs (Str.mk [])), .slice a157 1 k158, .slice none 0 0]) (KS ?_))))
   refine Oq Vm ?_
   refine QaO (Qbi (Qab.mk p.l rv149.2.at_ rv149.2.Err)) fun rv159 hg160 => ?_
   have hc161 := QiN pP (Qab.mk p.l rv149.2.at_ rv149.2.Err) pa0 pk0 pre pre pre rv159 hg160
   refine Oc [2, 5] QiP hc161 ?_
   rintro - ⟨he162, he163, he164, he165⟩
   unfold Qac at he163 he164
   have he165 : (0 <= rv159.2.at_ /\ rv159.2.at_ <= (p.l.length : Int)) := he165
   refine Oa (AsV Qcy Qe3 [.string (bs rv159.1)] [.string (bs rv159.1)]) fun c166 => ?_
   refine Jo 0 ?_; rintro a167 k168 rfl
   refine Oq (Vfa Qdi 2) (Ost (Qfk [2] Qeq [vi 8, .string (bs (Str.mk [])), .slice a157 1 k158, .slice a167 1 k168]) (KS ?_))
   refine Jp 0 fun hp169 => ?_
   refine Qav [0, 1, 0, 4, 12, 31, 63, 127] Qc8 ?_
   refine Dv [0] (Vfa Qdi 0) (Dv [1] (QaQ Qeq 0) (Dv [] Vm ?_))
   refine QaO (Qbi (Qab.mk p.l rv159.2.at_ rv159.2.Err)) fun rv170 hg171 => ?_
   refine Dx [3, 8] [3] [2, 0, 1] (fun G => .string (bs rv170.1)) [fun G => SP.fact (rv170.1.b.length <= 140737488355328 /\ Qac rv170.2.at_ /\ Qac rv170.2.Err /\ (0 <= rv170.2.at_ /\ rv170.2.at_ <= ((Qab.mk p.l rv159.2.at_ rv159.2.Err).l.length : Int))), fun G => Cl pP [vl pa0 pk0 p.l, vi rv170.2.at_, vi rv170.2.Err]] (fun G => xC [0, 0] QiP (QiN pP (Qab.mk p.l rv159.2.at_ rv159.2.Err) pa0 pk0 pre pre pre rv170 hg171)) (Dx [] [] [0] (fun G => (G.g 4 0)) [fun G => Cr (G.g 4 0) 1 [.string (bs rv170.1)]] (fun G => xA (AsV Qcy Qe3 [.string (bs rv170.1)] [.string (bs rv170.1)])) ?_)
   have hn174 : ([rv159.1] ++ [rv170.1] : List Str).length = 1 + 1 := la ([rv159.1] : List Str) ([rv170.1] : List Str)
   refine Dx [2, 9, 11] [2, 11] [1, 0] (fun G => (G.g 5 0)) [fun G => os (G.g 5 0) (([rv159.1] ++ [rv170.1]) : List Str)] (fun G => by refine xf 1 rfl ?_; rintro ⟨he175, he176, he177, he178⟩; unfold Qac at he176 he177; exact xp [0] rfl (Ent.cr1 (α := Str) (A := []) _ rv159.1 _ aB1 (fun _ => ⟨rfl, aS1⟩)) (xp [2] rfl (Ent.cr1 (α := Str) (A := []) _ rv170.1 _ aB1 (fun _ => ⟨rfl, aS1⟩)) (xA (ApO [1, 0] Qcy Qcy Qe3)))) (Dv [0] (Vfa Qdi 0) (Dx0 [1, 12] [1] [1, 0] [fun G => Cl p3 [vi 8, .string (bs (Str.mk [])), .slice a157 1 k158, (G.g 5 0)]] (fun G => x1 1 rfl Qf2 fun ho179 => (xS (OpS.frame [0] rfl (OpS.storeClF [(G.g 5 0)] [vi 8, .string (bs (Str.mk [])), .slice a157 1 k158, (G.g 5 0)] rfl rfl rfl Qeq (Qcs ho179) rfl (by simp only [List.all_cons, List.all_nil, ho179, Bool.and_true, Bool.true_and] <;> rfl) aB1 rfl)))) ?_))
   refine Dn ⟨by kernel_rfl, fun G => ?_⟩
   refine Jw2 [(0, pP), (2, p2), (3, p3)] [0, 4, 5, 6, 7, 8] [SP.fact (rv170.1.b.length <= 140737488355328 /\ Qac rv170.2.at_ /\ Qac rv170.2.Err /\ (0 <= rv170.2.at_ /\ rv170.2.at_ <= ((Qab.mk p.l rv159.2.at_ rv159.2.Err).l.length : Int))), Cl pP [vl pa0 pk0 p.l, vi rv170.2.at_, vi rv170.2.Err], os (G.g 5 0) (([rv159.1] ++ [rv170.1]) : List Str), Cl p3 [vi 8, .string (bs (Str.mk [])), .slice a157 1 k158, (G.g 5 0)]] ?_
   generalize G.g 5 0 = c173
   refine Jf 6 rfl ?_; rintro ⟨he180, he181, he182, he183⟩
   unfold Qac at he181 he182
   refine Jk [1, 1, 3, 3, 5, 5, 5] ?_
   refine Jo 5 ?_; rintro a184 k185 rfl
   refine Fb 16 5 fun _ => ?_
   refine FoS 5 fun ho187 => ?_
   refine KS ?_
   refine Oq Vm ?_
   refine QaO (QbV (Qab.mk p.l rv170.2.at_ rv170.2.Err)) fun rv188 hg189 => ?_
   have hc190 := QjB pP (Qab.mk p.l rv170.2.at_ rv170.2.Err) pa0 pk0 pre pre pre rv188 hg189
   refine Oc [4, 3] QjC hc190 ?_
   rintro - ⟨he191, he192, he193⟩
   unfold Qac at he191 he192
   have he193 : (0 <= rv188.at_ /\ rv188.at_ <= (p.l.length : Int)) := he193
   refine KS ?_
   refine Oq (Qc9 QdF 6) (Ost (Scl [3] QdF [vi 8, .string (bs (Str.mk [])), .slice a157 1 k158, vl a184 k185 ([rv159.1] ++ [rv170.1])]) (KS ?_))
   refine Jl [2] (Ent.cr1 (α := Str) (A := []) _ rv149.1 _ aB1 (fun _ => ⟨rfl, aS1⟩)) ?_
   refine Jl [0] (Ent.freeze _ _) ?_
   refine Jl [5] (Ent.freeze _ _) ?_
   have hq := q4 hrr ((Qax.mk 8 (Str.mk []) [rv149.1] ([rv159.1] ++ [rv170.1])), (Qab.mk p.l rv188.at_ rv188.Err)) (by simp only [QcP, h7, h9, h16, h58, h77, h93, h112, h128, h147, hg5, hg150, hg160, hg171, hg189, cs4]); subst hq
   exact Kr (.slice a157 1 k158, vl a184 k185 ([rv159.1] ++ [rv170.1])) rfl (.cellN 2 rfl QdF rfl (QaC _ _) rfl .nil) [1, 0, 3] en
  intro h147
  have g194 := ne_of_beq_false h147
  refine KS ?_
  refine Oq (Qhj (l := (p.l.getD p.at_.toNat default).Text) (m := (Str.mk [114, 101, 116, 117, 114, 110]))) (Oq Va (KS ?_))
  refine Kc ?_ ?_
  ·intro h195
   have g196 := eq_of_beq h195
   refine KS ?_
   refine Oq (Vfa Qdw 3) (Ost (Qfk [3] sh3 [vi 9, .string (bs (Str.mk [])), .slice none 0 0, .slice none 0 0]) (KS ?_))
   refine Oq Vm ?_
   refine QaO (QbV (Qab.mk p.l (p.at_ + 1) p.Err)) fun rv197 hg198 => ?_
   have hc199 := QjB pP (Qab.mk p.l (p.at_ + 1) p.Err) pa0 pk0 pre pre pre rv197 hg198
   refine Oc [1, 4] QjC hc199 ?_
   rintro - ⟨he200, he201, he202⟩
   unfold Qac at he200 he201
   have he202 : (0 <= rv197.at_ /\ rv197.at_ <= (p.l.length : Int)) := he202
   refine KS ?_
   refine Oq (Qc9 QdF 1) (Ost (Scl [4] QdF [vi 9, .string (bs (Str.mk [])), .slice none 0 0, .slice none 0 0]) (KS ?_))
   refine Jl [] (Ent.slNil (α := Str)) ?_
   have hq := q4 hrr ((Qax.mk 9 (Str.mk []) [] []), (Qab.mk p.l rv197.at_ rv197.Err)) (by simp only [QcP, h7, h9, h16, h58, h77, h93, h112, h128, h147, h195, hg5, hg198, cs4]); subst hq
   exact Kr (.slice none 0 0, .slice none 0 0) rfl (.cellN 1 rfl QdF rfl (QaC _ _) rfl .nil) [0, 0, 2] en
  intro h195
  have g203 := ne_of_beq_false h195
  refine KS ?_
  refine Oq Vm ?_
  refine QaO (Qbi (Qab.mk p.l (p.at_ + 1) p.Err)) fun rv204 hg205 => ?_
  have hc206 := QiN pP (Qab.mk p.l (p.at_ + 1) p.Err) pa0 pk0 pre pre pre rv204 hg205
  refine Oc [0, 4] QiP hc206 ?_
  rintro - ⟨he207, he208, he209, he210⟩
  unfold Qac at he208 he209
  have he210 : (0 <= rv204.2.at_ /\ rv204.2.at_ <= (p.l.length : Int)) := he210
  refine Oq (Vfa Qdw 3) (Ost (Qfk [3] sh3 [vi 1, .string (bs (Str.mk [])), .slice none 0 0, .slice none 0 0]) (Oq (Vfa Qet 0) (Ost (Qfk [0] sh9 [vi 1, .string (bs rv204.1), .slice none 0 0, .slice none 0 0]) (KS ?_))))
  refine Oq Vm ?_
  refine QaO (Qcn (Qab.mk p.l rv204.2.at_ rv204.2.Err) 2) fun rv211 hg212 => ?_
  have hc213 := Qty pP (Qab.mk p.l rv204.2.at_ rv204.2.Err) pa0 pk0 2 pre pre pre pre rv211 hg212
  refine Oc [1, 4] Qtm hc213 ?_
  rintro - -
  refine Oq QeP (KS ?_)
  refine Kc ?_ ?_
  ·intro h214
   have h216 := not_true h214
   refine KS ?_
   refine Oq Vm ?_
   refine QaO (QbO (Qab.mk p.l rv204.2.at_ rv204.2.Err) 4) fun rv218 hg219 => ?_
   have hc220 := QjU pP (Qab.mk p.l rv204.2.at_ rv204.2.Err) pa0 pk0 4 pre pre pre pre rv218 hg219
   refine Oc [0, 4] QjL hc220 ?_
   rintro - ⟨he221, he222, he223⟩
   unfold Qac at he221 he222
   have he223 : (0 <= rv218.at_ /\ rv218.at_ <= (p.l.length : Int)) := he223
   refine KS ?_
   refine Oq (Qc9 QdF 1) (Ost (Scl [4] QdF [vi 1, .string (bs rv204.1), .slice none 0 0, .slice none 0 0]) (KS ?_))
   refine Jl [] (Ent.slNil (α := Str)) ?_
   have hq := q4 hrr ((Qax.mk 1 rv204.1 [] []), (Qab.mk p.l rv218.at_ rv218.Err)) (by simp only [QcP, h7, h9, h16, h58, h77, h93, h112, h128, h147, h195, h214, h216, hg5, hg205, hg212, hg219, cs4]); subst hq
   exact Kr (.slice none 0 0, .slice none 0 0) rfl (.cellN 1 rfl QdF rfl (QaC _ _) rfl .nil) [0, 0, 2] en
  intro h214
  have h225 := not_false h214
  try (have hlt := QjP (by assumption : QeE _ _ = rv211) h225; try dsimp only at hlt)
  try (have hlt := QfT (by assumption : QbG _ = rv211) h225; try dsimp only at hlt)
  try (have hlt := QfV (by assumption : Qcn _ _ = rv211) h225; try dsimp only at hlt)
  refine KS ?_
  refine Oq Vm (Oq (Vn 0) (Oq (Vfa QbR 0) (Oq (QaQ sh3 0) (Oq Qbd (Oq (Vn 0) (Oq (Vfa QbR 0) (Ost (Qfk [0] sh3 [vl pa0 pk0 p.l, vi (rv204.2.at_ + 1), vi rv204.2.Err]) (KS ?_))))))))
  refine Oq Vm ?_
  refine QaO (QfM (Qab.mk p.l (rv204.2.at_ + 1) rv204.2.Err)) fun rv228 hg229 => ?_
  have hc230 := QrP pP (Qab.mk p.l (rv204.2.at_ + 1) rv204.2.Err) pa0 pk0 pre pre pre rv228 hg229
  refine Oc [0, 4] Qrd hc230 ?_
  rintro c227 ⟨he231, he232, he233, he234⟩
  unfold Qac at he231 he232
  have he233 : (0 <= rv228.2.at_ /\ rv228.2.at_ <= (p.l.length : Int)) := he233
  refine Jo 0 ?_; rintro a235 k236 rfl
  refine Fb 16 0 fun _ => ?_
  refine FoS 0 fun ho238 => ?_
  refine Oq (Vfa Qdg 2) (Ost (Qfk [2] Qeq [vi 1, .string (bs rv204.1), vl a235 k236 rv228.1, .slice none 0 0]) (KS ?_))
  refine Oq Vm ?_
  refine QaO (QbV (Qab.mk p.l rv228.2.at_ rv228.2.Err)) fun rv239 hg240 => ?_
  have hc241 := QjB pP (Qab.mk p.l rv228.2.at_ rv228.2.Err) pa0 pk0 pre pre pre rv239 hg240
  refine Oc [2, 5] QjC hc241 ?_
  rintro - ⟨he242, he243, he244⟩
  unfold Qac at he242 he243
  have he244 : (0 <= rv239.at_ /\ rv239.at_ <= (p.l.length : Int)) := he244
  refine KS ?_
  refine Oq (Qc9 QdF 1) (Ost (Scl [5] QdF [vi 1, .string (bs rv204.1), vl a235 k236 rv228.1, .slice none 0 0]) (KS ?_))
  refine Jl [] (Ent.slNil (α := Str)) ?_
  have hq := q4 hrr ((Qax.mk 1 rv204.1 rv228.1 []), (Qab.mk p.l rv239.at_ rv239.Err)) (by simp only [QcP, h7, h9, h16, h58, h77, h93, h112, h128, h147, h195, h214, h225, hg5, hg205, hg212, hg229, hg240, cs4]); subst hq
  exact Kr (vl a235 k236 rv228.1, .slice none 0 0) rfl (.cellN 1 rfl QdF rfl (QaC _ _) rfl .nil) [4, 0, 2] en
 intro h7
 have h246 := not_false h7
 try (have hlt := QjP (by assumption : QeE _ _ = rv4) h246; try dsimp only at hlt)
 try (have hlt := QfT (by assumption : QbG _ = rv4) h246; try dsimp only at hlt)
 try (have hlt := QfV (by assumption : Qcn _ _ = rv4) h246; try dsimp only at hlt)
 refine KS ?_
 refine Oq Vm (KS ?_)
 refine Oq (Qhj (l := (Str.mk [])) (m := (Str.mk [117, 115, 101]))) (Oq Va (KS ?_))
 refine Kc ?_ ?_
 ·intro h248
  have g249 := eq_of_beq h248
  refine KS ?_
  refine Oq Vm ?_
  refine QaO (Qbi p) fun rv250 hg251 => ?_
  have hc252 := QiN pP p pa0 pk0 pre pre pre rv250 hg251
  refine Oc [0, 2] QiP hc252 ?_
  rintro - ⟨he253, he254, he255, he256⟩
  unfold Qac at he254 he255
  refine Oa (AsV Qcy Qe3 [.string (bs rv250.1)] [.string (bs rv250.1)]) fun c257 => ?_
  refine Jo 0 ?_; rintro a258 k259 rfl
  refine Oq (Vfa Qdw 2) (Ost (Qfk [2] sh3 [vi 2, .string (bs (Str.mk [])), .slice none 0 0, .slice none 0 0]) (Oq (Vfa Qdg 0) (Ost (Qfk [0] Qeq [vi 2, .string (bs (Str.mk [])), .slice a258 1 k259, .slice none 0 0]) (KS ?_))))
  refine Jp 0 fun hp260 => ?_
  refine Qav [0, 1, 0, 4, 15, 31, 63] Qc8 ?_
  refine Dv [0] (Vfa Qdg 0) (Dv [1] (QaQ Qeq 0) (Dv [] Vm ?_))
  refine QaO (QgP (Qab.mk p.l rv250.2.at_ rv250.2.Err) 1) fun rv262 hg263 => Dx [3, 5] [3] [3, 0, 1, 2] (fun G => (G.g 3 0)) [fun G => SP.fact (Qac rv262.2.at_ /\ Qac rv262.2.Err /\ (0 <= rv262.2.at_ /\ rv262.2.at_ <= ((Qab.mk p.l rv250.2.at_ rv250.2.Err).l.length : Int)) /\ (rv262.1.length <= 3)), fun G => sl (G.g 3 0) rv262.1, fun G => Cl pP [vl pa0 pk0 p.l, vi rv262.2.at_, vi rv262.2.Err]] (fun G => xC [0, 0] QqY (Qry pP (Qab.mk p.l rv250.2.at_ rv250.2.Err) pa0 pk0 1 pre pre pre pre pre rv262 hg263)) ?_
  have hn265 : ([rv250.1] ++ rv262.1 : List Str).length = 1 + rv262.1.length := la ([rv250.1] : List Str) rv262.1
  refine Dx [2, 6, 7] [2] [1, 2, 0] (fun G => (G.g 4 0)) [fun G => os (G.g 4 0) (([rv250.1] ++ rv262.1) : List Str)] (fun G => by refine xf 1 rfl ?_; rintro ⟨he266, he267, he268, he269⟩; unfold Qac at he266 he267; exact xp [0] rfl (Ent.cr1 (α := Str) (A := []) _ rv250.1 _ aB1 (fun _ => ⟨rfl, aS1⟩)) (xA (Ap [0, 1] Qcy Qcy Qe3))) (Dv [0] (Vfa Qdg 0) (Dx0 [1, 9] [1] [1, 0] [fun G => Cl p3 [vi 2, .string (bs (Str.mk [])), (G.g 4 0), .slice none 0 0]] (fun G => x1 1 rfl Qf2 fun ho270 => (xS (OpS.frame [0] rfl (OpS.storeClF [(G.g 4 0)] [vi 2, .string (bs (Str.mk [])), (G.g 4 0), .slice none 0 0] rfl rfl rfl Qeq (Qcs ho270) rfl (by simp only [List.all_cons, List.all_nil, ho270, Bool.and_true, Bool.true_and] <;> rfl) aB1 rfl)))) ?_))
  refine Dn ⟨by kernel_rfl, fun G => ?_⟩
  refine Jw2 [(0, pP), (2, p2), (3, p3)] [0, 4, 5] [SP.fact (Qac rv262.2.at_ /\ Qac rv262.2.Err /\ (0 <= rv262.2.at_ /\ rv262.2.at_ <= ((Qab.mk p.l rv250.2.at_ rv250.2.Err).l.length : Int)) /\ (rv262.1.length <= 3)), sl (G.g 3 0) rv262.1, Cl pP [vl pa0 pk0 p.l, vi rv262.2.at_, vi rv262.2.Err], os (G.g 4 0) (([rv250.1] ++ rv262.1) : List Str), Cl p3 [vi 2, .string (bs (Str.mk [])), (G.g 4 0), .slice none 0 0]] ?_
  generalize G.g 3 0 = c261, G.g 4 0 = c264
  refine Jf 3 rfl ?_; rintro ⟨he271, he272, he273, he274⟩
  unfold Qac at he271 he272
  refine Jk [1, 1, 3, 4, 4, 4] ?_
  refine Jo 2 ?_; rintro a275 k276 rfl
  refine Fb 16 2 fun _ => ?_
  refine FoS 2 fun ho278 => ?_
  refine Jo 4 ?_; rintro a279 k280 rfl
  refine Fb 16 4 fun _ => ?_
  refine FoS 4 fun ho282 => ?_
  refine KS ?_
  refine Oq Vm ?_
  refine QaO (QbV (Qab.mk p.l rv262.2.at_ rv262.2.Err)) fun rv283 hg284 => ?_
  have hc285 := QjB pP (Qab.mk p.l rv262.2.at_ rv262.2.Err) pa0 pk0 pre pre pre rv283 hg284
  refine Oc [3, 1] QjC hc285 ?_
  rintro - ⟨he286, he287, he288⟩
  unfold Qac at he286 he287
  have he288 : (0 <= rv283.at_ /\ rv283.at_ <= (p.l.length : Int)) := he288
  refine KS ?_
  refine Oq (Qc9 QdF 5) (Ost (Scl [1] QdF [vi 2, .string (bs (Str.mk [])), vl a279 k280 ([rv250.1] ++ rv262.1), .slice none 0 0]) (KS ?_))
  refine Jl [4] (Ent.freeze _ _) ?_
  refine Jl [] (Ent.slNil (α := Str)) ?_
  have hq := q4 hrr ((Qax.mk 2 (Str.mk []) ([rv250.1] ++ rv262.1) []), (Qab.mk p.l rv283.at_ rv283.Err)) (by simp only [QcP, h7, h246, h248, hg5, hg251, hg263, hg284, cs4]); subst hq
  exact Kr (vl a279 k280 ([rv250.1] ++ rv262.1), .slice none 0 0) rfl (.cellN 2 rfl QdF rfl (QaC _ _) rfl .nil) [1, 0, 3] en
 intro h248
 have g289 := ne_of_beq_false h248
 refine KS ?_
 refine Oq (Qhj (l := (Str.mk [])) (m := (Str.mk [99, 97, 108, 108]))) (Oq Va (KS ?_))
 refine Kc ?_ ?_
 ·intro h290
  have g291 := eq_of_beq h290
  refine KS ?_
  refine Oq Vm ?_
  refine QaO (Qbi p) fun rv292 hg293 => ?_
  have hc294 := QiN pP p pa0 pk0 pre pre pre rv292 hg293
  refine Oc [0, 2] QiP hc294 ?_
  rintro - ⟨he295, he296, he297, he298⟩
  unfold Qac at he296 he297
  refine Oa (AsV Qcy Qe3 [.string (bs rv292.1)] [.string (bs rv292.1)]) fun c299 => ?_
  refine Jo 0 ?_; rintro a300 k301 rfl
  refine Oq (Vfa Qdw 2) (Ost (Qfk [2] sh3 [vi 3, .string (bs (Str.mk [])), .slice none 0 0, .slice none 0 0]) (Oq (Vfa Qdi 0) (Ost (Qfk [0] Qeq [vi 3, .string (bs (Str.mk [])), .slice none 0 0, .slice a300 1 k301]) (KS ?_))))
  refine Oq Vm ?_
  refine QaO (QbV (Qab.mk p.l rv292.2.at_ rv292.2.Err)) fun rv302 hg303 => ?_
  have hc304 := QjB pP (Qab.mk p.l rv292.2.at_ rv292.2.Err) pa0 pk0 pre pre pre rv302 hg303
  refine Oc [2, 3] QjC hc304 ?_
  rintro - ⟨he305, he306, he307⟩
  unfold Qac at he305 he306
  have he307 : (0 <= rv302.at_ /\ rv302.at_ <= (p.l.length : Int)) := he307
  refine KS ?_
  refine Oq (Qc9 QdF 1) (Ost (Scl [3] QdF [vi 3, .string (bs (Str.mk [])), .slice none 0 0, .slice a300 1 k301]) (KS ?_))
  refine Jl [3] (Ent.cr1 (α := Str) (A := []) _ rv292.1 _ aB1 (fun _ => ⟨rfl, aS1⟩)) ?_
  refine Jl [0] (Ent.freeze _ _) ?_
  refine Jl [] (Ent.slNil (α := Str)) ?_
  have hq := q4 hrr ((Qax.mk 3 (Str.mk []) [] [rv292.1]), (Qab.mk p.l rv302.at_ rv302.Err)) (by simp only [QcP, h7, h246, h248, h290, hg5, hg293, hg303, cs4]); subst hq
  exact Kr (.slice none 0 0, .slice a300 1 k301) rfl (.cellN 2 rfl QdF rfl (QaC _ _) rfl .nil) [0, 1, 3] en
 intro h290
 have g308 := ne_of_beq_false h290
 refine KS ?_
 refine Oq (Qhj (l := (Str.mk [])) (m := (Str.mk [115, 111, 117, 114, 99, 101]))) (Oq Va (KS ?_))
 refine Kc ?_ ?_
 ·intro h309
  have g310 := eq_of_beq h309
  refine KS ?_
  refine Oq Vm ?_
  refine QaO (Qbi p) fun rv311 hg312 => ?_
  have hc313 := QiN pP p pa0 pk0 pre pre pre rv311 hg312
  refine Oc [0, 2] QiP hc313 ?_
  rintro - ⟨he314, he315, he316, he317⟩
  unfold Qac at he315 he316
  refine Oq (Vfa Qdw 1) (Ost (Qfk [1] sh3 [vi 4, .string (bs (Str.mk [])), .slice none 0 0, .slice none 0 0]) (Oq (Vfa Qet 0) (Ost (Qfk [0] sh9 [vi 4, .string (bs rv311.1), .slice none 0 0, .slice none 0 0]) (KS ?_))))
  refine Oq Vm ?_
  refine QaO (QbV (Qab.mk p.l rv311.2.at_ rv311.2.Err)) fun rv318 hg319 => ?_
  have hc320 := QjB pP (Qab.mk p.l rv311.2.at_ rv311.2.Err) pa0 pk0 pre pre pre rv318 hg319
  refine Oc [1, 2] QjC hc320 ?_
  rintro - ⟨he321, he322, he323⟩
  unfold Qac at he321 he322
  have he323 : (0 <= rv318.at_ /\ rv318.at_ <= (p.l.length : Int)) := he323
  refine KS ?_
  refine Oq (Qc9 QdF 1) (Ost (Scl [2] QdF [vi 4, .string (bs rv311.1), .slice none 0 0, .slice none 0 0]) (KS ?_))
  refine Jl [] (Ent.slNil (α := Str)) ?_
  have hq := q4 hrr ((Qax.mk 4 rv311.1 [] []), (Qab.mk p.l rv318.at_ rv318.Err)) (by simp only [QcP, h7, h246, h248, h290, h309, hg5, hg312, hg319, cs4]); subst hq
  exact Kr (.slice none 0 0, .slice none 0 0) rfl (.cellN 1 rfl QdF rfl (QaC _ _) rfl .nil) [0, 0, 2] en
 intro h309
 have g324 := ne_of_beq_false h309
 refine KS ?_
 refine Oq (Qhj (l := (Str.mk [])) (m := (Str.mk [115, 105, 110, 107]))) (Oq Va (KS ?_))
 refine Kc ?_ ?_
 ·intro h325
  have g326 := eq_of_beq h325
  refine KS ?_
  refine Oq Vm ?_
  refine QaO (Qbi p) fun rv327 hg328 => ?_
  have hc329 := QiN pP p pa0 pk0 pre pre pre rv327 hg328
  refine Oc [0, 2] QiP hc329 ?_
  rintro - ⟨he330, he331, he332, he333⟩
  unfold Qac at he331 he332
  refine Oa (AsV Qcy Qe3 [.string (bs rv327.1)] [.string (bs rv327.1)]) fun c334 => ?_
  refine Jo 0 ?_; rintro a335 k336 rfl
  refine Oq (Vfa Qdw 2) (Ost (Qfk [2] sh3 [vi 5, .string (bs (Str.mk [])), .slice none 0 0, .slice none 0 0]) (Oq (Vfa Qdg 0) (Ost (Qfk [0] Qeq [vi 5, .string (bs (Str.mk [])), .slice a335 1 k336, .slice none 0 0]) (KS ?_))))
  refine Oq Vm ?_
  refine QaO (QbV (Qab.mk p.l rv327.2.at_ rv327.2.Err)) fun rv337 hg338 => ?_
  have hc339 := QjB pP (Qab.mk p.l rv327.2.at_ rv327.2.Err) pa0 pk0 pre pre pre rv337 hg338
  refine Oc [2, 3] QjC hc339 ?_
  rintro - ⟨he340, he341, he342⟩
  unfold Qac at he340 he341
  have he342 : (0 <= rv337.at_ /\ rv337.at_ <= (p.l.length : Int)) := he342
  refine KS ?_
  refine Oq (Qc9 QdF 1) (Ost (Scl [3] QdF [vi 5, .string (bs (Str.mk [])), .slice a335 1 k336, .slice none 0 0]) (KS ?_))
  refine Jl [3] (Ent.cr1 (α := Str) (A := []) _ rv327.1 _ aB1 (fun _ => ⟨rfl, aS1⟩)) ?_
  refine Jl [0] (Ent.freeze _ _) ?_
  refine Jl [] (Ent.slNil (α := Str)) ?_
  have hq := q4 hrr ((Qax.mk 5 (Str.mk []) [rv327.1] []), (Qab.mk p.l rv337.at_ rv337.Err)) (by simp only [QcP, h7, h246, h248, h290, h309, h325, hg5, hg328, hg338, cs4]); subst hq
  exact Kr (.slice a335 1 k336, .slice none 0 0) rfl (.cellN 2 rfl QdF rfl (QaC _ _) rfl .nil) [1, 0, 3] en
 intro h325
 have g343 := ne_of_beq_false h325
 refine KS ?_
 refine Oq (Qhj (l := (Str.mk [])) (m := (Str.mk [115, 97, 110, 105, 116, 105, 122, 101]))) (Oq Va (KS ?_))
 refine Kc ?_ ?_
 ·intro h344
  have g345 := eq_of_beq h344
  refine KS ?_
  refine Oq Vm ?_
  refine QaO (Qbi p) fun rv346 hg347 => ?_
  have hc348 := QiN pP p pa0 pk0 pre pre pre rv346 hg347
  refine Oc [0, 2] QiP hc348 ?_
  rintro - ⟨he349, he350, he351, he352⟩
  unfold Qac at he350 he351
  refine Oq (Vfa Qdw 1) (Ost (Qfk [1] sh3 [vi 6, .string (bs (Str.mk [])), .slice none 0 0, .slice none 0 0]) (Oq (Vfa Qet 0) (Ost (Qfk [0] sh9 [vi 6, .string (bs rv346.1), .slice none 0 0, .slice none 0 0]) (KS ?_))))
  refine Oq Vm ?_
  refine QaO (QbV (Qab.mk p.l rv346.2.at_ rv346.2.Err)) fun rv353 hg354 => ?_
  have hc355 := QjB pP (Qab.mk p.l rv346.2.at_ rv346.2.Err) pa0 pk0 pre pre pre rv353 hg354
  refine Oc [1, 2] QjC hc355 ?_
  rintro - ⟨he356, he357, he358⟩
  unfold Qac at he356 he357
  have he358 : (0 <= rv353.at_ /\ rv353.at_ <= (p.l.length : Int)) := he358
  refine KS ?_
  refine Oq (Qc9 QdF 1) (Ost (Scl [2] QdF [vi 6, .string (bs rv346.1), .slice none 0 0, .slice none 0 0]) (KS ?_))
  refine Jl [] (Ent.slNil (α := Str)) ?_
  have hq := q4 hrr ((Qax.mk 6 rv346.1 [] []), (Qab.mk p.l rv353.at_ rv353.Err)) (by simp only [QcP, h7, h246, h248, h290, h309, h325, h344, hg5, hg347, hg354, cs4]); subst hq
  exact Kr (.slice none 0 0, .slice none 0 0) rfl (.cellN 1 rfl QdF rfl (QaC _ _) rfl .nil) [0, 0, 2] en
 intro h344
 have g359 := ne_of_beq_false h344
 refine KS ?_
 refine Oq (Qhj (l := (Str.mk [])) (m := (Str.mk [103, 111, 116, 111]))) (Oq Va (KS ?_))
 refine Kc ?_ ?_
 ·intro h360
  have g361 := eq_of_beq h360
  refine KS ?_
  refine Oq Vm ?_
  refine QaO (Qbi p) fun rv362 hg363 => ?_
  have hc364 := QiN pP p pa0 pk0 pre pre pre rv362 hg363
  refine Oc [0, 2] QiP hc364 ?_
  rintro - ⟨he365, he366, he367, he368⟩
  unfold Qac at he366 he367
  refine Oa (AsV Qcy Qe3 [.string (bs rv362.1)] [.string (bs rv362.1)]) fun c369 => ?_
  refine Jo 0 ?_; rintro a370 k371 rfl
  refine Oq (Vfa Qdw 2) (Ost (Qfk [2] sh3 [vi 7, .string (bs (Str.mk [])), .slice none 0 0, .slice none 0 0]) (Oq (Vfa Qdi 0) (Ost (Qfk [0] Qeq [vi 7, .string (bs (Str.mk [])), .slice none 0 0, .slice a370 1 k371]) (KS ?_))))
  refine Oq Vm ?_
  refine QaO (QbV (Qab.mk p.l rv362.2.at_ rv362.2.Err)) fun rv372 hg373 => ?_
  have hc374 := QjB pP (Qab.mk p.l rv362.2.at_ rv362.2.Err) pa0 pk0 pre pre pre rv372 hg373
  refine Oc [2, 3] QjC hc374 ?_
  rintro - ⟨he375, he376, he377⟩
  unfold Qac at he375 he376
  have he377 : (0 <= rv372.at_ /\ rv372.at_ <= (p.l.length : Int)) := he377
  refine KS ?_
  refine Oq (Qc9 QdF 1) (Ost (Scl [3] QdF [vi 7, .string (bs (Str.mk [])), .slice none 0 0, .slice a370 1 k371]) (KS ?_))
  refine Jl [3] (Ent.cr1 (α := Str) (A := []) _ rv362.1 _ aB1 (fun _ => ⟨rfl, aS1⟩)) ?_
  refine Jl [0] (Ent.freeze _ _) ?_
  refine Jl [] (Ent.slNil (α := Str)) ?_
  have hq := q4 hrr ((Qax.mk 7 (Str.mk []) [] [rv362.1]), (Qab.mk p.l rv372.at_ rv372.Err)) (by simp only [QcP, h7, h246, h248, h290, h309, h325, h344, h360, hg5, hg363, hg373, cs4]); subst hq
  exact Kr (.slice none 0 0, .slice a370 1 k371) rfl (.cellN 2 rfl QdF rfl (QaC _ _) rfl .nil) [0, 1, 3] en
 intro h360
 have g378 := ne_of_beq_false h360
 refine KS ?_
 refine Oq (Qhj (l := (Str.mk [])) (m := (Str.mk [98, 114, 97, 110, 99, 104]))) (Oq Va (KS ?_))
 refine Kc ?_ ?_
 ·intro h379
  have g380 := eq_of_beq h379
  refine KS ?_
  refine Oq Vm ?_
  refine QaO (Qbi p) fun rv381 hg382 => ?_
  have hc383 := QiN pP p pa0 pk0 pre pre pre rv381 hg382
  refine Oc [0, 2] QiP hc383 ?_
  rintro - ⟨he384, he385, he386, he387⟩
  unfold Qac at he385 he386
  refine Oa (AsV Qcy Qe3 [.string (bs rv381.1)] [.string (bs rv381.1)]) fun c388 => ?_
  refine Jo 0 ?_; rintro a389 k390 rfl
  refine Oq (Vfa Qdw 2) (Ost (Qfk [2] sh3 [vi 8, .string (bs (Str.mk [])), .slice none 0 0, .slice none 0 0]) (Oq (Vfa Qdg 0) (Ost (Qfk [0] Qeq [vi 8, .string (bs (Str.mk [])), .slice a389 1 k390, .slice none 0 0]) (KS ?_))))
  refine Oq Vm ?_
  refine QaO (Qbi (Qab.mk p.l rv381.2.at_ rv381.2.Err)) fun rv391 hg392 => ?_
  have hc393 := QiN pP (Qab.mk p.l rv381.2.at_ rv381.2.Err) pa0 pk0 pre pre pre rv391 hg392
  refine Oc [2, 3] QiP hc393 ?_
  rintro - ⟨he394, he395, he396, he397⟩
  unfold Qac at he395 he396
  have he397 : (0 <= rv391.2.at_ /\ rv391.2.at_ <= (p.l.length : Int)) := he397
  refine Oa (AsV Qcy Qe3 [.string (bs rv391.1)] [.string (bs rv391.1)]) fun c398 => ?_
  refine Jo 0 ?_; rintro a399 k400 rfl
  refine Oq (Vfa Qdi 2) (Ost (Qfk [2] Qeq [vi 8, .string (bs (Str.mk [])), .slice a389 1 k390, .slice a399 1 k400]) (KS ?_))
  refine Jp 0 fun hp401 => ?_
  refine Qav [0, 1, 0, 4, 12, 31, 63, 127] Qc8 ?_
  refine Dv [0] (Vfa Qdi 0) (Dv [1] (QaQ Qeq 0) (Dv [] Vm ?_))
  refine QaO (Qbi (Qab.mk p.l rv391.2.at_ rv391.2.Err)) fun rv402 hg403 => ?_
  refine Dx [3, 6] [3] [2, 0, 1] (fun G => .string (bs rv402.1)) [fun G => SP.fact (rv402.1.b.length <= 140737488355328 /\ Qac rv402.2.at_ /\ Qac rv402.2.Err /\ (0 <= rv402.2.at_ /\ rv402.2.at_ <= ((Qab.mk p.l rv391.2.at_ rv391.2.Err).l.length : Int))), fun G => Cl pP [vl pa0 pk0 p.l, vi rv402.2.at_, vi rv402.2.Err]] (fun G => xC [0, 0] QiP (QiN pP (Qab.mk p.l rv391.2.at_ rv391.2.Err) pa0 pk0 pre pre pre rv402 hg403)) (Dx [] [] [0] (fun G => (G.g 4 0)) [fun G => Cr (G.g 4 0) 1 [.string (bs rv402.1)]] (fun G => xA (AsV Qcy Qe3 [.string (bs rv402.1)] [.string (bs rv402.1)])) ?_)
  have hn406 : ([rv391.1] ++ [rv402.1] : List Str).length = 1 + 1 := la ([rv391.1] : List Str) ([rv402.1] : List Str)
  refine Dx [2, 7, 9] [2, 9] [1, 0] (fun G => (G.g 5 0)) [fun G => os (G.g 5 0) (([rv391.1] ++ [rv402.1]) : List Str)] (fun G => by refine xf 1 rfl ?_; rintro ⟨he407, he408, he409, he410⟩; unfold Qac at he408 he409; exact xp [0] rfl (Ent.cr1 (α := Str) (A := []) _ rv391.1 _ aB1 (fun _ => ⟨rfl, aS1⟩)) (xp [2] rfl (Ent.cr1 (α := Str) (A := []) _ rv402.1 _ aB1 (fun _ => ⟨rfl, aS1⟩)) (xA (ApO [1, 0] Qcy Qcy Qe3)))) (Dv [0] (Vfa Qdi 0) (Dx0 [1, 10] [1] [1, 0] [fun G => Cl p3 [vi 8, .string (bs (Str.mk [])), .slice a389 1 k390, (G.g 5 0)]] (fun G => x1 1 rfl Qf2 fun ho411 => (xS (OpS.frame [0] rfl (OpS.storeClF [(G.g 5 0)] [vi 8, .string (bs (Str.mk [])), .slice a389 1 k390, (G.g 5 0)] rfl rfl rfl Qeq (Qcs ho411) rfl (by simp only [List.all_cons, List.all_nil, ho411, Bool.and_true, Bool.true_and] <;> rfl) aB1 rfl)))) ?_))
  refine Dn ⟨by kernel_rfl, fun G => ?_⟩
  refine Jw2 [(0, pP), (2, p2), (3, p3)] [0, 4, 5, 6] [SP.fact (rv402.1.b.length <= 140737488355328 /\ Qac rv402.2.at_ /\ Qac rv402.2.Err /\ (0 <= rv402.2.at_ /\ rv402.2.at_ <= ((Qab.mk p.l rv391.2.at_ rv391.2.Err).l.length : Int))), Cl pP [vl pa0 pk0 p.l, vi rv402.2.at_, vi rv402.2.Err], os (G.g 5 0) (([rv391.1] ++ [rv402.1]) : List Str), Cl p3 [vi 8, .string (bs (Str.mk [])), .slice a389 1 k390, (G.g 5 0)]] ?_
  generalize G.g 5 0 = c405
  refine Jf 4 rfl ?_; rintro ⟨he412, he413, he414, he415⟩
  unfold Qac at he413 he414
  refine Jk [1, 1, 1, 3, 3, 3] ?_
  refine Jo 4 ?_; rintro a416 k417 rfl
  refine Fb 16 4 fun _ => ?_
  refine FoS 4 fun ho419 => ?_
  refine KS ?_
  refine Oq Vm ?_
  refine QaO (QbV (Qab.mk p.l rv402.2.at_ rv402.2.Err)) fun rv420 hg421 => ?_
  have hc422 := QjB pP (Qab.mk p.l rv402.2.at_ rv402.2.Err) pa0 pk0 pre pre pre rv420 hg421
  refine Oc [3, 2] QjC hc422 ?_
  rintro - ⟨he423, he424, he425⟩
  unfold Qac at he423 he424
  have he425 : (0 <= rv420.at_ /\ rv420.at_ <= (p.l.length : Int)) := he425
  refine KS ?_
  refine Oq (Qc9 QdF 5) (Ost (Scl [2] QdF [vi 8, .string (bs (Str.mk [])), .slice a389 1 k390, vl a416 k417 ([rv391.1] ++ [rv402.1])]) (KS ?_))
  refine Jl [2] (Ent.cr1 (α := Str) (A := []) _ rv381.1 _ aB1 (fun _ => ⟨rfl, aS1⟩)) ?_
  refine Jl [0] (Ent.freeze _ _) ?_
  refine Jl [4] (Ent.freeze _ _) ?_
  have hq := q4 hrr ((Qax.mk 8 (Str.mk []) [rv381.1] ([rv391.1] ++ [rv402.1])), (Qab.mk p.l rv420.at_ rv420.Err)) (by simp only [QcP, h7, h246, h248, h290, h309, h325, h344, h360, h379, hg5, hg382, hg392, hg403, hg421, cs4]); subst hq
  exact Kr (.slice a389 1 k390, vl a416 k417 ([rv391.1] ++ [rv402.1])) rfl (.cellN 2 rfl QdF rfl (QaC _ _) rfl .nil) [1, 0, 3] en
 intro h379
 have g426 := ne_of_beq_false h379
 refine KS ?_
 refine Oq (Qhj (l := (Str.mk [])) (m := (Str.mk [114, 101, 116, 117, 114, 110]))) (Oq Va (KS ?_))
 refine Kc ?_ ?_
 ·intro h427
  have g428 := eq_of_beq h427
  refine KS ?_
  refine Oq (Vfa Qdw 1) (Ost (Qfk [1] sh3 [vi 9, .string (bs (Str.mk [])), .slice none 0 0, .slice none 0 0]) (KS ?_))
  refine Oq Vm ?_
  refine QaO (QbV p) fun rv429 hg430 => ?_
  have hc431 := QjB pP p pa0 pk0 pre pre pre rv429 hg430
  refine Oc [1, 2] QjC hc431 ?_
  rintro - ⟨he432, he433, he434⟩
  unfold Qac at he432 he433
  refine KS ?_
  refine Oq (Qc9 QdF 1) (Ost (Scl [2] QdF [vi 9, .string (bs (Str.mk [])), .slice none 0 0, .slice none 0 0]) (KS ?_))
  refine Jl [] (Ent.slNil (α := Str)) ?_
  have hq := q4 hrr ((Qax.mk 9 (Str.mk []) [] []), (Qab.mk p.l rv429.at_ rv429.Err)) (by simp only [QcP, h7, h246, h248, h290, h309, h325, h344, h360, h379, h427, hg5, hg430, cs4]); subst hq
  exact Kr (.slice none 0 0, .slice none 0 0) rfl (.cellN 1 rfl QdF rfl (QaC _ _) rfl .nil) [0, 0, 2] en
 intro h427
 have g435 := ne_of_beq_false h427
 refine KS ?_
 refine Oq Vm ?_
 refine QaO (Qbi p) fun rv436 hg437 => ?_
 have hc438 := QiN pP p pa0 pk0 pre pre pre rv436 hg437
 refine Oc [0, 2] QiP hc438 ?_
 rintro - ⟨he439, he440, he441, he442⟩
 unfold Qac at he440 he441
 refine Oq (Vfa Qdw 1) (Ost (Qfk [1] sh3 [vi 1, .string (bs (Str.mk [])), .slice none 0 0, .slice none 0 0]) (Oq (Vfa Qet 0) (Ost (Qfk [0] sh9 [vi 1, .string (bs rv436.1), .slice none 0 0, .slice none 0 0]) (KS ?_))))
 refine Oq Vm ?_
 refine QaO (Qcn (Qab.mk p.l rv436.2.at_ rv436.2.Err) 2) fun rv443 hg444 => ?_
 have hc445 := Qty pP (Qab.mk p.l rv436.2.at_ rv436.2.Err) pa0 pk0 2 pre pre pre pre rv443 hg444
 refine Oc [1, 2] Qtm hc445 ?_
 rintro - -
 refine Oq QeP (KS ?_)
 refine Kc ?_ ?_
 ·intro h446
  have h448 := not_true h446
  refine KS ?_
  refine Oq Vm ?_
  refine QaO (QbO (Qab.mk p.l rv436.2.at_ rv436.2.Err) 4) fun rv450 hg451 => ?_
  have hc452 := QjU pP (Qab.mk p.l rv436.2.at_ rv436.2.Err) pa0 pk0 4 pre pre pre pre rv450 hg451
  refine Oc [0, 2] QjL hc452 ?_
  rintro - ⟨he453, he454, he455⟩
  unfold Qac at he453 he454
  have he455 : (0 <= rv450.at_ /\ rv450.at_ <= (p.l.length : Int)) := he455
  refine KS ?_
  refine Oq (Qc9 QdF 1) (Ost (Scl [2] QdF [vi 1, .string (bs rv436.1), .slice none 0 0, .slice none 0 0]) (KS ?_))
  refine Jl [] (Ent.slNil (α := Str)) ?_
  have hq := q4 hrr ((Qax.mk 1 rv436.1 [] []), (Qab.mk p.l rv450.at_ rv450.Err)) (by simp only [QcP, h7, h246, h248, h290, h309, h325, h344, h360, h379, h427, h446, h448, hg5, hg437, hg444, hg451, cs4]); subst hq
  exact Kr (.slice none 0 0, .slice none 0 0) rfl (.cellN 1 rfl QdF rfl (QaC _ _) rfl .nil) [0, 0, 2] en
 intro h446
 have h457 := not_false h446
 try (have hlt := QjP (by assumption : QeE _ _ = rv443) h457; try dsimp only at hlt)
 try (have hlt := QfT (by assumption : QbG _ = rv443) h457; try dsimp only at hlt)
 try (have hlt := QfV (by assumption : Qcn _ _ = rv443) h457; try dsimp only at hlt)
 refine KS ?_
 refine Oq Vm (Oq (Vn 0) (Oq (Vfa QbR 0) (Oq (QaQ sh3 0) (Oq Qbd (Oq (Vn 0) (Oq (Vfa QbR 0) (Ost (Qfk [0] sh3 [vl pa0 pk0 p.l, vi (rv436.2.at_ + 1), vi rv436.2.Err]) (KS ?_))))))))
 refine Oq Vm ?_
 refine QaO (QfM (Qab.mk p.l (rv436.2.at_ + 1) rv436.2.Err)) fun rv460 hg461 => ?_
 have hc462 := QrP pP (Qab.mk p.l (rv436.2.at_ + 1) rv436.2.Err) pa0 pk0 pre pre pre rv460 hg461
 refine Oc [0, 2] Qrd hc462 ?_
 rintro c459 ⟨he463, he464, he465, he466⟩
 unfold Qac at he463 he464
 have he465 : (0 <= rv460.2.at_ /\ rv460.2.at_ <= (p.l.length : Int)) := he465
 refine Jo 0 ?_; rintro a467 k468 rfl
 refine Fb 16 0 fun _ => ?_
 refine FoS 0 fun ho470 => ?_
 refine Oq (Vfa Qdg 2) (Ost (Qfk [2] Qeq [vi 1, .string (bs rv436.1), vl a467 k468 rv460.1, .slice none 0 0]) (KS ?_))
 refine Oq Vm ?_
 refine QaO (QbV (Qab.mk p.l rv460.2.at_ rv460.2.Err)) fun rv471 hg472 => ?_
 have hc473 := QjB pP (Qab.mk p.l rv460.2.at_ rv460.2.Err) pa0 pk0 pre pre pre rv471 hg472
 refine Oc [2, 3] QjC hc473 ?_
 rintro - ⟨he474, he475, he476⟩
 unfold Qac at he474 he475
 have he476 : (0 <= rv471.at_ /\ rv471.at_ <= (p.l.length : Int)) := he476
 refine KS ?_
 refine Oq (Qc9 QdF 1) (Ost (Scl [3] QdF [vi 1, .string (bs rv436.1), vl a467 k468 rv460.1, .slice none 0 0]) (KS ?_))
 refine Jl [] (Ent.slNil (α := Str)) ?_
 have hq := q4 hrr ((Qax.mk 1 rv436.1 rv460.1 []), (Qab.mk p.l rv471.at_ rv471.Err)) (by simp only [QcP, h7, h246, h248, h290, h309, h325, h344, h360, h379, h427, h446, h457, hg5, hg437, hg444, hg461, hg472, cs4]); subst hq
 exact Kr (vl a467 k468 rv460.1, .slice none 0 0) rfl (.cellN 1 rfl QdF rfl (QaC _ _) rfl .nil) [4, 0, 2] en
theorem QuN (pP : Value) (p : Qab) (pa0 : Option Addr) (pk0 : Nat) (QiC : Qac p.at_) (QiD : Qac p.Err) (hpa : (0 <= p.at_ /\ p.at_ <= (p.l.length : Int))) (rr : QaM × Qab) (hrr : Qel p = rr) : FT Tryd.prog 65 #[pP] [Cl pP [vl pa0 pk0 p.l, vi p.at_, vi p.Err], S pa0 pk0 p.l] (fun g : Value => rr.1.Name.b.length <= 140737488355328 /\ Qac rr.2.at_ /\ Qac rr.2.Err /\ (0 <= rr.2.at_ /\ rr.2.at_ <= (p.l.length : Int))) (fun g => .agg #[.string (bs rr.1.Name), g]) (fun g => [sl g rr.1.Stmts, Cl pP [vl pa0 pk0 p.l, vi rr.2.at_, vi rr.2.Err]]) := by
 refine FTi Tryd.func65 fun w0 M0 F0 => ?_
 unfold Qac at QiC QiD
 refine Fb 40 1 fun _ => KS ?_
 refine Oa (Al QnE [.string (bs (Str.mk [])), .slice none 0 0]) fun p2 => KS ?_
 refine Oa (Al QnE [.string (bs (Str.mk [])), .slice none 0 0]) fun p3 => KS ?_
 refine Oq Vm ?_
 refine QaO (Qdm p (Str.mk [98, 108, 111, 99, 107])) fun rv4 hg5 => ?_
 have hc6 := Qsy pP p pa0 pk0 ((Str.mk [98, 108, 111, 99, 107])) pre pre pre pre rv4 hg5
 refine Oc [2, 2] QsI hc6 ?_
 rintro - ⟨he7, he8, he9⟩
 unfold Qac at he7 he8
 refine KS ?_
 refine Oq Vm ?_
 refine QaO (Qbi (Qab.mk p.l rv4.at_ rv4.Err)) fun rv10 hg11 => ?_
 have hc12 := QiN pP (Qab.mk p.l rv4.at_ rv4.Err) pa0 pk0 pre pre pre rv10 hg11
 refine Oc [0, 2] QiP hc12 ?_
 rintro - ⟨he13, he14, he15, he16⟩
 unfold Qac at he14 he15
 have he16 : (0 <= rv10.2.at_ /\ rv10.2.at_ <= (p.l.length : Int)) := he16
 refine Oq (Vfa Qk1 1) (Ost (Qfk [1] sh9 [.string (bs rv10.1), .slice none 0 0]) (KS ?_))
 refine Oq Vm ?_
 refine QaO (QbV (Qab.mk p.l rv10.2.at_ rv10.2.Err)) fun rv17 hg18 => ?_
 have hc19 := QjB pP (Qab.mk p.l rv10.2.at_ rv10.2.Err) pa0 pk0 pre pre pre rv17 hg18
 refine Oc [1, 2] QjC hc19 ?_
 rintro - ⟨he20, he21, he22⟩
 unfold Qac at he20 he21
 have he22 : (0 <= rv17.at_ /\ rv17.at_ <= (p.l.length : Int)) := he22
 refine KS ?_
 refine Oq Vm ?_
 refine QaO (QdR (Qab.mk p.l rv17.at_ rv17.Err)) fun rv23 hg24 => ?_
 have hc25 := QsL pP (Qab.mk p.l rv17.at_ rv17.Err) pa0 pk0 pre pre pre rv23 hg24
 refine Oc [0, 2] Qtt hc25 ?_
 rintro - -
 refine Oq QeP (KS ?_)
 refine Kc ?_ ?_
 ·intro h26
  have h28 := not_true h26
  refine KS ?_
  refine Oq Vm ?_
  refine QaO (QbO (Qab.mk p.l rv17.at_ rv17.Err) 4) fun rv30 hg31 => ?_
  have hc32 := QjU pP (Qab.mk p.l rv17.at_ rv17.Err) pa0 pk0 4 pre pre pre pre rv30 hg31
  refine Oc [0, 2] QjL hc32 ?_
  rintro - ⟨he33, he34, he35⟩
  unfold Qac at he33 he34
  have he35 : (0 <= rv30.at_ /\ rv30.at_ <= (p.l.length : Int)) := he35
  refine KS ?_
  refine Jl [] (Ent.osNil (α := Qax)) ?_
  have hterm47 : QbU p rv10.1 (p.l.length + 1) rv30.at_ rv30.Err [] ≠ LR.oof := (Qge _ _ _ _ aM1).1
  refine Kl (γ := Nat × Int × Int × List Qax × Option Addr × Nat) (fun (r36, Qep, QeJ, Qhc, a40, k41) => ⟨[(0, pP), (2, p2), (3, p3)], [O a40 k41 Qhc, Cl pP [vl pa0 pk0 p.l, vi Qep, vi QeJ], Cl p3 [.string (bs rv10.1), vl a40 k41 Qhc], Cl p2 [.string (bs (Str.mk [])), .slice none 0 0], S pa0 pk0 p.l], QbU p rv10.1 r36 Qep QeJ Qhc = QbU p rv10.1 (p.l.length + 1) rv30.at_ rv30.Err [] /\ (-9223372036854775808 <= Qep /\ Qep <= 9223372036854775807) /\ (-9223372036854775808 <= QeJ /\ QeJ <= 9223372036854775807) /\ (0 <= Qep /\ Qep <= (p.l.length : Int)) /\ (Qhc.length <= 32), r36⟩) ((p.l.length + 1), rv30.at_, rv30.Err, [], none, 0) [0, 0, 0, 0, 0] ⟨rfl, aM1, aM1, iv0, iv0⟩ ?_
  rintro ⟨r36, Qep, QeJ, Qhc, a40, k41⟩ ⟨hM42, hk43, hk44, hv45, hv46⟩
  refine QbB fun _ _ hL hA => ?_; dsimp only at hL hA; subst hL hA
  refine Fb 72 0 fun _ => Fb 40 4 fun _ => ?_
  rcases r36 with _ | r36
  ·exact absurd (hM42.symm.trans rfl) hterm47
  refine KS ?_
  refine Oq Vm ?_
  refine QaO (QdR (Qab.mk p.l Qep QeJ)) fun rv50 hg51 => ?_
  have hc52 := QsL pP (Qab.mk p.l Qep QeJ) pa0 pk0 pre pre pre rv50 hg51
  refine Oc [1, 3] Qtt hc52 ?_
  rintro - -
  refine KS ?_
  refine Kc ?_ ?_
  ·intro h53
   refine KS ?_
   refine Oq (Vfa QdO 2) (Oq (QaQ QhV 2) (Oq (QcE QgE) (Oq Qby (KS ?_))))
   refine Kc ?_ ?_
   ·intro h55
    have g56 := eq_of_beq h55
    refine KS ?_
    refine Oq Vm ?_
    refine QaO (QbO (Qab.mk p.l Qep QeJ) 7) fun rv57 hg58 => ?_
    have hc59 := QjU pP (Qab.mk p.l Qep QeJ) pa0 pk0 7 pre pre pre pre rv57 hg58
    refine Oc [0, 3] QjL hc59 ?_
    rintro - ⟨he60, he61, he62⟩
    unfold Qac at he60 he61
    have he62 : (0 <= rv57.at_ /\ rv57.at_ <= (p.l.length : Int)) := he62
    refine KS ?_
    refine Oq (Qc9 Qg2 2) (Ost (Scl [3] Qg2 [.string (bs rv10.1), vl a40 k41 Qhc]) (KS ?_))
    refine Jl [2] (Ent.freeze _ _) ?_
    have hR63 := q2 hM42 (.ret ((QaM.mk rv10.1 Qhc), (Qab.mk p.l rv57.at_ rv57.Err))) (by simp only [QbU, h26, h28, h53, h55, hg5, hg11, hg18, hg24, hg31, hg51, hg58, cs4])
    have hq := q4 hrr ((QaM.mk rv10.1 Qhc), (Qab.mk p.l rv57.at_ rv57.Err)) (by simp only [Qel, h26, h28, h53, h55, hg5, hg11, hg18, hg24, hg31, hg51, hg58, hR63, cs4]); subst hq
    exact Kr (vl a40 k41 Qhc) rfl (.cellN 1 rfl Qg2 rfl (QaC _ _) rfl .nil) [0, 2] en
   intro h55
   have g64 := ne_of_beq_false h55
   refine KS ?_
   refine Jp 2 fun hp65 => ?_
   refine Qav [0, 1, 0, 4, 12, 31, 63, 127] Qc8 ?_
   refine Dv [0] (Vfa QdO 0) (Dv [3] (QaQ QhV 0) (Dv [] Vm ?_))
   refine QaO (QcP (Qab.mk p.l Qep QeJ)) fun rv68 hg69 => ?_
   refine Dx [1, 5] [1] [4, 0, 1, 2, 3] (fun G => .agg #[vi rv68.1.Op, .string (bs rv68.1.Def), (G.g 3 0), (G.g 3 1)]) [fun G => SP.fact (Qac rv68.1.Op /\ rv68.1.Def.b.length <= 140737488355328 /\ Qac rv68.2.at_ /\ Qac rv68.2.Err /\ (0 <= rv68.2.at_ /\ rv68.2.at_ <= ((Qab.mk p.l Qep QeJ).l.length : Int))), fun G => sl (G.g 3 0) rv68.1.Uses, fun G => sl (G.g 3 1) rv68.1.Targets, fun G => Cl pP [vl pa0 pk0 p.l, vi rv68.2.at_, vi rv68.2.Err]] (fun G => xC [0, 0] Quv (QuI pP (Qab.mk p.l Qep QeJ) pa0 pk0 pre pre pre (by simp only [h26, h28, h53, h55, hg5, hg11, hg18, hg24, hg31, hg51]) rv68 hg69)) (Dx [] [] [0] (fun G => (G.g 4 0)) [fun G => Cr (G.g 4 0) 1 [vi rv68.1.Op, .string (bs rv68.1.Def), (G.g 3 0), (G.g 3 1)]] (fun G => xA (AsV QgE Qmp [.agg #[vi rv68.1.Op, .string (bs rv68.1.Def), (G.g 3 0), (G.g 3 1)]] [vi rv68.1.Op, .string (bs rv68.1.Def), (G.g 3 0), (G.g 3 1)])) ?_)
   have hn72 := la Qhc ([rv68.1] : List Qax)
   refine Dx [2, 6, 7, 8, 10] [2, 10] [3, 1, 2, 0] (fun G => (G.g 5 0)) [fun G => os (G.g 5 0) ((Qhc ++ [rv68.1]) : List Qax)] (fun G => by refine xf 1 rfl ?_; rintro ⟨he73, he74, he75, he76, he77⟩; unfold Qac at he73 he75 he76; exact xp [4, 2, 3] rfl (Ent.cr1 (α := Qax) (A := [sl (G.g 3 0) rv68.1.Uses, sl (G.g 3 1) rv68.1.Targets]) _ rv68.1 _ aB1 (fun h => ⟨_, _, rfl, aL1, aS1, Qa7 (i := 0) rfl h, Qa7 (i := 1) rfl h⟩)) (xA (ApO [3, 0] QgE QgE Qmp))) (Dv [0] (Vfa QdO 0) (Dx0 [3, 11] [3] [1, 0] [fun G => Cl p3 [.string (bs rv10.1), (G.g 5 0)]] (fun G => x1 1 rfl Qf2 fun ho78 => (xS (OpS.frame [0] rfl (OpS.storeClF [(G.g 5 0)] [.string (bs rv10.1), (G.g 5 0)] rfl rfl rfl QhV (Qcs ho78) rfl (by simp only [List.all_cons, List.all_nil, ho78, Bool.and_true, Bool.true_and] <;> rfl) aB1 rfl)))) ?_))
   refine Dn ⟨by kernel_rfl, fun G => ?_⟩
   refine Jw2 [(0, pP), (2, p2), (3, p3)] [0, 4, 5] [SP.fact (Qac rv68.1.Op /\ rv68.1.Def.b.length <= 140737488355328 /\ Qac rv68.2.at_ /\ Qac rv68.2.Err /\ (0 <= rv68.2.at_ /\ rv68.2.at_ <= ((Qab.mk p.l Qep QeJ).l.length : Int))), sl (G.g 3 0) rv68.1.Uses, sl (G.g 3 1) rv68.1.Targets, Cl pP [vl pa0 pk0 p.l, vi rv68.2.at_, vi rv68.2.Err], os (G.g 5 0) ((Qhc ++ [rv68.1]) : List Qax), Cl p3 [.string (bs rv10.1), (G.g 5 0)]] ?_
   generalize G.g 3 0 = c66, G.g 3 1 = c67, G.g 5 0 = c71
   refine Jf 3 rfl ?_; rintro ⟨he79, he80, he81, he82, he83⟩
   unfold Qac at he79 he81 he82
   refine Jk [1, 1, 3, 4, 5, 5, 5] ?_
   refine Jo 2 ?_; rintro a84 k85 rfl
   refine Fb 16 2 fun _ => ?_
   refine FoS 2 fun ho87 => ?_
   refine Jo 3 ?_; rintro a88 k89 rfl
   refine Fb 16 3 fun _ => ?_
   refine FoS 3 fun ho91 => ?_
   refine Jo 5 ?_; rintro a92 k93 rfl
   refine Fb 72 5 fun _ => KS ?_
   exact Kg (r36, rv68.2.at_, rv68.2.Err, (Qhc ++ [rv68.1]), a92, k93) [5, 4, 4, 0, 0] ⟨(q3 hM42 (by simp only [QbU, h26, h28, h53, h55, hg5, hg11, hg18, hg24, hg31, hg51, hg69, cs4])), aM1, aM1, iv1, iv1⟩
  intro h53
  refine Ke ?_
  have hR96 := q2 hM42 (.brk (Qep, QeJ, Qhc)) (by simp only [QbU, h26, h28, h53, hg5, hg11, hg18, hg24, hg31, hg51, cs4])
  refine KS ?_
  refine Oq (Qc9 Qg2 2) (Ost (Scl [3] Qg2 [.string (bs rv10.1), vl a40 k41 Qhc]) (KS ?_))
  refine Jl [2] (Ent.freeze _ _) ?_
  have hq := q4 hrr ((QaM.mk rv10.1 Qhc), (Qab.mk p.l Qep QeJ)) (by simp only [Qel, h26, h28, h53, hg5, hg11, hg18, hg24, hg31, hg51, hR96, cs4]); subst hq
  exact Kr (vl a40 k41 Qhc) rfl (.cellN 1 rfl Qg2 rfl (QaC _ _) rfl .nil) [0, 2] en
 intro h26
 have h98 := not_false h26
 refine KS ?_
 refine Jl [] (Ent.osNil (α := Qax)) ?_
 have hterm111 : QbU p rv10.1 (p.l.length + 1) rv17.at_ rv17.Err [] ≠ LR.oof := (Qge _ _ _ _ aM1).1
 refine Kl (γ := Nat × Int × Int × List Qax × Option Addr × Nat) (fun (r100, Qfp, Qf7, Qfq, a104, k105) => ⟨[(0, pP), (2, p2), (3, p3)], [O a104 k105 Qfq, Cl pP [vl pa0 pk0 p.l, vi Qfp, vi Qf7], Cl p3 [.string (bs rv10.1), vl a104 k105 Qfq], Cl p2 [.string (bs (Str.mk [])), .slice none 0 0], S pa0 pk0 p.l], QbU p rv10.1 r100 Qfp Qf7 Qfq = QbU p rv10.1 (p.l.length + 1) rv17.at_ rv17.Err [] /\ (-9223372036854775808 <= Qfp /\ Qfp <= 9223372036854775807) /\ (-9223372036854775808 <= Qf7 /\ Qf7 <= 9223372036854775807) /\ (0 <= Qfp /\ Qfp <= (p.l.length : Int)) /\ (Qfq.length <= 32), r100⟩) ((p.l.length + 1), rv17.at_, rv17.Err, [], none, 0) [0, 0, 0, 0, 0] ⟨rfl, aM1, aM1, iv0, iv0⟩ ?_
 rintro ⟨r100, Qfp, Qf7, Qfq, a104, k105⟩ ⟨hM106, hk107, hk108, hv109, hv110⟩
 refine QbB fun _ _ hL hA => ?_; dsimp only at hL hA; subst hL hA
 refine Fb 72 0 fun _ => Fb 40 4 fun _ => ?_
 rcases r100 with _ | r100
 ·exact absurd (hM106.symm.trans rfl) hterm111
 refine KS ?_
 refine Oq Vm ?_
 refine QaO (QdR (Qab.mk p.l Qfp Qf7)) fun rv114 hg115 => ?_
 have hc116 := QsL pP (Qab.mk p.l Qfp Qf7) pa0 pk0 pre pre pre rv114 hg115
 refine Oc [1, 3] Qtt hc116 ?_
 rintro - -
 refine KS ?_
 refine Kc ?_ ?_
 ·intro h117
  refine KS ?_
  refine Oq (Vfa QdO 2) (Oq (QaQ QhV 2) (Oq (QcE QgE) (Oq Qby (KS ?_))))
  refine Kc ?_ ?_
  ·intro h119
   have g120 := eq_of_beq h119
   refine KS ?_
   refine Oq Vm ?_
   refine QaO (QbO (Qab.mk p.l Qfp Qf7) 7) fun rv121 hg122 => ?_
   have hc123 := QjU pP (Qab.mk p.l Qfp Qf7) pa0 pk0 7 pre pre pre pre rv121 hg122
   refine Oc [0, 3] QjL hc123 ?_
   rintro - ⟨he124, he125, he126⟩
   unfold Qac at he124 he125
   have he126 : (0 <= rv121.at_ /\ rv121.at_ <= (p.l.length : Int)) := he126
   refine KS ?_
   refine Oq (Qc9 Qg2 2) (Ost (Scl [3] Qg2 [.string (bs rv10.1), vl a104 k105 Qfq]) (KS ?_))
   refine Jl [2] (Ent.freeze _ _) ?_
   have hR127 := q2 hM106 (.ret ((QaM.mk rv10.1 Qfq), (Qab.mk p.l rv121.at_ rv121.Err))) (by simp only [QbU, h26, h98, h117, h119, hg5, hg11, hg18, hg24, hg115, hg122, cs4])
   have hq := q4 hrr ((QaM.mk rv10.1 Qfq), (Qab.mk p.l rv121.at_ rv121.Err)) (by simp only [Qel, h26, h98, h117, h119, hg5, hg11, hg18, hg24, hg115, hg122, hR127, cs4]); subst hq
   exact Kr (vl a104 k105 Qfq) rfl (.cellN 1 rfl Qg2 rfl (QaC _ _) rfl .nil) [0, 2] en
  intro h119
  have g128 := ne_of_beq_false h119
  refine KS ?_
  refine Jp 2 fun hp129 => ?_
  refine Qav [0, 1, 0, 4, 12, 31, 63, 127] Qc8 ?_
  refine Dv [0] (Vfa QdO 0) (Dv [3] (QaQ QhV 0) (Dv [] Vm ?_))
  refine QaO (QcP (Qab.mk p.l Qfp Qf7)) fun rv132 hg133 => ?_
  refine Dx [1, 5] [1] [4, 0, 1, 2, 3] (fun G => .agg #[vi rv132.1.Op, .string (bs rv132.1.Def), (G.g 3 0), (G.g 3 1)]) [fun G => SP.fact (Qac rv132.1.Op /\ rv132.1.Def.b.length <= 140737488355328 /\ Qac rv132.2.at_ /\ Qac rv132.2.Err /\ (0 <= rv132.2.at_ /\ rv132.2.at_ <= ((Qab.mk p.l Qfp Qf7).l.length : Int))), fun G => sl (G.g 3 0) rv132.1.Uses, fun G => sl (G.g 3 1) rv132.1.Targets, fun G => Cl pP [vl pa0 pk0 p.l, vi rv132.2.at_, vi rv132.2.Err]] (fun G => xC [0, 0] Quv (QuI pP (Qab.mk p.l Qfp Qf7) pa0 pk0 pre pre pre (by simp only [h26, h98, h117, h119, hg5, hg11, hg18, hg24, hg115]) rv132 hg133)) (Dx [] [] [0] (fun G => (G.g 4 0)) [fun G => Cr (G.g 4 0) 1 [vi rv132.1.Op, .string (bs rv132.1.Def), (G.g 3 0), (G.g 3 1)]] (fun G => xA (AsV QgE Qmp [.agg #[vi rv132.1.Op, .string (bs rv132.1.Def), (G.g 3 0), (G.g 3 1)]] [vi rv132.1.Op, .string (bs rv132.1.Def), (G.g 3 0), (G.g 3 1)])) ?_)
  have hn136 := la Qfq ([rv132.1] : List Qax)
  refine Dx [2, 6, 7, 8, 10] [2, 10] [3, 1, 2, 0] (fun G => (G.g 5 0)) [fun G => os (G.g 5 0) ((Qfq ++ [rv132.1]) : List Qax)] (fun G => by refine xf 1 rfl ?_; rintro ⟨he137, he138, he139, he140, he141⟩; unfold Qac at he137 he139 he140; exact xp [4, 2, 3] rfl (Ent.cr1 (α := Qax) (A := [sl (G.g 3 0) rv132.1.Uses, sl (G.g 3 1) rv132.1.Targets]) _ rv132.1 _ aB1 (fun h => ⟨_, _, rfl, aL1, aS1, Qa7 (i := 0) rfl h, Qa7 (i := 1) rfl h⟩)) (xA (ApO [3, 0] QgE QgE Qmp))) (Dv [0] (Vfa QdO 0) (Dx0 [3, 11] [3] [1, 0] [fun G => Cl p3 [.string (bs rv10.1), (G.g 5 0)]] (fun G => x1 1 rfl Qf2 fun ho142 => (xS (OpS.frame [0] rfl (OpS.storeClF [(G.g 5 0)] [.string (bs rv10.1), (G.g 5 0)] rfl rfl rfl QhV (Qcs ho142) rfl (by simp only [List.all_cons, List.all_nil, ho142, Bool.and_true, Bool.true_and] <;> rfl) aB1 rfl)))) ?_))
  refine Dn ⟨by kernel_rfl, fun G => ?_⟩
  refine Jw2 [(0, pP), (2, p2), (3, p3)] [0, 4, 5] [SP.fact (Qac rv132.1.Op /\ rv132.1.Def.b.length <= 140737488355328 /\ Qac rv132.2.at_ /\ Qac rv132.2.Err /\ (0 <= rv132.2.at_ /\ rv132.2.at_ <= ((Qab.mk p.l Qfp Qf7).l.length : Int))), sl (G.g 3 0) rv132.1.Uses, sl (G.g 3 1) rv132.1.Targets, Cl pP [vl pa0 pk0 p.l, vi rv132.2.at_, vi rv132.2.Err], os (G.g 5 0) ((Qfq ++ [rv132.1]) : List Qax), Cl p3 [.string (bs rv10.1), (G.g 5 0)]] ?_
  generalize G.g 3 0 = c130, G.g 3 1 = c131, G.g 5 0 = c135
  refine Jf 3 rfl ?_; rintro ⟨he143, he144, he145, he146, he147⟩
  unfold Qac at he143 he145 he146
  refine Jk [1, 1, 3, 4, 5, 5, 5] ?_
  refine Jo 2 ?_; rintro a148 k149 rfl
  refine Fb 16 2 fun _ => ?_
  refine FoS 2 fun ho151 => ?_
  refine Jo 3 ?_; rintro a152 k153 rfl
  refine Fb 16 3 fun _ => ?_
  refine FoS 3 fun ho155 => ?_
  refine Jo 5 ?_; rintro a156 k157 rfl
  refine Fb 72 5 fun _ => KS ?_
  exact Kg (r100, rv132.2.at_, rv132.2.Err, (Qfq ++ [rv132.1]), a156, k157) [5, 4, 4, 0, 0] ⟨(q3 hM106 (by simp only [QbU, h26, h98, h117, h119, hg5, hg11, hg18, hg24, hg115, hg133, cs4])), aM1, aM1, iv1, iv1⟩
 intro h117
 refine Ke ?_
 have hR160 := q2 hM106 (.brk (Qfp, Qf7, Qfq)) (by simp only [QbU, h26, h98, h117, hg5, hg11, hg18, hg24, hg115, cs4])
 refine KS ?_
 refine Oq (Qc9 Qg2 2) (Ost (Scl [3] Qg2 [.string (bs rv10.1), vl a104 k105 Qfq]) (KS ?_))
 refine Jl [2] (Ent.freeze _ _) ?_
 have hq := q4 hrr ((QaM.mk rv10.1 Qfq), (Qab.mk p.l Qfp Qf7)) (by simp only [Qel, h26, h98, h117, hg5, hg11, hg18, hg24, hg115, hR160, cs4]); subst hq
 exact Kr (vl a104 k105 Qfq) rfl (.cellN 1 rfl Qg2 rfl (QaC _ _) rfl .nil) [0, 2] en
theorem Quu (pP : Value) (p : Qab) (pa0 : Option Addr) (pk0 : Nat) (QiC : Qac p.at_) (QiD : Qac p.Err) (hpa : (0 <= p.at_ /\ p.at_ <= (p.l.length : Int))) (rr : Qbv × Qab) (hrr : QcO p = rr) : FT Tryd.prog 39 #[pP] [Cl pP [vl pa0 pk0 p.l, vi p.at_, vi p.Err], S pa0 pk0 p.l] (fun g : Value => rr.1.Name.b.length <= 140737488355328 /\ Qac rr.2.at_ /\ Qac rr.2.Err /\ (0 <= rr.2.at_ /\ rr.2.at_ <= (p.l.length : Int))) (fun g => .agg #[.string (bs rr.1.Name), g]) (fun g => [sl g rr.1.Blocks, Cl pP [vl pa0 pk0 p.l, vi rr.2.at_, vi rr.2.Err]]) := by
 refine FTi Tryd.func39 fun w0 M0 F0 => ?_
 unfold Qac at QiC QiD
 refine Fb 40 1 fun _ => KS ?_
 refine Oa (Al QnG [.string (bs (Str.mk [])), .slice none 0 0]) fun p2 => KS ?_
 refine Oa (Al QnG [.string (bs (Str.mk [])), .slice none 0 0]) fun p3 => KS ?_
 refine Oq Vm ?_
 refine QaO (Qdm p (Str.mk [102, 117, 110, 99])) fun rv4 hg5 => ?_
 have hc6 := Qsy pP p pa0 pk0 ((Str.mk [102, 117, 110, 99])) pre pre pre pre rv4 hg5
 refine Oc [2, 2] QsI hc6 ?_
 rintro - ⟨he7, he8, he9⟩
 unfold Qac at he7 he8
 refine KS ?_
 refine Oq Vm ?_
 refine QaO (Qbi (Qab.mk p.l rv4.at_ rv4.Err)) fun rv10 hg11 => ?_
 have hc12 := QiN pP (Qab.mk p.l rv4.at_ rv4.Err) pa0 pk0 pre pre pre rv10 hg11
 refine Oc [0, 2] QiP hc12 ?_
 rintro - ⟨he13, he14, he15, he16⟩
 unfold Qac at he14 he15
 have he16 : (0 <= rv10.2.at_ /\ rv10.2.at_ <= (p.l.length : Int)) := he16
 refine Oq (Vfa Qk4 1) (Ost (Qfk [1] sh9 [.string (bs rv10.1), .slice none 0 0]) (KS ?_))
 refine Oq Vm ?_
 refine QaO (QbV (Qab.mk p.l rv10.2.at_ rv10.2.Err)) fun rv17 hg18 => ?_
 have hc19 := QjB pP (Qab.mk p.l rv10.2.at_ rv10.2.Err) pa0 pk0 pre pre pre rv17 hg18
 refine Oc [1, 2] QjC hc19 ?_
 rintro - ⟨he20, he21, he22⟩
 unfold Qac at he20 he21
 have he22 : (0 <= rv17.at_ /\ rv17.at_ <= (p.l.length : Int)) := he22
 refine KS ?_
 refine Oq Vm ?_
 refine QaO (QeE (Qab.mk p.l rv17.at_ rv17.Err) (Str.mk [98, 108, 111, 99, 107])) fun rv23 hg24 => ?_
 have hc25 := Qpl pP (Qab.mk p.l rv17.at_ rv17.Err) pa0 pk0 ((Str.mk [98, 108, 111, 99, 107])) pre pre pre pre rv23 hg24
 refine Oc [0, 2] Qpb hc25 ?_
 rintro - -
 refine Oq QeP (KS ?_)
 refine Kc ?_ ?_
 ·intro h26
  have h28 := not_true h26
  refine KS ?_
  refine Oq Vm ?_
  refine QaO (QbO (Qab.mk p.l rv17.at_ rv17.Err) 4) fun rv30 hg31 => ?_
  have hc32 := QjU pP (Qab.mk p.l rv17.at_ rv17.Err) pa0 pk0 4 pre pre pre pre rv30 hg31
  refine Oc [0, 2] QjL hc32 ?_
  rintro - ⟨he33, he34, he35⟩
  unfold Qac at he33 he34
  have he35 : (0 <= rv30.at_ /\ rv30.at_ <= (p.l.length : Int)) := he35
  refine KS ?_
  refine Jl [] (Ent.osNil (α := QaM)) ?_
  have hterm47 : Qbr p rv10.1 (p.l.length + 1) rv30.at_ rv30.Err [] ≠ LR.oof := (QeV _ _ _ _ aM1).1
  refine Kl (γ := Nat × Int × Int × List QaM × Option Addr × Nat) (fun (r36, Qep, QeJ, Qhd, a40, k41) => ⟨[(0, pP), (2, p2), (3, p3)], [O a40 k41 Qhd, Cl pP [vl pa0 pk0 p.l, vi Qep, vi QeJ], Cl p3 [.string (bs rv10.1), vl a40 k41 Qhd], Cl p2 [.string (bs (Str.mk [])), .slice none 0 0], S pa0 pk0 p.l], Qbr p rv10.1 r36 Qep QeJ Qhd = Qbr p rv10.1 (p.l.length + 1) rv30.at_ rv30.Err [] /\ (-9223372036854775808 <= Qep /\ Qep <= 9223372036854775807) /\ (-9223372036854775808 <= QeJ /\ QeJ <= 9223372036854775807) /\ (0 <= Qep /\ Qep <= (p.l.length : Int)) /\ (Qhd.length <= 16), r36⟩) ((p.l.length + 1), rv30.at_, rv30.Err, [], none, 0) [0, 0, 0, 0, 0] ⟨rfl, aM1, aM1, iv0, iv0⟩ ?_
  rintro ⟨r36, Qep, QeJ, Qhd, a40, k41⟩ ⟨hM42, hk43, hk44, hv45, hv46⟩
  refine QbB fun _ _ hL hA => ?_; dsimp only at hL hA; subst hL hA
  refine Fb 40 0 fun _ => Fb 40 4 fun _ => ?_
  rcases r36 with _ | r36
  ·exact absurd (hM42.symm.trans rfl) hterm47
  refine KS ?_
  refine Oq Vm ?_
  refine QaO (QeE (Qab.mk p.l Qep QeJ) (Str.mk [98, 108, 111, 99, 107])) fun rv50 hg51 => ?_
  have hc52 := Qpl pP (Qab.mk p.l Qep QeJ) pa0 pk0 ((Str.mk [98, 108, 111, 99, 107])) pre pre pre pre rv50 hg51
  refine Oc [1, 3] Qpb hc52 ?_
  rintro - -
  refine KS ?_
  refine Kc ?_ ?_
  ·intro h53
   refine KS ?_
   refine Oq (Vfa Qd0 2) (Oq (QaQ Qic 2) (Oq (QcE QgJ) (Oq Qby (KS ?_))))
   refine Kc ?_ ?_
   ·intro h55
    have g56 := eq_of_beq h55
    refine KS ?_
    refine Oq Vm ?_
    refine QaO (QbO (Qab.mk p.l Qep QeJ) 7) fun rv57 hg58 => ?_
    have hc59 := QjU pP (Qab.mk p.l Qep QeJ) pa0 pk0 7 pre pre pre pre rv57 hg58
    refine Oc [0, 3] QjL hc59 ?_
    rintro - ⟨he60, he61, he62⟩
    unfold Qac at he60 he61
    have he62 : (0 <= rv57.at_ /\ rv57.at_ <= (p.l.length : Int)) := he62
    refine KS ?_
    refine Oq (Qc9 Qhk 2) (Ost (Scl [3] Qhk [.string (bs rv10.1), vl a40 k41 Qhd]) (KS ?_))
    refine Jl [2] (Ent.freeze _ _) ?_
    have hR63 := q2 hM42 (.ret ((Qbv.mk rv10.1 Qhd), (Qab.mk p.l rv57.at_ rv57.Err))) (by simp only [Qbr, h26, h28, h53, h55, hg5, hg11, hg18, hg24, hg31, hg51, hg58, cs4])
    have hq := q4 hrr ((Qbv.mk rv10.1 Qhd), (Qab.mk p.l rv57.at_ rv57.Err)) (by simp only [QcO, h26, h28, h53, h55, hg5, hg11, hg18, hg24, hg31, hg51, hg58, hR63, cs4]); subst hq
    exact Kr (vl a40 k41 Qhd) rfl (.cellN 1 rfl Qhk rfl (QaC _ _) rfl .nil) [0, 2] en
   intro h55
   have g64 := ne_of_beq_false h55
   refine KS ?_
   refine Jp 2 fun hp65 => ?_
   refine Qav [0, 1, 0, 4, 12, 31, 63, 127] Qc8 ?_
   refine Dv [0] (Vfa Qd0 0) (Dv [3] (QaQ Qic 0) (Dv [] Vm ?_))
   refine QaO (Qel (Qab.mk p.l Qep QeJ)) fun rv67 hg68 => ?_
   refine Dx [1, 5] [1] [3, 0, 1, 2] (fun G => .agg #[.string (bs rv67.1.Name), (G.g 3 0)]) [fun G => SP.fact (rv67.1.Name.b.length <= 140737488355328 /\ Qac rv67.2.at_ /\ Qac rv67.2.Err /\ (0 <= rv67.2.at_ /\ rv67.2.at_ <= ((Qab.mk p.l Qep QeJ).l.length : Int))), fun G => sl (G.g 3 0) rv67.1.Stmts, fun G => Cl pP [vl pa0 pk0 p.l, vi rv67.2.at_, vi rv67.2.Err]] (fun G => xC [0, 0] Quo (QuN pP (Qab.mk p.l Qep QeJ) pa0 pk0 pre pre pre rv67 hg68)) (Dx [] [] [0] (fun G => (G.g 4 0)) [fun G => Cr (G.g 4 0) 1 [.string (bs rv67.1.Name), (G.g 3 0)]] (fun G => xA (AsV QgJ QnF [.agg #[.string (bs rv67.1.Name), (G.g 3 0)]] [.string (bs rv67.1.Name), (G.g 3 0)])) ?_)
   have hn71 := la Qhd ([rv67.1] : List QaM)
   refine Dx [2, 6, 7, 9] [2, 9] [2, 1, 0] (fun G => (G.g 5 0)) [fun G => os (G.g 5 0) ((Qhd ++ [rv67.1]) : List QaM)] (fun G => by refine xf 1 rfl ?_; rintro ⟨he72, he73, he74, he75⟩; unfold Qac at he73 he74; exact xp [3, 2] rfl (Ent.cr1 (α := QaM) (A := [sl (G.g 3 0) rv67.1.Stmts]) _ rv67.1 _ aB1 (fun h => ⟨_, rfl, aS1, Qa7 (i := 0) rfl h⟩)) (xA (ApO [2, 0] QgJ QgJ QnF))) (Dv [0] (Vfa Qd0 0) (Dx0 [3, 10] [3] [1, 0] [fun G => Cl p3 [.string (bs rv10.1), (G.g 5 0)]] (fun G => x1 1 rfl Qf2 fun ho76 => (xS (OpS.frame [0] rfl (OpS.storeClF [(G.g 5 0)] [.string (bs rv10.1), (G.g 5 0)] rfl rfl rfl Qic (Qcs ho76) rfl (by simp only [List.all_cons, List.all_nil, ho76, Bool.and_true, Bool.true_and] <;> rfl) aB1 rfl)))) ?_))
   refine Dn ⟨by kernel_rfl, fun G => ?_⟩
   refine Jw2 [(0, pP), (2, p2), (3, p3)] [0, 4, 5] [SP.fact (rv67.1.Name.b.length <= 140737488355328 /\ Qac rv67.2.at_ /\ Qac rv67.2.Err /\ (0 <= rv67.2.at_ /\ rv67.2.at_ <= ((Qab.mk p.l Qep QeJ).l.length : Int))), sl (G.g 3 0) rv67.1.Stmts, Cl pP [vl pa0 pk0 p.l, vi rv67.2.at_, vi rv67.2.Err], os (G.g 5 0) ((Qhd ++ [rv67.1]) : List QaM), Cl p3 [.string (bs rv10.1), (G.g 5 0)]] ?_
   generalize G.g 3 0 = c66, G.g 5 0 = c70
   refine Jf 3 rfl ?_; rintro ⟨he77, he78, he79, he80⟩
   unfold Qac at he78 he79
   refine Jk [1, 1, 3, 4, 4, 4] ?_
   refine Jo 2 ?_; rintro a81 k82 rfl
   refine Fb 72 2 fun _ => ?_
   refine Jo 4 ?_; rintro a84 k85 rfl
   refine Fb 40 4 fun _ => KS ?_
   exact Kg (r36, rv67.2.at_, rv67.2.Err, (Qhd ++ [rv67.1]), a84, k85) [4, 3, 3, 0, 0] ⟨(q3 hM42 (by simp only [Qbr, h26, h28, h53, h55, hg5, hg11, hg18, hg24, hg31, hg51, hg68, cs4])), aM1, aM1, iv1, iv1⟩
  intro h53
  refine Ke ?_
  have hR88 := q2 hM42 (.brk (Qep, QeJ, Qhd)) (by simp only [Qbr, h26, h28, h53, hg5, hg11, hg18, hg24, hg31, hg51, cs4])
  refine KS ?_
  refine Oq Vm ?_
  refine QaO (Qdm (Qab.mk p.l Qep QeJ) (Str.mk [101, 110, 100])) fun rv89 hg90 => ?_
  have hc91 := Qsy pP (Qab.mk p.l Qep QeJ) pa0 pk0 ((Str.mk [101, 110, 100])) pre pre pre pre rv89 hg90
  refine Oc [0, 3] QsI hc91 ?_
  rintro - ⟨he92, he93, he94⟩
  unfold Qac at he92 he93
  have he94 : (0 <= rv89.at_ /\ rv89.at_ <= (p.l.length : Int)) := he94
  refine KS ?_
  refine Oq Vm ?_
  refine QaO (QbV (Qab.mk p.l rv89.at_ rv89.Err)) fun rv95 hg96 => ?_
  have hc97 := QjB pP (Qab.mk p.l rv89.at_ rv89.Err) pa0 pk0 pre pre pre rv95 hg96
  refine Oc [0, 3] QjC hc97 ?_
  rintro - ⟨he98, he99, he100⟩
  unfold Qac at he98 he99
  have he100 : (0 <= rv95.at_ /\ rv95.at_ <= (p.l.length : Int)) := he100
  refine KS ?_
  refine Oq (Qc9 Qhk 2) (Ost (Scl [3] Qhk [.string (bs rv10.1), vl a40 k41 Qhd]) (KS ?_))
  refine Jl [2] (Ent.freeze _ _) ?_
  have hq := q4 hrr ((Qbv.mk rv10.1 Qhd), (Qab.mk p.l rv95.at_ rv95.Err)) (by simp only [QcO, h26, h28, h53, hg5, hg11, hg18, hg24, hg31, hg51, hR88, hg90, hg96, cs4]); subst hq
  exact Kr (vl a40 k41 Qhd) rfl (.cellN 1 rfl Qhk rfl (QaC _ _) rfl .nil) [0, 2] en
 intro h26
 have h102 := not_false h26
 refine KS ?_
 refine Jl [] (Ent.osNil (α := QaM)) ?_
 have hterm115 : Qbr p rv10.1 (p.l.length + 1) rv17.at_ rv17.Err [] ≠ LR.oof := (QeV _ _ _ _ aM1).1
 refine Kl (γ := Nat × Int × Int × List QaM × Option Addr × Nat) (fun (r104, Qe4, QfF, Qfr, a108, k109) => ⟨[(0, pP), (2, p2), (3, p3)], [O a108 k109 Qfr, Cl pP [vl pa0 pk0 p.l, vi Qe4, vi QfF], Cl p3 [.string (bs rv10.1), vl a108 k109 Qfr], Cl p2 [.string (bs (Str.mk [])), .slice none 0 0], S pa0 pk0 p.l], Qbr p rv10.1 r104 Qe4 QfF Qfr = Qbr p rv10.1 (p.l.length + 1) rv17.at_ rv17.Err [] /\ (-9223372036854775808 <= Qe4 /\ Qe4 <= 9223372036854775807) /\ (-9223372036854775808 <= QfF /\ QfF <= 9223372036854775807) /\ (0 <= Qe4 /\ Qe4 <= (p.l.length : Int)) /\ (Qfr.length <= 16), r104⟩) ((p.l.length + 1), rv17.at_, rv17.Err, [], none, 0) [0, 0, 0, 0, 0] ⟨rfl, aM1, aM1, iv0, iv0⟩ ?_
 rintro ⟨r104, Qe4, QfF, Qfr, a108, k109⟩ ⟨hM110, hk111, hk112, hv113, hv114⟩
 refine QbB fun _ _ hL hA => ?_; dsimp only at hL hA; subst hL hA
 refine Fb 40 0 fun _ => Fb 40 4 fun _ => ?_
 rcases r104 with _ | r104
 ·exact absurd (hM110.symm.trans rfl) hterm115
 refine KS ?_
 refine Oq Vm ?_
 refine QaO (QeE (Qab.mk p.l Qe4 QfF) (Str.mk [98, 108, 111, 99, 107])) fun rv118 hg119 => ?_
 have hc120 := Qpl pP (Qab.mk p.l Qe4 QfF) pa0 pk0 ((Str.mk [98, 108, 111, 99, 107])) pre pre pre pre rv118 hg119
 refine Oc [1, 3] Qpb hc120 ?_
 rintro - -
 refine KS ?_
 refine Kc ?_ ?_
 ·intro h121
  refine KS ?_
  refine Oq (Vfa Qd0 2) (Oq (QaQ Qic 2) (Oq (QcE QgJ) (Oq Qby (KS ?_))))
  refine Kc ?_ ?_
  ·intro h123
   have g124 := eq_of_beq h123
   refine KS ?_
   refine Oq Vm ?_
   refine QaO (QbO (Qab.mk p.l Qe4 QfF) 7) fun rv125 hg126 => ?_
   have hc127 := QjU pP (Qab.mk p.l Qe4 QfF) pa0 pk0 7 pre pre pre pre rv125 hg126
   refine Oc [0, 3] QjL hc127 ?_
   rintro - ⟨he128, he129, he130⟩
   unfold Qac at he128 he129
   have he130 : (0 <= rv125.at_ /\ rv125.at_ <= (p.l.length : Int)) := he130
   refine KS ?_
   refine Oq (Qc9 Qhk 2) (Ost (Scl [3] Qhk [.string (bs rv10.1), vl a108 k109 Qfr]) (KS ?_))
   refine Jl [2] (Ent.freeze _ _) ?_
   have hR131 := q2 hM110 (.ret ((Qbv.mk rv10.1 Qfr), (Qab.mk p.l rv125.at_ rv125.Err))) (by simp only [Qbr, h26, h102, h121, h123, hg5, hg11, hg18, hg24, hg119, hg126, cs4])
   have hq := q4 hrr ((Qbv.mk rv10.1 Qfr), (Qab.mk p.l rv125.at_ rv125.Err)) (by simp only [QcO, h26, h102, h121, h123, hg5, hg11, hg18, hg24, hg119, hg126, hR131, cs4]); subst hq
   exact Kr (vl a108 k109 Qfr) rfl (.cellN 1 rfl Qhk rfl (QaC _ _) rfl .nil) [0, 2] en
  intro h123
  have g132 := ne_of_beq_false h123
  refine KS ?_
  refine Jp 2 fun hp133 => ?_
  refine Qav [0, 1, 0, 4, 12, 31, 63, 127] Qc8 ?_
  refine Dv [0] (Vfa Qd0 0) (Dv [3] (QaQ Qic 0) (Dv [] Vm ?_))
  refine QaO (Qel (Qab.mk p.l Qe4 QfF)) fun rv135 hg136 => ?_
  refine Dx [1, 5] [1] [3, 0, 1, 2] (fun G => .agg #[.string (bs rv135.1.Name), (G.g 3 0)]) [fun G => SP.fact (rv135.1.Name.b.length <= 140737488355328 /\ Qac rv135.2.at_ /\ Qac rv135.2.Err /\ (0 <= rv135.2.at_ /\ rv135.2.at_ <= ((Qab.mk p.l Qe4 QfF).l.length : Int))), fun G => sl (G.g 3 0) rv135.1.Stmts, fun G => Cl pP [vl pa0 pk0 p.l, vi rv135.2.at_, vi rv135.2.Err]] (fun G => xC [0, 0] Quo (QuN pP (Qab.mk p.l Qe4 QfF) pa0 pk0 pre pre pre rv135 hg136)) (Dx [] [] [0] (fun G => (G.g 4 0)) [fun G => Cr (G.g 4 0) 1 [.string (bs rv135.1.Name), (G.g 3 0)]] (fun G => xA (AsV QgJ QnF [.agg #[.string (bs rv135.1.Name), (G.g 3 0)]] [.string (bs rv135.1.Name), (G.g 3 0)])) ?_)
  have hn139 := la Qfr ([rv135.1] : List QaM)
  refine Dx [2, 6, 7, 9] [2, 9] [2, 1, 0] (fun G => (G.g 5 0)) [fun G => os (G.g 5 0) ((Qfr ++ [rv135.1]) : List QaM)] (fun G => by refine xf 1 rfl ?_; rintro ⟨he140, he141, he142, he143⟩; unfold Qac at he141 he142; exact xp [3, 2] rfl (Ent.cr1 (α := QaM) (A := [sl (G.g 3 0) rv135.1.Stmts]) _ rv135.1 _ aB1 (fun h => ⟨_, rfl, aS1, Qa7 (i := 0) rfl h⟩)) (xA (ApO [2, 0] QgJ QgJ QnF))) (Dv [0] (Vfa Qd0 0) (Dx0 [3, 10] [3] [1, 0] [fun G => Cl p3 [.string (bs rv10.1), (G.g 5 0)]] (fun G => x1 1 rfl Qf2 fun ho144 => (xS (OpS.frame [0] rfl (OpS.storeClF [(G.g 5 0)] [.string (bs rv10.1), (G.g 5 0)] rfl rfl rfl Qic (Qcs ho144) rfl (by simp only [List.all_cons, List.all_nil, ho144, Bool.and_true, Bool.true_and] <;> rfl) aB1 rfl)))) ?_))
  refine Dn ⟨by kernel_rfl, fun G => ?_⟩
  refine Jw2 [(0, pP), (2, p2), (3, p3)] [0, 4, 5] [SP.fact (rv135.1.Name.b.length <= 140737488355328 /\ Qac rv135.2.at_ /\ Qac rv135.2.Err /\ (0 <= rv135.2.at_ /\ rv135.2.at_ <= ((Qab.mk p.l Qe4 QfF).l.length : Int))), sl (G.g 3 0) rv135.1.Stmts, Cl pP [vl pa0 pk0 p.l, vi rv135.2.at_, vi rv135.2.Err], os (G.g 5 0) ((Qfr ++ [rv135.1]) : List QaM), Cl p3 [.string (bs rv10.1), (G.g 5 0)]] ?_
  generalize G.g 3 0 = c134, G.g 5 0 = c138
  refine Jf 3 rfl ?_; rintro ⟨he145, he146, he147, he148⟩
  unfold Qac at he146 he147
  refine Jk [1, 1, 3, 4, 4, 4] ?_
  refine Jo 2 ?_; rintro a149 k150 rfl
  refine Fb 72 2 fun _ => ?_
  refine Jo 4 ?_; rintro a152 k153 rfl
  refine Fb 40 4 fun _ => KS ?_
  exact Kg (r104, rv135.2.at_, rv135.2.Err, (Qfr ++ [rv135.1]), a152, k153) [4, 3, 3, 0, 0] ⟨(q3 hM110 (by simp only [Qbr, h26, h102, h121, h123, hg5, hg11, hg18, hg24, hg119, hg136, cs4])), aM1, aM1, iv1, iv1⟩
 intro h121
 refine Ke ?_
 have hR156 := q2 hM110 (.brk (Qe4, QfF, Qfr)) (by simp only [Qbr, h26, h102, h121, hg5, hg11, hg18, hg24, hg119, cs4])
 refine KS ?_
 refine Oq Vm ?_
 refine QaO (Qdm (Qab.mk p.l Qe4 QfF) (Str.mk [101, 110, 100])) fun rv157 hg158 => ?_
 have hc159 := Qsy pP (Qab.mk p.l Qe4 QfF) pa0 pk0 ((Str.mk [101, 110, 100])) pre pre pre pre rv157 hg158
 refine Oc [0, 3] QsI hc159 ?_
 rintro - ⟨he160, he161, he162⟩
 unfold Qac at he160 he161
 have he162 : (0 <= rv157.at_ /\ rv157.at_ <= (p.l.length : Int)) := he162
 refine KS ?_
 refine Oq Vm ?_
 refine QaO (QbV (Qab.mk p.l rv157.at_ rv157.Err)) fun rv163 hg164 => ?_
 have hc165 := QjB pP (Qab.mk p.l rv157.at_ rv157.Err) pa0 pk0 pre pre pre rv163 hg164
 refine Oc [0, 3] QjC hc165 ?_
 rintro - ⟨he166, he167, he168⟩
 unfold Qac at he166 he167
 have he168 : (0 <= rv163.at_ /\ rv163.at_ <= (p.l.length : Int)) := he168
 refine KS ?_
 refine Oq (Qc9 Qhk 2) (Ost (Scl [3] Qhk [.string (bs rv10.1), vl a108 k109 Qfr]) (KS ?_))
 refine Jl [2] (Ent.freeze _ _) ?_
 have hq := q4 hrr ((Qbv.mk rv10.1 Qfr), (Qab.mk p.l rv163.at_ rv163.Err)) (by simp only [QcO, h26, h102, h121, hg5, hg11, hg18, hg24, hg119, hR156, hg158, hg164, cs4]); subst hq
 exact Kr (vl a108 k109 Qfr) rfl (.cellN 1 rfl Qhk rfl (QaC _ _) rfl .nil) [0, 2] en
theorem Qu7 (text : Str) (QqD : text.b.length <= 140737488355328) (rr : Qaj × Int × Int × Int) (hrr : QbX text = rr) : FT Tryd.prog 16 #[.string (bs text)] [] (fun g : Value => Qac rr.2.1 /\ Qac rr.2.2.1 /\ Qac rr.2.2.2) (fun g => .tuple #[.agg #[g], vi rr.2.1, vi rr.2.2.1, vi rr.2.2.2]) (fun g => [sl g rr.1.Funcs]) := by
 refine FTi Tryd.func16 fun w0 M0 F0 => ?_
 refine KS ?_
 refine Oa (Al QqM [.slice none 0 0]) fun p1 => Oq Va (Oq Va (Oq Va (KS ?_)))
 refine Oq Vm ?_
 refine QaO (Qfd text) fun rv3 hg4 => ?_
 have hc5 := QvM text pre rv3 hg4
 refine Oc [] QvL hc5 ?_
 rintro c2 ⟨he6, he7, he8⟩
 unfold Qac at he6 he7 he8
 refine Jo 0 ?_; rintro a9 k10 rfl
 refine Fb 40 0 fun _ => ?_
 refine Oq Vm (Oq Vx (Oq Vx (Oq Vx (Oq Vx (Oq Va (Oq Va (Oq Va (Oq Va (KS ?_)))))))))
 refine Oq Vm (Oq QgA (KS ?_))
 refine Kc ?_ ?_
 ·intro h12
  have g13 := QbL h12
  refine KS ?_
  refine Oq (Vbd QkU [.slice none 0 0]) (Oq Vm (Oq Vm (Oq Vm (Ost (Scl [1] Qec [.slice none 0 0]) (Oq Va (Oq Va (Oq Va (KS ?_))))))))
  refine Jl [] (Ent.slNil (α := Qbv)) ?_
  have hq := q4 hrr ((Qaj.mk []), rv3.2.1, rv3.2.2.1, rv3.2.2.2) (by simp only [QbX, h12, hg4, cs4]); subst hq
  exact Kr (.slice none 0 0) rfl (.cellN 1 rfl Qec rfl (QaC _ _) rfl (.tmp rfl (.tmp rfl (.tmp rfl .nil)))) [0] en
 intro h12
 have g14 := QaA h12
 refine KS ?_
 refine Oq Vm (Oq (Vbd Qwf [vl a9 k10 rv3.1, vi 0, vi 0]) (Oa (AbO [vl a9 k10 rv3.1, vi 0, vi 0]) fun p15 => Oq Va (KS ?_)))
 refine Oa (Al QqM [.slice none 0 0]) fun p16 => KS ?_
 refine Oq Vm ?_
 refine QaO (QeE (Qab.mk rv3.1 0 0) (Str.mk [102, 117, 110, 99])) fun rv17 hg18 => ?_
 have hc19 := Qpl p15 (Qab.mk rv3.1 0 0) a9 k10 ((Str.mk [102, 117, 110, 99])) pre pre pre pre rv17 hg18
 refine Oc [1, 1] Qpb hc19 ?_
 rintro - -
 refine Oq QeP (KS ?_)
 refine Kc ?_ ?_
 ·intro h20
  have h22 := not_true h20
  refine KS ?_
  refine Oq Vm ?_
  refine QaO (QbO (Qab.mk rv3.1 0 0) 4) fun rv24 hg25 => ?_
  have hc26 := QjU p15 (Qab.mk rv3.1 0 0) a9 k10 4 pre pre pre pre rv24 hg25
  refine Oc [0, 1] QjL hc26 ?_
  rintro - ⟨he27, he28, he29⟩
  unfold Qac at he27 he28
  have he29 : (0 <= rv24.at_ /\ rv24.at_ <= (rv3.1.length : Int)) := he29
  refine KS ?_
  refine Jl [] (Ent.osNil (α := Qbv)) ?_
  have hterm41 : QbT rv3.1 (rv3.1.length + 1) rv24.at_ rv24.Err [] ≠ LR.oof := (Qg0 _ _ _ _ aM1).1
  refine Kl (γ := Nat × Int × Int × List Qbv × Option Addr × Nat) (fun (r30, Qf8, QgG, QdA, a34, k35) => ⟨[(2, p1), (6, vl a9 k10 rv3.1), (10, p15), (11, p16)], [O a34 k35 QdA, Cl p15 [vl a9 k10 rv3.1, vi Qf8, vi QgG], Cl p16 [vl a34 k35 QdA], S a9 k10 rv3.1, Cl p1 [.slice none 0 0]], QbT rv3.1 r30 Qf8 QgG QdA = QbT rv3.1 (rv3.1.length + 1) rv24.at_ rv24.Err [] /\ (-9223372036854775808 <= Qf8 /\ Qf8 <= 9223372036854775807) /\ (-9223372036854775808 <= QgG /\ QgG <= 9223372036854775807) /\ (0 <= Qf8 /\ Qf8 <= (rv3.1.length : Int)) /\ (QdA.length <= 8), r30⟩) ((rv3.1.length + 1), rv24.at_, rv24.Err, [], none, 0) [0, 0, 0, 0, 1] ⟨rfl, aM1, aM1, iv0, iv0⟩ ?_
  rintro ⟨r30, Qf8, QgG, QdA, a34, k35⟩ ⟨hM36, hk37, hk38, hv39, hv40⟩
  refine QbB fun _ _ hL hA => ?_; dsimp only at hL hA; subst hL hA
  refine Fb 40 0 fun _ => Fb 40 3 fun _ => ?_
  rcases r30 with _ | r30
  ·exact absurd (hM36.symm.trans rfl) hterm41
  refine KS ?_
  refine Oq Vm ?_
  refine QaO (QeE (Qab.mk rv3.1 Qf8 QgG) (Str.mk [102, 117, 110, 99])) fun rv44 hg45 => ?_
  have hc46 := Qpl p15 (Qab.mk rv3.1 Qf8 QgG) a9 k10 ((Str.mk [102, 117, 110, 99])) pre pre pre pre rv44 hg45
  refine Oc [1, 2] Qpb hc46 ?_
  rintro - -
  refine KS ?_
  refine Kc ?_ ?_
  ·intro h47
   refine KS ?_
   refine Oq (Vfa QdZ 2) (Oq (QaQ Qia 2) (Oq (QcE QgV) (Oq Qby (KS ?_))))
   refine Kc ?_ ?_
   ·intro h49
    have g50 := eq_of_beq h49
    refine KS ?_
    refine Oq Vm ?_
    refine QaO (QbO (Qab.mk rv3.1 Qf8 QgG) 7) fun rv51 hg52 => ?_
    have hc53 := QjU p15 (Qab.mk rv3.1 Qf8 QgG) a9 k10 7 pre pre pre pre rv51 hg52
    refine Oc [0, 2] QjL hc53 ?_
    rintro - ⟨he54, he55, he56⟩
    unfold Qac at he54 he55
    have he56 : (0 <= rv51.at_ /\ rv51.at_ <= (rv3.1.length : Int)) := he56
    refine KS ?_
    refine Ke ?_
    have hR57 := q2 hM36 (.brk (rv51.at_, rv51.Err, QdA)) (by simp only [QbT, h12, h20, h22, h47, h49, hg4, hg18, hg25, hg45, hg52, cs4])
    refine KS ?_
    refine Oq Vm (Oq (Vn 0) (Oq (Vfa Qcx 0) (Oq (QaQ Qgn 0) (Oq Qby (Oq Vm ?_)))))
    refine Js 53 ?_ ?_
    ·intro h58
     have g59 := eq_of_beq h58
     refine Oq Vm (Oq (Vn 0) (Oq (Vfa QbR 0) (Oq (QaQ sh3 0) (Oq Vm (Oq (QcE QeR) (Oq Qcu (Oq Vpt (KS ?_))))))))
     refine Kc ?_ ?_
     ·intro h60
      have g61 := dt h60
      refine KS ?_
      refine Oq Vm ?_
      refine QaO (QbO (Qab.mk rv3.1 rv51.at_ rv51.Err) 4) fun rv62 hg63 => ?_
      have hc64 := QjU p15 (Qab.mk rv3.1 rv51.at_ rv51.Err) a9 k10 4 pre pre pre pre rv62 hg63
      refine Oc [0, 2] QjL hc64 ?_
      rintro - ⟨he65, he66, he67⟩
      unfold Qac at he65 he66
      have he67 : (0 <= rv62.at_ /\ rv62.at_ <= (rv3.1.length : Int)) := he67
      refine KS ?_
      refine Oq Vm (Oq (Vn 0) (Oq (Vfa Qcx 0) (Oq (QaQ Qgn 0) (Oq Qby (KS ?_)))))
      refine Kc ?_ ?_
      ·intro h68
       have g69 := eq_of_beq h68
       refine KS ?_
       refine Oq (Qc9 Qec 2) (Ost (Scl [4] Qec [vl a34 k35 QdA]) (Oq Va (Oq Va (Oq Va (KS ?_)))))
       refine Jl [2] (Ent.freeze _ _) ?_
       have hq := q4 hrr ((Qaj.mk QdA), 0, 0, 0) (by simp only [QbX, h12, h20, h22, h47, h49, h58, h60, h68, hg4, hg18, hg25, hg45, hg52, hR57, hg63, cs4]); subst hq
       exact Kr (vl a34 k35 QdA) rfl (.cellN 1 rfl Qec rfl (QaC _ _) rfl (.tmp rfl (.tmp rfl (.tmp rfl .nil)))) [0] en
      intro h68
      have g70 := ne_of_beq_false h68
      refine KS ?_
      refine Oq Vm (Oq (Vn 0) (Oq (Vfa QbR 0) (Oq (QaQ sh3 0) (Oq Vm (Oq (QcE QeR) (Oq Qcu (KS ?_)))))))
      refine Kc ?_ ?_
      ·intro h71
       have g72 := dt h71
       refine KS ?_
       refine Jp 0 fun hp73 => ?_
       refine QbZ rv62.at_.toNat 4 rfl rng fun hb74 hb75 hb76 hb77 => ?_
       unfold Qac at hb74 hb76 hb77
       refine Qav [0, 0, 0, 4, 12, 28, 62, 126, 254, 0, 0, 1024, 3072, 7168, 15872, 32256, 65024, 0, 131072, 393216, 917504, 1, 2097663, 6422527, 16777215] Qc8 ?_
       refine Dv [] (Vbd QkU [.slice none 0 0]) (Dv [] Vm (Dv [] Vm (Dv [1] (Vn 0) (Dv [1] (Vfa QbR 0) (Dv [2] (QaQ sh3 0) (Dv [5] (Vi QeR 0) (Dv [0] (Vfa Qix 0) (Dv [0] (QaQ sh3 0) (Dv [] Vm ?_)))))))))
       refine Dv [] Vm (Dv [1] (Vn 0) (Dv [1] (Vfa QbR 0) (Dv [2] (QaQ sh3 0) (Dv [5] (Vi QeR 0) (Dv [0] (Vfa Qiv 0) (Dv [0] (QaQ sh3 0) (Dv [] Vm (Dv [1] (Vn 0) (Dv [1] (Vfa Qcx 0) ?_)))))))))
       refine Dv [2] (QaQ Qgn 0) (Dx0 [6] [6] [0] [fun G => Cl p1 [.slice none 0 0]] (fun G => xS (Scl [0] Qec [.slice none 0 0])) (Dv [] Va (Dv [] Va (Dv [] Va ?_))))
       refine Dn ⟨by kernel_rfl, fun G => ?_⟩
       refine Jw2 [(2, p1), (3, vi ((rv3.1.getD rv62.at_.toNat default).Line)), (4, vi ((rv3.1.getD rv62.at_.toNat default).Col)), (5, vi rv62.Err)] [0, 1, 2, 3, 4, 5] [Cl p1 [.slice none 0 0]] ?_
       refine Jk [0, 2, 2, 2, 2, 3] ?_
       refine Jl [] (Ent.slNil (α := Qbv)) ?_
       have hq := q4 hrr ((Qaj.mk []), (rv3.1.getD rv62.at_.toNat default).Line, (rv3.1.getD rv62.at_.toNat default).Col, rv62.Err) (by simp only [QbX, h12, h20, h22, h47, h49, h58, h60, h68, h71, hg4, hg18, hg25, hg45, hg52, hR57, hg63, cs4]); subst hq
       exact Kr (.slice none 0 0) rfl (.cellN 6 rfl Qec rfl (QaC _ _) rfl (.tmp rfl (.tmp rfl (.tmp rfl .nil)))) [0] en
      intro h71
      have g78 := df h71
      refine KS ?_
      refine Jp 0 fun hp79 => ?_
      refine Qav [0, 0, 2, 6, 14, 1, 33, 97, 255] Qc8 ?_
      refine Dv [] (Vbd QkU [.slice none 0 0]) (Dv [] Vm (Dv [0] (Vn 0) (Dv [0] (Vfa Qcx 0) (Dv [1] (QaQ Qgn 0) (Dx0 [5] [5] [0] [fun G => Cl p1 [.slice none 0 0]] (fun G => xS (Scl [0] Qec [.slice none 0 0])) (Dv [] Va (Dv [] Va (Dv [] Va ?_))))))))
      refine Dn ⟨by kernel_rfl, fun G => ?_⟩
      refine Jw2 [(2, p1), (3, vi 0), (4, vi 0), (5, vi rv62.Err)] [0, 1, 2, 3, 4] [Cl p1 [.slice none 0 0]] ?_
      refine Jk [1, 1, 1, 1, 2] ?_
      refine Jl [] (Ent.slNil (α := Qbv)) ?_
      have hq := q4 hrr ((Qaj.mk []), 0, 0, rv62.Err) (by simp only [QbX, h12, h20, h22, h47, h49, h58, h60, h68, h71, hg4, hg18, hg25, hg45, hg52, hR57, hg63, cs4]); subst hq
      exact Kr (.slice none 0 0) rfl (.cellN 5 rfl Qec rfl (QaC _ _) rfl (.tmp rfl (.tmp rfl (.tmp rfl .nil)))) [0] en
     intro h60
     have g80 := df h60
     refine KS ?_
     refine Oq Vm (Oq (Vn 0) (Oq (Vfa Qcx 0) (Oq (QaQ Qgn 0) (Oq Qby (KS ?_)))))
     refine Kc ?_ ?_
     ·intro h81
      have g82 := eq_of_beq h81
      refine KS ?_
      refine Oq (Qc9 Qec 2) (Ost (Scl [4] Qec [vl a34 k35 QdA]) (Oq Va (Oq Va (Oq Va (KS ?_)))))
      refine Jl [2] (Ent.freeze _ _) ?_
      have hq := q4 hrr ((Qaj.mk QdA), 0, 0, 0) (by simp only [QbX, h12, h20, h22, h47, h49, h58, h60, h81, hg4, hg18, hg25, hg45, hg52, hR57, cs4]); subst hq
      exact Kr (vl a34 k35 QdA) rfl (.cellN 1 rfl Qec rfl (QaC _ _) rfl (.tmp rfl (.tmp rfl (.tmp rfl .nil)))) [0] en
     intro h81
     exact absurd h81 (by first | (simp [h58]; done) | (simp only [bne, h58]; decide) | (simp only [bne, h58, Bool.not_true, Bool.not_false]; decide) | (exfalso; omega) | (intro hq; simp only [bne, hq, Bool.not_false, Bool.not_true, reduceCtorEq] at h58))
    intro h58
    have g83 := ne_of_beq_false h58
    refine Osk (Osk (Osk (Osk (Osk (Osk (Osk (Oq Vpf (KS ?_))))))))
    refine Kf (KS ?_)
    refine Oq Vm (Oq (Vn 0) (Oq (Vfa Qcx 0) (Oq (QaQ Qgn 0) (Oq Qby (KS ?_)))))
    refine Kc ?_ ?_
    ·intro h84
     exact absurd h84 (by first | (simp [h58]; done) | (simp only [bne, h58]; decide) | (simp only [bne, h58, Bool.not_true, Bool.not_false]; decide) | (exfalso; omega) | (intro hq; simp only [bne, hq, Bool.not_false, Bool.not_true, reduceCtorEq] at h58))
    intro h84
    have g85 := ne_of_beq_false h84
    refine KS ?_
    refine Oq Vm (Oq (Vn 0) (Oq (Vfa QbR 0) (Oq (QaQ sh3 0) (Oq Vm (Oq (QcE QeR) (Oq Qcu (KS ?_)))))))
    refine Kc ?_ ?_
    ·intro h86
     have g87 := dt h86
     refine KS ?_
     refine Jp 0 fun hp88 => ?_
     refine QbZ rv51.at_.toNat 4 rfl rng fun hb89 hb90 hb91 hb92 => ?_
     unfold Qac at hb89 hb91 hb92
     refine Qav [0, 0, 0, 4, 12, 28, 62, 126, 254, 0, 0, 1024, 3072, 7168, 15872, 32256, 65024, 0, 131072, 393216, 917504, 1, 2097663, 6422527, 16777215] Qc8 ?_
     refine Dv [] (Vbd QkU [.slice none 0 0]) (Dv [] Vm (Dv [] Vm (Dv [1] (Vn 0) (Dv [1] (Vfa QbR 0) (Dv [2] (QaQ sh3 0) (Dv [5] (Vi QeR 0) (Dv [0] (Vfa Qix 0) (Dv [0] (QaQ sh3 0) (Dv [] Vm ?_)))))))))
     refine Dv [] Vm (Dv [1] (Vn 0) (Dv [1] (Vfa QbR 0) (Dv [2] (QaQ sh3 0) (Dv [5] (Vi QeR 0) (Dv [0] (Vfa Qiv 0) (Dv [0] (QaQ sh3 0) (Dv [] Vm (Dv [1] (Vn 0) (Dv [1] (Vfa Qcx 0) ?_)))))))))
     refine Dv [2] (QaQ Qgn 0) (Dx0 [6] [6] [0] [fun G => Cl p1 [.slice none 0 0]] (fun G => xS (Scl [0] Qec [.slice none 0 0])) (Dv [] Va (Dv [] Va (Dv [] Va ?_))))
     refine Dn ⟨by kernel_rfl, fun G => ?_⟩
     refine Jw2 [(2, p1), (3, vi ((rv3.1.getD rv51.at_.toNat default).Line)), (4, vi ((rv3.1.getD rv51.at_.toNat default).Col)), (5, vi rv51.Err)] [0, 1, 2, 3, 4, 5] [Cl p1 [.slice none 0 0]] ?_
     refine Jk [0, 2, 2, 2, 2, 3] ?_
     refine Jl [] (Ent.slNil (α := Qbv)) ?_
     have hq := q4 hrr ((Qaj.mk []), (rv3.1.getD rv51.at_.toNat default).Line, (rv3.1.getD rv51.at_.toNat default).Col, rv51.Err) (by simp only [QbX, h12, h20, h22, h47, h49, h58, h84, h86, hg4, hg18, hg25, hg45, hg52, hR57, cs4]); subst hq
     exact Kr (.slice none 0 0) rfl (.cellN 6 rfl Qec rfl (QaC _ _) rfl (.tmp rfl (.tmp rfl (.tmp rfl .nil)))) [0] en
    intro h86
    have g93 := df h86
    refine KS ?_
    refine Jp 0 fun hp94 => ?_
    refine Qav [0, 0, 2, 6, 14, 1, 33, 97, 255] Qc8 ?_
    refine Dv [] (Vbd QkU [.slice none 0 0]) (Dv [] Vm (Dv [0] (Vn 0) (Dv [0] (Vfa Qcx 0) (Dv [1] (QaQ Qgn 0) (Dx0 [5] [5] [0] [fun G => Cl p1 [.slice none 0 0]] (fun G => xS (Scl [0] Qec [.slice none 0 0])) (Dv [] Va (Dv [] Va (Dv [] Va ?_))))))))
    refine Dn ⟨by kernel_rfl, fun G => ?_⟩
    refine Jw2 [(2, p1), (3, vi 0), (4, vi 0), (5, vi rv51.Err)] [0, 1, 2, 3, 4] [Cl p1 [.slice none 0 0]] ?_
    refine Jk [1, 1, 1, 1, 2] ?_
    refine Jl [] (Ent.slNil (α := Qbv)) ?_
    have hq := q4 hrr ((Qaj.mk []), 0, 0, rv51.Err) (by simp only [QbX, h12, h20, h22, h47, h49, h58, h84, h86, hg4, hg18, hg25, hg45, hg52, hR57, cs4]); subst hq
    exact Kr (.slice none 0 0) rfl (.cellN 5 rfl Qec rfl (QaC _ _) rfl (.tmp rfl (.tmp rfl (.tmp rfl .nil)))) [0] en
   intro h49
   have g95 := ne_of_beq_false h49
   refine KS ?_
   refine Jp 2 fun hp96 => ?_
   refine Qav [0, 1, 0, 4, 12, 31, 63, 127] Qc8 ?_
   refine Dv [0] (Vfa QdZ 0) (Dv [3] (QaQ Qia 0) (Dv [] Vm ?_))
   refine QaO (QcO (Qab.mk rv3.1 Qf8 QgG)) fun rv98 hg99 => ?_
   refine Dx [1, 4] [1] [3, 0, 1, 2] (fun G => .agg #[.string (bs rv98.1.Name), (G.g 3 0)]) [fun G => SP.fact (rv98.1.Name.b.length <= 140737488355328 /\ Qac rv98.2.at_ /\ Qac rv98.2.Err /\ (0 <= rv98.2.at_ /\ rv98.2.at_ <= ((Qab.mk rv3.1 Qf8 QgG).l.length : Int))), fun G => sl (G.g 3 0) rv98.1.Blocks, fun G => Cl p15 [vl a9 k10 rv3.1, vi rv98.2.at_, vi rv98.2.Err]] (fun G => xC [0, 0] Qud (Quu p15 (Qab.mk rv3.1 Qf8 QgG) a9 k10 pre pre pre rv98 hg99)) (Dx [] [] [0] (fun G => (G.g 4 0)) [fun G => Cr (G.g 4 0) 1 [.string (bs rv98.1.Name), (G.g 3 0)]] (fun G => xA (AsV QgV QqK [.agg #[.string (bs rv98.1.Name), (G.g 3 0)]] [.string (bs rv98.1.Name), (G.g 3 0)])) ?_)
   have hn102 := la QdA ([rv98.1] : List Qbv)
   refine Dx [2, 6, 7, 9] [2, 9] [2, 1, 0] (fun G => (G.g 5 0)) [fun G => os (G.g 5 0) ((QdA ++ [rv98.1]) : List Qbv)] (fun G => by refine xf 1 rfl ?_; rintro ⟨he103, he104, he105, he106⟩; unfold Qac at he104 he105; exact xp [3, 2] rfl (Ent.cr1 (α := Qbv) (A := [sl (G.g 3 0) rv98.1.Blocks]) _ rv98.1 _ aB1 (fun h => ⟨_, rfl, aS1, Qa7 (i := 0) rfl h⟩)) (xA (ApO [2, 0] QgV QgV QqK))) (Dv [0] (Vfa QdZ 0) (Dx0 [3, 10] [3] [1, 0] [fun G => Cl p16 [(G.g 5 0)]] (fun G => x1 1 rfl Qf2 fun ho107 => (xS (OpS.frame [0] rfl (OpS.storeClF [(G.g 5 0)] [(G.g 5 0)] rfl rfl rfl Qia (Qcs ho107) rfl (by simp only [List.all_cons, List.all_nil, ho107, Bool.and_true, Bool.true_and] <;> rfl) aB1 rfl)))) ?_))
   refine Dn ⟨by kernel_rfl, fun G => ?_⟩
   refine Jw2 [(2, p1), (6, vl a9 k10 rv3.1), (10, p15), (11, p16)] [0, 4, 5] [SP.fact (rv98.1.Name.b.length <= 140737488355328 /\ Qac rv98.2.at_ /\ Qac rv98.2.Err /\ (0 <= rv98.2.at_ /\ rv98.2.at_ <= ((Qab.mk rv3.1 Qf8 QgG).l.length : Int))), sl (G.g 3 0) rv98.1.Blocks, Cl p15 [vl a9 k10 rv3.1, vi rv98.2.at_, vi rv98.2.Err], os (G.g 5 0) ((QdA ++ [rv98.1]) : List Qbv), Cl p16 [(G.g 5 0)]] ?_
   generalize G.g 3 0 = c97, G.g 5 0 = c101
   refine Jf 3 rfl ?_; rintro ⟨he108, he109, he110, he111⟩
   unfold Qac at he109 he110
   refine Jk [1, 2, 3, 4, 4, 4] ?_
   refine Jo 2 ?_; rintro a112 k113 rfl
   refine Fb 40 2 fun _ => ?_
   refine Jo 4 ?_; rintro a115 k116 rfl
   refine Fb 40 4 fun _ => KS ?_
   exact Kg (r30, rv98.2.at_, rv98.2.Err, (QdA ++ [rv98.1]), a115, k116) [4, 3, 3, 0, 1] ⟨(q3 hM36 (by simp only [QbT, h12, h20, h22, h47, h49, hg4, hg18, hg25, hg45, hg99, cs4])), aM1, aM1, iv1, iv1⟩
  intro h47
  refine Ke ?_
  have hR119 := q2 hM36 (.brk (Qf8, QgG, QdA)) (by simp only [QbT, h12, h20, h22, h47, hg4, hg18, hg25, hg45, cs4])
  refine KS ?_
  refine Oq Vm (Oq (Vn 0) (Oq (Vfa Qcx 0) (Oq (QaQ Qgn 0) (Oq Qby (Oq Vm ?_)))))
  refine Js 53 ?_ ?_
  ·intro h120
   have g121 := eq_of_beq h120
   refine Oq Vm (Oq (Vn 0) (Oq (Vfa QbR 0) (Oq (QaQ sh3 0) (Oq Vm (Oq (QcE QeR) (Oq Qcu (Oq Vpt (KS ?_))))))))
   refine Kc ?_ ?_
   ·intro h122
    have g123 := dt h122
    refine KS ?_
    refine Oq Vm ?_
    refine QaO (QbO (Qab.mk rv3.1 Qf8 QgG) 4) fun rv124 hg125 => ?_
    have hc126 := QjU p15 (Qab.mk rv3.1 Qf8 QgG) a9 k10 4 pre pre pre pre rv124 hg125
    refine Oc [0, 2] QjL hc126 ?_
    rintro - ⟨he127, he128, he129⟩
    unfold Qac at he127 he128
    have he129 : (0 <= rv124.at_ /\ rv124.at_ <= (rv3.1.length : Int)) := he129
    refine KS ?_
    refine Oq Vm (Oq (Vn 0) (Oq (Vfa Qcx 0) (Oq (QaQ Qgn 0) (Oq Qby (KS ?_)))))
    refine Kc ?_ ?_
    ·intro h130
     have g131 := eq_of_beq h130
     refine KS ?_
     refine Oq (Qc9 Qec 2) (Ost (Scl [4] Qec [vl a34 k35 QdA]) (Oq Va (Oq Va (Oq Va (KS ?_)))))
     refine Jl [2] (Ent.freeze _ _) ?_
     have hq := q4 hrr ((Qaj.mk QdA), 0, 0, 0) (by simp only [QbX, h12, h20, h22, h47, h120, h122, h130, hg4, hg18, hg25, hg45, hR119, hg125, cs4]); subst hq
     exact Kr (vl a34 k35 QdA) rfl (.cellN 1 rfl Qec rfl (QaC _ _) rfl (.tmp rfl (.tmp rfl (.tmp rfl .nil)))) [0] en
    intro h130
    have g132 := ne_of_beq_false h130
    refine KS ?_
    refine Oq Vm (Oq (Vn 0) (Oq (Vfa QbR 0) (Oq (QaQ sh3 0) (Oq Vm (Oq (QcE QeR) (Oq Qcu (KS ?_)))))))
    refine Kc ?_ ?_
    ·intro h133
     have g134 := dt h133
     refine KS ?_
     refine Jp 0 fun hp135 => ?_
     refine QbZ rv124.at_.toNat 4 rfl rng fun hb136 hb137 hb138 hb139 => ?_
     unfold Qac at hb136 hb138 hb139
     refine Qav [0, 0, 0, 4, 12, 28, 62, 126, 254, 0, 0, 1024, 3072, 7168, 15872, 32256, 65024, 0, 131072, 393216, 917504, 1, 2097663, 6422527, 16777215] Qc8 ?_
     refine Dv [] (Vbd QkU [.slice none 0 0]) (Dv [] Vm (Dv [] Vm (Dv [1] (Vn 0) (Dv [1] (Vfa QbR 0) (Dv [2] (QaQ sh3 0) (Dv [5] (Vi QeR 0) (Dv [0] (Vfa Qix 0) (Dv [0] (QaQ sh3 0) (Dv [] Vm ?_)))))))))
     refine Dv [] Vm (Dv [1] (Vn 0) (Dv [1] (Vfa QbR 0) (Dv [2] (QaQ sh3 0) (Dv [5] (Vi QeR 0) (Dv [0] (Vfa Qiv 0) (Dv [0] (QaQ sh3 0) (Dv [] Vm (Dv [1] (Vn 0) (Dv [1] (Vfa Qcx 0) ?_)))))))))
     refine Dv [2] (QaQ Qgn 0) (Dx0 [6] [6] [0] [fun G => Cl p1 [.slice none 0 0]] (fun G => xS (Scl [0] Qec [.slice none 0 0])) (Dv [] Va (Dv [] Va (Dv [] Va ?_))))
     refine Dn ⟨by kernel_rfl, fun G => ?_⟩
     refine Jw2 [(2, p1), (3, vi ((rv3.1.getD rv124.at_.toNat default).Line)), (4, vi ((rv3.1.getD rv124.at_.toNat default).Col)), (5, vi rv124.Err)] [0, 1, 2, 3, 4, 5] [Cl p1 [.slice none 0 0]] ?_
     refine Jk [0, 2, 2, 2, 2, 3] ?_
     refine Jl [] (Ent.slNil (α := Qbv)) ?_
     have hq := q4 hrr ((Qaj.mk []), (rv3.1.getD rv124.at_.toNat default).Line, (rv3.1.getD rv124.at_.toNat default).Col, rv124.Err) (by simp only [QbX, h12, h20, h22, h47, h120, h122, h130, h133, hg4, hg18, hg25, hg45, hR119, hg125, cs4]); subst hq
     exact Kr (.slice none 0 0) rfl (.cellN 6 rfl Qec rfl (QaC _ _) rfl (.tmp rfl (.tmp rfl (.tmp rfl .nil)))) [0] en
    intro h133
    have g140 := df h133
    refine KS ?_
    refine Jp 0 fun hp141 => ?_
    refine Qav [0, 0, 2, 6, 14, 1, 33, 97, 255] Qc8 ?_
    refine Dv [] (Vbd QkU [.slice none 0 0]) (Dv [] Vm (Dv [0] (Vn 0) (Dv [0] (Vfa Qcx 0) (Dv [1] (QaQ Qgn 0) (Dx0 [5] [5] [0] [fun G => Cl p1 [.slice none 0 0]] (fun G => xS (Scl [0] Qec [.slice none 0 0])) (Dv [] Va (Dv [] Va (Dv [] Va ?_))))))))
    refine Dn ⟨by kernel_rfl, fun G => ?_⟩
    refine Jw2 [(2, p1), (3, vi 0), (4, vi 0), (5, vi rv124.Err)] [0, 1, 2, 3, 4] [Cl p1 [.slice none 0 0]] ?_
    refine Jk [1, 1, 1, 1, 2] ?_
    refine Jl [] (Ent.slNil (α := Qbv)) ?_
    have hq := q4 hrr ((Qaj.mk []), 0, 0, rv124.Err) (by simp only [QbX, h12, h20, h22, h47, h120, h122, h130, h133, hg4, hg18, hg25, hg45, hR119, hg125, cs4]); subst hq
    exact Kr (.slice none 0 0) rfl (.cellN 5 rfl Qec rfl (QaC _ _) rfl (.tmp rfl (.tmp rfl (.tmp rfl .nil)))) [0] en
   intro h122
   have g142 := df h122
   refine KS ?_
   refine Oq Vm (Oq (Vn 0) (Oq (Vfa Qcx 0) (Oq (QaQ Qgn 0) (Oq Qby (KS ?_)))))
   refine Kc ?_ ?_
   ·intro h143
    have g144 := eq_of_beq h143
    refine KS ?_
    refine Oq (Qc9 Qec 2) (Ost (Scl [4] Qec [vl a34 k35 QdA]) (Oq Va (Oq Va (Oq Va (KS ?_)))))
    refine Jl [2] (Ent.freeze _ _) ?_
    have hq := q4 hrr ((Qaj.mk QdA), 0, 0, 0) (by simp only [QbX, h12, h20, h22, h47, h120, h122, h143, hg4, hg18, hg25, hg45, hR119, cs4]); subst hq
    exact Kr (vl a34 k35 QdA) rfl (.cellN 1 rfl Qec rfl (QaC _ _) rfl (.tmp rfl (.tmp rfl (.tmp rfl .nil)))) [0] en
   intro h143
   exact absurd h143 (by first | (simp [h120]; done) | (simp only [bne, h120]; decide) | (simp only [bne, h120, Bool.not_true, Bool.not_false]; decide) | (exfalso; omega) | (intro hq; simp only [bne, hq, Bool.not_false, Bool.not_true, reduceCtorEq] at h120))
  intro h120
  have g145 := ne_of_beq_false h120
  refine Osk (Osk (Osk (Osk (Osk (Osk (Osk (Oq Vpf (KS ?_))))))))
  refine Kf (KS ?_)
  refine Oq Vm (Oq (Vn 0) (Oq (Vfa Qcx 0) (Oq (QaQ Qgn 0) (Oq Qby (KS ?_)))))
  refine Kc ?_ ?_
  ·intro h146
   exact absurd h146 (by first | (simp [h120]; done) | (simp only [bne, h120]; decide) | (simp only [bne, h120, Bool.not_true, Bool.not_false]; decide) | (exfalso; omega) | (intro hq; simp only [bne, hq, Bool.not_false, Bool.not_true, reduceCtorEq] at h120))
  intro h146
  have g147 := ne_of_beq_false h146
  refine KS ?_
  refine Oq Vm (Oq (Vn 0) (Oq (Vfa QbR 0) (Oq (QaQ sh3 0) (Oq Vm (Oq (QcE QeR) (Oq Qcu (KS ?_)))))))
  refine Kc ?_ ?_
  ·intro h148
   have g149 := dt h148
   refine KS ?_
   refine Jp 0 fun hp150 => ?_
   refine QbZ Qf8.toNat 4 rfl rng fun hb151 hb152 hb153 hb154 => ?_
   unfold Qac at hb151 hb153 hb154
   refine Qav [0, 0, 0, 4, 12, 28, 62, 126, 254, 0, 0, 1024, 3072, 7168, 15872, 32256, 65024, 0, 131072, 393216, 917504, 1, 2097663, 6422527, 16777215] Qc8 ?_
   refine Dv [] (Vbd QkU [.slice none 0 0]) (Dv [] Vm (Dv [] Vm (Dv [1] (Vn 0) (Dv [1] (Vfa QbR 0) (Dv [2] (QaQ sh3 0) (Dv [5] (Vi QeR 0) (Dv [0] (Vfa Qix 0) (Dv [0] (QaQ sh3 0) (Dv [] Vm ?_)))))))))
   refine Dv [] Vm (Dv [1] (Vn 0) (Dv [1] (Vfa QbR 0) (Dv [2] (QaQ sh3 0) (Dv [5] (Vi QeR 0) (Dv [0] (Vfa Qiv 0) (Dv [0] (QaQ sh3 0) (Dv [] Vm (Dv [1] (Vn 0) (Dv [1] (Vfa Qcx 0) ?_)))))))))
   refine Dv [2] (QaQ Qgn 0) (Dx0 [6] [6] [0] [fun G => Cl p1 [.slice none 0 0]] (fun G => xS (Scl [0] Qec [.slice none 0 0])) (Dv [] Va (Dv [] Va (Dv [] Va ?_))))
   refine Dn ⟨by kernel_rfl, fun G => ?_⟩
   refine Jw2 [(2, p1), (3, vi ((rv3.1.getD Qf8.toNat default).Line)), (4, vi ((rv3.1.getD Qf8.toNat default).Col)), (5, vi QgG)] [0, 1, 2, 3, 4, 5] [Cl p1 [.slice none 0 0]] ?_
   refine Jk [0, 2, 2, 2, 2, 3] ?_
   refine Jl [] (Ent.slNil (α := Qbv)) ?_
   have hq := q4 hrr ((Qaj.mk []), (rv3.1.getD Qf8.toNat default).Line, (rv3.1.getD Qf8.toNat default).Col, QgG) (by simp only [QbX, h12, h20, h22, h47, h120, h146, h148, hg4, hg18, hg25, hg45, hR119, cs4]); subst hq
   exact Kr (.slice none 0 0) rfl (.cellN 6 rfl Qec rfl (QaC _ _) rfl (.tmp rfl (.tmp rfl (.tmp rfl .nil)))) [0] en
  intro h148
  have g155 := df h148
  refine KS ?_
  refine Jp 0 fun hp156 => ?_
  refine Qav [0, 0, 2, 6, 14, 1, 33, 97, 255] Qc8 ?_
  refine Dv [] (Vbd QkU [.slice none 0 0]) (Dv [] Vm (Dv [0] (Vn 0) (Dv [0] (Vfa Qcx 0) (Dv [1] (QaQ Qgn 0) (Dx0 [5] [5] [0] [fun G => Cl p1 [.slice none 0 0]] (fun G => xS (Scl [0] Qec [.slice none 0 0])) (Dv [] Va (Dv [] Va (Dv [] Va ?_))))))))
  refine Dn ⟨by kernel_rfl, fun G => ?_⟩
  refine Jw2 [(2, p1), (3, vi 0), (4, vi 0), (5, vi QgG)] [0, 1, 2, 3, 4] [Cl p1 [.slice none 0 0]] ?_
  refine Jk [1, 1, 1, 1, 2] ?_
  refine Jl [] (Ent.slNil (α := Qbv)) ?_
  have hq := q4 hrr ((Qaj.mk []), 0, 0, QgG) (by simp only [QbX, h12, h20, h22, h47, h120, h146, h148, hg4, hg18, hg25, hg45, hR119, cs4]); subst hq
  exact Kr (.slice none 0 0) rfl (.cellN 5 rfl Qec rfl (QaC _ _) rfl (.tmp rfl (.tmp rfl (.tmp rfl .nil)))) [0] en
 intro h20
 have h158 := not_false h20
 refine KS ?_
 refine Jl [] (Ent.osNil (α := Qbv)) ?_
 have hterm171 : QbT rv3.1 (rv3.1.length + 1) 0 0 [] ≠ LR.oof := (Qg0 _ _ _ _ aM1).1
 refine Kl (γ := Nat × Int × Int × List Qbv × Option Addr × Nat) (fun (r160, Qex, QeT, QcT, a164, k165) => ⟨[(2, p1), (6, vl a9 k10 rv3.1), (10, p15), (11, p16)], [O a164 k165 QcT, Cl p15 [vl a9 k10 rv3.1, vi Qex, vi QeT], Cl p16 [vl a164 k165 QcT], S a9 k10 rv3.1, Cl p1 [.slice none 0 0]], QbT rv3.1 r160 Qex QeT QcT = QbT rv3.1 (rv3.1.length + 1) 0 0 [] /\ (-9223372036854775808 <= Qex /\ Qex <= 9223372036854775807) /\ (-9223372036854775808 <= QeT /\ QeT <= 9223372036854775807) /\ (0 <= Qex /\ Qex <= (rv3.1.length : Int)) /\ (QcT.length <= 8), r160⟩) ((rv3.1.length + 1), 0, 0, [], none, 0) [0, 0, 0, 0, 1] ⟨rfl, aM1, aM1, iv0, iv0⟩ ?_
 rintro ⟨r160, Qex, QeT, QcT, a164, k165⟩ ⟨hM166, hk167, hk168, hv169, hv170⟩
 refine QbB fun _ _ hL hA => ?_; dsimp only at hL hA; subst hL hA
 refine Fb 40 0 fun _ => Fb 40 3 fun _ => ?_
 rcases r160 with _ | r160
 ·exact absurd (hM166.symm.trans rfl) hterm171
 refine KS ?_
 refine Oq Vm ?_
 refine QaO (QeE (Qab.mk rv3.1 Qex QeT) (Str.mk [102, 117, 110, 99])) fun rv174 hg175 => ?_
 have hc176 := Qpl p15 (Qab.mk rv3.1 Qex QeT) a9 k10 ((Str.mk [102, 117, 110, 99])) pre pre pre pre rv174 hg175
 refine Oc [1, 2] Qpb hc176 ?_
 rintro - -
 refine KS ?_
 refine Kc ?_ ?_
 ·intro h177
  refine KS ?_
  refine Oq (Vfa QdZ 2) (Oq (QaQ Qia 2) (Oq (QcE QgV) (Oq Qby (KS ?_))))
  refine Kc ?_ ?_
  ·intro h179
   have g180 := eq_of_beq h179
   refine KS ?_
   refine Oq Vm ?_
   refine QaO (QbO (Qab.mk rv3.1 Qex QeT) 7) fun rv181 hg182 => ?_
   have hc183 := QjU p15 (Qab.mk rv3.1 Qex QeT) a9 k10 7 pre pre pre pre rv181 hg182
   refine Oc [0, 2] QjL hc183 ?_
   rintro - ⟨he184, he185, he186⟩
   unfold Qac at he184 he185
   have he186 : (0 <= rv181.at_ /\ rv181.at_ <= (rv3.1.length : Int)) := he186
   refine KS ?_
   refine Ke ?_
   have hR187 := q2 hM166 (.brk (rv181.at_, rv181.Err, QcT)) (by simp only [QbT, h12, h20, h158, h177, h179, hg4, hg18, hg175, hg182, cs4])
   refine KS ?_
   refine Oq Vm (Oq (Vn 0) (Oq (Vfa Qcx 0) (Oq (QaQ Qgn 0) (Oq Qby (Oq Vm ?_)))))
   refine Js 53 ?_ ?_
   ·intro h188
    have g189 := eq_of_beq h188
    refine Oq Vm (Oq (Vn 0) (Oq (Vfa QbR 0) (Oq (QaQ sh3 0) (Oq Vm (Oq (QcE QeR) (Oq Qcu (Oq Vpt (KS ?_))))))))
    refine Kc ?_ ?_
    ·intro h190
     have g191 := dt h190
     refine KS ?_
     refine Oq Vm ?_
     refine QaO (QbO (Qab.mk rv3.1 rv181.at_ rv181.Err) 4) fun rv192 hg193 => ?_
     have hc194 := QjU p15 (Qab.mk rv3.1 rv181.at_ rv181.Err) a9 k10 4 pre pre pre pre rv192 hg193
     refine Oc [0, 2] QjL hc194 ?_
     rintro - ⟨he195, he196, he197⟩
     unfold Qac at he195 he196
     have he197 : (0 <= rv192.at_ /\ rv192.at_ <= (rv3.1.length : Int)) := he197
     refine KS ?_
     refine Oq Vm (Oq (Vn 0) (Oq (Vfa Qcx 0) (Oq (QaQ Qgn 0) (Oq Qby (KS ?_)))))
     refine Kc ?_ ?_
     ·intro h198
      have g199 := eq_of_beq h198
      refine KS ?_
      refine Oq (Qc9 Qec 2) (Ost (Scl [4] Qec [vl a164 k165 QcT]) (Oq Va (Oq Va (Oq Va (KS ?_)))))
      refine Jl [2] (Ent.freeze _ _) ?_
      have hq := q4 hrr ((Qaj.mk QcT), 0, 0, 0) (by simp only [QbX, h12, h20, h158, h177, h179, h188, h190, h198, hg4, hg18, hg175, hg182, hR187, hg193, cs4]); subst hq
      exact Kr (vl a164 k165 QcT) rfl (.cellN 1 rfl Qec rfl (QaC _ _) rfl (.tmp rfl (.tmp rfl (.tmp rfl .nil)))) [0] en
     intro h198
     have g200 := ne_of_beq_false h198
     refine KS ?_
     refine Oq Vm (Oq (Vn 0) (Oq (Vfa QbR 0) (Oq (QaQ sh3 0) (Oq Vm (Oq (QcE QeR) (Oq Qcu (KS ?_)))))))
     refine Kc ?_ ?_
     ·intro h201
      have g202 := dt h201
      refine KS ?_
      refine Jp 0 fun hp203 => ?_
      refine QbZ rv192.at_.toNat 4 rfl rng fun hb204 hb205 hb206 hb207 => ?_
      unfold Qac at hb204 hb206 hb207
      refine Qav [0, 0, 0, 4, 12, 28, 62, 126, 254, 0, 0, 1024, 3072, 7168, 15872, 32256, 65024, 0, 131072, 393216, 917504, 1, 2097663, 6422527, 16777215] Qc8 ?_
      refine Dv [] (Vbd QkU [.slice none 0 0]) (Dv [] Vm (Dv [] Vm (Dv [1] (Vn 0) (Dv [1] (Vfa QbR 0) (Dv [2] (QaQ sh3 0) (Dv [5] (Vi QeR 0) (Dv [0] (Vfa Qix 0) (Dv [0] (QaQ sh3 0) (Dv [] Vm ?_)))))))))
      refine Dv [] Vm (Dv [1] (Vn 0) (Dv [1] (Vfa QbR 0) (Dv [2] (QaQ sh3 0) (Dv [5] (Vi QeR 0) (Dv [0] (Vfa Qiv 0) (Dv [0] (QaQ sh3 0) (Dv [] Vm (Dv [1] (Vn 0) (Dv [1] (Vfa Qcx 0) ?_)))))))))
      refine Dv [2] (QaQ Qgn 0) (Dx0 [6] [6] [0] [fun G => Cl p1 [.slice none 0 0]] (fun G => xS (Scl [0] Qec [.slice none 0 0])) (Dv [] Va (Dv [] Va (Dv [] Va ?_))))
      refine Dn ⟨by kernel_rfl, fun G => ?_⟩
      refine Jw2 [(2, p1), (3, vi ((rv3.1.getD rv192.at_.toNat default).Line)), (4, vi ((rv3.1.getD rv192.at_.toNat default).Col)), (5, vi rv192.Err)] [0, 1, 2, 3, 4, 5] [Cl p1 [.slice none 0 0]] ?_
      refine Jk [0, 2, 2, 2, 2, 3] ?_
      refine Jl [] (Ent.slNil (α := Qbv)) ?_
      have hq := q4 hrr ((Qaj.mk []), (rv3.1.getD rv192.at_.toNat default).Line, (rv3.1.getD rv192.at_.toNat default).Col, rv192.Err) (by simp only [QbX, h12, h20, h158, h177, h179, h188, h190, h198, h201, hg4, hg18, hg175, hg182, hR187, hg193, cs4]); subst hq
      exact Kr (.slice none 0 0) rfl (.cellN 6 rfl Qec rfl (QaC _ _) rfl (.tmp rfl (.tmp rfl (.tmp rfl .nil)))) [0] en
     intro h201
     have g208 := df h201
     refine KS ?_
     refine Jp 0 fun hp209 => ?_
     refine Qav [0, 0, 2, 6, 14, 1, 33, 97, 255] Qc8 ?_
     refine Dv [] (Vbd QkU [.slice none 0 0]) (Dv [] Vm (Dv [0] (Vn 0) (Dv [0] (Vfa Qcx 0) (Dv [1] (QaQ Qgn 0) (Dx0 [5] [5] [0] [fun G => Cl p1 [.slice none 0 0]] (fun G => xS (Scl [0] Qec [.slice none 0 0])) (Dv [] Va (Dv [] Va (Dv [] Va ?_))))))))
     refine Dn ⟨by kernel_rfl, fun G => ?_⟩
     refine Jw2 [(2, p1), (3, vi 0), (4, vi 0), (5, vi rv192.Err)] [0, 1, 2, 3, 4] [Cl p1 [.slice none 0 0]] ?_
     refine Jk [1, 1, 1, 1, 2] ?_
     refine Jl [] (Ent.slNil (α := Qbv)) ?_
     have hq := q4 hrr ((Qaj.mk []), 0, 0, rv192.Err) (by simp only [QbX, h12, h20, h158, h177, h179, h188, h190, h198, h201, hg4, hg18, hg175, hg182, hR187, hg193, cs4]); subst hq
     exact Kr (.slice none 0 0) rfl (.cellN 5 rfl Qec rfl (QaC _ _) rfl (.tmp rfl (.tmp rfl (.tmp rfl .nil)))) [0] en
    intro h190
    have g210 := df h190
    refine KS ?_
    refine Oq Vm (Oq (Vn 0) (Oq (Vfa Qcx 0) (Oq (QaQ Qgn 0) (Oq Qby (KS ?_)))))
    refine Kc ?_ ?_
    ·intro h211
     have g212 := eq_of_beq h211
     refine KS ?_
     refine Oq (Qc9 Qec 2) (Ost (Scl [4] Qec [vl a164 k165 QcT]) (Oq Va (Oq Va (Oq Va (KS ?_)))))
     refine Jl [2] (Ent.freeze _ _) ?_
     have hq := q4 hrr ((Qaj.mk QcT), 0, 0, 0) (by simp only [QbX, h12, h20, h158, h177, h179, h188, h190, h211, hg4, hg18, hg175, hg182, hR187, cs4]); subst hq
     exact Kr (vl a164 k165 QcT) rfl (.cellN 1 rfl Qec rfl (QaC _ _) rfl (.tmp rfl (.tmp rfl (.tmp rfl .nil)))) [0] en
    intro h211
    exact absurd h211 (by first | (simp [h188]; done) | (simp only [bne, h188]; decide) | (simp only [bne, h188, Bool.not_true, Bool.not_false]; decide) | (exfalso; omega) | (intro hq; simp only [bne, hq, Bool.not_false, Bool.not_true, reduceCtorEq] at h188))
   intro h188
   have g213 := ne_of_beq_false h188
   refine Osk (Osk (Osk (Osk (Osk (Osk (Osk (Oq Vpf (KS ?_))))))))
   refine Kf (KS ?_)
   refine Oq Vm (Oq (Vn 0) (Oq (Vfa Qcx 0) (Oq (QaQ Qgn 0) (Oq Qby (KS ?_)))))
   refine Kc ?_ ?_
   ·intro h214
    exact absurd h214 (by first | (simp [h188]; done) | (simp only [bne, h188]; decide) | (simp only [bne, h188, Bool.not_true, Bool.not_false]; decide) | (exfalso; omega) | (intro hq; simp only [bne, hq, Bool.not_false, Bool.not_true, reduceCtorEq] at h188))
   intro h214
   have g215 := ne_of_beq_false h214
   refine KS ?_
   refine Oq Vm (Oq (Vn 0) (Oq (Vfa QbR 0) (Oq (QaQ sh3 0) (Oq Vm (Oq (QcE QeR) (Oq Qcu (KS ?_)))))))
   refine Kc ?_ ?_
   ·intro h216
    have g217 := dt h216
    refine KS ?_
    refine Jp 0 fun hp218 => ?_
    refine QbZ rv181.at_.toNat 4 rfl rng fun hb219 hb220 hb221 hb222 => ?_
    unfold Qac at hb219 hb221 hb222
    refine Qav [0, 0, 0, 4, 12, 28, 62, 126, 254, 0, 0, 1024, 3072, 7168, 15872, 32256, 65024, 0, 131072, 393216, 917504, 1, 2097663, 6422527, 16777215] Qc8 ?_
    refine Dv [] (Vbd QkU [.slice none 0 0]) (Dv [] Vm (Dv [] Vm (Dv [1] (Vn 0) (Dv [1] (Vfa QbR 0) (Dv [2] (QaQ sh3 0) (Dv [5] (Vi QeR 0) (Dv [0] (Vfa Qix 0) (Dv [0] (QaQ sh3 0) (Dv [] Vm ?_)))))))))
    refine Dv [] Vm (Dv [1] (Vn 0) (Dv [1] (Vfa QbR 0) (Dv [2] (QaQ sh3 0) (Dv [5] (Vi QeR 0) (Dv [0] (Vfa Qiv 0) (Dv [0] (QaQ sh3 0) (Dv [] Vm (Dv [1] (Vn 0) (Dv [1] (Vfa Qcx 0) ?_)))))))))
    refine Dv [2] (QaQ Qgn 0) (Dx0 [6] [6] [0] [fun G => Cl p1 [.slice none 0 0]] (fun G => xS (Scl [0] Qec [.slice none 0 0])) (Dv [] Va (Dv [] Va (Dv [] Va ?_))))
    refine Dn ⟨by kernel_rfl, fun G => ?_⟩
    refine Jw2 [(2, p1), (3, vi ((rv3.1.getD rv181.at_.toNat default).Line)), (4, vi ((rv3.1.getD rv181.at_.toNat default).Col)), (5, vi rv181.Err)] [0, 1, 2, 3, 4, 5] [Cl p1 [.slice none 0 0]] ?_
    refine Jk [0, 2, 2, 2, 2, 3] ?_
    refine Jl [] (Ent.slNil (α := Qbv)) ?_
    have hq := q4 hrr ((Qaj.mk []), (rv3.1.getD rv181.at_.toNat default).Line, (rv3.1.getD rv181.at_.toNat default).Col, rv181.Err) (by simp only [QbX, h12, h20, h158, h177, h179, h188, h214, h216, hg4, hg18, hg175, hg182, hR187, cs4]); subst hq
    exact Kr (.slice none 0 0) rfl (.cellN 6 rfl Qec rfl (QaC _ _) rfl (.tmp rfl (.tmp rfl (.tmp rfl .nil)))) [0] en
   intro h216
   have g223 := df h216
   refine KS ?_
   refine Jp 0 fun hp224 => ?_
   refine Qav [0, 0, 2, 6, 14, 1, 33, 97, 255] Qc8 ?_
   refine Dv [] (Vbd QkU [.slice none 0 0]) (Dv [] Vm (Dv [0] (Vn 0) (Dv [0] (Vfa Qcx 0) (Dv [1] (QaQ Qgn 0) (Dx0 [5] [5] [0] [fun G => Cl p1 [.slice none 0 0]] (fun G => xS (Scl [0] Qec [.slice none 0 0])) (Dv [] Va (Dv [] Va (Dv [] Va ?_))))))))
   refine Dn ⟨by kernel_rfl, fun G => ?_⟩
   refine Jw2 [(2, p1), (3, vi 0), (4, vi 0), (5, vi rv181.Err)] [0, 1, 2, 3, 4] [Cl p1 [.slice none 0 0]] ?_
   refine Jk [1, 1, 1, 1, 2] ?_
   refine Jl [] (Ent.slNil (α := Qbv)) ?_
   have hq := q4 hrr ((Qaj.mk []), 0, 0, rv181.Err) (by simp only [QbX, h12, h20, h158, h177, h179, h188, h214, h216, hg4, hg18, hg175, hg182, hR187, cs4]); subst hq
   exact Kr (.slice none 0 0) rfl (.cellN 5 rfl Qec rfl (QaC _ _) rfl (.tmp rfl (.tmp rfl (.tmp rfl .nil)))) [0] en
  intro h179
  have g225 := ne_of_beq_false h179
  refine KS ?_
  refine Jp 2 fun hp226 => ?_
  refine Qav [0, 1, 0, 4, 12, 31, 63, 127] Qc8 ?_
  refine Dv [0] (Vfa QdZ 0) (Dv [3] (QaQ Qia 0) (Dv [] Vm ?_))
  refine QaO (QcO (Qab.mk rv3.1 Qex QeT)) fun rv228 hg229 => ?_
  refine Dx [1, 4] [1] [3, 0, 1, 2] (fun G => .agg #[.string (bs rv228.1.Name), (G.g 3 0)]) [fun G => SP.fact (rv228.1.Name.b.length <= 140737488355328 /\ Qac rv228.2.at_ /\ Qac rv228.2.Err /\ (0 <= rv228.2.at_ /\ rv228.2.at_ <= ((Qab.mk rv3.1 Qex QeT).l.length : Int))), fun G => sl (G.g 3 0) rv228.1.Blocks, fun G => Cl p15 [vl a9 k10 rv3.1, vi rv228.2.at_, vi rv228.2.Err]] (fun G => xC [0, 0] Qud (Quu p15 (Qab.mk rv3.1 Qex QeT) a9 k10 pre pre pre rv228 hg229)) (Dx [] [] [0] (fun G => (G.g 4 0)) [fun G => Cr (G.g 4 0) 1 [.string (bs rv228.1.Name), (G.g 3 0)]] (fun G => xA (AsV QgV QqK [.agg #[.string (bs rv228.1.Name), (G.g 3 0)]] [.string (bs rv228.1.Name), (G.g 3 0)])) ?_)
  have hn232 := la QcT ([rv228.1] : List Qbv)
  refine Dx [2, 6, 7, 9] [2, 9] [2, 1, 0] (fun G => (G.g 5 0)) [fun G => os (G.g 5 0) ((QcT ++ [rv228.1]) : List Qbv)] (fun G => by refine xf 1 rfl ?_; rintro ⟨he233, he234, he235, he236⟩; unfold Qac at he234 he235; exact xp [3, 2] rfl (Ent.cr1 (α := Qbv) (A := [sl (G.g 3 0) rv228.1.Blocks]) _ rv228.1 _ aB1 (fun h => ⟨_, rfl, aS1, Qa7 (i := 0) rfl h⟩)) (xA (ApO [2, 0] QgV QgV QqK))) (Dv [0] (Vfa QdZ 0) (Dx0 [3, 10] [3] [1, 0] [fun G => Cl p16 [(G.g 5 0)]] (fun G => x1 1 rfl Qf2 fun ho237 => (xS (OpS.frame [0] rfl (OpS.storeClF [(G.g 5 0)] [(G.g 5 0)] rfl rfl rfl Qia (Qcs ho237) rfl (by simp only [List.all_cons, List.all_nil, ho237, Bool.and_true, Bool.true_and] <;> rfl) aB1 rfl)))) ?_))
  refine Dn ⟨by kernel_rfl, fun G => ?_⟩
  refine Jw2 [(2, p1), (6, vl a9 k10 rv3.1), (10, p15), (11, p16)] [0, 4, 5] [SP.fact (rv228.1.Name.b.length <= 140737488355328 /\ Qac rv228.2.at_ /\ Qac rv228.2.Err /\ (0 <= rv228.2.at_ /\ rv228.2.at_ <= ((Qab.mk rv3.1 Qex QeT).l.length : Int))), sl (G.g 3 0) rv228.1.Blocks, Cl p15 [vl a9 k10 rv3.1, vi rv228.2.at_, vi rv228.2.Err], os (G.g 5 0) ((QcT ++ [rv228.1]) : List Qbv), Cl p16 [(G.g 5 0)]] ?_
  generalize G.g 3 0 = c227, G.g 5 0 = c231
  refine Jf 3 rfl ?_; rintro ⟨he238, he239, he240, he241⟩
  unfold Qac at he239 he240
  refine Jk [1, 2, 3, 4, 4, 4] ?_
  refine Jo 2 ?_; rintro a242 k243 rfl
  refine Fb 40 2 fun _ => ?_
  refine Jo 4 ?_; rintro a245 k246 rfl
  refine Fb 40 4 fun _ => KS ?_
  exact Kg (r160, rv228.2.at_, rv228.2.Err, (QcT ++ [rv228.1]), a245, k246) [4, 3, 3, 0, 1] ⟨(q3 hM166 (by simp only [QbT, h12, h20, h158, h177, h179, hg4, hg18, hg175, hg229, cs4])), aM1, aM1, iv1, iv1⟩
 intro h177
 refine Ke ?_
 have hR249 := q2 hM166 (.brk (Qex, QeT, QcT)) (by simp only [QbT, h12, h20, h158, h177, hg4, hg18, hg175, cs4])
 refine KS ?_
 refine Oq Vm (Oq (Vn 0) (Oq (Vfa Qcx 0) (Oq (QaQ Qgn 0) (Oq Qby (Oq Vm ?_)))))
 refine Js 53 ?_ ?_
 ·intro h250
  have g251 := eq_of_beq h250
  refine Oq Vm (Oq (Vn 0) (Oq (Vfa QbR 0) (Oq (QaQ sh3 0) (Oq Vm (Oq (QcE QeR) (Oq Qcu (Oq Vpt (KS ?_))))))))
  refine Kc ?_ ?_
  ·intro h252
   have g253 := dt h252
   refine KS ?_
   refine Oq Vm ?_
   refine QaO (QbO (Qab.mk rv3.1 Qex QeT) 4) fun rv254 hg255 => ?_
   have hc256 := QjU p15 (Qab.mk rv3.1 Qex QeT) a9 k10 4 pre pre pre pre rv254 hg255
   refine Oc [0, 2] QjL hc256 ?_
   rintro - ⟨he257, he258, he259⟩
   unfold Qac at he257 he258
   have he259 : (0 <= rv254.at_ /\ rv254.at_ <= (rv3.1.length : Int)) := he259
   refine KS ?_
   refine Oq Vm (Oq (Vn 0) (Oq (Vfa Qcx 0) (Oq (QaQ Qgn 0) (Oq Qby (KS ?_)))))
   refine Kc ?_ ?_
   ·intro h260
    have g261 := eq_of_beq h260
    refine KS ?_
    refine Oq (Qc9 Qec 2) (Ost (Scl [4] Qec [vl a164 k165 QcT]) (Oq Va (Oq Va (Oq Va (KS ?_)))))
    refine Jl [2] (Ent.freeze _ _) ?_
    have hq := q4 hrr ((Qaj.mk QcT), 0, 0, 0) (by simp only [QbX, h12, h20, h158, h177, h250, h252, h260, hg4, hg18, hg175, hR249, hg255, cs4]); subst hq
    exact Kr (vl a164 k165 QcT) rfl (.cellN 1 rfl Qec rfl (QaC _ _) rfl (.tmp rfl (.tmp rfl (.tmp rfl .nil)))) [0] en
   intro h260
   have g262 := ne_of_beq_false h260
   refine KS ?_
   refine Oq Vm (Oq (Vn 0) (Oq (Vfa QbR 0) (Oq (QaQ sh3 0) (Oq Vm (Oq (QcE QeR) (Oq Qcu (KS ?_)))))))
   refine Kc ?_ ?_
   ·intro h263
    have g264 := dt h263
    refine KS ?_
    refine Jp 0 fun hp265 => ?_
    refine QbZ rv254.at_.toNat 4 rfl rng fun hb266 hb267 hb268 hb269 => ?_
    unfold Qac at hb266 hb268 hb269
    refine Qav [0, 0, 0, 4, 12, 28, 62, 126, 254, 0, 0, 1024, 3072, 7168, 15872, 32256, 65024, 0, 131072, 393216, 917504, 1, 2097663, 6422527, 16777215] Qc8 ?_
    refine Dv [] (Vbd QkU [.slice none 0 0]) (Dv [] Vm (Dv [] Vm (Dv [1] (Vn 0) (Dv [1] (Vfa QbR 0) (Dv [2] (QaQ sh3 0) (Dv [5] (Vi QeR 0) (Dv [0] (Vfa Qix 0) (Dv [0] (QaQ sh3 0) (Dv [] Vm ?_)))))))))
    refine Dv [] Vm (Dv [1] (Vn 0) (Dv [1] (Vfa QbR 0) (Dv [2] (QaQ sh3 0) (Dv [5] (Vi QeR 0) (Dv [0] (Vfa Qiv 0) (Dv [0] (QaQ sh3 0) (Dv [] Vm (Dv [1] (Vn 0) (Dv [1] (Vfa Qcx 0) ?_)))))))))
    refine Dv [2] (QaQ Qgn 0) (Dx0 [6] [6] [0] [fun G => Cl p1 [.slice none 0 0]] (fun G => xS (Scl [0] Qec [.slice none 0 0])) (Dv [] Va (Dv [] Va (Dv [] Va ?_))))
    refine Dn ⟨by kernel_rfl, fun G => ?_⟩
    refine Jw2 [(2, p1), (3, vi ((rv3.1.getD rv254.at_.toNat default).Line)), (4, vi ((rv3.1.getD rv254.at_.toNat default).Col)), (5, vi rv254.Err)] [0, 1, 2, 3, 4, 5] [Cl p1 [.slice none 0 0]] ?_
    refine Jk [0, 2, 2, 2, 2, 3] ?_
    refine Jl [] (Ent.slNil (α := Qbv)) ?_
    have hq := q4 hrr ((Qaj.mk []), (rv3.1.getD rv254.at_.toNat default).Line, (rv3.1.getD rv254.at_.toNat default).Col, rv254.Err) (by simp only [QbX, h12, h20, h158, h177, h250, h252, h260, h263, hg4, hg18, hg175, hR249, hg255, cs4]); subst hq
    exact Kr (.slice none 0 0) rfl (.cellN 6 rfl Qec rfl (QaC _ _) rfl (.tmp rfl (.tmp rfl (.tmp rfl .nil)))) [0] en
   intro h263
   have g270 := df h263
   refine KS ?_
   refine Jp 0 fun hp271 => ?_
   refine Qav [0, 0, 2, 6, 14, 1, 33, 97, 255] Qc8 ?_
   refine Dv [] (Vbd QkU [.slice none 0 0]) (Dv [] Vm (Dv [0] (Vn 0) (Dv [0] (Vfa Qcx 0) (Dv [1] (QaQ Qgn 0) (Dx0 [5] [5] [0] [fun G => Cl p1 [.slice none 0 0]] (fun G => xS (Scl [0] Qec [.slice none 0 0])) (Dv [] Va (Dv [] Va (Dv [] Va ?_))))))))
   refine Dn ⟨by kernel_rfl, fun G => ?_⟩
   refine Jw2 [(2, p1), (3, vi 0), (4, vi 0), (5, vi rv254.Err)] [0, 1, 2, 3, 4] [Cl p1 [.slice none 0 0]] ?_
   refine Jk [1, 1, 1, 1, 2] ?_
   refine Jl [] (Ent.slNil (α := Qbv)) ?_
   have hq := q4 hrr ((Qaj.mk []), 0, 0, rv254.Err) (by simp only [QbX, h12, h20, h158, h177, h250, h252, h260, h263, hg4, hg18, hg175, hR249, hg255, cs4]); subst hq
   exact Kr (.slice none 0 0) rfl (.cellN 5 rfl Qec rfl (QaC _ _) rfl (.tmp rfl (.tmp rfl (.tmp rfl .nil)))) [0] en
  intro h252
  have g272 := df h252
  refine KS ?_
  refine Oq Vm (Oq (Vn 0) (Oq (Vfa Qcx 0) (Oq (QaQ Qgn 0) (Oq Qby (KS ?_)))))
  refine Kc ?_ ?_
  ·intro h273
   have g274 := eq_of_beq h273
   refine KS ?_
   refine Oq (Qc9 Qec 2) (Ost (Scl [4] Qec [vl a164 k165 QcT]) (Oq Va (Oq Va (Oq Va (KS ?_)))))
   refine Jl [2] (Ent.freeze _ _) ?_
   have hq := q4 hrr ((Qaj.mk QcT), 0, 0, 0) (by simp only [QbX, h12, h20, h158, h177, h250, h252, h273, hg4, hg18, hg175, hR249, cs4]); subst hq
   exact Kr (vl a164 k165 QcT) rfl (.cellN 1 rfl Qec rfl (QaC _ _) rfl (.tmp rfl (.tmp rfl (.tmp rfl .nil)))) [0] en
  intro h273
  exact absurd h273 (by first | (simp [h250]; done) | (simp only [bne, h250]; decide) | (simp only [bne, h250, Bool.not_true, Bool.not_false]; decide) | (exfalso; omega) | (intro hq; simp only [bne, hq, Bool.not_false, Bool.not_true, reduceCtorEq] at h250))
 intro h250
 have g275 := ne_of_beq_false h250
 refine Osk (Osk (Osk (Osk (Osk (Osk (Osk (Oq Vpf (KS ?_))))))))
 refine Kf (KS ?_)
 refine Oq Vm (Oq (Vn 0) (Oq (Vfa Qcx 0) (Oq (QaQ Qgn 0) (Oq Qby (KS ?_)))))
 refine Kc ?_ ?_
 ·intro h276
  exact absurd h276 (by first | (simp [h250]; done) | (simp only [bne, h250]; decide) | (simp only [bne, h250, Bool.not_true, Bool.not_false]; decide) | (exfalso; omega) | (intro hq; simp only [bne, hq, Bool.not_false, Bool.not_true, reduceCtorEq] at h250))
 intro h276
 have g277 := ne_of_beq_false h276
 refine KS ?_
 refine Oq Vm (Oq (Vn 0) (Oq (Vfa QbR 0) (Oq (QaQ sh3 0) (Oq Vm (Oq (QcE QeR) (Oq Qcu (KS ?_)))))))
 refine Kc ?_ ?_
 ·intro h278
  have g279 := dt h278
  refine KS ?_
  refine Jp 0 fun hp280 => ?_
  refine QbZ Qex.toNat 4 rfl rng fun hb281 hb282 hb283 hb284 => ?_
  unfold Qac at hb281 hb283 hb284
  refine Qav [0, 0, 0, 4, 12, 28, 62, 126, 254, 0, 0, 1024, 3072, 7168, 15872, 32256, 65024, 0, 131072, 393216, 917504, 1, 2097663, 6422527, 16777215] Qc8 ?_
  refine Dv [] (Vbd QkU [.slice none 0 0]) (Dv [] Vm (Dv [] Vm (Dv [1] (Vn 0) (Dv [1] (Vfa QbR 0) (Dv [2] (QaQ sh3 0) (Dv [5] (Vi QeR 0) (Dv [0] (Vfa Qix 0) (Dv [0] (QaQ sh3 0) (Dv [] Vm ?_)))))))))
  refine Dv [] Vm (Dv [1] (Vn 0) (Dv [1] (Vfa QbR 0) (Dv [2] (QaQ sh3 0) (Dv [5] (Vi QeR 0) (Dv [0] (Vfa Qiv 0) (Dv [0] (QaQ sh3 0) (Dv [] Vm (Dv [1] (Vn 0) (Dv [1] (Vfa Qcx 0) ?_)))))))))
  refine Dv [2] (QaQ Qgn 0) (Dx0 [6] [6] [0] [fun G => Cl p1 [.slice none 0 0]] (fun G => xS (Scl [0] Qec [.slice none 0 0])) (Dv [] Va (Dv [] Va (Dv [] Va ?_))))
  refine Dn ⟨by kernel_rfl, fun G => ?_⟩
  refine Jw2 [(2, p1), (3, vi ((rv3.1.getD Qex.toNat default).Line)), (4, vi ((rv3.1.getD Qex.toNat default).Col)), (5, vi QeT)] [0, 1, 2, 3, 4, 5] [Cl p1 [.slice none 0 0]] ?_
  refine Jk [0, 2, 2, 2, 2, 3] ?_
  refine Jl [] (Ent.slNil (α := Qbv)) ?_
  have hq := q4 hrr ((Qaj.mk []), (rv3.1.getD Qex.toNat default).Line, (rv3.1.getD Qex.toNat default).Col, QeT) (by simp only [QbX, h12, h20, h158, h177, h250, h276, h278, hg4, hg18, hg175, hR249, cs4]); subst hq
  exact Kr (.slice none 0 0) rfl (.cellN 6 rfl Qec rfl (QaC _ _) rfl (.tmp rfl (.tmp rfl (.tmp rfl .nil)))) [0] en
 intro h278
 have g285 := df h278
 refine KS ?_
 refine Jp 0 fun hp286 => ?_
 refine Qav [0, 0, 2, 6, 14, 1, 33, 97, 255] Qc8 ?_
 refine Dv [] (Vbd QkU [.slice none 0 0]) (Dv [] Vm (Dv [0] (Vn 0) (Dv [0] (Vfa Qcx 0) (Dv [1] (QaQ Qgn 0) (Dx0 [5] [5] [0] [fun G => Cl p1 [.slice none 0 0]] (fun G => xS (Scl [0] Qec [.slice none 0 0])) (Dv [] Va (Dv [] Va (Dv [] Va ?_))))))))
 refine Dn ⟨by kernel_rfl, fun G => ?_⟩
 refine Jw2 [(2, p1), (3, vi 0), (4, vi 0), (5, vi QeT)] [0, 1, 2, 3, 4] [Cl p1 [.slice none 0 0]] ?_
 refine Jk [1, 1, 1, 1, 2] ?_
 refine Jl [] (Ent.slNil (α := Qbv)) ?_
 have hq := q4 hrr ((Qaj.mk []), 0, 0, QeT) (by simp only [QbX, h12, h20, h158, h177, h250, h276, h278, hg4, hg18, hg175, hR249, cs4]); subst hq
 exact Kr (.slice none 0 0) rfl (.cellN 5 rfl Qec rfl (QaC _ _) rfl (.tmp rfl (.tmp rfl (.tmp rfl .nil)))) [0] en
theorem Qs7 (a : List Int) (aa0 : Option Addr) (ak0 : Nat) (b : List Int) (ba0 : Option Addr) (bk0 : Nat) (rr : Bool) (hrr : Qgk a b = rr) : FT Tryd.prog 17 #[vl aa0 ak0 a, vl ba0 bk0 b] [S aa0 ak0 a, S ba0 bk0 b] (fun g : Unit => True) (fun g => vb rr) (fun g => []) := by
 refine FTi Tryd.func17 fun w0 M0 F0 => Fb 8 0 fun _ => Fo 0 fun ho2 => Fb 8 1 fun _ => Fo 1 fun ho4 => ?_
 refine KS ?_
 refine Oq Va (KS ?_)
 refine Oq Vm (Oq (QcE Qb2) (Oq Vm (Oq (QcE Qb2) (Oq QgA (KS ?_)))))
 refine Kc ?_ ?_
 ·intro h5
  have g6 := QbL h5
  refine KS ?_
  refine Oq Va (KS ?_)
  have hq := q4 hrr false (by simp only [Qgk, h5, cs4]); subst hq
  exact Kr () rfl (.tmp rfl .nil) [] trivial
 intro h5
 have g7 := QaA h5
 refine KS ?_
 refine Oq Va (KS ?_)
 refine Kl (γ := Nat × Int) (fun (r8, i_9) => ⟨[(0, vl aa0 ak0 a), (1, vl ba0 bk0 b), (5, vi i_9)], [S aa0 ak0 a, S ba0 bk0 b], Qe8 a b r8 i_9 = Qe8 a b (((a.length : Int) - 0).toNat) 0 /\ r8 = ((a.length : Int) - i_9).toNat /\ (0 : Int) <= i_9 /\ i_9 <= (a.length : Int) /\ (-9223372036854775808 <= i_9 /\ i_9 <= 9223372036854775807), r8⟩) (((a.length : Int) - 0).toNat, 0) [0, 1] ⟨rfl, rfl, aM1, aM1, aM1⟩ ?_
 rintro ⟨r8, i_9⟩ ⟨hM10, hr11, hi12, hi13, hk14⟩
 refine QbB fun _ _ hL hA => ?_; dsimp only at hL hA; subst hL hA
 refine Fb 8 0 fun _ => Fo 0 fun ho16 => Fb 8 1 fun _ => Fo 1 fun ho18 => KS ?_
 refine Oq Vm (Oq Vm (Oq (QcE Qb2) (Oq Qcu (KS ?_))))
 refine Kc ?_ ?_
 ·intro h19
  have g20 := dt h19
  obtain ⟨r21, rfl⟩ := scc (n := r8) aM1
  refine KS ?_
  refine Kq [0, 0, 3, 7, 0, 0, 48, 112, 255] Qc8 ?_
  refine Qv [] Vm (Qv [] Vm (Qv [0] (Vi Qb2 0) ?_))
  have hb22 := ok1 (i := i_9.toNat) ho16 rng
  refine Qv [0] (QdG sh3 0) (Qv [] Vm (Qv [] Vm (Qv [1] (Vi Qb2 0) ?_)))
  have hb23 := ok1 (i := i_9.toNat) ho18 rng
  refine Qv [1] (QdG sh3 0) (Qv [] QgA ?_)
  refine Qn ⟨by kernel_rfl, ?_⟩
  refine Kc ?_ ?_
  ·intro h24
   have g25 := QbL h24
   refine KS ?_
   refine Oq Va (KS ?_)
   have hR26 := q2 hM10 (.ret false) (by simp only [Qe8, h5, h19, h24, cs4])
   have hq := q4 hrr false (by simp only [Qgk, h5, h19, h24, hR26, cs4]); subst hq
   exact Kr () rfl (.tmp rfl .nil) [] trivial
  intro h24
  have g27 := QaA h24
  refine KS ?_
  refine Oq Vm (Oq Qbd (Oq Va (KS ?_)))
  exact Kg (r21, (i_9 + 1)) [0, 1] ⟨(q3 hM10 (by simp only [Qe8, h5, h19, h24, cs4])), aM1, aM1, aM1, aM1⟩
 intro h19
 have g28 := df h19
 obtain rfl : r8 = 0 := by omega
 refine Ke ?_
 have hR29 := q2 hM10 (.brk ()) (by simp only [Qe8, h5, h19, cs4])
 refine KS ?_
 refine Oq Va (KS ?_)
 have hq := q4 hrr true (by simp only [Qgk, h5, h19, hR29, cs4]); subst hq
 exact Kr () rfl (.tmp rfl .nil) [] trivial
theorem Quf (c : Int) (QqQ : 0 <= c /\ c <= 255) (rr : Bool) (hrr : Qd3 c = rr) : FT Tryd.prog 97 #[.int .u8 c] [] (fun g : Unit => True) (fun g => vb rr) (fun g => []) := by
 refine FTi Tryd.func97 fun w0 M0 F0 => ?_
 refine KS ?_
 refine Oq Va (KS ?_)
 refine Oq Vm (Oq QeU (Oq Vm ?_))
 refine Js 5 ?_ ?_
 ·intro h1
  have g2 := dt h1
  refine Oq Vm (Oq Qh8 (Oq Vpt (Oq Vm ?_)))
  refine Js 9 ?_ ?_
  ·intro h3
   have g4 := dt h3
   refine Osk (Osk (Osk (Osk (Osk (Osk (Oq Vpt (Oq Va (KS ?_))))))))
   have hq := q4 hrr true (by simp only [Qd3, h1, h3, cs4]); subst hq
   exact Kr () rfl (.tmp rfl .nil) [] trivial
  intro h3
  have g5 := df h3
  refine Oq Vm (Oq QeU (Oq Vm ?_))
  refine Js 12 ?_ ?_
  ·intro h6
   have g7 := dt h6
   refine Oq Vm (Oq Qh8 (Oq Vpt (Oq Vpf (Oq Va (KS ?_)))))
   have hq := q4 hrr (decide (c <= 90)) (by simp only [Qd3, h1, h3, h6, cs4]); subst hq
   exact Kr () rfl (.tmp rfl .nil) [] trivial
  intro h6
  have g8 := df h6
  refine Osk (Osk (Oq Vpf (Oq Vpf (Oq Va (KS ?_)))))
  have hq := q4 hrr false (by simp only [Qd3, h1, h3, h6, cs4]); subst hq
  exact Kr () rfl (.tmp rfl .nil) [] trivial
 intro h1
 have g9 := df h1
 refine Osk (Osk (Oq Vpf (Oq Vm (Oq Vm (Oq QeU (Oq Vm ?_))))))
 refine Js 12 ?_ ?_
 ·intro h10
  have g11 := dt h10
  refine Oq Vm (Oq Qh8 (Oq Vpt (Oq Vpf (Oq Va (KS ?_)))))
  have hq := q4 hrr (decide (c <= 90)) (by simp only [Qd3, h1, h10, cs4]); subst hq
  exact Kr () rfl (.tmp rfl .nil) [] trivial
 intro h10
 have g12 := df h10
 refine Osk (Osk (Oq Vpf (Oq Vpf (Oq Va (KS ?_)))))
 have hq := q4 hrr false (by simp only [Qd3, h1, h10, cs4]); subst hq
 exact Kr () rfl (.tmp rfl .nil) [] trivial
theorem Qtb (s : List Str) (sa0 : Option Addr) (sk0 : Nat) (v : Str) (QqC : v.b.length <= 140737488355328) (rr : Int) (hrr : Qd5 s v = rr) : FT Tryd.prog 113 #[vl sa0 sk0 s, .string (bs v)] [S sa0 sk0 s] (fun g : Unit => Qac rr) (fun g => vi rr) (fun g => []) := by
 refine FTi Tryd.func113 fun w0 M0 F0 => Fb 16 0 fun _ => ?_
 refine FoS 0 fun ho2 => ?_
 refine KS ?_
 refine Oq Va (KS ?_)
 refine Oq Vm (Oq (QcE Qcy) (Oq Vm (KS ?_)))
 refine Kl (γ := Nat × Int) (fun (r3, Qff) => ⟨[(0, vl sa0 sk0 s), (1, .string (bs v)), (7, vi (s.length : Int)), (8, vi Qff)], [S sa0 sk0 s], Qct s v r3 Qff = Qct s v (((s.length : Int) - 0).toNat) 0 /\ r3 = ((s.length : Int) - Qff).toNat /\ (0 : Int) <= Qff /\ Qff <= (s.length : Int) /\ (-9223372036854775808 <= Qff /\ Qff <= 9223372036854775807), r3⟩) (((s.length : Int) - 0).toNat, 0) [0] ⟨rfl, rfl, aM1, aM1, aM1⟩ ?_
 rintro ⟨r3, Qff⟩ ⟨hM5, hr6, hi7, hi8, hk9⟩
 refine QbB fun _ _ hL hA => ?_; dsimp only at hL hA; subst hL hA
 refine Fb 16 0 fun _ => ?_
 refine FoS 0 fun ho11 => ?_
 refine KS ?_
 refine Oq Qcu (KS ?_)
 refine Kc ?_ ?_
 ·intro h12
  have g13 := dt h12
  obtain ⟨r14, rfl⟩ := scc (n := r3) aM1
  refine KS ?_
  refine Oq Vm (Oq Va (KS ?_))
  refine Oq Vm (Oq Vm (Oq Vm (Oq (Vi Qcy 0) ?_)))
  have hb15 := okS (i := Qff.toNat) ho11 rng
  refine Oq (Qk5 sh9 0) (Oq (Qhj (l := v) (m := (s.getD Qff.toNat default))) (KS ?_))
  refine Kc ?_ ?_
  ·intro h16
   have g17 := eq_of_beq h16
   refine KS ?_
   refine Oq Vm (Oq Va (KS ?_))
   have hR18 := q2 hM5 (.ret Qff) (by simp only [Qct, h12, h16, cs4])
   have hq := q4 hrr Qff (by simp only [Qd5, h12, h16, hR18, cs4]); subst hq
   exact Kr () rfl (.tmp rfl .nil) [] en
  intro h16
  have g19 := ne_of_beq_false h16
  refine KS ?_
  refine Oq Qbd (Oq Vm (KS ?_))
  exact Kg (r14, (Qff + 1)) [0] ⟨(q3 hM5 (by simp only [Qct, h12, h16, cs4])), aM1, aM1, aM1, aM1⟩
 intro h12
 have g20 := df h12
 obtain rfl : r3 = 0 := by omega
 refine Ke ?_
 have hR21 := q2 hM5 (.brk ()) (by simp only [Qct, h12, cs4])
 refine KS ?_
 refine Oq Va (KS ?_)
 have hq := q4 hrr (-1) (by simp only [Qd5, h12, hR21, cs4]); subst hq
 exact Kr () rfl (.tmp rfl .nil) [] en
theorem Qvu (s : List Str) (sa0 : Option Addr) (sk0 : Nat) (v : Str) (QqC : v.b.length <= 140737488355328) (rr : Bool) (hrr : Qdh s v = rr) : FT Tryd.prog 98 #[vl sa0 sk0 s, .string (bs v)] [S sa0 sk0 s] (fun g : Unit => True) (fun g => vb rr) (fun g => []) := by
 refine FTi Tryd.func98 fun w0 M0 F0 => Fb 16 0 fun _ => ?_
 refine FoS 0 fun ho2 => ?_
 refine KS ?_
 refine Oq Va (KS ?_)
 refine Oq Vm (Oq Vm ?_)
 refine QaO (Qd5 s v) fun rv3 hg4 => ?_
 have hc5 := Qtb s sa0 sk0 v pre rv3 hg4
 refine Oc [0] Qti hc5 ?_
 rintro - he6
 unfold Qac at he6
 refine Oq QeU (Oq Va (KS ?_))
 have hq := q4 hrr (decide (0 <= rv3)) (by simp only [Qdh, hg4, cs4]); subst hq
 exact Kr () rfl (.tmp rfl .nil) [] trivial
theorem QtA (c : Int) (QqQ : 0 <= c /\ c <= 255) (rr : Bool) (hrr : Qhl c = rr) : FT Tryd.prog 117 #[.int .u8 c] [] (fun g : Unit => True) (fun g => vb rr) (fun g => []) := by
 refine FTi Tryd.func117 fun w0 M0 F0 => ?_
 refine KS ?_
 refine Oq Va (KS ?_)
 refine Oq Vm (Oq QeU (Oq Vm ?_))
 refine Js 5 ?_ ?_
 ·intro h1
  have g2 := dt h1
  refine Oq Vm (Oq Qh8 (Oq Vpt (Oq Va (KS ?_))))
  have hq := q4 hrr (decide (c <= 57)) (by simp only [Qhl, h1, cs4]); subst hq
  exact Kr () rfl (.tmp rfl .nil) [] trivial
 intro h1
 have g3 := df h1
 refine Osk (Osk (Oq Vpf (Oq Va (KS ?_))))
 have hq := q4 hrr false (by simp only [Qhl, h1, cs4]); subst hq
 exact Kr () rfl (.tmp rfl .nil) [] trivial
theorem QsP (c : Int) (QqQ : 0 <= c /\ c <= 255) (rr : Bool) (hrr : QeO c = rr) : FT Tryd.prog 114 #[.int .u8 c] [] (fun g : Unit => True) (fun g => vb rr) (fun g => []) := by
 refine FTi Tryd.func114 fun w0 M0 F0 => ?_
 refine KS ?_
 refine Oq Va (KS ?_)
 refine Oq Vm ?_
 refine QaO (Qd3 c) fun rv1 hg2 => ?_
 have hc3 := Quf c pre rv1 hg2
 refine Oc [] Qux hc3 ?_
 rintro - -
 refine Oq Vm ?_
 refine Js 5 ?_ ?_
 ·intro h4
  refine Osk (Osk (Oq Vpt (Oq Vm (Osk (Osk (Oq Vpt (Oq Va (KS ?_))))))))
  have hq := q4 hrr true (by simp only [QeO, h4, hg2, cs4]); subst hq
  exact Kr () rfl (.tmp rfl .nil) [] trivial
 intro h4
 refine Oq Vm ?_
 refine QaO (Qhl c) fun rv7 hg8 => ?_
 have hc9 := QtA c pre rv7 hg8
 refine Oc [] Qtj hc9 ?_
 rintro - -
 refine Oq Vpf (Oq Vm ?_)
 refine Js 9 ?_ ?_
 ·intro h10
  refine Osk (Osk (Oq Vpt (Oq Va (KS ?_))))
  have hq := q4 hrr true (by simp only [QeO, h4, h10, hg2, hg8, cs4]); subst hq
  exact Kr () rfl (.tmp rfl .nil) [] trivial
 intro h10
 refine Oq Vm (Oq Qby (Oq Vpf (Oq Va (KS ?_))))
 have hq := q4 hrr (c == 95) (by simp only [QeO, h4, h10, hg2, hg8, cs4]); subst hq
 exact Kr () rfl (.tmp rfl .nil) [] trivial
theorem Qwe (s : Str) (i : Int) (Qkw : s.b.length <= 140737488355328) (Qss : Qac i) (hi0 : 0 <= i /\ i <= (s.b.length : Int)) (rr : Int) (hrr : Qfc s i = rr) : FT Tryd.prog 99 #[.string (bs s), vi i] [] (fun g : Unit => Qac rr /\ (i <= rr /\ rr <= (s.b.length : Int))) (fun g => vi rr) (fun g => []) := by
 refine FTi Tryd.func99 fun w0 M0 F0 => ?_
 unfold Qac at Qss
 refine KS ?_
 refine Oq Va (KS ?_)
 refine Kl (γ := Nat × Int) (fun (r1, i_2) => ⟨[(0, .string (bs s)), (1, vi i_2)], [], Qc6 s r1 i_2 = Qc6 s (((s.b.length : Int) - i).toNat) i /\ r1 = ((s.b.length : Int) - i_2).toNat /\ (i : Int) <= i_2 /\ (i_2 <= (s.b.length : Int) \/ i_2 = i) /\ (-9223372036854775808 <= i_2 /\ i_2 <= 9223372036854775807), r1⟩) (((s.b.length : Int) - i).toNat, i) [] ⟨rfl, rfl, aM1, (.inr rfl), aM1⟩ ?_
 rintro ⟨r1, i_2⟩ ⟨hM3, hr4, hi5, hi6, hk7⟩
 refine QbB fun _ _ hL hA => ?_; dsimp only at hL hA; subst hL hA
 refine KS ?_
 refine Oq Vm (Oq Vm (Oq (VlS un9 (l := s)) (Oq Qcu (Oq Vm ?_))))
 refine Js 9 ?_ ?_
 ·intro h8
  have g9 := dt h8
  obtain ⟨r10, rfl⟩ := scc (n := r1) aM1
  refine Oq Vm (Oq Vm (Oq (Vix un9 (l := s)) ?_))
  have hb11 := u8b (s.b.getD i_2.toNat 0)
  refine QaO (QeO ((s.b.getD i_2.toNat 0).toNat : Int)) fun rv12 hg13 => ?_
  have hc14 := QsP (((s.b.getD i_2.toNat 0).toNat : Int)) pre rv12 hg13
  refine Oc [] QtH hc14 ?_
  rintro - -
  refine Oq Vpt (KS ?_)
  refine Kc ?_ ?_
  ·intro h15
   refine KS ?_
   refine Oq Vm (Oq Qbd (Oq Va (KS ?_)))
   exact Kg (r10, (i_2 + 1)) [] ⟨(q3 hM3 (by simp only [Qc6, h8, h15, hg13, cs4])), aM1, aM1, aM1, aM1⟩
  intro h15
  refine Ke ?_
  have hR18 := q2 hM3 i_2 (by simp only [Qc6, h8, h15, hg13, cs4])
  refine KS ?_
  refine Oq Vm (Oq Va (KS ?_))
  have hq := q4 hrr i_2 (by simp only [Qfc, h8, h15, hg13, hR18, cs4]); subst hq
  exact Kr () rfl (.tmp rfl .nil) [] en
 intro h8
 have g19 := df h8
 obtain rfl : r1 = 0 := by omega
 refine Osk (Osk (Osk (Osk (Oq Vpf (KS ?_)))))
 refine Kf ?_
 refine Ke ?_
 have hR20 := q2 hM3 i_2 (by simp only [Qc6, h8, cs4])
 refine KS ?_
 refine Oq Vm (Oq Va (KS ?_))
 have hq := q4 hrr i_2 (by simp only [Qfc, h8, hR20, cs4]); subst hq
 exact Kr () rfl (.tmp rfl .nil) [] en
theorem QsK (s : Str) (kwLA : Option Addr) (kwLK : Nat) (Qkw : s.b.length <= 140737488355328) (rr : Bool) (hrr : Qcm s = rr) : FT Tryd.prog 67 #[.string (bs s)] [pv (gp 0) [vl kwLA kwLK kwL], S kwLA kwLK kwL] (fun g : Unit => True) (fun g => vb rr) (fun g => []) := by
 refine FTi Tryd.func67 fun w0 M0 F0 => Fb 16 1 fun _ => ?_
 refine FoS 1 fun ho2 => ?_
 refine KS ?_
 refine Oq Va (KS ?_)
 refine Oq Vm (Oq (Qhj (l := s) (m := (Str.mk []))) (Oq Vm ?_))
 refine Js 5 ?_ ?_
 ·intro h3
  have g4 := eq_of_beq h3
  refine Osk (Osk (Osk (Oq Vpt (Oq Vm (Osk (Osk (Osk (Osk (Oq Vpt ?_)))))))))
  refine Oq Vm (Osk (Osk (Osk (Oq Vpt (KS ?_)))))
  refine Kt (KS ?_)
  refine Oq Va (KS ?_)
  have hq := q4 hrr false (by simp only [Qcm, h3, cs4]); subst hq
  exact Kr () rfl (.tmp rfl .nil) [] trivial
 intro h3
 have g5 := ne_of_beq_false h3
 have hsp := QmB h3
 refine Oq Vm (Oq (VlS un9 (l := s)) (Oq QhM (Oq Vpf (Oq Vm ?_))))
 refine Js 10 ?_ ?_
 ·intro h6
  have g7 := dt h6
  refine Osk (Osk (Osk (Osk (Oq Vpt (Oq Vm (Osk (Osk (Osk (Oq Vpt ?_)))))))))
  refine KS ?_
  refine Kt (KS ?_)
  refine Oq Va (KS ?_)
  have hq := q4 hrr false (by simp only [Qcm, h3, h6, cs4]); subst hq
  exact Kr () rfl (.tmp rfl .nil) [] trivial
 intro h6
 have g8 := df h6
 refine Oq Vm (Oq (Vix un9 (l := s)) ?_)
 have hb9 := u8b (s.b.getD (0 : Int).toNat 0)
 refine QaO (Qd3 ((s.b.getD (0 : Int).toNat 0).toNat : Int)) fun rv10 hg11 => ?_
 have hc12 := Quf (((s.b.getD (0 : Int).toNat 0).toNat : Int)) pre rv10 hg11
 refine Oc [] Qux hc12 ?_
 rintro - -
 refine Oq QeP (Oq Vpf (Oq Vm ?_))
 refine Js 16 ?_ ?_
 ·intro h13
  have h15 := not_true h13
  refine Osk (Osk (Osk (Oq Vpt (KS ?_))))
  refine Kt (KS ?_)
  refine Oq Va (KS ?_)
  have hq := q4 hrr false (by simp only [Qcm, h3, h6, h13, h15, hg11, cs4]); subst hq
  exact Kr () rfl (.tmp rfl .nil) [] trivial
 intro h13
 have h18 := not_false h13
 refine Oq (Vld Qeq 0) (Oq Vm ?_)
 refine QaO (Qdh kwL s) fun rv20 hg21 => ?_
 have hc22 := Qvu kwL kwLA kwLK s pre rv20 hg21
 refine Oc [1] QvK hc22 ?_
 rintro - -
 refine Oq Vpf (KS ?_)
 refine Kc ?_ ?_
 ·intro h23
  refine KS ?_
  refine Oq Va (KS ?_)
  have hq := q4 hrr false (by simp only [Qcm, h3, h6, h13, h18, h23, hg11, hg21, cs4]); subst hq
  exact Kr () rfl (.tmp rfl .nil) [] trivial
 intro h23
 refine KS ?_
 refine Oq Vm ?_
 refine QaO (Qfc s 0) fun rv26 hg27 => ?_
 have hc28 := Qwe s 0 pre pre pre rv26 hg27
 refine Oc [] Qvk hc28 ?_
 rintro - ⟨he29, he30⟩
 unfold Qac at he29
 refine Oq Vm (Oq (VlS un9 (l := s)) (Oq Qby (Oq Va (KS ?_))))
 have hq := q4 hrr (rv26 == (s.b.length : Int)) (by simp only [Qcm, h3, h6, h13, h18, h23, hg11, hg21, hg27, cs4]); subst hq
 exact Kr () rfl (.tmp rfl .nil) [] trivial
theorem QsW (s : List Qax) (sa0 : Option Addr) (sk0 : Nat) (fF : FuncId) (fC : List Value) (fp : Qax -> Bool) (fA : List SP) (hfc : Qap Tryd.prog fF = true) (hfF : ∀ x ∈ s, ∀ (a2 : Option Addr) (k2 : Nat) (a3 : Option Addr) (k3 : Nat), Qac x.Op -> x.Def.b.length <= 140737488355328 -> FT Tryd.prog fF ([(.agg #[vi x.Op, .string (bs x.Def), vl a2 k2 x.Uses, vl a3 k3 x.Targets] : Value)] ++ fC).toArray ([S a2 k2 x.Uses, S a3 k3 x.Targets] ++ [Qid fA]) (fun _ : Unit => True) (fun _ => .bool (fp x)) (fun _ => [])) (rr : Int) (hrr : Qdu s fp = rr) : FT Tryd.prog 100 #[vl sa0 sk0 s, .func (.func fF) #[] fC.toArray] [S sa0 sk0 s, Qid fA] (fun g : Unit => Qac rr) (fun g => vi rr) (fun g => []) := by
 refine FTi Tryd.func100 fun w0 M0 F0 => Fb 72 0 fun _ => ?_
 refine KS ?_
 refine Oq Va (KS ?_)
 refine Oq Vm (Oq (QcE QgE) (Oq Vm (KS ?_)))
 refine Kl (γ := Nat × Int) (fun (r2, QfN) => ⟨[(0, vl sa0 sk0 s), (1, .func (.func fF) #[] fC.toArray), (7, vi (s.length : Int)), (8, vi QfN)], [S sa0 sk0 s, Qid fA], Qb0 s fp r2 QfN = Qb0 s fp (((s.length : Int) - 0).toNat) 0 /\ r2 = ((s.length : Int) - QfN).toNat /\ (0 : Int) <= QfN /\ QfN <= (s.length : Int) /\ (-9223372036854775808 <= QfN /\ QfN <= 9223372036854775807), r2⟩) (((s.length : Int) - 0).toNat, 0) [0, 1] ⟨rfl, rfl, aM1, aM1, aM1⟩ ?_
 rintro ⟨r2, QfN⟩ ⟨hM4, hr5, hi6, hi7, hk8⟩
 refine QbB fun _ _ hL hA => ?_; dsimp only at hL hA; subst hL hA
 refine Fb 72 0 fun _ => KS ?_
 refine Oq Qcu (KS ?_)
 refine Kc ?_ ?_
 ·intro h10
  have g11 := dt h10
  obtain ⟨r12, rfl⟩ := scc (n := r2) aM1
  refine KS ?_
  refine Oq Vm (Oq Va (KS ?_))
  refine Oq Vm (Oq Vm (Oq Vm (Oq (Vi QgE 0) ?_)))
  refine QdP QfN.toNat 0 rfl rng fun a13 k14 a15 k16 hb17 hb18 => ?_
  unfold Qac at hb17
  refine Fb 16 1 fun _ => ?_
  refine FoS 1 fun ho20 => ?_
  refine Fb 16 2 fun _ => ?_
  refine FoS 2 fun ho22 => ?_
  refine Oq (Qc9 QdF 0) ?_
  refine Qes [1, 2, 4] rfl rfl rfl (OpC.clo («as» := [(.agg #[vi ((s.getD QfN.toNat default).Op), .string (bs ((s.getD QfN.toNat default).Def)), vl a13 k14 ((s.getD QfN.toNat default).Uses), vl a15 k16 ((s.getD QfN.toNat default).Targets)] : Value)] ++ fC) rfl rfl hfc rfl (by simp)) (hfF (s.getD QfN.toNat default) (Qb4 rng) a13 k14 a15 k16 pre pre) rfl fun _ _ => ?_
  refine KS ?_
  refine Kc ?_ ?_
  ·intro h23
   refine KS ?_
   refine Oq Vm (Oq Va (KS ?_))
   have hR25 := q2 hM4 (.ret QfN) (by simp only [Qb0, h10, h23, cs4])
   have hq := q4 hrr QfN (by simp only [Qdu, h10, h23, hR25, cs4]); subst hq
   exact Kr () rfl (.tmp rfl .nil) [] en
  intro h23
  refine KS ?_
  refine Oq Qbd (Oq Vm (KS ?_))
  exact Kg (r12, (QfN + 1)) [3, 4] ⟨(q3 hM4 (by simp only [Qb0, h10, h23, cs4])), aM1, aM1, aM1, aM1⟩
 intro h10
 have g27 := df h10
 obtain rfl : r2 = 0 := by omega
 refine Ke ?_
 have hR28 := q2 hM4 (.brk ()) (by simp only [Qb0, h10, cs4])
 refine KS ?_
 refine Oq Va (KS ?_)
 have hq := q4 hrr (-1) (by simp only [Qdu, h10, hR28, cs4]); subst hq
 exact Kr () rfl (.tmp rfl .nil) [] en
theorem QuV (s : List Qax) (sa0 : Option Addr) (sk0 : Nat) (fF : FuncId) (fC : List Value) (fp : Qax -> Bool) (fA : List SP) (hfc : Qap Tryd.prog fF = true) (hfF : ∀ x ∈ s, ∀ (a2 : Option Addr) (k2 : Nat) (a3 : Option Addr) (k3 : Nat), Qac x.Op -> x.Def.b.length <= 140737488355328 -> FT Tryd.prog fF ([(.agg #[vi x.Op, .string (bs x.Def), vl a2 k2 x.Uses, vl a3 k3 x.Targets] : Value)] ++ fC).toArray ([S a2 k2 x.Uses, S a3 k3 x.Targets] ++ [Qid fA]) (fun _ : Unit => True) (fun _ => .bool (fp x)) (fun _ => [])) (rr : Bool) (hrr : Qcq s fp = rr) : FT Tryd.prog 68 #[vl sa0 sk0 s, .func (.func fF) #[] fC.toArray] [S sa0 sk0 s, Qid fA] (fun g : Unit => True) (fun g => vb rr) (fun g => []) := by
 refine FTi Tryd.func68 fun w0 M0 F0 => Fb 72 0 fun _ => ?_
 refine KS ?_
 refine Oq Va (KS ?_)
 refine Oq Vm (Oq Vm ?_)
 refine QaO (Qdu s fp) fun rv2 hg3 => ?_
 have hc4 := QsW s sa0 sk0 fF fC fp fA hfc hfF rv2 hg3
 refine Oc [0, 1] QtC hc4 ?_
 rintro - he5
 unfold Qac at he5
 refine Oq QeU (Oq Va (KS ?_))
 have hq := q4 hrr (decide (0 <= rv2)) (by simp only [Qcq, hg3, cs4]); subst hq
 exact Kr () rfl (.tmp rfl .nil) [] trivial
theorem Qkr (s : List Str) (sa0 : Option Addr) (sk0 : Nat) (rr : List Str) (hrr : Qa1 s = rr) : FT Tryd.prog 101 #[vl sa0 sk0 s] [S sa0 sk0 s] (fun g : Value => (rr.length = s.length)) (fun g => g) (fun g => [os g rr]) := by
 have hm : Qa1 s = s := rfl
 rw [hm] at hrr
 subst hrr
 refine FTi Tryd.func101 fun w0 M0 F0 => ?_
 refine KS ?_
 refine Oq Va ?_
 refine KS ?_
 refine Oq Vm ?_
 refine Oq (Qv7 Qvr) ?_
 refine KS ?_
 refine Kc ?_ ?_
 ·intro h
  refine Qvm 0 h ?_
  intro h0
  subst h0
  refine KS ?_
  refine Oq Va ?_
  refine KS ?_
  refine Jl [] (Ent.osNil (α := Str)) ?_
  exact Kr (.slice none 0 0) rfl (.tmp rfl .nil) [0] rfl
 ·intro _
  refine KS ?_
  refine Oa (As0 Qcy) fun c1 => ?_
  refine Jo 0 ?_; rintro a2 k3 rfl
  refine Oq Vm ?_
  refine Fb 16 1 fun hl => ?_
  refine Jl [0] (Ent.crNil (α := Str) _) ?_
  refine Oa (Ap0 [0, 0] Qcy Qcy Qe3) fun c4 => ?_
  refine Oq Va ?_
  refine KS ?_
  exact Kr c4 rfl (.tmp rfl .nil) [0] rfl
theorem QtD (s : List Str) (sa0 : Option Addr) (sk0 : Nat) (fF : FuncId) (fC : List Value) (fp : Str -> Bool) (fA : List SP) (hfc : Qap Tryd.prog fF = true) (hfF : ∀ x ∈ s, x.b.length <= 140737488355328 -> FT Tryd.prog fF ([(.string (bs x) : Value)] ++ fC).toArray ([] ++ [Qid fA]) (fun _ : Unit => True) (fun _ => .bool (fp x)) (fun _ => [])) (rr : Int) (hrr : QcW s fp = rr) : FT Tryd.prog 115 #[vl sa0 sk0 s, .func (.func fF) #[] fC.toArray] [S sa0 sk0 s, Qid fA] (fun g : Unit => Qac rr) (fun g => vi rr) (fun g => []) := by
 refine FTi Tryd.func115 fun w0 M0 F0 => Fb 16 0 fun _ => ?_
 refine FoS 0 fun ho2 => ?_
 refine KS ?_
 refine Oq Va (KS ?_)
 refine Oq Vm (Oq (QcE Qcy) (Oq Vm (KS ?_)))
 refine Kl (γ := Nat × Int) (fun (r3, Qff) => ⟨[(0, vl sa0 sk0 s), (1, .func (.func fF) #[] fC.toArray), (7, vi (s.length : Int)), (8, vi Qff)], [S sa0 sk0 s, Qid fA], QbN s fp r3 Qff = QbN s fp (((s.length : Int) - 0).toNat) 0 /\ r3 = ((s.length : Int) - Qff).toNat /\ (0 : Int) <= Qff /\ Qff <= (s.length : Int) /\ (-9223372036854775808 <= Qff /\ Qff <= 9223372036854775807), r3⟩) (((s.length : Int) - 0).toNat, 0) [0, 1] ⟨rfl, rfl, aM1, aM1, aM1⟩ ?_
 rintro ⟨r3, Qff⟩ ⟨hM5, hr6, hi7, hi8, hk9⟩
 refine QbB fun _ _ hL hA => ?_; dsimp only at hL hA; subst hL hA
 refine Fb 16 0 fun _ => ?_
 refine FoS 0 fun ho11 => ?_
 refine KS ?_
 refine Oq Qcu (KS ?_)
 refine Kc ?_ ?_
 ·intro h12
  have g13 := dt h12
  obtain ⟨r14, rfl⟩ := scc (n := r3) aM1
  refine KS ?_
  refine Oq Vm (Oq Va (KS ?_))
  refine Oq Vm (Oq Vm (Oq Vm (Oq (Vi Qcy 0) ?_)))
  have hb15 := okS (i := Qff.toNat) ho11 rng
  refine Oq (Qk5 sh9 0) ?_
  refine Qes [1] rfl rfl rfl (OpC.clo («as» := [(.string (bs (s.getD Qff.toNat default)) : Value)] ++ fC) rfl rfl hfc rfl (by simp)) (hfF (s.getD Qff.toNat default) (Qb4 rng)  pre) rfl fun _ _ => ?_
  refine KS ?_
  refine Kc ?_ ?_
  ·intro h16
   refine KS ?_
   refine Oq Vm (Oq Va (KS ?_))
   have hR18 := q2 hM5 (.ret Qff) (by simp only [QbN, h12, h16, cs4])
   have hq := q4 hrr Qff (by simp only [QcW, h12, h16, hR18, cs4]); subst hq
   exact Kr () rfl (.tmp rfl .nil) [] en
  intro h16
  refine KS ?_
  refine Oq Qbd (Oq Vm (KS ?_))
  exact Kg (r14, (Qff + 1)) [0, 1] ⟨(q3 hM5 (by simp only [QbN, h12, h16, cs4])), aM1, aM1, aM1, aM1⟩
 intro h12
 have g20 := df h12
 obtain rfl : r3 = 0 := by omega
 refine Ke ?_
 have hR21 := q2 hM5 (.brk ()) (by simp only [QbN, h12, cs4])
 refine KS ?_
 refine Oq Va (KS ?_)
 have hq := q4 hrr (-1) (by simp only [QcW, h12, hR21, cs4]); subst hq
 exact Kr () rfl (.tmp rfl .nil) [] en
theorem Qj7 (s : List Str) (sa0 : Option Addr) (sk0 : Nat) (fF : FuncId) (fC : List Value) (fp : Str -> Bool) (fA : List SP) (hfc : Qap Tryd.prog fF = true) (hfF : ∀ x ∈ s, x.b.length <= 140737488355328 -> FT Tryd.prog fF ([(.string (bs x) : Value)] ++ fC).toArray ([] ++ [Qid fA]) (fun _ : Unit => True) (fun _ => .bool (fp x)) (fun _ => [])) (rr : Bool) (hrr : Qat s fp = rr) : FT Tryd.prog 102 #[vl sa0 sk0 s, .func (.func fF) #[] fC.toArray] [S sa0 sk0 s, Qid fA] (fun g : Unit => True) (fun g => vb rr) (fun g => []) := by
 refine FTi Tryd.func102 fun w0 M0 F0 => Fb 16 0 fun _ => ?_
 refine FoS 0 fun ho2 => ?_
 refine KS ?_
 refine Oq Va (KS ?_)
 refine Oq Vm (Oq Vm ?_)
 refine QaO (QcW s fp) fun rv3 hg4 => ?_
 have hc5 := QtD s sa0 sk0 fF fC fp fA hfc hfF rv3 hg4
 refine Oc [0, 1] Qtv hc5 ?_
 rintro - he6
 unfold Qac at he6
 refine Oq QeU (Oq Va (KS ?_))
 have hq := q4 hrr (decide (0 <= rv3)) (by simp only [Qat, hg4, cs4]); subst hq
 exact Kr () rfl (.tmp rfl .nil) [] trivial
theorem QjZ (n : Str) (kwLA : Option Addr) (kwLK : Nat) (Qoy : n.b.length <= 140737488355328) (rr : Bool) (hrr : Qbl n = rr) : FT Tryd.prog 103 #[.string (bs n)] [pv (gp 0) [vl kwLA kwLK kwL], S kwLA kwLK kwL] (fun g : Unit => True) (fun g => vb rr) (fun g => []) := by
 refine FTi Tryd.func103 fun w0 M0 F0 => Fb 16 1 fun _ => ?_
 refine FoS 1 fun ho2 => ?_
 refine KS ?_
 refine Oq Va (KS ?_)
 refine Oq Vm ?_
 refine QaO (Qcm n) fun rv3 hg4 => ?_
 have hc5 := QsK n kwLA kwLK pre rv3 hg4
 refine Oc [0, 1] QsV hc5 ?_
 rintro - -
 refine Oq QeP (Oq Va (KS ?_))
 have hq := q4 hrr (!rv3) (by simp only [Qbl, hg4, cs4]); subst hq
 exact Kr () rfl (.tmp rfl .nil) [] trivial
theorem Qvi (s : Qax) (sa2 : Option Addr) (sk2 : Nat) (sa3 : Option Addr) (sk3 : Nat) (kwLA : Option Addr) (kwLK : Nat) (Qkw : Qac s.Op) (QqE : s.Def.b.length <= 140737488355328) (hsm : SSm s = true) (rr : Bool) (hrr : Qbf s = rr) : FT Tryd.prog 70 #[.agg #[vi s.Op, .string (bs s.Def), vl sa2 sk2 s.Uses, vl sa3 sk3 s.Targets]] [S sa2 sk2 s.Uses, S sa3 sk3 s.Targets, pv (gp 0) [vl kwLA kwLK kwL], S kwLA kwLK kwL] (fun g : Unit => True) (fun g => vb rr) (fun g => []) := by
 refine FTi Tryd.func70 fun w0 M0 F0 => ?_
 unfold Qac at Qkw
 refine Fb 16 0 fun _ => ?_
 refine FoS 0 fun ho2 => ?_
 refine Fb 16 1 fun _ => ?_
 refine FoS 1 fun ho4 => ?_
 refine Fb 16 3 fun _ => ?_
 refine FoS 3 fun ho6 => ?_
 have hsl := Qtz hsm
 refine KS ?_
 refine Oa (Ab [vi s.Op, .string (bs s.Def), vl sa2 sk2 s.Uses, vl sa3 sk3 s.Targets]) fun p7 => Oq Va (KS ?_)
 refine Kq [0, 1, 3, 0, 15, 31] Qc8 ?_
 refine Qv [0] (Vfa Qdg 0) (Qv [0] (QaQ Qeq 0) (Qv [] (QcE Qcy) (Qv [] Va (Qv [] Va (Qv [] Va ?_)))))
 refine Qn ⟨by kernel_rfl, ?_⟩
 refine KS ?_
 refine Oq (Vfa Qdw 0) (Oq (QaQ sh3 0) (KS ?_))
 refine Oq Qby (Oq Va (KS ?_))
 refine Kc ?_ ?_
 ·intro h8
  have g9 := eq_of_beq h8
  refine Ke ?_
  refine KS ?_
  refine Oq Va (KS ?_)
  refine Ke ?_
  refine KS ?_
  refine Qav [0, 1, 3, 0, 8, 31, 63] Qc8 ?_
  refine Dv [0] (Vfa Qdg 0) (Dv [0] (QaQ Qeq 0) ?_)
  refine QaO (Qa1 s.Uses) fun rv11 hg12 => ?_
  refine Dx [1] [] [2, 0, 1] (fun G => (G.g 2 0)) [fun G => SP.fact ((rv11.length = s.Uses.length)), fun G => os (G.g 2 0) rv11] (fun G => xC [0] Qkm (Qkr s.Uses sa2 sk2 rv11 hg12)) (Dv [0] (Vfa Qdi 0) (Dv [0] (QaQ Qeq 0) ?_))
  have hn14 := la rv11 s.Targets
  refine Dx [2, 5, 6] [6] [1, 2, 0] (fun G => (G.g 5 0)) [fun G => os (G.g 5 0) (rv11 ++ s.Targets)] (fun G => by refine xf 1 rfl ?_; rintro he15; exact xA (Ap [2, 0] Qcy Qcy Qe3)) (Dg [] (fun G => (G.g 5 0)) (fun G => Va) ?_)
  refine Dn ⟨by kernel_rfl, fun G => ?_⟩
  refine Jw2 [(1, p7), (4, vi (s.Uses.length : Int)), (5, vi 0), (3, vi 1), (6, (G.g 5 0))] [0, 1, 2, 3, 4] [SP.fact ((rv11.length = s.Uses.length)), os (G.g 5 0) (rv11 ++ s.Targets)] ?_
  generalize G.g 5 0 = c13
  refine Jf 5 rfl ?_; rintro he16
  refine Jk [0, 1, 2, 3, 4, 6] ?_
  refine Jo 5 ?_; rintro a17 k18 rfl
  refine Fb 16 5 fun _ => ?_
  refine FoS 5 fun ho20 => ?_
  refine KS ?_
  refine Oq Vm (Oq Qby (KS ?_))
  refine Kt (KS ?_)
  refine Oq Vm (Oq (Vfa Qet 0) (Oq (QaQ sh9 0) (Oa (AsV Qcy Qe3 [.string (bs s.Def)] [.string (bs s.Def)]) fun c21 => ?_)))
  refine Jo 0 ?_; rintro a22 k23 rfl
  refine Jl [0] (Ent.cr1 (α := Str) (A := []) _ s.Def _ aB1 (fun _ => ⟨rfl, aS1⟩)) ?_
  refine Oa (ApO [6, 0] Qcy Qcy Qe3) fun c24 => ?_
  refine Jo 0 ?_; rintro a25 k26 rfl
  refine Fb 16 0 fun _ => ?_
  refine FoS 0 fun ho28 => ?_
  have hn29 := la (rv11 ++ s.Targets) ([s.Def] : List Str)
  refine Oq Va (KS ?_)
  refine Oq Vm (Oq Qby (Oq Vm (Osk (Osk (Osk (Oq Vpt (Oq Vm (Oq (Vfa Qdg 1) (Oq (QaQ Qeq 1) ?_)))))))))
  refine Oq (QcE Qcy) (Oq Vm (Oq Qby (Oq Vpt (Oq Vm ?_))))
  refine Js 64 ?_ ?_
  ·intro h30
   have g31 := eq_of_beq h30
   refine Oq Vm (Oq Qh8 (Oq Vpt (Oq Vm ?_)))
   refine Js 68 ?_ ?_
   ·intro h32
    have g33 := dt h32
    refine Oq (Vfa Qdi 1) (Oq (QaQ Qeq 1) (Oq (QcE Qcy) (Oq Vm (Oq Qby (Oq Vpt (Oq Vm ?_))))))
    refine Js 75 ?_ ?_
    ·intro h34
     have g35 := eq_of_beq h34
     refine Oq Vm ?_
     refine Jl [0] (Ent.freeze _ _) ?_
     refine QfD (Ent.pall [4, 5] rfl rfl) ?_
     refine QaO (Qat ((rv11 ++ s.Targets) ++ [s.Def]) (fun x => Qbl x)) fun rv36 hg37 => ?_
     have hc38 := Qj7 (((rv11 ++ s.Targets) ++ [s.Def])) a25 k26 103 [] (fun x => Qbl x) [pv (gp 0) [vl kwLA kwLK kwL], S kwLA kwLK kwL] Qj0 (fun x hx hq0 => QeY (A1 := _) (QjZ x  kwLA kwLK hq0 _ rfl)) rv36 hg37
     refine Oc [1, 0] Qj4 hc38 ?_
     rintro - -
     refine Oq QeP (Oq Vpt (Oq Va (KS ?_)))
     have hq := q4 hrr (!rv36) (by simp only [Qbf, h8, h30, h32, h34, hg12, hg37, cs4]); subst hq
     exact Kr () rfl (.tmp rfl .nil) [] trivial
    intro h34
    have g39 := ne_of_beq_false h34
    refine Osk (Osk (Osk (Oq Vpf (Oq Va (KS ?_)))))
    have hq := q4 hrr false (by simp only [Qbf, h8, h30, h32, h34, hg12, cs4]); subst hq
    exact Kr () rfl (.tmp rfl .nil) [] trivial
   intro h32
   have g40 := df h32
   refine Osk (Osk (Osk (Osk (Osk (Oq Vpf (Oq Vm (Osk (Osk (Osk ?_)))))))))
   refine Oq Vpf (Oq Va (KS ?_))
   have hq := q4 hrr false (by simp only [Qbf, h8, h30, h32, hg12, cs4]); subst hq
   exact Kr () rfl (.tmp rfl .nil) [] trivial
  intro h30
  have g41 := ne_of_beq_false h30
  refine Osk (Osk (Oq Vpf (Oq Vm (Osk (Osk (Osk (Osk (Osk (Oq Vpf ?_)))))))))
  refine Oq Vm (Osk (Osk (Osk (Oq Vpf (Oq Va (KS ?_))))))
  have hq := q4 hrr false (by simp only [Qbf, h8, h30, hg12, cs4]); subst hq
  exact Kr () rfl (.tmp rfl .nil) [] trivial
 intro h8
 have g42 := ne_of_beq_false h8
 refine KS ?_
 refine Oq Qby (Oq Va (KS ?_))
 refine Kc ?_ ?_
 ·intro h43
  have g44 := eq_of_beq h43
  refine Ke ?_
  refine KS ?_
  refine Oq Vm (Oq Qvz (Oq Va (KS ?_)))
  refine Ke ?_
  refine KS ?_
  refine Qav [0, 1, 3, 0, 8, 31, 63] Qc8 ?_
  refine Dv [0] (Vfa Qdg 0) (Dv [0] (QaQ Qeq 0) ?_)
  refine QaO (Qa1 s.Uses) fun rv46 hg47 => ?_
  refine Dx [1] [] [2, 0, 1] (fun G => (G.g 2 0)) [fun G => SP.fact ((rv46.length = s.Uses.length)), fun G => os (G.g 2 0) rv46] (fun G => xC [0] Qkm (Qkr s.Uses sa2 sk2 rv46 hg47)) (Dv [0] (Vfa Qdi 0) (Dv [0] (QaQ Qeq 0) ?_))
  have hn49 := la rv46 s.Targets
  refine Dx [2, 5, 6] [6] [1, 2, 0] (fun G => (G.g 5 0)) [fun G => os (G.g 5 0) (rv46 ++ s.Targets)] (fun G => by refine xf 1 rfl ?_; rintro he50; exact xA (Ap [2, 0] Qcy Qcy Qe3)) (Dg [] (fun G => (G.g 5 0)) (fun G => Va) ?_)
  refine Dn ⟨by kernel_rfl, fun G => ?_⟩
  refine Jw2 [(1, p7), (3, vi 0), (5, vi 0), (4, vi (max (s.Uses.length : Int) 1)), (6, (G.g 5 0))] [0, 1, 2, 3, 4] [SP.fact ((rv46.length = s.Uses.length)), os (G.g 5 0) (rv46 ++ s.Targets)] ?_
  generalize G.g 5 0 = c48
  refine Jf 5 rfl ?_; rintro he51
  refine Jk [0, 1, 2, 3, 4, 6] ?_
  refine Jo 5 ?_; rintro a52 k53 rfl
  refine Fb 16 5 fun _ => ?_
  refine FoS 5 fun ho55 => ?_
  refine KS ?_
  refine Oq Vm (Oq Qby (KS ?_))
  refine Kf (KS ?_)
  refine Oq Vm (Oq Qby (Oq Vm (Oq (Vfa Qet 0) (Oq (QaQ sh9 0) (Oq (Qhj (l := s.Def) (m := (Str.mk []))) (Oq Vpf (Oq Vm ?_)))))))
  refine Js 57 ?_ ?_
  ·intro h56
   have g57 := eq_of_beq h56
   refine Oq (Vfa Qdg 0) (Oq (QaQ Qeq 0) (Oq (QcE Qcy) (Oq Vm (Oq Qby (Oq Vpt (Oq Vm ?_))))))
   refine Js 64 ?_ ?_
   ·intro h58
    have g59 := eq_of_beq h58
    refine Oq Vm (Oq Qh8 (Oq Vpt (Oq Vm ?_)))
    refine Js 68 ?_ ?_
    ·intro h60
     have g61 := dt h60
     refine Oq (Vfa Qdi 0) (Oq (QaQ Qeq 0) (Oq (QcE Qcy) (Oq Vm (Oq Qby (Oq Vpt (Oq Vm ?_))))))
     refine Js 75 ?_ ?_
     ·intro h62
      have g63 := eq_of_beq h62
      refine Oq Vm ?_
      refine Jl [5] (Ent.freeze _ _) ?_
      refine QfD (Ent.pall [4, 5] rfl rfl) ?_
      refine QaO (Qat (rv46 ++ s.Targets) (fun x => Qbl x)) fun rv64 hg65 => ?_
      have hc66 := Qj7 ((rv46 ++ s.Targets)) a52 k53 103 [] (fun x => Qbl x) [pv (gp 0) [vl kwLA kwLK kwL], S kwLA kwLK kwL] Qj0 (fun x hx hq0 => QeY (A1 := _) (QjZ x  kwLA kwLK hq0 _ rfl)) rv64 hg65
      refine Oc [1, 0] Qj4 hc66 ?_
      rintro - -
      refine Oq QeP (Oq Vpt (Oq Va (KS ?_)))
      have hq := q4 hrr (!rv64) (by simp only [Qbf, h8, h43, h56, h58, h60, h62, hg47, hg65, cs4]); subst hq
      exact Kr () rfl (.tmp rfl .nil) [] trivial
     intro h62
     have g67 := ne_of_beq_false h62
     refine Osk (Osk (Osk (Oq Vpf (Oq Va (KS ?_)))))
     have hq := q4 hrr false (by simp only [Qbf, h8, h43, h56, h58, h60, h62, hg47, cs4]); subst hq
     exact Kr () rfl (.tmp rfl .nil) [] trivial
    intro h60
    have g68 := df h60
    refine Osk (Osk (Osk (Osk (Osk (Oq Vpf (Oq Vm (Osk (Osk (Osk ?_)))))))))
    refine Oq Vpf (Oq Va (KS ?_))
    have hq := q4 hrr false (by simp only [Qbf, h8, h43, h56, h58, h60, hg47, cs4]); subst hq
    exact Kr () rfl (.tmp rfl .nil) [] trivial
   intro h58
   have g69 := ne_of_beq_false h58
   refine Osk (Osk (Oq Vpf (Oq Vm (Osk (Osk (Osk (Osk (Osk (Oq Vpf ?_)))))))))
   refine Oq Vm (Osk (Osk (Osk (Oq Vpf (Oq Va (KS ?_))))))
   have hq := q4 hrr false (by simp only [Qbf, h8, h43, h56, h58, hg47, cs4]); subst hq
   exact Kr () rfl (.tmp rfl .nil) [] trivial
  intro h56
  have g70 := ne_of_beq_false h56
  refine Osk (Osk (Osk (Osk (Osk (Oq Vpf (Oq Vm (Osk (Osk (Oq Vpf ?_)))))))))
  refine Oq Vm (Osk (Osk (Osk (Osk (Osk (Oq Vpf (Oq Vm (Osk (Osk ?_)))))))))
  refine Osk (Oq Vpf (Oq Va (KS ?_)))
  have hq := q4 hrr false (by simp only [Qbf, h8, h43, h56, hg47, cs4]); subst hq
  exact Kr () rfl (.tmp rfl .nil) [] trivial
 intro h43
 have g71 := ne_of_beq_false h43
 refine KS ?_
 refine Oq Qby (Oq Va (KS ?_))
 refine Kc ?_ ?_
 ·intro h72
  have g73 := eq_of_beq h72
  refine Ke ?_
  refine KS ?_
  refine Oq Va (KS ?_)
  refine Ke ?_
  refine KS ?_
  refine Qav [0, 1, 3, 0, 8, 31, 63] Qc8 ?_
  refine Dv [0] (Vfa Qdg 0) (Dv [0] (QaQ Qeq 0) ?_)
  refine QaO (Qa1 s.Uses) fun rv75 hg76 => ?_
  refine Dx [1] [] [2, 0, 1] (fun G => (G.g 2 0)) [fun G => SP.fact ((rv75.length = s.Uses.length)), fun G => os (G.g 2 0) rv75] (fun G => xC [0] Qkm (Qkr s.Uses sa2 sk2 rv75 hg76)) (Dv [0] (Vfa Qdi 0) (Dv [0] (QaQ Qeq 0) ?_))
  have hn78 := la rv75 s.Targets
  refine Dx [2, 5, 6] [6] [1, 2, 0] (fun G => (G.g 5 0)) [fun G => os (G.g 5 0) (rv75 ++ s.Targets)] (fun G => by refine xf 1 rfl ?_; rintro he79; exact xA (Ap [2, 0] Qcy Qcy Qe3)) (Dg [] (fun G => (G.g 5 0)) (fun G => Va) ?_)
  refine Dn ⟨by kernel_rfl, fun G => ?_⟩
  refine Jw2 [(1, p7), (3, vi 0), (5, vi 0), (4, vi 1), (6, (G.g 5 0))] [0, 1, 2, 3, 4] [SP.fact ((rv75.length = s.Uses.length)), os (G.g 5 0) (rv75 ++ s.Targets)] ?_
  generalize G.g 5 0 = c77
  refine Jf 5 rfl ?_; rintro he80
  refine Jk [0, 1, 2, 3, 4, 6] ?_
  refine Jo 5 ?_; rintro a81 k82 rfl
  refine Fb 16 5 fun _ => ?_
  refine FoS 5 fun ho84 => ?_
  refine KS ?_
  refine Oq Vm (Oq Qby (KS ?_))
  refine Kf (KS ?_)
  refine Oq Vm (Oq Qby (Oq Vm (Oq (Vfa Qet 0) (Oq (QaQ sh9 0) (Oq (Qhj (l := s.Def) (m := (Str.mk []))) (Oq Vpf (Oq Vm ?_)))))))
  refine Js 57 ?_ ?_
  ·intro h85
   have g86 := eq_of_beq h85
   refine Oq (Vfa Qdg 0) (Oq (QaQ Qeq 0) (Oq (QcE Qcy) (Oq Vm (Oq Qby (Oq Vpt (Oq Vm ?_))))))
   refine Js 64 ?_ ?_
   ·intro h87
    have g88 := eq_of_beq h87
    refine Oq Vm (Oq Qh8 (Oq Vpt (Oq Vm (Oq (Vfa Qdi 0) (Oq (QaQ Qeq 0) (Oq (QcE Qcy) (Oq Vm (Oq Qby (Oq Vpt ?_)))))))))
    refine Oq Vm ?_
    refine Js 75 ?_ ?_
    ·intro h89
     have g90 := eq_of_beq h89
     refine Oq Vm ?_
     refine Jl [5] (Ent.freeze _ _) ?_
     refine QfD (Ent.pall [4, 5] rfl rfl) ?_
     refine QaO (Qat (rv75 ++ s.Targets) (fun x => Qbl x)) fun rv91 hg92 => ?_
     have hc93 := Qj7 ((rv75 ++ s.Targets)) a81 k82 103 [] (fun x => Qbl x) [pv (gp 0) [vl kwLA kwLK kwL], S kwLA kwLK kwL] Qj0 (fun x hx hq0 => QeY (A1 := _) (QjZ x  kwLA kwLK hq0 _ rfl)) rv91 hg92
     refine Oc [1, 0] Qj4 hc93 ?_
     rintro - -
     refine Oq QeP (Oq Vpt (Oq Va (KS ?_)))
     have hq := q4 hrr (!rv91) (by simp only [Qbf, h8, h43, h72, h85, h87, h89, hg76, hg92, cs4]); subst hq
     exact Kr () rfl (.tmp rfl .nil) [] trivial
    intro h89
    have g94 := ne_of_beq_false h89
    refine Osk (Osk (Osk (Oq Vpf (Oq Va (KS ?_)))))
    have hq := q4 hrr false (by simp only [Qbf, h8, h43, h72, h85, h87, h89, hg76, cs4]); subst hq
    exact Kr () rfl (.tmp rfl .nil) [] trivial
   intro h87
   have g95 := ne_of_beq_false h87
   refine Osk (Osk (Oq Vpf (Oq Vm (Osk (Osk (Osk (Osk (Osk (Oq Vpf ?_)))))))))
   refine Oq Vm (Osk (Osk (Osk (Oq Vpf (Oq Va (KS ?_))))))
   have hq := q4 hrr false (by simp only [Qbf, h8, h43, h72, h85, h87, hg76, cs4]); subst hq
   exact Kr () rfl (.tmp rfl .nil) [] trivial
  intro h85
  have g96 := ne_of_beq_false h85
  refine Osk (Osk (Osk (Osk (Osk (Oq Vpf (Oq Vm (Osk (Osk (Oq Vpf ?_)))))))))
  refine Oq Vm (Osk (Osk (Osk (Osk (Osk (Oq Vpf (Oq Vm (Osk (Osk ?_)))))))))
  refine Osk (Oq Vpf (Oq Va (KS ?_)))
  have hq := q4 hrr false (by simp only [Qbf, h8, h43, h72, h85, hg76, cs4]); subst hq
  exact Kr () rfl (.tmp rfl .nil) [] trivial
 intro h72
 have g97 := ne_of_beq_false h72
 refine KS ?_
 refine Oq Qby (Oq Va (KS ?_))
 refine Kc ?_ ?_
 ·intro h98
  have g99 := eq_of_beq h98
  refine KS ?_
  refine Kc ?_ ?_
  ·intro h100
   have g101 := eq_of_beq h100
   refine Ke ?_
   refine KS ?_
   refine Oq Va (KS ?_)
   refine Oq Va (KS ?_)
   refine Ke ?_
   refine KS ?_
   refine Qav [0, 1, 3, 0, 8, 31, 63] Qc8 ?_
   refine Dv [0] (Vfa Qdg 0) (Dv [0] (QaQ Qeq 0) ?_)
   refine QaO (Qa1 s.Uses) fun rv103 hg104 => ?_
   refine Dx [1] [] [2, 0, 1] (fun G => (G.g 2 0)) [fun G => SP.fact ((rv103.length = s.Uses.length)), fun G => os (G.g 2 0) rv103] (fun G => xC [0] Qkm (Qkr s.Uses sa2 sk2 rv103 hg104)) (Dv [0] (Vfa Qdi 0) (Dv [0] (QaQ Qeq 0) ?_))
   have hn106 := la rv103 s.Targets
   refine Dx [2, 5, 6] [6] [1, 2, 0] (fun G => (G.g 5 0)) [fun G => os (G.g 5 0) (rv103 ++ s.Targets)] (fun G => by refine xf 1 rfl ?_; rintro he107; exact xA (Ap [2, 0] Qcy Qcy Qe3)) (Dg [] (fun G => (G.g 5 0)) (fun G => Va) ?_)
   refine Dn ⟨by kernel_rfl, fun G => ?_⟩
   refine Jw2 [(1, p7), (5, vi 0), (3, vi 1), (4, vi 0), (6, (G.g 5 0))] [0, 1, 2, 3, 4] [SP.fact ((rv103.length = s.Uses.length)), os (G.g 5 0) (rv103 ++ s.Targets)] ?_
   generalize G.g 5 0 = c105
   refine Jf 5 rfl ?_; rintro he108
   refine Jk [0, 1, 2, 3, 4, 6] ?_
   refine Jo 5 ?_; rintro a109 k110 rfl
   refine Fb 16 5 fun _ => ?_
   refine FoS 5 fun ho112 => ?_
   refine KS ?_
   refine Oq Vm (Oq Qby (KS ?_))
   refine Kt (KS ?_)
   refine Oq Vm (Oq (Vfa Qet 0) (Oq (QaQ sh9 0) (Oa (AsV Qcy Qe3 [.string (bs s.Def)] [.string (bs s.Def)]) fun c113 => ?_)))
   refine Jo 0 ?_; rintro a114 k115 rfl
   refine Jl [0] (Ent.cr1 (α := Str) (A := []) _ s.Def _ aB1 (fun _ => ⟨rfl, aS1⟩)) ?_
   refine Oa (ApO [6, 0] Qcy Qcy Qe3) fun c116 => ?_
   refine Jo 0 ?_; rintro a117 k118 rfl
   refine Fb 16 0 fun _ => ?_
   refine FoS 0 fun ho120 => ?_
   have hn121 := la (rv103 ++ s.Targets) ([s.Def] : List Str)
   refine Oq Va (KS ?_)
   refine Oq Vm (Oq Qby (Oq Vm (Osk (Osk (Osk (Oq Vpt (Oq Vm (Oq (Vfa Qdg 1) (Oq (QaQ Qeq 1) ?_)))))))))
   refine Oq (QcE Qcy) (Oq Vm (Oq Qby (Oq Vpt (Oq Vm ?_))))
   refine Js 64 ?_ ?_
   ·intro h122
    have g123 := eq_of_beq h122
    refine Oq Vm (Oq Qh8 (Oq Vpt (Oq Vm (Oq (Vfa Qdi 1) (Oq (QaQ Qeq 1) (Oq (QcE Qcy) (Oq Vm (Oq Qby (Oq Vpt ?_)))))))))
    refine Oq Vm ?_
    refine Js 75 ?_ ?_
    ·intro h124
     have g125 := eq_of_beq h124
     refine Oq Vm ?_
     refine Jl [0] (Ent.freeze _ _) ?_
     refine QfD (Ent.pall [4, 5] rfl rfl) ?_
     refine QaO (Qat ((rv103 ++ s.Targets) ++ [s.Def]) (fun x => Qbl x)) fun rv126 hg127 => ?_
     have hc128 := Qj7 (((rv103 ++ s.Targets) ++ [s.Def])) a117 k118 103 [] (fun x => Qbl x) [pv (gp 0) [vl kwLA kwLK kwL], S kwLA kwLK kwL] Qj0 (fun x hx hq0 => QeY (A1 := _) (QjZ x  kwLA kwLK hq0 _ rfl)) rv126 hg127
     refine Oc [1, 0] Qj4 hc128 ?_
     rintro - -
     refine Oq QeP (Oq Vpt (Oq Va (KS ?_)))
     have hq := q4 hrr (!rv126) (by simp only [Qbf, h8, h43, h72, h98, h100, h122, h124, hg104, hg127, cs4]); subst hq
     exact Kr () rfl (.tmp rfl .nil) [] trivial
    intro h124
    have g129 := ne_of_beq_false h124
    refine Osk (Osk (Osk (Oq Vpf (Oq Va (KS ?_)))))
    have hq := q4 hrr false (by simp only [Qbf, h8, h43, h72, h98, h100, h122, h124, hg104, cs4]); subst hq
    exact Kr () rfl (.tmp rfl .nil) [] trivial
   intro h122
   have g130 := ne_of_beq_false h122
   refine Osk (Osk (Oq Vpf (Oq Vm (Osk (Osk (Osk (Osk (Osk (Oq Vpf ?_)))))))))
   refine Oq Vm (Osk (Osk (Osk (Oq Vpf (Oq Va (KS ?_))))))
   have hq := q4 hrr false (by simp only [Qbf, h8, h43, h72, h98, h100, h122, hg104, cs4]); subst hq
   exact Kr () rfl (.tmp rfl .nil) [] trivial
  intro h100
  exact absurd h100 (by first | (simp [h98]; done) | (simp only [bne, h98]; decide) | (simp only [bne, h98, Bool.not_true, Bool.not_false]; decide) | (exfalso; omega) | (intro hq; simp only [bne, hq, Bool.not_false, Bool.not_true, reduceCtorEq] at h98))
 intro h98
 have g131 := ne_of_beq_false h98
 refine KS ?_
 refine Oq Qby (Oq Va (KS ?_))
 refine Kc ?_ ?_
 ·intro h132
  have g133 := eq_of_beq h132
  refine Ke ?_
  refine KS ?_
  refine Oq Va (KS ?_)
  refine Oq Va (KS ?_)
  refine Ke ?_
  refine KS ?_
  refine Qav [0, 1, 3, 0, 8, 31, 63] Qc8 ?_
  refine Dv [0] (Vfa Qdg 0) (Dv [0] (QaQ Qeq 0) ?_)
  refine QaO (Qa1 s.Uses) fun rv135 hg136 => ?_
  refine Dx [1] [] [2, 0, 1] (fun G => (G.g 2 0)) [fun G => SP.fact ((rv135.length = s.Uses.length)), fun G => os (G.g 2 0) rv135] (fun G => xC [0] Qkm (Qkr s.Uses sa2 sk2 rv135 hg136)) (Dv [0] (Vfa Qdi 0) (Dv [0] (QaQ Qeq 0) ?_))
  have hn138 := la rv135 s.Targets
  refine Dx [2, 5, 6] [6] [1, 2, 0] (fun G => (G.g 5 0)) [fun G => os (G.g 5 0) (rv135 ++ s.Targets)] (fun G => by refine xf 1 rfl ?_; rintro he139; exact xA (Ap [2, 0] Qcy Qcy Qe3)) (Dg [] (fun G => (G.g 5 0)) (fun G => Va) ?_)
  refine Dn ⟨by kernel_rfl, fun G => ?_⟩
  refine Jw2 [(1, p7), (5, vi 0), (3, vi 1), (4, vi 0), (6, (G.g 5 0))] [0, 1, 2, 3, 4] [SP.fact ((rv135.length = s.Uses.length)), os (G.g 5 0) (rv135 ++ s.Targets)] ?_
  generalize G.g 5 0 = c137
  refine Jf 5 rfl ?_; rintro he140
  refine Jk [0, 1, 2, 3, 4, 6] ?_
  refine Jo 5 ?_; rintro a141 k142 rfl
  refine Fb 16 5 fun _ => ?_
  refine FoS 5 fun ho144 => ?_
  refine KS ?_
  refine Oq Vm (Oq Qby (KS ?_))
  refine Kt (KS ?_)
  refine Oq Vm (Oq (Vfa Qet 0) (Oq (QaQ sh9 0) (Oa (AsV Qcy Qe3 [.string (bs s.Def)] [.string (bs s.Def)]) fun c145 => ?_)))
  refine Jo 0 ?_; rintro a146 k147 rfl
  refine Jl [0] (Ent.cr1 (α := Str) (A := []) _ s.Def _ aB1 (fun _ => ⟨rfl, aS1⟩)) ?_
  refine Oa (ApO [6, 0] Qcy Qcy Qe3) fun c148 => ?_
  refine Jo 0 ?_; rintro a149 k150 rfl
  refine Fb 16 0 fun _ => ?_
  refine FoS 0 fun ho152 => ?_
  have hn153 := la (rv135 ++ s.Targets) ([s.Def] : List Str)
  refine Oq Va (KS ?_)
  refine Oq Vm (Oq Qby (Oq Vm (Osk (Osk (Osk (Oq Vpt (Oq Vm (Oq (Vfa Qdg 1) (Oq (QaQ Qeq 1) ?_)))))))))
  refine Oq (QcE Qcy) (Oq Vm (Oq Qby (Oq Vpt (Oq Vm ?_))))
  refine Js 64 ?_ ?_
  ·intro h154
   have g155 := eq_of_beq h154
   refine Oq Vm (Oq Qh8 (Oq Vpt (Oq Vm (Oq (Vfa Qdi 1) (Oq (QaQ Qeq 1) (Oq (QcE Qcy) (Oq Vm (Oq Qby (Oq Vpt ?_)))))))))
   refine Oq Vm ?_
   refine Js 75 ?_ ?_
   ·intro h156
    have g157 := eq_of_beq h156
    refine Oq Vm ?_
    refine Jl [0] (Ent.freeze _ _) ?_
    refine QfD (Ent.pall [4, 5] rfl rfl) ?_
    refine QaO (Qat ((rv135 ++ s.Targets) ++ [s.Def]) (fun x => Qbl x)) fun rv158 hg159 => ?_
    have hc160 := Qj7 (((rv135 ++ s.Targets) ++ [s.Def])) a149 k150 103 [] (fun x => Qbl x) [pv (gp 0) [vl kwLA kwLK kwL], S kwLA kwLK kwL] Qj0 (fun x hx hq0 => QeY (A1 := _) (QjZ x  kwLA kwLK hq0 _ rfl)) rv158 hg159
    refine Oc [1, 0] Qj4 hc160 ?_
    rintro - -
    refine Oq QeP (Oq Vpt (Oq Va (KS ?_)))
    have hq := q4 hrr (!rv158) (by simp only [Qbf, h8, h43, h72, h98, h132, h154, h156, hg136, hg159, cs4]); subst hq
    exact Kr () rfl (.tmp rfl .nil) [] trivial
   intro h156
   have g161 := ne_of_beq_false h156
   refine Osk (Osk (Osk (Oq Vpf (Oq Va (KS ?_)))))
   have hq := q4 hrr false (by simp only [Qbf, h8, h43, h72, h98, h132, h154, h156, hg136, cs4]); subst hq
   exact Kr () rfl (.tmp rfl .nil) [] trivial
  intro h154
  have g162 := ne_of_beq_false h154
  refine Osk (Osk (Oq Vpf (Oq Vm (Osk (Osk (Osk (Osk (Osk (Oq Vpf ?_)))))))))
  refine Oq Vm (Osk (Osk (Osk (Oq Vpf (Oq Va (KS ?_))))))
  have hq := q4 hrr false (by simp only [Qbf, h8, h43, h72, h98, h132, h154, hg136, cs4]); subst hq
  exact Kr () rfl (.tmp rfl .nil) [] trivial
 intro h132
 have g163 := ne_of_beq_false h132
 refine KS ?_
 refine Oq Qby (Oq Va (KS ?_))
 refine Kc ?_ ?_
 ·intro h164
  have g165 := eq_of_beq h164
  refine Ke ?_
  refine KS ?_
  refine Oq Va (KS ?_)
  refine Oq Vm (Oq Qbd (Oq Va (KS ?_)))
  refine Oq Vm (Oq Qbd (Oq Va (KS ?_)))
  refine Oq (Vfa Qdw 0) (Oq (QaQ sh3 0) (Oq QgA (KS ?_)))
  refine Kc ?_ ?_
  ·intro h166
   exact absurd h166 (by first | (simp [h164]; done) | (simp only [bne, h164]; decide) | (simp only [bne, h164, Bool.not_true, Bool.not_false]; decide) | (exfalso; omega) | (intro hq; simp only [bne, hq, Bool.not_false, Bool.not_true, reduceCtorEq] at h164))
  intro h166
  have g167 := QaA h166
  refine KS ?_
  refine Ke ?_
  refine KS ?_
  refine Qav [0, 1, 3, 0, 8, 31, 63] Qc8 ?_
  refine Dv [0] (Vfa Qdg 0) (Dv [0] (QaQ Qeq 0) ?_)
  refine QaO (Qa1 s.Uses) fun rv169 hg170 => ?_
  refine Dx [1] [] [2, 0, 1] (fun G => (G.g 2 0)) [fun G => SP.fact ((rv169.length = s.Uses.length)), fun G => os (G.g 2 0) rv169] (fun G => xC [0] Qkm (Qkr s.Uses sa2 sk2 rv169 hg170)) (Dv [0] (Vfa Qdi 0) (Dv [0] (QaQ Qeq 0) ?_))
  have hn172 := la rv169 s.Targets
  refine Dx [2, 5, 6] [6] [1, 2, 0] (fun G => (G.g 5 0)) [fun G => os (G.g 5 0) (rv169 ++ s.Targets)] (fun G => by refine xf 1 rfl ?_; rintro he173; exact xA (Ap [2, 0] Qcy Qcy Qe3)) (Dg [] (fun G => (G.g 5 0)) (fun G => Va) ?_)
  refine Dn ⟨by kernel_rfl, fun G => ?_⟩
  refine Jw2 [(1, p7), (3, vi 0), (4, vi 1), (5, vi ((0 + 1) + 1)), (6, (G.g 5 0))] [0, 1, 2, 3, 4] [SP.fact ((rv169.length = s.Uses.length)), os (G.g 5 0) (rv169 ++ s.Targets)] ?_
  generalize G.g 5 0 = c171
  refine Jf 5 rfl ?_; rintro he174
  refine Jk [0, 1, 2, 3, 4, 6] ?_
  refine Jo 5 ?_; rintro a175 k176 rfl
  refine Fb 16 5 fun _ => ?_
  refine FoS 5 fun ho178 => ?_
  refine KS ?_
  refine Oq Vm (Oq Qby (KS ?_))
  refine Kf (KS ?_)
  refine Oq Vm (Oq Qby (Oq Vm (Oq (Vfa Qet 0) (Oq (QaQ sh9 0) (Oq (Qhj (l := s.Def) (m := (Str.mk []))) (Oq Vpf (Oq Vm ?_)))))))
  refine Js 57 ?_ ?_
  ·intro h179
   have g180 := eq_of_beq h179
   refine Oq (Vfa Qdg 0) (Oq (QaQ Qeq 0) (Oq (QcE Qcy) (Oq Vm (Oq Qby (Oq Vpt (Oq Vm ?_))))))
   refine Js 64 ?_ ?_
   ·intro h181
    have g182 := eq_of_beq h181
    refine Oq Vm (Oq Qh8 (Oq Vpt (Oq Vm (Oq (Vfa Qdi 0) (Oq (QaQ Qeq 0) (Oq (QcE Qcy) (Oq Vm (Oq Qby (Oq Vpt ?_)))))))))
    refine Oq Vm ?_
    refine Js 75 ?_ ?_
    ·intro h183
     have g184 := eq_of_beq h183
     refine Oq Vm ?_
     refine Jl [5] (Ent.freeze _ _) ?_
     refine QfD (Ent.pall [4, 5] rfl rfl) ?_
     refine QaO (Qat (rv169 ++ s.Targets) (fun x => Qbl x)) fun rv185 hg186 => ?_
     have hc187 := Qj7 ((rv169 ++ s.Targets)) a175 k176 103 [] (fun x => Qbl x) [pv (gp 0) [vl kwLA kwLK kwL], S kwLA kwLK kwL] Qj0 (fun x hx hq0 => QeY (A1 := _) (QjZ x  kwLA kwLK hq0 _ rfl)) rv185 hg186
     refine Oc [1, 0] Qj4 hc187 ?_
     rintro - -
     refine Oq QeP (Oq Vpt (Oq Va (KS ?_)))
     have hq := q4 hrr (!rv185) (by simp only [Qbf, h8, h43, h72, h98, h132, h164, h166, h179, h181, h183, hg170, hg186, cs4]); subst hq
     exact Kr () rfl (.tmp rfl .nil) [] trivial
    intro h183
    have g188 := ne_of_beq_false h183
    refine Osk (Osk (Osk (Oq Vpf (Oq Va (KS ?_)))))
    have hq := q4 hrr false (by simp only [Qbf, h8, h43, h72, h98, h132, h164, h166, h179, h181, h183, hg170, cs4]); subst hq
    exact Kr () rfl (.tmp rfl .nil) [] trivial
   intro h181
   have g189 := ne_of_beq_false h181
   refine Osk (Osk (Oq Vpf (Oq Vm (Osk (Osk (Osk (Osk (Osk (Oq Vpf ?_)))))))))
   refine Oq Vm (Osk (Osk (Osk (Oq Vpf (Oq Va (KS ?_))))))
   have hq := q4 hrr false (by simp only [Qbf, h8, h43, h72, h98, h132, h164, h166, h179, h181, hg170, cs4]); subst hq
   exact Kr () rfl (.tmp rfl .nil) [] trivial
  intro h179
  have g190 := ne_of_beq_false h179
  refine Osk (Osk (Osk (Osk (Osk (Oq Vpf (Oq Vm (Osk (Osk (Oq Vpf ?_)))))))))
  refine Oq Vm (Osk (Osk (Osk (Osk (Osk (Oq Vpf (Oq Vm (Osk (Osk ?_)))))))))
  refine Osk (Oq Vpf (Oq Va (KS ?_)))
  have hq := q4 hrr false (by simp only [Qbf, h8, h43, h72, h98, h132, h164, h166, h179, hg170, cs4]); subst hq
  exact Kr () rfl (.tmp rfl .nil) [] trivial
 intro h164
 have g191 := ne_of_beq_false h164
 refine KS ?_
 refine Oq Qby (Oq Va (KS ?_))
 refine Kc ?_ ?_
 ·intro h192
  have g193 := eq_of_beq h192
  refine KS ?_
  refine Kc ?_ ?_
  ·intro h194
   have g195 := eq_of_beq h194
   refine Ke ?_
   refine KS ?_
   refine Oq Vm (Oq Qbd (Oq Va (KS ?_)))
   refine Oq (Vfa Qdw 0) (Oq (QaQ sh3 0) (Oq QgA (KS ?_)))
   refine Kc ?_ ?_
   ·intro h196
    have g197 := QbL h196
    refine KS ?_
    refine Oq Va (KS ?_)
    refine Ke ?_
    refine KS ?_
    refine Qav [0, 1, 3, 0, 8, 31, 63] Qc8 ?_
    refine Dv [0] (Vfa Qdg 0) (Dv [0] (QaQ Qeq 0) ?_)
    refine QaO (Qa1 s.Uses) fun rv199 hg200 => ?_
    refine Dx [1] [] [2, 0, 1] (fun G => (G.g 2 0)) [fun G => SP.fact ((rv199.length = s.Uses.length)), fun G => os (G.g 2 0) rv199] (fun G => xC [0] Qkm (Qkr s.Uses sa2 sk2 rv199 hg200)) (Dv [0] (Vfa Qdi 0) (Dv [0] (QaQ Qeq 0) ?_))
    have hn202 := la rv199 s.Targets
    refine Dx [2, 5, 6] [6] [1, 2, 0] (fun G => (G.g 5 0)) [fun G => os (G.g 5 0) (rv199 ++ s.Targets)] (fun G => by refine xf 1 rfl ?_; rintro he203; exact xA (Ap [2, 0] Qcy Qcy Qe3)) (Dg [] (fun G => (G.g 5 0)) (fun G => Va) ?_)
    refine Dn ⟨by kernel_rfl, fun G => ?_⟩
    refine Jw2 [(1, p7), (3, vi 0), (5, vi (0 + 1)), (4, vi 0), (6, (G.g 5 0))] [0, 1, 2, 3, 4] [SP.fact ((rv199.length = s.Uses.length)), os (G.g 5 0) (rv199 ++ s.Targets)] ?_
    generalize G.g 5 0 = c201
    refine Jf 5 rfl ?_; rintro he204
    refine Jk [0, 1, 2, 3, 4, 6] ?_
    refine Jo 5 ?_; rintro a205 k206 rfl
    refine Fb 16 5 fun _ => ?_
    refine FoS 5 fun ho208 => ?_
    refine KS ?_
    refine Oq Vm (Oq Qby (KS ?_))
    refine Kf (KS ?_)
    refine Oq Vm (Oq Qby (Oq Vm (Oq (Vfa Qet 0) (Oq (QaQ sh9 0) (Oq (Qhj (l := s.Def) (m := (Str.mk []))) (Oq Vpf (Oq Vm ?_)))))))
    refine Js 57 ?_ ?_
    ·intro h209
     have g210 := eq_of_beq h209
     refine Oq (Vfa Qdg 0) (Oq (QaQ Qeq 0) (Oq (QcE Qcy) (Oq Vm (Oq Qby (Oq Vpt (Oq Vm ?_))))))
     refine Js 64 ?_ ?_
     ·intro h211
      have g212 := eq_of_beq h211
      refine Oq Vm (Oq Qh8 (Oq Vpt (Oq Vm (Oq (Vfa Qdi 0) (Oq (QaQ Qeq 0) (Oq (QcE Qcy) (Oq Vm (Oq Qby (Oq Vpt ?_)))))))))
      refine Oq Vm ?_
      refine Js 75 ?_ ?_
      ·intro h213
       have g214 := eq_of_beq h213
       refine Oq Vm ?_
       refine Jl [5] (Ent.freeze _ _) ?_
       refine QfD (Ent.pall [4, 5] rfl rfl) ?_
       refine QaO (Qat (rv199 ++ s.Targets) (fun x => Qbl x)) fun rv215 hg216 => ?_
       have hc217 := Qj7 ((rv199 ++ s.Targets)) a205 k206 103 [] (fun x => Qbl x) [pv (gp 0) [vl kwLA kwLK kwL], S kwLA kwLK kwL] Qj0 (fun x hx hq0 => QeY (A1 := _) (QjZ x  kwLA kwLK hq0 _ rfl)) rv215 hg216
       refine Oc [1, 0] Qj4 hc217 ?_
       rintro - -
       refine Oq QeP (Oq Vpt (Oq Va (KS ?_)))
       have hq := q4 hrr (!rv215) (by simp only [Qbf, h8, h43, h72, h98, h132, h164, h192, h194, h196, h209, h211, h213, hg200, hg216, cs4]); subst hq
       exact Kr () rfl (.tmp rfl .nil) [] trivial
      intro h213
      have g218 := ne_of_beq_false h213
      refine Osk (Osk (Osk (Oq Vpf (Oq Va (KS ?_)))))
      have hq := q4 hrr false (by simp only [Qbf, h8, h43, h72, h98, h132, h164, h192, h194, h196, h209, h211, h213, hg200, cs4]); subst hq
      exact Kr () rfl (.tmp rfl .nil) [] trivial
     intro h211
     have g219 := ne_of_beq_false h211
     refine Osk (Osk (Oq Vpf (Oq Vm (Osk (Osk (Osk (Osk (Osk (Oq Vpf ?_)))))))))
     refine Oq Vm (Osk (Osk (Osk (Oq Vpf (Oq Va (KS ?_))))))
     have hq := q4 hrr false (by simp only [Qbf, h8, h43, h72, h98, h132, h164, h192, h194, h196, h209, h211, hg200, cs4]); subst hq
     exact Kr () rfl (.tmp rfl .nil) [] trivial
    intro h209
    have g220 := ne_of_beq_false h209
    refine Osk (Osk (Osk (Osk (Osk (Oq Vpf (Oq Vm (Osk (Osk (Oq Vpf ?_)))))))))
    refine Oq Vm (Osk (Osk (Osk (Osk (Osk (Oq Vpf (Oq Vm (Osk (Osk ?_)))))))))
    refine Osk (Oq Vpf (Oq Va (KS ?_)))
    have hq := q4 hrr false (by simp only [Qbf, h8, h43, h72, h98, h132, h164, h192, h194, h196, h209, hg200, cs4]); subst hq
    exact Kr () rfl (.tmp rfl .nil) [] trivial
   intro h196
   exact absurd h196 (by first | (simp [h164]; done) | (simp only [bne, h164]; decide) | (simp only [bne, h164, Bool.not_true, Bool.not_false]; decide) | (exfalso; omega) | (intro hq; simp only [bne, hq, Bool.not_false, Bool.not_true, reduceCtorEq] at h164))
  intro h194
  exact absurd h194 (by first | (simp [h192]; done) | (simp only [bne, h192]; decide) | (simp only [bne, h192, Bool.not_true, Bool.not_false]; decide) | (exfalso; omega) | (intro hq; simp only [bne, hq, Bool.not_false, Bool.not_true, reduceCtorEq] at h192))
 intro h192
 have g221 := ne_of_beq_false h192
 refine KS ?_
 refine Oq Qby (Oq Va (KS ?_))
 refine Kc ?_ ?_
 ·intro h222
  have g223 := eq_of_beq h222
  refine Ke ?_
  refine KS ?_
  refine Oq Vm (Oq Qbd (Oq Va (KS ?_)))
  refine Oq (Vfa Qdw 0) (Oq (QaQ sh3 0) (Oq QgA (KS ?_)))
  refine Kc ?_ ?_
  ·intro h224
   have g225 := QbL h224
   refine KS ?_
   refine Oq Va (KS ?_)
   refine Ke ?_
   refine KS ?_
   refine Qav [0, 1, 3, 0, 8, 31, 63] Qc8 ?_
   refine Dv [0] (Vfa Qdg 0) (Dv [0] (QaQ Qeq 0) ?_)
   refine QaO (Qa1 s.Uses) fun rv227 hg228 => ?_
   refine Dx [1] [] [2, 0, 1] (fun G => (G.g 2 0)) [fun G => SP.fact ((rv227.length = s.Uses.length)), fun G => os (G.g 2 0) rv227] (fun G => xC [0] Qkm (Qkr s.Uses sa2 sk2 rv227 hg228)) (Dv [0] (Vfa Qdi 0) (Dv [0] (QaQ Qeq 0) ?_))
   have hn230 := la rv227 s.Targets
   refine Dx [2, 5, 6] [6] [1, 2, 0] (fun G => (G.g 5 0)) [fun G => os (G.g 5 0) (rv227 ++ s.Targets)] (fun G => by refine xf 1 rfl ?_; rintro he231; exact xA (Ap [2, 0] Qcy Qcy Qe3)) (Dg [] (fun G => (G.g 5 0)) (fun G => Va) ?_)
   refine Dn ⟨by kernel_rfl, fun G => ?_⟩
   refine Jw2 [(1, p7), (3, vi 0), (5, vi (0 + 1)), (4, vi 0), (6, (G.g 5 0))] [0, 1, 2, 3, 4] [SP.fact ((rv227.length = s.Uses.length)), os (G.g 5 0) (rv227 ++ s.Targets)] ?_
   generalize G.g 5 0 = c229
   refine Jf 5 rfl ?_; rintro he232
   refine Jk [0, 1, 2, 3, 4, 6] ?_
   refine Jo 5 ?_; rintro a233 k234 rfl
   refine Fb 16 5 fun _ => ?_
   refine FoS 5 fun ho236 => ?_
   refine KS ?_
   refine Oq Vm (Oq Qby (KS ?_))
   refine Kf (KS ?_)
   refine Oq Vm (Oq Qby (Oq Vm (Oq (Vfa Qet 0) (Oq (QaQ sh9 0) (Oq (Qhj (l := s.Def) (m := (Str.mk []))) (Oq Vpf (Oq Vm ?_)))))))
   refine Js 57 ?_ ?_
   ·intro h237
    have g238 := eq_of_beq h237
    refine Oq (Vfa Qdg 0) (Oq (QaQ Qeq 0) (Oq (QcE Qcy) (Oq Vm (Oq Qby (Oq Vpt (Oq Vm ?_))))))
    refine Js 64 ?_ ?_
    ·intro h239
     have g240 := eq_of_beq h239
     refine Oq Vm (Oq Qh8 (Oq Vpt (Oq Vm (Oq (Vfa Qdi 0) (Oq (QaQ Qeq 0) (Oq (QcE Qcy) (Oq Vm (Oq Qby (Oq Vpt ?_)))))))))
     refine Oq Vm ?_
     refine Js 75 ?_ ?_
     ·intro h241
      have g242 := eq_of_beq h241
      refine Oq Vm ?_
      refine Jl [5] (Ent.freeze _ _) ?_
      refine QfD (Ent.pall [4, 5] rfl rfl) ?_
      refine QaO (Qat (rv227 ++ s.Targets) (fun x => Qbl x)) fun rv243 hg244 => ?_
      have hc245 := Qj7 ((rv227 ++ s.Targets)) a233 k234 103 [] (fun x => Qbl x) [pv (gp 0) [vl kwLA kwLK kwL], S kwLA kwLK kwL] Qj0 (fun x hx hq0 => QeY (A1 := _) (QjZ x  kwLA kwLK hq0 _ rfl)) rv243 hg244
      refine Oc [1, 0] Qj4 hc245 ?_
      rintro - -
      refine Oq QeP (Oq Vpt (Oq Va (KS ?_)))
      have hq := q4 hrr (!rv243) (by simp only [Qbf, h8, h43, h72, h98, h132, h164, h192, h222, h224, h237, h239, h241, hg228, hg244, cs4]); subst hq
      exact Kr () rfl (.tmp rfl .nil) [] trivial
     intro h241
     have g246 := ne_of_beq_false h241
     refine Osk (Osk (Osk (Oq Vpf (Oq Va (KS ?_)))))
     have hq := q4 hrr false (by simp only [Qbf, h8, h43, h72, h98, h132, h164, h192, h222, h224, h237, h239, h241, hg228, cs4]); subst hq
     exact Kr () rfl (.tmp rfl .nil) [] trivial
    intro h239
    have g247 := ne_of_beq_false h239
    refine Osk (Osk (Oq Vpf (Oq Vm (Osk (Osk (Osk (Osk (Osk (Oq Vpf ?_)))))))))
    refine Oq Vm (Osk (Osk (Osk (Oq Vpf (Oq Va (KS ?_))))))
    have hq := q4 hrr false (by simp only [Qbf, h8, h43, h72, h98, h132, h164, h192, h222, h224, h237, h239, hg228, cs4]); subst hq
    exact Kr () rfl (.tmp rfl .nil) [] trivial
   intro h237
   have g248 := ne_of_beq_false h237
   refine Osk (Osk (Osk (Osk (Osk (Oq Vpf (Oq Vm (Osk (Osk (Oq Vpf ?_)))))))))
   refine Oq Vm (Osk (Osk (Osk (Osk (Osk (Oq Vpf (Oq Vm (Osk (Osk ?_)))))))))
   refine Osk (Oq Vpf (Oq Va (KS ?_)))
   have hq := q4 hrr false (by simp only [Qbf, h8, h43, h72, h98, h132, h164, h192, h222, h224, h237, hg228, cs4]); subst hq
   exact Kr () rfl (.tmp rfl .nil) [] trivial
  intro h224
  exact absurd h224 (by first | (simp [h164]; done) | (simp only [bne, h164]; decide) | (simp only [bne, h164, Bool.not_true, Bool.not_false]; decide) | (exfalso; omega) | (intro hq; simp only [bne, hq, Bool.not_false, Bool.not_true, reduceCtorEq] at h164))
 intro h222
 have g249 := ne_of_beq_false h222
 refine KS ?_
 refine Oq Qby (Oq Va (KS ?_))
 refine Kc ?_ ?_
 ·intro h250
  have g251 := eq_of_beq h250
  refine Ke ?_
  refine KS ?_
  refine Oq Va (KS ?_)
  refine Ke ?_
  refine KS ?_
  refine Qav [0, 1, 3, 0, 8, 31, 63] Qc8 ?_
  refine Dv [0] (Vfa Qdg 0) (Dv [0] (QaQ Qeq 0) ?_)
  refine QaO (Qa1 s.Uses) fun rv253 hg254 => ?_
  refine Dx [1] [] [2, 0, 1] (fun G => (G.g 2 0)) [fun G => SP.fact ((rv253.length = s.Uses.length)), fun G => os (G.g 2 0) rv253] (fun G => xC [0] Qkm (Qkr s.Uses sa2 sk2 rv253 hg254)) (Dv [0] (Vfa Qdi 0) (Dv [0] (QaQ Qeq 0) ?_))
  have hn256 := la rv253 s.Targets
  refine Dx [2, 5, 6] [6] [1, 2, 0] (fun G => (G.g 5 0)) [fun G => os (G.g 5 0) (rv253 ++ s.Targets)] (fun G => by refine xf 1 rfl ?_; rintro he257; exact xA (Ap [2, 0] Qcy Qcy Qe3)) (Dg [] (fun G => (G.g 5 0)) (fun G => Va) ?_)
  refine Dn ⟨by kernel_rfl, fun G => ?_⟩
  refine Jw2 [(1, p7), (3, vi 0), (5, vi 0), (4, vi 0), (6, (G.g 5 0))] [0, 1, 2, 3, 4] [SP.fact ((rv253.length = s.Uses.length)), os (G.g 5 0) (rv253 ++ s.Targets)] ?_
  generalize G.g 5 0 = c255
  refine Jf 5 rfl ?_; rintro he258
  refine Jk [0, 1, 2, 3, 4, 6] ?_
  refine Jo 5 ?_; rintro a259 k260 rfl
  refine Fb 16 5 fun _ => ?_
  refine FoS 5 fun ho262 => ?_
  refine KS ?_
  refine Oq Vm (Oq Qby (KS ?_))
  refine Kf (KS ?_)
  refine Oq Vm (Oq Qby (Oq Vm (Oq (Vfa Qet 0) (Oq (QaQ sh9 0) (Oq (Qhj (l := s.Def) (m := (Str.mk []))) (Oq Vpf (Oq Vm ?_)))))))
  refine Js 57 ?_ ?_
  ·intro h263
   have g264 := eq_of_beq h263
   refine Oq (Vfa Qdg 0) (Oq (QaQ Qeq 0) (Oq (QcE Qcy) (Oq Vm (Oq Qby (Oq Vpt (Oq Vm ?_))))))
   refine Js 64 ?_ ?_
   ·intro h265
    have g266 := eq_of_beq h265
    refine Oq Vm (Oq Qh8 (Oq Vpt (Oq Vm (Oq (Vfa Qdi 0) (Oq (QaQ Qeq 0) (Oq (QcE Qcy) (Oq Vm (Oq Qby (Oq Vpt ?_)))))))))
    refine Oq Vm ?_
    refine Js 75 ?_ ?_
    ·intro h267
     have g268 := eq_of_beq h267
     refine Oq Vm ?_
     refine Jl [5] (Ent.freeze _ _) ?_
     refine QfD (Ent.pall [4, 5] rfl rfl) ?_
     refine QaO (Qat (rv253 ++ s.Targets) (fun x => Qbl x)) fun rv269 hg270 => ?_
     have hc271 := Qj7 ((rv253 ++ s.Targets)) a259 k260 103 [] (fun x => Qbl x) [pv (gp 0) [vl kwLA kwLK kwL], S kwLA kwLK kwL] Qj0 (fun x hx hq0 => QeY (A1 := _) (QjZ x  kwLA kwLK hq0 _ rfl)) rv269 hg270
     refine Oc [1, 0] Qj4 hc271 ?_
     rintro - -
     refine Oq QeP (Oq Vpt (Oq Va (KS ?_)))
     have hq := q4 hrr (!rv269) (by simp only [Qbf, h8, h43, h72, h98, h132, h164, h192, h222, h250, h263, h265, h267, hg254, hg270, cs4]); subst hq
     exact Kr () rfl (.tmp rfl .nil) [] trivial
    intro h267
    have g272 := ne_of_beq_false h267
    refine Osk (Osk (Osk (Oq Vpf (Oq Va (KS ?_)))))
    have hq := q4 hrr false (by simp only [Qbf, h8, h43, h72, h98, h132, h164, h192, h222, h250, h263, h265, h267, hg254, cs4]); subst hq
    exact Kr () rfl (.tmp rfl .nil) [] trivial
   intro h265
   have g273 := ne_of_beq_false h265
   refine Osk (Osk (Oq Vpf (Oq Vm (Osk (Osk (Osk (Osk (Osk (Oq Vpf ?_)))))))))
   refine Oq Vm (Osk (Osk (Osk (Oq Vpf (Oq Va (KS ?_))))))
   have hq := q4 hrr false (by simp only [Qbf, h8, h43, h72, h98, h132, h164, h192, h222, h250, h263, h265, hg254, cs4]); subst hq
   exact Kr () rfl (.tmp rfl .nil) [] trivial
  intro h263
  have g274 := ne_of_beq_false h263
  refine Osk (Osk (Osk (Osk (Osk (Oq Vpf (Oq Vm (Osk (Osk (Oq Vpf ?_)))))))))
  refine Oq Vm (Osk (Osk (Osk (Osk (Osk (Oq Vpf (Oq Vm (Osk (Osk ?_)))))))))
  refine Osk (Oq Vpf (Oq Va (KS ?_)))
  have hq := q4 hrr false (by simp only [Qbf, h8, h43, h72, h98, h132, h164, h192, h222, h250, h263, hg254, cs4]); subst hq
  exact Kr () rfl (.tmp rfl .nil) [] trivial
 intro h250
 have g275 := ne_of_beq_false h250
 refine KS ?_
 refine Ke ?_
 refine KS ?_
 refine Oq Va (KS ?_)
 have hq := q4 hrr false (by simp only [Qbf, h8, h43, h72, h98, h132, h164, h192, h222, h250, cs4]); subst hq
 exact Kr () rfl (.tmp rfl .nil) [] trivial
theorem Qvs (s : Qax) (sa2 : Option Addr) (sk2 : Nat) (sa3 : Option Addr) (sk3 : Nat) (kwLA : Option Addr) (kwLK : Nat) (Qkw : Qac s.Op) (QqE : s.Def.b.length <= 140737488355328) (hsm : SSm s = true) (rr : Bool) (hrr : QfS s = rr) : FT Tryd.prog 69 #[.agg #[vi s.Op, .string (bs s.Def), vl sa2 sk2 s.Uses, vl sa3 sk3 s.Targets]] [S sa2 sk2 s.Uses, S sa3 sk3 s.Targets, pv (gp 0) [vl kwLA kwLK kwL], S kwLA kwLK kwL] (fun g : Unit => True) (fun g => vb rr) (fun g => []) := by
 refine FTi Tryd.func69 fun w0 M0 F0 => ?_
 unfold Qac at Qkw
 refine Fb 16 0 fun _ => ?_
 refine FoS 0 fun ho2 => ?_
 refine Fb 16 1 fun _ => ?_
 refine FoS 1 fun ho4 => ?_
 refine Fb 16 3 fun _ => ?_
 refine FoS 3 fun ho6 => ?_
 refine KS ?_
 refine Oa (Ab [vi s.Op, .string (bs s.Def), vl sa2 sk2 s.Uses, vl sa3 sk3 s.Targets]) fun p7 => Oq Va (KS ?_)
 refine Oq (Qc9 QdF 0) ?_
 refine QaO (Qbf s) fun rv8 hg9 => ?_
 have hc10 := Qvi s sa2 sk2 sa3 sk3 kwLA kwLK pre pre pre rv8 hg9
 refine Oc [1, 2, 3, 4] Qu5 hc10 ?_
 rintro - -
 refine Oq QeP (Oq Va (KS ?_))
 have hq := q4 hrr (!rv8) (by simp only [QfS, hg9, cs4]); subst hq
 exact Kr () rfl (.tmp rfl .nil) [] trivial
theorem QsE (p : Qaj) (pa0 : Option Addr) (pk0 : Nat) (kwLA : Option Addr) (kwLK : Nat) (hps : PSm p = true) (rr : Bool) (hrr : Qcr p = rr) : FT Tryd.prog 45 #[.agg #[vl pa0 pk0 p.Funcs]] [S pa0 pk0 p.Funcs, pv (gp 0) [vl kwLA kwLK kwL], S kwLA kwLK kwL] (fun g : Unit => True) (fun g => vb rr) (fun g => []) := by
 refine FTi Tryd.func45 fun w0 M0 F0 => Fb 40 0 fun _ => Fb 16 2 fun _ => ?_
 refine FoS 2 fun ho3 => ?_
 refine KS ?_
 refine Oa (Ab [vl pa0 pk0 p.Funcs]) fun p4 => Oq Va (KS ?_)
 refine Oq (Vfa QdZ 0) (Oq (QaQ Qia 0) (Oq (QcE QgV) (Oq Qcu (Oq Vm ?_))))
 refine Js 11 ?_ ?_
 ·intro h5
  have g6 := dt h5
  refine Osk (Osk (Osk (Osk (Oq Vpt (KS ?_)))))
  refine Kt (KS ?_)
  refine Oq Va (KS ?_)
  have hq := q4 hrr false (by simp only [Qcr, h5, cs4]); subst hq
  exact Kr () rfl (.tmp rfl .nil) [] trivial
 intro h5
 have g7 := df h5
 refine Oq (Vfa QdZ 0) (Oq (QaQ Qia 0) (Oq (QcE QgV) (Oq QhM (Oq Vpf (KS ?_)))))
 refine Kc ?_ ?_
 ·intro h8
  have g9 := dt h8
  have hfm := Qsm hps (i := 8) aM1
  refine KS ?_
  refine Oq Va (KS ?_)
  have hq := q4 hrr false (by simp only [Qcr, h5, h8, cs4]); subst hq
  exact Kr () rfl (.tmp rfl .nil) [] trivial
 intro h8
 have g10 := df h8
 refine KS ?_
 refine Oq (Vfa QdZ 0) (Oq (QaQ Qia 0) (Oq (QcE QgV) (Oq Vm (KS ?_))))
 refine Kl (γ := Nat × Int) (fun (r11, QdB) => ⟨[(18, vl pa0 pk0 p.Funcs), (19, vi (p.Funcs.length : Int)), (20, vi QdB)], [S pa0 pk0 p.Funcs, pv (gp 0) [vl kwLA kwLK kwL], S kwLA kwLK kwL], Qcb p r11 QdB = Qcb p (((p.Funcs.length : Int) - 0).toNat) 0 /\ r11 = ((p.Funcs.length : Int) - QdB).toNat /\ (0 : Int) <= QdB /\ QdB <= (p.Funcs.length : Int) /\ (-9223372036854775808 <= QdB /\ QdB <= 9223372036854775807), r11⟩) (((p.Funcs.length : Int) - 0).toNat, 0) [1, 2, 3] ⟨rfl, rfl, aM1, aM1, aM1⟩ ?_
 rintro ⟨r11, QdB⟩ ⟨hM13, hr14, hi15, hi16, hk17⟩
 refine QbB fun _ _ hL hA => ?_; dsimp only at hL hA; subst hL hA
 refine Fb 40 0 fun _ => Fb 16 2 fun _ => ?_
 refine FoS 2 fun ho20 => ?_
 refine KS ?_
 refine Oq Qcu (KS ?_)
 refine Kc ?_ ?_
 ·intro h21
  have g22 := dt h21
  have hfm := Qsm hps (i := QdB) aM1
  obtain ⟨r23, rfl⟩ := scc (n := r11) aM1
  refine KS ?_
  refine Oq (Vi QgV 0) ?_
  refine QcR QdB.toNat 0 rfl rng fun a24 k25 hb26 => ?_
  refine Fb 40 1 fun _ => ?_
  refine Oq (Qc9 Qhk 0) (Oa (Al QnG [.string (bs (Str.mk [])), .slice none 0 0]) fun p28 => Ost (Scl [0] Qhk [.string (bs ((p.Funcs.getD QdB.toNat default).Name)), vl a24 k25 ((p.Funcs.getD QdB.toNat default).Blocks)]) (KS ?_))
  refine Oq (Vfa Qk4 0) (Oq (QaQ sh9 0) ?_)
  refine QaO (Qcm ((p.Funcs.getD QdB.toNat default).Name)) fun rv29 hg30 => ?_
  have hc31 := QsK ((p.Funcs.getD QdB.toNat default).Name) kwLA kwLK pre rv29 hg30
  refine Oc [4, 5] QsV hc31 ?_
  rintro - -
  refine Oq QeP (Oq Vm ?_)
  refine Js 28 ?_ ?_
  ·intro h32
   have h34 := not_true h32
   refine Osk (Osk (Osk (Osk (Oq Vpt (Oq Vm (Osk (Osk (Osk (Osk ?_)))))))))
   refine Oq Vpt (KS ?_)
   refine Kt (KS ?_)
   refine Oq Va (KS ?_)
   have hR36 := q2 hM13 (.ret false) (by simp only [Qcb, h5, h8, h21, h32, h34, hg30, cs4])
   have hq := q4 hrr false (by simp only [Qcr, h5, h8, h21, h32, h34, hg30, hR36, cs4]); subst hq
   exact Kr () rfl (.tmp rfl .nil) [] trivial
  intro h32
  have h38 := not_false h32
  refine Oq (Vfa Qd0 0) (Oq (QaQ Qic 0) (Oq (QcE QgJ) (Oq Qcu (Oq Vpf (Oq Vm ?_)))))
  refine Js 34 ?_ ?_
  ·intro h40
   have g41 := dt h40
   refine Osk (Osk (Osk (Osk (Oq Vpt (KS ?_)))))
   refine Kt (KS ?_)
   refine Oq Va (KS ?_)
   have hR42 := q2 hM13 (.ret false) (by simp only [Qcb, h5, h8, h21, h32, h38, h40, hg30, cs4])
   have hq := q4 hrr false (by simp only [Qcr, h5, h8, h21, h32, h38, h40, hg30, hR42, cs4]); subst hq
   exact Kr () rfl (.tmp rfl .nil) [] trivial
  intro h40
  have g43 := df h40
  refine Oq (Vfa Qd0 0) (Oq (QaQ Qic 0) (Oq (QcE QgJ) (Oq QhM (Oq Vpf (KS ?_)))))
  refine Kc ?_ ?_
  ·intro h44
   have g45 := dt h44
   have hbm := Qrp hfm (i := 16) aM1
   refine KS ?_
   refine Oq Va (KS ?_)
   have hR46 := q2 hM13 (.ret false) (by simp only [Qcb, h5, h8, h21, h32, h38, h40, h44, hg30, cs4])
   have hq := q4 hrr false (by simp only [Qcr, h5, h8, h21, h32, h38, h40, h44, hg30, hR46, cs4]); subst hq
   exact Kr () rfl (.tmp rfl .nil) [] trivial
  intro h44
  have g47 := df h44
  refine KS ?_
  refine Oq (Vfa Qd0 0) (Oq (QaQ Qic 0) (Oq (QcE QgJ) (Oq Vm (KS ?_))))
  refine Kl (γ := Nat × Int) (fun (r48, Qe5) => ⟨[(18, vl pa0 pk0 p.Funcs), (19, vi (p.Funcs.length : Int)), (20, vi QdB), (41, vl a24 k25 ((p.Funcs.getD QdB.toNat default).Blocks)), (42, vi (((p.Funcs.getD QdB.toNat default).Blocks).length : Int)), (43, vi Qe5)], [S a24 k25 ((p.Funcs.getD QdB.toNat default).Blocks), S pa0 pk0 p.Funcs, pv (gp 0) [vl kwLA kwLK kwL], S kwLA kwLK kwL], QcS ((p.Funcs.getD QdB.toNat default).Blocks) r48 Qe5 = QcS ((p.Funcs.getD QdB.toNat default).Blocks) ((((((p.Funcs.getD QdB.toNat default).Blocks).length : Int) : Int) - 0).toNat) 0 /\ r48 = (((((p.Funcs.getD QdB.toNat default).Blocks).length : Int) : Int) - Qe5).toNat /\ (0 : Int) <= Qe5 /\ (Qe5 <= (((p.Funcs.getD QdB.toNat default).Blocks).length : Int) \/ Qe5 = 0) /\ (-9223372036854775808 <= Qe5 /\ Qe5 <= 9223372036854775807), r48⟩) ((((((p.Funcs.getD QdB.toNat default).Blocks).length : Int) : Int) - 0).toNat, 0) [2, 3, 4, 5] ⟨rfl, rfl, aM1, (.inr rfl), aM1⟩ ?_
  rintro ⟨r48, Qe5⟩ ⟨hM50, hr51, hi52, hi53, hk54⟩
  refine QbB fun _ _ hL hA => ?_; dsimp only at hL hA; subst hL hA
  refine Fb 40 0 fun _ => Fb 40 1 fun _ => Fb 16 3 fun _ => ?_
  refine FoS 3 fun ho58 => ?_
  refine KS ?_
  refine Oq Qcu (KS ?_)
  refine Kc ?_ ?_
  ·intro h59
   have g60 := dt h59
   have hbm := Qrp hfm (i := Qe5) aM1
   obtain ⟨r61, rfl⟩ := scc (n := r48) aM1
   refine KS ?_
   refine Oq (Vi QgJ 0) ?_
   refine QcK Qe5.toNat 0 rfl rng fun a62 k63 hb64 => ?_
   refine Fb 72 1 fun _ => ?_
   refine Oq (Qc9 Qg2 0) (Oa (Al QnE [.string (bs (Str.mk [])), .slice none 0 0]) fun p66 => Ost (Scl [0] Qg2 [.string (bs ((((p.Funcs.getD QdB.toNat default).Blocks).getD Qe5.toNat default).Name)), .slice a62 (((((p.Funcs.getD QdB.toNat default).Blocks).getD Qe5.toNat default).Stmts).length) k63]) (KS ?_))
   refine Oq (Vfa Qk1 0) (Oq (QaQ sh9 0) ?_)
   refine QaO (Qcm ((((p.Funcs.getD QdB.toNat default).Blocks).getD Qe5.toNat default).Name)) fun rv67 hg68 => ?_
   have hc69 := QsK ((((p.Funcs.getD QdB.toNat default).Blocks).getD Qe5.toNat default).Name) kwLA kwLK pre rv67 hg68
   refine Oc [5, 6] QsV hc69 ?_
   rintro - -
   refine Oq QeP (Oq Vm ?_)
   refine Js 51 ?_ ?_
   ·intro h70
    have h72 := not_true h70
    refine Osk (Osk (Osk (Osk (Oq Vpt (Oq Vm (Osk (Osk (Osk (Osk ?_)))))))))
    refine Oq Vpt (Oq Vm (Osk (Osk (Osk (Oq Vpt (KS ?_))))))
    refine Kt (KS ?_)
    refine Oq Va (KS ?_)
    have hR74 := q2 hM50 (.ret false) (by simp only [QcS, h5, h8, h21, h32, h38, h40, h44, h59, h70, h72, hg30, hg68, cs4])
    have hR75 := q2 hM13 (.ret false) (by simp only [Qcb, h5, h8, h21, h32, h38, h40, h44, h59, h70, h72, hg30, hg68, hR74, cs4])
    have hq := q4 hrr false (by simp only [Qcr, h5, h8, h21, h32, h38, h40, h44, h59, h70, h72, hg30, hg68, hR74, hR75, cs4]); subst hq
    exact Kr () rfl (.tmp rfl .nil) [] trivial
   intro h70
   have h77 := not_false h70
   refine Oq (Vfa QdO 0) (Oq (QaQ QhV 0) (Oq (QcE QgE) (Oq Qcu (Oq Vpf (Oq Vm ?_)))))
   refine Js 57 ?_ ?_
   ·intro h79
    have g80 := dt h79
    refine Osk (Osk (Osk (Osk (Oq Vpt (Oq Vm (Osk (Osk (Osk (Oq Vpt ?_)))))))))
    refine KS ?_
    refine Kt (KS ?_)
    refine Oq Va (KS ?_)
    have hR81 := q2 hM50 (.ret false) (by simp only [QcS, h5, h8, h21, h32, h38, h40, h44, h59, h70, h77, h79, hg30, hg68, cs4])
    have hR82 := q2 hM13 (.ret false) (by simp only [Qcb, h5, h8, h21, h32, h38, h40, h44, h59, h70, h77, h79, hg30, hg68, hR81, cs4])
    have hq := q4 hrr false (by simp only [Qcr, h5, h8, h21, h32, h38, h40, h44, h59, h70, h77, h79, hg30, hg68, hR81, hR82, cs4]); subst hq
    exact Kr () rfl (.tmp rfl .nil) [] trivial
   intro h79
   have g83 := df h79
   refine Oq (Vfa QdO 0) (Oq (QaQ QhV 0) (Oq (QcE QgE) (Oq QhM (Oq Vpf (Oq Vm ?_)))))
   refine Js 63 ?_ ?_
   ·intro h84
    have g85 := dt h84
    refine Osk (Osk (Osk (Oq Vpt (KS ?_))))
    refine Kt (KS ?_)
    refine Oq Va (KS ?_)
    have hR86 := q2 hM50 (.ret false) (by simp only [QcS, h5, h8, h21, h32, h38, h40, h44, h59, h70, h77, h79, h84, hg30, hg68, cs4])
    have hR87 := q2 hM13 (.ret false) (by simp only [Qcb, h5, h8, h21, h32, h38, h40, h44, h59, h70, h77, h79, h84, hg30, hg68, hR86, cs4])
    have hq := q4 hrr false (by simp only [Qcr, h5, h8, h21, h32, h38, h40, h44, h59, h70, h77, h79, h84, hg30, hg68, hR86, hR87, cs4]); subst hq
    exact Kr () rfl (.tmp rfl .nil) [] trivial
   intro h84
   have g88 := df h84
   refine Oq (Vfa QdO 0) (Oq (QaQ QhV 0) ?_)
   refine QfD (Ent.pall [5, 6] rfl rfl) ?_
   refine QaO (Qcq ((((p.Funcs.getD QdB.toNat default).Blocks).getD Qe5.toNat default).Stmts) (fun x => QfS x)) fun rv89 hg90 => ?_
   have hc91 := QuV ((((p.Funcs.getD QdB.toNat default).Blocks).getD Qe5.toNat default).Stmts) a62 k63 69 [] (fun x => QfS x) [pv (gp 0) [vl kwLA kwLK kwL], S kwLA kwLK kwL] Qu9 (fun x hx a2 k2 a3 k3 hq0 hq1 => QeY (A1 := _) (Qvs x a2 k2 a3 k3 kwLA kwLK hq0 hq1 (Qs0 hbm hx) _ rfl)) rv89 hg90
   refine Oc [3, 0] Qu2 hc91 ?_
   rintro - -
   refine Oq Vpf (KS ?_)
   refine Kc ?_ ?_
   ·intro h92
    refine KS ?_
    refine Oq Va (KS ?_)
    have hR94 := q2 hM50 (.ret false) (by simp only [QcS, h5, h8, h21, h32, h38, h40, h44, h59, h70, h77, h79, h84, h92, hg30, hg68, hg90, cs4])
    have hR95 := q2 hM13 (.ret false) (by simp only [Qcb, h5, h8, h21, h32, h38, h40, h44, h59, h70, h77, h79, h84, h92, hg30, hg68, hg90, hR94, cs4])
    have hq := q4 hrr false (by simp only [Qcr, h5, h8, h21, h32, h38, h40, h44, h59, h70, h77, h79, h84, h92, hg30, hg68, hg90, hR94, hR95, cs4]); subst hq
    exact Kr () rfl (.tmp rfl .nil) [] trivial
   intro h92
   refine KS ?_
   refine Oq Qbd (Oq Vm (KS ?_))
   exact Kg (r61, (Qe5 + 1)) [4, 5, 6, 7] ⟨(q3 hM50 (by simp only [QcS, h5, h8, h21, h32, h38, h40, h44, h59, h70, h77, h79, h84, h92, hg30, hg68, hg90, cs4])), aM1, aM1, aM1, aM1⟩
  intro h59
  have g97 := df h59
  obtain rfl : r48 = 0 := by omega
  refine Ke ?_
  have hR98 := q2 hM50 (.brk ()) (by simp only [QcS, h5, h8, h21, h32, h38, h40, h44, h59, hg30, cs4])
  refine KS ?_
  refine Oq Qbd (Oq Vm (KS ?_))
  exact Kg (r23, (QdB + 1)) [1, 2, 3] ⟨(q3 hM13 (by simp only [Qcb, h5, h8, h21, h32, h38, h40, h44, h59, hg30, hR98, cs4])), aM1, aM1, aM1, aM1⟩
 intro h21
 have g99 := df h21
 obtain rfl : r11 = 0 := by omega
 refine Ke ?_
 have hR100 := q2 hM13 (.brk ()) (by simp only [Qcb, h5, h8, h21, cs4])
 refine KS ?_
 refine Oq Va (KS ?_)
 have hq := q4 hrr true (by simp only [Qcr, h5, h8, h21, hR100, cs4]); subst hq
 exact Kr () rfl (.tmp rfl .nil) [] trivial
theorem QvG (l : List Qbv) (la0 : Option Addr) (lk0 : Nat) (nameF : FuncId) (nameC : List Value) (namep : Qbv -> Str) (nameA : List SP) (hnamec : Qap Tryd.prog nameF = true) (hnameF : ∀ x0, ∀ (a0 : Option Addr) (k0 : Nat), x0.Name.b.length <= 140737488355328 -> FT Tryd.prog nameF ([(.agg #[.string (bs x0.Name), vl a0 k0 x0.Blocks] : Value)] ++ nameC).toArray ([S a0 k0 x0.Blocks] ++ [Qid nameA]) (fun _ : Unit => (namep x0).b.length <= 140737488355328) (fun _ => .string (bs (namep x0))) (fun _ => [])) (rr : Int × (List (Str × Bool))) (hrr : Qc0 l namep = rr) : FT Tryd.prog 46 #[vl la0 lk0 l, .func (.func nameF) #[] nameC.toArray] [S la0 lk0 l, Qid nameA] (fun g : Value => Qac rr.1) (fun g => .tuple #[vi rr.1, g]) (fun g => [Mp QgI vb Qeg g rr.2]) := by
 refine FTi Tryd.func46 fun w0 M0 F0 => Fb 40 0 fun _ => ?_
 refine KS ?_
 refine Oq Va (Oq Va (KS ?_))
 refine Oa (Amp (κ := Str) (ν := Bool) (ek := QgI) (ev := vb) (ok := Qeg)) fun p2 => ?_
 refine Jom 0 ?_; rintro b3 rfl
 refine Oq Va (KS ?_)
 refine Oq Va (KS ?_)
 refine Oq Vm (Oq (QcE QgV) (Oq Vm (KS ?_)))
 refine Kl (γ := Nat × (List (Str × Bool)) × Int × Int) (fun (r4, Qey, at__6, Qcj) => ⟨[(1, .func (.func nameF) #[] nameC.toArray), (6, (mv b3)), (7, vi at__6), (11, vl la0 lk0 l), (12, vi (l.length : Int)), (13, vi Qcj)], [Mp QgI vb Qeg (mv b3) Qey, S la0 lk0 l, Qid nameA], Qa5 l namep r4 Qey at__6 Qcj = Qa5 l namep (((l.length : Int) - 0).toNat) [] (-1) 0 /\ r4 = ((l.length : Int) - Qcj).toNat /\ (0 : Int) <= Qcj /\ Qcj <= (l.length : Int) /\ (-9223372036854775808 <= at__6 /\ at__6 <= 9223372036854775807) /\ (-9223372036854775808 <= Qcj /\ Qcj <= 9223372036854775807), r4⟩) (((l.length : Int) - 0).toNat, [], -1, 0) [0, 0, 1] ⟨rfl, rfl, aM1, aM1, aM1, aM1⟩ ?_
 rintro ⟨r4, Qey, at__6, Qcj⟩ ⟨hM8, hr9, hi10, hi11, hk12, hk13⟩
 refine QbB fun _ _ hL hA => ?_; dsimp only at hL hA; subst hL hA
 refine Fb 40 1 fun _ => KS ?_
 refine Oq Qcu (KS ?_)
 refine Kc ?_ ?_
 ·intro h15
  have g16 := dt h15
  obtain ⟨r17, rfl⟩ := scc (n := r4) aM1
  refine KS ?_
  refine Oq Vm (Oq (Vi QgV 1) ?_)
  refine QcR Qcj.toNat 1 rfl rng fun a18 k19 hb20 => ?_
  refine Fb 40 1 fun _ => ?_
  refine Oq (Qc9 Qhk 0) (Oa (Al QnG [.string (bs (Str.mk [])), .slice none 0 0]) fun p22 => Oq Va (Ost (Scl [0] Qhk [.string (bs ((l.getD Qcj.toNat default).Name)), vl a18 k19 ((l.getD Qcj.toNat default).Blocks)]) (KS ?_)))
  refine Oq Vm (Oq Vm (Oq (Qc9 Qhk 0) ?_))
  refine Qes [2, 5] rfl rfl rfl (OpC.clo («as» := [(.agg #[.string (bs ((l.getD Qcj.toNat default).Name)), vl a18 k19 ((l.getD Qcj.toNat default).Blocks)] : Value)] ++ nameC) rfl rfl hnamec rfl (by simp)) (hnameF (l.getD Qcj.toNat default) a18 k19 pre) rfl fun _ he23 => ?_
  refine Oq (Qqx 3 false Qi3 (Qm5 un9) ze4 (ek := QgI) (ev := vb) (ok := Qeg) (key := (namep (l.getD Qcj.toNat default))) pre) (Oq Vm ?_)
  refine Js 23 ?_ ?_
  ·intro h24
   refine Oq Vm (Oq Qcu (Oq Vpt (KS ?_)))
   refine Kc ?_ ?_
   ·intro h26
    have g27 := dt h26
    refine KS ?_
    refine Oq Vm (Oq Va (KS ?_))
    refine Oq Vm (Oq Vm (Oq (Qc9 Qhk 0) ?_))
    refine Qes [2, 5] rfl rfl rfl (OpC.clo («as» := [(.agg #[.string (bs ((l.getD Qcj.toNat default).Name)), vl a18 k19 ((l.getD Qcj.toNat default).Blocks)] : Value)] ++ nameC) rfl rfl hnamec rfl (by simp)) (hnameF (l.getD Qcj.toNat default) a18 k19 pre) rfl fun _ he28 => ?_
    refine Ost (Smp [3] Qi3 (Qm5 un9) true (ek := QgI) (ev := vb) (ok := Qeg) (key := (namep (l.getD Qcj.toNat default))) pre) (KS ?_)
    refine Oq Qbd (Oq Vm (KS ?_))
    exact Kg (r17, (mset Qey (namep (l.getD Qcj.toNat default)) true), Qcj, (Qcj + 1)) [0, 3, 4] ⟨(q3 hM8 (by simp only [Qa5, h15, h24, h26, cs4])), aM1, aM1, aM1, aM1, aM1⟩
   intro h26
   have g29 := df h26
   refine KS ?_
   refine Oq Vm (Oq Vm (Oq (Qc9 Qhk 0) ?_))
   refine Qes [2, 5] rfl rfl rfl (OpC.clo («as» := [(.agg #[.string (bs ((l.getD Qcj.toNat default).Name)), vl a18 k19 ((l.getD Qcj.toNat default).Blocks)] : Value)] ++ nameC) rfl rfl hnamec rfl (by simp)) (hnameF (l.getD Qcj.toNat default) a18 k19 pre) rfl fun _ he30 => ?_
   refine Ost (Smp [3] Qi3 (Qm5 un9) true (ek := QgI) (ev := vb) (ok := Qeg) (key := (namep (l.getD Qcj.toNat default))) pre) (KS ?_)
   refine Oq Qbd (Oq Vm (KS ?_))
   exact Kg (r17, (mset Qey (namep (l.getD Qcj.toNat default)) true), at__6, (Qcj + 1)) [0, 3, 4] ⟨(q3 hM8 (by simp only [Qa5, h15, h24, h26, cs4])), aM1, aM1, aM1, aM1, aM1⟩
  intro h24
  refine Osk (Osk (Oq Vpf (KS ?_)))
  refine Kf (KS ?_)
  refine Oq Vm (Oq Vm (Oq (Qc9 Qhk 0) ?_))
  refine Qes [2, 5] rfl rfl rfl (OpC.clo («as» := [(.agg #[.string (bs ((l.getD Qcj.toNat default).Name)), vl a18 k19 ((l.getD Qcj.toNat default).Blocks)] : Value)] ++ nameC) rfl rfl hnamec rfl (by simp)) (hnameF (l.getD Qcj.toNat default) a18 k19 pre) rfl fun _ he32 => ?_
  refine Ost (Smp [3] Qi3 (Qm5 un9) true (ek := QgI) (ev := vb) (ok := Qeg) (key := (namep (l.getD Qcj.toNat default))) pre) (KS ?_)
  refine Oq Qbd (Oq Vm (KS ?_))
  exact Kg (r17, (mset Qey (namep (l.getD Qcj.toNat default)) true), at__6, (Qcj + 1)) [0, 3, 4] ⟨(q3 hM8 (by simp only [Qa5, h15, h24, cs4])), aM1, aM1, aM1, aM1, aM1⟩
 intro h15
 have g33 := df h15
 obtain rfl : r4 = 0 := by omega
 refine Ke ?_
 have hR34 := q2 hM8 (Qey, at__6) (by simp only [Qa5, h15, cs4])
 refine KS ?_
 refine Oq Vm (Oq Vm (Oq Va (Oq Va (KS ?_))))
 have hq := q4 hrr (at__6, Qey) (by simp only [Qc0, h15, hR34, cs4]); subst hq
 exact Kr (mv b3) rfl (.tmp rfl (.tmp rfl .nil)) [0] en
theorem Qvf (f : Qbv) (fa1 : Option Addr) (fk1 : Nat) (Qst : f.Name.b.length <= 140737488355328) (rr : Str) (hrr : QeB f = rr) : FT Tryd.prog 47 #[.agg #[.string (bs f.Name), vl fa1 fk1 f.Blocks]] [S fa1 fk1 f.Blocks] (fun g : Unit => rr.b.length <= 140737488355328) (fun g => .string (bs rr)) (fun g => []) := by
 refine FTi Tryd.func47 fun w0 M0 F0 => Fb 40 0 fun _ => ?_
 refine KS ?_
 refine Oa (Ab [.string (bs f.Name), vl fa1 fk1 f.Blocks]) fun p2 => Oq Va (KS ?_)
 refine Oq (Vfa Qk4 0) (Oq (QaQ sh9 0) (Oq Va (KS ?_)))
 have hq := q4 hrr f.Name (by simp only [QeB, cs4]); subst hq
 exact Kr () rfl (.tmp rfl .nil) [] en
theorem Qwb (l : List QaM) (la0 : Option Addr) (lk0 : Nat) (nameF : FuncId) (nameC : List Value) (namep : QaM -> Str) (nameA : List SP) (hnamec : Qap Tryd.prog nameF = true) (hnameF : ∀ x0, ∀ (a0 : Option Addr) (k0 : Nat), x0.Name.b.length <= 140737488355328 -> FT Tryd.prog nameF ([(.agg #[.string (bs x0.Name), vl a0 k0 x0.Stmts] : Value)] ++ nameC).toArray ([S a0 k0 x0.Stmts] ++ [Qid nameA]) (fun _ : Unit => (namep x0).b.length <= 140737488355328) (fun _ => .string (bs (namep x0))) (fun _ => [])) (rr : Int × (List (Str × Bool))) (hrr : QdN l namep = rr) : FT Tryd.prog 71 #[vl la0 lk0 l, .func (.func nameF) #[] nameC.toArray] [S la0 lk0 l, Qid nameA] (fun g : Value => Qac rr.1) (fun g => .tuple #[vi rr.1, g]) (fun g => [Mp QgI vb Qeg g rr.2]) := by
 refine FTi Tryd.func71 fun w0 M0 F0 => Fb 40 0 fun _ => ?_
 refine KS ?_
 refine Oq Va (Oq Va (KS ?_))
 refine Oa (Amp (κ := Str) (ν := Bool) (ek := QgI) (ev := vb) (ok := Qeg)) fun p2 => ?_
 refine Jom 0 ?_; rintro b3 rfl
 refine Oq Va (KS ?_)
 refine Oq Va (KS ?_)
 refine Oq Vm (Oq (QcE QgJ) (Oq Vm (KS ?_)))
 refine Kl (γ := Nat × (List (Str × Bool)) × Int × Int) (fun (r4, Qey, at__6, Qcj) => ⟨[(1, .func (.func nameF) #[] nameC.toArray), (6, (mv b3)), (7, vi at__6), (11, vl la0 lk0 l), (12, vi (l.length : Int)), (13, vi Qcj)], [Mp QgI vb Qeg (mv b3) Qey, S la0 lk0 l, Qid nameA], Qa2 l namep r4 Qey at__6 Qcj = Qa2 l namep (((l.length : Int) - 0).toNat) [] (-1) 0 /\ r4 = ((l.length : Int) - Qcj).toNat /\ (0 : Int) <= Qcj /\ Qcj <= (l.length : Int) /\ (-9223372036854775808 <= at__6 /\ at__6 <= 9223372036854775807) /\ (-9223372036854775808 <= Qcj /\ Qcj <= 9223372036854775807), r4⟩) (((l.length : Int) - 0).toNat, [], -1, 0) [0, 0, 1] ⟨rfl, rfl, aM1, aM1, aM1, aM1⟩ ?_
 rintro ⟨r4, Qey, at__6, Qcj⟩ ⟨hM8, hr9, hi10, hi11, hk12, hk13⟩
 refine QbB fun _ _ hL hA => ?_; dsimp only at hL hA; subst hL hA
 refine Fb 40 1 fun _ => KS ?_
 refine Oq Qcu (KS ?_)
 refine Kc ?_ ?_
 ·intro h15
  have g16 := dt h15
  obtain ⟨r17, rfl⟩ := scc (n := r4) aM1
  refine KS ?_
  refine Oq Vm (Oq (Vi QgJ 1) ?_)
  refine QcK Qcj.toNat 1 rfl rng fun a18 k19 hb20 => ?_
  refine Fb 72 1 fun _ => ?_
  refine Oq (Qc9 Qg2 0) (Oa (Al QnE [.string (bs (Str.mk [])), .slice none 0 0]) fun p22 => Oq Va (Ost (Scl [0] Qg2 [.string (bs ((l.getD Qcj.toNat default).Name)), vl a18 k19 ((l.getD Qcj.toNat default).Stmts)]) (KS ?_)))
  refine Oq Vm (Oq Vm (Oq (Qc9 Qg2 0) ?_))
  refine Qes [2, 5] rfl rfl rfl (OpC.clo («as» := [(.agg #[.string (bs ((l.getD Qcj.toNat default).Name)), vl a18 k19 ((l.getD Qcj.toNat default).Stmts)] : Value)] ++ nameC) rfl rfl hnamec rfl (by simp)) (hnameF (l.getD Qcj.toNat default) a18 k19 pre) rfl fun _ he23 => ?_
  refine Oq (Qqx 3 false Qi3 (Qm5 un9) ze4 (ek := QgI) (ev := vb) (ok := Qeg) (key := (namep (l.getD Qcj.toNat default))) pre) (Oq Vm ?_)
  refine Js 23 ?_ ?_
  ·intro h24
   refine Oq Vm (Oq Qcu (Oq Vpt (KS ?_)))
   refine Kc ?_ ?_
   ·intro h26
    have g27 := dt h26
    refine KS ?_
    refine Oq Vm (Oq Va (KS ?_))
    refine Oq Vm (Oq Vm (Oq (Qc9 Qg2 0) ?_))
    refine Qes [2, 5] rfl rfl rfl (OpC.clo («as» := [(.agg #[.string (bs ((l.getD Qcj.toNat default).Name)), vl a18 k19 ((l.getD Qcj.toNat default).Stmts)] : Value)] ++ nameC) rfl rfl hnamec rfl (by simp)) (hnameF (l.getD Qcj.toNat default) a18 k19 pre) rfl fun _ he28 => ?_
    refine Ost (Smp [3] Qi3 (Qm5 un9) true (ek := QgI) (ev := vb) (ok := Qeg) (key := (namep (l.getD Qcj.toNat default))) pre) (KS ?_)
    refine Oq Qbd (Oq Vm (KS ?_))
    exact Kg (r17, (mset Qey (namep (l.getD Qcj.toNat default)) true), Qcj, (Qcj + 1)) [0, 3, 4] ⟨(q3 hM8 (by simp only [Qa2, h15, h24, h26, cs4])), aM1, aM1, aM1, aM1, aM1⟩
   intro h26
   have g29 := df h26
   refine KS ?_
   refine Oq Vm (Oq Vm (Oq (Qc9 Qg2 0) ?_))
   refine Qes [2, 5] rfl rfl rfl (OpC.clo («as» := [(.agg #[.string (bs ((l.getD Qcj.toNat default).Name)), vl a18 k19 ((l.getD Qcj.toNat default).Stmts)] : Value)] ++ nameC) rfl rfl hnamec rfl (by simp)) (hnameF (l.getD Qcj.toNat default) a18 k19 pre) rfl fun _ he30 => ?_
   refine Ost (Smp [3] Qi3 (Qm5 un9) true (ek := QgI) (ev := vb) (ok := Qeg) (key := (namep (l.getD Qcj.toNat default))) pre) (KS ?_)
   refine Oq Qbd (Oq Vm (KS ?_))
   exact Kg (r17, (mset Qey (namep (l.getD Qcj.toNat default)) true), at__6, (Qcj + 1)) [0, 3, 4] ⟨(q3 hM8 (by simp only [Qa2, h15, h24, h26, cs4])), aM1, aM1, aM1, aM1, aM1⟩
  intro h24
  refine Osk (Osk (Oq Vpf (KS ?_)))
  refine Kf (KS ?_)
  refine Oq Vm (Oq Vm (Oq (Qc9 Qg2 0) ?_))
  refine Qes [2, 5] rfl rfl rfl (OpC.clo («as» := [(.agg #[.string (bs ((l.getD Qcj.toNat default).Name)), vl a18 k19 ((l.getD Qcj.toNat default).Stmts)] : Value)] ++ nameC) rfl rfl hnamec rfl (by simp)) (hnameF (l.getD Qcj.toNat default) a18 k19 pre) rfl fun _ he32 => ?_
  refine Ost (Smp [3] Qi3 (Qm5 un9) true (ek := QgI) (ev := vb) (ok := Qeg) (key := (namep (l.getD Qcj.toNat default))) pre) (KS ?_)
  refine Oq Qbd (Oq Vm (KS ?_))
  exact Kg (r17, (mset Qey (namep (l.getD Qcj.toNat default)) true), at__6, (Qcj + 1)) [0, 3, 4] ⟨(q3 hM8 (by simp only [Qa2, h15, h24, cs4])), aM1, aM1, aM1, aM1, aM1⟩
 intro h15
 have g33 := df h15
 obtain rfl : r4 = 0 := by omega
 refine Ke ?_
 have hR34 := q2 hM8 (Qey, at__6) (by simp only [Qa2, h15, cs4])
 refine KS ?_
 refine Oq Vm (Oq Vm (Oq Va (Oq Va (KS ?_))))
 have hq := q4 hrr (at__6, Qey) (by simp only [QdN, h15, hR34, cs4]); subst hq
 exact Kr (mv b3) rfl (.tmp rfl (.tmp rfl .nil)) [0] en
theorem QvD (b : QaM) (ba1 : Option Addr) (bk1 : Nat) (Qh4 : b.Name.b.length <= 140737488355328) (rr : Str) (hrr : Qee b = rr) : FT Tryd.prog 72 #[.agg #[.string (bs b.Name), vl ba1 bk1 b.Stmts]] [S ba1 bk1 b.Stmts] (fun g : Unit => rr.b.length <= 140737488355328) (fun g => .string (bs rr)) (fun g => []) := by
 refine FTi Tryd.func72 fun w0 M0 F0 => Fb 72 0 fun _ => ?_
 refine KS ?_
 refine Oa (Ab [.string (bs b.Name), vl ba1 bk1 b.Stmts]) fun p2 => Oq Va (KS ?_)
 refine Oq (Vfa Qk1 0) (Oq (QaQ sh9 0) (Oq Va (KS ?_)))
 have hq := q4 hrr b.Name (by simp only [Qee, cs4]); subst hq
 exact Kr () rfl (.tmp rfl .nil) [] en
theorem Qtq (s : Qax) (sa2 : Option Addr) (sk2 : Nat) (sa3 : Option Addr) (sk3 : Nat) (Qkw : Qac s.Op) (QqE : s.Def.b.length <= 140737488355328) (rr : Bool) (hrr : Qc5 s = rr) : FT Tryd.prog 104 #[.agg #[vi s.Op, .string (bs s.Def), vl sa2 sk2 s.Uses, vl sa3 sk3 s.Targets]] [S sa2 sk2 s.Uses, S sa3 sk3 s.Targets] (fun g : Unit => True) (fun g => vb rr) (fun g => []) := by
 refine FTi Tryd.func104 fun w0 M0 F0 => ?_
 unfold Qac at Qkw
 refine Fb 16 0 fun _ => ?_
 refine FoS 0 fun ho2 => ?_
 refine Fb 16 1 fun _ => ?_
 refine FoS 1 fun ho4 => ?_
 refine KS ?_
 refine Oa (Ab [vi s.Op, .string (bs s.Def), vl sa2 sk2 s.Uses, vl sa3 sk3 s.Targets]) fun p5 => Oq Va (KS ?_)
 refine Oq (Vfa Qdw 0) (Oq (QaQ sh3 0) (Oq Qby (Oq Vm ?_)))
 refine Js 6 ?_ ?_
 ·intro h6
  have g7 := eq_of_beq h6
  refine Osk (Osk (Osk (Oq Vpt (Oq Vm (Osk (Osk (Osk (Oq Vpt (Oq Va ?_)))))))))
  refine KS ?_
  have hq := q4 hrr true (by simp only [Qc5, h6, cs4]); subst hq
  exact Kr () rfl (.tmp rfl .nil) [] trivial
 intro h6
 have g8 := ne_of_beq_false h6
 refine Oq (Vfa Qdw 0) (Oq (QaQ sh3 0) (Oq Qby (Oq Vpf (Oq Vm ?_))))
 refine Js 11 ?_ ?_
 ·intro h9
  have g10 := eq_of_beq h9
  refine Osk (Osk (Osk (Oq Vpt (Oq Va (KS ?_)))))
  have hq := q4 hrr true (by simp only [Qc5, h6, h9, cs4]); subst hq
  exact Kr () rfl (.tmp rfl .nil) [] trivial
 intro h9
 have g11 := ne_of_beq_false h9
 refine Oq (Vfa Qdw 0) (Oq (QaQ sh3 0) (Oq Qby (Oq Vpf (Oq Va (KS ?_)))))
 have hq := q4 hrr (s.Op == 9) (by simp only [Qc5, h6, h9, cs4]); subst hq
 exact Kr () rfl (.tmp rfl .nil) [] trivial
theorem Qt1 (s : Qax) (sa2 : Option Addr) (sk2 : Nat) (sa3 : Option Addr) (sk3 : Nat) (last : Bool) (knownP : Value) (known : List (Str × Bool)) (Qkw : Qac s.Op) (QqE : s.Def.b.length <= 140737488355328) (rr : Int) (hrr : Qdr s last known = rr) : FT Tryd.prog 73 #[.agg #[vi s.Op, .string (bs s.Def), vl sa2 sk2 s.Uses, vl sa3 sk3 s.Targets], vb last, knownP] [S sa2 sk2 s.Uses, S sa3 sk3 s.Targets, Mp QgI vb Qeg knownP known] (fun g : Unit => Qac rr) (fun g => vi rr) (fun g => [Mp QgI vb Qeg knownP known]) := by
 refine FTi Tryd.func73 fun w0 M0 F0 => ?_
 unfold Qac at Qkw
 refine Fb 16 0 fun _ => ?_
 refine FoS 0 fun ho2 => ?_
 refine Fb 16 1 fun _ => ?_
 refine FoS 1 fun ho4 => ?_
 refine KS ?_
 refine Oa (Ab [vi s.Op, .string (bs s.Def), vl sa2 sk2 s.Uses, vl sa3 sk3 s.Targets]) fun p5 => Oq Va (KS ?_)
 refine Oq (Qc9 QdF 0) ?_
 refine QaO (Qc5 s) fun rv6 hg7 => ?_
 have hc8 := Qtq s sa2 sk2 sa3 sk3 pre pre rv6 hg7
 refine Oc [1, 2] QsO hc8 ?_
 rintro - -
 refine Oq Vm (Oq (Vnb un4) (KS ?_))
 refine Kc ?_ ?_
 ·intro h9
  refine KS ?_
  refine Oq Va (KS ?_)
  have hq := q4 hrr 4 (by simp only [Qdr, h9, hg7, cs4]); subst hq
  exact Kr () rfl (.tmp rfl .nil) [3] en
 intro h9
 refine KS ?_
 refine Oq (Vfa Qdi 0) (Oq (QaQ Qeq 0) (Oq (QcE Qcy) (Oq Vm (KS ?_))))
 refine Kl (γ := Nat × Int) (fun (r12, Qhe) => ⟨[(2, knownP), (14, vl sa3 sk3 s.Targets), (15, vi (s.Targets.length : Int)), (16, vi Qhe)], [S sa3 sk3 s.Targets, Mp QgI vb Qeg knownP known], Qcw s known r12 Qhe = Qcw s known (((s.Targets.length : Int) - 0).toNat) 0 /\ r12 = ((s.Targets.length : Int) - Qhe).toNat /\ (0 : Int) <= Qhe /\ Qhe <= (s.Targets.length : Int) /\ (-9223372036854775808 <= Qhe /\ Qhe <= 9223372036854775807), r12⟩) (((s.Targets.length : Int) - 0).toNat, 0) [2, 3] ⟨rfl, rfl, aM1, aM1, aM1⟩ ?_
 rintro ⟨r12, Qhe⟩ ⟨hM14, hr15, hi16, hi17, hk18⟩
 refine QbB fun _ _ hL hA => ?_; dsimp only at hL hA; subst hL hA
 refine Fb 16 0 fun _ => ?_
 refine FoS 0 fun ho20 => ?_
 refine KS ?_
 refine Oq Qcu (KS ?_)
 refine Kc ?_ ?_
 ·intro h21
  have g22 := dt h21
  obtain ⟨r23, rfl⟩ := scc (n := r12) aM1
  refine KS ?_
  refine Oq (Vi Qcy 0) ?_
  have hb24 := okS (i := Qhe.toNat) ho20 rng
  refine Oq (Qk5 sh9 0) (Oq Va (KS ?_))
  refine Oq Vm (Oq Vm (Oq (Qqx 1 false Qi3 (Qm5 un9) ze4 (ek := QgI) (ev := vb) (ok := Qeg) (key := (s.Targets.getD Qhe.toNat default)) pre) (Oq QeP (KS ?_))))
  refine Kc ?_ ?_
  ·intro h25
   have h27 := not_true h25
   refine KS ?_
   refine Oq Va (KS ?_)
   have hR29 := q2 hM14 (.ret 5) (by simp only [Qcw, h9, h21, h25, h27, hg7, cs4])
   have hq := q4 hrr 5 (by simp only [Qdr, h9, h21, h25, h27, hg7, hR29, cs4]); subst hq
   exact Kr () rfl (.tmp rfl .nil) [1] en
  intro h25
  have h31 := not_false h25
  refine KS ?_
  refine Oq Qbd (Oq Vm (KS ?_))
  exact Kg (r23, (Qhe + 1)) [0, 1] ⟨(q3 hM14 (by simp only [Qcw, h9, h21, h25, h31, hg7, cs4])), aM1, aM1, aM1, aM1⟩
 intro h21
 have g33 := df h21
 obtain rfl : r12 = 0 := by omega
 refine Ke ?_
 have hR34 := q2 hM14 (.brk ()) (by simp only [Qcw, h9, h21, hg7, cs4])
 refine KS ?_
 refine Oq Va (KS ?_)
 have hq := q4 hrr 0 (by simp only [Qdr, h9, h21, hg7, hR34, cs4]); subst hq
 exact Kr () rfl (.tmp rfl .nil) [1] en
theorem Qwc (f : Qbv) (fa1 : Option Addr) (fk1 : Nat) (i : Int) (funcsP : Value) (funcs : List (Str × Bool)) (Qst : f.Name.b.length <= 140737488355328) (Qss : Qac i) (rr : Qay × Int) (hrr : Qdv f i funcs = rr) : FT Tryd.prog 48 #[.agg #[.string (bs f.Name), vl fa1 fk1 f.Blocks], vi i, funcsP] [S fa1 fk1 f.Blocks, Mp QgI vb Qeg funcsP funcs] (fun g : Unit => Qac rr.1.Kind /\ Qac rr.1.Func /\ Qac rr.1.Block /\ Qac rr.1.Stmt /\ Qac rr.2) (fun g => .tuple #[.agg #[vi rr.1.Kind, vi rr.1.Func, vi rr.1.Block, vi rr.1.Stmt], vi rr.2]) (fun g => [Mp QgI vb Qeg funcsP funcs]) := by
 refine FTi Tryd.func48 fun w0 M0 F0 => ?_
 unfold Qac at Qss
 refine Fb 40 0 fun _ => KS ?_
 refine Oa (Ab [.string (bs f.Name), vl fa1 fk1 f.Blocks]) fun p2 => Oa (Al QpM [vi 0, vi 0, vi 0, vi 0]) fun p3 => Oq Va (KS ?_)
 refine Oq (Vfa Qd0 1) (Oq (QaQ Qic 1) ?_)
 refine QfD (Ent.pall [] rfl rfl) ?_
 refine QaO (QdN f.Blocks (fun x0 => Qee x0)) fun rv5 hg6 => ?_
 have hc7 := Qwb f.Blocks fa1 fk1 72 [] (fun x0 => Qee x0) [] Qu8 (fun x0 a0 k0 hq0 => QeY (A1 := _) (QvD x0 a0 k0  hq0 _ rfl)) rv5 hg6
 refine Oc [3, 0] QvX hc7 ?_
 rintro c4 he8
 unfold Qac at he8
 refine Jom 0 ?_; rintro b9 rfl
 refine Oq Vm (Oq Vx (Oq Vx (Oq Va (Oq Va (KS ?_)))))
 refine Oq Vm (Oq QeU (KS ?_))
 refine Kc ?_ ?_
 ·intro h10
  have g11 := dt h10
  refine KS ?_
  refine Oq Vm (Oq Vm (Oq (Vbd Qle [vi 3, vi i, vi rv5.1, vi (-1)]) (Ost (Scl [2] Qhn [vi 3, vi i, vi rv5.1, vi (-1)]) (Oq Va (KS ?_)))))
  have hq := q4 hrr ((Qay.mk 3 i rv5.1 (-1)), 6) (by simp only [Qdv, h10, hg6, cs4]); subst hq
  exact Kr () rfl (.cellN 0 rfl Qhn rfl (QaC _ _) rfl (.tmp rfl .nil)) [5] en
 intro h10
 have g12 := df h10
 refine KS ?_
 refine Oq (Vfa Qd0 3) (Oq (QaQ Qic 3) (Oq (QcE QgJ) (Oq Vm (KS ?_))))
 refine Kl (γ := Nat × Int) (fun (r13, QbW) => ⟨[(1, vi i), (2, funcsP), (6, p3), (9, (mv b9)), (28, vl fa1 fk1 f.Blocks), (29, vi (f.Blocks.length : Int)), (30, vi QbW)], [Mp QgI vb Qeg (mv b9) rv5.2, Qid [], Cl p3 [vi 0, vi 0, vi 0, vi 0], S fa1 fk1 f.Blocks, Mp QgI vb Qeg funcsP funcs], Qcv f i funcs rv5.2 r13 QbW = Qcv f i funcs rv5.2 (((f.Blocks.length : Int) - 0).toNat) 0 /\ r13 = ((f.Blocks.length : Int) - QbW).toNat /\ (0 : Int) <= QbW /\ QbW <= (f.Blocks.length : Int) /\ (-9223372036854775808 <= QbW /\ QbW <= 9223372036854775807), r13⟩) (((f.Blocks.length : Int) - 0).toNat, 0) [0, 0, 1, 2, 3] ⟨rfl, rfl, aM1, aM1, aM1⟩ ?_
 rintro ⟨r13, QbW⟩ ⟨hM15, hr16, hi17, hi18, hk19⟩
 refine QbB fun _ _ hL hA => ?_; dsimp only at hL hA; subst hL hA
 refine Fb 40 3 fun _ => KS ?_
 refine Oq Qcu (KS ?_)
 refine Kc ?_ ?_
 ·intro h21
  have g22 := dt h21
  obtain ⟨r23, rfl⟩ := scc (n := r13) aM1
  refine KS ?_
  refine Oq Vm (Oq (Vi QgJ 3) ?_)
  refine QcK QbW.toNat 3 rfl rng fun a24 k25 hb26 => ?_
  refine Fb 72 1 fun _ => ?_
  refine Oq (Qc9 Qg2 0) (Oa (Al QnE [.string (bs (Str.mk [])), .slice none 0 0]) fun p28 => Oq Va (Ost (Scl [0] Qg2 [.string (bs ((f.Blocks.getD QbW.toNat default).Name)), vl a24 k25 ((f.Blocks.getD QbW.toNat default).Stmts)]) (KS ?_)))
  refine Oq (Vfa QdO 0) (Oq (QaQ QhV 0) (Oq (QcE QgE) (Oq Vm (KS ?_))))
  refine Kl (γ := Nat × Int) (fun (r29, Qdj) => ⟨[(1, vi i), (2, funcsP), (6, p3), (9, (mv b9)), (28, vl fa1 fk1 f.Blocks), (29, vi (f.Blocks.length : Int)), (30, vi QbW), (11, p28), (10, vi QbW), (36, vl a24 k25 ((f.Blocks.getD QbW.toNat default).Stmts)), (37, vi (((f.Blocks.getD QbW.toNat default).Stmts).length : Int)), (38, vi Qdj)], [Cl p28 [.string (bs ((f.Blocks.getD QbW.toNat default).Name)), vl a24 k25 ((f.Blocks.getD QbW.toNat default).Stmts)], S a24 k25 ((f.Blocks.getD QbW.toNat default).Stmts), Mp QgI vb Qeg (mv b9) rv5.2, Qid [], Cl p3 [vi 0, vi 0, vi 0, vi 0], S fa1 fk1 f.Blocks, Mp QgI vb Qeg funcsP funcs], QbY i funcs rv5.2 QbW ((f.Blocks.getD QbW.toNat default).Stmts) ((f.Blocks.getD QbW.toNat default).Stmts) r29 Qdj = QbY i funcs rv5.2 QbW ((f.Blocks.getD QbW.toNat default).Stmts) ((f.Blocks.getD QbW.toNat default).Stmts) ((((((f.Blocks.getD QbW.toNat default).Stmts).length : Int) : Int) - 0).toNat) 0 /\ r29 = (((((f.Blocks.getD QbW.toNat default).Stmts).length : Int) : Int) - Qdj).toNat /\ (0 : Int) <= Qdj /\ (Qdj <= (((f.Blocks.getD QbW.toNat default).Stmts).length : Int) \/ Qdj = 0) /\ (-9223372036854775808 <= Qdj /\ Qdj <= 9223372036854775807), r29⟩) ((((((f.Blocks.getD QbW.toNat default).Stmts).length : Int) : Int) - 0).toNat, 0) [0, 1, 2, 2, 3, 3, 4] ⟨rfl, rfl, aM1, (.inr rfl), aM1⟩ ?_
  rintro ⟨r29, Qdj⟩ ⟨hM31, hr32, hi33, hi34, hk35⟩
  refine QbB fun _ _ hL hA => ?_; dsimp only at hL hA; subst hL hA
  refine Fb 72 1 fun _ => Fb 40 5 fun _ => KS ?_
  refine Oq Qcu (KS ?_)
  refine Kc ?_ ?_
  ·intro h38
   have g39 := dt h38
   obtain ⟨r40, rfl⟩ := scc (n := r29) aM1
   refine KS ?_
   refine Oq Vm (Oq (Vi QgE 1) ?_)
   refine QdP Qdj.toNat 1 rfl rng fun a41 k42 a43 k44 hb45 hb46 => ?_
   unfold Qac at hb45
   refine Fb 16 1 fun _ => ?_
   refine FoS 1 fun ho48 => ?_
   refine Fb 16 2 fun _ => ?_
   refine FoS 2 fun ho50 => ?_
   refine Oq (Qc9 QdF 0) (Oa (Al Qqr [vi 0, .string (bs (Str.mk [])), .slice none 0 0, .slice none 0 0]) fun p51 => Oq Va (Ost (Scl [0] QdF [vi ((((f.Blocks.getD QbW.toNat default).Stmts).getD Qdj.toNat default).Op), .string (bs ((((f.Blocks.getD QbW.toNat default).Stmts).getD Qdj.toNat default).Def)), .slice a41 (((((f.Blocks.getD QbW.toNat default).Stmts).getD Qdj.toNat default).Uses).length) k42, .slice a43 (((((f.Blocks.getD QbW.toNat default).Stmts).getD Qdj.toNat default).Targets).length) k44]) (KS ?_)))
   refine Oq Vm (Oq Va (KS ?_))
   refine Oq (Vfa Qdw 0) (Oq (QaQ sh3 0) (Oq Qby (KS ?_)))
   refine Kc ?_ ?_
   ·intro h52
    have g53 := eq_of_beq h52
    refine KS ?_
    refine Oq Vm (Oq Va (KS ?_))
    refine Oq (Qc9 QdF 0) (Oq Vm (Oq (Vfa QdO 4) (Oq (QaQ QhV 4) (Oq (QcE QgE) (Oq QdE (Oq Qby (Oq Vm ?_)))))))
    refine QaO (Qdr (((f.Blocks.getD QbW.toNat default).Stmts).getD Qdj.toNat default) (Qdj == ((((f.Blocks.getD QbW.toNat default).Stmts).length : Int) - 1)) funcs) fun rv54 hg55 => ?_
    have hc56 := Qt1 ((((f.Blocks.getD QbW.toNat default).Stmts).getD Qdj.toNat default)) a41 k42 a43 k44 ((Qdj == ((((f.Blocks.getD QbW.toNat default).Stmts).length : Int) - 1))) funcsP funcs pre pre rv54 hg55
    refine Oc [2, 3, 10] Qt4 hc56 ?_
    rintro - he57
    unfold Qac at he57
    refine Oq Va (KS ?_)
    refine Oq Vm (Oq QgA (KS ?_))
    refine Kc ?_ ?_
    ·intro h58
     have g59 := QbL h58
     refine KS ?_
     refine Oq Vm (Oq Vm (Oq Vm (Oq (Vbd Qle [vi 3, vi i, vi QbW, vi Qdj]) (Oq Vm (Ost (Scl [9] Qhn [vi 3, vi i, vi QbW, vi Qdj]) (Oq Va (KS ?_)))))))
     have hR60 := q2 hM31 (.ret ((Qay.mk 3 i QbW Qdj), rv54)) (by simp only [QbY, h10, h21, h38, h52, h58, hg6, hg55, cs4])
     have hR61 := q2 hM15 (.ret ((Qay.mk 3 i QbW Qdj), rv54)) (by simp only [Qcv, h10, h21, h38, h52, h58, hg6, hg55, hR60, cs4])
     have hq := q4 hrr ((Qay.mk 3 i QbW Qdj), rv54) (by simp only [Qdv, h10, h21, h38, h52, h58, hg6, hg55, hR60, hR61, cs4]); subst hq
     exact Kr () rfl (.cellN 0 rfl Qhn rfl (QaC _ _) rfl (.tmp rfl .nil)) [1] en
    intro h58
    have g62 := QaA h58
    refine KS ?_
    refine Oq Qbd (Oq Vm (KS ?_))
    exact Kg (r40, (Qdj + 1)) [5, 5, 6, 6, 7, 7, 0] ⟨(q3 hM31 (by simp only [QbY, h10, h21, h38, h52, h58, hg6, hg55, cs4])), aM1, aM1, aM1, aM1⟩
   intro h52
   have g63 := ne_of_beq_false h52
   refine KS ?_
   refine Oq (Qc9 QdF 0) (Oq Vm (Oq (Vfa QdO 4) (Oq (QaQ QhV 4) (Oq (QcE QgE) (Oq QdE (Oq Qby (Oq Vm ?_)))))))
   refine QaO (Qdr (((f.Blocks.getD QbW.toNat default).Stmts).getD Qdj.toNat default) (Qdj == ((((f.Blocks.getD QbW.toNat default).Stmts).length : Int) - 1)) rv5.2) fun rv64 hg65 => ?_
   have hc66 := Qt1 ((((f.Blocks.getD QbW.toNat default).Stmts).getD Qdj.toNat default)) a41 k42 a43 k44 ((Qdj == ((((f.Blocks.getD QbW.toNat default).Stmts).length : Int) - 1))) (mv b9) rv5.2 pre pre rv64 hg65
   refine Oc [2, 3, 6] Qt4 hc66 ?_
   rintro - he67
   unfold Qac at he67
   refine Oq Va (KS ?_)
   refine Oq Vm (Oq QgA (KS ?_))
   refine Kc ?_ ?_
   ·intro h68
    have g69 := QbL h68
    refine KS ?_
    refine Oq Vm (Oq Vm (Oq Vm (Oq (Vbd Qle [vi 3, vi i, vi QbW, vi Qdj]) (Oq Vm (Ost (Scl [8] Qhn [vi 3, vi i, vi QbW, vi Qdj]) (Oq Va (KS ?_)))))))
    have hR70 := q2 hM31 (.ret ((Qay.mk 3 i QbW Qdj), rv64)) (by simp only [QbY, h10, h21, h38, h52, h68, hg6, hg65, cs4])
    have hR71 := q2 hM15 (.ret ((Qay.mk 3 i QbW Qdj), rv64)) (by simp only [Qcv, h10, h21, h38, h52, h68, hg6, hg65, hR70, cs4])
    have hq := q4 hrr ((Qay.mk 3 i QbW Qdj), rv64) (by simp only [Qdv, h10, h21, h38, h52, h68, hg6, hg65, hR70, hR71, cs4]); subst hq
    exact Kr () rfl (.cellN 0 rfl Qhn rfl (QaC _ _) rfl (.tmp rfl .nil)) [10] en
   intro h68
   have g72 := QaA h68
   refine KS ?_
   refine Oq Qbd (Oq Vm (KS ?_))
   exact Kg (r40, (Qdj + 1)) [5, 5, 0, 5, 6, 6, 7] ⟨(q3 hM31 (by simp only [QbY, h10, h21, h38, h52, h68, hg6, hg65, cs4])), aM1, aM1, aM1, aM1⟩
  intro h38
  have g73 := df h38
  obtain rfl : r29 = 0 := by omega
  refine Ke ?_
  have hR74 := q2 hM31 (.brk ()) (by simp only [QbY, h10, h21, h38, hg6, cs4])
  refine KS ?_
  refine Oq Qbd (Oq Vm (KS ?_))
  exact Kg (r23, (QbW + 1)) [2, 2, 3, 3, 4] ⟨(q3 hM15 (by simp only [Qcv, h10, h21, h38, hg6, hR74, cs4])), aM1, aM1, aM1, aM1⟩
 intro h21
 have g75 := df h21
 obtain rfl : r13 = 0 := by omega
 refine Ke ?_
 have hR76 := q2 hM15 (.brk ()) (by simp only [Qcv, h10, h21, hg6, cs4])
 refine KS ?_
 refine Oq (Vbd Qle [vi 0, vi 0, vi 0, vi 0]) (Ost (Scl [2] Qhn [vi 0, vi 0, vi 0, vi 0]) (Oq Va (KS ?_)))
 have hq := q4 hrr ((Qay.mk 0 0 0 0), 0) (by simp only [Qdv, h10, h21, hg6, hR76, cs4]); subst hq
 exact Kr () rfl (.cellN 0 rfl Qhn rfl (QaC _ _) rfl (.tmp rfl .nil)) [4] en
theorem Qwo (s : Qax) (sa2 : Option Addr) (sk2 : Nat) (sa3 : Option Addr) (sk3 : Nat) (cap0P : Value) (cap0 : Int) (cap1P : Value) (cap1 : Int) (Qkw : Qac s.Op) (QqE : s.Def.b.length <= 140737488355328) (Qln : Qac cap0) (QqF : Qac cap1) (hn : 0 <= cap0 /\ cap0 <= 100000 /\ 0 <= cap1 /\ cap1 <= 100000) (rr : Int × Int) (hrr : QdK s cap0 cap1 = rr) : FT Tryd.prog 75 #[.agg #[vi s.Op, .string (bs s.Def), vl sa2 sk2 s.Uses, vl sa3 sk3 s.Targets], cap0P, cap1P] [S sa2 sk2 s.Uses, S sa3 sk3 s.Targets, Cl cap0P [vi cap0], Cl cap1P [vi cap1]] (fun g : Unit => Qac rr.1 /\ Qac rr.2 /\ (cap0 <= rr.1 /\ rr.1 <= cap0 + 2 /\ cap1 <= rr.2 /\ rr.2 <= cap1 + 3)) (fun g => .tuple #[]) (fun g => [Cl cap0P [vi rr.1], Cl cap1P [vi rr.2]]) := by
 refine FTi Tryd.func75 fun w0 M0 F0 => ?_
 unfold Qac at Qkw Qln QqF
 refine Fb 16 0 fun _ => ?_
 refine FoS 0 fun ho2 => ?_
 refine Fb 16 1 fun _ => ?_
 refine FoS 1 fun ho4 => ?_
 refine KS ?_
 refine Oa (Ab [vi s.Op, .string (bs s.Def), vl sa2 sk2 s.Uses, vl sa3 sk3 s.Targets]) fun p5 => KS ?_
 refine Oq (Vld sh3 3) (Oq Qbd (Ost (Scl [3] sh3 [vi (cap0 + 1)]) (KS ?_)))
 refine Oq (Vfa Qdw 1) (Oq (QaQ sh3 1) (KS ?_))
 refine Oq Qby (Oq Va (KS ?_))
 refine Kc ?_ ?_
 ·intro h6
  have g7 := eq_of_beq h6
  refine KS ?_
  refine Oq (Vld sh3 0) (Oq Qbd (Ost (Scl [0] sh3 [vi ((cap0 + 1) + 1)]) (KS ?_)))
  refine Oq (Vld sh3 4) (Oq Qbd (Ost (Scl [4] sh3 [vi (cap1 + 3)]) (KS ?_)))
  have hq := q4 hrr (((cap0 + 1) + 1), (cap1 + 3)) (by simp only [QdK, h6, cs4]); subst hq
  exact Kz () rfl .nil [1, 0] en
 intro h6
 have g8 := ne_of_beq_false h6
 refine KS ?_
 refine Oq Qby (Oq Va (KS ?_))
 refine Kc ?_ ?_
 ·intro h9
  have g10 := eq_of_beq h9
  refine KS ?_
  refine Oq (Vld sh3 4) (Oq Qbd (Ost (Scl [4] sh3 [vi (cap1 + 2)]) (KS ?_)))
  have hq := q4 hrr ((cap0 + 1), (cap1 + 2)) (by simp only [QdK, h6, h9, cs4]); subst hq
  exact Kz () rfl .nil [1, 0] en
 intro h9
 have g11 := ne_of_beq_false h9
 refine KS ?_
 refine Oq (Vld sh3 4) (Oq Qbd (Ost (Scl [4] sh3 [vi (cap1 + 1)]) (KS ?_)))
 have hq := q4 hrr ((cap0 + 1), (cap1 + 1)) (by simp only [QdK, h6, h9, cs4]); subst hq
 exact Kz () rfl .nil [1, 0] en
theorem Qra (p : Qaj) (pa0 : Option Addr) (pk0 : Nat) (st0P : Value) (st0 : Int) (st1P : Value) (st1 : Int) (kwLA : Option Addr) (kwLK : Nat) (Qsu : Qac st0) (Qsv : Qac st1) (hps : PSm p = true) (hn : 0 <= st0 /\ st0 <= 100 /\ 0 <= st1 /\ st1 <= 100) (rr : Int × Int) (hrr : Qdy p st0 st1 = rr) : FT Tryd.prog 74 #[.agg #[vl pa0 pk0 p.Funcs], .func (.func 75) #[] #[st0P, st1P]] [S pa0 pk0 p.Funcs, Cl st0P [vi st0], Cl st1P [vi st1], pv (gp 0) [vl kwLA kwLK kwL], S kwLA kwLK kwL] (fun g : Unit => Qac rr.1 /\ Qac rr.2 /\ (0 <= rr.1 /\ rr.1 <= 10000 /\ 0 <= rr.2 /\ rr.2 <= 20000)) (fun g => .tuple #[]) (fun g => [Cl st0P [vi rr.1], Cl st1P [vi rr.2]]) := by
 refine FTi Tryd.func74 fun w0 M0 F0 => ?_
 unfold Qac at Qsu Qsv
 refine Fb 40 0 fun _ => Fb 16 4 fun _ => ?_
 refine FoS 4 fun ho3 => ?_
 refine KS ?_
 refine Oa (Ab [vl pa0 pk0 p.Funcs]) fun p4 => KS ?_
 refine Oq (Qc9 Qec 0) ?_
 refine QaO (Qcr p) fun rv5 hg6 => ?_
 have hc7 := QsE p pa0 pk0 kwLA kwLK pre rv5 hg6
 refine Oc [1, 4, 5] Qsz hc7 ?_
 rintro - -
 refine Oq QeP (KS ?_)
 refine Kc ?_ ?_
 ·intro h8
  have h10 := not_true h8
  have hq := q4 hrr (st0, st1) (by simp only [Qdy, h8, h10, hg6, cs4]); subst hq
  exact Kr () rfl .nil [2, 2] en
 intro h8
 have h13 := not_false h8
 try have hVb := QkP (p := p) (by simp only [h8, h13, hg6])
 refine KS ?_
 refine Oq (Vfa QdZ 0) (Oq (QaQ Qia 0) (Oq (QcE QgV) (Oq Vm (KS ?_))))
 refine Kl (γ := Nat × Int × Int × Int) (fun (r15, Qfx, Qfy, Qb1) => ⟨[(1, .func (.func 75) #[] #[st0P, st1P]), (14, vl pa0 pk0 p.Funcs), (15, vi (p.Funcs.length : Int)), (16, vi Qb1)], [S pa0 pk0 p.Funcs, Cl st0P [vi Qfx], Cl st1P [vi Qfy], pv (gp 0) [vl kwLA kwLK kwL], S kwLA kwLK kwL], Qbx p r15 Qfx Qfy Qb1 = Qbx p (((p.Funcs.length : Int) - 0).toNat) st0 st1 0 /\ r15 = ((p.Funcs.length : Int) - Qb1).toNat /\ (0 : Int) <= Qb1 /\ Qb1 <= (p.Funcs.length : Int) /\ (-9223372036854775808 <= Qfx /\ Qfx <= 9223372036854775807) /\ (-9223372036854775808 <= Qfy /\ Qfy <= 9223372036854775807) /\ (-9223372036854775808 <= Qb1 /\ Qb1 <= 9223372036854775807) /\ (0 <= Qfx /\ Qfx <= 100 + 1100 * Qb1) /\ (0 <= Qfy /\ Qfy <= 100 + 1600 * Qb1), r15⟩) (((p.Funcs.length : Int) - 0).toNat, st0, st1, 0) [1, 2, 2, 2, 3] ⟨rfl, rfl, aM1, aM1, aM1, aM1, aM1, iv0, iv0⟩ ?_
 rintro ⟨r15, Qfx, Qfy, Qb1⟩ ⟨hM19, hr20, hi21, hi22, hk23, hk24, hk25, hv26, hv27⟩
 refine QbB fun _ _ hL hA => ?_; dsimp only at hL hA; subst hL hA
 refine Fb 40 0 fun _ => Fb 16 4 fun _ => ?_
 refine FoS 4 fun ho30 => ?_
 refine KS ?_
 refine Oq Qcu (KS ?_)
 refine Kc ?_ ?_
 ·intro h31
  have g32 := dt h31
  have hVf := hVb.2 Qb1.toNat
  obtain ⟨r33, rfl⟩ := scc (n := r15) aM1
  refine KS ?_
  refine Oq (Vi QgV 0) ?_
  refine QcR Qb1.toNat 0 rfl rng fun a34 k35 hb36 => ?_
  refine Fb 40 1 fun _ => ?_
  refine Oq (Qc9 Qhk 0) (Oa (Al QnG [.string (bs (Str.mk [])), .slice none 0 0]) fun p38 => Ost (Scl [0] Qhk [.string (bs ((p.Funcs.getD Qb1.toNat default).Name)), vl a34 k35 ((p.Funcs.getD Qb1.toNat default).Blocks)]) (KS ?_))
  refine Oq (Vfa Qd0 0) (Oq (QaQ Qic 0) (Oq (QcE QgJ) (Oq Vm (KS ?_))))
  refine Kl (γ := Nat × Int × Int × Int) (fun (r39, Qfz, QfA, Qc2) => ⟨[(1, .func (.func 75) #[] #[st0P, st1P]), (14, vl pa0 pk0 p.Funcs), (15, vi (p.Funcs.length : Int)), (16, vi Qb1), (21, vl a34 k35 ((p.Funcs.getD Qb1.toNat default).Blocks)), (22, vi (((p.Funcs.getD Qb1.toNat default).Blocks).length : Int)), (23, vi Qc2)], [S a34 k35 ((p.Funcs.getD Qb1.toNat default).Blocks), S pa0 pk0 p.Funcs, Cl st0P [vi Qfz], Cl st1P [vi QfA], pv (gp 0) [vl kwLA kwLK kwL], S kwLA kwLK kwL], Qbp ((p.Funcs.getD Qb1.toNat default).Blocks) r39 Qfz QfA Qc2 = Qbp ((p.Funcs.getD Qb1.toNat default).Blocks) ((((((p.Funcs.getD Qb1.toNat default).Blocks).length : Int) : Int) - 0).toNat) Qfx Qfy 0 /\ r39 = (((((p.Funcs.getD Qb1.toNat default).Blocks).length : Int) : Int) - Qc2).toNat /\ (0 : Int) <= Qc2 /\ (Qc2 <= (((p.Funcs.getD Qb1.toNat default).Blocks).length : Int) \/ Qc2 = 0) /\ (-9223372036854775808 <= Qfz /\ Qfz <= 9223372036854775807) /\ (-9223372036854775808 <= QfA /\ QfA <= 9223372036854775807) /\ (-9223372036854775808 <= Qc2 /\ Qc2 <= 9223372036854775807) /\ (0 <= Qfz /\ Qfz <= Qfx + 66 * Qc2) /\ (0 <= QfA /\ QfA <= Qfy + 98 * Qc2), r39⟩) ((((((p.Funcs.getD Qb1.toNat default).Blocks).length : Int) : Int) - 0).toNat, Qfx, Qfy, 0) [2, 3, 4, 4, 4, 5] ⟨rfl, rfl, aM1, (.inr rfl), aM1, aM1, aM1, iv0, iv0⟩ ?_
  rintro ⟨r39, Qfz, QfA, Qc2⟩ ⟨hM43, hr44, hi45, hi46, hk47, hk48, hk49, hv50, hv51⟩
  refine QbB fun _ _ hL hA => ?_; dsimp only at hL hA; subst hL hA
  refine Fb 40 0 fun _ => Fb 40 1 fun _ => Fb 16 5 fun _ => ?_
  refine FoS 5 fun ho55 => ?_
  refine KS ?_
  refine Oq Qcu (KS ?_)
  refine Kc ?_ ?_
  ·intro h56
   have g57 := dt h56
   have hVk := hVf.2 Qc2.toNat
   obtain ⟨r58, rfl⟩ := scc (n := r39) aM1
   refine KS ?_
   refine Oq (Vi QgJ 0) ?_
   refine QcK Qc2.toNat 0 rfl rng fun a59 k60 hb61 => ?_
   refine Fb 72 1 fun _ => ?_
   refine Oq (Qc9 Qg2 0) (Oa (Al QnE [.string (bs (Str.mk [])), .slice none 0 0]) fun p63 => Ost (Scl [0] Qg2 [.string (bs ((((p.Funcs.getD Qb1.toNat default).Blocks).getD Qc2.toNat default).Name)), .slice a59 (((((p.Funcs.getD Qb1.toNat default).Blocks).getD Qc2.toNat default).Stmts).length) k60]) (KS ?_))
   refine Oq (Vfa QdO 0) (Oq (QaQ QhV 0) (Oq (QcE QgE) (Oq Vm (KS ?_))))
   refine Kl (γ := Nat × Int × Int × Int) (fun (r64, Qf9, Qga, Qeo) => ⟨[(1, .func (.func 75) #[] #[st0P, st1P]), (14, vl pa0 pk0 p.Funcs), (15, vi (p.Funcs.length : Int)), (16, vi Qb1), (21, vl a34 k35 ((p.Funcs.getD Qb1.toNat default).Blocks)), (22, vi (((p.Funcs.getD Qb1.toNat default).Blocks).length : Int)), (23, vi Qc2), (28, .slice a59 (((((p.Funcs.getD Qb1.toNat default).Blocks).getD Qc2.toNat default).Stmts).length) k60), (29, vi (((((p.Funcs.getD Qb1.toNat default).Blocks).getD Qc2.toNat default).Stmts).length : Int)), (30, vi Qeo)], [S a59 k60 ((((p.Funcs.getD Qb1.toNat default).Blocks).getD Qc2.toNat default).Stmts), S a34 k35 ((p.Funcs.getD Qb1.toNat default).Blocks), S pa0 pk0 p.Funcs, Cl st0P [vi Qf9], Cl st1P [vi Qga], pv (gp 0) [vl kwLA kwLK kwL], S kwLA kwLK kwL], Qbo ((((p.Funcs.getD Qb1.toNat default).Blocks).getD Qc2.toNat default).Stmts) r64 Qf9 Qga Qeo = Qbo ((((p.Funcs.getD Qb1.toNat default).Blocks).getD Qc2.toNat default).Stmts) ((((((((p.Funcs.getD Qb1.toNat default).Blocks).getD Qc2.toNat default).Stmts).length : Int) : Int) - 0).toNat) Qfz QfA 0 /\ r64 = (((((((p.Funcs.getD Qb1.toNat default).Blocks).getD Qc2.toNat default).Stmts).length : Int) : Int) - Qeo).toNat /\ (0 : Int) <= Qeo /\ (Qeo <= (((((p.Funcs.getD Qb1.toNat default).Blocks).getD Qc2.toNat default).Stmts).length : Int) \/ Qeo = 0) /\ (-9223372036854775808 <= Qf9 /\ Qf9 <= 9223372036854775807) /\ (-9223372036854775808 <= Qga /\ Qga <= 9223372036854775807) /\ (-9223372036854775808 <= Qeo /\ Qeo <= 9223372036854775807) /\ (0 <= Qf9 /\ Qf9 <= Qfz + 2 * Qeo) /\ (0 <= Qga /\ Qga <= QfA + 3 * Qeo), r64⟩) ((((((((p.Funcs.getD Qb1.toNat default).Blocks).getD Qc2.toNat default).Stmts).length : Int) : Int) - 0).toNat, Qfz, QfA, 0) [2, 3, 4, 5, 5, 5, 6] ⟨rfl, rfl, aM1, (.inr rfl), aM1, aM1, aM1, iv0, iv0⟩ ?_
   rintro ⟨r64, Qf9, Qga, Qeo⟩ ⟨hM68, hr69, hi70, hi71, hk72, hk73, hk74, hv75, hv76⟩
   refine QbB fun _ _ hL hA => ?_; dsimp only at hL hA; subst hL hA
   refine Fb 72 0 fun _ => Fb 40 1 fun _ => Fb 40 2 fun _ => Fb 16 6 fun _ => ?_
   refine FoS 6 fun ho81 => ?_
   refine KS ?_
   refine Oq Qcu (KS ?_)
   refine Kc ?_ ?_
   ·intro h82
    have g83 := dt h82
    have hVs := hVk.2 Qeo.toNat
    obtain ⟨r84, rfl⟩ := scc (n := r64) aM1
    refine KS ?_
    refine Oq (Vi QgE 0) ?_
    refine QdP Qeo.toNat 0 rfl rng fun a85 k86 a87 k88 hb89 hb90 => ?_
    unfold Qac at hb89
    refine Fb 16 1 fun _ => ?_
    refine FoS 1 fun ho92 => ?_
    refine Fb 16 2 fun _ => ?_
    refine FoS 2 fun ho94 => ?_
    refine Oq (Qc9 QdF 0) (Oa (Al Qqr [vi 0, .string (bs (Str.mk [])), .slice none 0 0, .slice none 0 0]) fun p95 => Ost (Scl [0] QdF [vi ((((((p.Funcs.getD Qb1.toNat default).Blocks).getD Qc2.toNat default).Stmts).getD Qeo.toNat default).Op), .string (bs ((((((p.Funcs.getD Qb1.toNat default).Blocks).getD Qc2.toNat default).Stmts).getD Qeo.toNat default).Def)), .slice a85 (((((((p.Funcs.getD Qb1.toNat default).Blocks).getD Qc2.toNat default).Stmts).getD Qeo.toNat default).Uses).length) k86, .slice a87 (((((((p.Funcs.getD Qb1.toNat default).Blocks).getD Qc2.toNat default).Stmts).getD Qeo.toNat default).Targets).length) k88]) (KS ?_))
    refine Oq Vm (Oq (Qc9 QdF 0) ?_)
    refine QaO (QdK (((((p.Funcs.getD Qb1.toNat default).Blocks).getD Qc2.toNat default).Stmts).getD Qeo.toNat default) Qf9 Qga) fun rv96 hg97 => ?_
    have hc98 := Qwo ((((((p.Funcs.getD Qb1.toNat default).Blocks).getD Qc2.toNat default).Stmts).getD Qeo.toNat default)) a85 k86 a87 k88 st0P Qf9 st1P Qga pre pre pre pre pre rv96 hg97
    refine Qes [2, 3, 7, 7] rfl rfl rfl (OpC.clo («as» := [(.agg #[vi ((((((p.Funcs.getD Qb1.toNat default).Blocks).getD Qc2.toNat default).Stmts).getD Qeo.toNat default).Op), .string (bs ((((((p.Funcs.getD Qb1.toNat default).Blocks).getD Qc2.toNat default).Stmts).getD Qeo.toNat default).Def)), .slice a85 (((((((p.Funcs.getD Qb1.toNat default).Blocks).getD Qc2.toNat default).Stmts).getD Qeo.toNat default).Uses).length) k86, .slice a87 (((((((p.Funcs.getD Qb1.toNat default).Blocks).getD Qc2.toNat default).Stmts).getD Qeo.toNat default).Targets).length) k88] : Value), (st0P : Value), (st1P : Value)]) rfl rfl Qve rfl (by simp)) hc98 rfl ?_
    rintro - ⟨he99, he100, he101⟩
    unfold Qac at he99 he100
    refine KS ?_
    refine Oq Qbd (Oq Vm (KS ?_))
    exact Kg (r84, rv96.1, rv96.2, (Qeo + 1)) [6, 7, 8, 0, 0, 7, 8] ⟨(q3 hM68 (by simp only [Qbo, h8, h13, h31, h56, h82, hg6, hg97, cs4])), aM1, aM1, aM1, aM1, aM1, aM1, iv1, iv1⟩
   intro h82
   have g102 := df h82
   obtain rfl : r64 = 0 := by omega
   refine Ke ?_
   have hR103 := q2 hM68 (Qf9, Qga) (by simp only [Qbo, h8, h13, h31, h56, h82, hg6, cs4])
   refine KS ?_
   refine Oq Qbd (Oq Vm (KS ?_))
   exact Kg (r58, Qf9, Qga, (Qc2 + 1)) [1, 2, 3, 3, 3, 4] ⟨(q3 hM43 (by simp only [Qbp, h8, h13, h31, h56, h82, hg6, hR103, cs4])), aM1, aM1, aM1, aM1, aM1, aM1, iv1, iv1⟩
  intro h56
  have g104 := df h56
  obtain rfl : r39 = 0 := by omega
  refine Ke ?_
  have hR105 := q2 hM43 (Qfz, QfA) (by simp only [Qbp, h8, h13, h31, h56, hg6, cs4])
  refine KS ?_
  refine Oq Qbd (Oq Vm (KS ?_))
  exact Kg (r33, Qfz, QfA, (Qb1 + 1)) [1, 2, 2, 2, 3] ⟨(q3 hM19 (by simp only [Qbx, h8, h13, h31, h56, hg6, hR105, cs4])), aM1, aM1, aM1, aM1, aM1, aM1, iv1, iv1⟩
 intro h31
 have g106 := df h31
 obtain rfl : r15 = 0 := by omega
 refine Ke ?_
 have hR107 := q2 hM19 (Qfx, Qfy) (by simp only [Qbx, h8, h13, h31, hg6, cs4])
 have hq := q4 hrr (Qfx, Qfy) (by simp only [Qdy, h8, h13, h31, hg6, hR107, cs4]); subst hq
 exact Kz () rfl .nil [1, 1] en
theorem QvE (p : Qaj) (pa0 : Option Addr) (pk0 : Nat) (kwLA : Option Addr) (kwLK : Nat) (hps : PSm p = true) (rr : Int × Int) (hrr : QcM p = rr) : FT Tryd.prog 49 #[.agg #[vl pa0 pk0 p.Funcs]] [S pa0 pk0 p.Funcs, pv (gp 0) [vl kwLA kwLK kwL], S kwLA kwLK kwL] (fun g : Unit => Qac rr.1 /\ Qac rr.2 /\ (0 <= rr.1 /\ rr.1 <= 10000 /\ 0 <= rr.2 /\ rr.2 <= 20000)) (fun g => .tuple #[vi rr.1, vi rr.2]) (fun g => []) := by
 refine FTi Tryd.func49 fun w0 M0 F0 => Fb 40 0 fun _ => Fb 16 2 fun _ => ?_
 refine FoS 2 fun ho3 => ?_
 refine KS ?_
 refine Oa (Ab [vl pa0 pk0 p.Funcs]) fun p4 => Oq Va (Oq Va (KS ?_))
 refine Oq (Qc9 Qec 0) ?_
 refine QaO (Qcr p) fun rv5 hg6 => ?_
 have hc7 := QsE p pa0 pk0 kwLA kwLK pre rv5 hg6
 refine Oc [1, 2, 3] Qsz hc7 ?_
 rintro - -
 refine Oq QeP (KS ?_)
 refine Kc ?_ ?_
 ·intro h8
  have h10 := not_true h8
  refine KS ?_
  refine Oq Va (Oq Va (KS ?_))
  have hq := q4 hrr (0, 0) (by simp only [QcM, h8, h10, hg6, cs4]); subst hq
  exact Kr () rfl (.tmp rfl (.tmp rfl .nil)) [] en
 intro h8
 have h13 := not_false h8
 try have hVb := QkP (p := p) (by simp only [h8, h13, hg6])
 refine KS ?_
 refine Qav [0, 1, 3, 7, 0, 16, 48, 0, 0, 399, 1023] Qc8 ?_
 refine Dv [0] (Vfa QdZ 0) (Dv [0] (QaQ Qia 0) (Dv [] (QcE QgV) (Dv [] Qps (Dv [0] (Vfa QdZ 0) (Dv [0] (QaQ Qia 0) (Dv [] (QcE QgV) (Dx [] [] [0] (fun G => (G.g 7 0)) [fun G => Cl (G.g 7 0) [vi 0]] (fun G => xA (Al ze3 [vi 0])) (Dx [] [] [0] (fun G => (G.g 8 0)) [fun G => Cl (G.g 8 0) [vi 0]] (fun G => xA (Al ze3 [vi 0])) (Dx0 [4] [4] [0] [fun G => Cl (G.g 7 0) [vi (2 * (p.Funcs.length : Int))]] (fun G => xS (Scl [0] sh3 [vi (2 * (p.Funcs.length : Int))])) ?_)))))))))
 refine Dx0 [5] [5] [0] [fun G => Cl (G.g 8 0) [vi (p.Funcs.length : Int)]] (fun G => xS (Scl [0] sh3 [vi (p.Funcs.length : Int)])) ?_
 refine Dn ⟨by kernel_rfl, fun G => ?_⟩
 refine Jw2 [(1, p4), (4, (G.g 7 0)), (5, (G.g 8 0))] [0, 1, 2, 3] [Cl (G.g 7 0) [vi (2 * (p.Funcs.length : Int))], Cl (G.g 8 0) [vi (p.Funcs.length : Int)]] ?_
 generalize G.g 7 0 = p15, G.g 8 0 = p16
 refine KS ?_
 refine Oq (Qc9 Qec 0) (Oq (Vf [p15, p16]) ?_)
 refine QaO (Qdy p (2 * (p.Funcs.length : Int)) (p.Funcs.length : Int)) fun rv17 hg18 => ?_
 have hc19 := Qra p pa0 pk0 p15 (2 * (p.Funcs.length : Int)) p16 (p.Funcs.length : Int) kwLA kwLK pre pre pre pre rv17 hg18
 refine Oc [1, 4, 4, 2, 3] Qug hc19 ?_
 rintro - ⟨he20, he21, he22⟩
 unfold Qac at he20 he21
 refine KS ?_
 refine Kq [0, 0, 1, 7] Qc8 ?_
 refine Qv [0] (Vld sh3 0) (Qv [1] (Vld sh3 0) (Qv [] Va (Qv [] Va ?_)))
 refine Qn ⟨by kernel_rfl, ?_⟩
 have hq := q4 hrr (rv17.1, rv17.2) (by simp only [QcM, h8, h13, hg6, hg18, cs4]); subst hq
 exact Kr () rfl (.tmp rfl (.tmp rfl .nil)) [] en
theorem Qun (n : Str) (cap0P : Value) (cap0 : List (Str × Bool)) (cap0m0 : Value) (cap1P : Value) (cap1 : List Str) (cap1a0 : Option Addr) (cap1k0 : Nat) (Qoy : n.b.length <= 140737488355328) (ho : cap1.length <= 1000000) (rr : (List (Str × Bool)) × List Str) (hrr : QcJ n cap0 cap1 = rr) : FT Tryd.prog 76 #[.string (bs n), cap0P, cap1P] [Cl cap0P [cap0m0], Mp QgI vb Qeg cap0m0 cap0, Cl cap1P [vl cap1a0 cap1k0 cap1], O cap1a0 cap1k0 cap1] (fun g : Value => (rr.2.length <= cap1.length + 1)) (fun g => .tuple #[]) (fun g => [Cl cap0P [cap0m0], Mp QgI vb Qeg cap0m0 rr.1, Cl cap1P [g], os g rr.2]) := by
 refine FTi Tryd.func76 fun w0 M0 F0 => Fb 16 3 fun _ => ?_
 refine FoS 3 fun ho2 => ?_
 refine KS ?_
 refine Oq Vm (Oq (Qvn (l := n) (m := (Str.mk []))) (Oq Vm ?_))
 refine Js 6 ?_ ?_
 ·intro h3
  have g4 := QbL h3
  refine Oq (Vld Qpu 0) (Oq Vm (Oq (Qqx 1 false Qi3 (Qm5 un9) ze4 (ek := QgI) (ev := vb) (ok := Qeg) (key := n) pre) (Oq QeP (Oq Vpt (KS ?_)))))
  refine Kc ?_ ?_
  ·intro h5
   have h7 := not_true h5
   refine KS ?_
   refine Oq (Vld Qpu 0) (Oq Vm (Ost (Smp [1] Qi3 (Qm5 un9) true (ek := QgI) (ev := vb) (ok := Qeg) (key := n) pre) (KS ?_)))
   refine Oq (Vld Qeq 2) (Oq Vm (Oa (AsV Qcy Qe3 [.string (bs n)] [.string (bs n)]) fun c9 => ?_))
   refine Jo 0 ?_; rintro a10 k11 rfl
   refine Jl [0] (Ent.cr1 (α := Str) (A := []) _ n _ aB1 (fun _ => ⟨rfl, aS1⟩)) ?_
   refine Oa (ApO [4, 0] Qcy Qcy Qe3) fun c12 => ?_
   refine Jo 0 ?_; rintro a13 k14 rfl
   refine Fb 16 0 fun _ => ?_
   refine FoS 0 fun ho16 => ?_
   have hn17 := la cap1 ([n] : List Str)
   refine Ost (Scl [3] Qeq [vl a13 k14 (cap1 ++ [n])]) (KS ?_)
   have hq := q4 hrr ((mset cap0 n true), (cap1 ++ [n])) (by simp only [QcJ, h3, h5, h7, cs4]); subst hq
   exact Kz (vl a13 k14 (cap1 ++ [n])) rfl .nil [3, 2, 0, 0] en
  intro h5
  have h19 := not_false h5
  refine KS ?_
  have hq := q4 hrr (cap0, cap1) (by simp only [QcJ, h3, h5, h19, cs4]); subst hq
  exact Kz (vl cap1a0 cap1k0 cap1) rfl .nil [0, 0, 0, 0] en
 intro h3
 have g21 := QaA h3
 refine Osk (Osk (Osk (Osk (Oq Vpf (KS ?_)))))
 refine Kf (KS ?_)
 have hq := q4 hrr (cap0, cap1) (by simp only [QcJ, h3, cs4]); subst hq
 exact Kz (vl cap1a0 cap1k0 cap1) rfl .nil [0, 0, 0, 0] en
theorem Qr5 (s : Qax) (sa2 : Option Addr) (sk2 : Nat) (sa3 : Option Addr) (sk3 : Nat) (st0P : Value) (st0 : List (Str × Bool)) (st0m0 : Value) (st1P : Value) (st1 : List Str) (st1a0 : Option Addr) (st1k0 : Nat) (cap0P : Value) (Qkw : Qac s.Op) (QqE : s.Def.b.length <= 140737488355328) (ho : st1.length <= 900000 /\ s.Uses.length <= 4) (rr : (List (Str × Bool)) × List Str) (hrr : QbS s st0 st1 = rr) : FT Tryd.prog 77 #[.agg #[vi s.Op, .string (bs s.Def), vl sa2 sk2 s.Uses, vl sa3 sk3 s.Targets], cap0P] [S sa2 sk2 s.Uses, S sa3 sk3 s.Targets, Cl st0P [st0m0], Mp QgI vb Qeg st0m0 st0, Cl st1P [vl st1a0 st1k0 st1], O st1a0 st1k0 st1, pv cap0P [.func (.func 76) #[] #[st0P, st1P]]] (fun g : Value => (rr.2.length <= st1.length + 5)) (fun g => .tuple #[]) (fun g => [Cl st0P [st0m0], Mp QgI vb Qeg st0m0 rr.1, Cl st1P [g], os g rr.2]) := by
 refine FTi Tryd.func77 fun w0 M0 F0 => ?_
 unfold Qac at Qkw
 refine Fb 16 0 fun _ => ?_
 refine FoS 0 fun ho2 => ?_
 refine Fb 16 1 fun _ => ?_
 refine FoS 1 fun ho4 => ?_
 refine Fb 16 5 fun _ => ?_
 refine FoS 5 fun ho6 => ?_
 refine KS ?_
 refine Oa (Ab [vi s.Op, .string (bs s.Def), vl sa2 sk2 s.Uses, vl sa3 sk3 s.Targets]) fun p7 => KS ?_
 refine Oq (Vld Qqf 7) (Oq (Vfa Qet 0) (Oq (QaQ sh9 0) ?_))
 refine QaO (QcJ s.Def st0 st1) fun rv9 hg10 => ?_
 have hc11 := Qun s.Def st0P st0 st0m0 st1P st1 st1a0 st1k0 pre pre rv9 hg10
 refine Qes [3, 3, 3, 3] rfl rfl rfl (OpC.clo («as» := [(.string (bs s.Def) : Value), (st0P : Value), (st1P : Value)]) rfl rfl QuS rfl (by simp)) hc11 rfl ?_
 rintro c8 he12
 refine Jo 3 ?_; rintro a13 k14 rfl
 refine Fb 16 3 fun _ => ?_
 refine FoS 3 fun ho16 => ?_
 refine KS ?_
 refine Oq (Vfa Qdg 4) (Oq (QaQ Qeq 4) (Oq (QcE Qcy) (Oq Vm (KS ?_))))
 refine Kl (γ := Nat × (List (Str × Bool)) × List Str × Int × Option Addr × Nat) (fun (r17, QhH, Qgt, Qgj, a21, k22) => ⟨[(1, cap0P), (10, vl sa2 sk2 s.Uses), (11, vi (s.Uses.length : Int)), (12, vi Qgj)], [O a21 k22 Qgt, Cl st0P [st0m0], Mp QgI vb Qeg st0m0 QhH, Cl st1P [vl a21 k22 Qgt], S sa2 sk2 s.Uses, pv cap0P [.func (.func 76) #[] #[st0P, st1P]]], Qbb s r17 QhH Qgt Qgj = Qbb s (((s.Uses.length : Int) - 0).toNat) rv9.1 rv9.2 0 /\ r17 = ((s.Uses.length : Int) - Qgj).toNat /\ (0 : Int) <= Qgj /\ Qgj <= (s.Uses.length : Int) /\ (-9223372036854775808 <= Qgj /\ Qgj <= 9223372036854775807) /\ ((Qgt.length : Int) <= (st1.length : Int) + 1 + Qgj), r17⟩) (((s.Uses.length : Int) - 0).toNat, rv9.1, rv9.2, 0, a13, k14) [3, 0, 0, 0, 1, 3] ⟨rfl, rfl, aM1, aM1, aM1, iv0⟩ ?_
 rintro ⟨r17, QhH, Qgt, Qgj, a21, k22⟩ ⟨hM23, hr24, hi25, hi26, hk27, hv28⟩
 refine QbB fun _ _ hL hA => ?_; dsimp only at hL hA; subst hL hA
 refine Fb 16 0 fun _ => ?_
 refine FoS 0 fun ho30 => ?_
 refine Fb 16 4 fun _ => ?_
 refine FoS 4 fun ho32 => ?_
 refine KS ?_
 refine Oq Qcu (KS ?_)
 refine Kc ?_ ?_
 ·intro h33
  have g34 := dt h33
  obtain ⟨r35, rfl⟩ := scc (n := r17) aM1
  refine KS ?_
  refine Oq (Vi Qcy 4) ?_
  have hb36 := okS (i := Qgj.toNat) ho32 rng
  refine Oq (Qk5 sh9 4) (Oq Va (KS ?_))
  refine Oq (Vld Qqf 5) (Oq Vm ?_)
  refine QaO (QcJ (s.Uses.getD Qgj.toNat default) QhH Qgt) fun rv38 hg39 => ?_
  have hc40 := Qun ((s.Uses.getD Qgj.toNat default)) st0P QhH st0m0 st1P Qgt a21 k22 pre pre rv38 hg39
  refine Qes [1, 1, 1, 0] rfl rfl rfl (OpC.clo («as» := [(.string (bs (s.Uses.getD Qgj.toNat default)) : Value), (st0P : Value), (st1P : Value)]) rfl rfl QuS rfl (by simp)) hc40 rfl ?_
  rintro c37 he41
  refine Jo 3 ?_; rintro a42 k43 rfl
  refine Fb 16 3 fun _ => ?_
  refine FoS 3 fun ho45 => ?_
  refine KS ?_
  refine Oq Qbd (Oq Vm (KS ?_))
  exact Kg (r35, rv38.1, rv38.2, (Qgj + 1), a42, k43) [3, 0, 0, 0, 0, 1] ⟨(q3 hM23 (by simp only [Qbb, h33, hg10, hg39, cs4])), aM1, aM1, aM1, aM1, iv1⟩
 intro h33
 have g46 := df h33
 obtain rfl : r17 = 0 := by omega
 refine Ke ?_
 have hR47 := q2 hM23 (QhH, Qgt) (by simp only [Qbb, h33, hg10, cs4])
 have hq := q4 hrr (QhH, Qgt) (by simp only [QbS, h33, hg10, hR47, cs4]); subst hq
 exact Kz (vl a21 k22 Qgt) rfl .nil [1, 1, 1, 0] en
theorem Qq9 (p : Qaj) (pa0 : Option Addr) (pk0 : Nat) (st1P : Value) (st1 : List (Str × Bool)) (st1m0 : Value) (st2P : Value) (st2 : List Str) (st2a0 : Option Addr) (st2k0 : Nat) (st0P : Value) (kwLA : Option Addr) (kwLK : Nat) (hps : PSm p = true) (ho : st2.length = 0) (rr : (List (Str × Bool)) × List Str) (hrr : QcY p st1 st2 = rr) : FT Tryd.prog 74 #[.agg #[vl pa0 pk0 p.Funcs], .func (.func 77) #[] #[st0P]] [S pa0 pk0 p.Funcs, Cl st1P [st1m0], Mp QgI vb Qeg st1m0 st1, Cl st2P [vl st2a0 st2k0 st2], O st2a0 st2k0 st2, pv st0P [.func (.func 76) #[] #[st1P, st2P]], pv (gp 0) [vl kwLA kwLK kwL], S kwLA kwLK kwL] (fun g : Value => (rr.2.length <= 30000)) (fun g => .tuple #[]) (fun g => [Cl st1P [st1m0], Mp QgI vb Qeg st1m0 rr.1, Cl st2P [g], os g rr.2]) := by
 refine FTi Tryd.func74 fun w0 M0 F0 => Fb 40 0 fun _ => Fb 16 4 fun _ => ?_
 refine FoS 4 fun ho3 => ?_
 refine Fb 16 7 fun _ => ?_
 refine FoS 7 fun ho5 => ?_
 refine KS ?_
 refine Oa (Ab [vl pa0 pk0 p.Funcs]) fun p6 => KS ?_
 refine Oq (Qc9 Qec 0) ?_
 refine QaO (Qcr p) fun rv7 hg8 => ?_
 have hc9 := QsE p pa0 pk0 kwLA kwLK pre rv7 hg8
 refine Oc [1, 7, 8] Qsz hc9 ?_
 rintro - -
 refine Oq QeP (KS ?_)
 refine Kc ?_ ?_
 ·intro h10
  have h12 := not_true h10
  have hq := q4 hrr (st1, st2) (by simp only [QcY, h10, h12, hg8, cs4]); subst hq
  exact Kr (vl st2a0 st2k0 st2) rfl .nil [2, 2, 2, 2] en
 intro h10
 have h15 := not_false h10
 try have hVb := QkP (p := p) (by simp only [h10, h15, hg8])
 refine KS ?_
 refine Oq (Vfa QdZ 0) (Oq (QaQ Qia 0) (Oq (QcE QgV) (Oq Vm (KS ?_))))
 refine Kl (γ := Nat × (List (Str × Bool)) × List Str × Int × Option Addr × Nat) (fun (r17, QhI, Qgb, Qb5, a21, k22) => ⟨[(1, .func (.func 77) #[] #[st0P]), (14, vl pa0 pk0 p.Funcs), (15, vi (p.Funcs.length : Int)), (16, vi Qb5)], [O a21 k22 Qgb, S pa0 pk0 p.Funcs, Cl st1P [st1m0], Mp QgI vb Qeg st1m0 QhI, Cl st2P [vl a21 k22 Qgb], pv st0P [.func (.func 76) #[] #[st1P, st2P]], pv (gp 0) [vl kwLA kwLK kwL], S kwLA kwLK kwL], QbE p r17 QhI Qgb Qb5 = QbE p (((p.Funcs.length : Int) - 0).toNat) st1 st2 0 /\ r17 = ((p.Funcs.length : Int) - Qb5).toNat /\ (0 : Int) <= Qb5 /\ Qb5 <= (p.Funcs.length : Int) /\ (-9223372036854775808 <= Qb5 /\ Qb5 <= 9223372036854775807) /\ ((Qgb.length : Int) <= 3000 * Qb5), r17⟩) (((p.Funcs.length : Int) - 0).toNat, st1, st2, 0, st2a0, st2k0) [5, 1, 2, 2, 2, 2, 3, 4] ⟨rfl, rfl, aM1, aM1, aM1, iv0⟩ ?_
 rintro ⟨r17, QhI, Qgb, Qb5, a21, k22⟩ ⟨hM23, hr24, hi25, hi26, hk27, hv28⟩
 refine QbB fun _ _ hL hA => ?_; dsimp only at hL hA; subst hL hA
 refine Fb 16 0 fun _ => ?_
 refine FoS 0 fun ho30 => ?_
 refine Fb 40 1 fun _ => Fb 16 7 fun _ => ?_
 refine FoS 7 fun ho33 => ?_
 refine KS ?_
 refine Oq Qcu (KS ?_)
 refine Kc ?_ ?_
 ·intro h34
  have g35 := dt h34
  have hVf := hVb.2 Qb5.toNat
  obtain ⟨r36, rfl⟩ := scc (n := r17) aM1
  refine KS ?_
  refine Oq (Vi QgV 1) ?_
  refine QcR Qb5.toNat 1 rfl rng fun a37 k38 hb39 => ?_
  refine Fb 40 1 fun _ => ?_
  refine Oq (Qc9 Qhk 0) (Oa (Al QnG [.string (bs (Str.mk [])), .slice none 0 0]) fun p41 => Ost (Scl [0] Qhk [.string (bs ((p.Funcs.getD Qb5.toNat default).Name)), vl a37 k38 ((p.Funcs.getD Qb5.toNat default).Blocks)]) (KS ?_))
  refine Oq (Vfa Qd0 0) (Oq (QaQ Qic 0) (Oq (QcE QgJ) (Oq Vm (KS ?_))))
  refine Kl (γ := Nat × (List (Str × Bool)) × List Str × Int × Option Addr × Nat) (fun (r42, QhJ, Qgu, Qdc, a46, k47) => ⟨[(1, .func (.func 77) #[] #[st0P]), (14, vl pa0 pk0 p.Funcs), (15, vi (p.Funcs.length : Int)), (16, vi Qb5), (21, vl a37 k38 ((p.Funcs.getD Qb5.toNat default).Blocks)), (22, vi (((p.Funcs.getD Qb5.toNat default).Blocks).length : Int)), (23, vi Qdc)], [O a46 k47 Qgu, S a37 k38 ((p.Funcs.getD Qb5.toNat default).Blocks), S pa0 pk0 p.Funcs, Cl st1P [st1m0], Mp QgI vb Qeg st1m0 QhJ, Cl st2P [vl a46 k47 Qgu], pv st0P [.func (.func 76) #[] #[st1P, st2P]], pv (gp 0) [vl kwLA kwLK kwL], S kwLA kwLK kwL], QbC ((p.Funcs.getD Qb5.toNat default).Blocks) r42 QhJ Qgu Qdc = QbC ((p.Funcs.getD Qb5.toNat default).Blocks) ((((((p.Funcs.getD Qb5.toNat default).Blocks).length : Int) : Int) - 0).toNat) QhI Qgb 0 /\ r42 = (((((p.Funcs.getD Qb5.toNat default).Blocks).length : Int) : Int) - Qdc).toNat /\ (0 : Int) <= Qdc /\ (Qdc <= (((p.Funcs.getD Qb5.toNat default).Blocks).length : Int) \/ Qdc = 0) /\ (-9223372036854775808 <= Qdc /\ Qdc <= 9223372036854775807) /\ ((Qgu.length : Int) <= (Qgb.length : Int) + 180 * Qdc), r42⟩) ((((((p.Funcs.getD Qb5.toNat default).Blocks).length : Int) : Int) - 0).toNat, QhI, Qgb, 0, a21, k22) [3, 2, 3, 4, 4, 4, 4, 5, 6] ⟨rfl, rfl, aM1, (.inr rfl), aM1, iv0⟩ ?_
  rintro ⟨r42, QhJ, Qgu, Qdc, a46, k47⟩ ⟨hM48, hr49, hi50, hi51, hk52, hv53⟩
  refine QbB fun _ _ hL hA => ?_; dsimp only at hL hA; subst hL hA
  refine Fb 16 0 fun _ => ?_
  refine FoS 0 fun ho55 => ?_
  refine Fb 40 1 fun _ => Fb 40 2 fun _ => Fb 16 8 fun _ => ?_
  refine FoS 8 fun ho59 => ?_
  refine KS ?_
  refine Oq Qcu (KS ?_)
  refine Kc ?_ ?_
  ·intro h60
   have g61 := dt h60
   have hVk := hVf.2 Qdc.toNat
   obtain ⟨r62, rfl⟩ := scc (n := r42) aM1
   refine KS ?_
   refine Oq (Vi QgJ 1) ?_
   refine QcK Qdc.toNat 1 rfl rng fun a63 k64 hb65 => ?_
   refine Fb 72 1 fun _ => ?_
   refine Oq (Qc9 Qg2 0) (Oa (Al QnE [.string (bs (Str.mk [])), .slice none 0 0]) fun p67 => Ost (Scl [0] Qg2 [.string (bs ((((p.Funcs.getD Qb5.toNat default).Blocks).getD Qdc.toNat default).Name)), .slice a63 (((((p.Funcs.getD Qb5.toNat default).Blocks).getD Qdc.toNat default).Stmts).length) k64]) (KS ?_))
   refine Oq (Vfa QdO 0) (Oq (QaQ QhV 0) (Oq (QcE QgE) (Oq Vm (KS ?_))))
   refine Kl (γ := Nat × (List (Str × Bool)) × List Str × Int × Option Addr × Nat) (fun (r68, QhK, QgU, Qez, a72, k73) => ⟨[(1, .func (.func 77) #[] #[st0P]), (14, vl pa0 pk0 p.Funcs), (15, vi (p.Funcs.length : Int)), (16, vi Qb5), (21, vl a37 k38 ((p.Funcs.getD Qb5.toNat default).Blocks)), (22, vi (((p.Funcs.getD Qb5.toNat default).Blocks).length : Int)), (23, vi Qdc), (28, .slice a63 (((((p.Funcs.getD Qb5.toNat default).Blocks).getD Qdc.toNat default).Stmts).length) k64), (29, vi (((((p.Funcs.getD Qb5.toNat default).Blocks).getD Qdc.toNat default).Stmts).length : Int)), (30, vi Qez)], [O a72 k73 QgU, S a63 k64 ((((p.Funcs.getD Qb5.toNat default).Blocks).getD Qdc.toNat default).Stmts), S a37 k38 ((p.Funcs.getD Qb5.toNat default).Blocks), S pa0 pk0 p.Funcs, Cl st1P [st1m0], Mp QgI vb Qeg st1m0 QhK, Cl st2P [vl a72 k73 QgU], pv st0P [.func (.func 76) #[] #[st1P, st2P]], pv (gp 0) [vl kwLA kwLK kwL], S kwLA kwLK kwL], QbD ((((p.Funcs.getD Qb5.toNat default).Blocks).getD Qdc.toNat default).Stmts) r68 QhK QgU Qez = QbD ((((p.Funcs.getD Qb5.toNat default).Blocks).getD Qdc.toNat default).Stmts) ((((((((p.Funcs.getD Qb5.toNat default).Blocks).getD Qdc.toNat default).Stmts).length : Int) : Int) - 0).toNat) QhJ Qgu 0 /\ r68 = (((((((p.Funcs.getD Qb5.toNat default).Blocks).getD Qdc.toNat default).Stmts).length : Int) : Int) - Qez).toNat /\ (0 : Int) <= Qez /\ (Qez <= (((((p.Funcs.getD Qb5.toNat default).Blocks).getD Qdc.toNat default).Stmts).length : Int) \/ Qez = 0) /\ (-9223372036854775808 <= Qez /\ Qez <= 9223372036854775807) /\ ((QgU.length : Int) <= (Qgu.length : Int) + 5 * Qez), r68⟩) ((((((((p.Funcs.getD Qb5.toNat default).Blocks).getD Qdc.toNat default).Stmts).length : Int) : Int) - 0).toNat, QhJ, Qgu, 0, a46, k47) [3, 2, 3, 4, 5, 5, 5, 5, 6, 7] ⟨rfl, rfl, aM1, (.inr rfl), aM1, iv0⟩ ?_
   rintro ⟨r68, QhK, QgU, Qez, a72, k73⟩ ⟨hM74, hr75, hi76, hi77, hk78, hv79⟩
   refine QbB fun _ _ hL hA => ?_; dsimp only at hL hA; subst hL hA
   refine Fb 16 0 fun _ => ?_
   refine FoS 0 fun ho81 => ?_
   refine Fb 72 1 fun _ => Fb 40 2 fun _ => Fb 40 3 fun _ => Fb 16 9 fun _ => ?_
   refine FoS 9 fun ho86 => ?_
   refine KS ?_
   refine Oq Qcu (KS ?_)
   refine Kc ?_ ?_
   ·intro h87
    have g88 := dt h87
    have hVs := hVk.2 Qez.toNat
    obtain ⟨r89, rfl⟩ := scc (n := r68) aM1
    refine KS ?_
    refine Oq (Vi QgE 1) ?_
    refine QdP Qez.toNat 1 rfl rng fun a90 k91 a92 k93 hb94 hb95 => ?_
    unfold Qac at hb94
    refine Fb 16 1 fun _ => ?_
    refine FoS 1 fun ho97 => ?_
    refine Fb 16 2 fun _ => ?_
    refine FoS 2 fun ho99 => ?_
    refine Oq (Qc9 QdF 0) (Oa (Al Qqr [vi 0, .string (bs (Str.mk [])), .slice none 0 0, .slice none 0 0]) fun p100 => Ost (Scl [0] QdF [vi ((((((p.Funcs.getD Qb5.toNat default).Blocks).getD Qdc.toNat default).Stmts).getD Qez.toNat default).Op), .string (bs ((((((p.Funcs.getD Qb5.toNat default).Blocks).getD Qdc.toNat default).Stmts).getD Qez.toNat default).Def)), .slice a90 (((((((p.Funcs.getD Qb5.toNat default).Blocks).getD Qdc.toNat default).Stmts).getD Qez.toNat default).Uses).length) k91, .slice a92 (((((((p.Funcs.getD Qb5.toNat default).Blocks).getD Qdc.toNat default).Stmts).getD Qez.toNat default).Targets).length) k93]) (KS ?_))
    refine Oq Vm (Oq (Qc9 QdF 0) ?_)
    refine QaO (QbS (((((p.Funcs.getD Qb5.toNat default).Blocks).getD Qdc.toNat default).Stmts).getD Qez.toNat default) QhK QgU) fun rv102 hg103 => ?_
    have hc104 := Qr5 ((((((p.Funcs.getD Qb5.toNat default).Blocks).getD Qdc.toNat default).Stmts).getD Qez.toNat default)) a90 k91 a92 k93 st1P QhK st1m0 st2P QgU a72 k73 st0P pre pre pre rv102 hg103
    refine Qes [2, 3, 8, 8, 8, 4, 7] rfl rfl rfl (OpC.clo («as» := [(.agg #[vi ((((((p.Funcs.getD Qb5.toNat default).Blocks).getD Qdc.toNat default).Stmts).getD Qez.toNat default).Op), .string (bs ((((((p.Funcs.getD Qb5.toNat default).Blocks).getD Qdc.toNat default).Stmts).getD Qez.toNat default).Def)), .slice a90 (((((((p.Funcs.getD Qb5.toNat default).Blocks).getD Qdc.toNat default).Stmts).getD Qez.toNat default).Uses).length) k91, .slice a92 (((((((p.Funcs.getD Qb5.toNat default).Blocks).getD Qdc.toNat default).Stmts).getD Qez.toNat default).Targets).length) k93] : Value), (st0P : Value)]) rfl rfl QvJ rfl (by simp)) hc104 rfl ?_
    rintro c101 he105
    refine Jo 3 ?_; rintro a106 k107 rfl
    refine Fb 16 3 fun _ => ?_
    refine FoS 3 fun ho109 => ?_
    refine KS ?_
    refine Oq Qbd (Oq Vm (KS ?_))
    exact Kg (r89, rv102.1, rv102.2, (Qez + 1), a106, k107) [3, 7, 8, 9, 0, 0, 0, 7, 8, 9] ⟨(q3 hM74 (by simp only [QbD, h10, h15, h34, h60, h87, hg8, hg103, cs4])), aM1, aM1, aM1, aM1, iv1⟩
   intro h87
   have g110 := df h87
   obtain rfl : r68 = 0 := by omega
   refine Ke ?_
   have hR111 := q2 hM74 (QhK, QgU) (by simp only [QbD, h10, h15, h34, h60, h87, hg8, cs4])
   refine KS ?_
   refine Oq Qbd (Oq Vm (KS ?_))
   exact Kg (r62, QhK, QgU, (Qdc + 1), a72, k73) [0, 1, 2, 3, 3, 3, 3, 4, 5] ⟨(q3 hM48 (by simp only [QbC, h10, h15, h34, h60, h87, hg8, hR111, cs4])), aM1, aM1, aM1, aM1, iv1⟩
  intro h60
  have g112 := df h60
  obtain rfl : r42 = 0 := by omega
  refine Ke ?_
  have hR113 := q2 hM48 (QhJ, Qgu) (by simp only [QbC, h10, h15, h34, h60, hg8, cs4])
  refine KS ?_
  refine Oq Qbd (Oq Vm (KS ?_))
  exact Kg (r36, QhJ, Qgu, (Qb5 + 1), a46, k47) [0, 1, 2, 2, 2, 2, 3, 4] ⟨(q3 hM23 (by simp only [QbE, h10, h15, h34, h60, hg8, hR113, cs4])), aM1, aM1, aM1, aM1, iv1⟩
 intro h34
 have g114 := df h34
 obtain rfl : r17 = 0 := by omega
 refine Ke ?_
 have hR115 := q2 hM23 (QhI, Qgb) (by simp only [QbE, h10, h15, h34, hg8, cs4])
 have hq := q4 hrr (QhI, Qgb) (by simp only [QcY, h10, h15, h34, hg8, hR115, cs4]); subst hq
 exact Kz (vl a21 k22 Qgb) rfl .nil [2, 2, 2, 0] en
theorem Qvl (p : Qaj) (pa0 : Option Addr) (pk0 : Nat) (kwLA : Option Addr) (kwLK : Nat) (hps : PSm p = true) (rr : List Str) (hrr : QcV p = rr) : FT Tryd.prog 50 #[.agg #[vl pa0 pk0 p.Funcs]] [S pa0 pk0 p.Funcs, pv (gp 0) [vl kwLA kwLK kwL], S kwLA kwLK kwL] (fun g : Value => (rr.length <= 30000)) (fun g => g) (fun g => [sl g rr]) := by
 refine FTi Tryd.func50 fun w0 M0 F0 => Fb 40 0 fun _ => Fb 16 2 fun _ => ?_
 refine FoS 2 fun ho3 => ?_
 refine KS ?_
 refine Oa (Ab [vl pa0 pk0 p.Funcs]) fun p4 => Oq Va (KS ?_)
 refine Oa (Amp (κ := Str) (ν := Bool) (ek := QgI) (ev := vb) (ok := Qeg)) fun p5 => ?_
 refine Jom 0 ?_; rintro b6 rfl
 refine Oa (Al Qtl [.map none]) fun p7 => Ost (Scl [0] Qpu [(mv b6)]) (KS ?_)
 refine Oa (Al Qu0 [.slice none 0 0]) fun p8 => KS ?_
 refine Oq (Vf [p7, p8]) (Oa (Al Qth [.nilFunc]) fun p9 => Ost (Scl [0] Qqf [.func (.func 76) #[] #[p7, p8]]) (KS ?_))
 refine Oq (Qc9 Qec 4) (Oq (Vf [p9]) ?_)
 refine Jl [] (Ent.osNil (α := Str)) ?_
 refine Jl [1] (Ent.freezeCl _ _) ?_
 refine QaO (QcY p [] []) fun rv11 hg12 => ?_
 have hc13 := Qq9 p pa0 pk0 p7 [] (mv b6) p8 [] none 0 p9 kwLA kwLK pre pre rv11 hg12
 refine Oc [6, 3, 3, 2, 1, 0, 3, 4] Qug hc13 ?_
 rintro c10 he14
 refine Jo 3 ?_; rintro a15 k16 rfl
 refine Fb 16 3 fun _ => ?_
 refine FoS 3 fun ho18 => ?_
 refine KS ?_
 refine Oq (Vld Qeq 2) (Oq Va (KS ?_))
 refine Jl [3] (Ent.freeze _ _) ?_
 have hq := q4 hrr rv11.2 (by simp only [QcV, hg12, cs4]); subst hq
 exact Kr (vl a15 k16 rv11.2) rfl (.tmp rfl .nil) [0] en
theorem QtU (p : Qaj) (pa0 : Option Addr) (pk0 : Nat) (kwLA : Option Addr) (kwLK : Nat) (hps : PSm p = true) (rr : Qay × Int) (hrr : Qcz p = rr) : FT Tryd.prog 23 #[.agg #[vl pa0 pk0 p.Funcs]] [S pa0 pk0 p.Funcs, pv (gp 0) [vl kwLA kwLK kwL], S kwLA kwLK kwL] (fun g : Unit => Qac rr.1.Kind /\ Qac rr.1.Func /\ Qac rr.1.Block /\ Qac rr.1.Stmt /\ Qac rr.2) (fun g => .tuple #[.agg #[vi rr.1.Kind, vi rr.1.Func, vi rr.1.Block, vi rr.1.Stmt], vi rr.2]) (fun g => []) := by
 refine FTi Tryd.func23 fun w0 M0 F0 => Fb 40 0 fun _ => Fb 16 2 fun _ => ?_
 refine FoS 2 fun ho3 => ?_
 refine KS ?_
 refine Oa (Ab [vl pa0 pk0 p.Funcs]) fun p4 => Oa (Al QpM [vi 0, vi 0, vi 0, vi 0]) fun p5 => Oq Va (KS ?_)
 refine Oq (Qc9 Qec 1) ?_
 refine QaO (Qcr p) fun rv6 hg7 => ?_
 have hc8 := QsE p pa0 pk0 kwLA kwLK pre rv6 hg7
 refine Oc [2, 3, 4] Qsz hc8 ?_
 rintro - -
 refine Oq QeP (KS ?_)
 refine Kc ?_ ?_
 ·intro h9
  have h11 := not_true h9
  refine KS ?_
  refine Oq (Vbd Qle [vi 0, vi 0, vi 0, vi 0]) (Ost (Scl [0] Qhn [vi 0, vi 0, vi 0, vi 0]) (Oq Va (KS ?_)))
  have hq := q4 hrr ((Qay.mk 0 0 0 0), 1) (by simp only [Qcz, h9, h11, hg7, cs4]); subst hq
  exact Kr () rfl (.cellN 0 rfl Qhn rfl (QaC _ _) rfl (.tmp rfl .nil)) [] en
 intro h9
 have h14 := not_false h9
 refine KS ?_
 refine Oq (Vfa QdZ 1) (Oq (QaQ Qia 1) ?_)
 refine QfD (Ent.pall [] rfl rfl) ?_
 refine QaO (Qc0 p.Funcs (fun x0 => QeB x0)) fun rv17 hg18 => ?_
 have hc19 := QvG p.Funcs pa0 pk0 47 [] (fun x0 => QeB x0) [] Qvo (fun x0 a0 k0 hq0 => QeY (A1 := _) (Qvf x0 a0 k0  hq0 _ rfl)) rv17 hg18
 refine Oc [3, 0] Qu3 hc19 ?_
 rintro c16 he20
 unfold Qac at he20
 refine Jom 0 ?_; rintro b21 rfl
 refine Oq Vm (Oq Vx (Oq Vx (Oq Va (Oq Va (KS ?_)))))
 refine Oq Vm (Oq QeU (KS ?_))
 refine Kc ?_ ?_
 ·intro h22
  have g23 := dt h22
  refine KS ?_
  refine Oq Vm (Oq (Vbd Qle [vi 1, vi rv17.1, vi (-1), vi (-1)]) (Ost (Scl [2] Qhn [vi 1, vi rv17.1, vi (-1), vi (-1)]) (Oq Va (KS ?_))))
  have hq := q4 hrr ((Qay.mk 1 rv17.1 (-1) (-1)), 6) (by simp only [Qcz, h9, h14, h22, hg7, hg18, cs4]); subst hq
  exact Kr () rfl (.cellN 0 rfl Qhn rfl (QaC _ _) rfl (.tmp rfl .nil)) [] en
 intro h22
 have g24 := df h22
 refine KS ?_
 refine Oq (Vfa QdZ 3) (Oq (QaQ Qia 3) (Oq (QcE QgV) (Oq Vm (KS ?_))))
 refine Kl (γ := Nat × Int) (fun (r25, QfG) => ⟨[(1, p4), (2, p5), (5, (mv b21)), (27, vl pa0 pk0 p.Funcs), (28, vi (p.Funcs.length : Int)), (29, vi QfG)], [Mp QgI vb Qeg (mv b21) rv17.2, Qid [], Cl p5 [vi 0, vi 0, vi 0, vi 0], pv p4 [vl pa0 pk0 p.Funcs], S pa0 pk0 p.Funcs, pv (gp 0) [vl kwLA kwLK kwL], S kwLA kwLK kwL], Qb8 p rv17.2 r25 QfG = Qb8 p rv17.2 (((p.Funcs.length : Int) - 0).toNat) 0 /\ r25 = ((p.Funcs.length : Int) - QfG).toNat /\ (0 : Int) <= QfG /\ QfG <= (p.Funcs.length : Int) /\ (-9223372036854775808 <= QfG /\ QfG <= 9223372036854775807), r25⟩) (((p.Funcs.length : Int) - 0).toNat, 0) [0, 0, 1, 1, 2, 3, 4] ⟨rfl, rfl, aM1, aM1, aM1⟩ ?_
 rintro ⟨r25, QfG⟩ ⟨hM27, hr28, hi29, hi30, hk31⟩
 refine QbB fun _ _ hL hA => ?_; dsimp only at hL hA; subst hL hA
 refine Fb 40 4 fun _ => Fb 16 6 fun _ => ?_
 refine FoS 6 fun ho34 => ?_
 refine KS ?_
 refine Oq Qcu (KS ?_)
 refine Kc ?_ ?_
 ·intro h35
  have g36 := dt h35
  obtain ⟨r37, rfl⟩ := scc (n := r25) aM1
  refine KS ?_
  refine Oq Vm (Oq (Vi QgV 4) ?_)
  refine QcR QfG.toNat 4 rfl rng fun a38 k39 hb40 => ?_
  refine Fb 40 1 fun _ => ?_
  refine Oq (Qc9 Qhk 0) (Oa (Al QnG [.string (bs (Str.mk [])), .slice none 0 0]) fun p42 => Oq Va (Ost (Scl [0] Qhk [.string (bs ((p.Funcs.getD QfG.toNat default).Name)), vl a38 k39 ((p.Funcs.getD QfG.toNat default).Blocks)]) (KS ?_)))
  refine Oq (Qc9 Qhk 0) (Oq Vm (Oq Vm ?_))
  refine QaO (Qdv (p.Funcs.getD QfG.toNat default) QfG rv17.2) fun rv43 hg44 => ?_
  have hc45 := Qwc ((p.Funcs.getD QfG.toNat default)) a38 k39 QfG (mv b21) rv17.2 pre pre rv43 hg44
  refine Oc [2, 3] Qv8 hc45 ?_
  rintro - ⟨he46, he47, he48, he49, he50⟩
  unfold Qac at he46 he47 he48 he49 he50
  refine Oq Vm (Oq Vx (Oq Vx (Oa (Al QpM [vi 0, vi 0, vi 0, vi 0]) fun p51 => Ost (Scl [0] Qhn [vi rv43.1.Kind, vi rv43.1.Func, vi rv43.1.Block, vi rv43.1.Stmt]) (Oq Va (KS ?_)))))
  refine Oq Vm (Oq QgA (KS ?_))
  refine Kc ?_ ?_
  ·intro h52
   have g53 := QbL h52
   refine KS ?_
   refine Oq (Qc9 Qhn 0) (Oq Vm (Ost (Scl [6] Qhn [vi rv43.1.Kind, vi rv43.1.Func, vi rv43.1.Block, vi rv43.1.Stmt]) (Oq Va (KS ?_))))
   have hR54 := q2 hM27 (.ret (rv43.1, rv43.2)) (by simp only [Qb8, h9, h14, h22, h35, h52, hg7, hg18, hg44, cs4])
   have hq := q4 hrr (rv43.1, rv43.2) (by simp only [Qcz, h9, h14, h22, h35, h52, hg7, hg18, hg44, hR54, cs4]); subst hq
   exact Kr () rfl (.cellN 0 rfl Qhn rfl (QaC _ _) rfl (.tmp rfl .nil)) [] en
  intro h52
  have g55 := QaA h52
  refine KS ?_
  refine Oq Qbd (Oq Vm (KS ?_))
  exact Kg (r37, (QfG + 1)) [1, 4, 5, 5, 6, 7, 8] ⟨(q3 hM27 (by simp only [Qb8, h9, h14, h22, h35, h52, hg7, hg18, hg44, cs4])), aM1, aM1, aM1, aM1⟩
 intro h35
 have g56 := df h35
 obtain rfl : r25 = 0 := by omega
 refine Ke ?_
 have hR57 := q2 hM27 (.brk ()) (by simp only [Qb8, h9, h14, h22, h35, hg7, hg18, cs4])
 refine KS ?_
 refine Oq (Qc9 Qec 3) ?_
 refine QaO (QcM p) fun rv58 hg59 => ?_
 have hc60 := QvE p pa0 pk0 kwLA kwLK pre rv58 hg59
 refine Oc [4, 5, 6] Qv3 hc60 ?_
 rintro - ⟨he61, he62, he63⟩
 unfold Qac at he61 he62
 refine Oq Vm (Oq Vx (Oq Vx (Oq Va (Oq Va (KS ?_)))))
 refine Oq (Qc9 Qec 3) ?_
 refine QaO (QcV p) fun rv65 hg66 => ?_
 have hc67 := Qvl p pa0 pk0 kwLA kwLK pre rv65 hg66
 refine Oc [4, 5, 6] QvH hc67 ?_
 rintro c64 he68
 refine Jo 0 ?_; rintro a69 k70 rfl
 refine Fb 16 0 fun _ => ?_
 refine FoS 0 fun ho72 => ?_
 refine Oq (QcE Qcy) (Oq QhM (Oq Vm ?_))
 refine Js 55 ?_ ?_
 ·intro h73
  have g74 := dt h73
  refine Osk (Osk (Oq Vpt (Oq Vm (Osk (Osk (Oq Vpt (KS ?_)))))))
  refine Kt (KS ?_)
  refine Oq (Vbd Qle [vi 0, vi 0, vi 0, vi 0]) (Ost (Scl [3] Qhn [vi 0, vi 0, vi 0, vi 0]) (Oq Va (KS ?_)))
  have hq := q4 hrr ((Qay.mk 0 0 0 0), 7) (by simp only [Qcz, h9, h14, h22, h35, h73, hg7, hg18, hR57, hg59, hg66, cs4]); subst hq
  exact Kr () rfl (.cellN 0 rfl Qhn rfl (QaC _ _) rfl (.tmp rfl .nil)) [] en
 intro h73
 have g75 := df h73
 refine Oq Vm (Oq QhM (Oq Vpf (Oq Vm ?_)))
 refine Js 59 ?_ ?_
 ·intro h76
  have g77 := dt h76
  refine Osk (Osk (Oq Vpt (KS ?_)))
  refine Kt (KS ?_)
  refine Oq (Vbd Qle [vi 0, vi 0, vi 0, vi 0]) (Ost (Scl [3] Qhn [vi 0, vi 0, vi 0, vi 0]) (Oq Va (KS ?_)))
  have hq := q4 hrr ((Qay.mk 0 0 0 0), 7) (by simp only [Qcz, h9, h14, h22, h35, h73, h76, hg7, hg18, hR57, hg59, hg66, cs4]); subst hq
  exact Kr () rfl (.cellN 0 rfl Qhn rfl (QaC _ _) rfl (.tmp rfl .nil)) [] en
 intro h76
 have g78 := df h76
 refine Oq Vm (Oq QhM (Oq Vpf (KS ?_)))
 refine Kc ?_ ?_
 ·intro h79
  have g80 := dt h79
  refine KS ?_
  refine Oq (Vbd Qle [vi 0, vi 0, vi 0, vi 0]) (Ost (Scl [3] Qhn [vi 0, vi 0, vi 0, vi 0]) (Oq Va (KS ?_)))
  have hq := q4 hrr ((Qay.mk 0 0 0 0), 7) (by simp only [Qcz, h9, h14, h22, h35, h73, h76, h79, hg7, hg18, hR57, hg59, hg66, cs4]); subst hq
  exact Kr () rfl (.cellN 0 rfl Qhn rfl (QaC _ _) rfl (.tmp rfl .nil)) [] en
 intro h79
 have g81 := df h79
 refine KS ?_
 refine Oq (Vbd Qle [vi 0, vi 0, vi 0, vi 0]) (Ost (Scl [3] Qhn [vi 0, vi 0, vi 0, vi 0]) (Oq Va (KS ?_)))
 have hq := q4 hrr ((Qay.mk 0 0 0 0), 0) (by simp only [Qcz, h9, h14, h22, h35, h73, h76, h79, hg7, hg18, hR57, hg59, hg66, cs4]); subst hq
 exact Kr () rfl (.cellN 0 rfl Qhn rfl (QaC _ _) rfl (.tmp rfl .nil)) [] en
end Go.SL.G
