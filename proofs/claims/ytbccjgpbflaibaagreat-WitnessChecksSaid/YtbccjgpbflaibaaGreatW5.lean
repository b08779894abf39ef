/- Part 5 of the walks: mirrors, plain laws and walks used by the last text of this claim. -/
import Derived.Test.YtbccjgpbflaibaaGreatW4
import Derived.Test.YtbccjgpbflaibaaGreatProg
set_option linter.unusedVariables false
set_option linter.unusedSimpArgs false
namespace Go.SL.G
open Go Go.SL Go.Proofs
set_option maxHeartbeats 20000000
set_option maxRecDepth 100000
theorem Qyo (pP:Value) (p:Qag) (pa0:Option Addr) (pk0:Nat) (QlN:Qaa p.at_) (QlO:Qaa p.Err) (rr:Qc7 × Qag) (hrr:QoP p = .ret rr):FT Tryz.prog 157 #[pP] [Cl pP [vl pa0 pk0 p.l,vi p.at_,vi p.Err],S pa0 pk0 p.l] (fun g:Value × Value=>Qaa rr.1.Op /\ rr.1.Def.b.length <= 140737488355328 /\ Qaa rr.2.at_ /\ Qaa rr.2.Err) (fun g=>.agg #[vi rr.1.Op,.string (bs rr.1.Def),g.1,g.2]) (fun g=>[sl g.1 rr.1.Uses,sl g.2 rr.1.Targets,Cl pP [vl pa0 pk0 p.l,vi rr.2.at_,vi rr.2.Err]]):=by
 refine FTi Tryz.func157 fun w0 M0 F0=>?_
 unfold Qaa at QlN QlO
 refine Fb 40 1 fun _=>?_
 have hx0:=lrn rr; have H:=hrr; unfold QoP at H
 refine KS ?_
 refine Oa (Al QpS [vi 0,.string (bs (Str.mk [])),.slice none 0 0,.slice none 0 0]) fun p2=>KS ?_
 refine Oa (Al QpS [vi 0,.string (bs (Str.mk [])),.slice none 0 0,.slice none 0 0]) fun p3=>KS ?_
 refine Oq Va (KS ?_)
 refine Oq Vm ?_
 refine lbH H hx0 fun rv4 hg5 H=>?_
 have hc6:=QqB pP p pa0 pk0 pre pre rv4 hg5
 refine Oc [2,2] QqS hc6 ?_
 rintro - -
 refine Oq Qcy (KS ?_)
 refine KcH H ?_ ?_
 ·intro h7 H
  have h9:=not_true h7
  refine KS ?_
  refine Jp 0 fun hp11=>?_
  refine pC H hx0 fun hc12 H=>?_
  refine Qd4 p.at_.toNat 4 rfl rng fun hb13 hb14 hb15 hb16=>?_
  unfold Qaa at hb13 hb15 hb16
  refine Kq [0,1,3,7,0,16,48,112,255,511,1023,2047] Qco ?_
  refine Qv [] Vm (Qv [1] (Vn 0) (Qv [1] (Vfa QfS 0) (Qv [2] (Qah Qlt 0) (Qv [] Vm (Qv [1] (Vn 0) (Qv [1] (Vfa Qcg 0) (Qv [2] (Qah sh3 0) (Qv [5] (Vi QeM 0) (Qv [0] (Vfa Qno 0) ?_)))))))))
  refine Qv [0] (Qah sh9 0) (Qv [] Va ?_)
  refine Qn ⟨by kernel_rfl,?_⟩
  refine KS ?_
  refine Oq Vm (Oq (Vn 2) (Oq (Vfa Qcg 2) (Oq (Qah sh3 2) ?_)))
  refine pC H hx0 fun hc17 H=>?_
  refine pC H hx0 fun hc18 H=>?_
  refine Oq QaS (Oq (Vn 2) (Oq (Vfa Qcg 2) (Ost (QiP [2] sh3 [vl pa0 pk0 p.l,vi (p.at_ + 1),vi p.Err]) (KS ?_))))
  refine Oq Vm (KS ?_)
  refine Oq (Ql5 (l:=(p.l.getD p.at_.toNat default).Text) (m:=(Str.mk [117,115,101]))) (Oq Va (KS ?_))
  refine KcH H ?_ ?_
  ·intro h19 H
   have g20:=eq_of_beq h19
   refine KS ?_
   refine Oq Vm ?_
   refine lbH H hx0 fun rv21 hg22 H=>?_
   have hc23:=Qom pP (Qag.mk p.l (p.at_ + 1) p.Err) pa0 pk0 pre pre rv21 hg22
   refine Oc [0,4] QoY hc23 ?_
   rintro - ⟨he24,he25,he26⟩
   unfold Qaa at he25 he26
   refine Oa (AsV Qcb QhZ [.string (bs rv21.1)] [.string (bs rv21.1)]) fun c27=>?_
   refine Jo 0 ?_; rintro a28 k29 rfl
   refine Oq (Vfa Qdv 4) (Ost (QiP [4] sh3 [vi 2,.string (bs (Str.mk [])),.slice none 0 0,.slice none 0 0]) (Oq (Vfa Qfu 0) (Ost (QiP [0] Qi0 [vi 2,.string (bs (Str.mk [])),.slice a28 1 k29,.slice none 0 0]) (KS ?_))))
   refine Jp 0 fun hp30=>?_
   refine Qam [0,1,0,4,15,31,63] Qco ?_
   refine Dv [0] (Vfa Qfu 0) (Dv [1] (Qah Qi0 0) (Dv [] Vm ?_))
   refine lbH H hx0 fun rv32 hg33 H=>?_
   refine Dx [3,7] [3] [3,0,1,2] (fun G=>(G.g 3 0)) [fun G=>SP.fact (Qaa rv32.2.at_ /\ Qaa rv32.2.Err),fun G=>sl (G.g 3 0) rv32.1,fun G=>Cl pP [vl pa0 pk0 p.l,vi rv32.2.at_,vi rv32.2.Err]] (fun G=>xC [0,0] Qve (Qvi pP (Qag.mk p.l rv21.2.at_ rv21.2.Err) pa0 pk0 1 pre pre pre rv32 hg33)) ?_
   refine pC H hx0 fun hc34 H=>?_
   have hn36:([rv21.1] ++ rv32.1:List Str).length = 1 + rv32.1.length:=la ([rv21.1]:List Str) rv32.1
   refine Dx [2,8,9] [2] [1,2,0] (fun G=>(G.g 4 0)) [fun G=>os (G.g 4 0) (([rv21.1] ++ rv32.1):List Str)] (fun G=>by refine xf 1 rfl ?_; rintro ⟨he37,he38⟩; unfold Qaa at he37 he38; exact xp [0] rfl (Ent.cr1 (α:=Str) (A:=[]) _ rv21.1 _ aB1 (fun _=>⟨rfl,aS1⟩)) (xA (Ap [0,1] Qcb Qcb QhZ))) (Dv [0] (Vfa Qfu 0) (Dx0 [1,11] [1] [1,0] [fun G=>Cl p3 [vi 2,.string (bs (Str.mk [])),(G.g 4 0),.slice none 0 0]] (fun G=>x1 1 rfl Qc0 fun ho39=>(xS (OpS.frame [0] rfl (OpS.storeClF [(G.g 4 0)] [vi 2,.string (bs (Str.mk [])),(G.g 4 0),.slice none 0 0] rfl rfl rfl Qi0 (QaX ho39) rfl (by simp only [List.all_cons,List.all_nil,ho39,Bool.and_true,Bool.true_and] <;> rfl) aB1 rfl)))) ?_))
   refine Dn ⟨by kernel_rfl,fun G=>?_⟩
   refine Jw2 [(0,pP),(2,p2),(3,p3)] [0,4,5,6,7] [SP.fact (Qaa rv32.2.at_ /\ Qaa rv32.2.Err),sl (G.g 3 0) rv32.1,Cl pP [vl pa0 pk0 p.l,vi rv32.2.at_,vi rv32.2.Err],os (G.g 4 0) (([rv21.1] ++ rv32.1):List Str),Cl p3 [vi 2,.string (bs (Str.mk [])),(G.g 4 0),.slice none 0 0]] ?_
   generalize G.g 3 0 = c31,G.g 4 0 = c35
   refine Jf 5 rfl ?_; rintro ⟨he40,he41⟩
   unfold Qaa at he40 he41
   refine Jk [1,3,3,5,6,6,6] ?_
   refine Jo 3 ?_; rintro a42 k43 rfl
   refine Fb 16 3 fun _=>?_
   refine FoS 3 fun ho45=>?_
   refine Jo 5 ?_; rintro a46 k47 rfl
   refine Fb 16 5 fun _=>?_
   refine FoS 5 fun ho49=>?_
   refine KS ?_
   refine Oq Vm ?_
   refine lbH H hx0 fun rv50 hg51 H=>?_
   have hc52:=Qng pP (Qag.mk p.l rv32.2.at_ rv32.2.Err) pa0 pk0 pre pre rv50 hg51
   refine Oc [4,2] Qni hc52 ?_
   rintro - ⟨he53,he54⟩
   unfold Qaa at he53 he54
   refine KS ?_
   refine Oq (Qau Qd1 6) (Ost (Scl [2] Qd1 [vi 2,.string (bs (Str.mk [])),vl a46 k47 ([rv21.1] ++ rv32.1),.slice none 0 0]) (KS ?_))
   refine Jl [5] (Ent.freeze _ _) ?_
   refine Jl [] (Ent.slNil (α:=Str)) ?_
   have hq:=rI H; subst hq
   exact Kr (vl a46 k47 ([rv21.1] ++ rv32.1),.slice none 0 0) rfl (.cellN 2 rfl Qd1 rfl (Qal _ _) rfl .nil) [1,0,3] en
  intro h19 H
  have g55:=ne_of_beq_false h19
  refine KS ?_
  refine Oq (Ql5 (l:=(p.l.getD p.at_.toNat default).Text) (m:=(Str.mk [99,97,108,108]))) (Oq Va (KS ?_))
  refine pF H hx0 fun h56 H=>?_
  refine KcF h56 ?_
  have g57:=ne_of_beq_false h56
  refine KS ?_
  refine Oq (Ql5 (l:=(p.l.getD p.at_.toNat default).Text) (m:=(Str.mk [115,111,117,114,99,101]))) (Oq Va (KS ?_))
  refine pF H hx0 fun h58 H=>?_
  refine KcF h58 ?_
  have g59:=ne_of_beq_false h58
  refine KS ?_
  refine Oq (Ql5 (l:=(p.l.getD p.at_.toNat default).Text) (m:=(Str.mk [115,105,110,107]))) (Oq Va (KS ?_))
  refine pF H hx0 fun h60 H=>?_
  refine KcF h60 ?_
  have g61:=ne_of_beq_false h60
  refine KS ?_
  refine Oq (Ql5 (l:=(p.l.getD p.at_.toNat default).Text) (m:=(Str.mk [115,97,110,105,116,105,122,101]))) (Oq Va (KS ?_))
  refine pF H hx0 fun h62 H=>?_
  refine KcF h62 ?_
  have g63:=ne_of_beq_false h62
  refine KS ?_
  refine Oq (Ql5 (l:=(p.l.getD p.at_.toNat default).Text) (m:=(Str.mk [103,111,116,111]))) (Oq Va (KS ?_))
  refine pF H hx0 fun h64 H=>?_
  refine KcF h64 ?_
  have g65:=ne_of_beq_false h64
  refine KS ?_
  refine Oq (Ql5 (l:=(p.l.getD p.at_.toNat default).Text) (m:=(Str.mk [98,114,97,110,99,104]))) (Oq Va (KS ?_))
  refine pF H hx0 fun h66 H=>?_
  refine KcF h66 ?_
  have g67:=ne_of_beq_false h66
  refine KS ?_
  refine Oq (Ql5 (l:=(p.l.getD p.at_.toNat default).Text) (m:=(Str.mk [114,101,116,117,114,110]))) (Oq Va (KS ?_))
  refine KcH H ?_ ?_
  ·intro h68 H
   have g69:=eq_of_beq h68
   refine KS ?_
   refine Oq (Vfa Qdv 3) (Ost (QiP [3] sh3 [vi 9,.string (bs (Str.mk [])),.slice none 0 0,.slice none 0 0]) (KS ?_))
   refine Oq Vm ?_
   refine lbH H hx0 fun rv70 hg71 H=>?_
   have hc72:=Qng pP (Qag.mk p.l (p.at_ + 1) p.Err) pa0 pk0 pre pre rv70 hg71
   refine Oc [1,4] Qni hc72 ?_
   rintro - ⟨he73,he74⟩
   unfold Qaa at he73 he74
   refine KS ?_
   refine Oq (Qau Qd1 1) (Ost (Scl [4] Qd1 [vi 9,.string (bs (Str.mk [])),.slice none 0 0,.slice none 0 0]) (KS ?_))
   refine Jl [] (Ent.slNil (α:=Str)) ?_
   have hq:=rI H; subst hq
   exact Kr (.slice none 0 0,.slice none 0 0) rfl (.cellN 1 rfl Qd1 rfl (Qal _ _) rfl .nil) [0,0,2] en
  intro h68 H
  have g75:=ne_of_beq_false h68
  refine KS ?_
  refine Oq Vm ?_
  refine lbH H hx0 fun rv76 hg77 H=>?_
  have hc78:=Qom pP (Qag.mk p.l (p.at_ + 1) p.Err) pa0 pk0 pre pre rv76 hg77
  refine Oc [0,4] QoY hc78 ?_
  rintro - ⟨he79,he80,he81⟩
  unfold Qaa at he80 he81
  refine Oq (Vfa Qdv 3) (Ost (QiP [3] sh3 [vi 1,.string (bs (Str.mk [])),.slice none 0 0,.slice none 0 0]) (Oq (Vfa Qhm 0) (Ost (QiP [0] sh9 [vi 1,.string (bs rv76.1),.slice none 0 0,.slice none 0 0]) (KS ?_))))
  refine Oq Vm ?_
  refine lbH H hx0 fun rv82 hg83 H=>?_
  have hc84:=QtZ pP (Qag.mk p.l rv76.2.at_ rv76.2.Err) pa0 pk0 2 pre pre pre rv82 hg83
  refine Oc [1,4] Qtr hc84 ?_
  rintro - -
  refine Oq Qcy (KS ?_)
  refine pF H hx0 fun h85 H=>?_
  refine KcF h85 ?_
  have h87:=not_false h85
  refine KS ?_
  refine Oq Vm (Oq (Vn 0) (Oq (Vfa Qcg 0) (Oq (Qah sh3 0) ?_)))
  refine pC H hx0 fun hc89 H=>?_
  refine Oq QaS (Oq (Vn 0) (Oq (Vfa Qcg 0) (Ost (QiP [0] sh3 [vl pa0 pk0 p.l,vi (rv76.2.at_ + 1),vi rv76.2.Err]) (KS ?_))))
  refine Oq Vm ?_
  refine lbH H hx0 fun rv91 hg92 H=>?_
  have hc93:=Qu8 pP (Qag.mk p.l (rv76.2.at_ + 1) rv76.2.Err) pa0 pk0 pre pre rv91 hg92
  refine Oc [0,4] QvB hc93 ?_
  rintro c90 ⟨he94,he95⟩
  unfold Qaa at he94 he95
  refine Jo 0 ?_; rintro a96 k97 rfl
  refine Fb 16 0 fun _=>?_
  refine FoS 0 fun ho99=>?_
  refine Oq (Vfa Qfu 2) (Ost (QiP [2] Qi0 [vi 1,.string (bs rv76.1),vl a96 k97 rv91.1,.slice none 0 0]) (KS ?_))
  refine Oq Vm ?_
  refine lbH H hx0 fun rv100 hg101 H=>?_
  have hc102:=Qng pP (Qag.mk p.l rv91.2.at_ rv91.2.Err) pa0 pk0 pre pre rv100 hg101
  refine Oc [2,5] Qni hc102 ?_
  rintro - ⟨he103,he104⟩
  unfold Qaa at he103 he104
  refine KS ?_
  refine Oq (Qau Qd1 1) (Ost (Scl [5] Qd1 [vi 1,.string (bs rv76.1),vl a96 k97 rv91.1,.slice none 0 0]) (KS ?_))
  refine Jl [] (Ent.slNil (α:=Str)) ?_
  have hq:=rI H; subst hq
  exact Kr (vl a96 k97 rv91.1,.slice none 0 0) rfl (.cellN 1 rfl Qd1 rfl (Qal _ _) rfl .nil) [4,0,2] en
 intro h7 H
 have h106:=not_false h7
 refine KS ?_
 refine Oq Vm (KS ?_)
 refine Oq (Ql5 (l:=(Str.mk [])) (m:=(Str.mk [117,115,101]))) (Oq Va (KS ?_))
 refine KcH H ?_ ?_
 ·intro h108 H
  have g109:=eq_of_beq h108
  refine KS ?_
  refine Oq Vm ?_
  refine lbH H hx0 fun rv110 hg111 H=>?_
  have hc112:=Qom pP p pa0 pk0 pre pre rv110 hg111
  refine Oc [0,2] QoY hc112 ?_
  rintro - ⟨he113,he114,he115⟩
  unfold Qaa at he114 he115
  refine Oa (AsV Qcb QhZ [.string (bs rv110.1)] [.string (bs rv110.1)]) fun c116=>?_
  refine Jo 0 ?_; rintro a117 k118 rfl
  refine Oq (Vfa Qdv 2) (Ost (QiP [2] sh3 [vi 2,.string (bs (Str.mk [])),.slice none 0 0,.slice none 0 0]) (Oq (Vfa Qfu 0) (Ost (QiP [0] Qi0 [vi 2,.string (bs (Str.mk [])),.slice a117 1 k118,.slice none 0 0]) (KS ?_))))
  refine Jp 0 fun hp119=>?_
  refine Qam [0,1,0,4,15,31,63] Qco ?_
  refine Dv [0] (Vfa Qfu 0) (Dv [1] (Qah Qi0 0) (Dv [] Vm ?_))
  refine lbH H hx0 fun rv121 hg122 H=>?_
  refine Dx [3,5] [3] [3,0,1,2] (fun G=>(G.g 3 0)) [fun G=>SP.fact (Qaa rv121.2.at_ /\ Qaa rv121.2.Err),fun G=>sl (G.g 3 0) rv121.1,fun G=>Cl pP [vl pa0 pk0 p.l,vi rv121.2.at_,vi rv121.2.Err]] (fun G=>xC [0,0] Qve (Qvi pP (Qag.mk p.l rv110.2.at_ rv110.2.Err) pa0 pk0 1 pre pre pre rv121 hg122)) ?_
  refine pC H hx0 fun hc123 H=>?_
  have hn125:([rv110.1] ++ rv121.1:List Str).length = 1 + rv121.1.length:=la ([rv110.1]:List Str) rv121.1
  refine Dx [2,6,7] [2] [1,2,0] (fun G=>(G.g 4 0)) [fun G=>os (G.g 4 0) (([rv110.1] ++ rv121.1):List Str)] (fun G=>by refine xf 1 rfl ?_; rintro ⟨he126,he127⟩; unfold Qaa at he126 he127; exact xp [0] rfl (Ent.cr1 (α:=Str) (A:=[]) _ rv110.1 _ aB1 (fun _=>⟨rfl,aS1⟩)) (xA (Ap [0,1] Qcb Qcb QhZ))) (Dv [0] (Vfa Qfu 0) (Dx0 [1,9] [1] [1,0] [fun G=>Cl p3 [vi 2,.string (bs (Str.mk [])),(G.g 4 0),.slice none 0 0]] (fun G=>x1 1 rfl Qc0 fun ho128=>(xS (OpS.frame [0] rfl (OpS.storeClF [(G.g 4 0)] [vi 2,.string (bs (Str.mk [])),(G.g 4 0),.slice none 0 0] rfl rfl rfl Qi0 (QaX ho128) rfl (by simp only [List.all_cons,List.all_nil,ho128,Bool.and_true,Bool.true_and] <;> rfl) aB1 rfl)))) ?_))
  refine Dn ⟨by kernel_rfl,fun G=>?_⟩
  refine Jw2 [(0,pP),(2,p2),(3,p3)] [0,4,5] [SP.fact (Qaa rv121.2.at_ /\ Qaa rv121.2.Err),sl (G.g 3 0) rv121.1,Cl pP [vl pa0 pk0 p.l,vi rv121.2.at_,vi rv121.2.Err],os (G.g 4 0) (([rv110.1] ++ rv121.1):List Str),Cl p3 [vi 2,.string (bs (Str.mk [])),(G.g 4 0),.slice none 0 0]] ?_
  generalize G.g 3 0 = c120,G.g 4 0 = c124
  refine Jf 3 rfl ?_; rintro ⟨he129,he130⟩
  unfold Qaa at he129 he130
  refine Jk [1,1,3,4,4,4] ?_
  refine Jo 2 ?_; rintro a131 k132 rfl
  refine Fb 16 2 fun _=>?_
  refine FoS 2 fun ho134=>?_
  refine Jo 4 ?_; rintro a135 k136 rfl
  refine Fb 16 4 fun _=>?_
  refine FoS 4 fun ho138=>?_
  refine KS ?_
  refine Oq Vm ?_
  refine lbH H hx0 fun rv139 hg140 H=>?_
  have hc141:=Qng pP (Qag.mk p.l rv121.2.at_ rv121.2.Err) pa0 pk0 pre pre rv139 hg140
  refine Oc [3,1] Qni hc141 ?_
  rintro - ⟨he142,he143⟩
  unfold Qaa at he142 he143
  refine KS ?_
  refine Oq (Qau Qd1 5) (Ost (Scl [1] Qd1 [vi 2,.string (bs (Str.mk [])),vl a135 k136 ([rv110.1] ++ rv121.1),.slice none 0 0]) (KS ?_))
  refine Jl [4] (Ent.freeze _ _) ?_
  refine Jl [] (Ent.slNil (α:=Str)) ?_
  have hq:=rI H; subst hq
  exact Kr (vl a135 k136 ([rv110.1] ++ rv121.1),.slice none 0 0) rfl (.cellN 2 rfl Qd1 rfl (Qal _ _) rfl .nil) [1,0,3] en
 intro h108 H
 have g144:=ne_of_beq_false h108
 refine KS ?_
 refine Oq (Ql5 (l:=(Str.mk [])) (m:=(Str.mk [99,97,108,108]))) (Oq Va (KS ?_))
 refine pF H hx0 fun h145 H=>?_
 refine KcF h145 ?_
 have g146:=ne_of_beq_false h145
 refine KS ?_
 refine Oq (Ql5 (l:=(Str.mk [])) (m:=(Str.mk [115,111,117,114,99,101]))) (Oq Va (KS ?_))
 refine pF H hx0 fun h147 H=>?_
 refine KcF h147 ?_
 have g148:=ne_of_beq_false h147
 refine KS ?_
 refine Oq (Ql5 (l:=(Str.mk [])) (m:=(Str.mk [115,105,110,107]))) (Oq Va (KS ?_))
 refine pF H hx0 fun h149 H=>?_
 refine KcF h149 ?_
 have g150:=ne_of_beq_false h149
 refine KS ?_
 refine Oq (Ql5 (l:=(Str.mk [])) (m:=(Str.mk [115,97,110,105,116,105,122,101]))) (Oq Va (KS ?_))
 refine pF H hx0 fun h151 H=>?_
 refine KcF h151 ?_
 have g152:=ne_of_beq_false h151
 refine KS ?_
 refine Oq (Ql5 (l:=(Str.mk [])) (m:=(Str.mk [103,111,116,111]))) (Oq Va (KS ?_))
 refine pF H hx0 fun h153 H=>?_
 refine KcF h153 ?_
 have g154:=ne_of_beq_false h153
 refine KS ?_
 refine Oq (Ql5 (l:=(Str.mk [])) (m:=(Str.mk [98,114,97,110,99,104]))) (Oq Va (KS ?_))
 refine pF H hx0 fun h155 H=>?_
 refine KcF h155 ?_
 have g156:=ne_of_beq_false h155
 refine KS ?_
 refine Oq (Ql5 (l:=(Str.mk [])) (m:=(Str.mk [114,101,116,117,114,110]))) (Oq Va (KS ?_))
 refine KcH H ?_ ?_
 ·intro h157 H
  have g158:=eq_of_beq h157
  refine KS ?_
  refine Oq (Vfa Qdv 1) (Ost (QiP [1] sh3 [vi 9,.string (bs (Str.mk [])),.slice none 0 0,.slice none 0 0]) (KS ?_))
  refine Oq Vm ?_
  refine lbH H hx0 fun rv159 hg160 H=>?_
  have hc161:=Qng pP p pa0 pk0 pre pre rv159 hg160
  refine Oc [1,2] Qni hc161 ?_
  rintro - ⟨he162,he163⟩
  unfold Qaa at he162 he163
  refine KS ?_
  refine Oq (Qau Qd1 1) (Ost (Scl [2] Qd1 [vi 9,.string (bs (Str.mk [])),.slice none 0 0,.slice none 0 0]) (KS ?_))
  refine Jl [] (Ent.slNil (α:=Str)) ?_
  have hq:=rI H; subst hq
  exact Kr (.slice none 0 0,.slice none 0 0) rfl (.cellN 1 rfl Qd1 rfl (Qal _ _) rfl .nil) [0,0,2] en
 intro h157 H
 have g164:=ne_of_beq_false h157
 refine KS ?_
 refine Oq Vm ?_
 refine lbH H hx0 fun rv165 hg166 H=>?_
 have hc167:=Qom pP p pa0 pk0 pre pre rv165 hg166
 refine Oc [0,2] QoY hc167 ?_
 rintro - ⟨he168,he169,he170⟩
 unfold Qaa at he169 he170
 refine Oq (Vfa Qdv 1) (Ost (QiP [1] sh3 [vi 1,.string (bs (Str.mk [])),.slice none 0 0,.slice none 0 0]) (Oq (Vfa Qhm 0) (Ost (QiP [0] sh9 [vi 1,.string (bs rv165.1),.slice none 0 0,.slice none 0 0]) (KS ?_))))
 refine Oq Vm ?_
 refine lbH H hx0 fun rv171 hg172 H=>?_
 have hc173:=QtZ pP (Qag.mk p.l rv165.2.at_ rv165.2.Err) pa0 pk0 2 pre pre pre rv171 hg172
 refine Oc [1,2] Qtr hc173 ?_
 rintro - -
 refine Oq Qcy (KS ?_)
 refine pF H hx0 fun h174 H=>?_
 refine KcF h174 ?_
 have h176:=not_false h174
 refine KS ?_
 refine Oq Vm (Oq (Vn 0) (Oq (Vfa Qcg 0) (Oq (Qah sh3 0) ?_)))
 refine pC H hx0 fun hc178 H=>?_
 refine Oq QaS (Oq (Vn 0) (Oq (Vfa Qcg 0) (Ost (QiP [0] sh3 [vl pa0 pk0 p.l,vi (rv165.2.at_ + 1),vi rv165.2.Err]) (KS ?_))))
 refine Oq Vm ?_
 refine lbH H hx0 fun rv180 hg181 H=>?_
 have hc182:=Qu8 pP (Qag.mk p.l (rv165.2.at_ + 1) rv165.2.Err) pa0 pk0 pre pre rv180 hg181
 refine Oc [0,2] QvB hc182 ?_
 rintro c179 ⟨he183,he184⟩
 unfold Qaa at he183 he184
 refine Jo 0 ?_; rintro a185 k186 rfl
 refine Fb 16 0 fun _=>?_
 refine FoS 0 fun ho188=>?_
 refine Oq (Vfa Qfu 2) (Ost (QiP [2] Qi0 [vi 1,.string (bs rv165.1),vl a185 k186 rv180.1,.slice none 0 0]) (KS ?_))
 refine Oq Vm ?_
 refine lbH H hx0 fun rv189 hg190 H=>?_
 have hc191:=Qng pP (Qag.mk p.l rv180.2.at_ rv180.2.Err) pa0 pk0 pre pre rv189 hg190
 refine Oc [2,3] Qni hc191 ?_
 rintro - ⟨he192,he193⟩
 unfold Qaa at he192 he193
 refine KS ?_
 refine Oq (Qau Qd1 1) (Ost (Scl [3] Qd1 [vi 1,.string (bs rv165.1),vl a185 k186 rv180.1,.slice none 0 0]) (KS ?_))
 refine Jl [] (Ent.slNil (α:=Str)) ?_
 have hq:=rI H; subst hq
 exact Kr (vl a185 k186 rv180.1,.slice none 0 0) rfl (.cellN 1 rfl Qd1 rfl (Qal _ _) rfl .nil) [4,0,2] en
theorem QyO (pP:Value) (p:Qag) (pa0:Option Addr) (pk0:Nat) (QlN:Qaa p.at_) (QlO:Qaa p.Err) (rr:Qeq × Qag) (hrr:Qnm p = .ret rr):FT Tryz.prog 124 #[pP] [Cl pP [vl pa0 pk0 p.l,vi p.at_,vi p.Err],S pa0 pk0 p.l] (fun g:Value=>rr.1.Name.b.length <= 140737488355328 /\ Qaa rr.2.at_ /\ Qaa rr.2.Err) (fun g=>.agg #[.string (bs rr.1.Name),g]) (fun g=>[sl g rr.1.Stmts,Cl pP [vl pa0 pk0 p.l,vi rr.2.at_,vi rr.2.Err]]):=by
 refine FTi Tryz.func124 fun w0 M0 F0=>?_
 unfold Qaa at QlN QlO
 refine Fb 40 1 fun _=>?_
 have hx0:=lrn rr; have H:=hrr; unfold Qnm at H
 refine KS ?_
 refine Oa (Al QtC [.string (bs (Str.mk [])),.slice none 0 0]) fun p2=>KS ?_
 refine Oa (Al QtC [.string (bs (Str.mk [])),.slice none 0 0]) fun p3=>KS ?_
 refine Oq Vm ?_
 refine lbH H hx0 fun rv4 hg5 H=>?_
 have hc6:=QtH pP p pa0 pk0 ((Str.mk [98,108,111,99,107])) pre pre pre rv4 hg5
 refine Oc [2,2] Qtn hc6 ?_
 rintro - ⟨he7,he8⟩
 unfold Qaa at he7 he8
 refine KS ?_
 refine Oq Vm ?_
 refine lbH H hx0 fun rv9 hg10 H=>?_
 have hc11:=Qom pP (Qag.mk p.l rv4.at_ rv4.Err) pa0 pk0 pre pre rv9 hg10
 refine Oc [0,2] QoY hc11 ?_
 rintro - ⟨he12,he13,he14⟩
 unfold Qaa at he13 he14
 refine Oq (Vfa QoE 1) (Ost (QiP [1] sh9 [.string (bs rv9.1),.slice none 0 0]) (KS ?_))
 refine Oq Vm ?_
 refine lbH H hx0 fun rv15 hg16 H=>?_
 have hc17:=Qng pP (Qag.mk p.l rv9.2.at_ rv9.2.Err) pa0 pk0 pre pre rv15 hg16
 refine Oc [1,2] Qni hc17 ?_
 rintro - ⟨he18,he19⟩
 unfold Qaa at he18 he19
 refine KS ?_
 refine Oq Vm ?_
 refine lbH H hx0 fun rv20 hg21 H=>?_
 have hc22:=Qu6 pP (Qag.mk p.l rv15.at_ rv15.Err) pa0 pk0 pre pre rv20 hg21
 refine Oc [0,2] QvY hc22 ?_
 rintro - -
 refine Oq Qcy (KS ?_)
 refine pF H hx0 fun h23 H=>?_
 refine KcF h23 ?_
 have h25:=not_false h23
 refine KS ?_
 refine Jl [] (Ent.osNil (α:=Qc7)) ?_
 refine llH H hx0 fun X36 hX37 hx38 HL39=>?_
 refine Kl (γ:=Nat × Int × Int × List Qc7 × Option Addr × Nat) (fun (r27,QiJ,QiK,Qme,a31,k32)=>⟨[(0,pP),(2,p2),(3,p3)],[O a31 k32 Qme,Cl pP [vl pa0 pk0 p.l,vi QiJ,vi QiK],Cl p3 [.string (bs rv9.1),vl a31 k32 Qme],Cl p2 [.string (bs (Str.mk [])),.slice none 0 0],S pa0 pk0 p.l],QhH p r27 QiJ QiK Qme = X36 /\ (-9223372036854775808 <= QiJ /\ QiJ <= 9223372036854775807) /\ (-9223372036854775808 <= QiK /\ QiK <= 9223372036854775807),r27⟩) (100000,rv15.at_,rv15.Err,[],none,0) [0,0,0,0,0] ⟨hX37,aM1,aM1⟩ ?_
 rintro ⟨r27,QiJ,QiK,Qme,a31,k32⟩ ⟨hM33,hk34,hk35⟩
 refine QaA fun _ _ hL hA=>?_; dsimp only at hL hA; subst hL hA
 refine Fb 72 0 fun _=>Fb 40 4 fun _=>?_
 rcases r27 with _ | r27
 ·exact absurd (hM33.symm.trans rfl) hx38
 have H:=hM33; (try dsimp only at H); rw [QhH] at H
 refine KS ?_
 refine Oq Vm ?_
 refine lbH H hx38 fun rv42 hg43 H=>?_
 have hc44:=Qu6 pP (Qag.mk p.l QiJ QiK) pa0 pk0 pre pre rv42 hg43
 refine Oc [1,3] QvY hc44 ?_
 rintro - -
 refine KS ?_
 refine KcH H ?_ ?_
 ·intro h45 H
  refine KS ?_
  refine Oq (Vfa QeN 2) (Oq (Qah Qkj 2) (Oq (Qba Qgu) (Oq QbW (KS ?_))))
  refine pF H hx38 fun h47 H=>?_
  refine KcF h47 ?_
  have g48:=ne_of_beq_false h47
  refine KS ?_
  refine Jp 2 fun hp49=>?_
  refine Qam [0,1,0,4,12,31,63,127] Qco ?_
  refine Dv [0] (Vfa QeN 0) (Dv [3] (Qah Qkj 0) (Dv [] Vm ?_))
  refine lbH H hx38 fun rv52 hg53 H=>?_
  refine Dx [1,5] [1] [4,0,1,2,3] (fun G=>.agg #[vi rv52.1.Op,.string (bs rv52.1.Def),(G.g 3 0),(G.g 3 1)]) [fun G=>SP.fact (Qaa rv52.1.Op /\ rv52.1.Def.b.length <= 140737488355328 /\ Qaa rv52.2.at_ /\ Qaa rv52.2.Err),fun G=>sl (G.g 3 0) rv52.1.Uses,fun G=>sl (G.g 3 1) rv52.1.Targets,fun G=>Cl pP [vl pa0 pk0 p.l,vi rv52.2.at_,vi rv52.2.Err]] (fun G=>xC [0,0] Qw1 (Qyo pP (Qag.mk p.l QiJ QiK) pa0 pk0 pre pre rv52 hg53)) (Dx [] [] [0] (fun G=>(G.g 4 0)) [fun G=>Cr (G.g 4 0) 1 [vi rv52.1.Op,.string (bs rv52.1.Def),(G.g 3 0),(G.g 3 1)]] (fun G=>xA (AsV Qgu QvU [.agg #[vi rv52.1.Op,.string (bs rv52.1.Def),(G.g 3 0),(G.g 3 1)]] [vi rv52.1.Op,.string (bs rv52.1.Def),(G.g 3 0),(G.g 3 1)])) ?_)
  refine pC H hx38 fun hc55 H=>?_
  have hn57:=la Qme ([rv52.1]:List Qc7)
  refine Dx [2,6,7,8,10] [2,10] [3,1,2,0] (fun G=>(G.g 5 0)) [fun G=>os (G.g 5 0) ((Qme ++ [rv52.1]):List Qc7)] (fun G=>by refine xf 1 rfl ?_; rintro ⟨he58,he59,he60,he61⟩; unfold Qaa at he58 he60 he61; exact xp [4,2,3] rfl (Ent.cr1 (α:=Qc7) (A:=[sl (G.g 3 0) rv52.1.Uses,sl (G.g 3 1) rv52.1.Targets]) _ rv52.1 _ aB1 (fun h=>⟨_,_,rfl,aL1,aS1,Qaj (i:=0) rfl h,Qaj (i:=1) rfl h⟩)) (xA (ApO [3,0] Qgu Qgu QvU))) (Dv [0] (Vfa QeN 0) (Dx0 [3,11] [3] [1,0] [fun G=>Cl p3 [.string (bs rv9.1),(G.g 5 0)]] (fun G=>x1 1 rfl Qc0 fun ho62=>(xS (OpS.frame [0] rfl (OpS.storeClF [(G.g 5 0)] [.string (bs rv9.1),(G.g 5 0)] rfl rfl rfl Qkj (QaX ho62) rfl (by simp only [List.all_cons,List.all_nil,ho62,Bool.and_true,Bool.true_and] <;> rfl) aB1 rfl)))) ?_))
  refine Dn ⟨by kernel_rfl,fun G=>?_⟩
  refine Jw2 [(0,pP),(2,p2),(3,p3)] [0,4,5] [SP.fact (Qaa rv52.1.Op /\ rv52.1.Def.b.length <= 140737488355328 /\ Qaa rv52.2.at_ /\ Qaa rv52.2.Err),sl (G.g 3 0) rv52.1.Uses,sl (G.g 3 1) rv52.1.Targets,Cl pP [vl pa0 pk0 p.l,vi rv52.2.at_,vi rv52.2.Err],os (G.g 5 0) ((Qme ++ [rv52.1]):List Qc7),Cl p3 [.string (bs rv9.1),(G.g 5 0)]] ?_
  generalize G.g 3 0 = c50,G.g 3 1 = c51,G.g 5 0 = c56
  refine Jf 3 rfl ?_; rintro ⟨he63,he64,he65,he66⟩
  unfold Qaa at he63 he65 he66
  refine Jk [1,1,3,4,5,5,5] ?_
  refine Jo 2 ?_; rintro a67 k68 rfl
  refine Fb 16 2 fun _=>?_
  refine FoS 2 fun ho70=>?_
  refine Jo 3 ?_; rintro a71 k72 rfl
  refine Fb 16 3 fun _=>?_
  refine FoS 3 fun ho74=>?_
  refine Jo 5 ?_; rintro a75 k76 rfl
  refine Fb 72 5 fun _=>KS ?_
  exact Kg (r27,rv52.2.at_,rv52.2.Err,(Qme ++ [rv52.1]),a75,k76) [5,4,4,0,0] ⟨H,aM1,aM1⟩
 intro h45 H
 refine Ke ?_
 have H:=llB H HL39
 dsimp only at H
 refine KS ?_
 refine Oq (Qau Qrp 2) (Ost (Scl [3] Qrp [.string (bs rv9.1),vl a31 k32 Qme]) (KS ?_))
 refine Jl [2] (Ent.freeze _ _) ?_
 have hq:=rI H; subst hq
 exact Kr (vl a31 k32 Qme) rfl (.cellN 1 rfl Qrp rfl (Qal _ _) rfl .nil) [0,2] en
theorem QzV (pP:Value) (p:Qag) (pa0:Option Addr) (pk0:Nat) (QlN:Qaa p.at_) (QlO:Qaa p.Err) (rr:QfU × Qag) (hrr:Qi7 p = .ret rr):FT Tryz.prog 87 #[pP] [Cl pP [vl pa0 pk0 p.l,vi p.at_,vi p.Err],S pa0 pk0 p.l] (fun g:Value=>rr.1.Name.b.length <= 140737488355328 /\ Qaa rr.2.at_ /\ Qaa rr.2.Err) (fun g=>.agg #[.string (bs rr.1.Name),g]) (fun g=>[sl g rr.1.Blocks,Cl pP [vl pa0 pk0 p.l,vi rr.2.at_,vi rr.2.Err]]):=by
 refine FTi Tryz.func87 fun w0 M0 F0=>?_
 unfold Qaa at QlN QlO
 refine Fb 40 1 fun _=>?_
 have hx0:=lrn rr; have H:=hrr; unfold Qi7 at H
 refine KS ?_
 refine Oa (Al QrZ [.string (bs (Str.mk [])),.slice none 0 0]) fun p2=>KS ?_
 refine Oa (Al QrZ [.string (bs (Str.mk [])),.slice none 0 0]) fun p3=>KS ?_
 refine Oq Vm ?_
 refine lbH H hx0 fun rv4 hg5 H=>?_
 have hc6:=QtH pP p pa0 pk0 ((Str.mk [102,117,110,99])) pre pre pre rv4 hg5
 refine Oc [2,2] Qtn hc6 ?_
 rintro - ⟨he7,he8⟩
 unfold Qaa at he7 he8
 refine KS ?_
 refine Oq Vm ?_
 refine lbH H hx0 fun rv9 hg10 H=>?_
 have hc11:=Qom pP (Qag.mk p.l rv4.at_ rv4.Err) pa0 pk0 pre pre rv9 hg10
 refine Oc [0,2] QoY hc11 ?_
 rintro - ⟨he12,he13,he14⟩
 unfold Qaa at he13 he14
 refine Oq (Vfa Qo2 1) (Ost (QiP [1] sh9 [.string (bs rv9.1),.slice none 0 0]) (KS ?_))
 refine Oq Vm ?_
 refine lbH H hx0 fun rv15 hg16 H=>?_
 have hc17:=Qng pP (Qag.mk p.l rv9.2.at_ rv9.2.Err) pa0 pk0 pre pre rv15 hg16
 refine Oc [1,2] Qni hc17 ?_
 rintro - ⟨he18,he19⟩
 unfold Qaa at he18 he19
 refine KS ?_
 refine Oq Vm ?_
 refine lbH H hx0 fun rv20 hg21 H=>?_
 have hc22:=QuL pP (Qag.mk p.l rv15.at_ rv15.Err) pa0 pk0 ((Str.mk [98,108,111,99,107])) pre pre pre rv20 hg21
 refine Oc [0,2] QuN hc22 ?_
 rintro - -
 refine Oq Qcy (KS ?_)
 refine pF H hx0 fun h23 H=>?_
 refine KcF h23 ?_
 have h25:=not_false h23
 refine KS ?_
 refine Jl [] (Ent.osNil (α:=Qeq)) ?_
 refine llH H hx0 fun X36 hX37 hx38 HL39=>?_
 refine Kl (γ:=Nat × Int × Int × List Qeq × Option Addr × Nat) (fun (r27,QiJ,QiK,Qmf,a31,k32)=>⟨[(0,pP),(2,p2),(3,p3)],[O a31 k32 Qmf,Cl pP [vl pa0 pk0 p.l,vi QiJ,vi QiK],Cl p3 [.string (bs rv9.1),vl a31 k32 Qmf],Cl p2 [.string (bs (Str.mk [])),.slice none 0 0],S pa0 pk0 p.l],Qe4 p r27 QiJ QiK Qmf = X36 /\ (-9223372036854775808 <= QiJ /\ QiJ <= 9223372036854775807) /\ (-9223372036854775808 <= QiK /\ QiK <= 9223372036854775807),r27⟩) (100000,rv15.at_,rv15.Err,[],none,0) [0,0,0,0,0] ⟨hX37,aM1,aM1⟩ ?_
 rintro ⟨r27,QiJ,QiK,Qmf,a31,k32⟩ ⟨hM33,hk34,hk35⟩
 refine QaA fun _ _ hL hA=>?_; dsimp only at hL hA; subst hL hA
 refine Fb 40 0 fun _=>Fb 40 4 fun _=>?_
 rcases r27 with _ | r27
 ·exact absurd (hM33.symm.trans rfl) hx38
 have H:=hM33; (try dsimp only at H); rw [Qe4] at H
 refine KS ?_
 refine Oq Vm ?_
 refine lbH H hx38 fun rv42 hg43 H=>?_
 have hc44:=QuL pP (Qag.mk p.l QiJ QiK) pa0 pk0 ((Str.mk [98,108,111,99,107])) pre pre pre rv42 hg43
 refine Oc [1,3] QuN hc44 ?_
 rintro - -
 refine KS ?_
 refine KcH H ?_ ?_
 ·intro h45 H
  refine KS ?_
  refine Oq (Vfa Qdd 2) (Oq (Qah QhC 2) (Oq (Qba Qg1) (Oq QbW (KS ?_))))
  refine pF H hx38 fun h47 H=>?_
  refine KcF h47 ?_
  have g48:=ne_of_beq_false h47
  refine KS ?_
  refine Jp 2 fun hp49=>?_
  refine Qam [0,1,0,4,12,31,63,127] Qco ?_
  refine Dv [0] (Vfa Qdd 0) (Dv [3] (Qah QhC 0) (Dv [] Vm ?_))
  refine lbH H hx38 fun rv51 hg52 H=>?_
  refine Dx [1,5] [1] [3,0,1,2] (fun G=>.agg #[.string (bs rv51.1.Name),(G.g 3 0)]) [fun G=>SP.fact (rv51.1.Name.b.length <= 140737488355328 /\ Qaa rv51.2.at_ /\ Qaa rv51.2.Err),fun G=>sl (G.g 3 0) rv51.1.Stmts,fun G=>Cl pP [vl pa0 pk0 p.l,vi rv51.2.at_,vi rv51.2.Err]] (fun G=>xC [0,0] Qyb (QyO pP (Qag.mk p.l QiJ QiK) pa0 pk0 pre pre rv51 hg52)) (Dx [] [] [0] (fun G=>(G.g 4 0)) [fun G=>Cr (G.g 4 0) 1 [.string (bs rv51.1.Name),(G.g 3 0)]] (fun G=>xA (AsV Qg1 QvS [.agg #[.string (bs rv51.1.Name),(G.g 3 0)]] [.string (bs rv51.1.Name),(G.g 3 0)])) ?_)
  refine pC H hx38 fun hc54 H=>?_
  have hn56:=la Qmf ([rv51.1]:List Qeq)
  refine Dx [2,6,7,9] [2,9] [2,1,0] (fun G=>(G.g 5 0)) [fun G=>os (G.g 5 0) ((Qmf ++ [rv51.1]):List Qeq)] (fun G=>by refine xf 1 rfl ?_; rintro ⟨he57,he58,he59⟩; unfold Qaa at he58 he59; exact xp [3,2] rfl (Ent.cr1 (α:=Qeq) (A:=[sl (G.g 3 0) rv51.1.Stmts]) _ rv51.1 _ aB1 (fun h=>⟨_,rfl,aS1,Qaj (i:=0) rfl h⟩)) (xA (ApO [2,0] Qg1 Qg1 QvS))) (Dv [0] (Vfa Qdd 0) (Dx0 [3,10] [3] [1,0] [fun G=>Cl p3 [.string (bs rv9.1),(G.g 5 0)]] (fun G=>x1 1 rfl Qc0 fun ho60=>(xS (OpS.frame [0] rfl (OpS.storeClF [(G.g 5 0)] [.string (bs rv9.1),(G.g 5 0)] rfl rfl rfl QhC (QaX ho60) rfl (by simp only [List.all_cons,List.all_nil,ho60,Bool.and_true,Bool.true_and] <;> rfl) aB1 rfl)))) ?_))
  refine Dn ⟨by kernel_rfl,fun G=>?_⟩
  refine Jw2 [(0,pP),(2,p2),(3,p3)] [0,4,5] [SP.fact (rv51.1.Name.b.length <= 140737488355328 /\ Qaa rv51.2.at_ /\ Qaa rv51.2.Err),sl (G.g 3 0) rv51.1.Stmts,Cl pP [vl pa0 pk0 p.l,vi rv51.2.at_,vi rv51.2.Err],os (G.g 5 0) ((Qmf ++ [rv51.1]):List Qeq),Cl p3 [.string (bs rv9.1),(G.g 5 0)]] ?_
  generalize G.g 3 0 = c50,G.g 5 0 = c55
  refine Jf 3 rfl ?_; rintro ⟨he61,he62,he63⟩
  unfold Qaa at he62 he63
  refine Jk [1,1,3,4,4,4] ?_
  refine Jo 2 ?_; rintro a64 k65 rfl
  refine Fb 72 2 fun _=>?_
  refine Jo 4 ?_; rintro a67 k68 rfl
  refine Fb 40 4 fun _=>KS ?_
  exact Kg (r27,rv51.2.at_,rv51.2.Err,(Qmf ++ [rv51.1]),a67,k68) [4,3,3,0,0] ⟨H,aM1,aM1⟩
 intro h45 H
 refine Ke ?_
 have H:=llB H HL39
 dsimp only at H
 refine KS ?_
 refine Oq Vm ?_
 refine lbH H hx0 fun rv71 hg72 H=>?_
 have hc73:=QtH pP (Qag.mk p.l QiJ QiK) pa0 pk0 ((Str.mk [101,110,100])) pre pre pre rv71 hg72
 refine Oc [0,3] Qtn hc73 ?_
 rintro - ⟨he74,he75⟩
 unfold Qaa at he74 he75
 refine KS ?_
 refine Oq Vm ?_
 refine lbH H hx0 fun rv76 hg77 H=>?_
 have hc78:=Qng pP (Qag.mk p.l rv71.at_ rv71.Err) pa0 pk0 pre pre rv76 hg77
 refine Oc [0,3] Qni hc78 ?_
 rintro - ⟨he79,he80⟩
 unfold Qaa at he79 he80
 refine KS ?_
 refine Oq (Qau Ql8 2) (Ost (Scl [3] Ql8 [.string (bs rv9.1),vl a31 k32 Qmf]) (KS ?_))
 refine Jl [2] (Ent.freeze _ _) ?_
 have hq:=rI H; subst hq
 exact Kr (vl a31 k32 Qmf) rfl (.cellN 1 rfl Ql8 rfl (Qal _ _) rfl .nil) [0,2] en
theorem Qz8 (text:Str) (Quy:text.b.length <= 140737488355328) (rr:Qaz × Int × Int × Int) (hrr:QmN text = .ret rr):FT Tryz.prog 50 #[.string (bs text)] [] (fun g:Value=>Qaa rr.2.1 /\ Qaa rr.2.2.1 /\ Qaa rr.2.2.2) (fun g=>.tuple #[.agg #[g],vi rr.2.1,vi rr.2.2.1,vi rr.2.2.2]) (fun g=>[sl g rr.1.Funcs]):=by
 refine FTi Tryz.func50 fun w0 M0 F0=>?_
 have hx0:=lrn rr; have H:=hrr; unfold QmN at H
 refine KS ?_
 refine Oa (Al Qyw [.slice none 0 0]) fun p1=>Oq Va (Oq Va (Oq Va (KS ?_)))
 refine Oq Vm ?_
 refine lbH H hx0 fun rv3 hg4 H=>?_
 have hc5:=QBu text pre rv3 hg4
 refine Oc [] QAk hc5 ?_
 rintro c2 ⟨he6,he7,he8⟩
 unfold Qaa at he6 he7 he8
 refine Jo 0 ?_; rintro a9 k10 rfl
 refine Fb 40 0 fun _=>?_
 refine Oq Vm (Oq Vx (Oq Vx (Oq Vx (Oq Vx (Oq Va (Oq Va (Oq Va (Oq Va (KS ?_)))))))))
 refine Oq Vm (Oq QfZ (KS ?_))
 refine pF H hx0 fun h12 H=>?_
 refine KcF h12 ?_
 have g13:=Qae h12
 refine KS ?_
 refine Oq Vm (Oq (Vbd Qxv [vl a9 k10 rv3.1,vi 0,vi 0]) (Oa (AbO [vl a9 k10 rv3.1,vi 0,vi 0]) fun p14=>Oq Va (KS ?_)))
 refine Oa (Al Qyw [.slice none 0 0]) fun p15=>KS ?_
 refine Oq Vm ?_
 refine lbH H hx0 fun rv16 hg17 H=>?_
 have hc18:=QuL p14 (Qag.mk rv3.1 0 0) a9 k10 ((Str.mk [102,117,110,99])) pre pre pre rv16 hg17
 refine Oc [1,1] QuN hc18 ?_
 rintro - -
 refine Oq Qcy (KS ?_)
 refine pF H hx0 fun h19 H=>?_
 refine KcF h19 ?_
 have h21:=not_false h19
 refine KS ?_
 refine Jl [] (Ent.osNil (α:=QfU)) ?_
 refine llH H hx0 fun X32 hX33 hx34 HL35=>?_
 refine Kl (γ:=Nat × Int × Int × List QfU × Option Addr × Nat) (fun (r23,Qo6,Qo7,QgS,a27,k28)=>⟨[(2,p1),(6,vl a9 k10 rv3.1),(10,p14),(11,p15)],[O a27 k28 QgS,Cl p14 [vl a9 k10 rv3.1,vi Qo6,vi Qo7],Cl p15 [vl a27 k28 QgS],S a9 k10 rv3.1,Cl p1 [.slice none 0 0]],Qhw rv3.1 r23 Qo6 Qo7 QgS = X32 /\ (-9223372036854775808 <= Qo6 /\ Qo6 <= 9223372036854775807) /\ (-9223372036854775808 <= Qo7 /\ Qo7 <= 9223372036854775807),r23⟩) (100000,0,0,[],none,0) [0,0,0,0,1] ⟨hX33,aM1,aM1⟩ ?_
 rintro ⟨r23,Qo6,Qo7,QgS,a27,k28⟩ ⟨hM29,hk30,hk31⟩
 refine QaA fun _ _ hL hA=>?_; dsimp only at hL hA; subst hL hA
 refine Fb 40 0 fun _=>Fb 40 3 fun _=>?_
 rcases r23 with _ | r23
 ·exact absurd (hM29.symm.trans rfl) hx34
 have H:=hM29; (try dsimp only at H); rw [Qhw] at H
 refine KS ?_
 refine Oq Vm ?_
 refine lbH H hx34 fun rv38 hg39 H=>?_
 have hc40:=QuL p14 (Qag.mk rv3.1 Qo6 Qo7) a9 k10 ((Str.mk [102,117,110,99])) pre pre pre rv38 hg39
 refine Oc [1,2] QuN hc40 ?_
 rintro - -
 refine KS ?_
 refine KcH H ?_ ?_
 ·intro h41 H
  refine KS ?_
  refine Oq (Vfa QdZ 2) (Oq (Qah QlX 2) (Oq (Qba Qly) (Oq QbW (KS ?_))))
  refine pF H hx34 fun h43 H=>?_
  refine KcF h43 ?_
  have g44:=ne_of_beq_false h43
  refine KS ?_
  refine Jp 2 fun hp45=>?_
  refine Qam [0,1,0,4,12,31,63,127] Qco ?_
  refine Dv [0] (Vfa QdZ 0) (Dv [3] (Qah QlX 0) (Dv [] Vm ?_))
  refine lbH H hx34 fun rv47 hg48 H=>?_
  refine Dx [1,4] [1] [3,0,1,2] (fun G=>.agg #[.string (bs rv47.1.Name),(G.g 3 0)]) [fun G=>SP.fact (rv47.1.Name.b.length <= 140737488355328 /\ Qaa rv47.2.at_ /\ Qaa rv47.2.Err),fun G=>sl (G.g 3 0) rv47.1.Blocks,fun G=>Cl p14 [vl a9 k10 rv3.1,vi rv47.2.at_,vi rv47.2.Err]] (fun G=>xC [0,0] QA7 (QzV p14 (Qag.mk rv3.1 Qo6 Qo7) a9 k10 pre pre rv47 hg48)) (Dx [] [] [0] (fun G=>(G.g 4 0)) [fun G=>Cr (G.g 4 0) 1 [.string (bs rv47.1.Name),(G.g 3 0)]] (fun G=>xA (AsV Qly QzI [.agg #[.string (bs rv47.1.Name),(G.g 3 0)]] [.string (bs rv47.1.Name),(G.g 3 0)])) ?_)
  refine pC H hx34 fun hc50 H=>?_
  have hn52:=la QgS ([rv47.1]:List QfU)
  refine Dx [2,6,7,9] [2,9] [2,1,0] (fun G=>(G.g 5 0)) [fun G=>os (G.g 5 0) ((QgS ++ [rv47.1]):List QfU)] (fun G=>by refine xf 1 rfl ?_; rintro ⟨he53,he54,he55⟩; unfold Qaa at he54 he55; exact xp [3,2] rfl (Ent.cr1 (α:=QfU) (A:=[sl (G.g 3 0) rv47.1.Blocks]) _ rv47.1 _ aB1 (fun h=>⟨_,rfl,aS1,Qaj (i:=0) rfl h⟩)) (xA (ApO [2,0] Qly Qly QzI))) (Dv [0] (Vfa QdZ 0) (Dx0 [3,10] [3] [1,0] [fun G=>Cl p15 [(G.g 5 0)]] (fun G=>x1 1 rfl Qc0 fun ho56=>(xS (OpS.frame [0] rfl (OpS.storeClF [(G.g 5 0)] [(G.g 5 0)] rfl rfl rfl QlX (QaX ho56) rfl (by simp only [List.all_cons,List.all_nil,ho56,Bool.and_true,Bool.true_and] <;> rfl) aB1 rfl)))) ?_))
  refine Dn ⟨by kernel_rfl,fun G=>?_⟩
  refine Jw2 [(2,p1),(6,vl a9 k10 rv3.1),(10,p14),(11,p15)] [0,4,5] [SP.fact (rv47.1.Name.b.length <= 140737488355328 /\ Qaa rv47.2.at_ /\ Qaa rv47.2.Err),sl (G.g 3 0) rv47.1.Blocks,Cl p14 [vl a9 k10 rv3.1,vi rv47.2.at_,vi rv47.2.Err],os (G.g 5 0) ((QgS ++ [rv47.1]):List QfU),Cl p15 [(G.g 5 0)]] ?_
  generalize G.g 3 0 = c46,G.g 5 0 = c51
  refine Jf 3 rfl ?_; rintro ⟨he57,he58,he59⟩
  unfold Qaa at he58 he59
  refine Jk [1,2,3,4,4,4] ?_
  refine Jo 2 ?_; rintro a60 k61 rfl
  refine Fb 40 2 fun _=>?_
  refine Jo 4 ?_; rintro a63 k64 rfl
  refine Fb 40 4 fun _=>KS ?_
  exact Kg (r23,rv47.2.at_,rv47.2.Err,(QgS ++ [rv47.1]),a63,k64) [4,3,3,0,1] ⟨H,aM1,aM1⟩
 intro h41 H
 refine Ke ?_
 have H:=llB H HL35
 dsimp only at H
 refine KS ?_
 refine Oq Vm (Oq (Vn 0) (Oq (Vfa QjY 0) (Oq (Qah QuO 0) (Oq QbW (Oq Vm ?_)))))
 refine pT H hx0 fun h67 H=>?_
 refine JsT 53 h67 ?_
 have g68:=eq_of_beq h67
 refine Oq Vm (Oq (Vn 0) (Oq (Vfa Qcg 0) (Oq (Qah sh3 0) (Oq Vm (Oq (Qba QeM) (Oq Qbh (Oq Vpt (KS ?_))))))))
 refine pF H hx0 fun h69 H=>?_
 refine KcF h69 ?_
 have g70:=df h69
 refine KS ?_
 refine Oq Vm (Oq (Vn 0) (Oq (Vfa QjY 0) (Oq (Qah QuO 0) (Oq QbW (KS ?_)))))
 refine Kc ?_ ?_
 ·intro h71
  have g72:=eq_of_beq h71
  refine KS ?_
  refine Oq (Qau QjT 2) (Ost (Scl [4] QjT [vl a27 k28 QgS]) (Oq Va (Oq Va (Oq Va (KS ?_)))))
  refine Jl [2] (Ent.freeze _ _) ?_
  have hq:=rI H; subst hq
  exact Kr (vl a27 k28 QgS) rfl (.cellN 1 rfl QjT rfl (Qal _ _) rfl (.tmp rfl (.tmp rfl (.tmp rfl .nil)))) [0] en
 intro h71
 exact absurd h71 (by first | (simp [h67]; done) | (simp only [bne,h67]; decide) | (simp only [bne,h67,Bool.not_true,Bool.not_false]; decide) | (exfalso; omega) | (intro hq; simp only [bne,hq,Bool.not_false,Bool.not_true,reduceCtorEq] at h67))
theorem QqF (l:List Str) (la0:Option Addr) (lk0:Nat) (s:Str) (Qcc:s.b.length <= 140737488355328) (rr:Int) (hrr:Qiw l s = .ret rr):FT Tryz.prog 129 #[vl la0 lk0 l,.string (bs s)] [S la0 lk0 l] (fun g:Unit=>Qaa rr) (fun g=>vi rr) (fun g=>[]):=by
 refine FTi Tryz.func129 fun w0 M0 F0=>Fb 16 0 fun _=>?_
 refine FoS 0 fun ho2=>?_
 have hx0:=lrn rr; have H:=hrr; unfold Qiw at H
 refine KS ?_
 refine Oq Va (KS ?_)
 refine Oq Va (KS ?_)
 refine llH H hx0 fun X10 hX11 hx12 HL13=>?_
 refine Kl (γ:=Nat × Int) (fun (r3,i_4)=>⟨[(0,vl la0 lk0 l),(1,.string (bs s)),(5,vi i_4)],[S la0 lk0 l],QfP l s r3 i_4 = X10 /\ r3 = ((l.length:Int) - i_4).toNat /\ (0:Int) <= i_4 /\ i_4 <= (l.length:Int) /\ (-9223372036854775808 <= i_4 /\ i_4 <= 9223372036854775807),r3⟩) (((l.length:Int) - 0).toNat,0) [0] ⟨hX11,rfl,aM1,aM1,aM1⟩ ?_
 rintro ⟨r3,i_4⟩ ⟨hM5,hr6,hi7,hi8,hk9⟩
 refine QaA fun _ _ hL hA=>?_; dsimp only at hL hA; subst hL hA
 refine Fb 16 0 fun _=>?_
 refine FoS 0 fun ho15=>?_
 refine KS ?_
 refine Oq Vm (Oq Vm (Oq (Qba Qcb) (Oq Qbh (KS ?_))))
 refine Kc ?_ ?_
 ·intro h16
  have g17:=dt h16
  obtain ⟨r18,rfl⟩:=scc (n:=r3) aM1
  have H:=hM5; (try dsimp only at H); rw [QfP] at H
  refine KS ?_
  refine Oq Vm (Oq Vm ?_)
  refine pC H hx12 fun hc19 H=>?_
  refine Oq (Vi Qcb 0) ?_
  have hb20:=okS (i:=i_4.toNat) ho15 rng
  refine Oq (Qsv sh9 0) (Oq Vm (Oq (Ql5 (l:=(l.getD i_4.toNat default)) (m:=s)) (KS ?_)))
  refine KcH H ?_ ?_
  ·intro h21 H
   have g22:=eq_of_beq h21
   refine KS ?_
   refine Oq Vm (Oq Va (KS ?_))
   have H:=llR H HL13
   have hq:=rI H; subst hq
   exact Kr () rfl (.tmp rfl .nil) [] en
  intro h21 H
  have g23:=ne_of_beq_false h21
  refine KS ?_
  refine Oq Vm (Oq QaS (Oq Va (KS ?_)))
  refine pC H hx12 fun hc24 H=>?_
  exact Kg (r18,(i_4 + 1)) [0] ⟨H,aM1,aM1,aM1,aM1⟩
 intro h16
 have g25:=df h16
 obtain rfl:r3 = 0:=by omega
 have H:=hM5; (try dsimp only at H); rw [QfP] at H
 refine Ke ?_
 have H:=llB H HL13
 refine KS ?_
 refine Oq Va (KS ?_)
 have hq:=rI H; subst hq
 exact Kr () rfl (.tmp rfl .nil) [] en
theorem Qvr (l:List Str) (la0:Option Addr) (lk0:Nat) (a:Int) (b:Int) (Qja:Qaa a) (QfG:Qaa b) (rr:Bool) (hrr:Qiy l a b = .ret rr):FT Tryz.prog 183 #[vl la0 lk0 l,vi a,vi b] [S la0 lk0 l] (fun g:Unit=>True) (fun g=>vb rr) (fun g=>[]):=by
 refine FTi Tryz.func183 fun w0 M0 F0=>?_
 unfold Qaa at Qja QfG
 refine Fb 16 0 fun _=>?_
 refine FoS 0 fun ho2=>?_
 have hx0:=lrn rr; have H:=hrr; unfold Qiy at H
 refine KS ?_
 refine Oq Va (KS ?_)
 refine Oq Va (KS ?_)
 refine llH H hx0 fun X10 hX11 hx12 HL13=>?_
 refine Kl (γ:=Nat × Int) (fun (r3,i_4)=>⟨[(0,vl la0 lk0 l),(1,vi a),(2,vi b),(7,vi i_4)],[S la0 lk0 l],QeD l r3 i_4 = X10 /\ r3 = ((l.length:Int) - i_4).toNat /\ (0:Int) <= i_4 /\ i_4 <= (l.length:Int) /\ (-9223372036854775808 <= i_4 /\ i_4 <= 9223372036854775807),r3⟩) (((l.length:Int) - 0).toNat,0) [0] ⟨hX11,rfl,aM1,aM1,aM1⟩ ?_
 rintro ⟨r3,i_4⟩ ⟨hM5,hr6,hi7,hi8,hk9⟩
 refine QaA fun _ _ hL hA=>?_; dsimp only at hL hA; subst hL hA
 refine Fb 16 0 fun _=>?_
 refine FoS 0 fun ho15=>?_
 refine KS ?_
 refine Oq Vm (Oq Vm (Oq (Qba Qcb) (Oq Qbh (KS ?_))))
 refine Kc ?_ ?_
 ·intro h16
  have g17:=dt h16
  obtain ⟨r18,rfl⟩:=scc (n:=r3) aM1
  have H:=hM5; (try dsimp only at H); rw [QeD] at H
  refine KS ?_
  refine Oq Vm (Oq Vm ?_)
  refine pC H hx12 fun hc19 H=>?_
  refine Oq (Vi Qcb 0) ?_
  have hb20:=okS (i:=i_4.toNat) ho15 rng
  refine Oq (Qsv sh9 0) ?_
  refine lbH H hx12 fun rv21 hg22 H=>?_
  have hc23:=Qru ((l.getD i_4.toNat default)) pre rv21 hg22
  refine Oc [] Qq9 hc23 ?_
  rintro - -
  refine Oq Qcy (KS ?_)
  refine pF H hx12 fun h24 H=>?_
  refine KcF h24 ?_
  have h26:=not_false h24
  refine KS ?_
  refine Oq Vm (Oq QaS (Oq Va (KS ?_)))
  refine pC H hx12 fun hc28 H=>?_
  exact Kg (r18,(i_4 + 1)) [0] ⟨H,aM1,aM1,aM1,aM1⟩
 intro h16
 have g29:=df h16
 obtain rfl:r3 = 0:=by omega
 have H:=hM5; (try dsimp only at H); rw [QeD] at H
 refine Ke ?_
 have H:=llB H HL13
 refine KS ?_
 refine Oq Vm (Oq (Qba Qcb) (Oq Vm (Oq Qg8 (Oq Vm ?_))))
 refine pT H hx0 fun h30 H=>?_
 refine JsT 24 h30 ?_
 have g31:=dt h30
 refine Oq Vm (Oq (Qba Qcb) (Oq Vm (Oq QrL (Oq Vpt (Oq Va (KS ?_))))))
 have hq:=rI H; subst hq
 exact Kr () rfl (.tmp rfl .nil) [] trivial
theorem Qxm (s:Qc7) (sa2:Option Addr) (sk2:Nat) (sa3:Option Addr) (sk3:Nat) (Qcc:Qaa s.Op) (QyY:s.Def.b.length <= 140737488355328) (rr:Bool) (hrr:QlI s = .ret rr):FT Tryz.prog 179 #[.agg #[vi s.Op,.string (bs s.Def),vl sa2 sk2 s.Uses,vl sa3 sk3 s.Targets]] [S sa2 sk2 s.Uses,S sa3 sk3 s.Targets] (fun g:Unit=>True) (fun g=>vb rr) (fun g=>[]):=by
 refine FTi Tryz.func179 fun w0 M0 F0=>?_
 unfold Qaa at Qcc
 refine Fb 16 0 fun _=>?_
 refine FoS 0 fun ho2=>?_
 refine Fb 16 1 fun _=>?_
 refine FoS 1 fun ho4=>?_
 have hx0:=lrn rr; have H:=hrr; unfold QlI at H
 refine KS ?_
 refine Oa (Ab [vi s.Op,.string (bs s.Def),vl sa2 sk2 s.Uses,vl sa3 sk3 s.Targets]) fun p5=>Oq Va (KS ?_)
 refine Oq (Vfa Qhm 0) (Oq (Qah sh9 0) ?_)
 refine lbH H hx0 fun rv6 hg7 H=>?_
 have hc8:=Qru s.Def pre rv6 hg7
 refine Oc [] Qq9 hc8 ?_
 rintro - -
 refine Oq Va (KS ?_)
 refine Kq [0,1,3,0,8,24,7,127] Qco ?_
 refine Qv [0] (Vfa Qfu 0) (Qv [0] (Qah Qi0 0) (Qv [] (Qba Qcb) (Qv [0] (Vfa QoX 0) (Qv [0] (Qah Qi0 0) (Qv [] (Qba Qcb) (Qv [] Va (Qv [] Va ?_)))))))
 refine Qn ⟨by kernel_rfl,?_⟩
 refine KS ?_
 refine Oq (Vfa Qfu 0) (Oq (Qah Qi0 0) ?_)
 refine lbH H hx0 fun rv9 hg10 H=>?_
 have hc11:=Qvr s.Uses sa2 sk2 0 4 pre pre rv9 hg10
 refine Oc [1] Qvf hc11 ?_
 rintro - -
 refine Oq Qcy (Oq Vm ?_)
 refine pF H hx0 fun h12 H=>?_
 refine JsF 19 h12 ?_
 have h14:=not_false h12
 refine Oq (Vfa QoX 0) (Oq (Qah Qi0 0) ?_)
 refine lbH H hx0 fun rv16 hg17 H=>?_
 have hc18:=Qvr s.Targets sa3 sk3 0 2 pre pre rv16 hg17
 refine Oc [2] Qvf hc18 ?_
 rintro - -
 refine Oq Qcy (Oq Vpf (KS ?_))
 refine pF H hx0 fun h19 H=>?_
 refine KcF h19 ?_
 have h21:=not_false h19
 refine KS ?_
 refine Oq (Vfa Qdv 0) (Oq (Qah sh3 0) (KS ?_))
 refine Oq QbW (Oq Va (KS ?_))
 refine KcH H ?_ ?_
 ·intro h23 H
  have g24:=eq_of_beq h23
  refine KS ?_
  refine Oq Vm (Oq Vm ?_)
  refine pT H hx0 fun h25 H=>?_
  refine JsT 30 h25 ?_
  refine Oq Vm (Oq QbW (Oq Vpt (Oq Va (KS ?_))))
  have hq:=rI H; subst hq
  exact Kr () rfl (.tmp rfl .nil) [] trivial
 intro h23 H
 have g27:=ne_of_beq_false h23
 refine KS ?_
 refine Oq QbW (Oq Va (KS ?_))
 refine KcH H ?_ ?_
 ·intro h28 H
  have g29:=eq_of_beq h28
  refine KS ?_
  refine Oq (Vfa Qhm 0) (Oq (Qah sh9 0) (Oq (Ql5 (l:=s.Def) (m:=(Str.mk []))) (Oq Vm ?_)))
  refine pT H hx0 fun h30 H=>?_
  refine JsT 39 h30 ?_
  have g31:=eq_of_beq h30
  refine Oq Vm (Oq Qg8 (Oq Vpt (Oq Vm ?_)))
  refine pT H hx0 fun h32 H=>?_
  refine JsT 43 h32 ?_
  have g33:=dt h32
  refine Oq Vm (Oq QbW (Oq Vpt (Oq Va (KS ?_))))
  have hq:=rI H; subst hq
  exact Kr () rfl (.tmp rfl .nil) [] trivial
 intro h28 H
 have g34:=ne_of_beq_false h28
 refine KS ?_
 refine Oq QbW (Oq Va (KS ?_))
 refine pF H hx0 fun h35 H=>?_
 refine KcF h35 ?_
 have g36:=ne_of_beq_false h35
 refine KS ?_
 refine Oq QbW (Oq Va (KS ?_))
 refine pF H hx0 fun h37 H=>?_
 refine KcF h37 ?_
 have g38:=ne_of_beq_false h37
 refine KS ?_
 refine Oq QbW (Oq Va (KS ?_))
 refine pF H hx0 fun h39 H=>?_
 refine KcF h39 ?_
 have g40:=ne_of_beq_false h39
 refine KS ?_
 refine Oq QbW (Oq Va (KS ?_))
 refine pF H hx0 fun h41 H=>?_
 refine KcF h41 ?_
 have g42:=ne_of_beq_false h41
 refine KS ?_
 refine Oq QbW (Oq Va (KS ?_))
 refine pF H hx0 fun h43 H=>?_
 refine KcF h43 ?_
 have g44:=ne_of_beq_false h43
 refine KS ?_
 refine Oq QbW (Oq Va (KS ?_))
 refine pF H hx0 fun h45 H=>?_
 refine KcF h45 ?_
 have g46:=ne_of_beq_false h45
 refine KS ?_
 refine Oq QbW (Oq Va (KS ?_))
 refine pT H hx0 fun h47 H=>?_
 refine KcT h47 ?_
 have g48:=eq_of_beq h47
 refine KS ?_
 refine Oq (Vfa Qhm 0) (Oq (Qah sh9 0) (Oq (Ql5 (l:=s.Def) (m:=(Str.mk []))) (Oq Vm ?_)))
 refine pT H hx0 fun h49 H=>?_
 refine JsT 104 h49 ?_
 have g50:=eq_of_beq h49
 refine Oq Vm (Oq QbW (Oq Vpt (Oq Vm ?_)))
 refine pT H hx0 fun h51 H=>?_
 refine JsT 108 h51 ?_
 have g52:=eq_of_beq h51
 refine Oq Vm (Oq QbW (Oq Vpt (Oq Va (KS ?_))))
 have hq:=rI H; subst hq
 exact Kr () rfl (.tmp rfl .nil) [] trivial
theorem Qum (p:Qaz) (pa0:Option Addr) (pk0:Nat) (rr:Bool) (hrr:QjM p = .ret rr):FT Tryz.prog 158 #[.agg #[vl pa0 pk0 p.Funcs]] [S pa0 pk0 p.Funcs] (fun g:Unit=>True) (fun g=>vb rr) (fun g=>[]):=by
 refine FTi Tryz.func158 fun w0 M0 F0=>Fb 40 0 fun _=>?_
 have hx0:=lrn rr; have H:=hrr; unfold QjM at H
 refine KS ?_
 refine Oa (Ab [vl pa0 pk0 p.Funcs]) fun p2=>Oq Va (KS ?_)
 refine Oq (Vfa QdZ 0) (Oq (Qah QlX 0) (Oq (Qba Qly) (Oq Qbh (Oq Vm ?_))))
 refine pF H hx0 fun h3 H=>?_
 refine JsF 12 h3 ?_
 have g4:=df h3
 refine Oq (Vfa QdZ 0) (Oq (Qah QlX 0) (Oq (Qba Qly) (Oq Qgr (Oq Vpf (KS ?_)))))
 refine pF H hx0 fun h5 H=>?_
 refine KcF h5 ?_
 have g6:=df h5
 refine KS ?_
 refine Oq Va (KS ?_)
 refine llH H hx0 fun X14 hX15 hx16 HL17=>?_
 refine Kl (γ:=Nat × Int) (fun (r7,i_8)=>⟨[(1,p2),(3,vi i_8)],[pv p2 [vl pa0 pk0 p.Funcs],S pa0 pk0 p.Funcs],Qf0 p r7 i_8 = X14 /\ r7 = ((p.Funcs.length:Int) - i_8).toNat /\ (0:Int) <= i_8 /\ i_8 <= (p.Funcs.length:Int) /\ (-9223372036854775808 <= i_8 /\ i_8 <= 9223372036854775807),r7⟩) (((p.Funcs.length:Int) - 0).toNat,0) [0,1] ⟨hX15,rfl,aM1,aM1,aM1⟩ ?_
 rintro ⟨r7,i_8⟩ ⟨hM9,hr10,hi11,hi12,hk13⟩
 refine QaA fun _ _ hL hA=>?_; dsimp only at hL hA; subst hL hA
 refine Fb 40 1 fun _=>KS ?_
 refine Oq Vm (Oq (Vfa QdZ 0) (Oq (Qah QlX 0) (Oq (Qba Qly) (Oq Qbh (KS ?_)))))
 refine Kc ?_ ?_
 ·intro h19
  have g20:=dt h19
  obtain ⟨r21,rfl⟩:=scc (n:=r7) aM1
  have H:=hM9; (try dsimp only at H); rw [Qf0] at H
  refine KS ?_
  refine Oq (Vfa QdZ 0) (Oq (Qah QlX 0) (Oq Vm ?_))
  refine pC H hx16 fun hc22 H=>?_
  refine Oq (Vi Qly 1) ?_
  refine QcR i_8.toNat 1 rfl rng fun a23 k24 hb25=>?_
  refine Fb 40 1 fun _=>?_
  refine Oq (Qau Ql8 0) (Oa (Al QrZ [.string (bs (Str.mk [])),.slice none 0 0]) fun p27=>Ost (Scl [0] Ql8 [.string (bs ((p.Funcs.getD i_8.toNat default).Name)),vl a23 k24 ((p.Funcs.getD i_8.toNat default).Blocks)]) (KS ?_))
  refine Oq (Vfa Qo2 0) (Oq (Qah sh9 0) ?_)
  refine pC H hx16 fun hc30 H=>?_
  refine lbH H hx16 fun rv28 hg29 H=>?_
  have hc31:=Qru ((p.Funcs.getD i_8.toNat default).Name) pre rv28 hg29
  refine Oc [] Qq9 hc31 ?_
  rintro - -
  refine Oq Qcy (Oq Vm ?_)
  refine pF H hx16 fun h32 H=>?_
  refine JsF 34 h32 ?_
  have h34:=not_false h32
  refine Oq (Vfa Qdd 0) (Oq (Qah QhC 0) (Oq (Qba Qg1) (Oq Qbh (Oq Vpf (Oq Vm ?_)))))
  refine pF H hx16 fun h36 H=>?_
  refine JsF 40 h36 ?_
  have g37:=df h36
  refine Oq (Vfa Qdd 0) (Oq (Qah QhC 0) (Oq (Qba Qg1) (Oq Qgr (Oq Vpf (KS ?_)))))
  refine pF H hx16 fun h38 H=>?_
  refine KcF h38 ?_
  have g39:=df h38
  refine KS ?_
  refine Oq Va (KS ?_)
  refine llH H hx16 fun X47 hX48 hx49 HL50=>?_
  refine Kl (γ:=Nat × Int) (fun (r40,QlP)=>⟨[(1,p2),(3,vi i_8),(4,p27),(5,vi QlP)],[Cl p27 [.string (bs ((p.Funcs.getD i_8.toNat default).Name)),vl a23 k24 ((p.Funcs.getD i_8.toNat default).Blocks)],S a23 k24 ((p.Funcs.getD i_8.toNat default).Blocks),pv p2 [vl pa0 pk0 p.Funcs],S pa0 pk0 p.Funcs],Qgk ((p.Funcs.getD i_8.toNat default).Blocks) r40 QlP = X47 /\ r40 = (((((p.Funcs.getD i_8.toNat default).Blocks).length:Int):Int) - QlP).toNat /\ (0:Int) <= QlP /\ (QlP <= (((p.Funcs.getD i_8.toNat default).Blocks).length:Int) \/ QlP = 0) /\ (-9223372036854775808 <= QlP /\ QlP <= 9223372036854775807),r40⟩) ((((((p.Funcs.getD i_8.toNat default).Blocks).length:Int):Int) - 0).toNat,0) [0,1,2,3] ⟨hX48,rfl,aM1,(.inr rfl),aM1⟩ ?_
  rintro ⟨r40,QlP⟩ ⟨hM42,hr43,hi44,hi45,hk46⟩
  refine QaA fun _ _ hL hA=>?_; dsimp only at hL hA; subst hL hA
  refine Fb 40 1 fun _=>Fb 40 3 fun _=>KS ?_
  refine Oq Vm (Oq (Vfa Qdd 0) (Oq (Qah QhC 0) (Oq (Qba Qg1) (Oq Qbh (KS ?_)))))
  refine Kc ?_ ?_
  ·intro h53
   have g54:=dt h53
   obtain ⟨r55,rfl⟩:=scc (n:=r40) aM1
   have H:=hM42; (try dsimp only at H); rw [Qgk] at H
   refine KS ?_
   refine Oq (Vfa Qdd 0) (Oq (Qah QhC 0) (Oq Vm ?_))
   refine pC H hx49 fun hc56 H=>?_
   refine Oq (Vi Qg1 1) ?_
   refine Qcl QlP.toNat 1 rfl rng fun a57 k58 hb59=>?_
   refine Fb 72 1 fun _=>?_
   refine Oq (Qau Qrp 0) (Oa (Al QtC [.string (bs (Str.mk [])),.slice none 0 0]) fun p61=>Ost (Scl [0] Qrp [.string (bs ((((p.Funcs.getD i_8.toNat default).Blocks).getD QlP.toNat default).Name)),.slice a57 (((((p.Funcs.getD i_8.toNat default).Blocks).getD QlP.toNat default).Stmts).length) k58]) (KS ?_))
   refine Oq (Vfa QoE 0) (Oq (Qah sh9 0) ?_)
   refine pC H hx49 fun hc64 H=>?_
   refine lbH H hx49 fun rv62 hg63 H=>?_
   have hc65:=Qru ((((p.Funcs.getD i_8.toNat default).Blocks).getD QlP.toNat default).Name) pre rv62 hg63
   refine Oc [] Qq9 hc65 ?_
   rintro - -
   refine Oq Qcy (Oq Vm ?_)
   refine pF H hx49 fun h66 H=>?_
   refine JsF 62 h66 ?_
   have h68:=not_false h66
   refine Oq (Vfa QeN 0) (Oq (Qah Qkj 0) (Oq (Qba Qgu) (Oq Qbh (Oq Vpf (Oq Vm ?_)))))
   refine pF H hx49 fun h70 H=>?_
   refine JsF 68 h70 ?_
   have g71:=df h70
   refine Oq (Vfa QeN 0) (Oq (Qah Qkj 0) (Oq (Qba Qgu) (Oq Qgr (Oq Vpf (KS ?_)))))
   refine pF H hx49 fun h72 H=>?_
   refine KcF h72 ?_
   have g73:=df h72
   refine KS ?_
   refine Oq Va (KS ?_)
   refine llH H hx49 fun X81 hX82 hx83 HL84=>?_
   refine Kl (γ:=Nat × Int) (fun (r74,Qqv)=>⟨[(1,p2),(3,vi i_8),(4,p27),(5,vi QlP),(6,p61),(7,vi Qqv)],[Cl p61 [.string (bs ((((p.Funcs.getD i_8.toNat default).Blocks).getD QlP.toNat default).Name)),.slice a57 (((((p.Funcs.getD i_8.toNat default).Blocks).getD QlP.toNat default).Stmts).length) k58],S a57 k58 ((((p.Funcs.getD i_8.toNat default).Blocks).getD QlP.toNat default).Stmts),Cl p27 [.string (bs ((p.Funcs.getD i_8.toNat default).Name)),vl a23 k24 ((p.Funcs.getD i_8.toNat default).Blocks)],S a23 k24 ((p.Funcs.getD i_8.toNat default).Blocks),pv p2 [vl pa0 pk0 p.Funcs],S pa0 pk0 p.Funcs],QfL ((((p.Funcs.getD i_8.toNat default).Blocks).getD QlP.toNat default).Stmts) r74 Qqv = X81 /\ r74 = (((((((p.Funcs.getD i_8.toNat default).Blocks).getD QlP.toNat default).Stmts).length:Int):Int) - Qqv).toNat /\ (0:Int) <= Qqv /\ (Qqv <= (((((p.Funcs.getD i_8.toNat default).Blocks).getD QlP.toNat default).Stmts).length:Int) \/ Qqv = 0) /\ (-9223372036854775808 <= Qqv /\ Qqv <= 9223372036854775807),r74⟩) ((((((((p.Funcs.getD i_8.toNat default).Blocks).getD QlP.toNat default).Stmts).length:Int):Int) - 0).toNat,0) [0,1,2,2,3,4] ⟨hX82,rfl,aM1,(.inr rfl),aM1⟩ ?_
   rintro ⟨r74,Qqv⟩ ⟨hM76,hr77,hi78,hi79,hk80⟩
   refine QaA fun _ _ hL hA=>?_; dsimp only at hL hA; subst hL hA
   refine Fb 72 1 fun _=>Fb 40 3 fun _=>Fb 40 5 fun _=>KS ?_
   refine Oq Vm (Oq (Vfa QeN 0) (Oq (Qah Qkj 0) (Oq (Qba Qgu) (Oq Qbh (KS ?_)))))
   refine Kc ?_ ?_
   ·intro h88
    have g89:=dt h88
    obtain ⟨r90,rfl⟩:=scc (n:=r74) aM1
    have H:=hM76; (try dsimp only at H); rw [QfL] at H
    refine KS ?_
    refine Oq (Vfa QeN 0) (Oq (Qah Qkj 0) (Oq Vm ?_))
    refine pC H hx83 fun hc91 H=>?_
    refine Oq (Vi Qgu 1) ?_
    refine Qdi Qqv.toNat 1 rfl rng fun a92 k93 a94 k95 hb96 hb97=>?_
    unfold Qaa at hb96
    refine Fb 16 1 fun _=>?_
    refine FoS 1 fun ho99=>?_
    refine Fb 16 2 fun _=>?_
    refine FoS 2 fun ho101=>?_
    refine Oq (Qau Qd1 0) ?_
    refine pC H hx83 fun hc104 H=>?_
    refine lbH H hx83 fun rv102 hg103 H=>?_
    have hc105:=Qxm ((((((p.Funcs.getD i_8.toNat default).Blocks).getD QlP.toNat default).Stmts).getD Qqv.toNat default)) a92 k93 a94 k95 pre pre rv102 hg103
    refine Oc [1,2] Qyj hc105 ?_
    rintro - -
    refine Oq Qcy (KS ?_)
    refine pF H hx83 fun h106 H=>?_
    refine KcF h106 ?_
    have h108:=not_false h106
    refine KS ?_
    refine Oq Vm (Oq QaS (Oq Va (KS ?_)))
    refine pC H hx83 fun hc110 H=>?_
    exact Kg (r90,(Qqv + 1)) [3,3,4,4,5,6] ⟨H,aM1,aM1,aM1,aM1⟩
   intro h88
   have g111:=df h88
   obtain rfl:r74 = 0:=by omega
   have H:=hM76; (try dsimp only at H); rw [QfL] at H
   refine Ke ?_
   have H:=llB H HL84
   refine KS ?_
   refine Oq Vm (Oq QaS (Oq Va (KS ?_)))
   refine pC H hx49 fun hc112 H=>?_
   exact Kg (r55,(QlP + 1)) [2,2,3,4] ⟨H,aM1,aM1,aM1,aM1⟩
  intro h53
  have g113:=df h53
  obtain rfl:r40 = 0:=by omega
  have H:=hM42; (try dsimp only at H); rw [Qgk] at H
  refine Ke ?_
  have H:=llB H HL50
  refine KS ?_
  refine Oq Vm (Oq QaS (Oq Va (KS ?_)))
  refine pC H hx16 fun hc114 H=>?_
  exact Kg (r21,(i_8 + 1)) [2,3] ⟨H,aM1,aM1,aM1,aM1⟩
 intro h19
 have g115:=df h19
 obtain rfl:r7 = 0:=by omega
 have H:=hM9; (try dsimp only at H); rw [Qf0] at H
 refine Ke ?_
 have H:=llB H HL17
 refine KS ?_
 refine Oq Va (KS ?_)
 have hq:=rI H; subst hq
 exact Kr () rfl (.tmp rfl .nil) [] trivial
theorem Qti (p:Qaz) (pa0:Option Addr) (pk0:Nat) (rr:List Str) (hrr:Qfh p = .ret rr):FT Tryz.prog 126 #[.agg #[vl pa0 pk0 p.Funcs]] [S pa0 pk0 p.Funcs] (fun g:Value=>True) (fun g=>g) (fun g=>[sl g rr]):=by
 refine FTi Tryz.func126 fun w0 M0 F0=>Fb 40 0 fun _=>?_
 have hx0:=lrn rr; have H:=hrr; unfold Qfh at H
 refine KS ?_
 refine Oa (Ab [vl pa0 pk0 p.Funcs]) fun p2=>Oq Va (KS ?_)
 refine Oq Va (KS ?_)
 refine Oq (Qau QjT 0) ?_
 refine lbH H hx0 fun rv3 hg4 H=>?_
 have hc5:=Qum p pa0 pk0 rv3 hg4
 refine Oc [1] Que hc5 ?_
 rintro - -
 refine Oq Qcy (KS ?_)
 refine pF H hx0 fun h6 H=>?_
 refine KcF h6 ?_
 have h8:=not_false h6
 refine KS ?_
 refine Oq Va (KS ?_)
 refine Jl [] (Ent.osNil (α:=Str)) ?_
 refine llH H hx0 fun X20 hX21 hx22 HL23=>?_
 refine Kl (γ:=Nat × List Str × Int × Option Addr × Nat) (fun (r10,QmH,QcV,a13,k14)=>⟨[(1,p2),(3,vl a13 k14 QmH),(4,vi QcV)],[O a13 k14 QmH,pv p2 [vl pa0 pk0 p.Funcs],S pa0 pk0 p.Funcs],QdT p r10 QmH QcV = X20 /\ r10 = ((p.Funcs.length:Int) - QcV).toNat /\ (0:Int) <= QcV /\ QcV <= (p.Funcs.length:Int) /\ (-9223372036854775808 <= QcV /\ QcV <= 9223372036854775807),r10⟩) (((p.Funcs.length:Int) - 0).toNat,[],0,none,0) [0,0,1] ⟨hX21,rfl,aM1,aM1,aM1⟩ ?_
 rintro ⟨r10,QmH,QcV,a13,k14⟩ ⟨hM15,hr16,hi17,hi18,hk19⟩
 refine QaA fun _ _ hL hA=>?_; dsimp only at hL hA; subst hL hA
 refine Fb 16 0 fun _=>?_
 refine FoS 0 fun ho25=>?_
 refine Fb 40 2 fun _=>KS ?_
 refine Oq Vm (Oq (Vfa QdZ 1) (Oq (Qah QlX 1) (Oq (Qba Qly) (Oq Qbh (KS ?_)))))
 refine Kc ?_ ?_
 ·intro h27
  have g28:=dt h27
  obtain ⟨r29,rfl⟩:=scc (n:=r10) aM1
  have H:=hM15; (try dsimp only at H); rw [QdT] at H
  refine KS ?_
  refine Oq Va (KS ?_)
  refine llH H hx22 fun X37 hX38 hx39 HL40=>?_
  refine Kl (γ:=Nat × List Str × Int × Option Addr × Nat) (fun (r30,QmI,QdF,a33,k34)=>⟨[(1,p2),(3,vl a33 k34 QmI),(4,vi QcV),(5,vi QdF)],[O a33 k34 QmI,pv p2 [vl pa0 pk0 p.Funcs],S pa0 pk0 p.Funcs],QeA p QcV r30 QmI QdF = X37 /\ (-9223372036854775808 <= QdF /\ QdF <= 9223372036854775807),r30⟩) (100000,QmH,0,a13,k14) [0,0,1] ⟨hX38,aM1⟩ ?_
  rintro ⟨r30,QmI,QdF,a33,k34⟩ ⟨hM35,hk36⟩
  refine QaA fun _ _ hL hA=>?_; dsimp only at hL hA; subst hL hA
  refine Fb 16 0 fun _=>?_
  refine FoS 0 fun ho42=>?_
  refine Fb 40 2 fun _=>?_
  rcases r30 with _ | r30
  ·exact absurd (hM35.symm.trans rfl) hx39
  have H:=hM35; (try dsimp only at H); rw [QeA] at H
  refine KS ?_
  refine Oq Vm (Oq (Vfa QdZ 1) (Oq (Qah QlX 1) (Oq Vm ?_)))
  refine pC H hx39 fun hc44 H=>?_
  refine Oq (Vi Qly 2) ?_
  refine QcR QcV.toNat 2 rfl rng fun a45 k46 hb47=>?_
  refine Fb 40 1 fun _=>?_
  refine Oq (Vfa Qdd 0) (Oq (Qah QhC 0) (Oq (Qba Qg1) (Oq Qbh (KS ?_))))
  refine pC H hx39 fun hc50 H=>?_
  refine KcH H ?_ ?_
  ·intro h49 H
   have g51:=dt h49
   refine KS ?_
   refine Oq (Vfa QdZ 3) (Oq (Qah QlX 3) (Oq Vm (Oq (Vi Qly 4) (Oq (Vfa Qdd 0) (Oq (Qah QhC 0) (Oq Vm ?_))))))
   refine pC H hx39 fun hc52 H=>?_
   refine pC H hx39 fun hc53 H=>?_
   refine Oq (Vi Qg1 1) ?_
   refine Qcl QdF.toNat 1 rfl rng fun a54 k55 hb56=>?_
   refine Fb 72 1 fun _=>?_
   refine Oq (Vfa QeN 0) (Oq (Qah Qkj 0) (Oq Va (KS ?_)))
   refine Oq Va (KS ?_)
   refine pC H hx39 fun hc68 H=>?_
   refine llH H hx39 fun X69 hX70 hx71 HL72=>?_
   refine Kl (γ:=Nat × List Str × Int × Option Addr × Nat) (fun (r58,QkI,Qd8,a61,k62)=>⟨[(1,p2),(3,vl a61 k62 QkI),(4,vi QcV),(5,vi QdF),(6,.slice a54 (((((p.Funcs.getD QcV.toNat default).Blocks).getD QdF.toNat default).Stmts).length) k55),(7,vi Qd8)],[O a61 k62 QkI,S a54 k55 ((((p.Funcs.getD QcV.toNat default).Blocks).getD QdF.toNat default).Stmts),pv p2 [vl pa0 pk0 p.Funcs],S pa0 pk0 p.Funcs],Qc1 ((((p.Funcs.getD QcV.toNat default).Blocks).getD QdF.toNat default).Stmts) r58 QkI Qd8 = X69 /\ r58 = (((((((p.Funcs.getD QcV.toNat default).Blocks).getD QdF.toNat default).Stmts).length:Int):Int) - Qd8).toNat /\ (0:Int) <= Qd8 /\ (Qd8 <= (((((p.Funcs.getD QcV.toNat default).Blocks).getD QdF.toNat default).Stmts).length:Int) \/ Qd8 = 0) /\ (-9223372036854775808 <= Qd8 /\ Qd8 <= 9223372036854775807),r58⟩) ((((((((p.Funcs.getD QcV.toNat default).Blocks).getD QdF.toNat default).Stmts).length:Int):Int) - 0).toNat,QmI,0,a33,k34) [4,1,4,5] ⟨hX70,rfl,aM1,(.inr rfl),aM1⟩ ?_
   rintro ⟨r58,QkI,Qd8,a61,k62⟩ ⟨hM63,hr64,hi65,hi66,hk67⟩
   refine QaA fun _ _ hL hA=>?_; dsimp only at hL hA; subst hL hA
   refine Fb 16 0 fun _=>?_
   refine FoS 0 fun ho74=>?_
   refine Fb 72 1 fun _=>Fb 40 3 fun _=>KS ?_
   refine Oq Vm (Oq Vm (Oq (Qba Qgu) (Oq Qbh (KS ?_))))
   refine Kc ?_ ?_
   ·intro h77
    have g78:=dt h77
    obtain ⟨r79,rfl⟩:=scc (n:=r58) aM1
    have H:=hM63; (try dsimp only at H); rw [Qc1] at H
    refine KS ?_
    refine Oq Vm (Oq Vm ?_)
    refine pC H hx71 fun hc80 H=>?_
    refine Oq (Vi Qgu 1) ?_
    refine Qdi Qd8.toNat 1 rfl rng fun a81 k82 a83 k84 hb85 hb86=>?_
    unfold Qaa at hb85
    refine Fb 16 1 fun _=>?_
    refine FoS 1 fun ho88=>?_
    refine Fb 16 2 fun _=>?_
    refine FoS 2 fun ho90=>?_
    refine Oq (Vfa Qfu 0) (Oq (Qah Qi0 0) (Oq Va (KS ?_)))
    refine Oq Vm (Oq Vm (Oq (Vi Qgu 4) (Oq (Vfa Qhm 0) (Oq (Qah sh9 0) (Oq (QAs (l:=(((((p.Funcs.getD QcV.toNat default).Blocks).getD QdF.toNat default).Stmts).getD Qd8.toNat default).Def) (m:=(Str.mk []))) (KS ?_))))))
    refine pC H hx71 fun hc92 H=>?_
    refine pC H hx71 fun hc93 H=>?_
    refine KcH H ?_ ?_
    ·intro h91 H
     have g94:=QaB h91
     refine Qam [0,0,3,7,15,31,0,0,192,448,960,2047,4095] Qco ?_
     refine Dv [] Vm (Dv [] Vm (Dv [4] (Vi Qgu 0) (Dv [0] (Vfa Qhm 0) (Dv [0] (Qah sh9 0) (Dx [] [] [0] (fun G=>(G.g 5 0)) [fun G=>Cr (G.g 5 0) 1 [.string (bs ((((((p.Funcs.getD QcV.toNat default).Blocks).getD QdF.toNat default).Stmts).getD Qd8.toNat default).Def))]] (fun G=>xA (AsV Qcb QhZ [.string (bs ((((((p.Funcs.getD QcV.toNat default).Blocks).getD QdF.toNat default).Stmts).getD Qd8.toNat default).Def))] [.string (bs ((((((p.Funcs.getD QcV.toNat default).Blocks).getD QdF.toNat default).Stmts).getD Qd8.toNat default).Def))])) (Dv [] Vm (Dv [] Vm (Dv [4] (Vi Qgu 0) (Dv [0] (Vfa Qfu 0) ?_)))))))))
     refine Dv [0] (Qah Qi0 0) ?_
     refine pC H hx71 fun hc96 H=>?_
     refine pC H hx71 fun hc97 H=>?_
     refine pC H hx71 fun hc98 H=>?_
     have hn100:([(((((p.Funcs.getD QcV.toNat default).Blocks).getD QdF.toNat default).Stmts).getD Qd8.toNat default).Def] ++ (((((p.Funcs.getD QcV.toNat default).Blocks).getD QdF.toNat default).Stmts).getD Qd8.toNat default).Uses:List Str).length = 1 + ((((((p.Funcs.getD QcV.toNat default).Blocks).getD QdF.toNat default).Stmts).getD Qd8.toNat default).Uses).length:=la ([(((((p.Funcs.getD QcV.toNat default).Blocks).getD QdF.toNat default).Stmts).getD Qd8.toNat default).Def]:List Str) ((((((p.Funcs.getD QcV.toNat default).Blocks).getD QdF.toNat default).Stmts).getD Qd8.toNat default).Uses)
     refine Dx [1,7] [7] [1,0] (fun G=>(G.g 11 0)) [fun G=>os (G.g 11 0) (([(((((p.Funcs.getD QcV.toNat default).Blocks).getD QdF.toNat default).Stmts).getD Qd8.toNat default).Def] ++ (((((p.Funcs.getD QcV.toNat default).Blocks).getD QdF.toNat default).Stmts).getD Qd8.toNat default).Uses):List Str)] (fun G=>xp [1] rfl (Ent.cr1 (α:=Str) (A:=[]) _ ((((((p.Funcs.getD QcV.toNat default).Blocks).getD QdF.toNat default).Stmts).getD Qd8.toNat default).Def) _ aB1 (fun _=>⟨rfl,aS1⟩)) (xA (Ap [0,0] Qcb Qcb QhZ))) (Dg [] (fun G=>(G.g 11 0)) (fun G=>Va) ?_)
     refine Dn ⟨by kernel_rfl,fun G=>?_⟩
     refine Jw2 [(1,p2),(3,vl a61 k62 QkI),(4,vi QcV),(5,vi QdF),(6,.slice a54 (((((p.Funcs.getD QcV.toNat default).Blocks).getD QdF.toNat default).Stmts).length) k55),(7,vi Qd8),(8,(G.g 11 0))] [0,1,2,3,4,5,6] [os (G.g 11 0) (([(((((p.Funcs.getD QcV.toNat default).Blocks).getD QdF.toNat default).Stmts).getD Qd8.toNat default).Def] ++ (((((p.Funcs.getD QcV.toNat default).Blocks).getD QdF.toNat default).Stmts).getD Qd8.toNat default).Uses):List Str)] ?_
     generalize G.g 11 0 = c99
     refine Jo 7 ?_; rintro a101 k102 rfl
     refine Fb 16 7 fun _=>?_
     refine FoS 7 fun ho104=>?_
     refine KS ?_
     refine Oq Va (KS ?_)
     refine llH H hx71 fun X115 hX116 hx117 HL118=>?_
     refine Kl (γ:=Nat × List Str × Int × Option Addr × Nat) (fun (r105,QhO,QhP,a108,k109)=>⟨[(1,p2),(3,vl a108 k109 QhO),(4,vi QcV),(5,vi QdF),(6,.slice a54 (((((p.Funcs.getD QcV.toNat default).Blocks).getD QdF.toNat default).Stmts).length) k55),(7,vi Qd8),(8,.slice a101 (([(((((p.Funcs.getD QcV.toNat default).Blocks).getD QdF.toNat default).Stmts).getD Qd8.toNat default).Def] ++ (((((p.Funcs.getD QcV.toNat default).Blocks).getD QdF.toNat default).Stmts).getD Qd8.toNat default).Uses).length) k102),(9,vi QhP)],[O a108 k109 QhO,S a54 k55 ((((p.Funcs.getD QcV.toNat default).Blocks).getD QdF.toNat default).Stmts),pv p2 [vl pa0 pk0 p.Funcs],S pa0 pk0 p.Funcs,O a101 k102 (([(((((p.Funcs.getD QcV.toNat default).Blocks).getD QdF.toNat default).Stmts).getD Qd8.toNat default).Def] ++ (((((p.Funcs.getD QcV.toNat default).Blocks).getD QdF.toNat default).Stmts).getD Qd8.toNat default).Uses):List Str)],Qby ([(((((p.Funcs.getD QcV.toNat default).Blocks).getD QdF.toNat default).Stmts).getD Qd8.toNat default).Def] ++ (((((p.Funcs.getD QcV.toNat default).Blocks).getD QdF.toNat default).Stmts).getD Qd8.toNat default).Uses) r105 QhO QhP = X115 /\ r105 = (((([(((((p.Funcs.getD QcV.toNat default).Blocks).getD QdF.toNat default).Stmts).getD Qd8.toNat default).Def] ++ (((((p.Funcs.getD QcV.toNat default).Blocks).getD QdF.toNat default).Stmts).getD Qd8.toNat default).Uses).length:Int):Int) - QhP).toNat /\ (0:Int) <= QhP /\ (QhP <= (([(((((p.Funcs.getD QcV.toNat default).Blocks).getD QdF.toNat default).Stmts).getD Qd8.toNat default).Def] ++ (((((p.Funcs.getD QcV.toNat default).Blocks).getD QdF.toNat default).Stmts).getD Qd8.toNat default).Uses).length:Int) \/ QhP = 0) /\ (-9223372036854775808 <= QhP /\ QhP <= 9223372036854775807),r105⟩) ((((([(((((p.Funcs.getD QcV.toNat default).Blocks).getD QdF.toNat default).Stmts).getD Qd8.toNat default).Def] ++ (((((p.Funcs.getD QcV.toNat default).Blocks).getD QdF.toNat default).Stmts).getD Qd8.toNat default).Uses).length:Int):Int) - 0).toNat,QkI,0,a61,k62) [3,3,4,5,6] ⟨hX116,rfl,aM1,(.inr rfl),aM1⟩ ?_
     rintro ⟨r105,QhO,QhP,a108,k109⟩ ⟨hM110,hr111,hi112,hi113,hk114⟩
     refine QaA fun _ _ hL hA=>?_; dsimp only at hL hA; subst hL hA
     refine Fb 16 0 fun _=>?_
     refine FoS 0 fun ho120=>?_
     refine Fb 72 1 fun _=>Fb 40 3 fun _=>Fb 16 4 fun _=>?_
     refine FoS 4 fun ho124=>?_
     refine KS ?_
     refine Oq Vm (Oq Vm (Oq (Qba Qcb) (Oq Qbh (KS ?_))))
     refine Kc ?_ ?_
     ·intro h125
      have g126:=dt h125
      obtain ⟨r127,rfl⟩:=scc (n:=r105) aM1
      have H:=hM110; (try dsimp only at H); rw [Qby] at H
      refine KS ?_
      refine Oq Vm (Oq Vm (Oq Vm ?_))
      refine pC H hx117 fun hc128 H=>?_
      refine Oq (Vi Qcb 4) ?_
      have hb129:=okS (i:=QhP.toNat) ho124 rng
      refine Oq (Qsv sh9 4) ?_
      refine lbH H hx117 fun rv130 hg131 H=>?_
      refine Oc [0] QqD (Qc2 (A:=_) (fun _ _ h=>by cases h) (Qd3 (Ent.take (is:=[0]) rfl) (QqF QhO a108 k109 ((([(((((p.Funcs.getD QcV.toNat default).Blocks).getD QdF.toNat default).Stmts).getD Qd8.toNat default).Def] ++ (((((p.Funcs.getD QcV.toNat default).Blocks).getD QdF.toNat default).Stmts).getD Qd8.toNat default).Uses).getD QhP.toNat default)) pre rv130 hg131))) ?_ (ht:=rfl)
      rintro - he132
      unfold Qaa at he132
      refine Oq Qbh (KS ?_)
      refine KcH H ?_ ?_
      ·intro h133 H
       have g134:=dt h133
       refine KS ?_
       refine Oq Vm (Oq Vm (Oq Vm (Oq (Vi Qcb 4) ?_)))
       have hb135:=okS (i:=QhP.toNat) ho124 rng
       refine Oq (Qsv sh9 4) (Oa (AsV Qcb QhZ [.string (bs (([(((((p.Funcs.getD QcV.toNat default).Blocks).getD QdF.toNat default).Stmts).getD Qd8.toNat default).Def] ++ (((((p.Funcs.getD QcV.toNat default).Blocks).getD QdF.toNat default).Stmts).getD Qd8.toNat default).Uses).getD QhP.toNat default))] [.string (bs (([(((((p.Funcs.getD QcV.toNat default).Blocks).getD QdF.toNat default).Stmts).getD Qd8.toNat default).Def] ++ (((((p.Funcs.getD QcV.toNat default).Blocks).getD QdF.toNat default).Stmts).getD Qd8.toNat default).Uses).getD QhP.toNat default))]) fun c136=>?_)
       refine Jo 0 ?_; rintro a137 k138 rfl
       refine Jl [0] (Ent.cr1 (α:=Str) (A:=[]) _ (([(((((p.Funcs.getD QcV.toNat default).Blocks).getD QdF.toNat default).Stmts).getD Qd8.toNat default).Def] ++ (((((p.Funcs.getD QcV.toNat default).Blocks).getD QdF.toNat default).Stmts).getD Qd8.toNat default).Uses).getD QhP.toNat default) _ aB1 (fun _=>⟨rfl,aS1⟩)) ?_
       refine pC H hx117 fun hc139 H=>?_
       refine pC H hx117 fun hc140 H=>?_
       refine Oa (ApO [1,0] Qcb Qcb QhZ) fun c141=>?_
       refine Jo 0 ?_; rintro a142 k143 rfl
       refine Fb 16 0 fun _=>?_
       refine FoS 0 fun ho145=>?_
       have hn146:=la QhO ([(([(((((p.Funcs.getD QcV.toNat default).Blocks).getD QdF.toNat default).Stmts).getD Qd8.toNat default).Def] ++ (((((p.Funcs.getD QcV.toNat default).Blocks).getD QdF.toNat default).Stmts).getD Qd8.toNat default).Uses).getD QhP.toNat default)]:List Str)
       refine Oq Va (KS ?_)
       refine Oq Vm (Oq QaS (Oq Va (KS ?_)))
       refine pC H hx117 fun hc147 H=>?_
       exact Kg (r127,(QhO ++ [(([(((((p.Funcs.getD QcV.toNat default).Blocks).getD QdF.toNat default).Stmts).getD Qd8.toNat default).Def] ++ (((((p.Funcs.getD QcV.toNat default).Blocks).getD QdF.toNat default).Stmts).getD Qd8.toNat default).Uses).getD QhP.toNat default)]),(QhP + 1),a142,k143) [0,0,1,2,3] ⟨H,aM1,aM1,aM1,aM1⟩
      intro h133 H
      have g148:=df h133
      refine KS ?_
      refine Oq Vm (Oq QaS (Oq Va (KS ?_)))
      refine pC H hx117 fun hc149 H=>?_
      exact Kg (r127,QhO,(QhP + 1),a108,k109) [0,0,1,2,3] ⟨H,aM1,aM1,aM1,aM1⟩
     intro h125
     have g150:=df h125
     obtain rfl:r105 = 0:=by omega
     have H:=hM110; (try dsimp only at H); rw [Qby] at H
     refine Ke ?_
     have H:=llB H HL118
     refine KS ?_
     refine Oq Vm (Oq QaS (Oq Va (KS ?_)))
     refine pC H hx71 fun hc151 H=>?_
     exact Kg (r79,QhO,(Qd8 + 1),a108,k109) [0,0,1,2] ⟨H,aM1,aM1,aM1,aM1⟩
    intro h91 H
    have g152:=Qae h91
    refine KS ?_
    refine Oq Va (KS ?_)
    refine llH H hx71 fun X163 hX164 hx165 HL166=>?_
    refine Kl (γ:=Nat × List Str × Int × Option Addr × Nat) (fun (r153,QhQ,QhR,a156,k157)=>⟨[(1,p2),(3,vl a156 k157 QhQ),(4,vi QcV),(5,vi QdF),(6,.slice a54 (((((p.Funcs.getD QcV.toNat default).Blocks).getD QdF.toNat default).Stmts).length) k55),(7,vi Qd8),(8,.slice a81 (((((((p.Funcs.getD QcV.toNat default).Blocks).getD QdF.toNat default).Stmts).getD Qd8.toNat default).Uses).length) k82),(9,vi QhR)],[O a156 k157 QhQ,S a81 k82 ((((((p.Funcs.getD QcV.toNat default).Blocks).getD QdF.toNat default).Stmts).getD Qd8.toNat default).Uses),S a54 k55 ((((p.Funcs.getD QcV.toNat default).Blocks).getD QdF.toNat default).Stmts),pv p2 [vl pa0 pk0 p.Funcs],S pa0 pk0 p.Funcs],Qby ((((((p.Funcs.getD QcV.toNat default).Blocks).getD QdF.toNat default).Stmts).getD Qd8.toNat default).Uses) r153 QhQ QhR = X163 /\ r153 = (((((((((p.Funcs.getD QcV.toNat default).Blocks).getD QdF.toNat default).Stmts).getD Qd8.toNat default).Uses).length:Int):Int) - QhR).toNat /\ (0:Int) <= QhR /\ (QhR <= (((((((p.Funcs.getD QcV.toNat default).Blocks).getD QdF.toNat default).Stmts).getD Qd8.toNat default).Uses).length:Int) \/ QhR = 0) /\ (-9223372036854775808 <= QhR /\ QhR <= 9223372036854775807),r153⟩) ((((((((((p.Funcs.getD QcV.toNat default).Blocks).getD QdF.toNat default).Stmts).getD Qd8.toNat default).Uses).length:Int):Int) - 0).toNat,QkI,0,a61,k62) [3,1,3,4,5] ⟨hX164,rfl,aM1,(.inr rfl),aM1⟩ ?_
    rintro ⟨r153,QhQ,QhR,a156,k157⟩ ⟨hM158,hr159,hi160,hi161,hk162⟩
    refine QaA fun _ _ hL hA=>?_; dsimp only at hL hA; subst hL hA
    refine Fb 16 0 fun _=>?_
    refine FoS 0 fun ho168=>?_
    refine Fb 16 1 fun _=>?_
    refine FoS 1 fun ho170=>?_
    refine Fb 72 2 fun _=>Fb 40 4 fun _=>KS ?_
    refine Oq Vm (Oq Vm (Oq (Qba Qcb) (Oq Qbh (KS ?_))))
    refine Kc ?_ ?_
    ·intro h173
     have g174:=dt h173
     obtain ⟨r175,rfl⟩:=scc (n:=r153) aM1
     have H:=hM158; (try dsimp only at H); rw [Qby] at H
     refine KS ?_
     refine Oq Vm (Oq Vm (Oq Vm ?_))
     refine pC H hx165 fun hc176 H=>?_
     refine Oq (Vi Qcb 1) ?_
     have hb177:=okS (i:=QhR.toNat) ho170 rng
     refine Oq (Qsv sh9 1) ?_
     refine lbH H hx165 fun rv178 hg179 H=>?_
     refine Oc [0] QqD (Qc2 (A:=_) (fun _ _ h=>by cases h) (Qd3 (Ent.take (is:=[0]) rfl) (QqF QhQ a156 k157 ((((((((p.Funcs.getD QcV.toNat default).Blocks).getD QdF.toNat default).Stmts).getD Qd8.toNat default).Uses).getD QhR.toNat default)) pre rv178 hg179))) ?_ (ht:=rfl)
     rintro - he180
     unfold Qaa at he180
     refine Oq Qbh (KS ?_)
     refine KcH H ?_ ?_
     ·intro h181 H
      have g182:=dt h181
      refine KS ?_
      refine Oq Vm (Oq Vm (Oq Vm (Oq (Vi Qcb 1) ?_)))
      have hb183:=okS (i:=QhR.toNat) ho170 rng
      refine Oq (Qsv sh9 1) (Oa (AsV Qcb QhZ [.string (bs (((((((p.Funcs.getD QcV.toNat default).Blocks).getD QdF.toNat default).Stmts).getD Qd8.toNat default).Uses).getD QhR.toNat default))] [.string (bs (((((((p.Funcs.getD QcV.toNat default).Blocks).getD QdF.toNat default).Stmts).getD Qd8.toNat default).Uses).getD QhR.toNat default))]) fun c184=>?_)
      refine Jo 0 ?_; rintro a185 k186 rfl
      refine Jl [0] (Ent.cr1 (α:=Str) (A:=[]) _ (((((((p.Funcs.getD QcV.toNat default).Blocks).getD QdF.toNat default).Stmts).getD Qd8.toNat default).Uses).getD QhR.toNat default) _ aB1 (fun _=>⟨rfl,aS1⟩)) ?_
      refine pC H hx165 fun hc187 H=>?_
      refine pC H hx165 fun hc188 H=>?_
      refine Oa (ApO [1,0] Qcb Qcb QhZ) fun c189=>?_
      refine Jo 0 ?_; rintro a190 k191 rfl
      refine Fb 16 0 fun _=>?_
      refine FoS 0 fun ho193=>?_
      have hn194:=la QhQ ([(((((((p.Funcs.getD QcV.toNat default).Blocks).getD QdF.toNat default).Stmts).getD Qd8.toNat default).Uses).getD QhR.toNat default)]:List Str)
      refine Oq Va (KS ?_)
      refine Oq Vm (Oq QaS (Oq Va (KS ?_)))
      refine pC H hx165 fun hc195 H=>?_
      exact Kg (r175,(QhQ ++ [(((((((p.Funcs.getD QcV.toNat default).Blocks).getD QdF.toNat default).Stmts).getD Qd8.toNat default).Uses).getD QhR.toNat default)]),(QhR + 1),a190,k191) [0,0,1,2,3] ⟨H,aM1,aM1,aM1,aM1⟩
     intro h181 H
     have g196:=df h181
     refine KS ?_
     refine Oq Vm (Oq QaS (Oq Va (KS ?_)))
     refine pC H hx165 fun hc197 H=>?_
     exact Kg (r175,QhQ,(QhR + 1),a156,k157) [0,0,1,2,3] ⟨H,aM1,aM1,aM1,aM1⟩
    intro h173
    have g198:=df h173
    obtain rfl:r153 = 0:=by omega
    have H:=hM158; (try dsimp only at H); rw [Qby] at H
    refine Ke ?_
    have H:=llB H HL166
    refine KS ?_
    refine Oq Vm (Oq QaS (Oq Va (KS ?_)))
    refine pC H hx71 fun hc199 H=>?_
    exact Kg (r79,QhQ,(Qd8 + 1),a156,k157) [0,1,2,3] ⟨H,aM1,aM1,aM1,aM1⟩
   intro h77
   have g200:=df h77
   obtain rfl:r58 = 0:=by omega
   have H:=hM63; (try dsimp only at H); rw [Qc1] at H
   refine Ke ?_
   have H:=llB H HL72
   refine KS ?_
   refine Oq Vm ?_
   refine pC H hx39 fun hc201 H=>?_
   refine Oq QaS (Oq Va (KS ?_))
   exact Kg (r30,QkI,(QdF + 1),a61,k62) [0,1,2] ⟨H,aM1⟩
  intro h49 H
  have g202:=df h49
  refine Ke ?_
  have H:=llB H HL40
  refine KS ?_
  refine Oq Vm (Oq QaS (Oq Va (KS ?_)))
  refine pC H hx22 fun hc203 H=>?_
  exact Kg (r29,QmI,(QcV + 1),a33,k34) [2,2,3] ⟨H,aM1,aM1,aM1,aM1⟩
 intro h27
 have g204:=df h27
 obtain rfl:r10 = 0:=by omega
 have H:=hM15; (try dsimp only at H); rw [QdT] at H
 refine Ke ?_
 have H:=llB H HL23
 refine KS ?_
 refine Oq Vm (Oq Va (KS ?_))
 refine Jl [0] (Ent.freeze _ _) ?_
 have hq:=rI H; subst hq
 exact Kr (vl a13 k14 QmH) rfl (.tmp rfl .nil) [0] trivial
theorem QuS (l:List Str) (la0:Option Addr) (lk0:Nat) (rr:Int) (hrr:Qhl l = .ret rr):FT Tryz.prog 159 #[vl la0 lk0 l] [S la0 lk0 l] (fun g:Unit=>Qaa rr) (fun g=>vi rr) (fun g=>[]):=by
 refine FTi Tryz.func159 fun w0 M0 F0=>Fb 16 0 fun _=>?_
 refine FoS 0 fun ho2=>?_
 have hx0:=lrn rr; have H:=hrr; unfold Qhl at H
 refine KS ?_
 refine Oq Va (KS ?_)
 refine Oq Va (KS ?_)
 refine llH H hx0 fun X10 hX11 hx12 HL13=>?_
 refine Kl (γ:=Nat × Int) (fun (r3,i_4)=>⟨[(0,vl la0 lk0 l),(3,vi i_4)],[S la0 lk0 l],Qd7 l r3 i_4 = X10 /\ r3 = ((l.length:Int) - i_4).toNat /\ (0:Int) <= i_4 /\ i_4 <= (l.length:Int) /\ (-9223372036854775808 <= i_4 /\ i_4 <= 9223372036854775807),r3⟩) (((l.length:Int) - 0).toNat,0) [0] ⟨hX11,rfl,aM1,aM1,aM1⟩ ?_
 rintro ⟨r3,i_4⟩ ⟨hM5,hr6,hi7,hi8,hk9⟩
 refine QaA fun _ _ hL hA=>?_; dsimp only at hL hA; subst hL hA
 refine Fb 16 0 fun _=>?_
 refine FoS 0 fun ho15=>?_
 refine KS ?_
 refine Oq Vm (Oq Vm (Oq (Qba Qcb) (Oq Qbh (KS ?_))))
 refine Kc ?_ ?_
 ·intro h16
  have g17:=dt h16
  obtain ⟨r18,rfl⟩:=scc (n:=r3) aM1
  have H:=hM5; (try dsimp only at H); rw [Qd7] at H
  refine KS ?_
  refine Qam [0,0,3,0,0,24,56,127,255] Qco ?_
  refine Dv [] Vm (Dv [] Vm ?_)
  refine pC H hx12 fun hc19 H=>?_
  refine Dx [0] [] [1,0] (fun G=>(G.g 2 0)) [fun G=>sl (G.g 2 0) ((l.take (i_4.toNat)).drop 0)] (fun G=>xA (Asl [0] Qcb 0 (i_4.toNat))) (Dv [] Vm (Dv [] Vm ?_))
  refine pC H hx12 fun hc21 H=>?_
  refine Dv [0] (Vi Qcb 0) ?_
  have hb22:=okS (i:=i_4.toNat) ho15 rng
  refine Dv [0] (Qsv sh9 0) ?_
  refine lbH H hx12 fun rv26 hg27 H=>?_
  refine Dx [1] [] [1,0] (fun G=>vi rv26) [fun G=>SP.fact (Qaa rv26)] (fun G=>xD [0] QqD rfl rfl rfl (Qh1 (γ:=Unit) (I:=fun g=>Qaa rv26) (V:=fun g=>vi rv26) (B:=fun g=>[]) (R:=sl (G.g 2 0) ((l.take (i_4.toNat)).drop 0)) QgC (fun aq23 kq24 eq25=>by rw [eq25]; exact Qd3 (Ent.take (is:=[0]) rfl) (QqF (((l.take (i_4.toNat)).drop 0)) aq23 kq24 ((l.getD i_4.toNat default)) pre rv26 hg27)))) (Dv [] Qg8 ?_)
  refine Dn ⟨by kernel_rfl,fun G=>?_⟩
  refine Jw2 [(0,vl la0 lk0 l),(3,vi i_4),(18,vb (decide (0 <= rv26)))] [0] [sl (G.g 2 0) ((l.take (i_4.toNat)).drop 0),SP.fact (Qaa rv26)] ?_
  generalize G.g 2 0 = c20
  refine Jf 2 rfl ?_; rintro he28
  unfold Qaa at he28
  refine Jk [0,1] ?_
  refine Jo 1 ?_; rintro a29 k30 rfl
  refine Fb 16 1 fun _=>?_
  refine FoS 1 fun ho32=>?_
  refine pF H hx12 fun h33 H=>?_
  refine KcF h33 ?_
  have g34:=df h33
  refine KS ?_
  refine Oq Vm (Oq QaS (Oq Va (KS ?_)))
  refine pC H hx12 fun hc35 H=>?_
  exact Kg (r18,(i_4 + 1)) [0] ⟨H,aM1,aM1,aM1,aM1⟩
 intro h16
 have g36:=df h16
 obtain rfl:r3 = 0:=by omega
 have H:=hM5; (try dsimp only at H); rw [Qd7] at H
 refine Ke ?_
 have H:=llB H HL13
 refine KS ?_
 refine Oq Va (KS ?_)
 have hq:=rI H; subst hq
 exact Kr () rfl (.tmp rfl .nil) [] en
theorem QxI (p:Qaz) (pa0:Option Addr) (pk0:Nat) (rr:List Str) (hrr:Qig p = .ret rr):FT Tryz.prog 160 #[.agg #[vl pa0 pk0 p.Funcs]] [S pa0 pk0 p.Funcs] (fun g:Value=>True) (fun g=>g) (fun g=>[sl g rr]):=by
 refine FTi Tryz.func160 fun w0 M0 F0=>Fb 40 0 fun _=>?_
 have hx0:=lrn rr; have H:=hrr; unfold Qig at H
 refine KS ?_
 refine Oa (Ab [vl pa0 pk0 p.Funcs]) fun p2=>Oq Va (KS ?_)
 refine Oq Va (KS ?_)
 refine Oq Va (KS ?_)
 refine Jl [] (Ent.osNil (α:=Str)) ?_
 refine llH H hx0 fun X13 hX14 hx15 HL16=>?_
 refine Kl (γ:=Nat × List Str × Int × Option Addr × Nat) (fun (r3,QbM,i_5,a6,k7)=>⟨[(1,p2),(3,vl a6 k7 QbM),(4,vi i_5)],[O a6 k7 QbM,pv p2 [vl pa0 pk0 p.Funcs],S pa0 pk0 p.Funcs],QdQ p r3 QbM i_5 = X13 /\ r3 = ((p.Funcs.length:Int) - i_5).toNat /\ (0:Int) <= i_5 /\ i_5 <= (p.Funcs.length:Int) /\ (-9223372036854775808 <= i_5 /\ i_5 <= 9223372036854775807),r3⟩) (((p.Funcs.length:Int) - 0).toNat,[],0,none,0) [0,0,1] ⟨hX14,rfl,aM1,aM1,aM1⟩ ?_
 rintro ⟨r3,QbM,i_5,a6,k7⟩ ⟨hM8,hr9,hi10,hi11,hk12⟩
 refine QaA fun _ _ hL hA=>?_; dsimp only at hL hA; subst hL hA
 refine Fb 16 0 fun _=>?_
 refine FoS 0 fun ho18=>?_
 refine Fb 40 2 fun _=>KS ?_
 refine Oq Vm (Oq (Vfa QdZ 1) (Oq (Qah QlX 1) (Oq (Qba Qly) (Oq Qbh (KS ?_)))))
 refine Kc ?_ ?_
 ·intro h20
  have g21:=dt h20
  obtain ⟨r22,rfl⟩:=scc (n:=r3) aM1
  have H:=hM8; (try dsimp only at H); rw [QdQ] at H
  refine KS ?_
  refine Oq Vm (Oq (Vfa QdZ 1) (Oq (Qah QlX 1) (Oq Vm ?_)))
  refine pC H hx15 fun hc23 H=>?_
  refine Oq (Vi Qly 2) ?_
  refine QcR i_5.toNat 2 rfl rng fun a24 k25 hb26=>?_
  refine Fb 40 1 fun _=>?_
  refine Oq (Vfa Qo2 0) (Oq (Qah sh9 0) (Oa (AsV Qcb QhZ [.string (bs ((p.Funcs.getD i_5.toNat default).Name))] [.string (bs ((p.Funcs.getD i_5.toNat default).Name))]) fun c28=>?_))
  refine Jo 0 ?_; rintro a29 k30 rfl
  refine Jl [0] (Ent.cr1 (α:=Str) (A:=[]) _ ((p.Funcs.getD i_5.toNat default).Name) _ aB1 (fun _=>⟨rfl,aS1⟩)) ?_
  refine pC H hx15 fun hc31 H=>?_
  refine pC H hx15 fun hc32 H=>?_
  refine Oa (ApO [3,0] Qcb Qcb QhZ) fun c33=>?_
  refine Jo 0 ?_; rintro a34 k35 rfl
  refine Fb 16 0 fun _=>?_
  refine FoS 0 fun ho37=>?_
  have hn38:=la QbM ([(p.Funcs.getD i_5.toNat default).Name]:List Str)
  refine Oq Va (KS ?_)
  refine Oq Vm (Oq QaS (Oq Va (KS ?_)))
  refine pC H hx15 fun hc39 H=>?_
  exact Kg (r22,(QbM ++ [(p.Funcs.getD i_5.toNat default).Name]),(i_5 + 1),a34,k35) [0,2,3] ⟨H,aM1,aM1,aM1,aM1⟩
 intro h20
 have g40:=df h20
 obtain rfl:r3 = 0:=by omega
 have H:=hM8; (try dsimp only at H); rw [QdQ] at H
 refine Ke ?_
 have H:=llB H HL16
 refine KS ?_
 refine Oq Vm (Oq Va (KS ?_))
 refine Jl [0] (Ent.freeze _ _) ?_
 have hq:=rI H; subst hq
 exact Kr (vl a6 k7 QbM) rfl (.tmp rfl .nil) [0] trivial
theorem QuR (f:QfU) (fa1:Option Addr) (fk1:Nat) (QsL:f.Name.b.length <= 140737488355328) (rr:List Str) (hrr:QfE f = .ret rr):FT Tryz.prog 161 #[.agg #[.string (bs f.Name),vl fa1 fk1 f.Blocks]] [S fa1 fk1 f.Blocks] (fun g:Value=>True) (fun g=>g) (fun g=>[sl g rr]):=by
 refine FTi Tryz.func161 fun w0 M0 F0=>Fb 40 0 fun _=>?_
 have hx0:=lrn rr; have H:=hrr; unfold QfE at H
 refine KS ?_
 refine Oa (Ab [.string (bs f.Name),vl fa1 fk1 f.Blocks]) fun p2=>Oq Va (KS ?_)
 refine Oq Va (KS ?_)
 refine Oq Va (KS ?_)
 refine Jl [] (Ent.osNil (α:=Str)) ?_
 refine llH H hx0 fun X13 hX14 hx15 HL16=>?_
 refine Kl (γ:=Nat × List Str × Int × Option Addr × Nat) (fun (r3,QbM,k_5,a6,k7)=>⟨[(1,p2),(3,vl a6 k7 QbM),(4,vi k_5)],[O a6 k7 QbM,pv p2 [.string (bs f.Name),vl fa1 fk1 f.Blocks],S fa1 fk1 f.Blocks],Qdn f r3 QbM k_5 = X13 /\ r3 = ((f.Blocks.length:Int) - k_5).toNat /\ (0:Int) <= k_5 /\ k_5 <= (f.Blocks.length:Int) /\ (-9223372036854775808 <= k_5 /\ k_5 <= 9223372036854775807),r3⟩) (((f.Blocks.length:Int) - 0).toNat,[],0,none,0) [0,0,1] ⟨hX14,rfl,aM1,aM1,aM1⟩ ?_
 rintro ⟨r3,QbM,k_5,a6,k7⟩ ⟨hM8,hr9,hi10,hi11,hk12⟩
 refine QaA fun _ _ hL hA=>?_; dsimp only at hL hA; subst hL hA
 refine Fb 16 0 fun _=>?_
 refine FoS 0 fun ho18=>?_
 refine Fb 40 2 fun _=>KS ?_
 refine Oq Vm (Oq (Vfa Qdd 1) (Oq (Qah QhC 1) (Oq (Qba Qg1) (Oq Qbh (KS ?_)))))
 refine Kc ?_ ?_
 ·intro h20
  have g21:=dt h20
  obtain ⟨r22,rfl⟩:=scc (n:=r3) aM1
  have H:=hM8; (try dsimp only at H); rw [Qdn] at H
  refine KS ?_
  refine Oq Vm (Oq (Vfa Qdd 1) (Oq (Qah QhC 1) (Oq Vm ?_)))
  refine pC H hx15 fun hc23 H=>?_
  refine Oq (Vi Qg1 2) ?_
  refine Qcl k_5.toNat 2 rfl rng fun a24 k25 hb26=>?_
  refine Fb 72 1 fun _=>?_
  refine Oq (Vfa QoE 0) (Oq (Qah sh9 0) (Oa (AsV Qcb QhZ [.string (bs ((f.Blocks.getD k_5.toNat default).Name))] [.string (bs ((f.Blocks.getD k_5.toNat default).Name))]) fun c28=>?_))
  refine Jo 0 ?_; rintro a29 k30 rfl
  refine Jl [0] (Ent.cr1 (α:=Str) (A:=[]) _ ((f.Blocks.getD k_5.toNat default).Name) _ aB1 (fun _=>⟨rfl,aS1⟩)) ?_
  refine pC H hx15 fun hc31 H=>?_
  refine pC H hx15 fun hc32 H=>?_
  refine Oa (ApO [3,0] Qcb Qcb QhZ) fun c33=>?_
  refine Jo 0 ?_; rintro a34 k35 rfl
  refine Fb 16 0 fun _=>?_
  refine FoS 0 fun ho37=>?_
  have hn38:=la QbM ([(f.Blocks.getD k_5.toNat default).Name]:List Str)
  refine Oq Va (KS ?_)
  refine Oq Vm (Oq QaS (Oq Va (KS ?_)))
  refine pC H hx15 fun hc39 H=>?_
  exact Kg (r22,(QbM ++ [(f.Blocks.getD k_5.toNat default).Name]),(k_5 + 1),a34,k35) [0,2,3] ⟨H,aM1,aM1,aM1,aM1⟩
 intro h20
 have g40:=df h20
 obtain rfl:r3 = 0:=by omega
 have H:=hM8; (try dsimp only at H); rw [Qdn] at H
 refine Ke ?_
 have H:=llB H HL16
 refine KS ?_
 refine Oq Vm (Oq Va (KS ?_))
 refine Jl [0] (Ent.freeze _ _) ?_
 have hq:=rI H; subst hq
 exact Kr (vl a6 k7 QbM) rfl (.tmp rfl .nil) [0] trivial
theorem QwV (op:Int) (QyZ:Qaa op) (rr:Bool) (hrr:Qhi op = .ret rr):FT Tryz.prog 180 #[vi op] [] (fun g:Unit=>True) (fun g=>vb rr) (fun g=>[]):=by
 refine FTi Tryz.func180 fun w0 M0 F0=>?_
 unfold Qaa at QyZ
 have hx0:=lrn rr; have H:=hrr; unfold Qhi at H
 refine KS ?_
 refine Oq Va (KS ?_)
 refine Oq Vm (Oq QbW (Oq Vm ?_))
 refine pF H hx0 fun h1 H=>?_
 refine JsF 5 h1 ?_
 have g2:=ne_of_beq_false h1
 refine Oq Vm (Oq QbW (Oq Vpf (Oq Vm ?_)))
 refine pF H hx0 fun h3 H=>?_
 refine JsF 9 h3 ?_
 have g4:=ne_of_beq_false h3
 refine Oq Vm (Oq QbW (Oq Vpf (Oq Va (KS ?_))))
 have hq:=rI H; subst hq
 exact Kr () rfl (.tmp rfl .nil) [] trivial
theorem QwY (p:Qaz) (pa0:Option Addr) (pk0:Nat) (f:QfU) (fa1:Option Addr) (fk1:Nat) (s:Qc7) (sa2:Option Addr) (sk2:Nat) (sa3:Option Addr) (sk3:Nat) (last:Bool) (QsL:f.Name.b.length <= 140737488355328) (Qcc:Qaa s.Op) (QyY:s.Def.b.length <= 140737488355328) (rr:Int) (hrr:Qkc p f s last = .ret rr):FT Tryz.prog 162 #[.agg #[vl pa0 pk0 p.Funcs],.agg #[.string (bs f.Name),vl fa1 fk1 f.Blocks],.agg #[vi s.Op,.string (bs s.Def),vl sa2 sk2 s.Uses,vl sa3 sk3 s.Targets],vb last] [S pa0 pk0 p.Funcs,S fa1 fk1 f.Blocks,S sa2 sk2 s.Uses,S sa3 sk3 s.Targets] (fun g:Unit=>Qaa rr) (fun g=>vi rr) (fun g=>[]):=by
 refine FTi Tryz.func162 fun w0 M0 F0=>?_
 unfold Qaa at Qcc
 refine Fb 40 0 fun _=>Fb 40 1 fun _=>Fb 16 2 fun _=>?_
 refine FoS 2 fun ho4=>?_
 refine Fb 16 3 fun _=>?_
 refine FoS 3 fun ho6=>?_
 have hx0:=lrn rr; have H:=hrr; unfold Qkc at H
 refine KS ?_
 refine Oa (Ab [vl pa0 pk0 p.Funcs]) fun p7=>Oa (Ab [.string (bs f.Name),vl fa1 fk1 f.Blocks]) fun p8=>Oa (Ab [vi s.Op,.string (bs s.Def),vl sa2 sk2 s.Uses,vl sa3 sk3 s.Targets]) fun p9=>Oq Va (KS ?_)
 refine Oq (Vfa Qdv 0) (Oq (Qah sh3 0) ?_)
 refine lbH H hx0 fun rv10 hg11 H=>?_
 have hc12:=QwV s.Op pre rv10 hg11
 refine Oc [] Qyc hc12 ?_
 rintro - -
 refine Oq Vm (Oq (Vnb un4) (KS ?_))
 refine pF H hx0 fun h13 H=>?_
 refine KcF h13 ?_
 refine KS ?_
 refine Oq (Qau Ql8 1) ?_
 refine lbH H hx0 fun rv16 hg17 H=>?_
 have hc18:=QuR f fa1 fk1 pre rv16 hg17
 refine Oc [4] Qwl hc18 ?_
 rintro c15 -
 refine Jo 0 ?_; rintro a19 k20 rfl
 refine Fb 16 0 fun _=>?_
 refine FoS 0 fun ho22=>?_
 refine Oq Va (KS ?_)
 refine Oq (Vfa Qdv 1) (Oq (Qah sh3 1) (Oq QbW (KS ?_)))
 refine pF H hx0 fun h23 H=>?_
 refine KcF h23 ?_
 have g24:=ne_of_beq_false h23
 refine KS ?_
 refine Oq Va (KS ?_)
 refine llH H hx0 fun X27 hX28 hx29 HL30=>?_
 refine Kl (γ:=Nat) (fun r25=>⟨[(6,p9),(9,vl a19 k20 rv16),(10,vi 0)],[S a19 k20 rv16,pv p9 [vi s.Op,.string (bs s.Def),vl sa2 sk2 s.Uses,vl sa3 sk3 s.Targets],S sa2 sk2 s.Uses,S sa3 sk3 s.Targets],Qhy s r25 = X27,r25⟩) 1 [0,1,6,7] hX28 ?_
 rintro r25 hM26
 refine QaA fun _ _ hL hA=>?_; dsimp only at hL hA; subst hL hA
 refine Fb 16 0 fun _=>?_
 refine FoS 0 fun ho32=>?_
 refine Fb 16 2 fun _=>?_
 refine FoS 2 fun ho34=>?_
 refine Fb 16 3 fun _=>?_
 refine FoS 3 fun ho36=>?_
 rcases r25 with _ | r25
 ·exact absurd (hM26.symm.trans rfl) hx29
 have H:=hM26; (try dsimp only at H); rw [Qhy] at H
 refine KS ?_
 refine Oq Vm (Oq (Vfa QoX 1) (Oq (Qah Qi0 1) (Oq (Qba Qcb) (Oq Qbh (KS ?_)))))
 refine pF H hx29 fun h37 H=>?_
 refine KcF h37 ?_
 have g38:=df h37
 refine Ke ?_
 have H:=llB H HL30
 refine KS ?_
 refine Oq Va (KS ?_)
 have hq:=rI H; subst hq
 exact Kr () rfl (.tmp rfl .nil) [] en
theorem Qyt (p:Qaz) (pa0:Option Addr) (pk0:Nat) (rr:Int × Int) (hrr:QmP p = .ret rr):FT Tryz.prog 163 #[.agg #[vl pa0 pk0 p.Funcs]] [S pa0 pk0 p.Funcs] (fun g:Unit=>Qaa rr.1 /\ Qaa rr.2) (fun g=>.tuple #[vi rr.1,vi rr.2]) (fun g=>[]):=by
 refine FTi Tryz.func163 fun w0 M0 F0=>Fb 40 0 fun _=>?_
 have hx0:=lrn rr; have H:=hrr; unfold QmP at H
 refine KS ?_
 refine Oa (Ab [vl pa0 pk0 p.Funcs]) fun p2=>Oq Va (Oq Va (KS ?_))
 refine Oq Va (Oq Va (KS ?_))
 refine Oq (Qau QjT 0) ?_
 refine lbH H hx0 fun rv3 hg4 H=>?_
 have hc5:=Qum p pa0 pk0 rv3 hg4
 refine Oc [1] Que hc5 ?_
 rintro - -
 refine Oq Qcy (KS ?_)
 refine pF H hx0 fun h6 H=>?_
 refine KcF h6 ?_
 have h8:=not_false h6
 refine KS ?_
 refine Oq Va (KS ?_)
 refine llH H hx0 fun X21 hX22 hx23 HL24=>?_
 refine Kl (γ:=Nat × Int × Int × Int) (fun (r10,Qql,QiG,QnD)=>⟨[(1,p2),(4,vi Qql),(5,vi QiG),(6,vi QnD)],[pv p2 [vl pa0 pk0 p.Funcs],S pa0 pk0 p.Funcs],QfQ p r10 Qql QiG QnD = X21 /\ r10 = ((p.Funcs.length:Int) - QnD).toNat /\ (0:Int) <= QnD /\ QnD <= (p.Funcs.length:Int) /\ (-9223372036854775808 <= Qql /\ Qql <= 9223372036854775807) /\ (-9223372036854775808 <= QiG /\ QiG <= 9223372036854775807) /\ (-9223372036854775808 <= QnD /\ QnD <= 9223372036854775807),r10⟩) (((p.Funcs.length:Int) - 0).toNat,0,0,0) [0,1] ⟨hX22,rfl,aM1,aM1,aM1,aM1,aM1⟩ ?_
 rintro ⟨r10,Qql,QiG,QnD⟩ ⟨hM14,hr15,hi16,hi17,hk18,hk19,hk20⟩
 refine QaA fun _ _ hL hA=>?_; dsimp only at hL hA; subst hL hA
 refine Fb 40 1 fun _=>KS ?_
 refine Oq Vm (Oq (Vfa QdZ 0) (Oq (Qah QlX 0) (Oq (Qba Qly) (Oq Qbh (KS ?_)))))
 refine Kc ?_ ?_
 ·intro h26
  have g27:=dt h26
  obtain ⟨r28,rfl⟩:=scc (n:=r10) aM1
  have H:=hM14; (try dsimp only at H); rw [QfQ] at H
  refine KS ?_
  refine Oq Vm ?_
  refine pC H hx23 fun hc29 H=>?_
  refine Oq QaS (Oq Vm ?_)
  refine pC H hx23 fun hc30 H=>?_
  refine Oq QaS (Oq Va (Oq Va (KS ?_)))
  refine Oq Va (KS ?_)
  refine llH H hx23 fun X39 hX40 hx41 HL42=>?_
  refine Kl (γ:=Nat × Int × Int × Int) (fun (r31,Qo8,QhS,QpN)=>⟨[(1,p2),(6,vi QnD),(4,vi Qo8),(5,vi QhS),(7,vi QpN)],[pv p2 [vl pa0 pk0 p.Funcs],S pa0 pk0 p.Funcs],Qhz p QnD r31 Qo8 QhS QpN = X39 /\ (-9223372036854775808 <= Qo8 /\ Qo8 <= 9223372036854775807) /\ (-9223372036854775808 <= QhS /\ QhS <= 9223372036854775807) /\ (-9223372036854775808 <= QpN /\ QpN <= 9223372036854775807),r31⟩) (100000,(Qql + 2),(QiG + 1),0) [0,1] ⟨hX40,aM1,aM1,aM1⟩ ?_
  rintro ⟨r31,Qo8,QhS,QpN⟩ ⟨hM35,hk36,hk37,hk38⟩
  refine QaA fun _ _ hL hA=>?_; dsimp only at hL hA; subst hL hA
  refine Fb 40 1 fun _=>?_
  rcases r31 with _ | r31
  ·exact absurd (hM35.symm.trans rfl) hx41
  have H:=hM35; (try dsimp only at H); rw [Qhz] at H
  refine KS ?_
  refine Oq Vm (Oq (Vfa QdZ 0) (Oq (Qah QlX 0) (Oq Vm ?_)))
  refine pC H hx41 fun hc44 H=>?_
  refine Oq (Vi Qly 1) ?_
  refine QcR QnD.toNat 1 rfl rng fun a45 k46 hb47=>?_
  refine Fb 40 1 fun _=>?_
  refine Oq (Vfa Qdd 0) (Oq (Qah QhC 0) (Oq (Qba Qg1) (Oq Qbh (KS ?_))))
  refine pC H hx41 fun hc50 H=>?_
  refine KcH H ?_ ?_
  ·intro h49 H
   have g51:=dt h49
   refine KS ?_
   refine Oq (Vfa QdZ 2) (Oq (Qah QlX 2) (Oq Vm (Oq (Vi Qly 3) (Oq (Vfa Qdd 0) (Oq (Qah QhC 0) (Oq Vm ?_))))))
   refine pC H hx41 fun hc52 H=>?_
   refine pC H hx41 fun hc53 H=>?_
   refine Oq (Vi Qg1 1) ?_
   refine Qcl QpN.toNat 1 rfl rng fun a54 k55 hb56=>?_
   refine Fb 72 1 fun _=>?_
   refine Oq (Vfa QeN 0) (Oq (Qah Qkj 0) (Oq Va (KS ?_)))
   refine Oq Va (KS ?_)
   refine pC H hx41 fun hc69 H=>?_
   refine llH H hx41 fun X70 hX71 hx72 HL73=>?_
   refine Kl (γ:=Nat × Int × Int × Int) (fun (r58,Qo9,QhT,QrA)=>⟨[(1,p2),(6,vi QnD),(4,vi Qo9),(5,vi QhT),(7,vi QpN),(8,.slice a54 (((((p.Funcs.getD QnD.toNat default).Blocks).getD QpN.toNat default).Stmts).length) k55),(9,vi QrA)],[S a54 k55 ((((p.Funcs.getD QnD.toNat default).Blocks).getD QpN.toNat default).Stmts),pv p2 [vl pa0 pk0 p.Funcs],S pa0 pk0 p.Funcs],Qga ((((p.Funcs.getD QnD.toNat default).Blocks).getD QpN.toNat default).Stmts) r58 Qo9 QhT QrA = X70 /\ r58 = (((((((p.Funcs.getD QnD.toNat default).Blocks).getD QpN.toNat default).Stmts).length:Int):Int) - QrA).toNat /\ (0:Int) <= QrA /\ (QrA <= (((((p.Funcs.getD QnD.toNat default).Blocks).getD QpN.toNat default).Stmts).length:Int) \/ QrA = 0) /\ (-9223372036854775808 <= Qo9 /\ Qo9 <= 9223372036854775807) /\ (-9223372036854775808 <= QhT /\ QhT <= 9223372036854775807) /\ (-9223372036854775808 <= QrA /\ QrA <= 9223372036854775807),r58⟩) ((((((((p.Funcs.getD QnD.toNat default).Blocks).getD QpN.toNat default).Stmts).length:Int):Int) - 0).toNat,Qo8,QhS,0) [1,4,5] ⟨hX71,rfl,aM1,(.inr rfl),aM1,aM1,aM1⟩ ?_
   rintro ⟨r58,Qo9,QhT,QrA⟩ ⟨hM62,hr63,hi64,hi65,hk66,hk67,hk68⟩
   refine QaA fun _ _ hL hA=>?_; dsimp only at hL hA; subst hL hA
   refine Fb 72 0 fun _=>Fb 40 2 fun _=>KS ?_
   refine Oq Vm (Oq Vm (Oq (Qba Qgu) (Oq Qbh (KS ?_))))
   refine Kc ?_ ?_
   ·intro h76
    have g77:=dt h76
    obtain ⟨r78,rfl⟩:=scc (n:=r58) aM1
    have H:=hM62; (try dsimp only at H); rw [Qga] at H
    refine KS ?_
    refine Oq Vm ?_
    refine pC H hx72 fun hc79 H=>?_
    refine Oq QaS (Oq Va (KS ?_))
    refine Oq Vm (Oq Vm ?_)
    refine pC H hx72 fun hc80 H=>?_
    refine Oq (Vi Qgu 0) ?_
    refine Qdi QrA.toNat 0 rfl rng fun a81 k82 a83 k84 hb85 hb86=>?_
    unfold Qaa at hb85
    refine Fb 16 1 fun _=>?_
    refine FoS 1 fun ho88=>?_
    refine Fb 16 2 fun _=>?_
    refine FoS 2 fun ho90=>?_
    refine Oq (Vfa Qdv 0) (Oq (Qah sh3 0) (KS ?_))
    refine Oq QbW (Oq Va (KS ?_))
    refine pC H hx72 fun hc92 H=>?_
    refine pF H hx72 fun h91 H=>?_
    refine KcF h91 ?_
    have g93:=ne_of_beq_false h91
    refine KS ?_
    refine Oq QbW (Oq Va (KS ?_))
    refine pF H hx72 fun h94 H=>?_
    refine KcF h94 ?_
    have g95:=ne_of_beq_false h94
    refine KS ?_
    refine Oq Vm ?_
    refine pC H hx72 fun hc96 H=>?_
    refine Oq QaS (Oq Va (KS ?_))
    refine Oq Vm (Oq QaS (Oq Va (KS ?_)))
    refine pC H hx72 fun hc97 H=>?_
    exact Kg (r78,(Qo9 + 1),(QhT + 1),(QrA + 1)) [3,4,5] ⟨H,aM1,aM1,aM1,aM1,aM1,aM1⟩
   intro h76
   have g98:=df h76
   obtain rfl:r58 = 0:=by omega
   have H:=hM62; (try dsimp only at H); rw [Qga] at H
   refine Ke ?_
   have H:=llB H HL73
   dsimp only at H
   refine KS ?_
   refine Oq Vm ?_
   refine pC H hx41 fun hc99 H=>?_
   refine Oq QaS (Oq Va (KS ?_))
   exact Kg (r31,Qo9,QhT,(QpN + 1)) [1,2] ⟨H,aM1,aM1,aM1⟩
  intro h49 H
  have g100:=df h49
  refine Ke ?_
  have H:=llB H HL42
  dsimp only at H
  refine KS ?_
  refine Oq Vm (Oq QaS (Oq Va (KS ?_)))
  refine pC H hx23 fun hc101 H=>?_
  exact Kg (r28,Qo8,QhS,(QnD + 1)) [2,3] ⟨H,aM1,aM1,aM1,aM1,aM1,aM1⟩
 intro h26
 have g102:=df h26
 obtain rfl:r10 = 0:=by omega
 have H:=hM14; (try dsimp only at H); rw [QfQ] at H
 refine Ke ?_
 have H:=llB H HL24
 dsimp only at H
 refine KS ?_
 refine Oq Vm (Oq Vm (Oq Va (Oq Va (KS ?_))))
 have hq:=rI H; subst hq
 exact Kr () rfl (.tmp rfl (.tmp rfl .nil)) [] en
theorem Qtp (p:Qaz) (pa0:Option Addr) (pk0:Nat) (rr:Qbg × Int) (hrr:Qjq p = .ret rr):FT Tryz.prog 125 #[.agg #[vl pa0 pk0 p.Funcs]] [S pa0 pk0 p.Funcs] (fun g:Unit=>Qaa rr.1.Kind /\ Qaa rr.1.Func /\ Qaa rr.1.Block /\ Qaa rr.1.Stmt /\ Qaa rr.2) (fun g=>.tuple #[.agg #[vi rr.1.Kind,vi rr.1.Func,vi rr.1.Block,vi rr.1.Stmt],vi rr.2]) (fun g=>[]):=by
 refine FTi Tryz.func125 fun w0 M0 F0=>Fb 40 0 fun _=>?_
 have hx0:=lrn rr; have H:=hrr; unfold Qjq at H
 refine KS ?_
 refine Oa (Ab [vl pa0 pk0 p.Funcs]) fun p2=>Oa (Al Qrg [vi 0,vi 0,vi 0,vi 0]) fun p3=>Oq Va (KS ?_)
 refine Oq (Qau QjT 1) ?_
 refine lbH H hx0 fun rv4 hg5 H=>?_
 have hc6:=Qum p pa0 pk0 rv4 hg5
 refine Oc [2] Que hc6 ?_
 rintro - -
 refine Oq Qcy (KS ?_)
 refine pF H hx0 fun h7 H=>?_
 refine KcF h7 ?_
 have h9:=not_false h7
 refine KS ?_
 refine Oq (Qau QjT 1) ?_
 refine lbH H hx0 fun rv12 hg13 H=>?_
 have hc14:=QxI p pa0 pk0 rv12 hg13
 refine Oc [2] Qx3 hc14 ?_
 rintro c11 -
 refine Jo 0 ?_; rintro a15 k16 rfl
 refine Fb 16 0 fun _=>?_
 refine FoS 0 fun ho18=>?_
 refine lbH H hx0 fun rv19 hg20 H=>?_
 have hc21:=QuS rv12 a15 k16 rv19 hg20
 refine Oc [0] Qwp hc21 ?_
 rintro - he22
 unfold Qaa at he22
 refine Oq Va (KS ?_)
 refine Oq Vm (Oq Qg8 (KS ?_))
 refine pF H hx0 fun h23 H=>?_
 refine KcF h23 ?_
 have g24:=df h23
 refine KS ?_
 refine Oq Va (KS ?_)
 refine llH H hx0 fun X32 hX33 hx34 HL35=>?_
 refine Kl (γ:=Nat × Int) (fun (r25,QhU)=>⟨[(1,p2),(2,p3),(5,vi QhU)],[Cl p3 [vi 0,vi 0,vi 0,vi 0],pv p2 [vl pa0 pk0 p.Funcs],S pa0 pk0 p.Funcs],Qf3 p r25 QhU = X32 /\ r25 = ((p.Funcs.length:Int) - QhU).toNat /\ (0:Int) <= QhU /\ QhU <= (p.Funcs.length:Int) /\ (-9223372036854775808 <= QhU /\ QhU <= 9223372036854775807),r25⟩) (((p.Funcs.length:Int) - 0).toNat,0) [1,1,2] ⟨hX33,rfl,aM1,aM1,aM1⟩ ?_
 rintro ⟨r25,QhU⟩ ⟨hM27,hr28,hi29,hi30,hk31⟩
 refine QaA fun _ _ hL hA=>?_; dsimp only at hL hA; subst hL hA
 refine Fb 40 2 fun _=>KS ?_
 refine Oq Vm (Oq (Vfa QdZ 1) (Oq (Qah QlX 1) (Oq (Qba Qly) (Oq Qbh (KS ?_)))))
 refine Kc ?_ ?_
 ·intro h37
  have g38:=dt h37
  obtain ⟨r39,rfl⟩:=scc (n:=r25) aM1
  have H:=hM27; (try dsimp only at H); rw [Qf3] at H
  refine KS ?_
  refine Oq (Vfa QdZ 1) (Oq (Qah QlX 1) (Oq Vm ?_))
  refine pC H hx34 fun hc40 H=>?_
  refine Oq (Vi Qly 2) ?_
  refine QcR QhU.toNat 2 rfl rng fun a41 k42 hb43=>?_
  refine Fb 40 1 fun _=>?_
  refine Oq (Qau Ql8 0) (Oa (Al QrZ [.string (bs (Str.mk [])),.slice none 0 0]) fun p45=>Ost (Scl [0] Ql8 [.string (bs ((p.Funcs.getD QhU.toNat default).Name)),vl a41 k42 ((p.Funcs.getD QhU.toNat default).Blocks)]) (KS ?_))
  refine Oq (Qau Ql8 0) ?_
  refine pC H hx34 fun hc49 H=>?_
  refine lbH H hx34 fun rv47 hg48 H=>?_
  have hc50:=QuR ((p.Funcs.getD QhU.toNat default)) a41 k42 pre rv47 hg48
  refine Oc [2] Qwl hc50 ?_
  rintro c46 -
  refine Jo 0 ?_; rintro a51 k52 rfl
  refine Fb 16 0 fun _=>?_
  refine FoS 0 fun ho54=>?_
  refine lbH H hx34 fun rv55 hg56 H=>?_
  have hc57:=QuS rv47 a51 k52 rv55 hg56
  refine Oc [0] Qwp hc57 ?_
  rintro - he58
  unfold Qaa at he58
  refine Oq Va (KS ?_)
  refine Oq Vm (Oq Qg8 (KS ?_))
  refine pF H hx34 fun h59 H=>?_
  refine KcF h59 ?_
  have g60:=df h59
  refine KS ?_
  refine Oq Va (KS ?_)
  refine llH H hx34 fun X68 hX69 hx70 HL71=>?_
  refine Kl (γ:=Nat × Int) (fun (r61,QlY)=>⟨[(1,p2),(2,p3),(5,vi QhU),(6,p45),(8,vi QlY)],[Cl p45 [.string (bs ((p.Funcs.getD QhU.toNat default).Name)),vl a41 k42 ((p.Funcs.getD QhU.toNat default).Blocks)],S a41 k42 ((p.Funcs.getD QhU.toNat default).Blocks),Cl p3 [vi 0,vi 0,vi 0,vi 0],pv p2 [vl pa0 pk0 p.Funcs],S pa0 pk0 p.Funcs],Qgd p ((p.Funcs.getD QhU.toNat default).Name) ((p.Funcs.getD QhU.toNat default).Blocks) r61 QlY = X68 /\ r61 = (((((p.Funcs.getD QhU.toNat default).Blocks).length:Int):Int) - QlY).toNat /\ (0:Int) <= QlY /\ (QlY <= (((p.Funcs.getD QhU.toNat default).Blocks).length:Int) \/ QlY = 0) /\ (-9223372036854775808 <= QlY /\ QlY <= 9223372036854775807),r61⟩) ((((((p.Funcs.getD QhU.toNat default).Blocks).length:Int):Int) - 0).toNat,0) [1,2,3,3,4] ⟨hX69,rfl,aM1,(.inr rfl),aM1⟩ ?_
  rintro ⟨r61,QlY⟩ ⟨hM63,hr64,hi65,hi66,hk67⟩
  refine QaA fun _ _ hL hA=>?_; dsimp only at hL hA; subst hL hA
  refine Fb 40 1 fun _=>Fb 40 4 fun _=>KS ?_
  refine Oq Vm (Oq (Vfa Qdd 0) (Oq (Qah QhC 0) (Oq (Qba Qg1) (Oq Qbh (KS ?_)))))
  refine Kc ?_ ?_
  ·intro h74
   have g75:=dt h74
   obtain ⟨r76,rfl⟩:=scc (n:=r61) aM1
   have H:=hM63; (try dsimp only at H); rw [Qgd] at H
   refine KS ?_
   refine Oq (Vfa Qdd 0) (Oq (Qah QhC 0) (Oq Vm ?_))
   refine pC H hx70 fun hc77 H=>?_
   refine Oq (Vi Qg1 1) ?_
   refine Qcl QlY.toNat 1 rfl rng fun a78 k79 hb80=>?_
   refine Fb 72 1 fun _=>?_
   refine Oq (Vfa QeN 0) (Oq (Qah Qkj 0) (Oq Va (KS ?_)))
   refine Oq Va (KS ?_)
   refine pC H hx70 fun hc89 H=>?_
   refine llH H hx70 fun X90 hX91 hx92 HL93=>?_
   refine Kl (γ:=Nat × Int) (fun (r82,QpO)=>⟨[(1,p2),(2,p3),(5,vi QhU),(6,p45),(8,vi QlY),(9,.slice a78 (((((p.Funcs.getD QhU.toNat default).Blocks).getD QlY.toNat default).Stmts).length) k79),(10,vi QpO)],[S a78 k79 ((((p.Funcs.getD QhU.toNat default).Blocks).getD QlY.toNat default).Stmts),Cl p45 [.string (bs ((p.Funcs.getD QhU.toNat default).Name)),vl a41 k42 ((p.Funcs.getD QhU.toNat default).Blocks)],S a41 k42 ((p.Funcs.getD QhU.toNat default).Blocks),Cl p3 [vi 0,vi 0,vi 0,vi 0],pv p2 [vl pa0 pk0 p.Funcs],S pa0 pk0 p.Funcs],Qf9 p ((p.Funcs.getD QhU.toNat default).Name) ((p.Funcs.getD QhU.toNat default).Blocks) ((((p.Funcs.getD QhU.toNat default).Blocks).getD QlY.toNat default).Stmts) r82 QpO = X90 /\ r82 = (((((((p.Funcs.getD QhU.toNat default).Blocks).getD QlY.toNat default).Stmts).length:Int):Int) - QpO).toNat /\ (0:Int) <= QpO /\ (QpO <= (((((p.Funcs.getD QhU.toNat default).Blocks).getD QlY.toNat default).Stmts).length:Int) \/ QpO = 0) /\ (-9223372036854775808 <= QpO /\ QpO <= 9223372036854775807),r82⟩) ((((((((p.Funcs.getD QhU.toNat default).Blocks).getD QlY.toNat default).Stmts).length:Int):Int) - 0).toNat,0) [1,2,2,3,3,4] ⟨hX91,rfl,aM1,(.inr rfl),aM1⟩ ?_
   rintro ⟨r82,QpO⟩ ⟨hM84,hr85,hi86,hi87,hk88⟩
   refine QaA fun _ _ hL hA=>?_; dsimp only at hL hA; subst hL hA
   refine Fb 72 0 fun _=>Fb 40 2 fun _=>Fb 40 5 fun _=>KS ?_
   refine Oq Vm (Oq Vm (Oq (Qba Qgu) (Oq Qbh (KS ?_))))
   refine Kc ?_ ?_
   ·intro h97
    have g98:=dt h97
    obtain ⟨r99,rfl⟩:=scc (n:=r82) aM1
    have H:=hM84; (try dsimp only at H); rw [Qf9] at H
    refine KS ?_
    refine pC H hx92 fun hc100 H=>?_
    refine Qdi QpO.toNat 0 rfl rng fun a101 k102 a103 k104 hb105 hb106=>?_
    unfold Qaa at hb105
    refine Fb 16 1 fun _=>?_
    refine FoS 1 fun ho108=>?_
    refine Fb 16 2 fun _=>?_
    refine FoS 2 fun ho110=>?_
    refine Qam [0,0,0,0,12,28,0,0,128,384,960,2047,4095] Qco ?_
    refine Dv [7] (Qau QjT 0) (Dv [4] (Qau Ql8 0) (Dv [] Vm (Dv [] Vm (Dv [3] (Vi Qgu 0) (Dv [0] (Qau Qd1 0) (Dv [] Vm (Dv [] Vm (Dv [] (Qba Qgu) ?_))))))))
    refine pC H hx92 fun hc111 H=>?_
    refine pC H hx92 fun hc112 H=>?_
    refine Dv [] QjU (Dv [] QbW ?_)
    refine lbH H hx92 fun rv113 hg114 H=>?_
    refine Dx [1,2,5,8] [] [1,2,3,4,0] (fun G=>vi rv113) [fun G=>SP.fact (Qaa rv113)] (fun G=>xC [3,2,0,1] Qyd (QwY p pa0 pk0 ((p.Funcs.getD QhU.toNat default)) a41 k42 ((((((p.Funcs.getD QhU.toNat default).Blocks).getD QlY.toNat default).Stmts).getD QpO.toNat default)) a101 k102 a103 k104 ((QpO == ((((((p.Funcs.getD QhU.toNat default).Blocks).getD QlY.toNat default).Stmts).length:Int) - 1))) pre pre pre rv113 hg114)) (Dv [] Va ?_)
    refine Dn ⟨by kernel_rfl,fun G=>?_⟩
    refine Jw2 [(1,p2),(2,p3),(5,vi QhU),(6,p45),(8,vi QlY),(9,.slice a78 (((((p.Funcs.getD QhU.toNat default).Blocks).getD QlY.toNat default).Stmts).length) k79),(10,vi QpO),(11,vi rv113)] [0,1,2,3,4,5,6,7,8] [SP.fact (Qaa rv113)] ?_
    refine Jf 9 rfl ?_; rintro he115
    unfold Qaa at he115
    refine Jk [0,1,2,3,4,4,5,5,6] ?_
    refine KS ?_
    refine Oq Vm (Oq QfZ (KS ?_))
    refine pF H hx92 fun h116 H=>?_
    refine KcF h116 ?_
    have g117:=Qae h116
    refine KS ?_
    refine Oq Vm (Oq QaS (Oq Va (KS ?_)))
    refine pC H hx92 fun hc118 H=>?_
    exact Kg (r99,(QpO + 1)) [3,4,4,5,5,6] ⟨H,aM1,aM1,aM1,aM1⟩
   intro h97
   have g119:=df h97
   obtain rfl:r82 = 0:=by omega
   have H:=hM84; (try dsimp only at H); rw [Qf9] at H
   refine Ke ?_
   have H:=llB H HL93
   refine KS ?_
   refine Oq Vm (Oq QaS (Oq Va (KS ?_)))
   refine pC H hx70 fun hc120 H=>?_
   exact Kg (r76,(QlY + 1)) [1,1,2,2,3] ⟨H,aM1,aM1,aM1,aM1⟩
  intro h74
  have g121:=df h74
  obtain rfl:r61 = 0:=by omega
  have H:=hM63; (try dsimp only at H); rw [Qgd] at H
  refine Ke ?_
  have H:=llB H HL71
  refine KS ?_
  refine Oq Vm (Oq QaS (Oq Va (KS ?_)))
  refine pC H hx34 fun hc122 H=>?_
  exact Kg (r39,(QhU + 1)) [2,2,3] ⟨H,aM1,aM1,aM1,aM1⟩
 intro h37
 have g123:=df h37
 obtain rfl:r25 = 0:=by omega
 have H:=hM27; (try dsimp only at H); rw [Qf3] at H
 refine Ke ?_
 have H:=llB H HL35
 refine KS ?_
 refine Oq (Qau QjT 1) ?_
 refine lbH H hx0 fun rv124 hg125 H=>?_
 have hc126:=Qyt p pa0 pk0 rv124 hg125
 refine Oc [2] Qyy hc126 ?_
 rintro - ⟨he127,he128⟩
 unfold Qaa at he127 he128
 refine Oq Vm (Oq Vx (Oq Vx (Oq Va (Oq Va (KS ?_)))))
 refine Oq (Qau QjT 1) ?_
 refine lbH H hx0 fun rv130 hg131 H=>?_
 have hc132:=Qti p pa0 pk0 rv130 hg131
 refine Oc [2] QtA hc132 ?_
 rintro c129 -
 refine Jo 0 ?_; rintro a133 k134 rfl
 refine Fb 16 0 fun _=>?_
 refine FoS 0 fun ho136=>?_
 refine Oq (Qba Qcb) (Oq Qgr (Oq Vm ?_))
 refine pF H hx0 fun h137 H=>?_
 refine JsF 92 h137 ?_
 have g138:=df h137
 refine Oq Vm (Oq Qgr (Oq Vpf (Oq Vm ?_)))
 refine pF H hx0 fun h139 H=>?_
 refine JsF 96 h139 ?_
 have g140:=df h139
 refine Oq Vm (Oq Qgr (Oq Vpf (KS ?_)))
 refine pF H hx0 fun h141 H=>?_
 refine KcF h141 ?_
 have g142:=df h141
 refine KS ?_
 refine Oq (Vbd Qor [vi 0,vi 0,vi 0,vi 0]) (Ost (Scl [1] Qj2 [vi 0,vi 0,vi 0,vi 0]) (Oq Va (KS ?_)))
 have hq:=rI H; subst hq
 exact Kr () rfl (.cellN 0 rfl Qj2 rfl (Qal _ _) rfl (.tmp rfl .nil)) [] en
theorem QtM (p:Qaz) (pa0:Option Addr) (pk0:Nat) (rr:List Qbg) (hrr:Qld p = .ret rr):FT Tryz.prog 127 #[.agg #[vl pa0 pk0 p.Funcs]] [S pa0 pk0 p.Funcs] (fun g:Value=>True) (fun g=>g) (fun g=>[sl g rr]):=by
 refine FTi Tryz.func127 fun w0 M0 F0=>Fb 40 0 fun _=>?_
 have hx0:=lrn rr; have H:=hrr; unfold Qld at H
 refine KS ?_
 refine Oa (Ab [vl pa0 pk0 p.Funcs]) fun p2=>Oq Va (KS ?_)
 refine Oq Va (KS ?_)
 refine Oq (Qau QjT 0) ?_
 refine lbH H hx0 fun rv3 hg4 H=>?_
 have hc5:=Qtp p pa0 pk0 rv3 hg4
 refine Oc [1] Qtx hc5 ?_
 rintro - ⟨he6,he7,he8,he9,he10⟩
 unfold Qaa at he6 he7 he8 he9 he10
 refine Oq Vm (Oq Vx (Oq Vx (Oa (Al Qrg [vi 0,vi 0,vi 0,vi 0]) fun p11=>Ost (Scl [0] Qj2 [vi rv3.1.Kind,vi rv3.1.Func,vi rv3.1.Block,vi rv3.1.Stmt]) (Oq Va (KS ?_)))))
 refine Oq Vm (Oq QfZ (KS ?_))
 refine pF H hx0 fun h12 H=>?_
 refine KcF h12 ?_
 have g13:=Qae h12
 refine KS ?_
 refine Oq Va (KS ?_)
 refine Jl [] (Ent.osNil (α:=Qbg)) ?_
 refine llH H hx0 fun X24 hX25 hx26 HL27=>?_
 refine Kl (γ:=Nat × List Qbg × Int × Option Addr × Nat) (fun (r14,QlQ,QeL,a17,k18)=>⟨[(1,p2),(3,vl a17 k18 QlQ),(6,vi QeL)],[O a17 k18 QlQ,pv p2 [vl pa0 pk0 p.Funcs],S pa0 pk0 p.Funcs],Qg9 p r14 QlQ QeL = X24 /\ r14 = ((p.Funcs.length:Int) - QeL).toNat /\ (0:Int) <= QeL /\ QeL <= (p.Funcs.length:Int) /\ (-9223372036854775808 <= QeL /\ QeL <= 9223372036854775807),r14⟩) (((p.Funcs.length:Int) - 0).toNat,[],0,none,0) [0,1,2] ⟨hX25,rfl,aM1,aM1,aM1⟩ ?_
 rintro ⟨r14,QlQ,QeL,a17,k18⟩ ⟨hM19,hr20,hi21,hi22,hk23⟩
 refine QaA fun _ _ hL hA=>?_; dsimp only at hL hA; subst hL hA
 refine Fb 32 0 fun _=>Fb 40 2 fun _=>KS ?_
 refine Oq Vm (Oq (Vfa QdZ 1) (Oq (Qah QlX 1) (Oq (Qba Qly) (Oq Qbh (KS ?_)))))
 refine Kc ?_ ?_
 ·intro h30
  have g31:=dt h30
  obtain ⟨r32,rfl⟩:=scc (n:=r14) aM1
  have H:=hM19; (try dsimp only at H); rw [Qg9] at H
  refine KS ?_
  refine Oq Vm (Oq Vm (Oq (Vbd Qor [vi 1,vi QeL,vi (-1),vi (-1)]) (Oa (AsV Qgf Qp9 [.agg #[vi 1,vi QeL,vi (-1),vi (-1)]] [vi 1,vi QeL,vi (-1),vi (-1)]) fun c33=>?_)))
  refine Jo 0 ?_; rintro a34 k35 rfl
  refine Jl [0] (Ent.cr1 (α:=Qbg) (A:=[]) _ (Qbg.mk 1 QeL (-1) (-1)) _ aB1 (fun h=>⟨rfl,aL1,aL1,aL1,aL1⟩)) ?_
  refine pC H hx26 fun hc36 H=>?_
  refine Oa (ApO [1,0] Qgf Qgf Qp9) fun c37=>?_
  refine Jo 0 ?_; rintro a38 k39 rfl
  refine Fb 32 0 fun _=>?_
  have hn41:=la QlQ ([(Qbg.mk 1 QeL (-1) (-1))]:List Qbg)
  refine Oq Va (KS ?_)
  refine Oq Va (KS ?_)
  refine llH H hx26 fun X49 hX50 hx51 HL52=>?_
  refine Kl (γ:=Nat × List Qbg × Int × Option Addr × Nat) (fun (r42,QlR,Qmg,a45,k46)=>⟨[(1,p2),(6,vi QeL),(3,vl a45 k46 QlR),(7,vi Qmg)],[O a45 k46 QlR,pv p2 [vl pa0 pk0 p.Funcs],S pa0 pk0 p.Funcs],Qim p QeL r42 QlR Qmg = X49 /\ (-9223372036854775808 <= Qmg /\ Qmg <= 9223372036854775807),r42⟩) (100000,(QlQ ++ [(Qbg.mk 1 QeL (-1) (-1))]),0,a38,k39) [0,0,1] ⟨hX50,aM1⟩ ?_
  rintro ⟨r42,QlR,Qmg,a45,k46⟩ ⟨hM47,hk48⟩
  refine QaA fun _ _ hL hA=>?_; dsimp only at hL hA; subst hL hA
  refine Fb 32 0 fun _=>Fb 40 2 fun _=>?_
  rcases r42 with _ | r42
  ·exact absurd (hM47.symm.trans rfl) hx51
  have H:=hM47; (try dsimp only at H); rw [Qim] at H
  refine KS ?_
  refine Oq Vm (Oq (Vfa QdZ 1) (Oq (Qah QlX 1) (Oq Vm ?_)))
  refine pC H hx51 fun hc55 H=>?_
  refine Oq (Vi Qly 2) ?_
  refine QcR QeL.toNat 2 rfl rng fun a56 k57 hb58=>?_
  refine Fb 40 1 fun _=>?_
  refine Oq (Vfa Qdd 0) (Oq (Qah QhC 0) (Oq (Qba Qg1) (Oq Qbh (KS ?_))))
  refine pC H hx51 fun hc61 H=>?_
  refine KcH H ?_ ?_
  ·intro h60 H
   have g62:=dt h60
   refine KS ?_
   refine Oq (Vfa QdZ 3) (Oq (Qah QlX 3) (Oq Vm (Oq (Vi Qly 4) (Oq (Vfa Qdd 0) (Oq (Qah QhC 0) (Oq Vm ?_))))))
   refine pC H hx51 fun hc63 H=>?_
   refine pC H hx51 fun hc64 H=>?_
   refine Oq (Vi Qg1 1) ?_
   refine Qcl Qmg.toNat 1 rfl rng fun a65 k66 hb67=>?_
   refine Fb 72 1 fun _=>?_
   refine Oq (Vfa QeN 0) (Oq (Qah Qkj 0) (Oq Va (KS ?_)))
   refine Oq Va (KS ?_)
   refine pC H hx51 fun hc79 H=>?_
   refine llH H hx51 fun X80 hX81 hx82 HL83=>?_
   refine Kl (γ:=Nat × List Qbg × Int × Option Addr × Nat) (fun (r69,QlS,Qok,a72,k73)=>⟨[(1,p2),(6,vi QeL),(3,vl a72 k73 QlS),(7,vi Qmg),(8,.slice a65 (((((p.Funcs.getD QeL.toNat default).Blocks).getD Qmg.toNat default).Stmts).length) k66),(9,vi Qok)],[O a72 k73 QlS,S a65 k66 ((((p.Funcs.getD QeL.toNat default).Blocks).getD Qmg.toNat default).Stmts),pv p2 [vl pa0 pk0 p.Funcs],S pa0 pk0 p.Funcs],Qg4 QeL Qmg ((((p.Funcs.getD QeL.toNat default).Blocks).getD Qmg.toNat default).Stmts) r69 QlS Qok = X80 /\ r69 = (((((((p.Funcs.getD QeL.toNat default).Blocks).getD Qmg.toNat default).Stmts).length:Int):Int) - Qok).toNat /\ (0:Int) <= Qok /\ (Qok <= (((((p.Funcs.getD QeL.toNat default).Blocks).getD Qmg.toNat default).Stmts).length:Int) \/ Qok = 0) /\ (-9223372036854775808 <= Qok /\ Qok <= 9223372036854775807),r69⟩) ((((((((p.Funcs.getD QeL.toNat default).Blocks).getD Qmg.toNat default).Stmts).length:Int):Int) - 0).toNat,QlR,0,a45,k46) [4,1,4,5] ⟨hX81,rfl,aM1,(.inr rfl),aM1⟩ ?_
   rintro ⟨r69,QlS,Qok,a72,k73⟩ ⟨hM74,hr75,hi76,hi77,hk78⟩
   refine QaA fun _ _ hL hA=>?_; dsimp only at hL hA; subst hL hA
   refine Fb 32 0 fun _=>Fb 72 1 fun _=>Fb 40 3 fun _=>KS ?_
   refine Oq Vm (Oq Vm (Oq (Qba Qgu) (Oq Qbh (KS ?_))))
   refine Kc ?_ ?_
   ·intro h87
    have g88:=dt h87
    obtain ⟨r89,rfl⟩:=scc (n:=r69) aM1
    have H:=hM74; (try dsimp only at H); rw [Qg4] at H
    refine KS ?_
    refine Oq Vm (Oq Vm (Oq Vm (Oq Vm (Oq (Vbd Qor [vi 3,vi QeL,vi Qmg,vi Qok]) (Oa (AsV Qgf Qp9 [.agg #[vi 3,vi QeL,vi Qmg,vi Qok]] [vi 3,vi QeL,vi Qmg,vi Qok]) fun c90=>?_)))))
    refine Jo 0 ?_; rintro a91 k92 rfl
    refine Jl [0] (Ent.cr1 (α:=Qbg) (A:=[]) _ (Qbg.mk 3 QeL Qmg Qok) _ aB1 (fun h=>⟨rfl,aL1,aL1,aL1,aL1⟩)) ?_
    refine pC H hx82 fun hc93 H=>?_
    refine Oa (ApO [1,0] Qgf Qgf Qp9) fun c94=>?_
    refine Jo 0 ?_; rintro a95 k96 rfl
    refine Fb 32 0 fun _=>?_
    have hn98:=la QlS ([(Qbg.mk 3 QeL Qmg Qok)]:List Qbg)
    refine Oq Va (KS ?_)
    refine Oq Vm (Oq Vm ?_)
    refine pC H hx82 fun hc99 H=>?_
    refine Oq (Vi Qgu 1) ?_
    refine Qdi Qok.toNat 1 rfl rng fun a100 k101 a102 k103 hb104 hb105=>?_
    unfold Qaa at hb104
    refine Fb 16 1 fun _=>?_
    refine FoS 1 fun ho107=>?_
    refine Fb 16 2 fun _=>?_
    refine FoS 2 fun ho109=>?_
    refine Oq (Vfa Qdv 0) (Oq (Qah sh3 0) (Oq QbW (KS ?_)))
    refine pC H hx82 fun hc111 H=>?_
    refine pF H hx82 fun h110 H=>?_
    refine KcF h110 ?_
    have g112:=ne_of_beq_false h110
    refine KS ?_
    refine Oq Vm (Oq QaS (Oq Va (KS ?_)))
    refine pC H hx82 fun hc113 H=>?_
    exact Kg (r89,(QlS ++ [(Qbg.mk 3 QeL Qmg Qok)]),(Qok + 1),a95,k96) [3,3,4,5] ⟨H,aM1,aM1,aM1,aM1⟩
   intro h87
   have g114:=df h87
   obtain rfl:r69 = 0:=by omega
   have H:=hM74; (try dsimp only at H); rw [Qg4] at H
   refine Ke ?_
   have H:=llB H HL83
   refine KS ?_
   refine Oq Vm ?_
   refine pC H hx51 fun hc115 H=>?_
   refine Oq QaS (Oq Va (KS ?_))
   exact Kg (r42,QlS,(Qmg + 1),a72,k73) [0,1,2] ⟨H,aM1⟩
  intro h60 H
  have g116:=df h60
  refine Ke ?_
  have H:=llB H HL52
  refine KS ?_
  refine Oq Vm (Oq Vm (Oq (Vbd Qor [vi 2,vi QeL,vi (-1),vi (-1)]) (Oa (AsV Qgf Qp9 [.agg #[vi 2,vi QeL,vi (-1),vi (-1)]] [vi 2,vi QeL,vi (-1),vi (-1)]) fun c117=>?_)))
  refine Jo 0 ?_; rintro a118 k119 rfl
  refine Jl [0] (Ent.cr1 (α:=Qbg) (A:=[]) _ (Qbg.mk 2 QeL (-1) (-1)) _ aB1 (fun h=>⟨rfl,aL1,aL1,aL1,aL1⟩)) ?_
  refine pC H hx26 fun hc120 H=>?_
  refine Oa (ApO [3,0] Qgf Qgf Qp9) fun c121=>?_
  refine Jo 0 ?_; rintro a122 k123 rfl
  refine Fb 32 0 fun _=>?_
  have hn125:=la QlR ([(Qbg.mk 2 QeL (-1) (-1))]:List Qbg)
  refine Oq Va (KS ?_)
  refine Oq Vm (Oq QaS (Oq Va (KS ?_)))
  refine pC H hx26 fun hc126 H=>?_
  exact Kg (r32,(QlR ++ [(Qbg.mk 2 QeL (-1) (-1))]),(QeL + 1),a122,k123) [0,2,3] ⟨H,aM1,aM1,aM1,aM1⟩
 intro h30
 have g127:=df h30
 obtain rfl:r14 = 0:=by omega
 have H:=hM19; (try dsimp only at H); rw [Qg9] at H
 refine Ke ?_
 have H:=llB H HL27
 refine KS ?_
 refine Oq Vm (Oq Va (KS ?_))
 refine Jl [0] (Ent.freeze _ _) ?_
 have hq:=rI H; subst hq
 exact Kr (vl a17 k18 QlQ) rfl (.tmp rfl .nil) [0] trivial
theorem Qvo (s:Qc7) (sa2:Option Addr) (sk2:Nat) (sa3:Option Addr) (sk3:Nat) (Qcc:Qaa s.Op) (QyY:s.Def.b.length <= 140737488355328) (rr:Bool) (hrr:Qir s = .ret rr):FT Tryz.prog 128 #[.agg #[vi s.Op,.string (bs s.Def),vl sa2 sk2 s.Uses,vl sa3 sk3 s.Targets]] [S sa2 sk2 s.Uses,S sa3 sk3 s.Targets] (fun g:Unit=>True) (fun g=>vb rr) (fun g=>[]):=by
 refine FTi Tryz.func128 fun w0 M0 F0=>?_
 unfold Qaa at Qcc
 refine Fb 16 0 fun _=>?_
 refine FoS 0 fun ho2=>?_
 refine Fb 16 1 fun _=>?_
 refine FoS 1 fun ho4=>?_
 have hx0:=lrn rr; have H:=hrr; unfold Qir at H
 refine KS ?_
 refine Oa (Ab [vi s.Op,.string (bs s.Def),vl sa2 sk2 s.Uses,vl sa3 sk3 s.Targets]) fun p5=>Oq Va (KS ?_)
 refine Oq (Vfa Qdv 0) (Oq (Qah sh3 0) (Oq QbW (Oq Vm ?_)))
 refine JsH 6 H ?_ ?_
 ·intro h6 H
  have g7:=eq_of_beq h6
  refine Osk (Osk (Osk (Oq Vpt (Oq Vm (Osk (Osk (Osk (Oq Vpt (Oq Va ?_)))))))))
  refine KS ?_
  have hq:=rI H; subst hq
  exact Kr () rfl (.tmp rfl .nil) [] trivial
 intro h6 H
 have g8:=ne_of_beq_false h6
 refine Oq (Vfa Qdv 0) (Oq (Qah sh3 0) (Oq QbW (Oq Vpf (Oq Vm ?_))))
 refine pF H hx0 fun h9 H=>?_
 refine JsF 11 h9 ?_
 have g10:=ne_of_beq_false h9
 refine Oq (Vfa Qdv 0) (Oq (Qah sh3 0) (Oq QbW (Oq Vpf (Oq Va (KS ?_)))))
 have hq:=rI H; subst hq
 exact Kr () rfl (.tmp rfl .nil) [] trivial
theorem Qr5 (l:List Qbg) (la0:Option Addr) (lk0:Nat) (n:Qbg) (Qgv:Qaa n.Kind) (Qwu:Qaa n.Func) (Qwv:Qaa n.Block) (Qww:Qaa n.Stmt) (rr:Int) (hrr:Qip l n = .ret rr):FT Tryz.prog 167 #[vl la0 lk0 l,.agg #[vi n.Kind,vi n.Func,vi n.Block,vi n.Stmt]] [S la0 lk0 l] (fun g:Unit=>Qaa rr) (fun g=>vi rr) (fun g=>[]):=by
 refine FTi Tryz.func167 fun w0 M0 F0=>?_
 unfold Qaa at Qgv Qwu Qwv Qww
 refine Fb 32 0 fun _=>?_
 have hx0:=lrn rr; have H:=hrr; unfold Qip at H
 refine KS ?_
 refine Oa (Ab [vi n.Kind,vi n.Func,vi n.Block,vi n.Stmt]) fun p2=>Oq Va (KS ?_)
 refine Oq Va (KS ?_)
 refine llH H hx0 fun X10 hX11 hx12 HL13=>?_
 refine Kl (γ:=Nat × Int) (fun (r3,i_4)=>⟨[(0,vl la0 lk0 l),(3,p2),(5,vi i_4)],[pv p2 [vi n.Kind,vi n.Func,vi n.Block,vi n.Stmt],S la0 lk0 l],Qgi l n r3 i_4 = X10 /\ r3 = ((l.length:Int) - i_4).toNat /\ (0:Int) <= i_4 /\ i_4 <= (l.length:Int) /\ (-9223372036854775808 <= i_4 /\ i_4 <= 9223372036854775807),r3⟩) (((l.length:Int) - 0).toNat,0) [0,1] ⟨hX11,rfl,aM1,aM1,aM1⟩ ?_
 rintro ⟨r3,i_4⟩ ⟨hM5,hr6,hi7,hi8,hk9⟩
 refine QaA fun _ _ hL hA=>?_; dsimp only at hL hA; subst hL hA
 refine Fb 32 1 fun _=>KS ?_
 refine Oq Vm (Oq Vm (Oq (Qba Qgf) (Oq Qbh (KS ?_))))
 refine Kc ?_ ?_
 ·intro h15
  have g16:=dt h15
  obtain ⟨r17,rfl⟩:=scc (n:=r3) aM1
  have H:=hM5; (try dsimp only at H); rw [Qgi] at H
  refine KS ?_
  refine pC H hx12 fun hc18 H=>?_
  refine QeF i_4.toNat 1 rfl rng fun hb19 hb20 hb21 hb22=>?_
  unfold Qaa at hb19 hb20 hb21 hb22
  refine Kq [0,0,3,7,0,31] Qco ?_
  refine Qv [] Vm (Qv [] Vm (Qv [2] (Vi Qgf 0) (Qv [0] (Qau Qj2 0) (Qv [1] (Qau Qj2 0) (Qv [] (Qzv Qwm (l:=[(l.getD i_4.toNat default).Kind,(l.getD i_4.toNat default).Func,(l.getD i_4.toNat default).Block,(l.getD i_4.toNat default).Stmt]) (m:=[n.Kind,n.Func,n.Block,n.Stmt])) ?_)))))
  refine Qn ⟨by kernel_rfl,?_⟩
  refine pC H hx12 fun hc24 H=>?_
  refine KcH H ?_ ?_
  ·intro h23 H
   have g25:=eq_of_beq h23
   refine KS ?_
   refine Oq Vm (Oq Va (KS ?_))
   have H:=llR H HL13
   have hq:=rI H; subst hq
   exact Kr () rfl (.tmp rfl .nil) [] en
  intro h23 H
  have g26:=ne_of_beq_false h23
  refine KS ?_
  refine Oq Vm (Oq QaS (Oq Va (KS ?_)))
  refine pC H hx12 fun hc27 H=>?_
  exact Kg (r17,(i_4 + 1)) [1,2] ⟨H,aM1,aM1,aM1,aM1⟩
 intro h15
 have g28:=df h15
 obtain rfl:r3 = 0:=by omega
 have H:=hM5; (try dsimp only at H); rw [Qgi] at H
 exact absurd H.symm hx12
theorem Qxp (p:Qaz) (pa0:Option Addr) (pk0:Nat) (n:Qbg) (Qgv:Qaa n.Kind) (Qwu:Qaa n.Func) (Qwv:Qaa n.Block) (Qww:Qaa n.Stmt) (rr:Int) (hrr:QoK p n = .ret rr):FT Tryz.prog 131 #[.agg #[vl pa0 pk0 p.Funcs],.agg #[vi n.Kind,vi n.Func,vi n.Block,vi n.Stmt]] [S pa0 pk0 p.Funcs] (fun g:Unit=>Qaa rr) (fun g=>vi rr) (fun g=>[]):=by
 refine FTi Tryz.func131 fun w0 M0 F0=>?_
 unfold Qaa at Qgv Qwu Qwv Qww
 refine Fb 40 0 fun _=>?_
 have hx0:=lrn rr; have H:=hrr; unfold QoK at H
 refine KS ?_
 refine Oa (Ab [vl pa0 pk0 p.Funcs]) fun p2=>Oa (Ab [vi n.Kind,vi n.Func,vi n.Block,vi n.Stmt]) fun p3=>Oq Va (KS ?_)
 refine Qam [0,1,0,7,15] Qco ?_
 refine Dv [1] (Qau QjT 0) ?_
 refine lbH H hx0 fun rv5 hg6 H=>?_
 refine Dx [2] [] [2,0,1] (fun G=>(G.g 1 0)) [fun G=>SP.fact (True),fun G=>sl (G.g 1 0) rv5] (fun G=>xC [0] QtV (QtM p pa0 pk0 rv5 hg6)) (Dv [0] (Qau Qj2 0) ?_)
 refine lbH H hx0 fun rv10 hg11 H=>?_
 refine Dx [4] [] [1,0] (fun G=>vi rv10) [fun G=>SP.fact (Qaa rv10)] (fun G=>xD [0] QrT rfl rfl rfl (Qh1 (γ:=Unit) (I:=fun g=>Qaa rv10) (V:=fun g=>vi rv10) (B:=fun g=>[]) (R:=sl (G.g 1 0) rv5) QgC (fun aq7 kq8 eq9=>by rw [eq9]; exact Qd3 (Ent.take (is:=[0]) rfl) (Qr5 rv5 aq7 kq8 n pre pre pre pre rv10 hg11)))) (Dv [] Va ?_)
 refine Dn ⟨by kernel_rfl,fun G=>?_⟩
 refine Jw2 [(4,vi rv10)] [0,1,2] [SP.fact (True),sl (G.g 1 0) rv5,SP.fact (Qaa rv10)] ?_
 generalize G.g 1 0 = c4
 refine Jf 5 rfl ?_; rintro he12
 unfold Qaa at he12
 refine Jk [0,1,2,4] ?_
 refine Jo 3 ?_; rintro a13 k14 rfl
 refine Fb 32 3 fun _=>?_
 have hq:=rI H; subst hq
 exact Kr () rfl (.tmp rfl .nil) [] en
theorem Qzw (p:Qaz) (pa0:Option Addr) (pk0:Nat) (n:Qbg) (Qgv:Qaa n.Kind) (Qwu:Qaa n.Func) (Qwv:Qaa n.Block) (Qww:Qaa n.Stmt) (rr:Qc7 × Bool) (hrr:QmY p n = .ret rr):FT Tryz.prog 90 #[.agg #[vl pa0 pk0 p.Funcs],.agg #[vi n.Kind,vi n.Func,vi n.Block,vi n.Stmt]] [S pa0 pk0 p.Funcs] (fun g:Value × Value=>Qaa rr.1.Op /\ rr.1.Def.b.length <= 140737488355328) (fun g=>.tuple #[.agg #[vi rr.1.Op,.string (bs rr.1.Def),g.1,g.2],vb rr.2]) (fun g=>[sl g.1 rr.1.Uses,sl g.2 rr.1.Targets]):=by
 refine FTi Tryz.func90 fun w0 M0 F0=>?_
 unfold Qaa at Qgv Qwu Qwv Qww
 refine Fb 40 0 fun _=>?_
 have hx0:=lrn rr; have H:=hrr; unfold QmY at H
 refine KS ?_
 refine Oa (Ab [vl pa0 pk0 p.Funcs]) fun p2=>Oa (Ab [vi n.Kind,vi n.Func,vi n.Block,vi n.Stmt]) fun p3=>Oa (Al QpS [vi 0,.string (bs (Str.mk [])),.slice none 0 0,.slice none 0 0]) fun p4=>Oq Va (KS ?_)
 refine Oq (Qau QjT 2) (Oq (Qau Qj2 1) ?_)
 refine lbH H hx0 fun rv5 hg6 H=>?_
 have hc7:=Qxp p pa0 pk0 n pre pre pre pre rv5 hg6
 refine Oc [3] Qyn hc7 ?_
 rintro - he8
 unfold Qaa at he8
 refine Oq Qbh (Oq Vm ?_)
 refine pF H hx0 fun h9 H=>?_
 refine JsF 10 h9 ?_
 have g10:=df h9
 refine Oq (Vfa Qi8 1) (Oq (Qah sh3 1) (Oq QfZ (Oq Vm ?_)))
 refine JsH 14 H ?_ ?_
 ·intro h11 H
  have g12:=QaB h11
  refine Oq (Vfa Qi8 1) (Oq (Qah sh3 1) (Oq QfZ (Oq Vpt (Oq Vpf (KS ?_)))))
  refine pT H hx0 fun h13 H=>?_
  refine KcT h13 ?_
  have g14:=QaB h13
  refine KS ?_
  refine Oq (Vbd Qxk [vi 0,.string (bs (Str.mk [])),.slice none 0 0,.slice none 0 0]) (Ost (Scl [0] Qd1 [vi 0,.string (bs (Str.mk [])),.slice none 0 0,.slice none 0 0]) (Oq Va (KS ?_)))
  refine Jl [] (Ent.slNil (α:=Str)) ?_
  have hq:=rI H; subst hq
  exact Kr (.slice none 0 0,.slice none 0 0) rfl (.cellN 1 rfl Qd1 rfl (Qal _ _) rfl (.tmp rfl .nil)) [0,0] en
 intro h11 H
 have g15:=Qae h11
 refine Osk (Osk (Osk (Oq Vpf (Oq Vpf (KS ?_)))))
 refine Kf (KS ?_)
 refine pC H hx0 fun hc16 H=>?_
 refine QcR n.Func.toNat 3 rfl rng fun a17 k18 hb19=>?_
 refine Fb 40 1 fun _=>?_
 refine pC H hx0 fun hc21 H=>?_
 refine pC H hx0 fun hc22 H=>?_
 refine Qcl n.Block.toNat 1 rfl rng fun a23 k24 hb25=>?_
 refine Fb 72 1 fun _=>?_
 refine pC H hx0 fun hc27 H=>?_
 refine pC H hx0 fun hc28 H=>?_
 refine Qdi n.Stmt.toNat 1 rfl rng fun a29 k30 a31 k32 hb33 hb34=>?_
 unfold Qaa at hb33
 refine Fb 16 1 fun _=>?_
 refine FoS 1 fun ho36=>?_
 refine Fb 16 2 fun _=>?_
 refine FoS 2 fun ho38=>?_
 refine Qam [0,1,0,4,15,31,63,0,128,511,1023,2047,0,4096,16383,32767,65535,131071] Qco ?_
 refine Dv [9] (Vfa QdZ 0) (Dv [9] (Qah QlX 0) (Dv [8] (Vfa QlE 0) (Dv [8] (Qah sh3 0) (Dv [10] (Vi Qly 0) (Dv [5] (Vfa Qdd 0) (Dv [5] (Qah QhC 0) (Dv [8] (Vfa Qov 0) (Dv [8] (Qah sh3 0) (Dv [6] (Vi Qg1 0) ?_)))))))))
 refine Dv [3] (Vfa QeN 0) (Dv [3] (Qah Qkj 0) (Dv [8] (Vfa QoA 0) (Dv [8] (Qah sh3 0) (Dv [4] (Vi Qgu 0) (Dv [0] (Qau Qd1 0) (Dx0 [7] [7] [0] [fun G=>Cl p4 [vi ((((((p.Funcs.getD n.Func.toNat default).Blocks).getD n.Block.toNat default).Stmts).getD n.Stmt.toNat default).Op),.string (bs ((((((p.Funcs.getD n.Func.toNat default).Blocks).getD n.Block.toNat default).Stmts).getD n.Stmt.toNat default).Def)),.slice a29 (((((((p.Funcs.getD n.Func.toNat default).Blocks).getD n.Block.toNat default).Stmts).getD n.Stmt.toNat default).Uses).length) k30,.slice a31 (((((((p.Funcs.getD n.Func.toNat default).Blocks).getD n.Block.toNat default).Stmts).getD n.Stmt.toNat default).Targets).length) k32]] (fun G=>xS (Scl [0] Qd1 [vi ((((((p.Funcs.getD n.Func.toNat default).Blocks).getD n.Block.toNat default).Stmts).getD n.Stmt.toNat default).Op),.string (bs ((((((p.Funcs.getD n.Func.toNat default).Blocks).getD n.Block.toNat default).Stmts).getD n.Stmt.toNat default).Def)),.slice a29 (((((((p.Funcs.getD n.Func.toNat default).Blocks).getD n.Block.toNat default).Stmts).getD n.Stmt.toNat default).Uses).length) k30,.slice a31 (((((((p.Funcs.getD n.Func.toNat default).Blocks).getD n.Block.toNat default).Stmts).getD n.Stmt.toNat default).Targets).length) k32])) (Dv [] Va ?_)))))))
 refine Dn ⟨by kernel_rfl,fun G=>?_⟩
 refine Jw2 [(4,p4),(5,vb true)] [0,1,2,3,4,5,6,8,9,10] [Cl p4 [vi ((((((p.Funcs.getD n.Func.toNat default).Blocks).getD n.Block.toNat default).Stmts).getD n.Stmt.toNat default).Op),.string (bs ((((((p.Funcs.getD n.Func.toNat default).Blocks).getD n.Block.toNat default).Stmts).getD n.Stmt.toNat default).Def)),.slice a29 (((((((p.Funcs.getD n.Func.toNat default).Blocks).getD n.Block.toNat default).Stmts).getD n.Stmt.toNat default).Uses).length) k30,.slice a31 (((((((p.Funcs.getD n.Func.toNat default).Blocks).getD n.Block.toNat default).Stmts).getD n.Stmt.toNat default).Targets).length) k32]] ?_
 refine pC H hx0 fun hc39 H=>?_
 have hq:=rI H; subst hq
 exact Kr (.slice a29 (((((((p.Funcs.getD n.Func.toNat default).Blocks).getD n.Block.toNat default).Stmts).getD n.Stmt.toNat default).Uses).length) k30,.slice a31 (((((((p.Funcs.getD n.Func.toNat default).Blocks).getD n.Block.toNat default).Stmts).getD n.Stmt.toNat default).Targets).length) k32) rfl (.cellN 10 rfl Qd1 rfl (Qal _ _) rfl (.tmp rfl .nil)) [1,2] en
theorem Qz1 (p:Qaz) (pa0:Option Addr) (pk0:Nat) (kind:Int) (QlT:Qaa kind) (rr:List Qft × Int) (hrr:QmU p kind = .ret rr):FT Tryz.prog 88 #[.agg #[vl pa0 pk0 p.Funcs],vi kind] [S pa0 pk0 p.Funcs] (fun g:Value=>Qaa rr.2) (fun g=>.tuple #[g,vi rr.2]) (fun g=>[sl g rr.1]):=by
 refine FTi Tryz.func88 fun w0 M0 F0=>?_
 unfold Qaa at QlT
 refine Fb 40 0 fun _=>?_
 have hx0:=lrn rr; have H:=hrr; unfold QmU at H
 refine KS ?_
 refine Oa (Ab [vl pa0 pk0 p.Funcs]) fun p2=>Oq Va (Oq Va (KS ?_))
 refine Oq (Qau QjT 0) ?_
 refine lbH H hx0 fun rv3 hg4 H=>?_
 have hc5:=Qtp p pa0 pk0 rv3 hg4
 refine Oc [1] Qtx hc5 ?_
 rintro - ⟨he6,he7,he8,he9,he10⟩
 unfold Qaa at he6 he7 he8 he9 he10
 refine Oq Vm (Oq Vx (Oq Vx (Oa (Al Qrg [vi 0,vi 0,vi 0,vi 0]) fun p11=>Ost (Scl [0] Qj2 [vi rv3.1.Kind,vi rv3.1.Func,vi rv3.1.Block,vi rv3.1.Stmt]) (Oq Va (KS ?_)))))
 refine Oq Vm (Oq QfZ (KS ?_))
 refine pF H hx0 fun h12 H=>?_
 refine KcF h12 ?_
 have g13:=Qae h12
 refine KS ?_
 refine Oq Vm (Oq Qbh (Oq Vm ?_))
 refine pF H hx0 fun h14 H=>?_
 refine JsF 25 h14 ?_
 have g15:=df h14
 refine Oq Vm (Oq Qgr (Oq Vpf (KS ?_)))
 refine pF H hx0 fun h16 H=>?_
 refine KcF h16 ?_
 have g17:=df h16
 refine KS ?_
 refine Oq (Qau QjT 1) ?_
 refine lbH H hx0 fun rv19 hg20 H=>?_
 have hc21:=Qti p pa0 pk0 rv19 hg20
 refine Oc [2] QtA hc21 ?_
 rintro c18 -
 refine Jo 0 ?_; rintro a22 k23 rfl
 refine Fb 16 0 fun _=>?_
 refine FoS 0 fun ho25=>?_
 refine Oq Va (KS ?_)
 refine Oq Va (KS ?_)
 refine Oq Vm (Oq QfZ (KS ?_))
 refine pF H hx0 fun h26 H=>?_
 refine KcF h26 ?_
 have g27:=Qae h26
 refine KS ?_
 refine Oq (Qau QjT 2) ?_
 refine lbH H hx0 fun rv29 hg30 H=>?_
 have hc31:=QtM p pa0 pk0 rv29 hg30
 refine Oc [3] QtV hc31 ?_
 rintro c28 -
 refine Jo 0 ?_; rintro a32 k33 rfl
 refine Fb 32 0 fun _=>?_
 refine Oq Va (KS ?_)
 refine Oq Va (KS ?_)
 refine Jl [] (Ent.osNil (α:=Qft)) ?_
 refine llH H hx0 fun X45 hX46 hx47 HL48=>?_
 refine Kl (γ:=Nat × List Qft × Int × Option Addr × Nat) (fun (r35,QiY,QmJ,a38,k39)=>⟨[(2,p2),(8,vl a22 k23 rv19),(9,vl a38 k39 QiY),(11,vl a32 k33 rv29),(12,vi QmJ)],[O a38 k39 QiY,S a32 k33 rv29,S a22 k23 rv19,pv p2 [vl pa0 pk0 p.Funcs],S pa0 pk0 p.Funcs],Qec p rv19 rv29 r35 QiY QmJ = X45 /\ r35 = ((rv29.length:Int) - QmJ).toNat /\ (0:Int) <= QmJ /\ QmJ <= (rv29.length:Int) /\ (-9223372036854775808 <= QmJ /\ QmJ <= 9223372036854775807),r35⟩) (((rv29.length:Int) - 0).toNat,[],0,none,0) [0,0,1,3,4] ⟨hX46,rfl,aM1,aM1,aM1⟩ ?_
 rintro ⟨r35,QiY,QmJ,a38,k39⟩ ⟨hM40,hr41,hi42,hi43,hk44⟩
 refine QaA fun _ _ hL hA=>?_; dsimp only at hL hA; subst hL hA
 refine Fb 16 0 fun _=>Fb 32 1 fun _=>Fb 16 2 fun _=>?_
 refine FoS 2 fun ho52=>?_
 refine Fb 40 4 fun _=>KS ?_
 refine Oq Vm (Oq Vm (Oq (Qba Qgf) (Oq Qbh (KS ?_))))
 refine Kc ?_ ?_
 ·intro h54
  have g55:=dt h54
  obtain ⟨r56,rfl⟩:=scc (n:=r35) aM1
  have H:=hM40; (try dsimp only at H); rw [Qec] at H
  refine KS ?_
  refine pC H hx47 fun hc57 H=>?_
  refine QeF QmJ.toNat 1 rfl rng fun hb58 hb59 hb60 hb61=>?_
  unfold Qaa at hb58 hb59 hb60 hb61
  refine Qam [0,0,0,6,14,31,63,127,127,0,767,2047] Qco ?_
  refine Dv [4] (Qau QjT 0) (Dv [] Vm (Dv [] Vm (Dv [2] (Vi Qgf 0) (Dv [0] (Qau Qj2 0) ?_))))
  refine pC H hx47 fun hc66 H=>?_
  refine lbH H hx47 fun rv64 hg65 H=>?_
  refine Dx [5] [] [3,0,1,2] (fun G=>.tuple #[.agg #[vi rv64.1.Op,.string (bs rv64.1.Def),(G.g 5 0),(G.g 5 1)],vb rv64.2]) [fun G=>SP.fact (Qaa rv64.1.Op /\ rv64.1.Def.b.length <= 140737488355328),fun G=>sl (G.g 5 0) rv64.1.Uses,fun G=>sl (G.g 5 1) rv64.1.Targets] (fun G=>xC [0] Qy6 (Qzw p pa0 pk0 ((rv29.getD QmJ.toNat default)) pre pre pre pre rv64 hg65)) (Dg [] (fun G=>.tuple #[.agg #[vi rv64.1.Op,.string (bs rv64.1.Def),(G.g 5 0),(G.g 5 1)],vb rv64.2]) (fun G=>Vm) (Dg [] (fun G=>.agg #[vi rv64.1.Op,.string (bs rv64.1.Def),(G.g 5 0),(G.g 5 1)]) (fun G=>Vx) (Dv [] Vx (Dx [] [] [0] (fun G=>(G.g 9 0)) [fun G=>Cl (G.g 9 0) [vi 0,.string (bs (Str.mk [])),.slice none 0 0,.slice none 0 0]] (fun G=>xA (Al QpS [vi 0,.string (bs (Str.mk [])),.slice none 0 0,.slice none 0 0])) (Dx0 [7,8,9] [9] [1,2,0] [fun G=>Cl (G.g 9 0) [vi rv64.1.Op,.string (bs rv64.1.Def),(G.g 5 0),(G.g 5 1)]] (fun G=>x1 0 rfl Qkx fun ho68=>(x1 1 rfl Qkx fun ho69=>(xS (Scl [2] Qd1 [vi rv64.1.Op,.string (bs rv64.1.Def),(G.g 5 0),(G.g 5 1)] (v:=.agg #[vi rv64.1.Op,.string (bs rv64.1.Def),(G.g 5 0),(G.g 5 1)]) (h1:=show [vi rv64.1.Op,.string (bs rv64.1.Def),(G.g 5 0),(G.g 5 1)].all (·.oneCell') = true from (by simp only [List.all_cons,List.all_nil,ho68,ho69,Bool.and_true,Bool.true_and] <;> rfl)))))) (Dv [] Va ?_))))))
  refine Dn ⟨by kernel_rfl,fun G=>?_⟩
  refine Jw2 [(2,p2),(8,vl a22 k23 rv19),(9,vl a38 k39 QiY),(11,vl a32 k33 rv29),(12,vi QmJ),(13,(G.g 9 0)),(14,vb rv64.2)] [0,1,2,3,4,5] [SP.fact (Qaa rv64.1.Op /\ rv64.1.Def.b.length <= 140737488355328),sl (G.g 5 0) rv64.1.Uses,sl (G.g 5 1) rv64.1.Targets,Cl (G.g 9 0) [vi rv64.1.Op,.string (bs rv64.1.Def),(G.g 5 0),(G.g 5 1)]] ?_
  generalize G.g 5 0 = c62,G.g 5 1 = c63,G.g 9 0 = p67
  refine Jf 6 rfl ?_; rintro ⟨he70,he71⟩
  unfold Qaa at he70
  refine Jk [0,1,1,2,3,4,6,7,8] ?_
  refine Jo 6 ?_; rintro a72 k73 rfl
  refine Fb 16 6 fun _=>?_
  refine FoS 6 fun ho75=>?_
  refine Jo 7 ?_; rintro a76 k77 rfl
  refine Fb 16 7 fun _=>?_
  refine FoS 7 fun ho79=>?_
  refine KS ?_
  refine Oq Vm (Oq Vm ?_)
  refine JsH 62 H ?_ ?_
  ·intro h80 H
   refine Oq Vm (Oq Vm (Oq (Vi Qgf 2) (Oq (Vfa Qi8 0) (Oq (Qah sh3 0) (Oq QbW (Oq Vpt (Oq Vm ?_)))))))
   refine pC H hx47 fun hc83 H=>?_
   refine pT H hx47 fun h82 H=>?_
   refine JsT 70 h82 ?_
   have g84:=eq_of_beq h82
   refine Oq (Qau Qd1 8) ?_
   refine lbH H hx47 fun rv85 hg86 H=>?_
   have hc87:=Qvo rv64.1 a72 k73 a76 k77 pre pre rv85 hg86
   refine Oc [6,7] QvD hc87 ?_
   rintro - -
   refine Oq Vpt (KS ?_)
   refine KcH H ?_ ?_
   ·intro h88 H
    refine KS ?_
    refine Oq Vm (Oq Vm (Oq Vm (Oq (Vfa Qhm 8) (Oq (Qah sh9 8) ?_))))
    refine lbH H hx47 fun rv90 hg91 H=>?_
    have hc92:=QqF rv19 a22 k23 rv64.1.Def pre rv90 hg91
    refine Oc [3] QqD hc92 ?_
    rintro - he93
    unfold Qaa at he93
    refine Oq (Vbd Qyr [vi QmJ,vi rv90]) (Oa (AsV Qki Qwa [.agg #[vi QmJ,vi rv90]] [vi QmJ,vi rv90]) fun c94=>?_)
    refine Jo 0 ?_; rintro a95 k96 rfl
    refine Jl [0] (Ent.cr1 (α:=Qft) (A:=[]) _ (Qft.mk QmJ rv90) _ aB1 (fun h=>⟨rfl,aL1,aL1⟩)) ?_
    refine pC H hx47 fun hc97 H=>?_
    refine Oa (ApO [2,0] Qki Qki Qwa) fun c98=>?_
    refine Jo 0 ?_; rintro a99 k100 rfl
    refine Fb 16 0 fun _=>?_
    have hn102:=la QiY ([(Qft.mk QmJ rv90)]:List Qft)
    refine Oq Va (KS ?_)
    refine Oq Vm (Oq QaS (Oq Va (KS ?_)))
    refine pC H hx47 fun hc103 H=>?_
    exact Kg (r56,(QiY ++ [(Qft.mk QmJ rv90)]),(QmJ + 1),a99,k100) [0,1,2,3,4] ⟨H,aM1,aM1,aM1,aM1⟩
   intro h88 H
   refine KS ?_
   refine Oq Vm (Oq QaS (Oq Va (KS ?_)))
   refine pC H hx47 fun hc105 H=>?_
   exact Kg (r56,QiY,(QmJ + 1),a38,k39) [1,1,2,3,4] ⟨H,aM1,aM1,aM1,aM1⟩
  intro h80 H
  refine Osk (Osk (Osk (Osk (Osk (Osk (Oq Vpf (Oq Vm (Osk (Osk ?_)))))))))
  refine Oq Vpf (KS ?_)
  refine Kf (KS ?_)
  refine Oq Vm (Oq QaS (Oq Va (KS ?_)))
  refine pC H hx47 fun hc107 H=>?_
  exact Kg (r56,QiY,(QmJ + 1),a38,k39) [1,1,2,3,4] ⟨H,aM1,aM1,aM1,aM1⟩
 intro h54
 have g108:=df h54
 obtain rfl:r35 = 0:=by omega
 have H:=hM40; (try dsimp only at H); rw [Qec] at H
 refine Ke ?_
 have H:=llB H HL48
 refine KS ?_
 refine Oq Vm (Oq (Qba Qki) (Oq Qgr (KS ?_)))
 refine pF H hx0 fun h109 H=>?_
 refine KcF h109 ?_
 have g110:=df h109
 refine KS ?_
 refine Oq Vm (Oq Va (Oq Va (KS ?_)))
 refine Jl [0] (Ent.freeze _ _) ?_
 have hq:=rI H; subst hq
 exact Kr (vl a38 k39 QiY) rfl (.tmp rfl (.tmp rfl .nil)) [0] en
theorem Qwg (l:List Qbg) (la0:Option Addr) (lk0:Nat) (f:Int) (b:Int) (s:Int) (QsL:Qaa f) (QfG:Qaa b) (Qcc:Qaa s) (rr:Int) (hrr:Qhn l f b s = .ret rr):FT Tryz.prog 164 #[vl la0 lk0 l,vi f,vi b,vi s] [S la0 lk0 l] (fun g:Unit=>Qaa rr) (fun g=>vi rr) (fun g=>[]):=by
 refine FTi Tryz.func164 fun w0 M0 F0=>?_
 unfold Qaa at QsL QfG Qcc
 refine Fb 32 0 fun _=>?_
 have hx0:=lrn rr; have H:=hrr; unfold Qhn at H
 refine KS ?_
 refine Oq Va (KS ?_)
 refine Oq Vm (Oq Vm (Oq Vm (Oq Vm (Oq (Vbd Qor [vi 3,vi f,vi b,vi s]) ?_))))
 refine lbH H hx0 fun rv2 hg3 H=>?_
 have hc4:=Qr5 l la0 lk0 ((Qbg.mk 3 f b s)) pre pre pre pre rv2 hg3
 refine Oc [0] QrT hc4 ?_
 rintro - he5
 unfold Qaa at he5
 refine Oq Va (KS ?_)
 have hq:=rI H; subst hq
 exact Kr () rfl (.tmp rfl .nil) [] en
theorem Qxz (l:List Qbg) (la0:Option Addr) (lk0:Nat) (f:Int) (QsL:Qaa f) (rr:Int × Int) (hrr:Qon l f = .ret rr):FT Tryz.prog 165 #[vl la0 lk0 l,vi f] [S la0 lk0 l] (fun g:Unit=>Qaa rr.1 /\ Qaa rr.2) (fun g=>.tuple #[vi rr.1,vi rr.2]) (fun g=>[]):=by
 refine FTi Tryz.func165 fun w0 M0 F0=>?_
 unfold Qaa at QsL
 refine Fb 32 0 fun _=>?_
 have hx0:=lrn rr; have H:=hrr; unfold Qon at H
 refine KS ?_
 refine Oq Va (Oq Va (KS ?_))
 refine Oq Vm (Oq Vm (Oq (Vbd Qor [vi 1,vi f,vi (-1),vi (-1)]) ?_))
 refine lbH H hx0 fun rv2 hg3 H=>?_
 have hc4:=Qr5 l la0 lk0 ((Qbg.mk 1 f (-1) (-1))) pre pre pre pre rv2 hg3
 refine Oc [0] QrT hc4 ?_
 rintro - he5
 unfold Qaa at he5
 refine Oq Vm (Oq Vm (Oq (Vbd Qor [vi 2,vi f,vi (-1),vi (-1)]) ?_))
 refine lbH H hx0 fun rv6 hg7 H=>?_
 have hc8:=Qr5 l la0 lk0 ((Qbg.mk 2 f (-1) (-1))) pre pre pre pre rv6 hg7
 refine Oc [0] QrT hc8 ?_
 rintro - he9
 unfold Qaa at he9
 refine Oq Va (Oq Va (KS ?_))
 have hq:=rI H; subst hq
 exact Kr () rfl (.tmp rfl (.tmp rfl .nil)) [] en
theorem Qxs (p:Qaz) (pa0:Option Addr) (pk0:Nat) (l:List Qbg) (la0:Option Addr) (lk0:Nat) (i:Int) (QBL:Qaa i) (rr:List Int) (hrr:QhD p l i = .ret rr):FT Tryz.prog 130 #[.agg #[vl pa0 pk0 p.Funcs],vl la0 lk0 l,vi i] [S pa0 pk0 p.Funcs,S la0 lk0 l] (fun g:Value=>True) (fun g=>g) (fun g=>[sl g rr]):=by
 refine FTi Tryz.func130 fun w0 M0 F0=>?_
 unfold Qaa at QBL
 refine Fb 40 0 fun _=>Fb 32 1 fun _=>?_
 have hx0:=lrn rr; have H:=hrr; unfold QhD at H
 refine KS ?_
 refine Oa (Ab [vl pa0 pk0 p.Funcs]) fun p3=>Oq Va (KS ?_)
 refine Oq Vm (Oq Vm ?_)
 refine pC H hx0 fun hc4 H=>?_
 refine Oq (Vi Qgf 2) ?_
 refine QeF i.toNat 2 rfl rng fun hb5 hb6 hb7 hb8=>?_
 unfold Qaa at hb5 hb6 hb7 hb8
 refine Oq (Qau Qj2 0) (Oa (Al Qrg [vi 0,vi 0,vi 0,vi 0]) fun p9=>Ost (Scl [0] Qj2 [vi ((l.getD i.toNat default).Kind),vi ((l.getD i.toNat default).Func),vi ((l.getD i.toNat default).Block),vi ((l.getD i.toNat default).Stmt)]) (KS ?_))
 refine Oq (Vfa Qi8 0) (Oq (Qah sh3 0) (Oq QbW (KS ?_)))
 refine pC H hx0 fun hc11 H=>?_
 refine KcH H ?_ ?_
 ·intro h10 H
  have g12:=eq_of_beq h10
  refine KS ?_
  refine Oq Vm (Oq (Vfa QlE 0) (Oq (Qah sh3 0) ?_))
  refine lbH H hx0 fun rv13 hg14 H=>?_
  have hc15:=Qwg l la0 lk0 ((l.getD i.toNat default).Func) 0 0 pre pre pre rv13 hg14
  refine Oc [4] QvE hc15 ?_
  rintro - he16
  unfold Qaa at he16
  refine Oa (AsV QcA Qnk [vi rv13] [vi rv13]) fun c17=>?_
  refine Jo 0 ?_; rintro a18 k19 rfl
  refine Oq Va (KS ?_)
  refine Jl [0] (Ent.crInt _ [rv13] _ _ rfl rfl (by intro x hx; rw [List.mem_singleton] at hx; subst hx; unfold Qaa; omega) aB1) ?_
  refine Jl [0] (Ent.freeze _ _) ?_
  have hq:=rI H; subst hq
  exact Kr (.slice a18 1 k19) rfl (.tmp rfl .nil) [0] trivial
 intro h10 H
 have g20:=ne_of_beq_false h10
 refine KS ?_
 refine Oq (Vfa Qi8 0) (Oq (Qah sh3 0) (Oq QbW (KS ?_)))
 refine KcH H ?_ ?_
 ·intro h21 H
  have g22:=eq_of_beq h21
  refine KS ?_
  refine Oq Va (KS ?_)
  refine Oq Va (KS ?_)
  refine llH H hx0 fun X30 hX31 hx32 HL33=>?_
  refine Kl (γ:=Nat × Int) (fun (r23,QrP)=>⟨[(1,vl la0 lk0 l),(3,p3),(7,p9),(8,.slice none 0 0),(9,vi QrP)],[Cl p9 [vi ((l.getD i.toNat default).Kind),vi ((l.getD i.toNat default).Func),vi ((l.getD i.toNat default).Block),vi ((l.getD i.toNat default).Stmt)],pv p3 [vl pa0 pk0 p.Funcs],S pa0 pk0 p.Funcs,S la0 lk0 l],Qdk l r23 QrP = X30 /\ r23 = ((l.length:Int) - QrP).toNat /\ (0:Int) <= QrP /\ QrP <= (l.length:Int) /\ (-9223372036854775808 <= QrP /\ QrP <= 9223372036854775807),r23⟩) (((l.length:Int) - 0).toNat,0) [0,1,2,3] ⟨hX31,rfl,aM1,aM1,aM1⟩ ?_
  rintro ⟨r23,QrP⟩ ⟨hM25,hr26,hi27,hi28,hk29⟩
  refine QaA fun _ _ hL hA=>?_; dsimp only at hL hA; subst hL hA
  refine Fb 40 2 fun _=>Fb 32 3 fun _=>KS ?_
  refine Oq Vm (Oq Vm (Oq (Qba Qgf) (Oq Qbh (KS ?_))))
  refine Kc ?_ ?_
  ·intro h36
   have g37:=dt h36
   obtain ⟨r38,rfl⟩:=scc (n:=r23) aM1
   have H:=hM25; (try dsimp only at H); rw [Qdk] at H
   refine KS ?_
   refine pC H hx32 fun hc39 H=>?_
   refine QeF QrP.toNat 3 rfl rng fun hb40 hb41 hb42 hb43=>?_
   unfold Qaa at hb40 hb41 hb42 hb43
   refine Kq [0,0,3,7,15,31,63,127,255,127,127,1663,3711,7807,16383,32767,65535,127,127,393343,917631,1966207,4194303,8388607,16777215,127,127,100663423,234881151,503316607,1073741823,2147483647,4294967295,8589934591,17179869183,127,34359738495,127,137438953599,515396075647,1065151889535,2164663517311,4398046511103,8796093022207] Qco ?_
   refine Qv [] Vm (Qv [] Vm (Qv [4] (Vi Qgf 0) (Qv [0] (Vfa Qi8 0) (Qv [0] (Qah sh3 0) (Qv [] QbW ?_)))))
   refine pC H hx32 fun hc45 H=>?_
   refine pF H hx32 fun h44 H=>?_
   have g46:=ne_of_beq_false h44
   refine Qb h44 [] Vm (Qs (Qs (Qs (Qs (Qs (Qs (Qs (Qs (Qs ?_)))))))))
   refine Qs (Qs (Qs (Qs (Qs (Qs (Qs (Qs (Qs (Qs ?_)))))))))
   refine Qs (Qs (Qs (Qs (Qs (Qs (Qs (Qs (Qs (Qs ?_)))))))))
   refine Qs (Qs (Qs (Qs (Qs (Qs (Qs (Qv [] Vpf ?_)))))))
   refine Qn ⟨by kernel_rfl,?_⟩
   refine Kf (KS ?_)
   refine Oq Vm (Oq QaS (Oq Va (KS ?_)))
   refine pC H hx32 fun hc47 H=>?_
   exact Kg (r38,(QrP + 1)) [1,1,2,3] ⟨H,aM1,aM1,aM1,aM1⟩
  intro h36
  have g48:=df h36
  obtain rfl:r23 = 0:=by omega
  have H:=hM25; (try dsimp only at H); rw [Qdk] at H
  refine Ke ?_
  have H:=llB H HL33
  refine KS ?_
  refine Oq Vm (Oq Va (KS ?_))
  refine Jl [] (Ent.slNil (α:=Int)) ?_
  have hq:=rI H; subst hq
  exact Kr (.slice none 0 0) rfl (.tmp rfl .nil) [0] trivial
 intro h21 H
 have g49:=ne_of_beq_false h21
 refine KS ?_
 refine Jp 0 fun hp50=>?_
 refine pC H hx0 fun hc51 H=>?_
 refine QcR ((l.getD i.toNat default).Func:Int).toNat 4 rfl rng fun a52 k53 hb54=>?_
 refine Fb 40 1 fun _=>?_
 refine pC H hx0 fun hc56 H=>?_
 refine pC H hx0 fun hc57 H=>?_
 refine Qcl ((l.getD i.toNat default).Block:Int).toNat 1 rfl rng fun a58 k59 hb60=>?_
 refine Fb 72 1 fun _=>?_
 refine pC H hx0 fun hc62 H=>?_
 refine pC H hx0 fun hc63 H=>?_
 refine Qdi ((l.getD i.toNat default).Stmt:Int).toNat 1 rfl rng fun a64 k65 a66 k67 hb68 hb69=>?_
 unfold Qaa at hb68
 refine Fb 16 1 fun _=>?_
 refine FoS 1 fun ho71=>?_
 refine Fb 16 2 fun _=>?_
 refine FoS 2 fun ho73=>?_
 refine Qam [0,1,0,4,15,31,63,0,128,511,1023,2047,0,4096,16383,32767,0,131071] Qco ?_
 refine Dv [10] (Vfa QdZ 0) (Dv [10] (Qah QlX 0) (Dv [7] (Vfa QlE 0) (Dv [8] (Qah sh3 0) (Dv [11] (Vi Qly 0) (Dv [5] (Vfa Qdd 0) (Dv [5] (Qah QhC 0) (Dv [7] (Vfa Qov 0) (Dv [8] (Qah sh3 0) (Dv [6] (Vi Qg1 0) ?_)))))))))
 refine Dv [3] (Vfa QeN 0) (Dv [3] (Qah Qkj 0) (Dv [7] (Vfa QoA 0) (Dv [8] (Qah sh3 0) (Dv [4] (Vi Qgu 0) (Dv [0] (Qau Qd1 0) (Dx [] [] [0] (fun G=>(G.g 16 0)) [fun G=>Cl (G.g 16 0) [vi 0,.string (bs (Str.mk [])),.slice none 0 0,.slice none 0 0]] (fun G=>xA (Al QpS [vi 0,.string (bs (Str.mk [])),.slice none 0 0,.slice none 0 0])) (Dx0 [13] [13] [0] [fun G=>Cl (G.g 16 0) [vi ((((((p.Funcs.getD ((l.getD i.toNat default).Func:Int).toNat default).Blocks).getD ((l.getD i.toNat default).Block:Int).toNat default).Stmts).getD ((l.getD i.toNat default).Stmt:Int).toNat default).Op),.string (bs ((((((p.Funcs.getD ((l.getD i.toNat default).Func:Int).toNat default).Blocks).getD ((l.getD i.toNat default).Block:Int).toNat default).Stmts).getD ((l.getD i.toNat default).Stmt:Int).toNat default).Def)),.slice a64 (((((((p.Funcs.getD ((l.getD i.toNat default).Func:Int).toNat default).Blocks).getD ((l.getD i.toNat default).Block:Int).toNat default).Stmts).getD ((l.getD i.toNat default).Stmt:Int).toNat default).Uses).length) k65,.slice a66 (((((((p.Funcs.getD ((l.getD i.toNat default).Func:Int).toNat default).Blocks).getD ((l.getD i.toNat default).Block:Int).toNat default).Stmts).getD ((l.getD i.toNat default).Stmt:Int).toNat default).Targets).length) k67]] (fun G=>xS (Scl [0] Qd1 [vi ((((((p.Funcs.getD ((l.getD i.toNat default).Func:Int).toNat default).Blocks).getD ((l.getD i.toNat default).Block:Int).toNat default).Stmts).getD ((l.getD i.toNat default).Stmt:Int).toNat default).Op),.string (bs ((((((p.Funcs.getD ((l.getD i.toNat default).Func:Int).toNat default).Blocks).getD ((l.getD i.toNat default).Block:Int).toNat default).Stmts).getD ((l.getD i.toNat default).Stmt:Int).toNat default).Def)),.slice a64 (((((((p.Funcs.getD ((l.getD i.toNat default).Func:Int).toNat default).Blocks).getD ((l.getD i.toNat default).Block:Int).toNat default).Stmts).getD ((l.getD i.toNat default).Stmt:Int).toNat default).Uses).length) k65,.slice a66 (((((((p.Funcs.getD ((l.getD i.toNat default).Func:Int).toNat default).Blocks).getD ((l.getD i.toNat default).Block:Int).toNat default).Stmts).getD ((l.getD i.toNat default).Stmt:Int).toNat default).Targets).length) k67])) ?_)))))))
 refine Dn ⟨by kernel_rfl,fun G=>?_⟩
 refine Jw2 [(1,vl la0 lk0 l),(3,p3),(7,p9),(10,(G.g 16 0))] [0,1,2,3,4,5,6,7,8,9,10,11,12] [Cl (G.g 16 0) [vi ((((((p.Funcs.getD ((l.getD i.toNat default).Func:Int).toNat default).Blocks).getD ((l.getD i.toNat default).Block:Int).toNat default).Stmts).getD ((l.getD i.toNat default).Stmt:Int).toNat default).Op),.string (bs ((((((p.Funcs.getD ((l.getD i.toNat default).Func:Int).toNat default).Blocks).getD ((l.getD i.toNat default).Block:Int).toNat default).Stmts).getD ((l.getD i.toNat default).Stmt:Int).toNat default).Def)),.slice a64 (((((((p.Funcs.getD ((l.getD i.toNat default).Func:Int).toNat default).Blocks).getD ((l.getD i.toNat default).Block:Int).toNat default).Stmts).getD ((l.getD i.toNat default).Stmt:Int).toNat default).Uses).length) k65,.slice a66 (((((((p.Funcs.getD ((l.getD i.toNat default).Func:Int).toNat default).Blocks).getD ((l.getD i.toNat default).Block:Int).toNat default).Stmts).getD ((l.getD i.toNat default).Stmt:Int).toNat default).Targets).length) k67]] ?_
 generalize G.g 16 0 = p74
 refine Jk [0,1,2,3,4,5,6,8,8,9,10,11,12] ?_
 refine KS ?_
 refine Oq Vm (Oq (Vfa QlE 7) (Oq (Qah sh3 7) ?_))
 refine pC H hx0 fun hc77 H=>?_
 refine lbH H hx0 fun rv75 hg76 H=>?_
 have hc78:=Qxz l la0 lk0 ((l.getD i.toNat default).Func) pre rv75 hg76
 refine Oc [11] Qw9 hc78 ?_
 rintro - ⟨he79,he80⟩
 unfold Qaa at he79 he80
 refine Oq Vm (Oq Vx (Oq Vx (Oq Va (Oq Va (KS ?_)))))
 refine Oq (Vfa Qdv 12) (Oq (Qah sh3 12) (Oq QbW (Oq Va (KS ?_))))
 refine KcH H ?_ ?_
 ·intro h81 H
  have g82:=eq_of_beq h81
  refine KS ?_
  refine Oq Vm (Oa (AsV QcA Qnk [vi rv75.2] [vi rv75.2]) fun c83=>?_)
  refine Jo 0 ?_; rintro a84 k85 rfl
  refine Oq Va (KS ?_)
  refine Jl [0] (Ent.crInt _ [rv75.2] _ _ rfl rfl (by intro x hx; rw [List.mem_singleton] at hx; subst hx; unfold Qaa; omega) aB1) ?_
  refine Jl [0] (Ent.freeze _ _) ?_
  have hq:=rI H; subst hq
  exact Kr (.slice a84 1 k85) rfl (.tmp rfl .nil) [0] trivial
 intro h81 H
 have g86:=ne_of_beq_false h81
 refine KS ?_
 refine Oq (Vfa Qdv 12) (Oq (Qah sh3 12) (Oq QbW (Oq Vm ?_)))
 refine pF H hx0 fun h87 H=>?_
 refine JsF 120 h87 ?_
 have g88:=ne_of_beq_false h87
 refine Osk (Osk (Osk (Oq Vpf (Oq Va (KS ?_)))))
 refine Kf (KS ?_)
 refine Oq (Vfa Qdv 12) (Oq (Qah sh3 12) (Oq QbW (Oq Vm ?_)))
 refine pF H hx0 fun h89 H=>?_
 refine JsF 142 h89 ?_
 have g90:=ne_of_beq_false h89
 refine Oq (Vfa Qdv 12) (Oq (Qah sh3 12) (Oq QbW (Oq Vpf (Oq Va (KS ?_)))))
 refine pF H hx0 fun h91 H=>?_
 refine KcF h91 ?_
 have g92:=ne_of_beq_false h91
 refine KS ?_
 refine Oq Vm (Oq (Vfa QlE 7) (Oq (Qah sh3 7) (Oq (Vfa Qov 7) (Oq (Qah sh3 7) (Oq (Vfa QoA 7) (Oq (Qah sh3 7) ?_))))))
 refine pC H hx0 fun hc93 H=>?_
 refine Oq QaS ?_
 refine lbH H hx0 fun rv94 hg95 H=>?_
 have hc96:=Qwg l la0 lk0 ((l.getD i.toNat default).Func) ((l.getD i.toNat default).Block) (((l.getD i.toNat default).Stmt + 1)) pre pre pre rv94 hg95
 refine Oc [11] QvE hc96 ?_
 rintro - he97
 unfold Qaa at he97
 refine Oa (AsV QcA Qnk [vi rv94] [vi rv94]) fun c98=>?_
 refine Jo 0 ?_; rintro a99 k100 rfl
 refine Oq Va (KS ?_)
 refine Jl [0] (Ent.crInt _ [rv94] _ _ rfl rfl (by intro x hx; rw [List.mem_singleton] at hx; subst hx; unfold Qaa; omega) aB1) ?_
 refine Jl [0] (Ent.freeze _ _) ?_
 have hq:=rI H; subst hq
 exact Kr (.slice a99 1 k100) rfl (.tmp rfl .nil) [0] trivial
theorem QyN (l:List Int) (la0:Option Addr) (lk0:Nat) (n:Int) (Qgv:Qaa n) (hl0:l.length <= 1000000000) (rr:List Int) (hrr:QcO l n = rr):FT Tryz.prog 28 #[vl la0 lk0 l,vi n] [S la0 lk0 l] (fun g:Value=>(rr.length <= l.length + 1)) (fun g=>g) (fun g=>[sl g rr]):=by
 refine FTi Tryz.func28 fun w0 M0 F0=>?_
 unfold Qaa at Qgv
 refine Fb 8 0 fun _=>Fo 0 fun ho2=>KS ?_
 refine Oq Va (KS ?_)
 refine Oq Va (KS ?_)
 refine Kl (γ:=Nat × Int) (fun (r3,i_4)=>⟨[(0,vl la0 lk0 l),(1,vi n),(5,vi i_4)],[S la0 lk0 l],Qbp l n r3 i_4 = Qbp l n (((l.length:Int) - 0).toNat) 0 /\ r3 = ((l.length:Int) - i_4).toNat /\ (0:Int) <= i_4 /\ i_4 <= (l.length:Int) /\ (-9223372036854775808 <= i_4 /\ i_4 <= 9223372036854775807),r3⟩) (((l.length:Int) - 0).toNat,0) [0] ⟨rfl,rfl,aM1,aM1,aM1⟩ ?_
 rintro ⟨r3,i_4⟩ ⟨hM5,hr6,hi7,hi8,hk9⟩
 refine QaA fun _ _ hL hA=>?_; dsimp only at hL hA; subst hL hA
 refine Fb 8 0 fun _=>Fo 0 fun ho11=>KS ?_
 refine Oq Vm (Oq Vm (Oq (Qba QcA) (Oq Qbh (Oq Vm ?_))))
 refine Js 11 ?_ ?_
 ·intro h12
  have g13:=dt h12
  obtain ⟨r14,rfl⟩:=scc (n:=r3) aM1
  refine Oq Vm (Oq Vm (Oq (Vi QcA 0) ?_))
  have hb15:=ok1 (i:=i_4.toNat) ho11 rng
  refine Oq (Qjc sh3 0) (Oq Vm (Oq Qbh (Oq Vpt (KS ?_))))
  refine Kc ?_ ?_
  ·intro h16
   have g17:=dt h16
   refine KS ?_
   refine Oq Vm (Oq QaS (Oq Va (KS ?_)))
   exact Kg (r14,(i_4 + 1)) [0] ⟨(q3 hM5 (by simp only [Qbp,h12,h16,cs4])),aM1,aM1,aM1,aM1⟩
  intro h16
  have g18:=df h16
  refine Ke ?_
  have hR19:=q2 hM5 i_4 (by simp only [Qbp,h12,h16,cs4])
  refine KS ?_
  refine Oq Vm (Oq Vm (Oq (Qba QcA) (Oq Qbh (Oq Vm ?_))))
  refine Js 25 ?_ ?_
  ·intro h20
   have g21:=dt h20
   refine Oq Vm (Oq Vm (Oq (Vi QcA 0) ?_))
   have hb22:=ok1 (i:=i_4.toNat) ho11 rng
   refine Oq (Qjc sh3 0) (Oq Vm (Oq QbW (Oq Vpt (KS ?_))))
   refine Kc ?_ ?_
   ·intro h23
    have g24:=eq_of_beq h23
    refine KS ?_
    refine Oq Vm (Oq Va (KS ?_))
    have hq:=q4 hrr l (by simp only [QcO,h12,h16,h20,h23,hR19,cs4]); subst hq
    exact Kr (vl la0 lk0 l) rfl (.tmp rfl .nil) [0] en
   intro h23
   have g25:=ne_of_beq_false h23
   refine KS ?_
   refine Oa (As0 QcA) fun c26=>?_
   refine Jo 0 ?_; rintro a27 k28 rfl
   refine Oq Vm (Oq Vm (Oa (Asl [1] QcA 0 (i_4.toNat)) fun c29=>?_))
   refine Jo 0 ?_; rintro a30 k31 rfl
   refine Fb 8 0 fun _=>Fo 0 fun ho33=>?_
   have hn34:((l.take (i_4.toNat)).drop 0).length = (i_4.toNat) - 0:=Qh5 rng rng
   refine Jl [1] (Ent.crNil (α:=Int) _) ?_
   refine Oa (Ap0 [0,0] QcA QcA Qnk) fun c35=>?_
   refine Jo 0 ?_; rintro a36 k37 rfl
   refine Oq Va (KS ?_)
   refine Oq Vm (Oq Vm (Oa (AsV QcA Qnk [vi n] [vi n]) fun c38=>?_))
   refine Jo 0 ?_; rintro a39 k40 rfl
   refine Jl [0] (Ent.crInt _ [n] _ _ rfl rfl (by intro x hx; rw [List.mem_singleton] at hx; subst hx; unfold Qaa; omega) aB1) ?_
   refine Oa (ApO [1,0] QcA QcA Qnk) fun c41=>?_
   refine Jo 0 ?_; rintro a42 k43 rfl
   refine Fb 8 0 fun _=>Fo 0 fun ho45=>?_
   have hn46:=la ((l.take (i_4.toNat)).drop 0) ([n]:List Int)
   refine Oq Va (KS ?_)
   refine Oq Vm (Oq Vm (Oq Vm (Oa (Asl [2] QcA (i_4.toNat) l.length) fun c47=>?_)))
   refine Jo 0 ?_; rintro a48 k49 rfl
   refine Fb 8 0 fun _=>Fo 0 fun ho51=>?_
   have hn52:((l.take l.length).drop (i_4.toNat)).length = l.length - (i_4.toNat):=Qh5 rng rng
   refine Oa (Ap [1,0] QcA QcA Qnk) fun c53=>?_
   refine Jo 0 ?_; rintro a54 k55 rfl
   refine Fb 8 0 fun _=>Fo 0 fun ho57=>?_
   have hn58:=la ((((l.take (i_4.toNat)).drop 0) ++ [n]):List Int) ((l.take l.length).drop (i_4.toNat))
   refine Oq Va (KS ?_)
   refine Jl [0] (Ent.freeze _ _) ?_
   have hq:=q4 hrr ((((l.take (i_4.toNat)).drop 0) ++ [n]) ++ ((l.take l.length).drop (i_4.toNat))) (by simp only [QcO,h12,h16,h20,h23,hR19,cs4]); subst hq
   exact Kr (.slice a54 (((((l.take (i_4.toNat)).drop 0) ++ [n]) ++ ((l.take l.length).drop (i_4.toNat))).length) k55) rfl (.tmp rfl .nil) [0] en
  intro h20
  exact absurd h20 (by first | (simp [h12]; done) | (simp only [bne,h12]; decide) | (simp only [bne,h12,Bool.not_true,Bool.not_false]; decide) | (exfalso; omega) | (intro hq; simp only [bne,hq,Bool.not_false,Bool.not_true,reduceCtorEq] at h12))
 intro h12
 have g59:=df h12
 obtain rfl:r3 = 0:=by omega
 refine Osk (Osk (Osk (Osk (Osk (Osk (Oq Vpf (KS ?_)))))))
 refine Kf ?_
 refine Ke ?_
 have hR60:=q2 hM5 i_4 (by simp only [Qbp,h12,cs4])
 refine KS ?_
 refine Oq Vm (Oq Vm (Oq (Qba QcA) (Oq Qbh (Oq Vm ?_))))
 refine Js 25 ?_ ?_
 ·intro h61
  exact absurd h61 (by first | (simp [h12]; done) | (simp only [bne,h12]; decide) | (simp only [bne,h12,Bool.not_true,Bool.not_false]; decide) | (exfalso; omega) | (intro hq; simp only [bne,hq,Bool.not_false,Bool.not_true,reduceCtorEq] at h12))
 intro h61
 have g62:=df h61
 refine Osk (Osk (Osk (Osk (Osk (Osk (Oq Vpf (KS ?_)))))))
 refine Kf (KS ?_)
 refine Oa (As0 QcA) fun c63=>?_
 refine Jo 0 ?_; rintro a64 k65 rfl
 refine Oq Vm (Oq Vm (Oa (Asl [1] QcA 0 (i_4.toNat)) fun c66=>?_))
 refine Jo 0 ?_; rintro a67 k68 rfl
 refine Fb 8 0 fun _=>Fo 0 fun ho70=>?_
 have hn71:((l.take (i_4.toNat)).drop 0).length = (i_4.toNat) - 0:=Qh5 rng rng
 refine Jl [1] (Ent.crNil (α:=Int) _) ?_
 refine Oa (Ap0 [0,0] QcA QcA Qnk) fun c72=>?_
 refine Jo 0 ?_; rintro a73 k74 rfl
 refine Oq Va (KS ?_)
 refine Oq Vm (Oq Vm (Oa (AsV QcA Qnk [vi n] [vi n]) fun c75=>?_))
 refine Jo 0 ?_; rintro a76 k77 rfl
 refine Jl [0] (Ent.crInt _ [n] _ _ rfl rfl (by intro x hx; rw [List.mem_singleton] at hx; subst hx; unfold Qaa; omega) aB1) ?_
 refine Oa (ApO [1,0] QcA QcA Qnk) fun c78=>?_
 refine Jo 0 ?_; rintro a79 k80 rfl
 refine Fb 8 0 fun _=>Fo 0 fun ho82=>?_
 have hn83:=la ((l.take (i_4.toNat)).drop 0) ([n]:List Int)
 refine Oq Va (KS ?_)
 refine Oq Vm (Oq Vm (Oq Vm (Oa (Asl [2] QcA (i_4.toNat) l.length) fun c84=>?_)))
 refine Jo 0 ?_; rintro a85 k86 rfl
 refine Fb 8 0 fun _=>Fo 0 fun ho88=>?_
 have hn89:((l.take l.length).drop (i_4.toNat)).length = l.length - (i_4.toNat):=Qh5 rng rng
 refine Oa (Ap [1,0] QcA QcA Qnk) fun c90=>?_
 refine Jo 0 ?_; rintro a91 k92 rfl
 refine Fb 8 0 fun _=>Fo 0 fun ho94=>?_
 have hn95:=la ((((l.take (i_4.toNat)).drop 0) ++ [n]):List Int) ((l.take l.length).drop (i_4.toNat))
 refine Oq Va (KS ?_)
 refine Jl [0] (Ent.freeze _ _) ?_
 have hq:=q4 hrr ((((l.take (i_4.toNat)).drop 0) ++ [n]) ++ ((l.take l.length).drop (i_4.toNat))) (by simp only [QcO,h12,h61,hR60,cs4]); subst hq
 exact Kr (.slice a91 (((((l.take (i_4.toNat)).drop 0) ++ [n]) ++ ((l.take l.length).drop (i_4.toNat))).length) k92) rfl (.tmp rfl .nil) [0] en
theorem QAF (p:Qaz) (pa0:Option Addr) (pk0:Nat) (rr:Qk9 × Int) (hrr:Qm6 p = .ret rr):FT Tryz.prog 89 #[.agg #[vl pa0 pk0 p.Funcs]] [S pa0 pk0 p.Funcs] (fun g:Value × Value × Value=>Qaa rr.2) (fun g=>.tuple #[.agg #[g.1,g.2.1,g.2.2],vi rr.2]) (fun g=>[sl g.1 rr.1.Nodes,sl g.2.1 rr.1.Succ,sl g.2.2 rr.1.Pred]):=by
 refine FTi Tryz.func89 fun w0 M0 F0=>Fb 40 0 fun _=>?_
 have hx0:=lrn rr; have H:=hrr; unfold Qm6 at H
 refine KS ?_
 refine Oa (Ab [vl pa0 pk0 p.Funcs]) fun p2=>Oa (Al Quo [.slice none 0 0,.slice none 0 0,.slice none 0 0]) fun p3=>Oq Va (KS ?_)
 refine Oq (Qau QjT 1) ?_
 refine lbH H hx0 fun rv4 hg5 H=>?_
 have hc6:=Qtp p pa0 pk0 rv4 hg5
 refine Oc [2] Qtx hc6 ?_
 rintro - ⟨he7,he8,he9,he10,he11⟩
 unfold Qaa at he7 he8 he9 he10 he11
 refine Oq Vm (Oq Vx (Oq Vx (Oa (Al Qrg [vi 0,vi 0,vi 0,vi 0]) fun p12=>Ost (Scl [0] Qj2 [vi rv4.1.Kind,vi rv4.1.Func,vi rv4.1.Block,vi rv4.1.Stmt]) (Oq Va (KS ?_)))))
 refine Oq Vm (Oq QfZ (KS ?_))
 refine pF H hx0 fun h13 H=>?_
 refine KcF h13 ?_
 have g14:=Qae h13
 refine KS ?_
 refine Oq (Qau QjT 2) ?_
 refine lbH H hx0 fun rv16 hg17 H=>?_
 have hc18:=QtM p pa0 pk0 rv16 hg17
 refine Oc [3] QtV hc18 ?_
 rintro c15 -
 refine Jo 0 ?_; rintro a19 k20 rfl
 refine Fb 32 0 fun _=>?_
 refine Oq Va (KS ?_)
 refine Qam [0,0,2,6,0,16,48,127,0,511] Qco ?_
 refine Dv [] Vm (Dv [] Vm (Dv [] (Qba Qgf) ?_))
 refine pC H hx0 fun hc22 H=>?_
 have hn24:=List.length_replicate (n:=(rv16.length:Int).toNat) (a:=([]:List Int))
 refine Dx [] [] [0] (fun G=>(G.g 3 0)) [fun G=>os (G.g 3 0) ((List.replicate (rv16.length:Int).toNat []):List (List Int))] (fun G=>xA (Amk (α:=List Int) Qfr QrC [] (fun _ _=>⟨_,rfl,Qk0⟩))) (Dv [] Vm (Dv [] (Qba Qgf) ?_))
 have hn26:=List.length_replicate (n:=(rv16.length:Int).toNat) (a:=([]:List Int))
 refine Dx [] [] [0] (fun G=>(G.g 6 0)) [fun G=>os (G.g 6 0) ((List.replicate (rv16.length:Int).toNat []):List (List Int))] (fun G=>xA (Amk (α:=List Int) Qfr QrC [] (fun _ _=>⟨_,rfl,Qk0⟩))) ?_
 refine Dx [5,6] [] [0,0] (fun G=>.agg #[vl a19 k20 rv16,(G.g 3 0),(G.g 6 0)]) [] (fun G=>xV (v:=.agg #[vl a19 k20 rv16,(G.g 3 0),(G.g 6 0)]) (Vo 0 rfl (Qks _ _) fun aq27 kq28 eq29=>(by rw [eq29]; exact Vo 1 rfl (Qks _ _) fun aq30 kq31 eq32=>(by rw [eq32]; exact Vbd QxW [vl a19 k20 rv16,.slice aq27 (((List.replicate (rv16.length:Int).toNat []):List (List Int)).length) kq28,.slice aq30 (((List.replicate (rv16.length:Int).toNat []):List (List Int)).length) kq31])))) (Dx [] [] [0] (fun G=>(G.g 8 0)) [fun G=>Cl (G.g 8 0) [.slice none 0 0,.slice none 0 0,.slice none 0 0]] (fun G=>xA (Al Quo [.slice none 0 0,.slice none 0 0,.slice none 0 0])) (Dx0 [5,6,7] [7] [1,1,0] [fun G=>Cl (G.g 8 0) [vl a19 k20 rv16,(G.g 3 0),(G.g 6 0)]] (fun G=>x1 0 rfl Qc0 fun ho34=>(x1 1 rfl Qc0 fun ho35=>(xS (Scl [2] Qrq [vl a19 k20 rv16,(G.g 3 0),(G.g 6 0)] (v:=.agg #[vl a19 k20 rv16,(G.g 3 0),(G.g 6 0)]) (h1:=show [vl a19 k20 rv16,(G.g 3 0),(G.g 6 0)].all (·.oneCell') = true from (by simp only [List.all_cons,List.all_nil,ho34,ho35,Bool.and_true,Bool.true_and] <;> rfl)))))) ?_))
 refine Dn ⟨by kernel_rfl,fun G=>?_⟩
 refine Jw2 [(1,p2),(2,p3),(6,vl a19 k20 rv16),(7,(G.g 8 0))] [0,1,2,3,4] [os (G.g 3 0) ((List.replicate (rv16.length:Int).toNat []):List (List Int)),os (G.g 6 0) ((List.replicate (rv16.length:Int).toNat []):List (List Int)),Cl (G.g 8 0) [vl a19 k20 rv16,(G.g 3 0),(G.g 6 0)]] ?_
 generalize G.g 3 0 = c23,G.g 6 0 = c25,G.g 8 0 = p33
 refine Jo 5 ?_; rintro a36 k37 rfl
 refine Fb 24 5 fun _=>?_
 refine Jo 6 ?_; rintro a39 k40 rfl
 refine KS ?_
 refine Oq Va (KS ?_)
 refine pC H hx0 fun hc54 H=>?_
 refine llH H hx0 fun X55 hX56 hx57 HL58=>?_
 refine Kl (γ:=Nat × List (List Int) × List (List Int) × Int × Option Addr × Nat × Option Addr × Nat) (fun (r41,QlU,QkM,QlZ,a45,k46,a47,k48)=>⟨[(1,p2),(2,p3),(6,vl a19 k20 rv16),(7,p33),(8,vi QlZ)],[O a47 k48 QkM,O a45 k46 QlU,S a19 k20 rv16,Cl p3 [.slice none 0 0,.slice none 0 0,.slice none 0 0],pv p2 [vl pa0 pk0 p.Funcs],S pa0 pk0 p.Funcs,Cl p33 [vl a19 k20 rv16,vl a45 k46 QlU,vl a47 k48 QkM]],Qgc p rv16 r41 QlU QkM QlZ = X55 /\ r41 = ((rv16.length:Int) - QlZ).toNat /\ (0:Int) <= QlZ /\ QlZ <= (rv16.length:Int) /\ (-9223372036854775808 <= QlZ /\ QlZ <= 9223372036854775807),r41⟩) (((rv16.length:Int) - 0).toNat,(List.replicate (rv16.length:Int).toNat []),(List.replicate (rv16.length:Int).toNat []),0,a36,k37,a39,k40) [6,5,0,2,2,3,4] ⟨hX56,rfl,aM1,aM1,aM1⟩ ?_
 rintro ⟨r41,QlU,QkM,QlZ,a45,k46,a47,k48⟩ ⟨hM49,hr50,hi51,hi52,hk53⟩
 refine QaA fun _ _ hL hA=>?_; dsimp only at hL hA; subst hL hA
 refine Fb 24 0 fun _=>Fb 24 1 fun _=>Fb 32 2 fun _=>Fb 40 5 fun _=>KS ?_
 refine Oq Vm (Oq Vm (Oq (Qba Qgf) (Oq Qbh (KS ?_))))
 refine Kc ?_ ?_
 ·intro h63
  have g64:=dt h63
  obtain ⟨r65,rfl⟩:=scc (n:=r41) aM1
  have H:=hM49; (try dsimp only at H); rw [Qgc] at H
  refine KS ?_
  refine Oq (Qau QjT 4) (Oq Vm (Oq Vm ?_))
  refine lbH H hx57 fun rv67 hg68 H=>?_
  have hc69:=Qxs p pa0 pk0 rv16 a19 k20 QlZ pre rv67 hg68
  refine Oc [5,2] Qw2 hc69 ?_
  rintro c66 -
  refine Jo 0 ?_; rintro a70 k71 rfl
  refine Fb 8 0 fun _=>Fo 0 fun ho73=>?_
  refine Oq Va (KS ?_)
  refine Oq Va (KS ?_)
  refine llH H hx57 fun X83 hX84 hx85 HL86=>?_
  refine Kl (γ:=Nat × List (List Int) × List (List Int) × Int) (fun (r74,Qmh,Qmi,QlV)=>⟨[(1,p2),(2,p3),(6,vl a19 k20 rv16),(7,p33),(8,vi QlZ),(9,vl a70 k71 rv67),(10,vi QlV)],[S a70 k71 rv67,os (vl a47 k48 QkM) Qmi,os (vl a45 k46 QlU) Qmh,S a19 k20 rv16,Cl p3 [.slice none 0 0,.slice none 0 0,.slice none 0 0],pv p2 [vl pa0 pk0 p.Funcs],S pa0 pk0 p.Funcs,Cl p33 [vl a19 k20 rv16,vl a45 k46 QlU,vl a47 k48 QkM]],QfR QlZ rv67 r74 Qmh Qmi QlV = X83 /\ r74 = ((rv67.length:Int) - QlV).toNat /\ (0:Int) <= QlV /\ QlV <= (rv67.length:Int) /\ (-9223372036854775808 <= QlV /\ QlV <= 9223372036854775807),r74⟩) (((rv67.length:Int) - 0).toNat,QlU,QkM,0) [0,1,1,1,2,2,3,4] ⟨hX84,rfl,aM1,aM1,aM1⟩ ?_
  rintro ⟨r74,Qmh,Qmi,QlV⟩ ⟨hM78,hr79,hi80,hi81,hk82⟩
  refine QaA fun _ _ hL hA=>?_; dsimp only at hL hA; subst hL hA
  refine Fb 8 0 fun _=>Fo 0 fun ho88=>Fb 24 1 fun _=>Fl 1 fun hn90=>?_
  refine Fb 24 2 fun _=>Fl 2 fun hn92=>?_
  refine Fb 32 3 fun _=>Fb 40 6 fun _=>KS ?_
  refine Oq Vm (Oq Vm (Oq (Qba QcA) (Oq Qbh (KS ?_))))
  refine Kc ?_ ?_
  ·intro h95
   have g96:=dt h95
   obtain ⟨r97,rfl⟩:=scc (n:=r74) aM1
   have H:=hM78; (try dsimp only at H); rw [QfR] at H
   refine KS ?_
   refine Jp 7 fun hp98=>?_
   refine pC H hx85 fun hc99 H=>?_
   refine Qoc QlZ.toNat 3 rfl rng fun a100 k101=>?_
   refine Fb 8 1 fun _=>Fo 1 fun ho103=>?_
   refine Qam [0,1,0,0,8,0,56,120,0,0,768,1792,4088,8191,16383] Qco ?_
   refine Dv [2] (Vfa QqX 0) (Dv [9] (Qah QgG 0) (Dv [] Vm (Dv [2] (Vfa QqX 0) (Dv [9] (Qah QgG 0) (Dv [] Vm (Dv [0] (Vi Qfr 0) (Dv [0] (Vld QjI 0) (Dv [] Vm (Dv [] Vm ?_)))))))))
   refine pC H hx85 fun hc104 H=>?_
   refine pC H hx85 fun hc105 H=>?_
   refine Dv [3] (Vi QcA 0) ?_
   have hb106:=ok1 (i:=QlV.toNat) ho88 rng
   refine Dv [3] (Qjc sh3 0) ?_
   refine pC H hx85 fun hc107 H=>?_
   refine lvH H fun rv109 hg110 H=>?_
   refine Dx [1] [] [2,0,1] (fun G=>(G.g 12 0)) [fun G=>SP.fact ((rv109.length <= (Qmh.getD QlZ.toNat []).length + 1)),fun G=>sl (G.g 12 0) rv109] (fun G=>xC [0] QxV (QyN ((Qmh.getD QlZ.toNat [])) a100 k101 ((rv67.getD QlV.toNat 0)) pre pre rv109 hg110)) (Dv [0] (Vi Qfr 0) ?_)
   refine Dx0 [0,10,11] [0] [2,1,0] [fun G=>os (vl a45 k46 QlU) (Qmh.set QlZ.toNat rv109)] (fun G=>by refine xf 1 rfl ?_; rintro he111; exact xp [0] rfl (Ent.oread _ _ _ _) (x1 2 rfl Qkx fun ho112=>(xS (OpS.frame [0,1] rfl (OpS.storeOs' (Rs:=[sl (G.g 12 0) rv109]) rv109 [(G.g 12 0)] rfl rfl rfl QjI (QaX ho112) rfl (fun h=>⟨_,rfl,Qaj (i:=0) rfl h⟩) rng))))) ?_
   refine Dn ⟨by kernel_rfl,fun G=>?_⟩
   refine Jw2 [(1,p2),(2,p3),(6,vl a19 k20 rv16),(7,p33),(8,vi QlZ),(9,vl a70 k71 rv67),(10,vi QlV)] [1,2,3,4,5,6,7,8,9] [SP.fact ((rv109.length <= (Qmh.getD QlZ.toNat []).length + 1)),sl (G.g 12 0) rv109,os (vl a45 k46 QlU) (Qmh.set QlZ.toNat rv109)] ?_
   generalize G.g 12 0 = c108
   refine Jf 9 rfl ?_; rintro he113
   refine Jk [0,2,3,3,4,4,5,6,7,8] ?_
   refine Jo 8 ?_; rintro a114 k115 rfl
   refine Fb 8 8 fun _=>Fo 8 fun ho117=>?_
   refine Jp 7 fun hp118=>?_
   refine pC H hx85 fun hc119 H=>?_
   refine pC H hx85 fun hc120 H=>?_
   refine pC H hx85 fun hc121 H=>?_
   refine pC H hx85 fun hc122 H=>?_
   refine Qoc ((rv67.getD QlV.toNat 0):Int).toNat 3 rfl rng fun a123 k124=>?_
   refine Fb 8 1 fun _=>Fo 1 fun ho126=>?_
   refine Qam [0,1,0,0,12,28,0,64,0,0,768,1792,4032,8128,0,32704,65535,131071] Qco ?_
   refine Dv [2] (Vfa QoV 0) (Dv [9] (Qah QgG 0) (Dv [] Vm (Dv [] Vm (Dv [4] (Vi QcA 0) ?_))))
   have hb127:=ok1 (i:=QlV.toNat) ho88 rng
   refine Dv [4] (Qjc sh3 0) (Dv [2] (Vfa QoV 0) (Dv [9] (Qah QgG 0) (Dv [] Vm (Dv [] Vm (Dv [4] (Vi QcA 0) ?_)))))
   have hb128:=ok1 (i:=QlV.toNat) ho88 rng
   refine Dv [4] (Qjc sh3 0) (Dv [0] (Vi Qfr 0) (Dv [0] (Vld QjI 0) (Dv [] Vm ?_)))
   refine pC H hx85 fun hc129 H=>?_
   refine pC H hx85 fun hc130 H=>?_
   refine lvH H fun rv132 hg133 H=>?_
   refine Dx [1] [] [2,0,1] (fun G=>(G.g 15 0)) [fun G=>SP.fact ((rv132.length <= (Qmi.getD ((rv67.getD QlV.toNat 0):Int).toNat []).length + 1)),fun G=>sl (G.g 15 0) rv132] (fun G=>xC [0] QxV (QyN ((Qmi.getD ((rv67.getD QlV.toNat 0):Int).toNat [])) a123 k124 QlZ pre pre rv132 hg133)) ?_
   refine Dx [0,12] [] [0,0] (fun G=>(QfB 1 (vl a47 k48 QkM) ((rv67.getD QlV.toNat 0):Int).toNat)) [] (fun G=>by refine xf 1 rfl ?_; rintro he134; exact xV (Vi Qfr 0)) ?_
   refine Dx0 [0,12,13] [0] [2,1,0] [fun G=>os (vl a47 k48 QkM) (Qmi.set ((rv67.getD QlV.toNat 0):Int).toNat rv132)] (fun G=>by refine xf 1 rfl ?_; rintro he135; exact xp [0] rfl (Ent.oread _ _ _ _) (x1 2 rfl Qkx fun ho136=>(xS (OpS.frame [0,1] rfl (OpS.storeOs' (Rs:=[sl (G.g 15 0) rv132]) rv132 [(G.g 15 0)] rfl rfl rfl QjI (QaX ho136) rfl (fun h=>⟨_,rfl,Qaj (i:=0) rfl h⟩) rng))))) ?_
   refine Dn ⟨by kernel_rfl,fun G=>?_⟩
   refine Jw2 [(1,p2),(2,p3),(6,vl a19 k20 rv16),(7,p33),(8,vi QlZ),(9,vl a70 k71 rv67),(10,vi QlV)] [1,2,3,4,5,6,7,8,9,10,11] [SP.fact ((rv132.length <= (Qmi.getD ((rv67.getD QlV.toNat 0):Int).toNat []).length + 1)),sl (G.g 15 0) rv132,os (vl a47 k48 QkM) (Qmi.set ((rv67.getD QlV.toNat 0):Int).toNat rv132)] ?_
   generalize G.g 15 0 = c131
   refine Jf 11 rfl ?_; rintro he137
   refine Jk [0,2,3,4,5,5,6,7,7,8,9,10] ?_
   refine Jo 10 ?_; rintro a138 k139 rfl
   refine Fb 8 10 fun _=>Fo 10 fun ho141=>KS ?_
   refine Oq Vm (Oq QaS (Oq Va (KS ?_)))
   refine pC H hx85 fun hc142 H=>?_
   refine pC H hx85 fun hc143 H=>?_
   exact Kg (r97,(Qmh.set QlZ.toNat rv109),(Qmi.set ((rv67.getD QlV.toNat 0):Int).toNat rv132),(QlV + 1)) [2,11,9,3,4,4,5,6] ⟨H,aM1,aM1,aM1,aM1⟩
  intro h95
  have g144:=df h95
  obtain rfl:r74 = 0:=by omega
  have H:=hM78; (try dsimp only at H); rw [QfR] at H
  refine Ke ?_
  have H:=llB H HL86
  dsimp only at H
  refine KS ?_
  refine Oq Vm (Oq QaS (Oq Va (KS ?_)))
  refine Fl 2 fun hn145=>?_; (try unfold vl); rw [<- hn145]
  refine Fl 1 fun hn146=>?_; (try unfold vl); rw [<- hn146]
  refine pC H hx57 fun hc147 H=>?_
  exact Kg (r65,Qmh,Qmi,(QlZ + 1),a45,k46,a47,k48) [1,1,1,2,2,3,4] ⟨H,aM1,aM1,aM1,aM1⟩
 intro h63
 have g148:=df h63
 obtain rfl:r41 = 0:=by omega
 have H:=hM49; (try dsimp only at H); rw [Qgc] at H
 refine Ke ?_
 have H:=llB H HL58
 dsimp only at H
 refine KS ?_
 refine Oq (Qau Qrq 6) (Ost (Scl [3] Qrq [vl a19 k20 rv16,vl a45 k46 QlU,vl a47 k48 QkM]) (Oq Va (KS ?_)))
 refine Jl [2] (Ent.freeze _ _) ?_
 refine Jl [2] (Ent.freeze _ _) ?_
 have hq:=rI H; subst hq
 exact Kr (vl a19 k20 rv16,vl a45 k46 QlU,vl a47 k48 QkM) rfl (.cellN 2 rfl Qrq rfl (Qal _ _) rfl (.tmp rfl .nil)) [3,1,0] en
theorem QyS (width:Int) (Qcj:Qaa width) (rr:Qad) (hrr:QiZ width = .ret rr):FT Tryz.prog 132 #[vi width] [] (fun g:Value × Value × Value=>Qaa rr.Gen.Width /\ Qaa rr.Kill.Width) (fun g=>.agg #[vi rr.Gen.Width,g.1,vi rr.Kill.Width,g.2.1,g.2.2]) (fun g=>[sl g.1 rr.Gen.Words,sl g.2.1 rr.Kill.Words,os g.2.2 rr.Copies]):=by
 refine FTi Tryz.func132 fun w0 M0 F0=>?_
 unfold Qaa at Qcj
 have hx0:=lrn rr; have H:=hrr; unfold QiZ at H
 refine KS ?_
 refine Oa (Al Qqo [vi 0,.slice none 0 0,vi 0,.slice none 0 0,.slice none 0 0]) fun p1=>KS ?_
 refine Oq Vm ?_
 refine pC H hx0 fun hc2 H=>?_
 refine lvH H fun rv4 hg5 H=>?_
 have hc6:=QpC width pre pre rv4 hg5
 refine Oc [] QpB hc6 ?_
 rintro c3 ⟨he7,he8,he9⟩
 unfold Qaa at he7
 refine Jo 0 ?_; rintro a10 k11 rfl
 refine Fb 8 0 fun _=>Oq Vm ?_
 have hc14:=QpC width pre pre rv4 hg5
 refine Oc [] QpB hc14 ?_
 rintro c13 ⟨he15,he16,he17⟩
 unfold Qaa at he15
 refine Jo 0 ?_; rintro a18 k19 rfl
 refine Oq (Vbd Qya [vi rv4.Width,vl a10 k11 rv4.Words,vi rv4.Width,vl a18 k19 rv4.Words,.slice none 0 0]) (Ost (Scl [2] Qek [vi rv4.Width,vl a10 k11 rv4.Words,vi rv4.Width,vl a18 k19 rv4.Words,.slice none 0 0]) (KS ?_))
 refine Jl [] (Ent.osNil (α:=QbA)) ?_
 refine Jl [3] (Ent.freeze _ _) ?_
 refine Jl [3] (Ent.freeze _ _) ?_
 refine pC H hx0 fun hc20 H=>?_
 have hq:=rI H; subst hq
 exact Kr (vl a10 k11 rv4.Words,vl a18 k19 rv4.Words,.slice none 0 0) rfl (.cellN 3 rfl Qek rfl (Qal _ _) rfl .nil) [1,0,2] en
theorem Qyh (x:Qjf) (xa1:Option Addr) (xk1:Nat) (xa2:Option Addr) (xk2:Nat) (Quu:Qaa x.Zero.Width) (rr:Qad × Bool) (hrr:Qi2 x = .ret rr):FT Tryz.prog 168 #[.agg #[vi x.Zero.Width,vl xa1 xk1 x.Zero.Words,vl xa2 xk2 x.One]] [S xa1 xk1 x.Zero.Words,S xa2 xk2 x.One] (fun g:Value × Value × Value=>Qaa rr.1.Gen.Width /\ Qaa rr.1.Kill.Width) (fun g=>.tuple #[.agg #[vi rr.1.Gen.Width,g.1,vi rr.1.Kill.Width,g.2.1,g.2.2],vb rr.2]) (fun g=>[sl g.1 rr.1.Gen.Words,sl g.2.1 rr.1.Kill.Words,sl g.2.2 rr.1.Copies]):=by
 refine FTi Tryz.func168 fun w0 M0 F0=>?_
 unfold Qaa at Quu
 refine Fb 8 0 fun _=>Fb 32 1 fun _=>?_
 have hx0:=lrn rr; have H:=hrr; unfold Qi2 at H
 refine KS ?_
 refine Oa (Ab [vi x.Zero.Width,vl xa1 xk1 x.Zero.Words,vl xa2 xk2 x.One]) fun p3=>Oa (Al Qqo [vi 0,.slice none 0 0,vi 0,.slice none 0 0,.slice none 0 0]) fun p4=>Oq Va (KS ?_)
 refine Oq (Vfa Qox 1) (Oq (Qol Qbi 1) (Oq (Qah sh3 1) (Oq Va (KS ?_))))
 refine Qam [0,1,0,4,15,0,63] Qco ?_
 refine Dv [1] (Vfa Qox 0) (Dv [1] (Qmr Qax 0 [vi x.Zero.Width,vl xa1 xk1 x.Zero.Words]) (Dv [] Vm ?_))
 refine pC H hx0 fun hc5 H=>?_
 refine lvH H fun rv7 hg8 H=>?_
 refine Dx [] [] [0,1] (fun G=>.agg #[vi rv7.Width,(G.g 3 0)]) [fun G=>SP.fact (Qaa rv7.Width /\ (rv7.Width = x.Zero.Width) /\ (rv7.Words.length = (((x.Zero.Width:Int) + 63) / 64).toNat)),fun G=>os (G.g 3 0) rv7.Words] (fun G=>xC [] QpB (QpC x.Zero.Width pre pre rv7 hg8)) ?_
 refine Dx [5] [] [0] (fun G=>.agg #[vi x.Zero.Width,vl xa1 xk1 x.Zero.Words,vi rv7.Width,(G.g 3 0),.slice none 0 0]) [] (fun G=>xV (v:=.agg #[vi x.Zero.Width,vl xa1 xk1 x.Zero.Words,vi rv7.Width,(G.g 3 0),.slice none 0 0]) (Vo 0 rfl (Qks _ _) fun aq9 kq10 eq11=>(by rw [eq11]; exact Vbd Qya [vi x.Zero.Width,vl xa1 xk1 x.Zero.Words,vi rv7.Width,.slice aq9 ((rv7.Words:List (BitVec 64)).length) kq10,.slice none 0 0]))) (Dx [] [] [0] (fun G=>(G.g 5 0)) [fun G=>Cl (G.g 5 0) [vi 0,.slice none 0 0,vi 0,.slice none 0 0,.slice none 0 0]] (fun G=>xA (Al Qqo [vi 0,.slice none 0 0,vi 0,.slice none 0 0,.slice none 0 0])) (Dx0 [5,6] [6] [1,0] [fun G=>Cl (G.g 5 0) [vi x.Zero.Width,vl xa1 xk1 x.Zero.Words,vi rv7.Width,(G.g 3 0),.slice none 0 0]] (fun G=>x1 0 rfl Qc0 fun ho13=>(xS (Scl [1] Qek [vi x.Zero.Width,vl xa1 xk1 x.Zero.Words,vi rv7.Width,(G.g 3 0),.slice none 0 0] (v:=.agg #[vi x.Zero.Width,vl xa1 xk1 x.Zero.Words,vi rv7.Width,(G.g 3 0),.slice none 0 0]) (h1:=show [vi x.Zero.Width,vl xa1 xk1 x.Zero.Words,vi rv7.Width,(G.g 3 0),.slice none 0 0].all (·.oneCell') = true from (by simp only [List.all_cons,List.all_nil,ho13,Bool.and_true,Bool.true_and] <;> rfl))))) ?_))
 refine Dn ⟨by kernel_rfl,fun G=>?_⟩
 refine Jw2 [(1,p3),(2,p4),(4,vi x.Zero.Width),(5,(G.g 5 0))] [0,1,2,3] [SP.fact (Qaa rv7.Width /\ (rv7.Width = x.Zero.Width) /\ (rv7.Words.length = (((x.Zero.Width:Int) + 63) / 64).toNat)),os (G.g 3 0) rv7.Words,Cl (G.g 5 0) [vi x.Zero.Width,vl xa1 xk1 x.Zero.Words,vi rv7.Width,(G.g 3 0),.slice none 0 0]] ?_
 generalize G.g 3 0 = c6,G.g 5 0 = p12
 refine Jf 4 rfl ?_; rintro ⟨he14,he15,he16⟩
 unfold Qaa at he14
 refine Jk [0,0,1,2,4,4] ?_
 refine Jo 4 ?_; rintro a17 k18 rfl
 refine Fb 8 4 fun _=>KS ?_
 refine Oq Va (KS ?_)
 refine llH H hx0 fun X32 hX33 hx34 HL35=>?_
 refine Kl (γ:=Nat × Int × List (BitVec 64) × Int × Option Addr × Nat) (fun (r20,QjQ,Qkp,QmK,a24,k25)=>⟨[(1,p3),(2,p4),(4,vi x.Zero.Width),(5,p12),(6,vi QmK)],[O a24 k25 Qkp,Cl p4 [vi 0,.slice none 0 0,vi 0,.slice none 0 0,.slice none 0 0],pv p3 [vi x.Zero.Width,vl xa1 xk1 x.Zero.Words,vl xa2 xk2 x.One],S xa1 xk1 x.Zero.Words,S xa2 xk2 x.One,Cl p12 [vi x.Zero.Width,vl xa1 xk1 x.Zero.Words,vi QjQ,vl a24 k25 Qkp,.slice none 0 0]],Qds x r20 QjQ Qkp QmK = X32 /\ r20 = ((x.Zero.Width:Int) - QmK).toNat /\ (0:Int) <= QmK /\ (QmK <= x.Zero.Width \/ QmK = 0) /\ (-9223372036854775808 <= QjQ /\ QjQ <= 9223372036854775807) /\ (-9223372036854775808 <= QmK /\ QmK <= 9223372036854775807),r20⟩) (((x.Zero.Width:Int) - 0).toNat,rv7.Width,rv7.Words,0,a17,k18) [4,0,0,1,2,3] ⟨hX33,rfl,aM1,(.inr rfl),aM1,aM1⟩ ?_
 rintro ⟨r20,QjQ,Qkp,QmK,a24,k25⟩ ⟨hM26,hr27,hi28,hi29,hk30,hk31⟩
 refine QaA fun _ _ hL hA=>?_; dsimp only at hL hA; subst hL hA
 refine Fb 8 0 fun _=>Fb 8 3 fun _=>Fb 32 4 fun _=>KS ?_
 refine Oq Vm (Oq Vm (Oq Qbh (KS ?_)))
 refine Kc ?_ ?_
 ·intro h39
  have g40:=dt h39
  obtain ⟨r41,rfl⟩:=scc (n:=r20) aM1
  have H:=hM26; (try dsimp only at H); rw [Qds] at H
  refine KS ?_
  refine Oq (Vfa Qow 2) (Oq (Qah Qjd 2) (Oq Vm ?_))
  refine pC H hx34 fun hc42 H=>?_
  refine Oq (Vi Qc6 4) ?_
  refine Qa3 QmK.toNat 4 rfl rng fun a43 k44 hb45=>?_
  unfold Qaa at hb45
  refine Fb 8 1 fun _=>?_
  refine Oq (Qau Qax 0) (Oq Vm ?_)
  refine pC H hx34 fun hc49 H=>?_
  refine lvH H fun rv47 hg48 H=>?_
  have hc50:=QrH ((x.One.getD QmK.toNat default)) a43 k44 QmK pre pre rv47 hg48
  refine Oc [1] QrF hc50 ?_
  rintro - -
  refine Oq Qcy (Oq Vm ?_)
  refine pF H hx34 fun h51 H=>?_
  refine JsF 29 h51 ?_
  have h53:=not_false h51
  refine Oq (Vfa Qox 4) (Oq (Qmr Qax 4 [vi x.Zero.Width,vl xa1 xk1 x.Zero.Words]) (Oq Vm ?_))
  refine lvH H fun rv55 hg56 H=>?_
  have hc57:=QrH x.Zero xa1 xk1 QmK pre pre rv55 hg56
  refine Oc [5] QrF hc57 ?_
  rintro - -
  refine Oq Vpf (KS ?_)
  refine KcH H ?_ ?_
  ·intro h58 H
   refine KS ?_
   refine Oq (Vfa Qgj 7) (Oq (Qmr Qax 7 [vi QjQ,vl a24 k25 Qkp]) (Oq Vm ?_))
   refine pC H hx34 fun hc60 H=>?_
   refine pC H hx34 fun hc61 H=>?_
   refine lvH H fun rv63 hg64 H=>?_
   refine Oc [2] Qqq (Qc2 (A:=_) hlx (Qd3 (Ent.take (is:=[0]) rfl) (Qqn ((Qaf.mk QjQ Qkp)) a24 k25 QmK pre pre pre pre rv63 hg64))) ?_ (ht:=rfl)
   rintro c62 ⟨he65,he66,he67⟩
   unfold Qaa at he65
   have he66:(rv63.Width = QjQ):=he66
   have he67:(rv63.Words.length = ((QjQ + 63) / 64).toNat):=he67
   refine Jo 1 ?_; rintro a68 k69 rfl
   refine Fb 8 1 fun _=>?_
   refine Oq (Vfa Qgj 8) (Ost (QiP [8] Qax [vi x.Zero.Width,vl xa1 xk1 x.Zero.Words,vi rv63.Width,vl a68 k69 rv63.Words,.slice none 0 0]) (KS ?_))
   refine Oq Va (KS ?_)
   refine llH H hx34 fun X78 hX79 hx80 HL81=>?_
   refine Kl (γ:=Nat × Int) (fun (r71,QrQ)=>⟨[(1,p3),(2,p4),(4,vi x.Zero.Width),(5,p12),(6,vi QmK),(7,vi QrQ)],[Cl p12 [vi x.Zero.Width,vl xa1 xk1 x.Zero.Words,vi rv63.Width,vl a68 k69 rv63.Words,.slice none 0 0],O a68 k69 rv63.Words,Cl p4 [vi 0,.slice none 0 0,vi 0,.slice none 0 0,.slice none 0 0],pv p3 [vi x.Zero.Width,vl xa1 xk1 x.Zero.Words,vl xa2 xk2 x.One],S xa1 xk1 x.Zero.Words,S xa2 xk2 x.One],QbX QmK r71 QrQ = X78 /\ r71 = ((x.Zero.Width:Int) - QrQ).toNat /\ (0:Int) <= QrQ /\ (QrQ <= x.Zero.Width \/ QrQ = 0) /\ (-9223372036854775808 <= QrQ /\ QrQ <= 9223372036854775807),r71⟩) (((x.Zero.Width:Int) - 0).toNat,0) [0,1,3,3,4,5] ⟨hX79,rfl,aM1,(.inr rfl),aM1⟩ ?_
   rintro ⟨r71,QrQ⟩ ⟨hM73,hr74,hi75,hi76,hk77⟩
   refine QaA fun _ _ hL hA=>?_; dsimp only at hL hA; subst hL hA
   refine Fb 8 1 fun _=>Fb 8 4 fun _=>Fb 32 5 fun _=>KS ?_
   refine Oq Vm (Oq Vm (Oq Qbh (KS ?_)))
   refine Kc ?_ ?_
   ·intro h85
    have g86:=dt h85
    obtain ⟨r87,rfl⟩:=scc (n:=r71) aM1
    have H:=hM73; (try dsimp only at H); rw [QbX] at H
    refine KS ?_
    refine Oq Vm (Oq Vm (Oq QfZ (Oq Vm ?_)))
    refine pF H hx80 fun h88 H=>?_
    refine JsF 48 h88 ?_
    have g89:=Qae h88
    refine Osk (Osk (Osk (Osk (Osk (Osk (Osk (Oq Vpf (Oq Vm (Osk ?_)))))))))
    refine Osk (Osk (Osk (Osk (Oq Vpf (KS ?_)))))
    refine Kf (KS ?_)
    refine Oq Vm (Oq QaS (Oq Va (KS ?_)))
    refine pC H hx80 fun hc90 H=>?_
    exact Kg (r87,(QrQ + 1)) [0,0,0,0,1,2] ⟨H,aM1,aM1,aM1,aM1⟩
   intro h85
   have g91:=df h85
   obtain rfl:r71 = 0:=by omega
   have H:=hM73; (try dsimp only at H); rw [QbX] at H
   refine Ke ?_
   have H:=llB H HL81
   refine KS ?_
   refine Oq Vm (Oq QaS (Oq Va (KS ?_)))
   refine pC H hx34 fun hc92 H=>?_
   exact Kg (r41,rv63.Width,rv63.Words,(QmK + 1),a68,k69) [1,1,1,2,3,0] ⟨H,aM1,aM1,aM1,aM1,aM1⟩
  intro h58 H
  refine KS ?_
  refine Oq Va (KS ?_)
  refine llH H hx34 fun X101 hX102 hx103 HL104=>?_
  refine Kl (γ:=Nat × Int) (fun (r94,QrR)=>⟨[(1,p3),(2,p4),(4,vi x.Zero.Width),(5,p12),(6,vi QmK),(7,vi QrR)],[O a24 k25 Qkp,Cl p4 [vi 0,.slice none 0 0,vi 0,.slice none 0 0,.slice none 0 0],pv p3 [vi x.Zero.Width,vl xa1 xk1 x.Zero.Words,vl xa2 xk2 x.One],S xa1 xk1 x.Zero.Words,S xa2 xk2 x.One,Cl p12 [vi x.Zero.Width,vl xa1 xk1 x.Zero.Words,vi QjQ,vl a24 k25 Qkp,.slice none 0 0]],QbX QmK r94 QrR = X101 /\ r94 = ((x.Zero.Width:Int) - QrR).toNat /\ (0:Int) <= QrR /\ (QrR <= x.Zero.Width \/ QrR = 0) /\ (-9223372036854775808 <= QrR /\ QrR <= 9223372036854775807),r94⟩) (((x.Zero.Width:Int) - 0).toNat,0) [2,2,2,3,4,5] ⟨hX102,rfl,aM1,(.inr rfl),aM1⟩ ?_
  rintro ⟨r94,QrR⟩ ⟨hM96,hr97,hi98,hi99,hk100⟩
  refine QaA fun _ _ hL hA=>?_; dsimp only at hL hA; subst hL hA
  refine Fb 8 0 fun _=>Fb 8 3 fun _=>Fb 32 4 fun _=>KS ?_
  refine Oq Vm (Oq Vm (Oq Qbh (KS ?_)))
  refine Kc ?_ ?_
  ·intro h108
   have g109:=dt h108
   obtain ⟨r110,rfl⟩:=scc (n:=r94) aM1
   have H:=hM96; (try dsimp only at H); rw [QbX] at H
   refine KS ?_
   refine Oq Vm (Oq Vm (Oq QfZ (Oq Vm ?_)))
   refine pF H hx103 fun h111 H=>?_
   refine JsF 48 h111 ?_
   have g112:=Qae h111
   refine Osk (Osk (Osk (Osk (Osk (Osk (Osk (Oq Vpf (Oq Vm (Osk ?_)))))))))
   refine Osk (Osk (Osk (Osk (Oq Vpf (KS ?_)))))
   refine Kf (KS ?_)
   refine Oq Vm (Oq QaS (Oq Va (KS ?_)))
   refine pC H hx103 fun hc113 H=>?_
   exact Kg (r110,(QrR + 1)) [0,0,0,1,2,3] ⟨H,aM1,aM1,aM1,aM1⟩
  intro h108
  have g114:=df h108
  obtain rfl:r94 = 0:=by omega
  have H:=hM96; (try dsimp only at H); rw [QbX] at H
  refine Ke ?_
  have H:=llB H HL104
  refine KS ?_
  refine Oq Vm (Oq QaS (Oq Va (KS ?_)))
  refine pC H hx34 fun hc115 H=>?_
  exact Kg (r41,QjQ,Qkp,(QmK + 1),a24,k25) [0,0,0,1,2,3] ⟨H,aM1,aM1,aM1,aM1,aM1⟩
 intro h39
 have g116:=df h39
 obtain rfl:r20 = 0:=by omega
 have H:=hM26; (try dsimp only at H); rw [Qds] at H
 refine Ke ?_
 have H:=llB H HL35
 dsimp only at H
 refine KS ?_
 refine Jp 5 fun hp117=>?_
 refine Qam [0,0,2,6,14,1,63] Qco ?_
 refine Dv [6] (Qau Qek 0) (Dv [0] (Vfa Qeo 0) (Dv [6] (Qah Qmn 0) (Dv [] (Qba QkQ) (Dv [] QrL (Dx0 [2] [2] [0] [fun G=>Cl p4 [vi x.Zero.Width,vl xa1 xk1 x.Zero.Words,vi QjQ,vl a24 k25 Qkp,.slice none 0 0]] (fun G=>xS (Scl [0] Qek [vi x.Zero.Width,vl xa1 xk1 x.Zero.Words,vi QjQ,vl a24 k25 Qkp,.slice none 0 0])) (Dv [] Va ?_))))))
 refine Dn ⟨by kernel_rfl,fun G=>?_⟩
 refine Jw2 [(2,p4),(3,vb (decide (((0:Nat):Int) <= 64)))] [0,1,3,4,5,6] [Cl p4 [vi x.Zero.Width,vl xa1 xk1 x.Zero.Words,vi QjQ,vl a24 k25 Qkp,.slice none 0 0]] ?_
 refine Jk [1,1,2,3,4,4] ?_
 refine Jl [0] (Ent.freeze _ _) ?_
 refine Jl [] (Ent.slNil (α:=QbA)) ?_
 have hq:=rI H; subst hq
 exact Kr (vl xa1 xk1 x.Zero.Words,vl a24 k25 Qkp,.slice none 0 0) rfl (.cellN 6 rfl Qek rfl (Qal _ _) rfl (.tmp rfl .nil)) [3,1,0] en
theorem Qxi (t:Qad) (ta1:Option Addr) (tk1:Nat) (ta3:Option Addr) (tk3:Nat) (ta4:Option Addr) (tk4:Nat) (Qkl:Qaa t.Gen.Width) (Qkm:Qaa t.Kill.Width) (rr:Qjf) (hrr:QmM t = .ret rr):FT Tryz.prog 169 #[.agg #[vi t.Gen.Width,vl ta1 tk1 t.Gen.Words,vi t.Kill.Width,vl ta3 tk3 t.Kill.Words,vl ta4 tk4 t.Copies]] [S ta1 tk1 t.Gen.Words,S ta3 tk3 t.Kill.Words,S ta4 tk4 t.Copies] (fun g:Value × Value=>Qaa rr.Zero.Width) (fun g=>.agg #[vi rr.Zero.Width,g.1,g.2]) (fun g=>[sl g.1 rr.Zero.Words,sl g.2 rr.One]):=by
 refine FTi Tryz.func169 fun w0 M0 F0=>?_
 unfold Qaa at Qkl Qkm
 refine Fb 8 0 fun _=>Fb 8 1 fun _=>Fb 16 2 fun _=>?_
 have hx0:=lrn rr; have H:=hrr; unfold QmM at H
 refine KS ?_
 refine Oa (Ab [vi t.Gen.Width,vl ta1 tk1 t.Gen.Words,vi t.Kill.Width,vl ta3 tk3 t.Kill.Words,vl ta4 tk4 t.Copies]) fun p4=>Oa (Al Qv2 [vi 0,.slice none 0 0,.slice none 0 0]) fun p5=>KS ?_
 refine Oq (Vfa QdB 1) (Oq (Qmr Qax 1 [vi t.Gen.Width,vl ta1 tk1 t.Gen.Words]) (Oq (Vbd QxB [vi t.Gen.Width,vl ta1 tk1 t.Gen.Words,.slice none 0 0]) (Oa (Al Qv2 [vi 0,.slice none 0 0,.slice none 0 0]) fun p6=>Ost (Scl [0] Qr9 [vi t.Gen.Width,vl ta1 tk1 t.Gen.Words,.slice none 0 0]) (KS ?_))))
 refine Oq Va (KS ?_)
 refine Jl [] (Ent.osNil (α:=Qaf)) ?_
 refine llH H hx0 fun X17 hX18 hx19 HL20=>?_
 refine Kl (γ:=Nat × List Qaf × Int × Option Addr × Nat) (fun (r7,QrS,b_9,a10,k11)=>⟨[(1,p4),(2,p5),(3,p6),(4,vi b_9)],[O a10 k11 QrS,Cl p6 [vi t.Gen.Width,vl ta1 tk1 t.Gen.Words,vl a10 k11 QrS],Cl p5 [vi 0,.slice none 0 0,.slice none 0 0],pv p4 [vi t.Gen.Width,vl ta1 tk1 t.Gen.Words,vi t.Kill.Width,vl ta3 tk3 t.Kill.Words,vl ta4 tk4 t.Copies],S ta1 tk1 t.Gen.Words,S ta3 tk3 t.Kill.Words,S ta4 tk4 t.Copies],Qf5 t r7 QrS b_9 = X17 /\ r7 = ((t.Gen.Width:Int) - b_9).toNat /\ (0:Int) <= b_9 /\ (b_9 <= t.Gen.Width \/ b_9 = 0) /\ (-9223372036854775808 <= b_9 /\ b_9 <= 9223372036854775807),r7⟩) (((t.Gen.Width:Int) - 0).toNat,[],0,none,0) [0,0,0,0,1,2,3] ⟨hX18,rfl,aM1,(.inr rfl),aM1⟩ ?_
 rintro ⟨r7,QrS,b_9,a10,k11⟩ ⟨hM12,hr13,hi14,hi15,hk16⟩
 refine QaA fun _ _ hL hA=>?_; dsimp only at hL hA; subst hL hA
 refine Fb 32 0 fun _=>Fb 8 4 fun _=>Fb 8 5 fun _=>Fb 16 6 fun _=>KS ?_
 refine Oq Vm (Oq (Vfa QdB 3) (Oq (Qol Qbi 3) (Oq (Qah sh3 3) (Oq Qbh (KS ?_)))))
 refine Kc ?_ ?_
 ·intro h25
  have g26:=dt h25
  obtain ⟨r27,rfl⟩:=scc (n:=r7) aM1
  have H:=hM12; (try dsimp only at H); rw [Qf5] at H
  refine KS ?_
  refine Jp 1 fun hp28=>?_
  refine Qam [0,1,0,0,8,24,56,0,248,508,1020,2047,4095,8191] Qco ?_
  refine Dv [0] (Vfa Qow 0) (Dv [2] (Qah Qjd 0) (Dv [4] (Qau Qek 0) (Dv [4] (Vfa QdB 0) (Dv [4] (Qol Qbi 0) (Dv [4] (Qah sh3 0) ?_)))))
  refine pC H hx19 fun hc29 H=>?_
  refine lvH H fun rv31 hg32 H=>?_
  refine Dx [] [] [0,1] (fun G=>.agg #[vi rv31.Width,(G.g 6 0)]) [fun G=>SP.fact (Qaa rv31.Width /\ (rv31.Width = t.Gen.Width) /\ (rv31.Words.length = (((t.Gen.Width:Int) + 63) / 64).toNat)),fun G=>os (G.g 6 0) rv31.Words] (fun G=>xC [] QpB (QpC t.Gen.Width pre pre rv31 hg32)) (Dv [] Vm ?_)
  refine pC H hx19 fun hc36 H=>?_
  refine pC H hx19 fun hc37 H=>?_
  refine lvH H fun rv39 hg40 H=>?_
  refine Dx [8,9] [] [3,1,0,1] (fun G=>.agg #[vi rv39.Width,(G.g 8 0)]) [fun G=>SP.fact (Qaa rv39.Width /\ (rv39.Width = rv31.Width) /\ (rv39.Words.length = ((rv31.Width + 63) / 64).toNat)),fun G=>os (G.g 8 0) rv39.Words] (fun G=>by refine xf 0 rfl ?_; rintro ⟨he41,he42,he43⟩; unfold Qaa at he41; exact xD [1] Qqq rfl rfl rfl (Qh1 (γ:=Value) (I:=fun g=>Qaa rv39.Width /\ (rv39.Width = rv31.Width) /\ (rv39.Words.length = ((rv31.Width + 63) / 64).toNat)) (V:=fun g=>.agg #[vi rv39.Width,g]) (B:=fun g=>[os (G.g 6 0) rv31.Words,os g rv39.Words]) (R:=os (G.g 6 0) rv31.Words) Qnu (fun aq33 kq34 eq35=>by rw [eq35]; exact Qd3 (Ent.take (is:=[0]) rfl) (Qc2 (A:=_) hlx (Qd3 (Ent.take (is:=[0]) rfl) (Qqn rv31 aq33 kq34 b_9 pre pre pre pre rv39 hg40)))))) ?_
  refine pC H hx19 fun hc47 H=>?_
  refine pC H hx19 fun hc48 H=>?_
  refine lvH H fun rv50 hg51 H=>?_
  refine Dx [5,6,7,8,10,11] [11] [3,4,5,6,7,2,0,1] (fun G=>.agg #[vi rv50.Width,(G.g 9 0)]) [fun G=>sl (G.g 8 0) rv39.Words,fun G=>SP.fact (Qaa rv50.Width),fun G=>sl (G.g 9 0) rv50.Words] (fun G=>by refine xf 3 rfl ?_; rintro ⟨he52,he53,he54⟩; unfold Qaa at he52; refine xf 4 rfl ?_; rintro ⟨he55,he56,he57⟩; unfold Qaa at he55; exact xp [5] rfl (Ent.freeze _ _) (xD [0,1,2,3] QuW rfl rfl rfl (Qh1 (γ:=Value) (I:=fun g=>Qaa rv50.Width) (V:=fun g=>.agg #[vi rv50.Width,g]) (B:=fun g=>[sl g rv50.Words]) (R:=sl (G.g 8 0) rv39.Words) QgC (fun aq44 kq45 eq46=>by rw [eq46]; exact Qd3 (Ent.take (is:=[1,2,3,0]) rfl) (Qvh t ta1 tk1 ta3 tk3 ta4 tk4 rv39 aq44 kq45 pre pre pre pre pre rv50 hg51))))) (Dx [] [] [0] (fun G=>(G.g 10 0)) [fun G=>Cr (G.g 10 0) 1 [vi rv50.Width,(G.g 9 0)]] (fun G=>xA (AsV Qc6 Ql4 [.agg #[vi rv50.Width,(G.g 9 0)]] [vi rv50.Width,(G.g 9 0)])) ?_)
  refine pC H hx19 fun hc59 H=>?_
  have hn61:=la QrS ([rv50]:List Qaf)
  refine Dx [1,13,14,15] [1,15] [2,1,0] (fun G=>(G.g 11 0)) [fun G=>os (G.g 11 0) ((QrS ++ [rv50]):List Qaf)] (fun G=>by refine xf 1 rfl ?_; rintro he62; unfold Qaa at he62; exact xp [3,2] rfl (Ent.cr1 (α:=Qaf) (A:=[sl (G.g 9 0) rv50.Words]) _ rv50 _ aB1 (fun h=>⟨_,rfl,aL1,Qaj (i:=0) rfl h⟩)) (xA (ApO [2,0] Qc6 Qc6 Ql4))) (Dv [0] (Vfa Qow 0) (Dx0 [2,16] [2] [1,0] [fun G=>Cl p6 [vi t.Gen.Width,vl ta1 tk1 t.Gen.Words,(G.g 11 0)]] (fun G=>x1 1 rfl Qc0 fun ho63=>(xS (OpS.frame [0] rfl (OpS.storeClF [(G.g 11 0)] [vi t.Gen.Width,vl ta1 tk1 t.Gen.Words,(G.g 11 0)] rfl rfl rfl Qjd (QaX ho63) rfl (by simp only [List.all_cons,List.all_nil,ho63,Bool.and_true,Bool.true_and] <;> rfl) aB1 rfl)))) ?_))
  refine Dn ⟨by kernel_rfl,fun G=>?_⟩
  refine Jw2 [(1,p4),(2,p5),(3,p6),(4,vi b_9)] [0,3,4,5,6,7] [SP.fact (Qaa rv31.Width /\ (rv31.Width = t.Gen.Width) /\ (rv31.Words.length = (((t.Gen.Width:Int) + 63) / 64).toNat)),os (G.g 6 0) rv31.Words,SP.fact (Qaa rv39.Width /\ (rv39.Width = rv31.Width) /\ (rv39.Words.length = ((rv31.Width + 63) / 64).toNat)),sl (G.g 8 0) rv39.Words,SP.fact (Qaa rv50.Width),sl (G.g 9 0) rv50.Words,os (G.g 11 0) ((QrS ++ [rv50]):List Qaf),Cl p6 [vi t.Gen.Width,vl ta1 tk1 t.Gen.Words,(G.g 11 0)]] ?_
  generalize G.g 6 0 = c30,G.g 8 0 = c38,G.g 9 0 = c49,G.g 11 0 = c60
  refine Jf 6 rfl ?_; rintro ⟨he64,he65,he66⟩
  unfold Qaa at he64
  refine Jf 8 rfl ?_; rintro ⟨he67,he68,he69⟩
  unfold Qaa at he67
  refine Jf 10 rfl ?_; rintro he70
  unfold Qaa at he70
  refine Jk [1,1,2,3,4,6,7,9,10,10] ?_
  refine Jo 5 ?_; rintro a71 k72 rfl
  refine Fb 8 5 fun _=>?_
  refine Jo 6 ?_; rintro a74 k75 rfl
  refine Fb 8 6 fun _=>?_
  refine Jo 7 ?_; rintro a77 k78 rfl
  refine Fb 8 7 fun _=>?_
  refine Jo 8 ?_; rintro a80 k81 rfl
  refine Fb 32 8 fun _=>KS ?_
  refine Oq Vm (Oq QaS (Oq Va (KS ?_)))
  refine pC H hx19 fun hc83 H=>?_
  exact Kg (r27,(QrS ++ [rv50]),(b_9 + 1),a80,k81) [8,8,0,0,1,2,3] ⟨H,aM1,aM1,aM1,aM1⟩
 intro h25
 have g84:=df h25
 obtain rfl:r7 = 0:=by omega
 have H:=hM12; (try dsimp only at H); rw [Qf5] at H
 refine Ke ?_
 have H:=llB H HL20
 refine KS ?_
 refine Oq (Qau Qr9 1) (Ost (Scl [2] Qr9 [vi t.Gen.Width,vl ta1 tk1 t.Gen.Words,vl a10 k11 QrS]) (KS ?_))
 refine Jl [1] (Ent.freeze _ _) ?_
 have hq:=rI H; subst hq
 exact Kr (vl ta1 tk1 t.Gen.Words,vl a10 k11 QrS) rfl (.cellN 1 rfl Qr9 rfl (Qal _ _) rfl .nil) [4,0] en
theorem Qwr (t:Qad) (ta1:Option Addr) (tk1:Nat) (ta3:Option Addr) (tk3:Nat) (ta4:Option Addr) (tk4:Nat) (Qkl:Qaa t.Gen.Width) (Qkm:Qaa t.Kill.Width) (rr:Qad × Int) (hrr:QkS t = .ret rr):FT Tryz.prog 133 #[.agg #[vi t.Gen.Width,vl ta1 tk1 t.Gen.Words,vi t.Kill.Width,vl ta3 tk3 t.Kill.Words,vl ta4 tk4 t.Copies]] [S ta1 tk1 t.Gen.Words,S ta3 tk3 t.Kill.Words,S ta4 tk4 t.Copies] (fun g:Value × Value × Value=>Qaa rr.1.Gen.Width /\ Qaa rr.1.Kill.Width /\ Qaa rr.2) (fun g=>.tuple #[.agg #[vi rr.1.Gen.Width,g.1,vi rr.1.Kill.Width,g.2.1,g.2.2],vi rr.2]) (fun g=>[sl g.1 rr.1.Gen.Words,sl g.2.1 rr.1.Kill.Words,sl g.2.2 rr.1.Copies]):=by
 refine FTi Tryz.func133 fun w0 M0 F0=>?_
 unfold Qaa at Qkl Qkm
 refine Fb 8 0 fun _=>Fb 8 1 fun _=>Fb 16 2 fun _=>?_
 have hx0:=lrn rr; have H:=hrr; unfold QkS at H
 refine KS ?_
 refine Oa (Ab [vi t.Gen.Width,vl ta1 tk1 t.Gen.Words,vi t.Kill.Width,vl ta3 tk3 t.Kill.Words,vl ta4 tk4 t.Copies]) fun p4=>Oa (Al Qqo [vi 0,.slice none 0 0,vi 0,.slice none 0 0,.slice none 0 0]) fun p5=>Oq Va (KS ?_)
 refine Oq (Qau Qek 1) ?_
 refine lvH H fun rv6 hg7 H=>?_
 have hc8:=QuI t ta1 tk1 ta3 tk3 ta4 tk4 pre pre rv6 hg7
 refine Oc [2,3,4] QuD hc8 ?_
 rintro - -
 refine Oq Qcy (KS ?_)
 refine pF H hx0 fun h9 H=>?_
 refine KcF h9 ?_
 have h11:=not_false h9
 refine KS ?_
 refine Oq (Qau Qek 1) ?_
 refine lbH H hx0 fun rv15 hg16 H=>?_
 have hc17:=Qxi t ta1 tk1 ta3 tk3 ta4 tk4 pre pre rv15 hg16
 refine Oc [2,3,4] Qx4 hc17 ?_
 rintro ⟨c13,c14⟩ he18
 unfold Qaa at he18
 refine Jo 0 ?_; rintro a19 k20 rfl
 refine Fb 8 0 fun _=>?_
 refine Jo 1 ?_; rintro a22 k23 rfl
 refine Fb 32 1 fun _=>?_
 refine lbH H hx0 fun rv28 hg29 H=>?_
 have hc30:=Qyh rv15 a19 k20 a22 k23 pre rv28 hg29
 refine Oc [0,1] Qym hc30 ?_
 rintro ⟨c25,c26,c27⟩ ⟨he31,he32⟩
 unfold Qaa at he31 he32
 refine Jo 0 ?_; rintro a33 k34 rfl
 refine Fb 8 0 fun _=>?_
 refine Jo 1 ?_; rintro a36 k37 rfl
 refine Fb 8 1 fun _=>?_
 refine Jo 2 ?_; rintro a39 k40 rfl
 refine Fb 16 2 fun _=>?_
 refine Oq Vm (Oq Vx (Oq Vx (Oa (Al Qqo [vi 0,.slice none 0 0,vi 0,.slice none 0 0,.slice none 0 0]) fun p42=>Ost (Scl [0] Qek [vi rv28.1.Gen.Width,vl a33 k34 rv28.1.Gen.Words,vi rv28.1.Kill.Width,vl a36 k37 rv28.1.Kill.Words,vl a39 k40 rv28.1.Copies]) (Oq Va (KS ?_)))))
 refine Oq (Qau Qek 0) (Ost (Scl [6] Qek [vi rv28.1.Gen.Width,vl a33 k34 rv28.1.Gen.Words,vi rv28.1.Kill.Width,vl a36 k37 rv28.1.Kill.Words,vl a39 k40 rv28.1.Copies]) (Oq Va (KS ?_)))
 have hq:=rI H; subst hq
 exact Kr (vl a33 k34 rv28.1.Gen.Words,vl a36 k37 rv28.1.Kill.Words,vl a39 k40 rv28.1.Copies) rfl (.cellN 0 rfl Qek rfl (Qal _ _) rfl (.tmp rfl .nil)) [2,3,4] en
theorem QxZ (l:List Qft) (la0:Option Addr) (lk0:Nat) (v:Int) (QsK:Qaa v) (rr:Qaf) (hrr:Qm9 l v = .ret rr):FT Tryz.prog 134 #[vl la0 lk0 l,vi v] [S la0 lk0 l] (fun g:Value=>Qaa rr.Width) (fun g=>.agg #[vi rr.Width,g]) (fun g=>[sl g rr.Words]):=by
 refine FTi Tryz.func134 fun w0 M0 F0=>?_
 unfold Qaa at QsK
 refine Fb 16 0 fun _=>?_
 have hx0:=lrn rr; have H:=hrr; unfold Qm9 at H
 refine KS ?_
 refine Oa (Al QgU [vi 0,.slice none 0 0]) fun p2=>KS ?_
 refine Oq Vm (Oq (Qba Qki) ?_)
 refine pC H hx0 fun hc3 H=>?_
 refine lvH H fun rv5 hg6 H=>?_
 have hc7:=QpC ((l.length:Int)) pre pre rv5 hg6
 refine Oc [] QpB hc7 ?_
 rintro c4 ⟨he8,he9,he10⟩
 unfold Qaa at he8
 refine Jo 0 ?_; rintro a11 k12 rfl
 refine Fb 8 0 fun _=>?_
 refine Oa (Al QgU [vi 0,.slice none 0 0]) fun p14=>Ost (Scl [0] Qax [vi rv5.Width,vl a11 k12 rv5.Words]) (KS ?_)
 refine Oq Va (KS ?_)
 refine llH H hx0 fun X27 hX28 hx29 HL30=>?_
 refine Kl (γ:=Nat × Int × List (BitVec 64) × Int × Option Addr × Nat) (fun (r15,QnE,Qpa,QiC,a19,k20)=>⟨[(0,vl la0 lk0 l),(1,vi v),(4,p2),(5,p14),(6,vi QiC)],[O a19 k20 Qpa,Cl p14 [vi QnE,vl a19 k20 Qpa],Cl p2 [vi 0,.slice none 0 0],S la0 lk0 l],QfN l v r15 QnE Qpa QiC = X27 /\ r15 = ((l.length:Int) - QiC).toNat /\ (0:Int) <= QiC /\ QiC <= (l.length:Int) /\ (-9223372036854775808 <= QnE /\ QnE <= 9223372036854775807) /\ (-9223372036854775808 <= QiC /\ QiC <= 9223372036854775807),r15⟩) (((l.length:Int) - 0).toNat,rv5.Width,rv5.Words,0,a11,k12) [1,0,0,0] ⟨hX28,rfl,aM1,aM1,aM1,aM1⟩ ?_
 rintro ⟨r15,QnE,Qpa,QiC,a19,k20⟩ ⟨hM21,hr22,hi23,hi24,hk25,hk26⟩
 refine QaA fun _ _ hL hA=>?_; dsimp only at hL hA; subst hL hA
 refine Fb 8 0 fun _=>Fb 16 3 fun _=>KS ?_
 refine Oq Vm (Oq Vm (Oq (Qba Qki) (Oq Qbh (KS ?_))))
 refine Kc ?_ ?_
 ·intro h33
  have g34:=dt h33
  obtain ⟨r35,rfl⟩:=scc (n:=r15) aM1
  have H:=hM21; (try dsimp only at H); rw [QfN] at H
  refine KS ?_
  refine Oq Vm (Oq Vm ?_)
  refine pC H hx29 fun hc36 H=>?_
  refine Oq (Vi Qki 3) ?_
  refine Qjj QiC.toNat 3 rfl rng fun hb37 hb38=>?_
  unfold Qaa at hb37 hb38
  refine Oq (Vfa QtT 0) (Oq (Qah sh3 0) (Oq Vm (Oq QbW (KS ?_))))
  refine pC H hx29 fun hc40 H=>?_
  refine pT H hx29 fun h39 H=>?_
  refine KcT h39 ?_
  have g41:=eq_of_beq h39
  refine KS ?_
  refine Oq (Qau Qax 2) (Oq Vm ?_)
  refine pC H hx29 fun hc42 H=>?_
  refine pC H hx29 fun hc43 H=>?_
  refine lvH H fun rv45 hg46 H=>?_
  refine Oc [1] Qqq (Qc2 (A:=_) hlx (Qd3 (Ent.take (is:=[0]) rfl) (Qqn ((Qaf.mk QnE Qpa)) a19 k20 QiC pre pre pre pre rv45 hg46))) ?_ (ht:=rfl)
  rintro c44 ⟨he47,he48,he49⟩
  unfold Qaa at he47
  have he48:(rv45.Width = QnE):=he48
  have he49:(rv45.Words.length = ((QnE + 63) / 64).toNat):=he49
  refine Jo 1 ?_; rintro a50 k51 rfl
  refine Fb 8 1 fun _=>?_
  refine Ost (Scl [3] Qax [vi rv45.Width,vl a50 k51 rv45.Words]) (KS ?_)
  refine Oq Vm (Oq QaS (Oq Va (KS ?_)))
  refine pC H hx29 fun hc53 H=>?_
  exact Kg (r35,rv45.Width,rv45.Words,(QiC + 1),a50,k51) [2,0,2,2] ⟨H,aM1,aM1,aM1,aM1,aM1⟩
 intro h33
 have g54:=df h33
 obtain rfl:r15 = 0:=by omega
 have H:=hM21; (try dsimp only at H); rw [QfN] at H
 refine Ke ?_
 have H:=llB H HL30
 dsimp only at H
 refine KS ?_
 refine Oq (Qau Qax 1) (Ost (Scl [2] Qax [vi QnE,vl a19 k20 Qpa]) (KS ?_))
 refine Jl [1] (Ent.freeze _ _) ?_
 have hq:=rI H; subst hq
 exact Kr (vl a19 k20 Qpa) rfl (.cellN 1 rfl Qax rfl (Qal _ _) rfl .nil) [0] en
theorem Qzm (p:Qaz) (pa0:Option Addr) (pk0:Nat) (kind:Int) (l:List Qft) (la0:Option Addr) (lk0:Nat) (node:Int) (s:Qc7) (sa2:Option Addr) (sk2:Nat) (sa3:Option Addr) (sk3:Nat) (QlT:Qaa kind) (QuB:Qaa node) (Qcc:Qaa s.Op) (QyY:s.Def.b.length <= 140737488355328) (rr:Qad) (hrr:QgE p kind l node s = .ret rr):FT Tryz.prog 92 #[.agg #[vl pa0 pk0 p.Funcs],vi kind,vl la0 lk0 l,vi node,.agg #[vi s.Op,.string (bs s.Def),vl sa2 sk2 s.Uses,vl sa3 sk3 s.Targets]] [S pa0 pk0 p.Funcs,S la0 lk0 l,S sa2 sk2 s.Uses,S sa3 sk3 s.Targets] (fun g:Value × Value × Value=>Qaa rr.Gen.Width /\ Qaa rr.Kill.Width) (fun g=>.agg #[vi rr.Gen.Width,g.1,vi rr.Kill.Width,g.2.1,g.2.2]) (fun g=>[sl g.1 rr.Gen.Words,sl g.2.1 rr.Kill.Words,sl g.2.2 rr.Copies]):=by
 refine FTi Tryz.func92 fun w0 M0 F0=>?_
 unfold Qaa at QlT QuB Qcc
 refine Fb 40 0 fun _=>Fb 16 1 fun _=>Fb 16 2 fun _=>?_
 refine FoS 2 fun ho4=>?_
 refine Fb 16 3 fun _=>?_
 refine FoS 3 fun ho6=>?_
 have hx0:=lrn rr; have H:=hrr; unfold QgE at H
 refine KS ?_
 refine Oa (Ab [vl pa0 pk0 p.Funcs]) fun p7=>Oa (Ab [vi s.Op,.string (bs s.Def),vl sa2 sk2 s.Uses,vl sa3 sk3 s.Targets]) fun p8=>Oa (Al Qqo [vi 0,.slice none 0 0,vi 0,.slice none 0 0,.slice none 0 0]) fun p9=>KS ?_
 refine Oq Vm (Oq (Qba Qki) ?_)
 refine lbH H hx0 fun rv13 hg14 H=>?_
 have hc15:=QyS ((l.length:Int)) pre rv13 hg14
 refine Oc [] Qx9 hc15 ?_
 rintro ⟨c10,c11,c12⟩ ⟨he16,he17⟩
 unfold Qaa at he16 he17
 refine Jo 0 ?_; rintro a18 k19 rfl
 refine Fb 8 0 fun _=>?_
 refine Jo 1 ?_; rintro a21 k22 rfl
 refine Fb 8 1 fun _=>?_
 refine Jo 2 ?_; rintro a24 k25 rfl
 refine Fb 16 2 fun _=>?_
 refine Oa (Al Qqo [vi 0,.slice none 0 0,vi 0,.slice none 0 0,.slice none 0 0]) fun p27=>Ost (Scl [0] Qek [vi rv13.Gen.Width,vl a18 k19 rv13.Gen.Words,vi rv13.Kill.Width,vl a21 k22 rv13.Kill.Words,vl a24 k25 rv13.Copies]) (KS ?_)
 refine Oq (Qau QjT 6) ?_
 refine lbH H hx0 fun rv29 hg30 H=>?_
 have hc31:=Qti p pa0 pk0 rv29 hg30
 refine Oc [7] QtA hc31 ?_
 rintro c28 -
 refine Jo 0 ?_; rintro a32 k33 rfl
 refine Fb 16 0 fun _=>?_
 refine FoS 0 fun ho35=>?_
 refine Oq Va (KS ?_)
 refine Oq Vm (Oq QbW (KS ?_))
 refine pF H hx0 fun h36 H=>?_
 refine KcF h36 ?_
 have g37:=ne_of_beq_false h36
 refine KS ?_
 refine Oq (Qau Qd1 6) ?_
 refine lbH H hx0 fun rv38 hg39 H=>?_
 have hc40:=Qvo s sa2 sk2 sa3 sk3 pre pre rv38 hg39
 refine Oc [10,11] QvD hc40 ?_
 rintro - -
 refine Oq Qcy (KS ?_)
 refine KcH H ?_ ?_
 ·intro h41 H
  have h43:=not_true h41
  refine KS ?_
  refine Oq (Qau Qek 1) ?_
  refine Jl [4] (Ent.freeze _ _) ?_
  refine lbH H hx0 fun rv48 hg49 H=>?_
  have hc50:=Qwr rv13 a18 k19 a21 k22 a24 k25 pre pre rv48 hg49
  refine Oc [3,4,0] Qvb hc50 ?_
  rintro ⟨c45,c46,c47⟩ ⟨he51,he52,he53⟩
  unfold Qaa at he51 he52 he53
  refine Jo 0 ?_; rintro a54 k55 rfl
  refine Fb 8 0 fun _=>?_
  refine Jo 1 ?_; rintro a57 k58 rfl
  refine Fb 8 1 fun _=>?_
  refine Jo 2 ?_; rintro a60 k61 rfl
  refine Fb 16 2 fun _=>?_
  refine Oq Vm (Oq Vx (Oq Vx (Oa (Al Qqo [vi 0,.slice none 0 0,vi 0,.slice none 0 0,.slice none 0 0]) fun p63=>Ost (Scl [0] Qek [vi rv48.1.Gen.Width,vl a54 k55 rv48.1.Gen.Words,vi rv48.1.Kill.Width,vl a57 k58 rv48.1.Kill.Words,vl a60 k61 rv48.1.Copies]) (Oq Va (KS ?_)))))
  refine Oq (Qau Qek 0) (Ost (Scl [9] Qek [vi rv48.1.Gen.Width,vl a54 k55 rv48.1.Gen.Words,vi rv48.1.Kill.Width,vl a57 k58 rv48.1.Kill.Words,vl a60 k61 rv48.1.Copies]) (KS ?_))
  have hq:=rI H; subst hq
  exact Kr (vl a54 k55 rv48.1.Gen.Words,vl a57 k58 rv48.1.Kill.Words,vl a60 k61 rv48.1.Copies) rfl (.cellN 0 rfl Qek rfl (Qal _ _) rfl .nil) [2,3,4] en
 intro h41 H
 have h65:=not_false h41
 refine KS ?_
 refine Oq Vm (Oq (Vfa Qhm 6) (Oq (Qah sh9 6) ?_))
 refine lbH H hx0 fun rv67 hg68 H=>?_
 have hc69:=QqF rv29 a32 k33 s.Def pre rv67 hg68
 refine Oc [0] QqD hc69 ?_
 rintro - he70
 unfold Qaa at he70
 refine Oq Va (KS ?_)
 refine Oq Vm (Oq Vm ?_)
 refine lbH H hx0 fun rv72 hg73 H=>?_
 have hc74:=QxZ l la0 lk0 rv67 pre rv72 hg73
 refine Oc [9] QxL hc74 ?_
 rintro c71 he75
 unfold Qaa at he75
 refine Jo 0 ?_; rintro a76 k77 rfl
 refine Fb 8 0 fun _=>?_
 refine Oq (Vfa Qgj 2) (Ost (QiP [2] Qax [vi rv13.Gen.Width,vl a18 k19 rv13.Gen.Words,vi rv72.Width,vl a76 k77 rv72.Words,vl a24 k25 rv13.Copies]) (KS ?_))
 refine Oq Vm (Oq QbW (Oq Va (KS ?_)))
 refine pT H hx0 fun h79 H=>?_
 refine KcT h79 ?_
 have g80:=eq_of_beq h79
 refine KS ?_
 refine Oq Va (KS ?_)
 refine llH H hx0 fun X93 hX94 hx95 HL96=>?_
 refine Kl (γ:=Nat × Int × List (BitVec 64) × Int × Option Addr × Nat) (fun (r81,Qmj,Qpb,QrB,a85,k86)=>⟨[(2,vl la0 lk0 l),(3,vi node),(10,p9),(11,p27),(17,vi QrB)],[S a85 k86 Qpb,Cl p27 [vi Qmj,vl a85 k86 Qpb,vi rv72.Width,vl a76 k77 rv72.Words,vl a24 k25 rv13.Copies],S a76 k77 rv72.Words,O a24 k25 rv13.Copies,Cl p9 [vi 0,.slice none 0 0,vi 0,.slice none 0 0,.slice none 0 0],S la0 lk0 l],QdG l node r81 Qmj Qpb QrB = X93 /\ r81 = ((l.length:Int) - QrB).toNat /\ (0:Int) <= QrB /\ QrB <= (l.length:Int) /\ (-9223372036854775808 <= Qmj /\ Qmj <= 9223372036854775807) /\ (-9223372036854775808 <= QrB /\ QrB <= 9223372036854775807),r81⟩) (((l.length:Int) - 0).toNat,rv13.Gen.Width,rv13.Gen.Words,0,a18,k19) [3,0,0,4,4,7] ⟨hX94,rfl,aM1,aM1,aM1,aM1⟩ ?_
 rintro ⟨r81,Qmj,Qpb,QrB,a85,k86⟩ ⟨hM87,hr88,hi89,hi90,hk91,hk92⟩
 refine QaA fun _ _ hL hA=>?_; dsimp only at hL hA; subst hL hA
 refine Fb 8 0 fun _=>Fb 8 2 fun _=>Fb 16 3 fun _=>Fb 16 5 fun _=>KS ?_
 refine Oq Vm (Oq Vm (Oq (Qba Qki) (Oq Qbh (KS ?_))))
 refine Kc ?_ ?_
 ·intro h101
  have g102:=dt h101
  obtain ⟨r103,rfl⟩:=scc (n:=r81) aM1
  have H:=hM87; (try dsimp only at H); rw [QdG] at H
  refine KS ?_
  refine Oq Vm (Oq Vm ?_)
  refine pC H hx95 fun hc104 H=>?_
  refine Oq (Vi Qki 5) ?_
  refine Qjj QrB.toNat 5 rfl rng fun hb105 hb106=>?_
  unfold Qaa at hb105 hb106
  refine Oq (Vfa QtW 0) (Oq (Qah sh3 0) (Oq Vm (Oq QbW (KS ?_))))
  refine pC H hx95 fun hc108 H=>?_
  refine pT H hx95 fun h107 H=>?_
  refine KcT h107 ?_
  have g109:=eq_of_beq h107
  refine KS ?_
  refine Oq (Vfa QdB 2) (Oq (Qmr Qax 2 [vi Qmj,vl a85 k86 Qpb]) (Oq Vm ?_))
  refine pC H hx95 fun hc110 H=>?_
  refine pC H hx95 fun hc111 H=>?_
  refine lvH H fun rv113 hg114 H=>?_
  have hc115:=Qqn ((Qaf.mk Qmj Qpb)) a85 k86 QrB pre pre pre pre rv113 hg114
  refine Oc [1] Qqq hc115 ?_
  rintro c112 ⟨he116,he117,he118⟩
  unfold Qaa at he116
  have he117:(rv113.Width = Qmj):=he117
  have he118:(rv113.Words.length = ((Qmj + 63) / 64).toNat):=he118
  refine Jo 0 ?_; rintro a119 k120 rfl
  refine Fb 8 0 fun _=>?_
  refine Oq (Vfa QdB 3) (Ost (QiP [3] Qax [vi rv113.Width,vl a119 k120 rv113.Words,vi rv72.Width,vl a76 k77 rv72.Words,vl a24 k25 rv13.Copies]) (KS ?_))
  refine Oq Vm (Oq QaS (Oq Va (KS ?_)))
  refine Jl [1] (Ent.freeze _ _) ?_
  refine pC H hx95 fun hc122 H=>?_
  exact Kg (r103,rv113.Width,rv113.Words,(QrB + 1),a119,k120) [0,1,3,4,4,4] ⟨H,aM1,aM1,aM1,aM1,aM1⟩
 intro h101
 have g123:=df h101
 obtain rfl:r81 = 0:=by omega
 have H:=hM87; (try dsimp only at H); rw [QdG] at H
 refine Ke ?_
 have H:=llB H HL96
 dsimp only at H
 refine KS ?_
 refine Oq (Qau Qek 1) ?_
 refine Jl [3] (Ent.freeze _ _) ?_
 refine lbH H hx0 fun rv127 hg128 H=>?_
 have hc129:=Qwr ((Qad.mk (Qaf.mk Qmj Qpb) rv72 rv13.Copies)) a85 k86 a76 k77 a24 k25 pre pre rv127 hg128
 refine Oc [1,3,0] Qvb hc129 ?_
 rintro ⟨c124,c125,c126⟩ ⟨he130,he131,he132⟩
 unfold Qaa at he130 he131 he132
 refine Jo 0 ?_; rintro a133 k134 rfl
 refine Fb 8 0 fun _=>?_
 refine Jo 1 ?_; rintro a136 k137 rfl
 refine Fb 8 1 fun _=>?_
 refine Jo 2 ?_; rintro a139 k140 rfl
 refine Fb 16 2 fun _=>?_
 refine Oq Vm (Oq Vx (Oq Vx (Oa (Al Qqo [vi 0,.slice none 0 0,vi 0,.slice none 0 0,.slice none 0 0]) fun p142=>Ost (Scl [0] Qek [vi rv127.1.Gen.Width,vl a133 k134 rv127.1.Gen.Words,vi rv127.1.Kill.Width,vl a136 k137 rv127.1.Kill.Words,vl a139 k140 rv127.1.Copies]) (Oq Va (KS ?_)))))
 refine Oq (Qau Qek 0) (Ost (Scl [8] Qek [vi rv127.1.Gen.Width,vl a133 k134 rv127.1.Gen.Words,vi rv127.1.Kill.Width,vl a136 k137 rv127.1.Kill.Words,vl a139 k140 rv127.1.Copies]) (KS ?_))
 have hq:=rI H; subst hq
 exact Kr (vl a133 k134 rv127.1.Gen.Words,vl a136 k137 rv127.1.Kill.Words,vl a139 k140 rv127.1.Copies) rfl (.cellN 0 rfl Qek rfl (Qal _ _) rfl .nil) [2,3,4] en
theorem QAC (p:Qaz) (pa0:Option Addr) (pk0:Nat) (kind:Int) (QlT:Qaa kind) (rr:Qac × Int) (hrr:Qrb p kind = .ret rr):FT Tryz.prog 51 #[.agg #[vl pa0 pk0 p.Funcs],vi kind] [S pa0 pk0 p.Funcs] (fun g:Value × Value × Value=>Qaa rr.1.Width /\ Qaa rr.2) (fun g=>.tuple #[.agg #[vi rr.1.Width,g.1,g.2.1,g.2.2],vi rr.2]) (fun g=>[sl g.1 rr.1.Deps,sl g.2.1 rr.1.Transfers,sl g.2.2 rr.1.Boundary]):=by
 refine FTi Tryz.func51 fun w0 M0 F0=>?_
 unfold Qaa at QlT
 refine Fb 40 0 fun _=>?_
 have hx0:=lrn rr; have H:=hrr; unfold Qrb at H
 refine KS ?_
 refine Oa (Ab [vl pa0 pk0 p.Funcs]) fun p2=>Oa (Al QuJ [vi 0,.slice none 0 0,.slice none 0 0,.slice none 0 0]) fun p3=>Oq Va (KS ?_)
 refine Oq (Qau QjT 1) (Oq Vm ?_)
 refine lbH H hx0 fun rv5 hg6 H=>?_
 have hc7:=Qz1 p pa0 pk0 kind pre rv5 hg6
 refine Oc [2] QAc hc7 ?_
 rintro c4 he8
 unfold Qaa at he8
 refine Jo 0 ?_; rintro a9 k10 rfl
 refine Fb 16 0 fun _=>?_
 refine Oq Vm (Oq Vx (Oq Vx (Oq Va (Oq Va (KS ?_)))))
 refine Oq Vm (Oq QfZ (KS ?_))
 refine pF H hx0 fun h12 H=>?_
 refine KcF h12 ?_
 have g13:=Qae h12
 refine KS ?_
 refine Oq (Qau QjT 2) ?_
 refine lbH H hx0 fun rv17 hg18 H=>?_
 have hc19:=QAF p pa0 pk0 rv17 hg18
 refine Oc [3] QA4 hc19 ?_
 rintro ⟨c14,c15,c16⟩ he20
 unfold Qaa at he20
 refine Jo 0 ?_; rintro a21 k22 rfl
 refine Fb 32 0 fun _=>?_
 refine Jo 1 ?_; rintro a24 k25 rfl
 refine Fb 24 1 fun _=>?_
 refine Jo 2 ?_; rintro a27 k28 rfl
 refine Fb 24 2 fun _=>?_
 refine Oq Vm (Oq Vx (Oq Vx (Oa (Al Quo [.slice none 0 0,.slice none 0 0,.slice none 0 0]) fun p30=>Ost (Scl [0] Qrq [vl a21 k22 rv17.1.Nodes,vl a24 k25 rv17.1.Succ,vl a27 k28 rv17.1.Pred]) (Oq Va (KS ?_)))))
 refine Oq Vm (Oq (Qba Qki) (Oq (Vbd Qze [vi (rv5.1.length:Int),.slice none 0 0,.slice none 0 0,.slice none 0 0]) (Oa (Al QuJ [vi 0,.slice none 0 0,.slice none 0 0,.slice none 0 0]) fun p31=>Ost (Scl [0] Qen [vi (rv5.1.length:Int),.slice none 0 0,.slice none 0 0,.slice none 0 0]) (KS ?_))))
 refine Oq Va (KS ?_)
 refine Jl [] (Ent.osNil (α:=(List Int))) ?_
 refine Jl [] (Ent.osNil (α:=Qad)) ?_
 refine Jl [] (Ent.osNil (α:=Qaf)) ?_
 refine llH H hx0 fun X48 hX49 hx50 HL51=>?_
 refine Kl (γ:=Nat × List (List Int) × List Qad × List Qaf × Int × Option Addr × Nat × Option Addr × Nat × Option Addr × Nat) (fun (r32,Qgw,Qgx,QfH,Qgn,a37,k38,a39,k40,a41,k42)=>⟨[(1,vi kind),(2,p2),(4,p3),(6,vl a9 k10 rv5.1),(8,p30),(10,p31),(11,vi Qgn)],[O a41 k42 QfH,O a39 k40 Qgx,O a37 k38 Qgw,Cl p31 [vi (rv5.1.length:Int),vl a37 k38 Qgw,vl a39 k40 Qgx,vl a41 k42 QfH],Cl p30 [vl a21 k22 rv17.1.Nodes,vl a24 k25 rv17.1.Succ,vl a27 k28 rv17.1.Pred],S a21 k22 rv17.1.Nodes,S a24 k25 rv17.1.Succ,S a27 k28 rv17.1.Pred,S a9 k10 rv5.1,Cl p3 [vi 0,.slice none 0 0,.slice none 0 0,.slice none 0 0],pv p2 [vl pa0 pk0 p.Funcs],S pa0 pk0 p.Funcs],QgW p kind rv5.1 rv17.1.Nodes rv17.1.Pred r32 Qgw Qgx QfH Qgn = X48 /\ r32 = ((rv17.1.Nodes.length:Int) - Qgn).toNat /\ (0:Int) <= Qgn /\ Qgn <= (rv17.1.Nodes.length:Int) /\ (-9223372036854775808 <= Qgn /\ Qgn <= 9223372036854775807),r32⟩) (((rv17.1.Nodes.length:Int) - 0).toNat,[],[],[],0,none,0,none,0,none,0) [0,0,0,0,0,0,1,2,3,4,4,5] ⟨hX49,rfl,aM1,aM1,aM1⟩ ?_
 rintro ⟨r32,Qgw,Qgx,QfH,Qgn,a37,k38,a39,k40,a41,k42⟩ ⟨hM43,hr44,hi45,hi46,hk47⟩
 refine QaA fun _ _ hL hA=>?_; dsimp only at hL hA; subst hL hA
 refine Fb 32 0 fun _=>Fb 88 1 fun _=>Fb 24 2 fun _=>Fb 32 5 fun _=>Fb 24 6 fun _=>Fb 24 7 fun _=>Fb 16 8 fun _=>Fb 40 11 fun _=>KS ?_
 refine Oq Vm (Oq (Vfa QoC 4) (Oq (Qah QtX 4) (Oq (Qba Qgf) (Oq Qbh (KS ?_)))))
 refine Kc ?_ ?_
 ·intro h60
  have g61:=dt h60
  obtain ⟨r62,rfl⟩:=scc (n:=r32) aM1
  have H:=hM43; (try dsimp only at H); rw [QgW] at H
  refine KS ?_
  refine Oq (Vfa QoV 4) (Oq (Qah QgG 4) (Oq Vm ?_))
  refine pC H hx50 fun hc63 H=>?_
  refine Oq (Vi Qfr 7) ?_
  refine QdV Qgn.toNat 7 rfl rng fun a64 k65=>?_
  refine Fb 8 1 fun _=>Fo 1 fun ho67=>?_
  refine Oq (Vld QjI 0) (Oq Va (KS ?_))
  refine Oq Vm (Oq QbW (KS ?_))
  refine pC H hx50 fun hc69 H=>?_
  refine pF H hx50 fun h68 H=>?_
  refine KcF h68 ?_
  have g70:=ne_of_beq_false h68
  refine KS ?_
  refine Oa (Al QpS [vi 0,.string (bs (Str.mk [])),.slice none 0 0,.slice none 0 0]) fun p71=>KS ?_
  refine Oq (Vfa QoC 7) (Oq (Qah QtX 7) (Oq Vm ?_))
  refine pC H hx50 fun hc72 H=>?_
  refine Oq (Vi Qgf 8) ?_
  refine QeF Qgn.toNat 8 rfl rng fun hb73 hb74 hb75 hb76=>?_
  unfold Qaa at hb73 hb74 hb75 hb76
  refine Oq (Vfa Qi8 0) (Oq (Qah sh3 0) (Oq QbW (KS ?_)))
  refine pC H hx50 fun hc78 H=>?_
  refine KcH H ?_ ?_
  ·intro h77 H
   have g79:=eq_of_beq h77
   refine Jp 8 fun hp80=>?_
   refine Qam [0,0,2,0,14,30,63,127,255,255,511] Qco ?_
   refine Dv [15] (Qau QjT 0) (Dv [0] (Vfa QoC 0) (Dv [9] (Qah QtX 0) (Dv [] Vm (Dv [10] (Vi Qgf 0) (Dv [1] (Qau Qj2 0) ?_)))))
   refine pC H hx50 fun hc85 H=>?_
   refine lbH H hx50 fun rv83 hg84 H=>?_
   refine Dx [16] [] [3,0,1,2] (fun G=>.tuple #[.agg #[vi rv83.1.Op,.string (bs rv83.1.Def),(G.g 6 0),(G.g 6 1)],vb rv83.2]) [fun G=>SP.fact (Qaa rv83.1.Op /\ rv83.1.Def.b.length <= 140737488355328),fun G=>sl (G.g 6 0) rv83.1.Uses,fun G=>sl (G.g 6 1) rv83.1.Targets] (fun G=>xC [0] Qy6 (Qzw p pa0 pk0 ((rv17.1.Nodes.getD Qgn.toNat default)) pre pre pre pre rv83 hg84)) (Dg [] (fun G=>.tuple #[.agg #[vi rv83.1.Op,.string (bs rv83.1.Def),(G.g 6 0),(G.g 6 1)],vb rv83.2]) (fun G=>Vm) (Dg [] (fun G=>.agg #[vi rv83.1.Op,.string (bs rv83.1.Def),(G.g 6 0),(G.g 6 1)]) (fun G=>Vx) (Dv [] Vx (Dx0 [2,18,19] [2] [1,2,0] [fun G=>Cl p71 [vi rv83.1.Op,.string (bs rv83.1.Def),(G.g 6 0),(G.g 6 1)]] (fun G=>x1 1 rfl Qkx fun ho86=>(x1 2 rfl Qkx fun ho87=>(xS (Scl [0] Qd1 [vi rv83.1.Op,.string (bs rv83.1.Def),(G.g 6 0),(G.g 6 1)] (v:=.agg #[vi rv83.1.Op,.string (bs rv83.1.Def),(G.g 6 0),(G.g 6 1)]) (h1:=show [vi rv83.1.Op,.string (bs rv83.1.Def),(G.g 6 0),(G.g 6 1)].all (·.oneCell') = true from (by simp only [List.all_cons,List.all_nil,ho86,ho87,Bool.and_true,Bool.true_and] <;> rfl)))))) ?_))))
   refine Dn ⟨by kernel_rfl,fun G=>?_⟩
   refine Jw2 [(1,vi kind),(2,p2),(4,p3),(6,vl a9 k10 rv5.1),(8,p30),(10,p31),(11,vi Qgn),(12,vl a64 k65 (rv17.1.Pred.getD Qgn.toNat [])),(13,p71)] [0,1,3,4,5,6,7,8,9,10,11,12,13,14,15,16] [SP.fact (Qaa rv83.1.Op /\ rv83.1.Def.b.length <= 140737488355328),sl (G.g 6 0) rv83.1.Uses,sl (G.g 6 1) rv83.1.Targets,Cl p71 [vi rv83.1.Op,.string (bs rv83.1.Def),(G.g 6 0),(G.g 6 1)]] ?_
   generalize G.g 6 0 = c81,G.g 6 1 = c82
   refine Jf 16 rfl ?_; rintro ⟨he88,he89⟩
   unfold Qaa at he88
   refine Jk [1,2,3,4,4,4,4,4,4,5,6,7,8,8,9,11,12,13] ?_
   refine Jo 15 ?_; rintro a90 k91 rfl
   refine Fb 16 15 fun _=>?_
   refine FoS 15 fun ho93=>?_
   refine Jo 16 ?_; rintro a94 k95 rfl
   refine Fb 16 16 fun _=>?_
   refine FoS 16 fun ho97=>?_
   refine KS ?_
   refine Oq Vm (Oq (Qba Qki) ?_)
   refine pC H hx50 fun hc98 H=>?_
   refine lvH H fun rv100 hg101 H=>?_
   have hc102:=QpC ((rv5.1.length:Int)) pre pre rv100 hg101
   refine Oc [] QpB hc102 ?_
   rintro c99 ⟨he103,he104,he105⟩
   unfold Qaa at he103
   refine Jo 0 ?_; rintro a106 k107 rfl
   refine Fb 8 0 fun _=>?_
   refine Oa (Al QgU [vi 0,.slice none 0 0]) fun p109=>Ost (Scl [0] Qax [vi rv100.Width,vl a106 k107 rv100.Words]) (KS ?_)
   refine Oq Vm (Oq QbW (Oq Vm ?_))
   refine pF H hx50 fun h110 H=>?_
   refine JsF 74 h110 ?_
   have g111:=ne_of_beq_false h110
   refine Osk (Osk (Oq Vpf (KS ?_)))
   refine Kf (KS ?_)
   refine Jp 8 fun hp112=>?_
   refine Qam [0,1,0,0,12,28,63,127,255] Qco ?_
   refine Dv [0] (Vfa QbI 0) (Dv [9] (Qah QgG 0) (Dx [] [] [0] (fun G=>(G.g 2 0)) [fun G=>Cr (G.g 2 0) 0 []] (fun G=>xA (As0 QcA)) (Dv [] Vm (Dx [5,21] [21] [1,0] (fun G=>(G.g 4 0)) [fun G=>os (G.g 4 0) ((rv17.1.Pred.getD Qgn.toNat []):List Int)] (fun G=>xp [1] rfl (Ent.crNil (α:=Int) _) (xA (Ap0 [0,0] QcA QcA Qnk))) (Dx [22] [] [1,0] (fun G=>(G.g 5 0)) [fun G=>Cr (G.g 5 0) 1 [(G.g 4 0)]] (fun G=>x1 0 rfl Qc0 fun ho116=>(xA (AsV Qfr QrC [(G.g 4 0)] [(G.g 4 0)] (hv:=congrArg (fun a:Array Value=>Nat.beq a.size 1 && true) ((show ∀ v:Value,v.oneCell' = true -> v.cells = #[v] from fun v h=>by cases v <;> first | rfl | cases h) _ ho116)) (hc:=congrArg (fun a:Array Value=>a.toList ++ []) ((show ∀ v:Value,v.oneCell' = true -> v.cells = #[v] from fun v h=>by cases v <;> first | rfl | cases h) _ ho116))))) ?_)))))
   refine pC H hx50 fun hc117 H=>?_
   have hn119:=la Qgw ([(rv17.1.Pred.getD Qgn.toNat [])]:List (List Int))
   refine Dx [8,22,23] [8,22,23] [1,0] (fun G=>(G.g 6 0)) [fun G=>sl (G.g 4 0) ((rv17.1.Pred.getD Qgn.toNat []):List Int),fun G=>os (G.g 6 0) ((Qgw ++ [(rv17.1.Pred.getD Qgn.toNat [])]):List (List Int))] (fun G=>xp [1] rfl (Ent.freeze _ _) (xp [2,0] rfl (Ent.cr1 (α:=List Int) (A:=[sl (G.g 4 0) ((rv17.1.Pred.getD Qgn.toNat []):List Int)]) _ (rv17.1.Pred.getD Qgn.toNat []) _ aB1 (fun h=>⟨_,rfl,Qaj (i:=0) rfl h⟩)) (xA (ApO [3,0] Qfr Qfr QrC)))) (Dv [0] (Vfa QbI 0) (Dx0 [9,25] [9] [1,0] [fun G=>Cl p31 [vi (rv5.1.length:Int),(G.g 6 0),vl a39 k40 Qgx,vl a41 k42 QfH]] (fun G=>x1 1 rfl Qc0 fun ho120=>(xS (OpS.frame [0] rfl (OpS.storeClF [(G.g 6 0)] [vi (rv5.1.length:Int),(G.g 6 0),vl a39 k40 Qgx,vl a41 k42 QfH] rfl rfl rfl QgG (QaX ho120) rfl (by simp only [List.all_cons,List.all_nil,ho120,Bool.and_true,Bool.true_and] <;> rfl) aB1 rfl)))) ?_))
   refine Dn ⟨by kernel_rfl,fun G=>?_⟩
   refine Jw2 [(1,vi kind),(2,p2),(4,p3),(6,vl a9 k10 rv5.1),(8,p30),(10,p31),(11,vi Qgn),(13,p71),(14,p109)] [0,1,2,3,4,5,6,7,10,11,12,13,14,15,16,17,18,19,20] [sl (G.g 4 0) ((rv17.1.Pred.getD Qgn.toNat []):List Int),os (G.g 6 0) ((Qgw ++ [(rv17.1.Pred.getD Qgn.toNat [])]):List (List Int)),Cl p31 [vi (rv5.1.length:Int),(G.g 6 0),vl a39 k40 Qgx,vl a41 k42 QfH]] ?_
   generalize G.g 4 0 = c114,G.g 6 0 = c118
   refine Jk [1,1,1,2,3,4,4,4,4,5,6,7,8,8,9,10,11,12,12,13,13] ?_
   refine Jo 18 ?_; rintro a121 k122 rfl
   refine Jo 19 ?_; rintro a123 k124 rfl
   refine Fb 24 19 fun _=>KS ?_
   refine Jp 20 fun hp126=>?_
   refine Qam [0,1,0,0,0,0,0,124,252,511,1023,2047] Qco ?_
   refine Dv [0] (Vfa QcW 0) (Dv [21] (Qah QjR 0) (Dv [14] (Qau QjT 0) (Dv [] Vm (Dv [] Vm (Dv [] Vm (Dv [18] (Qau Qd1 0) ?_))))))
   refine lbH H hx50 fun rv130 hg131 H=>?_
   refine Dx [12,15,16,17] [] [4,5,6,7,0,1,2,3] (fun G=>.agg #[vi rv130.Gen.Width,(G.g 7 0),vi rv130.Kill.Width,(G.g 7 1),(G.g 7 2)]) [fun G=>SP.fact (Qaa rv130.Gen.Width /\ Qaa rv130.Kill.Width),fun G=>sl (G.g 7 0) rv130.Gen.Words,fun G=>sl (G.g 7 1) rv130.Kill.Words,fun G=>sl (G.g 7 2) rv130.Copies] (fun G=>xC [1,0,2,3] Qzn (Qzm p pa0 pk0 kind rv5.1 a9 k10 Qgn rv83.1 a90 k91 a94 k95 pre pre pre pre rv130 hg131)) (Dx [] [] [0] (fun G=>(G.g 8 0)) [fun G=>Cr (G.g 8 0) 1 [vi rv130.Gen.Width,(G.g 7 0),vi rv130.Kill.Width,(G.g 7 1),(G.g 7 2)]] (fun G=>xA (AsV QiI QsT [.agg #[vi rv130.Gen.Width,(G.g 7 0),vi rv130.Kill.Width,(G.g 7 1),(G.g 7 2)]] [vi rv130.Gen.Width,(G.g 7 0),vi rv130.Kill.Width,(G.g 7 1),(G.g 7 2)])) ?_)
   refine pC H hx50 fun hc133 H=>?_
   have hn135:=la Qgx ([rv130]:List Qad)
   refine Dx [7,22,23,24,25,26] [7,26] [4,1,2,3,0] (fun G=>(G.g 9 0)) [fun G=>os (G.g 9 0) ((Qgx ++ [rv130]):List Qad)] (fun G=>by refine xf 1 rfl ?_; rintro ⟨he136,he137⟩; unfold Qaa at he136 he137; exact xp [5,2,3,4] rfl (Ent.cr1 (α:=Qad) (A:=[sl (G.g 7 0) rv130.Gen.Words,sl (G.g 7 1) rv130.Kill.Words,sl (G.g 7 2) rv130.Copies]) _ rv130 _ aB1 (fun h=>⟨_,_,_,rfl,aL1,Qaj (i:=0) rfl h,aL1,Qaj (i:=1) rfl h,Qaj (i:=2) rfl h⟩)) (xA (ApO [4,0] QiI QiI QsT))) (Dv [0] (Vfa QcW 0) (Dx0 [21,27] [21] [1,0] [fun G=>Cl p31 [vi (rv5.1.length:Int),vl a123 k124 (Qgw ++ [(rv17.1.Pred.getD Qgn.toNat [])]),(G.g 9 0),vl a41 k42 QfH]] (fun G=>x1 1 rfl Qc0 fun ho138=>(xS (OpS.frame [0] rfl (OpS.storeClF [(G.g 9 0)] [vi (rv5.1.length:Int),vl a123 k124 (Qgw ++ [(rv17.1.Pred.getD Qgn.toNat [])]),(G.g 9 0),vl a41 k42 QfH] rfl rfl rfl QjR (QaX ho138) rfl (by simp only [List.all_cons,List.all_nil,ho138,Bool.and_true,Bool.true_and] <;> rfl) aB1 rfl)))) ?_))
   refine Dn ⟨by kernel_rfl,fun G=>?_⟩
   refine Jw2 [(1,vi kind),(2,p2),(4,p3),(6,vl a9 k10 rv5.1),(8,p30),(10,p31),(11,vi Qgn),(14,p109)] [0,1,2,3,4,5,6,8,9,10,11,12,13,14,15,16,17,18,19,20] [SP.fact (Qaa rv130.Gen.Width /\ Qaa rv130.Kill.Width),sl (G.g 7 0) rv130.Gen.Words,sl (G.g 7 1) rv130.Kill.Words,sl (G.g 7 2) rv130.Copies,os (G.g 9 0) ((Qgx ++ [rv130]):List Qad),Cl p31 [vi (rv5.1.length:Int),vl a123 k124 (Qgw ++ [(rv17.1.Pred.getD Qgn.toNat [])]),(G.g 9 0),vl a41 k42 QfH]] ?_
   generalize G.g 7 0 = c127,G.g 7 1 = c128,G.g 7 2 = c129,G.g 9 0 = c134
   refine Jf 20 rfl ?_; rintro ⟨he139,he140⟩
   unfold Qaa at he139 he140
   refine Jk [1,1,1,2,3,4,4,4,5,6,7,8,8,9,10,11,12,12,13,14,15,16,17,17] ?_
   refine Jo 19 ?_; rintro a141 k142 rfl
   refine Fb 8 19 fun _=>?_
   refine Jo 20 ?_; rintro a144 k145 rfl
   refine Fb 8 20 fun _=>?_
   refine Jo 21 ?_; rintro a147 k148 rfl
   refine Fb 16 21 fun _=>?_
   refine Jo 22 ?_; rintro a150 k151 rfl
   refine Fb 88 22 fun _=>KS ?_
   refine Oq (Vfa Qc4 23) (Oq (Qah Qjd 23) (Oq (Qau Qax 0) (Oa (AsV Qc6 Ql4 [.agg #[vi rv100.Width,vl a106 k107 rv100.Words]] [vi rv100.Width,vl a106 k107 rv100.Words]) fun c153=>?_)))
   refine Jo 0 ?_; rintro a154 k155 rfl
   refine Jl [2] (Ent.freeze _ _) ?_
   refine Jl [1,0] (Ent.cr1 (α:=Qaf) (A:=[S a106 k107 rv100.Words]) _ rv100 _ aB1 (fun h=>⟨_,rfl,aL1,Qaj (i:=0) rfl h⟩)) ?_
   refine pC H hx50 fun hc156 H=>?_
   refine Oa (ApO [7,0] Qc6 Qc6 Ql4) fun c157=>?_
   refine Jo 0 ?_; rintro a158 k159 rfl
   refine Fb 32 0 fun _=>?_
   have hn161:=la QfH ([rv100]:List Qaf)
   refine Oq (Vfa Qc4 24) (Ost (QiP [24] Qjd [vi (rv5.1.length:Int),vl a123 k124 (Qgw ++ [(rv17.1.Pred.getD Qgn.toNat [])]),vl a150 k151 (Qgx ++ [rv130]),vl a158 k159 (QfH ++ [rv100])]) (KS ?_))
   refine Oq Vm (Oq QaS (Oq Va (KS ?_)))
   refine pC H hx50 fun hc162 H=>?_
   exact Kg (r62,(Qgw ++ [(rv17.1.Pred.getD Qgn.toNat [])]),(Qgx ++ [rv130]),(QfH ++ [rv100]),(Qgn + 1),a123,k124,a150,k151,a158,k159) [1,23,19,0,6,6,7,8,9,10,10,11] ⟨H,aM1,aM1,aM1,aM1⟩
  intro h77 H
  have g163:=ne_of_beq_false h77
  refine KS ?_
  refine Oq Vm (Oq (Qba Qki) ?_)
  refine pC H hx50 fun hc164 H=>?_
  refine lvH H fun rv166 hg167 H=>?_
  have hc168:=QpC ((rv5.1.length:Int)) pre pre rv166 hg167
  refine Oc [] QpB hc168 ?_
  rintro c165 ⟨he169,he170,he171⟩
  unfold Qaa at he169
  refine Jo 0 ?_; rintro a172 k173 rfl
  refine Fb 8 0 fun _=>?_
  refine Oa (Al QgU [vi 0,.slice none 0 0]) fun p175=>Ost (Scl [0] Qax [vi rv166.Width,vl a172 k173 rv166.Words]) (KS ?_)
  refine Oq Vm (Oq QbW (Oq Vm ?_))
  refine pF H hx50 fun h176 H=>?_
  refine JsF 74 h176 ?_
  have g177:=ne_of_beq_false h176
  refine Osk (Osk (Oq Vpf (KS ?_)))
  refine Kf (KS ?_)
  refine Jp 9 fun hp178=>?_
  refine Qam [0,1,0,0,12,28,63,127,255] Qco ?_
  refine Dv [0] (Vfa QbI 0) (Dv [10] (Qah QgG 0) (Dx [] [] [0] (fun G=>(G.g 2 0)) [fun G=>Cr (G.g 2 0) 0 []] (fun G=>xA (As0 QcA)) (Dv [] Vm (Dx [6,19] [19] [1,0] (fun G=>(G.g 4 0)) [fun G=>os (G.g 4 0) ((rv17.1.Pred.getD Qgn.toNat []):List Int)] (fun G=>xp [1] rfl (Ent.crNil (α:=Int) _) (xA (Ap0 [0,0] QcA QcA Qnk))) (Dx [20] [] [1,0] (fun G=>(G.g 5 0)) [fun G=>Cr (G.g 5 0) 1 [(G.g 4 0)]] (fun G=>x1 0 rfl Qc0 fun ho182=>(xA (AsV Qfr QrC [(G.g 4 0)] [(G.g 4 0)] (hv:=congrArg (fun a:Array Value=>Nat.beq a.size 1 && true) ((show ∀ v:Value,v.oneCell' = true -> v.cells = #[v] from fun v h=>by cases v <;> first | rfl | cases h) _ ho182)) (hc:=congrArg (fun a:Array Value=>a.toList ++ []) ((show ∀ v:Value,v.oneCell' = true -> v.cells = #[v] from fun v h=>by cases v <;> first | rfl | cases h) _ ho182))))) ?_)))))
  refine pC H hx50 fun hc183 H=>?_
  have hn185:=la Qgw ([(rv17.1.Pred.getD Qgn.toNat [])]:List (List Int))
  refine Dx [9,20,21] [9,20,21] [1,0] (fun G=>(G.g 6 0)) [fun G=>sl (G.g 4 0) ((rv17.1.Pred.getD Qgn.toNat []):List Int),fun G=>os (G.g 6 0) ((Qgw ++ [(rv17.1.Pred.getD Qgn.toNat [])]):List (List Int))] (fun G=>xp [1] rfl (Ent.freeze _ _) (xp [2,0] rfl (Ent.cr1 (α:=List Int) (A:=[sl (G.g 4 0) ((rv17.1.Pred.getD Qgn.toNat []):List Int)]) _ (rv17.1.Pred.getD Qgn.toNat []) _ aB1 (fun h=>⟨_,rfl,Qaj (i:=0) rfl h⟩)) (xA (ApO [3,0] Qfr Qfr QrC)))) (Dv [0] (Vfa QbI 0) (Dx0 [10,23] [10] [1,0] [fun G=>Cl p31 [vi (rv5.1.length:Int),(G.g 6 0),vl a39 k40 Qgx,vl a41 k42 QfH]] (fun G=>x1 1 rfl Qc0 fun ho186=>(xS (OpS.frame [0] rfl (OpS.storeClF [(G.g 6 0)] [vi (rv5.1.length:Int),(G.g 6 0),vl a39 k40 Qgx,vl a41 k42 QfH] rfl rfl rfl QgG (QaX ho186) rfl (by simp only [List.all_cons,List.all_nil,ho186,Bool.and_true,Bool.true_and] <;> rfl) aB1 rfl)))) ?_))
  refine Dn ⟨by kernel_rfl,fun G=>?_⟩
  refine Jw2 [(1,vi kind),(2,p2),(4,p3),(6,vl a9 k10 rv5.1),(8,p30),(10,p31),(11,vi Qgn),(13,p71),(14,p175)] [0,1,2,3,4,5,6,7,8,11,12,13,14,15,16,17,18] [sl (G.g 4 0) ((rv17.1.Pred.getD Qgn.toNat []):List Int),os (G.g 6 0) ((Qgw ++ [(rv17.1.Pred.getD Qgn.toNat [])]):List (List Int)),Cl p31 [vi (rv5.1.length:Int),(G.g 6 0),vl a39 k40 Qgx,vl a41 k42 QfH]] ?_
  generalize G.g 4 0 = c180,G.g 6 0 = c184
  refine Jk [1,1,1,2,2,3,4,4,4,4,5,6,7,8,8,9,10,11,11] ?_
  refine Jo 16 ?_; rintro a187 k188 rfl
  refine Jo 17 ?_; rintro a189 k190 rfl
  refine Fb 24 17 fun _=>KS ?_
  refine Jp 18 fun hp192=>?_
  refine Qam [0,1,0,0,0,0,0,124,252,511,1023,2047] Qco ?_
  refine Dv [0] (Vfa QcW 0) (Dv [19] (Qah QjR 0) (Dv [15] (Qau QjT 0) (Dv [] Vm (Dv [] Vm (Dv [] Vm (Dv [4] (Qau Qd1 0) ?_))))))
  refine lbH H hx50 fun rv196 hg197 H=>?_
  refine Dx [13,16] [] [5,6,4,0,1,2,3] (fun G=>.agg #[vi rv196.Gen.Width,(G.g 7 0),vi rv196.Kill.Width,(G.g 7 1),(G.g 7 2)]) [fun G=>sl (.slice none 0 0) ([]:List Str),fun G=>SP.fact (Qaa rv196.Gen.Width /\ Qaa rv196.Kill.Width),fun G=>sl (G.g 7 0) rv196.Gen.Words,fun G=>sl (G.g 7 1) rv196.Kill.Words,fun G=>sl (G.g 7 2) rv196.Copies] (fun G=>xp [] rfl (Ent.slNil (α:=Str)) (xC [2,1,0,0] Qzn (Qzm p pa0 pk0 kind rv5.1 a9 k10 Qgn ((Qc7.mk 0 (Str.mk []) [] [])) none 0 none 0 pre pre pre pre rv196 hg197))) (Dx [] [] [0] (fun G=>(G.g 8 0)) [fun G=>Cr (G.g 8 0) 1 [vi rv196.Gen.Width,(G.g 7 0),vi rv196.Kill.Width,(G.g 7 1),(G.g 7 2)]] (fun G=>xA (AsV QiI QsT [.agg #[vi rv196.Gen.Width,(G.g 7 0),vi rv196.Kill.Width,(G.g 7 1),(G.g 7 2)]] [vi rv196.Gen.Width,(G.g 7 0),vi rv196.Kill.Width,(G.g 7 1),(G.g 7 2)])) ?_)
  refine pC H hx50 fun hc199 H=>?_
  have hn201:=la Qgx ([rv196]:List Qad)
  refine Dx [8,21,22,23,24,25] [8,25] [4,1,2,3,0] (fun G=>(G.g 9 0)) [fun G=>os (G.g 9 0) ((Qgx ++ [rv196]):List Qad)] (fun G=>by refine xf 1 rfl ?_; rintro ⟨he202,he203⟩; unfold Qaa at he202 he203; exact xp [5,2,3,4] rfl (Ent.cr1 (α:=Qad) (A:=[sl (G.g 7 0) rv196.Gen.Words,sl (G.g 7 1) rv196.Kill.Words,sl (G.g 7 2) rv196.Copies]) _ rv196 _ aB1 (fun h=>⟨_,_,_,rfl,aL1,Qaj (i:=0) rfl h,aL1,Qaj (i:=1) rfl h,Qaj (i:=2) rfl h⟩)) (xA (ApO [4,0] QiI QiI QsT))) (Dv [0] (Vfa QcW 0) (Dx0 [19,26] [19] [1,0] [fun G=>Cl p31 [vi (rv5.1.length:Int),vl a189 k190 (Qgw ++ [(rv17.1.Pred.getD Qgn.toNat [])]),(G.g 9 0),vl a41 k42 QfH]] (fun G=>x1 1 rfl Qc0 fun ho204=>(xS (OpS.frame [0] rfl (OpS.storeClF [(G.g 9 0)] [vi (rv5.1.length:Int),vl a189 k190 (Qgw ++ [(rv17.1.Pred.getD Qgn.toNat [])]),(G.g 9 0),vl a41 k42 QfH] rfl rfl rfl QjR (QaX ho204) rfl (by simp only [List.all_cons,List.all_nil,ho204,Bool.and_true,Bool.true_and] <;> rfl) aB1 rfl)))) ?_))
  refine Dn ⟨by kernel_rfl,fun G=>?_⟩
  refine Jw2 [(1,vi kind),(2,p2),(4,p3),(6,vl a9 k10 rv5.1),(8,p30),(10,p31),(11,vi Qgn),(14,p175)] [0,1,2,3,4,5,6,7,9,10,11,12,13,14,15,16,17,18] [sl (.slice none 0 0) ([]:List Str),SP.fact (Qaa rv196.Gen.Width /\ Qaa rv196.Kill.Width),sl (G.g 7 0) rv196.Gen.Words,sl (G.g 7 1) rv196.Kill.Words,sl (G.g 7 2) rv196.Copies,os (G.g 9 0) ((Qgx ++ [rv196]):List Qad),Cl p31 [vi (rv5.1.length:Int),vl a189 k190 (Qgw ++ [(rv17.1.Pred.getD Qgn.toNat [])]),(G.g 9 0),vl a41 k42 QfH]] ?_
  generalize G.g 7 0 = c193,G.g 7 1 = c194,G.g 7 2 = c195,G.g 9 0 = c200
  refine Jf 19 rfl ?_; rintro ⟨he205,he206⟩
  unfold Qaa at he205 he206
  refine Jk [1,1,1,2,2,3,4,4,4,5,6,7,8,8,9,10,11,11,13,14,15,16,16] ?_
  refine Jo 18 ?_; rintro a207 k208 rfl
  refine Fb 8 18 fun _=>?_
  refine Jo 19 ?_; rintro a210 k211 rfl
  refine Fb 8 19 fun _=>?_
  refine Jo 20 ?_; rintro a213 k214 rfl
  refine Fb 16 20 fun _=>?_
  refine Jo 21 ?_; rintro a216 k217 rfl
  refine Fb 88 21 fun _=>KS ?_
  refine Oq (Vfa Qc4 22) (Oq (Qah Qjd 22) (Oq (Qau Qax 0) (Oa (AsV Qc6 Ql4 [.agg #[vi rv166.Width,vl a172 k173 rv166.Words]] [vi rv166.Width,vl a172 k173 rv166.Words]) fun c219=>?_)))
  refine Jo 0 ?_; rintro a220 k221 rfl
  refine Jl [2] (Ent.freeze _ _) ?_
  refine Jl [1,0] (Ent.cr1 (α:=Qaf) (A:=[S a172 k173 rv166.Words]) _ rv166 _ aB1 (fun h=>⟨_,rfl,aL1,Qaj (i:=0) rfl h⟩)) ?_
  refine pC H hx50 fun hc222 H=>?_
  refine Oa (ApO [8,0] Qc6 Qc6 Ql4) fun c223=>?_
  refine Jo 0 ?_; rintro a224 k225 rfl
  refine Fb 32 0 fun _=>?_
  have hn227:=la QfH ([rv166]:List Qaf)
  refine Oq (Vfa Qc4 23) (Ost (QiP [23] Qjd [vi (rv5.1.length:Int),vl a189 k190 (Qgw ++ [(rv17.1.Pred.getD Qgn.toNat [])]),vl a216 k217 (Qgx ++ [rv196]),vl a224 k225 (QfH ++ [rv166])]) (KS ?_))
  refine Oq Vm (Oq QaS (Oq Va (KS ?_)))
  refine pC H hx50 fun hc228 H=>?_
  exact Kg (r62,(Qgw ++ [(rv17.1.Pred.getD Qgn.toNat [])]),(Qgx ++ [rv196]),(QfH ++ [rv166]),(Qgn + 1),a189,k190,a216,k217,a224,k225) [1,22,17,0,7,7,8,9,10,11,11,12] ⟨H,aM1,aM1,aM1,aM1⟩
 intro h60
 have g229:=df h60
 obtain rfl:r32 = 0:=by omega
 have H:=hM43; (try dsimp only at H); rw [QgW] at H
 refine Ke ?_
 have H:=llB H HL51
 dsimp only at H
 refine KS ?_
 refine Oq (Qau Qen 3) (Ost (Scl [9] Qen [vi (rv5.1.length:Int),vl a37 k38 Qgw,vl a39 k40 Qgx,vl a41 k42 QfH]) (Oq Va (KS ?_)))
 refine Jl [3] (Ent.freeze _ _) ?_
 refine Jl [3] (Ent.freeze _ _) ?_
 refine Jl [3] (Ent.freeze _ _) ?_
 have hq:=rI H; subst hq
 exact Kr (vl a37 k38 Qgw,vl a39 k40 Qgx,vl a41 k42 QfH) rfl (.cellN 3 rfl Qen rfl (Qal _ _) rfl (.tmp rfl .nil)) [2,1,0] en
theorem Qz4 (a:List Qas) (aa0:Option Addr) (ak0:Nat) (b:List Qas) (ba0:Option Addr) (bk0:Nat) (rr:Bool) (hrr:Qie a b = .ret rr):FT Tryz.prog 52 #[vl aa0 ak0 a,vl ba0 bk0 b] [S aa0 ak0 a,S ba0 bk0 b] (fun g:Unit=>True) (fun g=>vb rr) (fun g=>[]):=by
 refine FTi Tryz.func52 fun w0 M0 F0=>Fb 16 0 fun _=>Fb 16 1 fun _=>?_
 have hx0:=lrn rr; have H:=hrr; unfold Qie at H
 refine KS ?_
 refine Oq Va (KS ?_)
 refine Oq Vm (Oq (Qba QcX) (Oq Vm (Oq (Qba QcX) (Oq QfZ (KS ?_)))))
 refine pF H hx0 fun h3 H=>?_
 refine KcF h3 ?_
 have g4:=Qae h3
 refine KS ?_
 refine Oq Va (KS ?_)
 refine llH H hx0 fun X12 hX13 hx14 HL15=>?_
 refine Kl (γ:=Nat × Int) (fun (r5,i_6)=>⟨[(0,vl aa0 ak0 a),(1,vl ba0 bk0 b),(5,vi i_6)],[S aa0 ak0 a,S ba0 bk0 b],QdR a b r5 i_6 = X12 /\ r5 = ((a.length:Int) - i_6).toNat /\ (0:Int) <= i_6 /\ i_6 <= (a.length:Int) /\ (-9223372036854775808 <= i_6 /\ i_6 <= 9223372036854775807),r5⟩) (((a.length:Int) - 0).toNat,0) [0,1] ⟨hX13,rfl,aM1,aM1,aM1⟩ ?_
 rintro ⟨r5,i_6⟩ ⟨hM7,hr8,hi9,hi10,hk11⟩
 refine QaA fun _ _ hL hA=>?_; dsimp only at hL hA; subst hL hA
 refine Fb 16 0 fun _=>Fb 16 1 fun _=>KS ?_
 refine Oq Vm (Oq Vm (Oq (Qba QcX) (Oq Qbh (KS ?_))))
 refine Kc ?_ ?_
 ·intro h18
  have g19:=dt h18
  obtain ⟨r20,rfl⟩:=scc (n:=r5) aM1
  have H:=hM7; (try dsimp only at H); rw [QdR] at H
  refine KS ?_
  refine pC H hx14 fun hc21 H=>?_
  refine Qbq i_6.toNat 0 rfl rng fun hb22 hb23=>?_
  unfold Qaa at hb22 hb23
  refine pC H hx14 fun hc24 H=>?_
  refine pC H hx14 fun hc25 H=>?_
  refine Qbq i_6.toNat 2 rfl rng fun hb26 hb27=>?_
  unfold Qaa at hb26 hb27
  refine Kq [0,0,3,7,0,0,48,112,255] Qco ?_
  refine Qv [] Vm (Qv [] Vm (Qv [2] (Vi QcX 0) (Qv [1] (Qau Qfo 0) (Qv [] Vm (Qv [] Vm (Qv [3] (Vi QcX 0) (Qv [0] (Qau Qfo 0) (Qv [] (QyF Qtw (l:=[(a.getD i_6.toNat default).Node,(a.getD i_6.toNat default).Bit]) (m:=[(b.getD i_6.toNat default).Node,(b.getD i_6.toNat default).Bit])) ?_))))))))
  refine Qn ⟨by kernel_rfl,?_⟩
  refine pC H hx14 fun hc29 H=>?_
  refine pF H hx14 fun h28 H=>?_
  refine KcF h28 ?_
  have g30:=Qae h28
  refine KS ?_
  refine Oq Vm (Oq QaS (Oq Va (KS ?_)))
  refine pC H hx14 fun hc31 H=>?_
  exact Kg (r20,(i_6 + 1)) [2,3] ⟨H,aM1,aM1,aM1,aM1⟩
 intro h18
 have g32:=df h18
 obtain rfl:r5 = 0:=by omega
 have H:=hM7; (try dsimp only at H); rw [QdR] at H
 refine Ke ?_
 have H:=llB H HL15
 refine KS ?_
 refine Oq Va (KS ?_)
 have hq:=rI H; subst hq
 exact Kr () rfl (.tmp rfl .nil) [] trivial
theorem Qyu  (rr:Bool) (hrr:Qlq = .ret rr):FT Tryz.prog 20 #[] [] (fun g:Unit=>True) (fun g=>vb rr) (fun g=>[]):=by
 refine FTi Tryz.func20 fun w0 M0 F0=>?_
 have hx0:=lrn rr; have H:=hrr; unfold Qlq at H
 refine KS ?_
 refine Oq Va (KS ?_)
 refine lbH H hx0 fun rv2 hg3 H=>?_
 have hc4:=Qz8 ((Str.mk [102,117,110,99,32,109,59,32,98,108,111,99,107,32,98,59,32,120,32,61,32,121,59,32,117,115,101,32,120,59,32,114,101,116,117,114,110,59,32,101,110,100])) pre rv2 hg3
 refine Oc [] QzK hc4 ?_
 rintro c1 ⟨he5,he6,he7⟩
 unfold Qaa at he5 he6 he7
 refine Jo 0 ?_; rintro a8 k9 rfl
 refine Fb 40 0 fun _=>?_
 refine Oq Vm (Oq Vx (Oq Vx (Oq Vx (Oq Vx (Oa (Al Qyw [.slice none 0 0]) fun p11=>Ost (Scl [0] QjT [vl a8 k9 rv2.1.Funcs]) (Oq Va (Oq Va (Oq Va ?_))))))))
 refine KS ?_
 refine Oq (Qau QjT 0) ?_
 refine lbH H hx0 fun rv15 hg16 H=>?_
 have hc17:=QAC rv2.1 a8 k9 1 pre rv15 hg16
 refine Oc [1] QzW hc17 ?_
 rintro ⟨c12,c13,c14⟩ ⟨he18,he19⟩
 unfold Qaa at he18 he19
 refine Jo 0 ?_; rintro a20 k21 rfl
 refine Fb 24 0 fun _=>?_
 refine Jo 1 ?_; rintro a23 k24 rfl
 refine Fb 88 1 fun _=>?_
 refine Jo 2 ?_; rintro a26 k27 rfl
 refine Fb 32 2 fun _=>?_
 refine Oq Vm (Oq Vx (Oq Vx (Oa (Al QuJ [vi 0,.slice none 0 0,.slice none 0 0,.slice none 0 0]) fun p29=>Ost (Scl [0] Qen [vi rv15.1.Width,vl a20 k21 rv15.1.Deps,vl a23 k24 rv15.1.Transfers,vl a26 k27 rv15.1.Boundary]) (Oq Va (KS ?_)))))
 refine Oq (Qau Qen 0) ?_
 refine lbH H hx0 fun rv31 hg32 H=>?_
 have hc33:=QAz rv15.1 a20 k21 a23 k24 a26 k27 3 0 pre pre pre rv31 hg32
 refine Oc [1,2,3] QBr hc33 ?_
 rintro c30 he34
 unfold Qaa at he34
 refine Jo 0 ?_; rintro a35 k36 rfl
 refine Fb 16 0 fun _=>?_
 refine Oq Vm (Oq Vx (Oq Vx (Oq Vx (Oq Va (Oq Va (Oq Va (KS ?_)))))))
 refine Oq (Vbd QrK [vi 2,vi 0]) (Oq (Vbd QrK [vi 3,vi 0]) (Oa (AsV QcX QmR [.agg #[vi 2,vi 0],.agg #[vi 3,vi 0]] [vi 2,vi 0,vi 3,vi 0]) fun c38=>?_))
 refine Jo 0 ?_; rintro a39 k40 rfl
 refine Oq Va (KS ?_)
 refine Oq Vm (Oq QbW (Oq Vm ?_))
 refine pT H hx0 fun h41 H=>?_
 refine JsT 33 h41 ?_
 have g42:=eq_of_beq h41
 refine Oq Vm (Oq Vpt (Oq Vm ?_))
 refine pT H hx0 fun h43 H=>?_
 refine JsT 36 h43 ?_
 refine Oq Vm (Oq Vm ?_)
 refine Jl [0] (Ent.crOs (α:=Qas) (A:=[]) _ ([(Qas.mk 2 0),(Qas.mk 3 0)]:List Qas) _ aB1 (fun h=>⟨[vi 2,vi 0],[vi 3,vi 0],rfl,(fun h=>⟨rfl,aL1,aL1⟩) h,⟨[vi 3,vi 0],[],rfl,(fun h=>⟨rfl,aL1,aL1⟩) h,rfl⟩⟩)) ?_
 refine Jl [0] (Ent.freeze _ _) ?_
 refine lbH H hx0 fun rv45 hg46 H=>?_
 have hc47:=Qz4 rv31.1 a35 k36 ([(Qas.mk 2 0),(Qas.mk 3 0)]) a39 k40 rv45 hg46
 refine Oc [1,0] QzM hc47 ?_
 rintro - -
 refine Oq Vpt (Oq Vm ?_)
 refine pT H hx0 fun h48 H=>?_
 refine JsT 41 h48 ?_
 refine Oq (Qau Qen 2) (Oq Vm ?_)
 refine lvH H fun rv50 hg51 H=>?_
 have hc52:=QwL rv15.1 a20 k21 a23 k24 a26 k27 3 0 ([(Qas.mk 2 0),(Qas.mk 3 0)]) a39 k40 pre pre pre rv50 hg51
 refine Oc [3,4,5,0] QwC hc52 ?_
 rintro - -
 refine Oq Vpt (Oq Va (KS ?_))
 have hq:=rI H; subst hq
 exact Kr () rfl (.tmp rfl .nil) [] trivial
theorem QpU:Qlq = .ret true:=by kernel_rfl
theorem QwB  (rr:Bool) (hrr:Qdg = rr):FT Tryz.prog 20 #[] [] (fun g:Unit=>True) (fun g=>vb rr) (fun g=>[]):=by
 subst hrr; exact Qyu  true QpU
theorem fn7 (l:List Int) (la0:Option Addr) (lk0:Nat) (rr:Unit) (hrr:Qsl l = rr):FT Tryz.prog 7 #[vl la0 lk0 l] [S la0 lk0 l] (fun g:Value=>True) (fun g=>g) (fun g=>[Cl g [vl la0 lk0 l,vi 0]]):=by
 refine FTi Tryz.func7 fun w0 M0 F0=>Fb 8 0 fun _=>Fo 0 fun ho2=>?_
 refine KS ?_
 refine Oq Va (KS ?_)
 refine Oq Vm (Oq (Vbd QAD [vl la0 lk0 l,vi 0]) (Oa (AbO [vl la0 lk0 l,vi 0]) fun p3=>Oq Va (KS ?_)))
 have hq:=q4 hrr () (by simp only [Qsl,cs4]); subst hq
 exact Kr p3 rfl (.tmp rfl .nil) [0] trivial
theorem QAE (tP:Value) (ta:Option Addr) (tk:Nat) (tT:List Int) (tI:Int) (htI:0 <= tI /\ tI <= (tT.length:Int)) (rr:Int × Int) (hrr:QaO tT tI = rr):FT Tryz.prog 27 #[tP] [Cl tP [vl ta tk tT,vi tI],S ta tk tT] (fun g:Unit=>Qaa rr.1 /\ (0 <= rr.2 /\ rr.2 <= (tT.length:Int)) /\ (0 <= rr.1 /\ rr.1 <= 8)) (fun g=>vi rr.1) (fun g=>[Cl tP [vl ta tk tT,vi rr.2]]):=by
 refine FTi Tryz.func27 fun w0 M0 F0=>Fb 8 1 fun _=>Fo 1 fun ho2=>?_
 refine KS ?_
 refine Oq Va (KS ?_)
 refine Oa (AsV QcA Qnk [vi 3,vi 1,vi 4,vi 2,vi 6,vi 0,vi 8] [vi 3,vi 1,vi 4,vi 2,vi 6,vi 0,vi 8]) fun c3=>?_
 refine Jo 0 ?_; rintro a4 k5 rfl
 refine Oq Vm ?_
 refine QaJ (Qan tT tI 7) fun rv6 hg7=>?_
 have hc8:=fn9 tP ta tk tT tI 7 pre pre rv6 hg7
 refine Oc [1,1] ca9 hc8 ?_
 rintro - ⟨he9,he10,he11⟩
 unfold Qaa at he9
 refine Jl [1] (Ent.crInt _ [3,1,4,2,6,0,8] _ _ rfl rfl (by intro x hx; simp only [List.mem_cons,List.not_mem_nil,or_false] at hx; rcases hx with rfl | rfl | rfl | rfl | rfl | rfl | rfl <;> (unfold Qaa; omega)) aB1) ?_
 refine Oq (Vi QcA 0) (Oq (Qjc sh3 0) (Oq Va (KS ?_)))
 have hq:=q4 hrr (([3,1,4,2,6,0,8].getD rv6.1.toNat 0),rv6.2) (by simp only [QaO,hg7,cs4]); subst hq
 exact Kr () rfl (.tmp rfl .nil) [1] ⟨(by rw [<- hrr]; exact Qse _ _),en,(by rw [<- hrr]; exact QjG _ _)⟩
theorem Qzj (tP:Value) (ta:Option Addr) (tk:Nat) (tT:List Int) (tI:Int) (width:Int) (htI:0 <= tI /\ tI <= (tT.length:Int)) (Qcj:Qaa width) (hw0:0 <= width /\ width <= 1000) (rr:Qad × Int) (hrr:QdJ tT tI width = rr):FT Tryz.prog 30 #[tP,vi width] [Cl tP [vl ta tk tT,vi tI],S ta tk tT] (fun g:Value × Value × Value=>Qaa rr.1.Gen.Width /\ Qaa rr.1.Kill.Width /\ (0 <= rr.2 /\ rr.2 <= (tT.length:Int)) /\ (rr.1.Gen.Width = width) /\ (rr.1.Kill.Width = width) /\ (rr.1.Copies.length <= 12)) (fun g=>.agg #[vi rr.1.Gen.Width,g.1,vi rr.1.Kill.Width,g.2.1,g.2.2]) (fun g=>[sl g.1 rr.1.Gen.Words,sl g.2.1 rr.1.Kill.Words,sl g.2.2 rr.1.Copies,Cl tP [vl ta tk tT,vi rr.2]]):=by
 refine FTi Tryz.func30 fun w0 M0 F0=>?_
 unfold Qaa at Qcj
 refine Fb 8 1 fun _=>Fo 1 fun ho2=>KS ?_
 refine Oa (Al Qqo [vi 0,.slice none 0 0,vi 0,.slice none 0 0,.slice none 0 0]) fun p3=>KS ?_
 refine Oq Vm ?_
 refine QaJ (QaK width) fun rv5 hg6=>?_
 have hc7:=QpC width pre pre rv5 hg6
 refine Oc [] QpB hc7 ?_
 rintro c4 ⟨he8,he9,he10⟩
 unfold Qaa at he8
 refine Jo 0 ?_; rintro a11 k12 rfl
 refine Fb 8 0 fun _=>Oq Vm ?_
 have hc15:=QpC width pre pre rv5 hg6
 refine Oc [] QpB hc15 ?_
 rintro c14 ⟨he16,he17,he18⟩
 unfold Qaa at he16
 refine Jo 0 ?_; rintro a19 k20 rfl
 refine Oq (Vbd Qya [vi rv5.Width,vl a11 k12 rv5.Words,vi rv5.Width,vl a19 k20 rv5.Words,.slice none 0 0]) (Oa (Al Qqo [vi 0,.slice none 0 0,vi 0,.slice none 0 0,.slice none 0 0]) fun p21=>Ost (Scl [0] Qek [vi rv5.Width,vl a11 k12 rv5.Words,vi rv5.Width,vl a19 k20 rv5.Words,.slice none 0 0]) (KS ?_))
 refine Oq Va (KS ?_)
 refine Kl (γ:=Nat × Int × Int × List (BitVec 64) × Int × List (BitVec 64) × Int × Option Addr × Nat × Option Addr × Nat) (fun (r22,QkN,Qgy,Qgz,Qfz,Qgo,QnF,a29,k30,a31,k32)=>⟨[(0,tP),(1,vi width),(4,p3),(5,p21),(6,vi QnF)],[O a31 k32 Qgo,O a29 k30 Qgz,Cl p21 [vi Qgy,vl a29 k30 Qgz,vi Qfz,vl a31 k32 Qgo,.slice none 0 0],Cl p3 [vi 0,.slice none 0 0,vi 0,.slice none 0 0,.slice none 0 0],Cl tP [vl ta tk tT,vi QkN],S ta tk tT],QaI tT r22 QkN Qgy Qgz Qfz Qgo QnF = QaI tT (((width:Int) - 0).toNat) tI rv5.Width rv5.Words rv5.Width rv5.Words 0 /\ r22 = ((width:Int) - QnF).toNat /\ (0:Int) <= QnF /\ (QnF <= width \/ QnF = 0) /\ (-9223372036854775808 <= QkN /\ QkN <= 9223372036854775807) /\ (0 <= QkN /\ QkN <= (tT.length:Int)) /\ (-9223372036854775808 <= Qgy /\ Qgy <= 9223372036854775807) /\ (-9223372036854775808 <= Qfz /\ Qfz <= 9223372036854775807) /\ (-9223372036854775808 <= QnF /\ QnF <= 9223372036854775807) /\ Qgy = width /\ Qgz.length = (((width:Int) + 63) / 64).toNat /\ Qfz = width /\ Qgo.length = (((width:Int) + 63) / 64).toNat,r22⟩) (((width:Int) - 0).toNat,tI,rv5.Width,rv5.Words,rv5.Width,rv5.Words,0,a11,k12,a19,k20) [1,1,0,0,0,0] ⟨rfl,rfl,aM1,(.inr rfl),aM1,aM1,aM1,aM1,aM1,iv0,iv0,iv0,iv0⟩ ?_
 rintro ⟨r22,QkN,Qgy,Qgz,Qfz,Qgo,QnF,a29,k30,a31,k32⟩ ⟨hM33,hr34,hi35,hi36,hk37,ht38,hk39,hk40,hk41,hv42,hv43,hv44,hv45⟩
 refine QaA fun _ _ hL hA=>?_; dsimp only at hL hA; subst hL hA
 refine Fb 8 0 fun _=>Fb 8 1 fun _=>Fb 8 5 fun _=>Fo 5 fun ho49=>KS ?_
 refine Oq Vm (Oq Vm (Oq Qbh (KS ?_)))
 refine Kc ?_ ?_
 ·intro h50
  have g51:=dt h50
  obtain ⟨r52,rfl⟩:=scc (n:=r22) aM1
  refine KS ?_
  refine Oq Vm ?_
  refine QaJ (Qan tT QkN 6) fun rv53 hg54=>?_
  have hc55:=fn9 tP ta tk tT QkN 6 pre pre rv53 hg54
  refine Oc [4,4] ca9 hc55 ?_
  rintro - ⟨he56,he57,he58⟩
  unfold Qaa at he56
  refine KS ?_
  refine Oq QbW (Oq Va (KS ?_))
  refine Kc ?_ ?_
  ·intro h59
   have g60:=eq_of_beq h59
   refine KS ?_
   refine Oq (Vfa QdB 3) (Oq (Qmr Qax 3 [vi Qgy,vl a29 k30 Qgz]) (Oq Vm ?_))
   refine QaJ (Qbx (Qaf.mk Qgy Qgz) QnF) fun rv62 hg63=>?_
   refine Oc [2] Qqq (Qc2 (A:=_) hlx (Qd3 (Ent.take (is:=[0]) rfl) (Qqn ((Qaf.mk Qgy Qgz)) a29 k30 QnF pre pre pre pre rv62 hg63))) ?_ (ht:=rfl)
   rintro c61 ⟨he64,he65,he66⟩
   unfold Qaa at he64
   have he65:(rv62.Width = Qgy):=he65
   have he66:(rv62.Words.length = ((Qgy + 63) / 64).toNat):=he66
   refine Jo 1 ?_; rintro a67 k68 rfl
   refine Fb 8 1 fun _=>?_
   refine Oq (Vfa QdB 4) (Ost (QiP [4] Qax [vi rv62.Width,vl a67 k68 rv62.Words,vi Qfz,vl a31 k32 Qgo,.slice none 0 0]) (KS ?_))
   refine Oq Vm (Oq QaS (Oq Va (KS ?_)))
   exact Kg (r52,rv53.2,rv62.Width,rv62.Words,Qfz,Qgo,(QnF + 1),a67,k68,a31,k32) [4,2,0,2,1,1] ⟨(q3 hM33 (by simp only [QaI,h50,h59,hg54,hg63,cs4])),aM1,aM1,aM1,aM1,aM1,aM1,aM1,aM1,iv1,iv1,iv1,iv1⟩
  intro h59
  have g70:=ne_of_beq_false h59
  refine KS ?_
  refine Oq QbW (Oq Va (KS ?_))
  refine Kc ?_ ?_
  ·intro h71
   have g72:=eq_of_beq h71
   refine KS ?_
   refine Kc ?_ ?_
   ·intro h73
    have g74:=eq_of_beq h73
    refine KS ?_
    refine Oq (Vfa Qgj 3) (Oq (Qmr Qax 3 [vi Qfz,vl a31 k32 Qgo]) (Oq Vm ?_))
    refine QaJ (Qbx (Qaf.mk Qfz Qgo) QnF) fun rv76 hg77=>?_
    refine Oc [1] Qqq (Qc2 (A:=_) hlx (Qd3 (Ent.take (is:=[0]) rfl) (Qqn ((Qaf.mk Qfz Qgo)) a31 k32 QnF pre pre pre pre rv76 hg77))) ?_ (ht:=rfl)
    rintro c75 ⟨he78,he79,he80⟩
    unfold Qaa at he78
    have he79:(rv76.Width = Qfz):=he79
    have he80:(rv76.Words.length = ((Qfz + 63) / 64).toNat):=he80
    refine Jo 1 ?_; rintro a81 k82 rfl
    refine Fb 8 1 fun _=>?_
    refine Oq (Vfa Qgj 4) (Ost (QiP [4] Qax [vi Qgy,vl a29 k30 Qgz,vi rv76.Width,vl a81 k82 rv76.Words,.slice none 0 0]) (KS ?_))
    refine Oq Vm (Oq QaS (Oq Va (KS ?_)))
    exact Kg (r52,rv53.2,Qgy,Qgz,rv76.Width,rv76.Words,(QnF + 1),a29,k30,a81,k82) [2,3,0,2,1,1] ⟨(q3 hM33 (by simp only [QaI,h50,h59,h71,h73,hg54,hg77,cs4])),aM1,aM1,aM1,aM1,aM1,aM1,aM1,aM1,iv1,iv1,iv1,iv1⟩
   intro h73
   exact absurd h73 (by first | (simp [h71]; done) | (simp only [bne,h71]; decide) | (simp only [bne,h71,Bool.not_true,Bool.not_false]; decide) | (exfalso; omega) | (intro hq; simp only [bne,hq,Bool.not_false,Bool.not_true,reduceCtorEq] at h71))
  intro h71
  have g84:=ne_of_beq_false h71
  refine KS ?_
  refine Oq QbW (Oq Va (KS ?_))
  refine Kc ?_ ?_
  ·intro h85
   have g86:=eq_of_beq h85
   refine KS ?_
   refine Oq (Vfa Qgj 3) (Oq (Qmr Qax 3 [vi Qfz,vl a31 k32 Qgo]) (Oq Vm ?_))
   refine QaJ (Qbx (Qaf.mk Qfz Qgo) QnF) fun rv88 hg89=>?_
   refine Oc [1] Qqq (Qc2 (A:=_) hlx (Qd3 (Ent.take (is:=[0]) rfl) (Qqn ((Qaf.mk Qfz Qgo)) a31 k32 QnF pre pre pre pre rv88 hg89))) ?_ (ht:=rfl)
   rintro c87 ⟨he90,he91,he92⟩
   unfold Qaa at he90
   have he91:(rv88.Width = Qfz):=he91
   have he92:(rv88.Words.length = ((Qfz + 63) / 64).toNat):=he92
   refine Jo 1 ?_; rintro a93 k94 rfl
   refine Fb 8 1 fun _=>?_
   refine Oq (Vfa Qgj 4) (Ost (QiP [4] Qax [vi Qgy,vl a29 k30 Qgz,vi rv88.Width,vl a93 k94 rv88.Words,.slice none 0 0]) (KS ?_))
   refine Oq Vm (Oq QaS (Oq Va (KS ?_)))
   exact Kg (r52,rv53.2,Qgy,Qgz,rv88.Width,rv88.Words,(QnF + 1),a29,k30,a93,k94) [2,3,0,2,1,1] ⟨(q3 hM33 (by simp only [QaI,h50,h59,h71,h85,hg54,hg89,cs4])),aM1,aM1,aM1,aM1,aM1,aM1,aM1,aM1,iv1,iv1,iv1,iv1⟩
  intro h85
  have g96:=ne_of_beq_false h85
  refine KS ?_
  refine Oq Vm (Oq QaS (Oq Va (KS ?_)))
  exact Kg (r52,rv53.2,Qgy,Qgz,Qfz,Qgo,(QnF + 1),a29,k30,a31,k32) [1,1,1,1,0,0] ⟨(q3 hM33 (by simp only [QaI,h50,h59,h71,h85,hg54,cs4])),aM1,aM1,aM1,aM1,aM1,aM1,aM1,aM1,iv1,iv1,iv1,iv1⟩
 intro h50
 have g97:=df h50
 obtain rfl:r22 = 0:=by omega
 refine Ke ?_
 have hR98:=q2 hM33 (QkN,Qgy,Qgz,Qfz,Qgo) (by simp only [QaI,h50,cs4])
 refine KS ?_
 refine Oq Va (KS ?_)
 refine Jl [] (Ent.osNil (α:=QbA)) ?_
 refine Kl (γ:=Nat × Int × List QbA × Int × Option Addr × Nat) (fun (r99,Qij,Qik,QgT,a103,k104)=>⟨[(0,tP),(1,vi width),(4,p3),(5,p21),(7,vi QgT)],[O a103 k104 Qik,O a31 k32 Qgo,O a29 k30 Qgz,Cl p21 [vi Qgy,vl a29 k30 Qgz,vi Qfz,vl a31 k32 Qgo,vl a103 k104 Qik],Cl p3 [vi 0,.slice none 0 0,vi 0,.slice none 0 0,.slice none 0 0],Cl tP [vl ta tk tT,vi Qij],S ta tk tT],Qb0 tT width r99 Qij Qik QgT = Qb0 tT width (((width:Int) - 0).toNat) QkN [] 0 /\ r99 = ((width:Int) - QgT).toNat /\ (0:Int) <= QgT /\ (QgT <= width \/ QgT = 0) /\ (-9223372036854775808 <= Qij /\ Qij <= 9223372036854775807) /\ (0 <= Qij /\ Qij <= (tT.length:Int)) /\ (-9223372036854775808 <= QgT /\ QgT <= 9223372036854775807) /\ Qik.length <= 12,r99⟩) (((width:Int) - 0).toNat,QkN,[],0,none,0) [0,0,0,0,0,0,0] ⟨rfl,rfl,aM1,(.inr rfl),aM1,aM1,aM1,iv0⟩ ?_
 rintro ⟨r99,Qij,Qik,QgT,a103,k104⟩ ⟨hM105,hr106,hi107,hi108,hk109,ht110,hk111,hv112⟩
 refine QaA fun _ _ hL hA=>?_; dsimp only at hL hA; subst hL hA
 refine Fb 16 0 fun _=>Fb 8 1 fun _=>Fb 8 2 fun _=>Fb 8 6 fun _=>Fo 6 fun ho117=>KS ?_
 refine Oq Vm (Oq Vm (Oq Qbh (KS ?_)))
 refine Kc ?_ ?_
 ·intro h118
  have g119:=dt h118
  obtain ⟨r120,rfl⟩:=scc (n:=r99) aM1
  refine KS ?_
  refine Oq Va (KS ?_)
  refine Kl (γ:=Nat × Int × List QbA × Int × Option Addr × Nat) (fun (r121,Qhe,Qhf,Qh0,a125,k126)=>⟨[(0,tP),(1,vi width),(4,p3),(5,p21),(7,vi QgT),(8,vi Qh0)],[O a125 k126 Qhf,O a31 k32 Qgo,O a29 k30 Qgz,Cl p21 [vi Qgy,vl a29 k30 Qgz,vi Qfz,vl a31 k32 Qgo,vl a125 k126 Qhf],Cl p3 [vi 0,.slice none 0 0,vi 0,.slice none 0 0,.slice none 0 0],Cl tP [vl ta tk tT,vi Qhe],S ta tk tT],Qbw tT width QgT r121 Qhe Qhf Qh0 = Qbw tT width QgT (((width:Int) - 0).toNat) Qij Qik 0 /\ r121 = ((width:Int) - Qh0).toNat /\ (0:Int) <= Qh0 /\ (Qh0 <= width \/ Qh0 = 0) /\ (-9223372036854775808 <= Qhe /\ Qhe <= 9223372036854775807) /\ (0 <= Qhe /\ Qhe <= (tT.length:Int)) /\ (-9223372036854775808 <= Qh0 /\ Qh0 <= 9223372036854775807) /\ Qhf.length <= 12,r121⟩) (((width:Int) - 0).toNat,Qij,Qik,0,a103,k104) [0,0,0,0,0,0,0] ⟨rfl,rfl,aM1,(.inr rfl),aM1,aM1,aM1,iv0⟩ ?_
  rintro ⟨r121,Qhe,Qhf,Qh0,a125,k126⟩ ⟨hM127,hr128,hi129,hi130,hk131,ht132,hk133,hv134⟩
  refine QaA fun _ _ hL hA=>?_; dsimp only at hL hA; subst hL hA
  refine Fb 16 0 fun _=>Fb 8 1 fun _=>Fb 8 2 fun _=>Fb 8 6 fun _=>Fo 6 fun ho139=>KS ?_
  refine Oq Vm (Oq Vm (Oq Qbh (Oq Vm ?_)))
  refine Js 44 ?_ ?_
  ·intro h140
   have g141:=dt h140
   obtain ⟨r142,rfl⟩:=scc (n:=r121) aM1
   refine Oq (Vfa Qeo 3) (Oq (Qah Qmn 3) (Oq (Qba QkQ) (Oq Qbh (Oq Vpt (KS ?_)))))
   refine Kc ?_ ?_
   ·intro h143
    have g144:=dt h143
    refine KS ?_
    refine Oq Vm (Oq Vm (Oq Qt9 ?_))
    refine QaJ (Qan tT Qhe (2 * width)) fun rv145 hg146=>?_
    have hc147:=fn9 tP ta tk tT Qhe ((2 * width)) pre pre rv145 hg146
    refine Oc [5,5] ca9 hc147 ?_
    rintro - ⟨he148,he149,he150⟩
    unfold Qaa at he148
    refine Oq QbW (KS ?_)
    refine Kc ?_ ?_
    ·intro h151
     have g152:=eq_of_beq h151
     refine KS ?_
     refine Oq (Vfa Qeo 4) (Oq (Qah Qmn 4) (Oq Vm (Oq Vm (Oq (Vbd Qt8 [vi QgT,vi Qh0]) (Oa (AsV QkQ Qza [.agg #[vi QgT,vi Qh0]] [vi QgT,vi Qh0]) fun c153=>?_)))))
     refine Jo 0 ?_; rintro a154 k155 rfl
     refine Jl [0] (Ent.cr1 (α:=QbA) (A:=[]) _ (QbA.mk QgT Qh0) _ aB1 (fun h=>⟨rfl,aL1,aL1⟩)) ?_
     refine Oa (ApO [2,0] QkQ QkQ Qza) fun c156=>?_
     refine Jo 0 ?_; rintro a157 k158 rfl
     refine Fb 16 0 fun _=>?_
     have hn160:=la Qhf ([(QbA.mk QgT Qh0)]:List QbA)
     refine Oq (Vfa Qeo 4) (Ost (QiP [4] Qmn [vi Qgy,vl a29 k30 Qgz,vi Qfz,vl a31 k32 Qgo,vl a157 k158 (Qhf ++ [(QbA.mk QgT Qh0)])]) (KS ?_))
     refine Oq Vm (Oq QaS (Oq Va (KS ?_)))
     exact Kg (r142,rv145.2,(Qhf ++ [(QbA.mk QgT Qh0)]),(Qh0 + 1),a157,k158) [1,2,2,0,1,0,0] ⟨(q3 hM127 (by simp only [Qbw,h140,h143,h151,hg146,cs4])),aM1,aM1,aM1,aM1,aM1,aM1,iv1⟩
    intro h151
    have g161:=ne_of_beq_false h151
    refine KS ?_
    refine Oq Vm (Oq QaS (Oq Va (KS ?_)))
    exact Kg (r142,rv145.2,Qhf,(Qh0 + 1),a125,k126) [1,1,1,1,1,0,0] ⟨(q3 hM127 (by simp only [Qbw,h140,h143,h151,hg146,cs4])),aM1,aM1,aM1,aM1,aM1,aM1,iv1⟩
   intro h143
   have g162:=df h143
   refine Ke ?_
   have hR163:=q2 hM127 (Qhe,Qhf) (by simp only [Qbw,h140,h143,cs4])
   refine KS ?_
   refine Oq Vm (Oq QaS (Oq Va (KS ?_)))
   exact Kg (r120,Qhe,Qhf,(QgT + 1),a125,k126) [0,0,0,0,0,0,0] ⟨(q3 hM105 (by simp only [Qb0,h118,h140,h143,hR163,cs4])),aM1,aM1,aM1,aM1,aM1,aM1,iv1⟩
  intro h140
  have g164:=df h140
  obtain rfl:r121 = 0:=by omega
  refine Osk (Osk (Osk (Osk (Oq Vpf (KS ?_)))))
  refine Kf ?_
  refine Ke ?_
  have hR165:=q2 hM127 (Qhe,Qhf) (by simp only [Qbw,h140,cs4])
  refine KS ?_
  refine Oq Vm (Oq QaS (Oq Va (KS ?_)))
  exact Kg (r120,Qhe,Qhf,(QgT + 1),a125,k126) [0,0,0,0,0,0,0] ⟨(q3 hM105 (by simp only [Qb0,h118,h140,hR165,cs4])),aM1,aM1,aM1,aM1,aM1,aM1,iv1⟩
 intro h118
 have g166:=df h118
 obtain rfl:r99 = 0:=by omega
 refine Ke ?_
 have hR167:=q2 hM105 (Qij,Qik) (by simp only [Qb0,h118,cs4])
 refine KS ?_
 refine Oq (Qau Qek 3) (Ost (Scl [4] Qek [vi Qgy,vl a29 k30 Qgz,vi Qfz,vl a31 k32 Qgo,vl a103 k104 Qik]) (KS ?_))
 refine Jl [3] (Ent.freeze _ _) ?_
 refine Jl [3] (Ent.freeze _ _) ?_
 refine Jl [3] (Ent.freeze _ _) ?_
 have hq:=q4 hrr ((Qad.mk (Qaf.mk Qgy Qgz) (Qaf.mk Qfz Qgo) Qik),Qij) (by simp only [QdJ,h50,h118,hg6,hR98,hR167,cs4]); subst hq
 exact Kr (vl a29 k30 Qgz,vl a31 k32 Qgo,vl a103 k104 Qik) rfl (.cellN 3 rfl Qek rfl (Qal _ _) rfl .nil) [2,1,0,5] en
theorem fn8 (tP:Value) (ta:Option Addr) (tk:Nat) (tT:List Int) (tI:Int) (n:Int) (htI:0 <= tI /\ tI <= (tT.length:Int)) (Qgv:Qaa n) (hn0:0 <= n /\ n <= 1000) (rr:Qac × Int) (hrr:Qdl tT tI n = rr):FT Tryz.prog 8 #[tP,vi n] [Cl tP [vl ta tk tT,vi tI],S ta tk tT] (fun g:Value × Value × Value=>Qaa rr.1.Width /\ (0 <= rr.2 /\ rr.2 <= (tT.length:Int)) /\ (rr.1.Deps.length <= 1001)) (fun g=>.agg #[vi rr.1.Width,g.1,g.2.1,g.2.2]) (fun g=>[sl g.1 rr.1.Deps,sl g.2.1 rr.1.Transfers,sl g.2.2 rr.1.Boundary,Cl tP [vl ta tk tT,vi rr.2]]):=by
 refine FTi Tryz.func8 fun w0 M0 F0=>?_
 unfold Qaa at Qgv
 refine Fb 8 1 fun _=>Fo 1 fun ho2=>KS ?_
 refine Oa (Al QuJ [vi 0,.slice none 0 0,.slice none 0 0,.slice none 0 0]) fun p3=>KS ?_
 refine Oq Vm ?_
 refine QaJ (QaO tT tI) fun rv4 hg5=>?_
 have hc6:=QAE tP ta tk tT tI pre rv4 hg5
 refine Oc [1,1] QzP hc6 ?_
 rintro - ⟨he7,he8,he9⟩
 unfold Qaa at he7
 refine Oq QtG (Oq (Vbd Qze [vi (rv4.1 % 5),.slice none 0 0,.slice none 0 0,.slice none 0 0]) (Oa (Al QuJ [vi 0,.slice none 0 0,.slice none 0 0,.slice none 0 0]) fun p10=>Ost (Scl [0] Qen [vi (rv4.1 % 5),.slice none 0 0,.slice none 0 0,.slice none 0 0]) (KS ?_)))
 refine Oq Vm (Oq Vm ?_)
 refine QaJ (Qan tT rv4.2 n) fun rv11 hg12=>?_
 have hc13:=fn9 tP ta tk tT rv4.2 n pre pre rv11 hg12
 refine Oc [1,2] ca9 hc13 ?_
 rintro - ⟨he14,he15,he16⟩
 unfold Qaa at he14
 refine Oq QaS (Oq Va (KS ?_))
 refine Oq Va (KS ?_)
 refine Jl [] (Ent.osNil (α:=(List Int))) ?_
 refine Jl [] (Ent.osNil (α:=Qad)) ?_
 refine Jl [] (Ent.osNil (α:=Qaf)) ?_
 refine Kl (γ:=Nat × Int × List (List Int) × List Qad × List Qaf × Int × Option Addr × Nat × Option Addr × Nat × Option Addr × Nat) (fun (r17,QlW,QhV,Qe3,Qgp,QiD,a23,k24,a25,k26,a27,k28)=>⟨[(0,tP),(4,p3),(5,p10),(1,vi (1 + rv11.1)),(6,vi QiD)],[O a27 k28 Qgp,O a25 k26 Qe3,O a23 k24 QhV,Cl tP [vl ta tk tT,vi QlW],Cl p10 [vi (rv4.1 % 5),vl a23 k24 QhV,vl a25 k26 Qe3,vl a27 k28 Qgp],Cl p3 [vi 0,.slice none 0 0,.slice none 0 0,.slice none 0 0],S ta tk tT],Qbm tT (1 + rv11.1) (rv4.1 % 5) r17 QlW QhV Qe3 Qgp QiD = Qbm tT (1 + rv11.1) (rv4.1 % 5) ((((1 + rv11.1):Int) - 0).toNat) rv11.2 [] [] [] 0 /\ r17 = (((1 + rv11.1):Int) - QiD).toNat /\ (0:Int) <= QiD /\ QiD <= (1 + rv11.1) /\ (-9223372036854775808 <= QlW /\ QlW <= 9223372036854775807) /\ (0 <= QlW /\ QlW <= (tT.length:Int)) /\ (-9223372036854775808 <= QiD /\ QiD <= 9223372036854775807) /\ (QhV.length:Int) = QiD /\ (Qe3.length:Int) = QiD /\ (Qgp.length:Int) = QiD,r17⟩) ((((1 + rv11.1):Int) - 0).toNat,rv11.2,[],[],[],0,none,0,none,0,none,0) [0,0,0,0,0,0,0] ⟨rfl,rfl,aM1,aM1,aM1,aM1,aM1,iv0,iv0,iv0⟩ ?_
 rintro ⟨r17,QlW,QhV,Qe3,Qgp,QiD,a23,k24,a25,k26,a27,k28⟩ ⟨hM29,hr30,hi31,hi32,hk33,ht34,hk35,hv36,hv37,hv38⟩
 refine QaA fun _ _ hL hA=>?_; dsimp only at hL hA; subst hL hA
 refine Fb 32 0 fun _=>Fb 88 1 fun _=>Fb 24 2 fun _=>Fb 8 6 fun _=>Fo 6 fun ho43=>KS ?_
 refine Oq Vm (Oq Vm (Oq Qbh (KS ?_)))
 refine Kc ?_ ?_
 ·intro h44
  have g45:=dt h44
  obtain ⟨r46,rfl⟩:=scc (n:=r17) aM1
  refine KS ?_
  refine Oq Va (KS ?_)
  refine Oq Vm ?_
  refine QaJ (Qan tT QlW 4) fun rv47 hg48=>?_
  have hc49:=fn9 tP ta tk tT QlW 4 pre pre rv47 hg48
  refine Oc [3,5] ca9 hc49 ?_
  rintro - ⟨he50,he51,he52⟩
  unfold Qaa at he50
  refine Oq Va (KS ?_)
  refine Jl [] (Ent.slNil (α:=Int)) ?_
  refine Kl (γ:=Nat × Int × List Int × Int × Option Addr × Nat) (fun (r53,QkO,QkJ,QsM,a57,k58)=>⟨[(0,tP),(4,p3),(5,p10),(1,vi (1 + rv11.1)),(6,vi QiD),(7,vl a57 k58 QkJ),(8,vi QsM)],[S a57 k58 QkJ,Cl tP [vl ta tk tT,vi QkO],O a27 k28 Qgp,O a25 k26 Qe3,O a23 k24 QhV,Cl p10 [vi (rv4.1 % 5),vl a23 k24 QhV,vl a25 k26 Qe3,vl a27 k28 Qgp],Cl p3 [vi 0,.slice none 0 0,.slice none 0 0,.slice none 0 0],S ta tk tT],QbN tT (1 + rv11.1) r53 QkO QkJ QsM = QbN tT (1 + rv11.1) (rv47.1.toNat) rv47.2 [] rv47.1 /\ r53 = QsM.toNat /\ QsM <= (rv47.1:Int) /\ (-9223372036854775808 <= QkO /\ QkO <= 9223372036854775807) /\ (0 <= QkO /\ QkO <= (tT.length:Int)) /\ (-9223372036854775808 <= QsM /\ QsM <= 9223372036854775807) /\ (QkJ.length:Int) + QsM <= 4,r53⟩) (rv47.1.toNat,rv47.2,[],rv47.1,none,0) [0,1,1,1,1,1,1,1] ⟨rfl,rfl,aM1,aM1,aM1,aM1,iv0⟩ ?_
  rintro ⟨r53,QkO,QkJ,QsM,a57,k58⟩ ⟨hM59,hr60,hi61,hk62,ht63,hk64,hv65⟩
  refine QaA fun _ _ hL hA=>?_; dsimp only at hL hA; subst hL hA
  refine Fb 8 0 fun _=>Fo 0 fun ho67=>Fb 32 2 fun _=>Fb 88 3 fun _=>Fb 24 4 fun _=>Fb 8 7 fun _=>Fo 7 fun ho72=>KS ?_
  refine Oq Vm (Oq Qgr (KS ?_))
  refine Kc ?_ ?_
  ·intro h73
   have g74:=dt h73
   obtain ⟨r75,rfl⟩:=scc (n:=r53) aM1
   refine KS ?_
   refine Oq Vm (Oq Vm (Oq Vm ?_))
   refine QaJ (Qan tT QkO (1 + rv11.1)) fun rv76 hg77=>?_
   have hc78:=fn9 tP ta tk tT QkO ((1 + rv11.1)) pre pre rv76 hg77
   refine Oc [1,6] ca9 hc78 ?_
   rintro - ⟨he79,he80,he81⟩
   unfold Qaa at he79
   refine QaJ (QcO QkJ rv76.1) fun rv83 hg84=>?_
   have hc85:=QyN QkJ a57 k58 rv76.1 pre pre rv83 hg84
   refine Oc [1] QxV hc85 ?_
   rintro c82 he86
   refine Jo 0 ?_; rintro a87 k88 rfl
   refine Fb 8 0 fun _=>Fo 0 fun ho90=>?_
   refine Oq Va (KS ?_)
   refine Oq Vm (Oq QjU (Oq Va (KS ?_)))
   exact Kg (r75,rv76.2,rv83,(QsM - 1),a87,k88) [0,1,2,2,2,2,2,2] ⟨(q3 hM59 (by simp only [QbN,h73,hg77,hg84,cs4])),aM1,aM1,aM1,aM1,aM1,iv1⟩
  intro h73
  have g91:=df h73
  obtain rfl:r53 = 0:=by omega
  refine Ke ?_
  have hR92:=q2 hM59 (QkO,QkJ) (by simp only [QbN,h73,cs4])
  refine KS ?_
  refine Oq (Vfa QbR 5) (Oq (Qah sh3 5) ?_)
  refine QaJ (QaK (rv4.1 % 5)) fun rv94 hg95=>?_
  have hc96:=QpC ((rv4.1 % 5)) pre pre rv94 hg95
  refine Oc [] QpB hc96 ?_
  rintro c93 ⟨he97,he98,he99⟩
  unfold Qaa at he97
  refine Jo 0 ?_; rintro a100 k101 rfl
  refine Fb 8 0 fun _=>?_
  refine Oa (Al QgU [vi 0,.slice none 0 0]) fun p103=>Ost (Scl [0] Qax [vi rv94.Width,vl a100 k101 rv94.Words]) (KS ?_)
  refine Oq Vm ?_
  refine QaJ (Qan tT QkO 3) fun rv104 hg105=>?_
  have hc106:=fn9 tP ta tk tT QkO 3 pre pre rv104 hg105
  refine Oc [3,8] ca9 hc106 ?_
  rintro - ⟨he107,he108,he109⟩
  unfold Qaa at he107
  refine Oq QbW (KS ?_)
  refine Kc ?_ ?_
  ·intro h110
   have g111:=eq_of_beq h110
   refine KS ?_
   refine Oq Vm (Oq (Vfa QbR 7) (Oq (Qah sh3 7) ?_))
   refine QaJ (Qer tT rv104.2 (rv4.1 % 5)) fun rv113 hg114=>?_
   have hc115:=Qwq tP ta tk tT rv104.2 ((rv4.1 % 5)) pre pre pre rv113 hg114
   refine Oc [0,8] Qwh hc115 ?_
   rintro c112 ⟨he116,he117,he118,he119⟩
   unfold Qaa at he116
   refine Jo 0 ?_; rintro a120 k121 rfl
   refine Fb 8 0 fun _=>?_
   refine Ost (Scl [2] Qax [vi rv113.1.Width,vl a120 k121 rv113.1.Words]) (KS ?_)
   refine Jp 8 fun hp123=>?_
   refine Qam [0,1,0,4,15,0,32,0,128,511,0,1024,0,0,8192,29695,62463,131071,27775,524287,1048575,2097151,4194303,8388607] Qco ?_
   refine Dv [0] (Vfa QbI 0) (Dv [9] (Qah QgG 0) (Dv [] Vm (Dx [] [] [0] (fun G=>(G.g 3 0)) [fun G=>Cr (G.g 3 0) 1 [vl a57 k58 QkJ]] (fun G=>xA (AsV Qfr QrC [vl a57 k58 QkJ] [vl a57 k58 QkJ])) ?_)))
   have hn126:=la QhV ([QkJ]:List (List Int))
   refine Dx [5,8,12] [8,12] [1,0] (fun G=>(G.g 4 0)) [fun G=>os (G.g 4 0) ((QhV ++ [QkJ]):List (List Int))] (fun G=>xp [2,0] rfl (Ent.cr1 (α:=List Int) (A:=[S a57 k58 QkJ]) _ QkJ _ aB1 (fun h=>⟨_,rfl,Qaj (i:=0) rfl h⟩)) (xA (ApO [3,0] Qfr Qfr QrC))) (Dv [0] (Vfa Qc4 0) (Dv [9] (Qah Qjd 0) (Dv [1] (Qau Qax 0) (Dx [] [] [0] (fun G=>(G.g 8 0)) [fun G=>Cr (G.g 8 0) 1 [vi rv113.1.Width,vl a120 k121 rv113.1.Words]] (fun G=>xA (AsV Qc6 Ql4 [.agg #[vi rv113.1.Width,vl a120 k121 rv113.1.Words]] [vi rv113.1.Width,vl a120 k121 rv113.1.Words])) ?_))))
   have hn129:=la Qgp ([rv113.1]:List Qaf)
   refine Dx [2,6,14] [2,6,14] [1,0] (fun G=>(G.g 9 0)) [fun G=>S a120 k121 rv113.1.Words,fun G=>os (G.g 9 0) ((Qgp ++ [rv113.1]):List Qaf)] (fun G=>xp [0] rfl (Ent.freeze _ _) (xp [2,0] rfl (Ent.cr1 (α:=Qaf) (A:=[S a120 k121 rv113.1.Words]) _ rv113.1 _ aB1 (fun h=>⟨_,rfl,aL1,Qaj (i:=0) rfl h⟩)) (xA (ApO [3,0] Qc6 Qc6 Ql4)))) (Dv [0] (Vfa QcW 0) (Dv [9] (Qah QjR 0) (Dv [] Vm (Dv [0] (Vfa QbR 0) (Dv [9] (Qah sh3 0) ?_)))))
   refine QaJ (QdJ tT rv113.2 (rv4.1 % 5)) fun rv133 hg134=>?_
   refine Dx [3,11] [3] [5,0,1,2,3,4] (fun G=>.agg #[vi rv133.1.Gen.Width,(G.g 15 0),vi rv133.1.Kill.Width,(G.g 15 1),(G.g 15 2)]) [fun G=>SP.fact (Qaa rv133.1.Gen.Width /\ Qaa rv133.1.Kill.Width /\ (0 <= rv133.2 /\ rv133.2 <= (tT.length:Int)) /\ (rv133.1.Gen.Width = (rv4.1 % 5)) /\ (rv133.1.Kill.Width = (rv4.1 % 5)) /\ (rv133.1.Copies.length <= 12)),fun G=>sl (G.g 15 0) rv133.1.Gen.Words,fun G=>sl (G.g 15 1) rv133.1.Kill.Words,fun G=>sl (G.g 15 2) rv133.1.Copies,fun G=>Cl tP [vl ta tk tT,vi rv133.2]] (fun G=>xC [0,0] Qy7 (Qzj tP ta tk tT rv113.2 ((rv4.1 % 5)) pre pre pre rv133 hg134)) (Dx [] [] [0] (fun G=>(G.g 16 0)) [fun G=>Cr (G.g 16 0) 1 [vi rv133.1.Gen.Width,(G.g 15 0),vi rv133.1.Kill.Width,(G.g 15 1),(G.g 15 2)]] (fun G=>xA (AsV QiI QsT [.agg #[vi rv133.1.Gen.Width,(G.g 15 0),vi rv133.1.Kill.Width,(G.g 15 1),(G.g 15 2)]] [vi rv133.1.Gen.Width,(G.g 15 0),vi rv133.1.Kill.Width,(G.g 15 1),(G.g 15 2)])) ?_)
   have hn137:=la Qe3 ([rv133.1]:List Qad)
   refine Dx [7,17,18,19,20,22] [7,22] [4,1,2,3,0] (fun G=>(G.g 17 0)) [fun G=>os (G.g 17 0) ((Qe3 ++ [rv133.1]):List Qad)] (fun G=>by refine xf 1 rfl ?_; rintro ⟨he138,he139,he140,he141,he142,he143⟩; unfold Qaa at he138 he139; exact xp [5,2,3,4] rfl (Ent.cr1 (α:=Qad) (A:=[sl (G.g 15 0) rv133.1.Gen.Words,sl (G.g 15 1) rv133.1.Kill.Words,sl (G.g 15 2) rv133.1.Copies]) _ rv133.1 _ aB1 (fun h=>⟨_,_,_,rfl,aL1,Qaj (i:=0) rfl h,aL1,Qaj (i:=1) rfl h,Qaj (i:=2) rfl h⟩)) (xA (ApO [4,0] QiI QiI QsT))) (Dv [0] (Vfa QbI 0) (Dx0 [9,13] [9] [1,0] [fun G=>Cl p10 [vi (rv4.1 % 5),(G.g 4 0),vl a25 k26 Qe3,vl a27 k28 Qgp]] (fun G=>x1 1 rfl Qc0 fun ho144=>(xS (OpS.frame [0] rfl (OpS.storeClF [(G.g 4 0)] [vi (rv4.1 % 5),(G.g 4 0),vl a25 k26 Qe3,vl a27 k28 Qgp] rfl rfl rfl QgG (QaX ho144) rfl (by simp only [List.all_cons,List.all_nil,ho144,Bool.and_true,Bool.true_and] <;> rfl) aB1 rfl)))) (Dv [0] (Vfa Qc4 0) (Dx0 [16,24] [24] [1,0] [fun G=>Cl p10 [vi (rv4.1 % 5),(G.g 4 0),vl a25 k26 Qe3,(G.g 9 0)]] (fun G=>x1 0 rfl Qc0 fun ho145=>(xS (OpS.frame [1] rfl (OpS.storeClF [(G.g 9 0)] [vi (rv4.1 % 5),(G.g 4 0),vl a25 k26 Qe3,(G.g 9 0)] rfl rfl rfl Qjd (QaX ho145) rfl (by simp only [List.all_cons,List.all_nil,ho145,Bool.and_true,Bool.true_and] <;> rfl) aB1 rfl)))) (Dv [0] (Vfa QcW 0) (Dx0 [23,25] [25] [1,0] [fun G=>Cl p10 [vi (rv4.1 % 5),(G.g 4 0),(G.g 17 0),(G.g 9 0)]] (fun G=>x1 0 rfl Qc0 fun ho146=>(xS (OpS.frame [1] rfl (OpS.storeClF [(G.g 17 0)] [vi (rv4.1 % 5),(G.g 4 0),(G.g 17 0),(G.g 9 0)] rfl rfl rfl QjR (QaX ho146) rfl (by simp only [List.all_cons,List.all_nil,ho146,Bool.and_true,Bool.true_and] <;> rfl) aB1 rfl)))) ?_))))))
   refine Dn ⟨by kernel_rfl,fun G=>?_⟩
   refine Jw2 [(0,tP),(4,p3),(5,p10),(1,vi (1 + rv11.1)),(6,vi QiD)] [0,1,4,5,10,11] [os (G.g 4 0) ((QhV ++ [QkJ]):List (List Int)),S a120 k121 rv113.1.Words,os (G.g 9 0) ((Qgp ++ [rv113.1]):List Qaf),SP.fact (Qaa rv133.1.Gen.Width /\ Qaa rv133.1.Kill.Width /\ (0 <= rv133.2 /\ rv133.2 <= (tT.length:Int)) /\ (rv133.1.Gen.Width = (rv4.1 % 5)) /\ (rv133.1.Kill.Width = (rv4.1 % 5)) /\ (rv133.1.Copies.length <= 12)),sl (G.g 15 0) rv133.1.Gen.Words,sl (G.g 15 1) rv133.1.Kill.Words,sl (G.g 15 2) rv133.1.Copies,Cl tP [vl ta tk tT,vi rv133.2],os (G.g 17 0) ((Qe3 ++ [rv133.1]):List Qad),Cl p10 [vi (rv4.1 % 5),(G.g 4 0),(G.g 17 0),(G.g 9 0)]] ?_
   generalize G.g 4 0 = c125,G.g 9 0 = c128,G.g 15 0 = c130,G.g 15 1 = c131,G.g 15 2 = c132,G.g 17 0 = c136
   refine Jf 9 rfl ?_; rintro ⟨he147,he148,he149,he150,he151,he152⟩
   unfold Qaa at he147 he148
   refine Jk [1,1,1,2,2,3,3,4,5,6,7,8,8,8] ?_
   refine Jo 5 ?_; rintro a153 k154 rfl
   refine Fb 24 5 fun _=>?_
   refine Jo 7 ?_; rintro a156 k157 rfl
   refine Fb 32 7 fun _=>?_
   refine Jo 8 ?_; rintro a159 k160 rfl
   refine Fb 8 8 fun _=>?_
   refine Jo 9 ?_; rintro a162 k163 rfl
   refine Fb 8 9 fun _=>?_
   refine Jo 10 ?_; rintro a165 k166 rfl
   refine Fb 16 10 fun _=>?_
   refine Jo 12 ?_; rintro a168 k169 rfl
   refine Fb 88 12 fun _=>KS ?_
   refine Oq Vm (Oq QaS (Oq Va (KS ?_)))
   exact Kg (r46,rv133.2,(QhV ++ [QkJ]),(Qe3 ++ [rv133.1]),(Qgp ++ [rv113.1]),(QiD + 1),a153,k154,a168,k169,a156,k157) [7,11,5,9,9,3,3] ⟨(q3 hM29 (by simp only [Qbm,h44,h73,h110,hg48,hR92,hg95,hg105,hg114,hg134,cs4])),aM1,aM1,aM1,aM1,aM1,aM1,iv1,iv1,iv1⟩
  intro h110
  have g171:=ne_of_beq_false h110
  refine KS ?_
  refine Jp 7 fun hp172=>?_
  refine Qam [0,1,0,4,15,0,32,0,128,511,0,1024,0,0,8192,29695,62463,131071,27775,524287,1048575,2097151,4194303,8388607] Qco ?_
  refine Dv [0] (Vfa QbI 0) (Dv [8] (Qah QgG 0) (Dv [] Vm (Dx [] [] [0] (fun G=>(G.g 3 0)) [fun G=>Cr (G.g 3 0) 1 [vl a57 k58 QkJ]] (fun G=>xA (AsV Qfr QrC [vl a57 k58 QkJ] [vl a57 k58 QkJ])) ?_)))
  have hn175:=la QhV ([QkJ]:List (List Int))
  refine Dx [4,7,11] [7,11] [1,0] (fun G=>(G.g 4 0)) [fun G=>os (G.g 4 0) ((QhV ++ [QkJ]):List (List Int))] (fun G=>xp [2,0] rfl (Ent.cr1 (α:=List Int) (A:=[S a57 k58 QkJ]) _ QkJ _ aB1 (fun h=>⟨_,rfl,Qaj (i:=0) rfl h⟩)) (xA (ApO [3,0] Qfr Qfr QrC))) (Dv [0] (Vfa Qc4 0) (Dv [8] (Qah Qjd 0) (Dv [2] (Qau Qax 0) (Dx [] [] [0] (fun G=>(G.g 8 0)) [fun G=>Cr (G.g 8 0) 1 [vi rv94.Width,vl a100 k101 rv94.Words]] (fun G=>xA (AsV Qc6 Ql4 [.agg #[vi rv94.Width,vl a100 k101 rv94.Words]] [vi rv94.Width,vl a100 k101 rv94.Words])) ?_))))
  have hn178:=la Qgp ([rv94]:List Qaf)
  refine Dx [3,5,13] [3,5,13] [1,0] (fun G=>(G.g 9 0)) [fun G=>S a100 k101 rv94.Words,fun G=>os (G.g 9 0) ((Qgp ++ [rv94]):List Qaf)] (fun G=>xp [0] rfl (Ent.freeze _ _) (xp [2,0] rfl (Ent.cr1 (α:=Qaf) (A:=[S a100 k101 rv94.Words]) _ rv94 _ aB1 (fun h=>⟨_,rfl,aL1,Qaj (i:=0) rfl h⟩)) (xA (ApO [3,0] Qc6 Qc6 Ql4)))) (Dv [0] (Vfa QcW 0) (Dv [8] (Qah QjR 0) (Dv [] Vm (Dv [0] (Vfa QbR 0) (Dv [8] (Qah sh3 0) ?_)))))
  refine QaJ (QdJ tT rv104.2 (rv4.1 % 5)) fun rv182 hg183=>?_
  refine Dx [1,10] [1] [5,0,1,2,3,4] (fun G=>.agg #[vi rv182.1.Gen.Width,(G.g 15 0),vi rv182.1.Kill.Width,(G.g 15 1),(G.g 15 2)]) [fun G=>SP.fact (Qaa rv182.1.Gen.Width /\ Qaa rv182.1.Kill.Width /\ (0 <= rv182.2 /\ rv182.2 <= (tT.length:Int)) /\ (rv182.1.Gen.Width = (rv4.1 % 5)) /\ (rv182.1.Kill.Width = (rv4.1 % 5)) /\ (rv182.1.Copies.length <= 12)),fun G=>sl (G.g 15 0) rv182.1.Gen.Words,fun G=>sl (G.g 15 1) rv182.1.Kill.Words,fun G=>sl (G.g 15 2) rv182.1.Copies,fun G=>Cl tP [vl ta tk tT,vi rv182.2]] (fun G=>xC [0,0] Qy7 (Qzj tP ta tk tT rv104.2 ((rv4.1 % 5)) pre pre pre rv182 hg183)) (Dx [] [] [0] (fun G=>(G.g 16 0)) [fun G=>Cr (G.g 16 0) 1 [vi rv182.1.Gen.Width,(G.g 15 0),vi rv182.1.Kill.Width,(G.g 15 1),(G.g 15 2)]] (fun G=>xA (AsV QiI QsT [.agg #[vi rv182.1.Gen.Width,(G.g 15 0),vi rv182.1.Kill.Width,(G.g 15 1),(G.g 15 2)]] [vi rv182.1.Gen.Width,(G.g 15 0),vi rv182.1.Kill.Width,(G.g 15 1),(G.g 15 2)])) ?_)
  have hn186:=la Qe3 ([rv182.1]:List Qad)
  refine Dx [6,16,17,18,19,21] [6,21] [4,1,2,3,0] (fun G=>(G.g 17 0)) [fun G=>os (G.g 17 0) ((Qe3 ++ [rv182.1]):List Qad)] (fun G=>by refine xf 1 rfl ?_; rintro ⟨he187,he188,he189,he190,he191,he192⟩; unfold Qaa at he187 he188; exact xp [5,2,3,4] rfl (Ent.cr1 (α:=Qad) (A:=[sl (G.g 15 0) rv182.1.Gen.Words,sl (G.g 15 1) rv182.1.Kill.Words,sl (G.g 15 2) rv182.1.Copies]) _ rv182.1 _ aB1 (fun h=>⟨_,_,_,rfl,aL1,Qaj (i:=0) rfl h,aL1,Qaj (i:=1) rfl h,Qaj (i:=2) rfl h⟩)) (xA (ApO [4,0] QiI QiI QsT))) (Dv [0] (Vfa QbI 0) (Dx0 [8,12] [8] [1,0] [fun G=>Cl p10 [vi (rv4.1 % 5),(G.g 4 0),vl a25 k26 Qe3,vl a27 k28 Qgp]] (fun G=>x1 1 rfl Qc0 fun ho193=>(xS (OpS.frame [0] rfl (OpS.storeClF [(G.g 4 0)] [vi (rv4.1 % 5),(G.g 4 0),vl a25 k26 Qe3,vl a27 k28 Qgp] rfl rfl rfl QgG (QaX ho193) rfl (by simp only [List.all_cons,List.all_nil,ho193,Bool.and_true,Bool.true_and] <;> rfl) aB1 rfl)))) (Dv [0] (Vfa Qc4 0) (Dx0 [15,23] [23] [1,0] [fun G=>Cl p10 [vi (rv4.1 % 5),(G.g 4 0),vl a25 k26 Qe3,(G.g 9 0)]] (fun G=>x1 0 rfl Qc0 fun ho194=>(xS (OpS.frame [1] rfl (OpS.storeClF [(G.g 9 0)] [vi (rv4.1 % 5),(G.g 4 0),vl a25 k26 Qe3,(G.g 9 0)] rfl rfl rfl Qjd (QaX ho194) rfl (by simp only [List.all_cons,List.all_nil,ho194,Bool.and_true,Bool.true_and] <;> rfl) aB1 rfl)))) (Dv [0] (Vfa QcW 0) (Dx0 [22,24] [24] [1,0] [fun G=>Cl p10 [vi (rv4.1 % 5),(G.g 4 0),(G.g 17 0),(G.g 9 0)]] (fun G=>x1 0 rfl Qc0 fun ho195=>(xS (OpS.frame [1] rfl (OpS.storeClF [(G.g 17 0)] [vi (rv4.1 % 5),(G.g 4 0),(G.g 17 0),(G.g 9 0)] rfl rfl rfl QjR (QaX ho195) rfl (by simp only [List.all_cons,List.all_nil,ho195,Bool.and_true,Bool.true_and] <;> rfl) aB1 rfl)))) ?_))))))
  refine Dn ⟨by kernel_rfl,fun G=>?_⟩
  refine Jw2 [(0,tP),(4,p3),(5,p10),(1,vi (1 + rv11.1)),(6,vi QiD)] [0,2,4,9,10] [os (G.g 4 0) ((QhV ++ [QkJ]):List (List Int)),S a100 k101 rv94.Words,os (G.g 9 0) ((Qgp ++ [rv94]):List Qaf),SP.fact (Qaa rv182.1.Gen.Width /\ Qaa rv182.1.Kill.Width /\ (0 <= rv182.2 /\ rv182.2 <= (tT.length:Int)) /\ (rv182.1.Gen.Width = (rv4.1 % 5)) /\ (rv182.1.Kill.Width = (rv4.1 % 5)) /\ (rv182.1.Copies.length <= 12)),sl (G.g 15 0) rv182.1.Gen.Words,sl (G.g 15 1) rv182.1.Kill.Words,sl (G.g 15 2) rv182.1.Copies,Cl tP [vl ta tk tT,vi rv182.2],os (G.g 17 0) ((Qe3 ++ [rv182.1]):List Qad),Cl p10 [vi (rv4.1 % 5),(G.g 4 0),(G.g 17 0),(G.g 9 0)]] ?_
  generalize G.g 4 0 = c174,G.g 9 0 = c177,G.g 15 0 = c179,G.g 15 1 = c180,G.g 15 2 = c181,G.g 17 0 = c185
  refine Jf 8 rfl ?_; rintro ⟨he196,he197,he198,he199,he200,he201⟩
  unfold Qaa at he196 he197
  refine Jk [1,1,2,2,3,3,4,5,6,7,8,8,8] ?_
  refine Jo 4 ?_; rintro a202 k203 rfl
  refine Fb 24 4 fun _=>?_
  refine Jo 6 ?_; rintro a205 k206 rfl
  refine Fb 32 6 fun _=>?_
  refine Jo 7 ?_; rintro a208 k209 rfl
  refine Fb 8 7 fun _=>?_
  refine Jo 8 ?_; rintro a211 k212 rfl
  refine Fb 8 8 fun _=>?_
  refine Jo 9 ?_; rintro a214 k215 rfl
  refine Fb 16 9 fun _=>?_
  refine Jo 11 ?_; rintro a217 k218 rfl
  refine Fb 88 11 fun _=>KS ?_
  refine Oq Vm (Oq QaS (Oq Va (KS ?_)))
  exact Kg (r46,rv182.2,(QhV ++ [QkJ]),(Qe3 ++ [rv182.1]),(Qgp ++ [rv94]),(QiD + 1),a202,k203,a217,k218,a205,k206) [6,10,4,8,8,2,2] ⟨(q3 hM29 (by simp only [Qbm,h44,h73,h110,hg48,hR92,hg95,hg105,hg183,cs4])),aM1,aM1,aM1,aM1,aM1,aM1,iv1,iv1,iv1⟩
 intro h44
 have g220:=df h44
 obtain rfl:r17 = 0:=by omega
 refine Ke ?_
 have hR221:=q2 hM29 (QlW,QhV,Qe3,Qgp) (by simp only [Qbm,h44,cs4])
 refine KS ?_
 refine Oq (Qau Qen 4) (Ost (Scl [5] Qen [vi (rv4.1 % 5),vl a23 k24 QhV,vl a25 k26 Qe3,vl a27 k28 Qgp]) (KS ?_))
 refine Jl [3] (Ent.freeze _ _) ?_
 refine Jl [3] (Ent.freeze _ _) ?_
 refine Jl [3] (Ent.freeze _ _) ?_
 have hq:=q4 hrr ((Qac.mk (rv4.1 % 5) QhV Qe3 Qgp),QlW) (by simp only [Qdl,h44,hg5,hg12,hR221,cs4]); subst hq
 exact Kr (vl a23 k24 QhV,vl a25 k26 Qe3,vl a27 k28 Qgp) rfl (.cellN 3 rfl Qen rfl (Qal _ _) rfl .nil) [2,1,0,4] en
end Go.SL.G
