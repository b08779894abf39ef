/- Part 6 of the walks: mirrors, plain laws and walks used by the last text of this claim. -/
import Derived.Test.YtbccjgpbflaibaaGreatW5
import Derived.Test.YtbccjgpbflaibaaGreatProg
set_option linter.unusedVariables false
set_option linter.unusedSimpArgs false
namespace Go.SL.G
open Go Go.SL Go.Proofs
set_option maxHeartbeats 20000000
set_option maxRecDepth 100000
theorem QAy (tP:Value) (ta:Option Addr) (tk:Nat) (tT:List Int) (tI:Int) (f:Qad) (fa1:Option Addr) (fk1:Nat) (fa3:Option Addr) (fk3:Nat) (fa4:Option Addr) (fk4:Nat) (htI:0<=tI/\tI<=(tT.length:Int)) (Qsi:Qaa f.Gen.Width) (Qxt:Qaa f.Kill.Width) (hf:Qz2 f) (rr:Qad×Int) (hrr:QbH tT tI f=rr):FT Tryz.prog 55 #[tP,.agg #[vi f.Gen.Width,vl fa1 fk1 f.Gen.Words,vi f.Kill.Width,vl fa3 fk3 f.Kill.Words,vl fa4 fk4 f.Copies]] [Cl tP [vl ta tk tT,vi tI],S ta tk tT,S fa1 fk1 f.Gen.Words,S fa3 fk3 f.Kill.Words,S fa4 fk4 f.Copies] (fun g:Value×Value×Value=>Qaa rr.1.Gen.Width/\Qaa rr.1.Kill.Width/\(0<=rr.2/\rr.2<=(tT.length:Int))) (fun g=>.agg #[vi rr.1.Gen.Width,g.1,vi rr.1.Kill.Width,g.2.1,g.2.2]) (fun g=>[sl g.1 rr.1.Gen.Words,sl g.2.1 rr.1.Kill.Words,sl g.2.2 rr.1.Copies,Cl tP [vl ta tk tT,vi rr.2]]):=by
 refine FTi Tryz.func55 fun w0 M0 F0=>?_
 unfold Qaa at Qsi Qxt
 refine Fb 8 1 fun _=>Fo 1 fun ho2=>Fb 8 2 fun _=>Fb 8 3 fun _=>Fb 16 4 fun _=>?_
 obtain ⟨⟨hg0,hg1,hg2⟩,⟨hk0,hk1,hk2⟩,hc0⟩:=hf
 refine KS ?_
 refine Oa (Ab [vi f.Gen.Width,vl fa1 fk1 f.Gen.Words,vi f.Kill.Width,vl fa3 fk3 f.Kill.Words,vl fa4 fk4 f.Copies]) fun p6=>Oa (Al QpZ [vi 0,.slice none 0 0,vi 0,.slice none 0 0,.slice none 0 0]) fun p7=>KS ?_
 refine Oq (Qar Qdm 1) (Oa (Al QpZ [vi 0,.slice none 0 0,vi 0,.slice none 0 0,.slice none 0 0]) fun p8=>Ost (Scl [0] Qdm [vi f.Gen.Width,vl fa1 fk1 f.Gen.Words,vi f.Kill.Width,vl fa3 fk3 f.Kill.Words,vl fa4 fk4 f.Copies]) (KS ?_))
 refine Oa (As0 Qhq) fun c9=>?_
 refine Jo 0 ?_; rintro a10 k11 rfl
 refine Oq (Vfa Qcw 3) (Oq (Qai Qi5 3) ?_)
 refine Jl [0] (Ent.crNil (α:=QaB) _) ?_
 refine Oa (Ap0 [0,7] Qhq Qhq QsW) fun c12=>?_
 refine Jo 0 ?_; rintro a13 k14 rfl
 refine Oq (Vfa Qcw 1) (Ost (Qij [1] Qi5 [vi f.Gen.Width,vl fa1 fk1 f.Gen.Words,vi f.Kill.Width,vl fa3 fk3 f.Kill.Words,vl a13 k14 f.Copies]) (KS ?_))
 refine Oq Vm ?_
 refine QaO (Qan tT tI 5) fun rv15 hg16=>?_
 have hc17:=fn9 tP ta tk tT tI 5 pre pre rv15 hg16
 refine Oc [4,4] ca9 hc17 ?_
 rintro - ⟨he18,he19,he20⟩
 unfold Qaa at he18
 refine KS ?_
 refine Oq Qcb (Oq Va (KS ?_))
 refine Kc ?_ ?_
 ·intro h21
  have g22:=eq_of_beq h21
  refine KS ?_
  refine Oq Vm (Oq (Vfa Qdx 4) (Oq (Qml Qaw 4 [vi f.Gen.Width,vl fa1 fk1 f.Gen.Words]) ?_))
  refine QaO (Qcs tT rv15.2 f.Gen) fun rv24 hg25=>?_
  have hc26:=Qy9 tP ta tk tT rv15.2 f.Gen fa1 fk1 pre pre (by first | exact ⟨hg0,hg1,hg2⟩ | exact ⟨hk0,hk1,hk2⟩) rv24 hg25
  refine Oc [0,4,5] Qzz hc26 ?_
  rintro c23 ⟨he27,he28⟩
  unfold Qaa at he27
  refine Jo 0 ?_; rintro a29 k30 rfl
  refine Fb 8 0 fun _=>?_
  refine Oq (Vfa Qdx 2) (Ost (Qij [2] Qaw [vi rv24.1.Width,vl a29 k30 rv24.1.Words,vi f.Kill.Width,vl fa3 fk3 f.Kill.Words,vl a13 k14 f.Copies]) (KS ?_))
  refine Oq (Qar Qdm 0) (Ost (Scl [4] Qdm [vi rv24.1.Width,vl a29 k30 rv24.1.Words,vi f.Kill.Width,vl fa3 fk3 f.Kill.Words,vl a13 k14 f.Copies]) (KS ?_))
  refine Jl [4] (Ent.freeze _ _) ?_
  have hq:=q4 hrr ((Qad.mk rv24.1 f.Kill f.Copies),rv24.2) (by simp only [QbH,h21,hg16,hg25,cs4]); subst hq
  exact Kr (vl a29 k30 rv24.1.Words,vl fa3 fk3 f.Kill.Words,vl a13 k14 f.Copies) rfl (.cellN 1 rfl Qdm rfl (Qak _ _) rfl .nil) [3,8,0,4] en
 intro h21
 have g32:=ne_of_beq_false h21
 refine KS ?_
 refine Oq Qcb (Oq Va (KS ?_))
 refine Kc ?_ ?_
 ·intro h33
  have g34:=eq_of_beq h33
  refine KS ?_
  refine Oq Vm (Oq (Vfa QfD 4) (Oq (Qml Qaw 4 [vi f.Kill.Width,vl fa3 fk3 f.Kill.Words]) ?_))
  refine QaO (Qcs tT rv15.2 f.Kill) fun rv36 hg37=>?_
  have hc38:=Qy9 tP ta tk tT rv15.2 f.Kill fa3 fk3 pre pre (by first | exact ⟨hg0,hg1,hg2⟩ | exact ⟨hk0,hk1,hk2⟩) rv36 hg37
  refine Oc [0,4,6] Qzz hc38 ?_
  rintro c35 ⟨he39,he40⟩
  unfold Qaa at he39
  refine Jo 0 ?_; rintro a41 k42 rfl
  refine Fb 8 0 fun _=>?_
  refine Oq (Vfa QfD 2) (Ost (Qij [2] Qaw [vi f.Gen.Width,vl fa1 fk1 f.Gen.Words,vi rv36.1.Width,vl a41 k42 rv36.1.Words,vl a13 k14 f.Copies]) (KS ?_))
  refine Oq (Qar Qdm 0) (Ost (Scl [4] Qdm [vi f.Gen.Width,vl fa1 fk1 f.Gen.Words,vi rv36.1.Width,vl a41 k42 rv36.1.Words,vl a13 k14 f.Copies]) (KS ?_))
  refine Jl [4] (Ent.freeze _ _) ?_
  have hq:=q4 hrr ((Qad.mk f.Gen rv36.1 f.Copies),rv36.2) (by simp only [QbH,h21,h33,hg16,hg37,cs4]); subst hq
  exact Kr (vl fa1 fk1 f.Gen.Words,vl a41 k42 rv36.1.Words,vl a13 k14 f.Copies) rfl (.cellN 1 rfl Qdm rfl (Qak _ _) rfl .nil) [7,3,0,4] en
 intro h33
 have g44:=ne_of_beq_false h33
 refine KS ?_
 refine Oq Qcb (Oq Va (KS ?_))
 refine Kc ?_ ?_
 ·intro h45
  have g46:=eq_of_beq h45
  refine Jp 1 fun hp47=>?_
  refine Qam [0,1,0,4,12,0,44,108,252,508,1023,2047,4095] QcF ?_
  refine Dv [0] (Vfa Qcw 0) (Dv [2] (Qai Qi5 0) (Dv [] Vm ?_))
  refine QaO (Qan tT rv15.2 9) fun rv48 hg49=>Dx [1,6] [1] [2,0,1] (fun G=>vi rv48.1) [fun G=>SP.fact (Qaa rv48.1/\(0<=rv48.2/\rv48.2<=(tT.length:Int))/\(0<=rv48.1/\(rv48.1 < 9\/rv48.1=0))),fun G=>Cl tP [vl ta tk tT,vi rv48.2]] (fun G=>xC [0,0] ca9 (fn9 tP ta tk tT rv15.2 9 pre pre rv48 hg49)) ?_
  refine Dx [10] [] [0] (fun G=>vi (rv48.1 - 1)) [] (fun G=>by refine xf 0 rfl ?_; rintro ⟨he50,he51,he52⟩; unfold Qaa at he50; exact xV (Qjf)) (Dv [] Vm ?_)
  refine QaO (Qan tT rv48.2 9) fun rv53 hg54=>?_
  refine Dx [6,10,11] [11] [2,3,0,1] (fun G=>vi rv53.1) [fun G=>SP.fact (Qaa rv53.1/\(0<=rv53.2/\rv53.2<=(tT.length:Int))/\(0<=rv53.1/\(rv53.1 < 9\/rv53.1=0))),fun G=>Cl tP [vl ta tk tT,vi rv53.2]] (fun G=>by refine xf 1 rfl ?_; rintro ⟨he55,he56,he57⟩; unfold Qaa at he55; exact xC [2,0] ca9 (fn9 tP ta tk tT rv48.2 9 pre pre rv53 hg54)) ?_
  refine Dx [12] [] [0] (fun G=>vi (rv53.1 - 1)) [] (fun G=>by refine xf 0 rfl ?_; rintro ⟨he58,he59,he60⟩; unfold Qaa at he58; exact xV (Qjf)) (Dv [] (Vbd Qpj [vi (rv48.1 - 1),vi (rv53.1 - 1)]) (Dx [] [] [0] (fun G=>(G.g 9 0)) [fun G=>Cr (G.g 9 0) 1 [vi (rv48.1 - 1),vi (rv53.1 - 1)]] (fun G=>xA (AsV Qhq QsW [.agg #[vi (rv48.1 - 1),vi (rv53.1 - 1)]] [vi (rv48.1 - 1),vi (rv53.1 - 1)])) ?_))
  have hn63:=la f.Copies ([(QaB.mk (rv48.1 - 1) (rv53.1 - 1))]:List QaB)
  refine Dx [3,10,12,14] [3,14] [1,2,0] (fun G=>(G.g 10 0)) [fun G=>os (G.g 10 0) ((f.Copies++[(QaB.mk (rv48.1 - 1) (rv53.1 - 1))]):List QaB)] (fun G=>by refine xf 1 rfl ?_; rintro ⟨he64,he65,he66⟩; unfold Qaa at he64; refine xf 2 rfl ?_; rintro ⟨he67,he68,he69⟩; unfold Qaa at he67; exact xp [3] rfl (Ent.cr1 (α:=QaB) (A:=[]) _ (QaB.mk (rv48.1 - 1) (rv53.1 - 1)) _ aB1 (fun h=>⟨rfl,aL1,aL1⟩)) (xA (ApO [1,0] Qhq Qhq QsW))) (Dv [0] (Vfa Qcw 0) (Dx0 [2,15] [2] [1,0] [fun G=>Cl p8 [vi f.Gen.Width,vl fa1 fk1 f.Gen.Words,vi f.Kill.Width,vl fa3 fk3 f.Kill.Words,(G.g 10 0)]] (fun G=>x1 1 rfl Qcn fun ho70=>(xS (OpS.frame [0] rfl (OpS.storeClF [(G.g 10 0)] [vi f.Gen.Width,vl fa1 fk1 f.Gen.Words,vi f.Kill.Width,vl fa3 fk3 f.Kill.Words,(G.g 10 0)] rfl rfl rfl Qi5 (QaF ho70) rfl (by simp only [List.all_cons,List.all_nil,ho70,Bool.and_true,Bool.true_and] <;> rfl) aB1 rfl)))) ?_))
  refine Dn ⟨by kernel_rfl,fun G=>?_⟩
  refine Jw2 [(4,p7),(5,p8)] [0,4,5,6,7,8,9] [SP.fact (Qaa rv48.1/\(0<=rv48.2/\rv48.2<=(tT.length:Int))/\(0<=rv48.1/\(rv48.1 < 9\/rv48.1=0))),SP.fact (Qaa rv53.1/\(0<=rv53.2/\rv53.2<=(tT.length:Int))/\(0<=rv53.1/\(rv53.1 < 9\/rv53.1=0))),Cl tP [vl ta tk tT,vi rv53.2],os (G.g 10 0) ((f.Copies++[(QaB.mk (rv48.1 - 1) (rv53.1 - 1))]):List QaB),Cl p8 [vi f.Gen.Width,vl fa1 fk1 f.Gen.Words,vi f.Kill.Width,vl fa3 fk3 f.Kill.Words,(G.g 10 0)]] ?_
  generalize G.g 10 0=c62
  refine Jf 7 rfl ?_; rintro ⟨he71,he72,he73⟩
  unfold Qaa at he71
  refine Jf 8 rfl ?_; rintro ⟨he74,he75,he76⟩
  unfold Qaa at he74
  refine Jk [1,1,2,3,4,5,8,8,8] ?_
  refine Jo 7 ?_; rintro a77 k78 rfl
  refine Fb 16 7 fun _=>KS ?_
  refine Oq (Qar Qdm 8) (Ost (Scl [0] Qdm [vi f.Gen.Width,vl fa1 fk1 f.Gen.Words,vi f.Kill.Width,vl fa3 fk3 f.Kill.Words,vl a77 k78 (f.Copies++[(QaB.mk (rv48.1 - 1) (rv53.1 - 1))])]) (KS ?_))
  refine Jl [7] (Ent.freeze _ _) ?_
  have hq:=q4 hrr ((Qad.mk f.Gen f.Kill (f.Copies++[(QaB.mk (rv48.1 - 1) (rv53.1 - 1))])),rv53.2) (by simp only [QbH,h21,h33,h45,hg16,hg49,hg54,cs4]); subst hq
  exact Kr (vl fa1 fk1 f.Gen.Words,vl fa3 fk3 f.Kill.Words,vl a77 k78 (f.Copies++[(QaB.mk (rv48.1 - 1) (rv53.1 - 1))])) rfl (.cellN 1 rfl Qdm rfl (Qak _ _) rfl .nil) [4,5,0,7] en
 intro h45
 have g80:=ne_of_beq_false h45
 refine KS ?_
 refine Oq Qcb (Oq Va (KS ?_))
 refine Kc ?_ ?_
 ·intro h81
  have g82:=eq_of_beq h81
  refine Jp 1 fun hp83=>?_
  refine Qam [0,1,0,4,12,0,35,127,255,511,0,1024,4095,8191,16383] QcF ?_
  refine Dv [] Vm ?_
  refine QaO (Qan tT rv15.2 4) fun rv84 hg85=>?_
  refine Dx [1,6] [1] [2,0,1] (fun G=>vi rv84.1) [fun G=>SP.fact (Qaa rv84.1/\(0<=rv84.2/\rv84.2<=(tT.length:Int))/\(0<=rv84.1/\(rv84.1 < 4\/rv84.1=0))),fun G=>Cl tP [vl ta tk tT,vi rv84.2]] (fun G=>xC [0,0] ca9 (fn9 tP ta tk tT rv15.2 4 pre pre rv84 hg85)) (Dv [5] (Vfa Qdx 0) (Dv [5] (Qoy Qbj 0) (Dv [5] (Qai sh3 0) (Dv [] Vm ?_))))
  refine QaO (Qan tT rv84.2 2) fun rv86 hg87=>?_
  refine Dx [6,10,11] [11] [2,3,0,1] (fun G=>vi rv86.1) [fun G=>SP.fact (Qaa rv86.1/\(0<=rv86.2/\rv86.2<=(tT.length:Int))/\(0<=rv86.1/\(rv86.1 < 2\/rv86.1=0))),fun G=>Cl tP [vl ta tk tT,vi rv86.2]] (fun G=>by refine xf 1 rfl ?_; rintro ⟨he88,he89,he90⟩; unfold Qaa at he88; exact xC [2,0] ca9 (fn9 tP ta tk tT rv84.2 2 pre pre rv86 hg87)) ?_
  refine Dx [12] [] [0] (fun G=>vi (f.Gen.Width - rv86.1)) [] (fun G=>by refine xf 0 rfl ?_; rintro ⟨he91,he92,he93⟩; unfold Qaa at he91; exact xV (Qjf)) (Dv [] (Vbd Qpj [vi rv84.1,vi (f.Gen.Width - rv86.1)]) (Dx [] [] [0] (fun G=>(G.g 9 0)) [fun G=>Cr (G.g 9 0) 1 [vi rv84.1,vi (f.Gen.Width - rv86.1)]] (fun G=>xA (AsV Qhq QsW [.agg #[vi rv84.1,vi (f.Gen.Width - rv86.1)]] [vi rv84.1,vi (f.Gen.Width - rv86.1)])) (Dv [0] (Vfa Qcw 0) (Dv [2] (Qai Qi5 0) ?_))))
  have hn96:([(QaB.mk rv84.1 (f.Gen.Width - rv86.1))]++f.Copies:List QaB).length=1+f.Copies.length:=la ([(QaB.mk rv84.1 (f.Gen.Width - rv86.1))]:List QaB) f.Copies
  refine Dx [3,10,12,14] [3,14] [1,2,0] (fun G=>(G.g 12 0)) [fun G=>os (G.g 12 0) (([(QaB.mk rv84.1 (f.Gen.Width - rv86.1))]++f.Copies):List QaB)] (fun G=>by refine xf 1 rfl ?_; rintro ⟨he97,he98,he99⟩; unfold Qaa at he97; refine xf 2 rfl ?_; rintro ⟨he100,he101,he102⟩; unfold Qaa at he100; exact xp [3] rfl (Ent.cr1 (α:=QaB) (A:=[]) _ (QaB.mk rv84.1 (f.Gen.Width - rv86.1)) _ aB1 (fun h=>⟨rfl,aL1,aL1⟩)) (xA (ApO [0,0] Qhq Qhq QsW))) (Dv [0] (Vfa Qcw 0) (Dx0 [2,15] [2] [1,0] [fun G=>Cl p8 [vi f.Gen.Width,vl fa1 fk1 f.Gen.Words,vi f.Kill.Width,vl fa3 fk3 f.Kill.Words,(G.g 12 0)]] (fun G=>x1 1 rfl Qcn fun ho103=>(xS (OpS.frame [0] rfl (OpS.storeClF [(G.g 12 0)] [vi f.Gen.Width,vl fa1 fk1 f.Gen.Words,vi f.Kill.Width,vl fa3 fk3 f.Kill.Words,(G.g 12 0)] rfl rfl rfl Qi5 (QaF ho103) rfl (by simp only [List.all_cons,List.all_nil,ho103,Bool.and_true,Bool.true_and] <;> rfl) aB1 rfl)))) ?_))
  refine Dn ⟨by kernel_rfl,fun G=>?_⟩
  refine Jw2 [(4,p7),(5,p8)] [0,4,5,6,7,8,9] [SP.fact (Qaa rv84.1/\(0<=rv84.2/\rv84.2<=(tT.length:Int))/\(0<=rv84.1/\(rv84.1 < 4\/rv84.1=0))),SP.fact (Qaa rv86.1/\(0<=rv86.2/\rv86.2<=(tT.length:Int))/\(0<=rv86.1/\(rv86.1 < 2\/rv86.1=0))),Cl tP [vl ta tk tT,vi rv86.2],os (G.g 12 0) (([(QaB.mk rv84.1 (f.Gen.Width - rv86.1))]++f.Copies):List QaB),Cl p8 [vi f.Gen.Width,vl fa1 fk1 f.Gen.Words,vi f.Kill.Width,vl fa3 fk3 f.Kill.Words,(G.g 12 0)]] ?_
  generalize G.g 12 0=c95
  refine Jf 7 rfl ?_; rintro ⟨he104,he105,he106⟩
  unfold Qaa at he104
  refine Jf 8 rfl ?_; rintro ⟨he107,he108,he109⟩
  unfold Qaa at he107
  refine Jk [1,1,2,3,4,5,8,8,8] ?_
  refine Jo 7 ?_; rintro a110 k111 rfl
  refine Fb 16 7 fun _=>KS ?_
  refine Oq (Qar Qdm 8) (Ost (Scl [0] Qdm [vi f.Gen.Width,vl fa1 fk1 f.Gen.Words,vi f.Kill.Width,vl fa3 fk3 f.Kill.Words,vl a110 k111 ([(QaB.mk rv84.1 (f.Gen.Width - rv86.1))]++f.Copies)]) (KS ?_))
  refine Jl [7] (Ent.freeze _ _) ?_
  have hq:=q4 hrr ((Qad.mk f.Gen f.Kill ([(QaB.mk rv84.1 (f.Gen.Width - rv86.1))]++f.Copies)),rv86.2) (by simp only [QbH,h21,h33,h45,h81,hg16,hg85,hg87,cs4]); subst hq
  exact Kr (vl fa1 fk1 f.Gen.Words,vl fa3 fk3 f.Kill.Words,vl a110 k111 ([(QaB.mk rv84.1 (f.Gen.Width - rv86.1))]++f.Copies)) rfl (.cellN 1 rfl Qdm rfl (Qak _ _) rfl .nil) [4,5,0,7] en
 intro h81
 have g113:=ne_of_beq_false h81
 refine KS ?_
 refine Oq (Vfa Qcw 1) (Oq (Qai Qi5 1) (Oq (Qbc Qhq) (Oq QgZ (KS ?_))))
 refine Kc ?_ ?_
 ·intro h114
  have g115:=dt h114
  refine Jp 1 fun hp116=>?_
  refine Qmu (((f.Copies.length:Int) - 1):Int).toNat 3 rfl rng fun hb117 hb118=>?_
  unfold Qaa at hb117 hb118
  refine Qam [0,1,0,4,0,16,48,112,252,508,1020,2047,4095,8191] QcF ?_
  refine Dv [1] (Vfa Qcw 0) (Dv [3] (Qai Qi5 0) (Dv [1] (Vfa Qcw 0) (Dv [3] (Qai Qi5 0) (Dv [1] (Vfa Qcw 0) (Dv [3] (Qai Qi5 0) (Dv [] (Qbc Qhq) (Dv [] Qjf (Dv [0] (Vi Qhq 0) (Dv [0] (Qar QiC 0) ?_)))))))))
  refine Dx [] [] [0] (fun G=>(G.g 10 0)) [fun G=>Cr (G.g 10 0) 1 [vi ((f.Copies.getD (((f.Copies.length:Int) - 1):Int).toNat default).From),vi ((f.Copies.getD (((f.Copies.length:Int) - 1):Int).toNat default).To)]] (fun G=>xA (AsV Qhq QsW [.agg #[vi ((f.Copies.getD (((f.Copies.length:Int) - 1):Int).toNat default).From),vi ((f.Copies.getD (((f.Copies.length:Int) - 1):Int).toNat default).To)]] [vi ((f.Copies.getD (((f.Copies.length:Int) - 1):Int).toNat default).From),vi ((f.Copies.getD (((f.Copies.length:Int) - 1):Int).toNat default).To)])) ?_
  have hn121:=la f.Copies ([(f.Copies.getD (((f.Copies.length:Int) - 1):Int).toNat default)]:List QaB)
  refine Dx [0,10] [0,10] [0] (fun G=>(G.g 11 0)) [fun G=>os (G.g 11 0) ((f.Copies++[(f.Copies.getD (((f.Copies.length:Int) - 1):Int).toNat default)]):List QaB)] (fun G=>xp [0] rfl (Ent.oread _ _ _ _) (xp [1] rfl (Ent.cr1 (α:=QaB) (A:=[]) _ (f.Copies.getD (((f.Copies.length:Int) - 1):Int).toNat default) _ aB1 (fun h=>⟨rfl,aL1,aL1⟩)) (xA (ApO [1,0] Qhq Qhq QsW)))) (Dv [1] (Vfa Qcw 0) (Dx0 [3,11] [3] [1,0] [fun G=>Cl p8 [vi f.Gen.Width,vl fa1 fk1 f.Gen.Words,vi f.Kill.Width,vl fa3 fk3 f.Kill.Words,(G.g 11 0)]] (fun G=>x1 1 rfl Qcn fun ho122=>(xS (OpS.frame [0] rfl (OpS.storeClF [(G.g 11 0)] [vi f.Gen.Width,vl fa1 fk1 f.Gen.Words,vi f.Kill.Width,vl fa3 fk3 f.Kill.Words,(G.g 11 0)] rfl rfl rfl Qi5 (QaF ho122) rfl (by simp only [List.all_cons,List.all_nil,ho122,Bool.and_true,Bool.true_and] <;> rfl) aB1 rfl)))) ?_))
  refine Dn ⟨by kernel_rfl,fun G=>?_⟩
  refine Jw2 [(4,p7),(5,p8)] [1,2,4,5,6,7,8,9] [os (G.g 11 0) ((f.Copies++[(f.Copies.getD (((f.Copies.length:Int) - 1):Int).toNat default)]):List QaB),Cl p8 [vi f.Gen.Width,vl fa1 fk1 f.Gen.Words,vi f.Kill.Width,vl fa3 fk3 f.Kill.Words,(G.g 11 0)]] ?_
  generalize G.g 11 0=c120
  refine Jk [1,1,1,2,3,4,5,6,6] ?_
  refine Jo 7 ?_; rintro a123 k124 rfl
  refine Fb 16 7 fun _=>KS ?_
  refine Oq (Qar Qdm 8) (Ost (Scl [1] Qdm [vi f.Gen.Width,vl fa1 fk1 f.Gen.Words,vi f.Kill.Width,vl fa3 fk3 f.Kill.Words,.slice a123 ((f.Copies++[(f.Copies.getD (((f.Copies.length:Int) - 1):Int).toNat default)]).length) k124]) (KS ?_))
  refine Jl [7] (Ent.freeze _ _) ?_
  have hq:=q4 hrr ((Qad.mk f.Gen f.Kill (f.Copies++[(f.Copies.getD (((f.Copies.length:Int) - 1):Int).toNat default)])),rv15.2) (by simp only [QbH,h21,h33,h45,h81,h114,hg16,cs4]); subst hq
  exact Kr (vl fa1 fk1 f.Gen.Words,vl fa3 fk3 f.Kill.Words,.slice a123 ((f.Copies++[(f.Copies.getD (((f.Copies.length:Int) - 1):Int).toNat default)]).length) k124) rfl (.cellN 1 rfl Qdm rfl (Qak _ _) rfl .nil) [5,6,0,2] en
 intro h114
 have g126:=df h114
 refine KS ?_
 refine Oq (Qar Qdm 1) (Ost (Scl [3] Qdm [vi f.Gen.Width,vl fa1 fk1 f.Gen.Words,vi f.Kill.Width,vl fa3 fk3 f.Kill.Words,vl a13 k14 f.Copies]) (KS ?_))
 refine Jl [3] (Ent.freeze _ _) ?_
 have hq:=q4 hrr (f,rv15.2) (by simp only [QbH,h21,h33,h45,h81,h114,hg16,cs4]); subst hq
 exact Kr (vl fa1 fk1 f.Gen.Words,vl fa3 fk3 f.Kill.Words,vl a13 k14 f.Copies) rfl (.cellN 1 rfl Qdm rfl (Qak _ _) rfl .nil) [6,7,0,2] en
theorem QBB (tP:Value) (ta:Option Addr) (tk:Nat) (tT:List Int) (tI:Int) (s:Qab) (sa1:Option Addr) (sk1:Nat) (sa2:Option Addr) (sk2:Nat) (sa3:Option Addr) (sk3:Nat) (htI:0<=tI/\tI<=(tT.length:Int)) (QcL:Qaa s.Width) (hv:QcT s) (rr:Qab×Int) (hrr:Qcc tT tI s=rr):FT Tryz.prog 23 #[tP,.agg #[vi s.Width,vl sa1 sk1 s.Deps,vl sa2 sk2 s.Transfers,vl sa3 sk3 s.Boundary]] [Cl tP [vl ta tk tT,vi tI],S ta tk tT,S sa1 sk1 s.Deps,S sa2 sk2 s.Transfers,S sa3 sk3 s.Boundary] (fun g:Value×Value×Value=>Qaa rr.1.Width/\(0<=rr.2/\rr.2<=(tT.length:Int))) (fun g=>.agg #[vi rr.1.Width,g.1,g.2.1,g.2.2]) (fun g=>[sl g.1 rr.1.Deps,sl g.2.1 rr.1.Transfers,sl g.2.2 rr.1.Boundary,Cl tP [vl ta tk tT,vi rr.2]]):=by
 refine FTi Tryz.func23 fun w0 M0 F0=>?_
 unfold Qaa at QcL
 refine Fb 8 1 fun _=>Fo 1 fun ho2=>Fb 24 2 fun _=>Fb 88 3 fun _=>Fb 32 4 fun _=>?_
 have hv1:=hv.n
 have hv2:=hv.tl
 have hv3:=hv.bl
 have hv4:=hv.w
 have hv5:=hv.dep_len
 refine KS ?_
 refine Oa (Ab [vi s.Width,vl sa1 sk1 s.Deps,vl sa2 sk2 s.Transfers,vl sa3 sk3 s.Boundary]) fun p6=>Oa (Al QtF [vi 0,.slice none 0 0,.slice none 0 0,.slice none 0 0]) fun p7=>KS ?_
 refine Qam [0,1,0,0,8,28,0,0,128,508,0,0,2048,8188,16383,0,65535] QcF ?_
 refine Dv [1] (Vfa Qb7 0) (Dv [1] (Qai sh3 0) (Dx [] [] [0] (fun G=>(G.g 2 0)) [fun G=>Cr (G.g 2 0) 0 []] (fun G=>xA (As0 QeN)) (Dv [1] (Vfa Qbt 0) (Dv [1] (Qai QfL 0) (Dx [4,7] [7] [1,0] (fun G=>(G.g 5 0)) [fun G=>os (G.g 5 0) s.Deps] (fun G=>xp [1] rfl (Ent.crNil (α:=List Int) _) (xA (Ap0 [0,0] QeN QeN Qra))) (Dx [] [] [0] (fun G=>(G.g 6 0)) [fun G=>Cr (G.g 6 0) 0 []] (fun G=>xA (As0 Qhi)) (Dv [1] (Vfa Qco 0) (Dv [1] (Qai QiS 0) (Dx [5,9] [9] [1,0] (fun G=>(G.g 9 0)) [fun G=>os (G.g 9 0) s.Transfers] (fun G=>xp [1] rfl (Ent.crNil (α:=Qad) _) (xA (Ap0 [0,0] Qhi Qhi Qsf))) ?_)))))))))
 refine Dx [] [] [0] (fun G=>(G.g 10 0)) [fun G=>Cr (G.g 10 0) 0 []] (fun G=>xA (As0 Qd2)) (Dv [1] (Vfa Qc8 0) (Dv [1] (Qai Qjc 0) (Dx [6,11] [11] [1,0] (fun G=>(G.g 13 0)) [fun G=>os (G.g 13 0) s.Boundary] (fun G=>xp [1] rfl (Ent.crNil (α:=Qaf) _) (xA (Ap0 [0,0] Qd2 Qd2 Qob))) ?_)))
 refine Dx [8,10,12] [] [0,0,0] (fun G=>.agg #[vi s.Width,(G.g 5 0),(G.g 9 0),(G.g 13 0)]) [] (fun G=>xV (v:=.agg #[vi s.Width,(G.g 5 0),(G.g 9 0),(G.g 13 0)]) (Vo 0 rfl (Qim _ _) fun aq14 kq15 eq16=>(by rw [eq16]; exact Vo 1 rfl (Qim _ _) fun aq17 kq18 eq19=>(by rw [eq19]; exact Vo 2 rfl (Qim _ _) fun aq20 kq21 eq22=>(by rw [eq22]; exact Vbd QyA [vi s.Width,.slice aq14 ((s.Deps:List (List Int)).length) kq15,.slice aq17 ((s.Transfers:List Qad).length) kq18,.slice aq20 ((s.Boundary:List Qaf).length) kq21]))))) (Dx [] [] [0] (fun G=>(G.g 15 0)) [fun G=>Cl (G.g 15 0) [vi 0,.slice none 0 0,.slice none 0 0,.slice none 0 0]] (fun G=>xA (Al QtF [vi 0,.slice none 0 0,.slice none 0 0,.slice none 0 0])) (Dx0 [8,10,12,13] [13] [1,1,1,0] [fun G=>Cl (G.g 15 0) [vi s.Width,(G.g 5 0),(G.g 9 0),(G.g 13 0)]] (fun G=>x1 0 rfl Qcn fun ho24=>(x1 1 rfl Qcn fun ho25=>(x1 2 rfl Qcn fun ho26=>(xS (Scl [3] Qeh [vi s.Width,(G.g 5 0),(G.g 9 0),(G.g 13 0)] (v:=.agg #[vi s.Width,(G.g 5 0),(G.g 9 0),(G.g 13 0)]) (h1:=show [vi s.Width,(G.g 5 0),(G.g 9 0),(G.g 13 0)].all (·.oneCell')=true from (by simp only [List.all_cons,List.all_nil,ho24,ho25,ho26,Bool.and_true,Bool.true_and] <;> rfl))))))) ?_))
 refine Dn ⟨by kernel_rfl,fun G=>?_⟩
 refine Jw2 [(0,tP),(4,p7),(5,(G.g 15 0))] [0,1,2,3,4,5,6] [os (G.g 5 0) s.Deps,os (G.g 9 0) s.Transfers,os (G.g 13 0) s.Boundary,Cl (G.g 15 0) [vi s.Width,(G.g 5 0),(G.g 9 0),(G.g 13 0)]] ?_
 generalize G.g 5 0=c9,G.g 9 0=c11,G.g 13 0=c13,G.g 15 0=p23
 refine Jo 7 ?_; rintro a27 k28 rfl
 refine Jo 8 ?_; rintro a29 k30 rfl
 refine Jo 9 ?_; rintro a31 k32 rfl
 refine KS ?_
 refine Oq Vm (Oq (Vfa Qbt 10) (Oq (Qai QfL 10) (Oq (Qbc QeN) ?_)))
 refine QaO (Qan tT tI (s.Deps.length:Int)) fun rv33 hg34=>?_
 have hc35:=fn9 tP ta tk tT tI ((s.Deps.length:Int)) pre pre rv33 hg34
 refine Oc [2,2] ca9 hc35 ?_
 rintro - ⟨he36,he37,he38⟩
 unfold Qaa at he36
 refine Oq Va (KS ?_)
 refine Oq Vm ?_
 refine QaO (Qan tT rv33.2 6) fun rv39 hg40=>?_
 have hc41:=fn9 tP ta tk tT rv33.2 6 pre pre rv39 hg40
 refine Oc [0,2] ca9 hc41 ?_
 rintro - ⟨he42,he43,he44⟩
 unfold Qaa at he42
 refine KS ?_
 refine Oq Qcb (Oq Va (KS ?_))
 refine Kc ?_ ?_
 ·intro h45
  have g46:=eq_of_beq h45
  refine KS ?_
  refine Oq (Vfa Qb7 10) (Oq (Qai sh3 10) (Oq QaS (Oq (Vfa Qb7 10) (Ost (Qij [10] sh3 [vi (s.Width+1),vl a27 k28 s.Deps,vl a29 k30 s.Transfers,vl a31 k32 s.Boundary]) (KS ?_)))))
  refine Oq (Qar Qeh 0) (Ost (Scl [2] Qeh [vi (s.Width+1),vl a27 k28 s.Deps,vl a29 k30 s.Transfers,vl a31 k32 s.Boundary]) (KS ?_))
  refine Jl [8] (Ent.freeze _ _) ?_
  refine Jl [9] (Ent.freeze _ _) ?_
  refine Jl [10] (Ent.freeze _ _) ?_
  have hq:=q4 hrr ((Qab.mk (s.Width+1) s.Deps s.Transfers s.Boundary),rv39.2) (by simp only [Qcc,h45,hg34,hg40,cs4]); subst hq
  exact Kr (vl a27 k28 s.Deps,vl a29 k30 s.Transfers,vl a31 k32 s.Boundary) rfl (.cellN 3 rfl Qeh rfl (Qak _ _) rfl .nil) [2,1,0,5] en
 intro h45
 have g47:=ne_of_beq_false h45
 refine KS ?_
 refine Oq Qcb (Oq Va (KS ?_))
 refine Kc ?_ ?_
 ·intro h48
  have g49:=eq_of_beq h48
  refine Jp 10 fun hp50=>?_
  refine QlY rv33.1.toNat 8 rfl rng fun a51 k52=>?_
  refine Fb 8 1 fun _=>Fo 1 fun ho54=>?_
  refine Qam [0,1,0,0,0,16,0,112,240,504,0,0,2048,6144,14336,32760,65528,131064,262136,524287,1048575] QcF ?_
  refine Dv [2] (Vfa Qbt 0) (Dv [12] (Qai QfL 0) (Dv [] Vm (Dx [] [] [0] (fun G=>(G.g 3 0)) [fun G=>Cr (G.g 3 0) 0 []] (fun G=>xA (As0 QcP)) (Dv [2] (Vfa Qbt 0) (Dv [12] (Qai QfL 0) (Dv [] Vm (Dv [0] (Vi QeN 0) (Dv [0] (Vld Qjs 0) (Dx [1,13] [13] [1,0] (fun G=>(G.g 9 0)) [fun G=>os (G.g 9 0) ((s.Deps.getD rv33.1.toNat []):List Int)] (fun G=>xp [1] rfl (Ent.crNil (α:=Int) _) (xA (Ap0 [0,0] QcP QcP QmX (hlen:=(by first | exact hv.app_bd (by simp) | exact hv.app_bd0))))) ?_)))))))))
  refine Dv [] Vm (Dv [2] (Vfa Qbt 0) (Dv [12] (Qai QfL 0) (Dv [] (Qbc QeN) (Dv [] QaS ?_))))
  refine QaO (Qan tT rv39.2 ((s.Deps.length:Int)+2)) fun rv57 hg58=>Dx [3,6] [3] [2,0,1] (fun G=>vi rv57.1) [fun G=>SP.fact (Qaa rv57.1/\(0<=rv57.2/\rv57.2<=(tT.length:Int))/\(0<=rv57.1/\(rv57.1 < ((s.Deps.length:Int)+2)\/rv57.1=0))),fun G=>Cl tP [vl ta tk tT,vi rv57.2]] (fun G=>xC [0,0] ca9 (fn9 tP ta tk tT rv39.2 (((s.Deps.length:Int)+2)) pre pre rv57 hg58)) ?_
  refine Dx [15] [] [0] (fun G=>vi (rv57.1 - 1)) [] (fun G=>by refine xf 0 rfl ?_; rintro ⟨he59,he60,he61⟩; unfold Qaa at he59; exact xV (Qjf)) (Dx [] [] [0] (fun G=>(G.g 17 0)) [fun G=>Cr (G.g 17 0) 1 [vi (rv57.1 - 1)]] (fun G=>xA (AsV QcP QmX [vi (rv57.1 - 1)] [vi (rv57.1 - 1)])) ?_)
  have hn64:=la ((s.Deps.getD rv33.1.toNat []):List Int) ([(rv57.1 - 1)]:List Int)
  refine Dx [14,15,17] [14,17] [1,0] (fun G=>(G.g 18 0)) [fun G=>os (G.g 18 0) (((s.Deps.getD rv33.1.toNat [])++[(rv57.1 - 1)]):List Int)] (fun G=>by refine xf 1 rfl ?_; rintro ⟨he65,he66,he67⟩; unfold Qaa at he65; exact xp [2] rfl (Ent.crInt _ [(rv57.1 - 1)] _ _ rfl rfl (by intro x hx; rw [List.mem_singleton] at hx; subst hx; unfold Qaa; omega) aB1) (xA (ApO [1,0] QcP QcP QmX (hlen:=(by first | exact hv.app_bd (by simp) | exact hv.app_bd0))))) (Dv [0] (Vi QeN 0) ?_)
  refine Dx0 [0,15,18] [0,18] [3,1,0] [fun G=>sl (G.g 18 0) (((s.Deps.getD rv33.1.toNat [])++[(rv57.1 - 1)]):List Int),fun G=>os (vl a27 k28 s.Deps) ((s.Deps.set rv33.1.toNat ((s.Deps.getD rv33.1.toNat [])++[(rv57.1 - 1)])):List (List Int))] (fun G=>by refine xf 1 rfl ?_; rintro ⟨he68,he69,he70⟩; unfold Qaa at he68; exact xp [0] rfl (Ent.oread _ _ _ _) (xp [2] rfl (Ent.freeze _ _) (x1 0 rfl QjQ fun ho71=>(xS (OpS.frame [1,0] rfl (OpS.storeOs' (Rs:=[sl (G.g 18 0) (((s.Deps.getD rv33.1.toNat [])++[(rv57.1 - 1)]):List Int)]) ((s.Deps.getD rv33.1.toNat [])++[(rv57.1 - 1)]) [(G.g 18 0)] rfl rfl rfl Qjs (QaF ho71) rfl (fun h=>⟨_,rfl,Qaj (i:=0) rfl h⟩) rng)))))) ?_
  refine Dn ⟨by kernel_rfl,fun G=>?_⟩
  refine Jw2 [(4,p7),(5,p23)] [1,2,4,5,6,7,8,9,10,11,12] [SP.fact (Qaa rv57.1/\(0<=rv57.2/\rv57.2<=(tT.length:Int))/\(0<=rv57.1/\(rv57.1 < ((s.Deps.length:Int)+2)\/rv57.1=0))),Cl tP [vl ta tk tT,vi rv57.2],sl (G.g 18 0) (((s.Deps.getD rv33.1.toNat [])++[(rv57.1 - 1)]):List Int),os (vl a27 k28 s.Deps) ((s.Deps.set rv33.1.toNat ((s.Deps.getD rv33.1.toNat [])++[(rv57.1 - 1)])):List (List Int))] ?_
  generalize G.g 18 0=c63
  refine Jf 11 rfl ?_; rintro ⟨he72,he73,he74⟩
  unfold Qaa at he72
  refine Jk [0,2,2,3,4,5,6,7,7,7,8,8,9] ?_
  refine Jo 11 ?_; rintro a75 k76 rfl
  refine Fb 8 11 fun _=>Fo 11 fun ho78=>KS ?_
  refine Oq (Qar Qeh 9) (Ost (Scl [1] Qeh [vi s.Width,vl a27 k28 s.Deps,vl a29 k30 s.Transfers,vl a31 k32 s.Boundary]) (KS ?_))
  refine Jl [12] (Ent.freeze _ _) ?_
  refine Jl [8] (Ent.freeze _ _) ?_
  refine Jl [9] (Ent.freeze _ _) ?_
  have hq:=q4 hrr ((Qab.mk s.Width (s.Deps.set rv33.1.toNat ((s.Deps.getD rv33.1.toNat [])++[(rv57.1 - 1)])) s.Transfers s.Boundary),rv57.2) (by simp only [Qcc,h45,h48,hg34,hg40,hg58,cs4]); subst hq
  exact Kr (vl a27 k28 s.Deps,vl a29 k30 s.Transfers,vl a31 k32 s.Boundary) rfl (.cellN 3 rfl Qeh rfl (Qak _ _) rfl .nil) [2,1,0,11] en
 intro h48
 have g79:=ne_of_beq_false h48
 refine KS ?_
 refine Oq Qcb (Oq Va (KS ?_))
 refine Kc ?_ ?_
 ·intro h80
  have g81:=eq_of_beq h80
  refine Jp 10 fun hp82=>?_
  refine Qg0 rv33.1.toNat 9 rfl rng fun a83 k84 a85 k86 a87 k88 hb89 hb90=>?_
  unfold Qaa at hb89 hb90
  refine Fb 8 1 fun _=>Fb 8 2 fun _=>Fb 16 3 fun _=>?_
  refine Qam [0,1,0,0,0,16,0,112,240,504,1023,2047] QcF ?_
  refine Dv [4] (Vfa Qco 0) (Dv [14] (Qai QiS 0) (Dv [] Vm (Dv [] Vm (Dv [4] (Vfa Qco 0) (Dv [14] (Qai QiS 0) (Dv [] Vm (Dv [0] (Vi Qhi 0) (Dv [0] (Qar Qdm 0) ?_))))))))
  refine QaO (QbH tT rv39.2 (s.Transfers.getD rv33.1.toNat default)) fun rv97 hg98=>?_
  refine Dx [1,2,3,5,8] [5] [5,6,7,8,0,1,2,3,4] (fun G=>.agg #[vi rv97.1.Gen.Width,(G.g 9 0),vi rv97.1.Kill.Width,(G.g 9 1),(G.g 9 2)]) [fun G=>SP.fact (Qaa rv97.1.Gen.Width/\Qaa rv97.1.Kill.Width/\(0<=rv97.2/\rv97.2<=(tT.length:Int))),fun G=>sl (G.g 9 0) rv97.1.Gen.Words,fun G=>sl (G.g 9 1) rv97.1.Kill.Words,fun G=>sl (G.g 9 2) rv97.1.Copies,fun G=>Cl tP [vl ta tk tT,vi rv97.2]] (fun G=>xC [3,3,0,1,2] QBC (QAy tP ta tk tT rv39.2 ((s.Transfers.getD rv33.1.toNat default)) a83 k84 a85 k86 a87 k88 pre pre pre (by refine hv.tr_ok ?_; (try rw [List.nil_append]); exact QaA (by first | omega | (simp only [List.length_append,List.length_nil]; omega))) rv97 hg98)) (Dv [0] (Vi Qhi 0) ?_)
  refine Dx0 [0,15,16,17,18] [0] [4,1,2,3,0] [fun G=>os (vl a29 k30 s.Transfers) (s.Transfers.set rv33.1.toNat rv97.1)] (fun G=>by refine xf 1 rfl ?_; rintro ⟨he99,he100,he101⟩; unfold Qaa at he99 he100; exact xp [0] rfl (Ent.oread _ _ _ _) (xS (So (Rs:=[sl (G.g 9 0) rv97.1.Gen.Words,sl (G.g 9 1) rv97.1.Kill.Words,sl (G.g 9 2) rv97.1.Copies]) [0,1,2,3] Qdm rv97.1 (fun h=>⟨_,_,_,rfl,aL1,Qaj (i:=0) rfl h,aL1,Qaj (i:=1) rfl h,Qaj (i:=2) rfl h⟩)))) ?_
  refine Dn ⟨by kernel_rfl,fun G=>?_⟩
  refine Jw2 [(4,p7),(5,p23)] [1,2,3,4,6,7,8,9,10,11,12,13,14] [SP.fact (Qaa rv97.1.Gen.Width/\Qaa rv97.1.Kill.Width/\(0<=rv97.2/\rv97.2<=(tT.length:Int))),sl (G.g 9 0) rv97.1.Gen.Words,sl (G.g 9 1) rv97.1.Kill.Words,sl (G.g 9 2) rv97.1.Copies,Cl tP [vl ta tk tT,vi rv97.2],os (vl a29 k30 s.Transfers) (s.Transfers.set rv33.1.toNat rv97.1)] ?_
  generalize G.g 9 0=c94,G.g 9 1=c95,G.g 9 2=c96
  refine Jf 13 rfl ?_; rintro ⟨he102,he103,he104⟩
  unfold Qaa at he102 he103
  refine Jk [0,1,2,4,4,5,6,7,8,9,9,9,10,11,12,13,13] ?_
  refine Jo 12 ?_; rintro a105 k106 rfl
  refine Fb 8 12 fun _=>?_
  refine Jo 13 ?_; rintro a108 k109 rfl
  refine Fb 8 13 fun _=>?_
  refine Jo 14 ?_; rintro a111 k112 rfl
  refine Fb 16 14 fun _=>KS ?_
  refine Oq (Qar Qeh 11) (Ost (Scl [3] Qeh [vi s.Width,vl a27 k28 s.Deps,vl a29 k30 s.Transfers,vl a31 k32 s.Boundary]) (KS ?_))
  refine Jl [9] (Ent.freeze _ _) ?_
  refine Jl [16] (Ent.freeze _ _) ?_
  refine Jl [11] (Ent.freeze _ _) ?_
  have hq:=q4 hrr ((Qab.mk s.Width s.Deps (s.Transfers.set rv33.1.toNat rv97.1) s.Boundary),rv97.2) (by simp only [Qcc,h45,h48,h80,hg34,hg40,hg98,cs4]); subst hq
  exact Kr (vl a27 k28 s.Deps,vl a29 k30 s.Transfers,vl a31 k32 s.Boundary) rfl (.cellN 3 rfl Qeh rfl (Qak _ _) rfl .nil) [2,1,0,16] en
 intro h80
 have g114:=ne_of_beq_false h80
 refine KS ?_
 refine Oq Qcb (Oq Va (KS ?_))
 refine Kc ?_ ?_
 ·intro h115
  have g116:=eq_of_beq h115
  refine Jp 10 fun hp117=>?_
  refine Qny rv33.1.toNat 10 rfl rng fun a118 k119 hb120=>?_
  unfold Qaa at hb120
  refine Fb 8 1 fun _=>?_
  refine Qam [0,1,0,0,0,16,0,112,240,504,1023,2047] QcF ?_
  refine Dv [2] (Vfa Qc8 0) (Dv [12] (Qai Qjc 0) (Dv [] Vm (Dv [] Vm (Dv [2] (Vfa Qc8 0) (Dv [12] (Qai Qjc 0) (Dv [] Vm (Dv [0] (Vi Qd2 0) (Dv [0] (Qar Qaw 0) ?_))))))))
  refine QaO (Qcs tT rv39.2 (s.Boundary.getD rv33.1.toNat default)) fun rv123 hg124=>?_
  refine Dx [1,3,6] [3] [3,4,0,1,2] (fun G=>.agg #[vi rv123.1.Width,(G.g 9 0)]) [fun G=>SP.fact (Qaa rv123.1.Width/\(0<=rv123.2/\rv123.2<=(tT.length:Int))),fun G=>sl (G.g 9 0) rv123.1.Words,fun G=>Cl tP [vl ta tk tT,vi rv123.2]] (fun G=>xC [1,1,0] Qzz (Qy9 tP ta tk tT rv39.2 ((s.Boundary.getD rv33.1.toNat default)) a118 k119 pre pre (by refine hv.bd_ok ?_; (try rw [List.nil_append]); exact QaA (by first | omega | (simp only [List.length_append,List.length_nil]; omega))) rv123 hg124)) (Dv [0] (Vi Qd2 0) ?_)
  refine Dx0 [0,13,14] [0] [2,1,0] [fun G=>os (vl a31 k32 s.Boundary) (s.Boundary.set rv33.1.toNat rv123.1)] (fun G=>by refine xf 1 rfl ?_; rintro ⟨he125,he126⟩; unfold Qaa at he125; exact xp [0] rfl (Ent.oread _ _ _ _) (xS (So (Rs:=[sl (G.g 9 0) rv123.1.Words]) [0,1] Qaw rv123.1 (fun h=>⟨_,rfl,aL1,Qaj (i:=0) rfl h⟩)))) ?_
  refine Dn ⟨by kernel_rfl,fun G=>?_⟩
  refine Jw2 [(4,p7),(5,p23)] [1,2,4,5,6,7,8,9,10,11,12] [SP.fact (Qaa rv123.1.Width/\(0<=rv123.2/\rv123.2<=(tT.length:Int))),sl (G.g 9 0) rv123.1.Words,Cl tP [vl ta tk tT,vi rv123.2],os (vl a31 k32 s.Boundary) (s.Boundary.set rv33.1.toNat rv123.1)] ?_
  generalize G.g 9 0=c122
  refine Jf 11 rfl ?_; rintro ⟨he127,he128⟩
  unfold Qaa at he127
  refine Jk [0,2,2,3,4,5,6,7,7,7,8,9,9] ?_
  refine Jo 10 ?_; rintro a129 k130 rfl
  refine Fb 8 10 fun _=>KS ?_
  refine Oq (Qar Qeh 9) (Ost (Scl [1] Qeh [vi s.Width,vl a27 k28 s.Deps,vl a29 k30 s.Transfers,vl a31 k32 s.Boundary]) (KS ?_))
  refine Jl [7] (Ent.freeze _ _) ?_
  refine Jl [8] (Ent.freeze _ _) ?_
  refine Jl [12] (Ent.freeze _ _) ?_
  have hq:=q4 hrr ((Qab.mk s.Width s.Deps s.Transfers (s.Boundary.set rv33.1.toNat rv123.1)),rv123.2) (by simp only [Qcc,h45,h48,h80,h115,hg34,hg40,hg124,cs4]); subst hq
  exact Kr (vl a27 k28 s.Deps,vl a29 k30 s.Transfers,vl a31 k32 s.Boundary) rfl (.cellN 3 rfl Qeh rfl (Qak _ _) rfl .nil) [2,1,0,12] en
 intro h115
 have g132:=ne_of_beq_false h115
 refine KS ?_
 refine Oq Qcb (Oq Va (KS ?_))
 refine Kc ?_ ?_
 ·intro h133
  have g134:=eq_of_beq h133
  refine KS ?_
  refine Oq (Vfa Qbt 10) (Oq (Qai QfL 10) (Oa (QAq [7] QeN ((1:Int).toNat) s.Deps.length) fun c135=>?_))
  refine Jo 0 ?_; rintro a136 k137 rfl
  refine Fb 24 0 fun _=>?_
  have hn139:((s.Deps.take s.Deps.length).drop ((1:Int).toNat)).length=s.Deps.length - ((1:Int).toNat):=Qhu rng rng
  refine Oq (Vfa Qbt 10) (Ost (Qij [10] QfL [vi s.Width,vl a136 k137 ((s.Deps.take s.Deps.length).drop ((1:Int).toNat)),vl a29 k30 s.Transfers,vl a31 k32 s.Boundary]) (KS ?_))
  refine Oq (Qar Qeh 0) (Ost (Scl [3] Qeh [vi s.Width,vl a136 k137 ((s.Deps.take s.Deps.length).drop ((1:Int).toNat)),vl a29 k30 s.Transfers,vl a31 k32 s.Boundary]) (KS ?_))
  refine Jl [2] (Ent.freeze _ _) ?_
  refine Jl [9] (Ent.freeze _ _) ?_
  refine Jl [10] (Ent.freeze _ _) ?_
  have hq:=q4 hrr ((Qab.mk s.Width ((s.Deps.take s.Deps.length).drop ((1:Int).toNat)) s.Transfers s.Boundary),rv39.2) (by simp only [Qcc,h45,h48,h80,h115,h133,hg34,hg40,cs4]); subst hq
  exact Kr (vl a136 k137 ((s.Deps.take s.Deps.length).drop ((1:Int).toNat)),vl a29 k30 s.Transfers,vl a31 k32 s.Boundary) rfl (.cellN 3 rfl Qeh rfl (Qak _ _) rfl .nil) [2,1,0,5] en
 intro h133
 have g140:=ne_of_beq_false h133
 refine Jp 10 fun hp141=>?_
 refine Qg0 (0:Int).toNat 9 rfl rng fun a142 k143 a144 k145 a146 k147 hb148 hb149=>?_
 unfold Qaa at hb148 hb149
 refine Fb 8 1 fun _=>Fb 8 2 fun _=>Fb 16 3 fun _=>?_
 refine Qam [0,1,0,4,12,28,60,127,255,511] QcF ?_
 refine Dv [4] (Vfa Qco 0) (Dv [14] (Qai QiS 0) (Dv [4] (Vfa Qco 0) (Dv [14] (Qai QiS 0) (Dv [0] (Vi Qhi 0) (Dv [0] (Qar Qdm 0) (Dx [] [] [0] (fun G=>(G.g 6 0)) [fun G=>Cr (G.g 6 0) 1 [vi (((s.Transfers.getD (0:Int).toNat default).Gen).Width),vl a142 k143 (((s.Transfers.getD (0:Int).toNat default).Gen).Words),vi (((s.Transfers.getD (0:Int).toNat default).Kill).Width),vl a144 k145 (((s.Transfers.getD (0:Int).toNat default).Kill).Words),vl a146 k147 ((s.Transfers.getD (0:Int).toNat default).Copies)]] (fun G=>xA (AsV Qhi Qsf [.agg #[vi (((s.Transfers.getD (0:Int).toNat default).Gen).Width),vl a142 k143 (((s.Transfers.getD (0:Int).toNat default).Gen).Words),vi (((s.Transfers.getD (0:Int).toNat default).Kill).Width),vl a144 k145 (((s.Transfers.getD (0:Int).toNat default).Kill).Words),vl a146 k147 ((s.Transfers.getD (0:Int).toNat default).Copies)]] [vi (((s.Transfers.getD (0:Int).toNat default).Gen).Width),vl a142 k143 (((s.Transfers.getD (0:Int).toNat default).Gen).Words),vi (((s.Transfers.getD (0:Int).toNat default).Kill).Width),vl a144 k145 (((s.Transfers.getD (0:Int).toNat default).Kill).Words),vl a146 k147 ((s.Transfers.getD (0:Int).toNat default).Copies)])) ?_))))))
 have hn155:=la s.Transfers ([(s.Transfers.getD (0:Int).toNat default)]:List Qad)
 refine Dx [0,1,2,3,15] [0,15] [1,2,3,0] (fun G=>(G.g 7 0)) [fun G=>os (G.g 7 0) ((s.Transfers++[(s.Transfers.getD (0:Int).toNat default)]):List Qad)] (fun G=>xp [0] rfl (Ent.oread _ _ _ _) (xp [4,1,2,3] rfl (Ent.cr1 (α:=Qad) (A:=[S a142 k143 (((s.Transfers.getD (0:Int).toNat default).Gen).Words),S a144 k145 (((s.Transfers.getD (0:Int).toNat default).Kill).Words),S a146 k147 ((s.Transfers.getD (0:Int).toNat default).Copies)]) _ (s.Transfers.getD (0:Int).toNat default) _ aB1 (fun h=>⟨_,_,_,rfl,aL1,Qaj (i:=0) rfl h,aL1,Qaj (i:=1) rfl h,Qaj (i:=2) rfl h⟩)) (xA (ApO [4,0] Qhi Qhi Qsf)))) (Dv [4] (Vfa Qco 0) (Dx0 [14,16] [14] [1,0] [fun G=>Cl p23 [vi s.Width,vl a27 k28 s.Deps,(G.g 7 0),vl a31 k32 s.Boundary]] (fun G=>x1 1 rfl Qcn fun ho156=>(xS (OpS.frame [0] rfl (OpS.storeClF [(G.g 7 0)] [vi s.Width,vl a27 k28 s.Deps,(G.g 7 0),vl a31 k32 s.Boundary] rfl rfl rfl QiS (QaF ho156) rfl (by simp only [List.all_cons,List.all_nil,ho156,Bool.and_true,Bool.true_and] <;> rfl) aB1 rfl)))) ?_))
 refine Dn ⟨by kernel_rfl,fun G=>?_⟩
 refine Jw2 [(4,p7),(5,p23)] [1,2,3,4,5,6,7,8,9,10,11,12,13] [os (G.g 7 0) ((s.Transfers++[(s.Transfers.getD (0:Int).toNat default)]):List Qad),Cl p23 [vi s.Width,vl a27 k28 s.Deps,(G.g 7 0),vl a31 k32 s.Boundary]] ?_
 generalize G.g 7 0=c154
 refine Jk [0,1,2,4,4,4,5,6,7,8,9,9,9,9] ?_
 refine Jo 12 ?_; rintro a157 k158 rfl
 refine Fb 88 12 fun _=>KS ?_
 refine Oq (Qar Qeh 13) (Ost (Scl [4] Qeh [vi s.Width,vl a27 k28 s.Deps,vl a157 k158 (s.Transfers++[(s.Transfers.getD (0:Int).toNat default)]),vl a31 k32 s.Boundary]) (KS ?_))
 refine Jl [10] (Ent.freeze _ _) ?_
 refine Jl [12] (Ent.freeze _ _) ?_
 refine Jl [12] (Ent.freeze _ _) ?_
 have hq:=q4 hrr ((Qab.mk s.Width s.Deps (s.Transfers++[(s.Transfers.getD (0:Int).toNat default)]) s.Boundary),rv39.2) (by simp only [Qcc,h45,h48,h80,h115,h133,hg34,hg40,cs4]); subst hq
 exact Kr (vl a27 k28 s.Deps,vl a157 k158 (s.Transfers++[(s.Transfers.getD (0:Int).toNat default)]),vl a31 k32 s.Boundary) rfl (.cellN 3 rfl Qeh rfl (Qak _ _) rfl .nil) [2,1,0,7] en
theorem fn7 (l:List Int) (la0:Option Addr) (lk0:Nat) (rr:Unit) (hrr:QsM l=rr):FT Tryz.prog 7 #[vl la0 lk0 l] [S la0 lk0 l] (fun g:Value=>True) (fun g=>g) (fun g=>[Cl g [vl la0 lk0 l,vi 0]]):=by
 refine FTi Tryz.func7 fun w0 M0 F0=>Fb 8 0 fun _=>Fo 0 fun ho2=>?_
 refine KS ?_
 refine Oq Va (KS ?_)
 refine Oq Vm (Oq (Vbd QAR [vl la0 lk0 l,vi 0]) (Oa (AbO [vl la0 lk0 l,vi 0]) fun p3=>Oq Va (KS ?_)))
 have hq:=q4 hrr () (by simp only [QsM,cs4]); subst hq
 exact Kr p3 rfl (.tmp rfl .nil) [0] trivial
theorem QBL (tP:Value) (ta:Option Addr) (tk:Nat) (tT:List Int) (tI:Int) (width:Int) (htI:0<=tI/\tI<=(tT.length:Int)) (QbJ:Qaa width) (hw0:0<=width/\width<=1000) (rr:Qaf×Int) (hrr:QmP tT tI width=rr):FT Tryz.prog 13 #[tP,vi width] [Cl tP [vl ta tk tT,vi tI],S ta tk tT] (fun g:Value=>Qaa rr.1.Width/\(0<=rr.2/\rr.2<=(tT.length:Int))/\(rr.1.Width=width)/\(rr.1.Words.length=(((width:Int)+63) / 64).toNat)) (fun g=>.agg #[vi rr.1.Width,g]) (fun g=>[os g rr.1.Words,Cl tP [vl ta tk tT,vi rr.2]]):=by
 refine FTi Tryz.func13 fun w0 M0 F0=>?_
 unfold Qaa at QbJ
 refine Fb 8 1 fun _=>Fo 1 fun ho2=>KS ?_
 refine Oa (Al Qhj [vi 0,.slice none 0 0]) fun p3=>KS ?_
 refine Oq Vm ?_
 refine QaO (QaD width) fun rv5 hg6=>?_
 have hc7:=QpO width pre pre rv5 hg6
 refine Oc [] Qp0 hc7 ?_
 rintro c4 ⟨he8,he9,he10⟩
 unfold Qaa at he8
 refine Jo 0 ?_; rintro a11 k12 rfl
 refine Fb 8 0 fun _=>?_
 refine Oa (Al Qhj [vi 0,.slice none 0 0]) fun p14=>Ost (Scl [0] Qaw [vi rv5.Width,vl a11 k12 rv5.Words]) (KS ?_)
 refine Oq Va (KS ?_)
 refine Kl (γ:=Nat×Int×Int×List (BitVec 64)×Int×Option Addr×Nat) (fun (r15,Qmi,Qkh,Qk7,QqF,a20,k21)=>⟨[(0,tP),(1,vi width),(4,p3),(5,p14),(6,vi QqF)],[O a20 k21 Qk7,Cl p14 [vi Qkh,vl a20 k21 Qk7],Cl p3 [vi 0,.slice none 0 0],Cl tP [vl ta tk tT,vi Qmi],S ta tk tT],Qd7 tT r15 Qmi Qkh Qk7 QqF=Qd7 tT (((width:Int) - 0).toNat) tI rv5.Width rv5.Words 0/\r15=((width:Int) - QqF).toNat/\(0:Int)<=QqF/\(QqF<=width\/QqF=0)/\(-9223372036854775808<=Qmi/\Qmi<=9223372036854775807)/\(0<=Qmi/\Qmi<=(tT.length:Int))/\(-9223372036854775808<=Qkh/\Qkh<=9223372036854775807)/\(-9223372036854775808<=QqF/\QqF<=9223372036854775807)/\Qkh=width/\Qk7.length=(((width:Int)+63) / 64).toNat,r15⟩) (((width:Int) - 0).toNat,tI,rv5.Width,rv5.Words,0,a11,k12) [1,0,0,0,0] ⟨rfl,rfl,aM1,(.inr rfl),aM1,aM1,aM1,aM1,iv0,iv0⟩ ?_
 rintro ⟨r15,Qmi,Qkh,Qk7,QqF,a20,k21⟩ ⟨hM22,hr23,hi24,hi25,hk26,ht27,hk28,hk29,hv30,hv31⟩
 refine QaE fun _ _ hL hA=>?_; dsimp only at hL hA; subst hL hA
 refine Fb 8 0 fun _=>Fb 8 4 fun _=>Fo 4 fun ho34=>KS ?_
 refine Oq Vm (Oq Vm (Oq Qbo (KS ?_)))
 refine Kc ?_ ?_
 ·intro h35
  have g36:=dt h35
  obtain ⟨r37,rfl⟩:=scc (n:=r15) aM1
  refine KS ?_
  refine Oq Vm ?_
  refine QaO (Qan tT Qmi 3) fun rv38 hg39=>?_
  have hc40:=fn9 tP ta tk tT Qmi 3 pre pre rv38 hg39
  refine Oc [3,3] ca9 hc40 ?_
  rintro - ⟨he41,he42,he43⟩
  unfold Qaa at he41
  refine Oq Qcb (KS ?_)
  refine Kc ?_ ?_
  ·intro h44
   have g45:=eq_of_beq h44
   refine KS ?_
   refine Oq (Qar Qaw 2) (Oq Vm ?_)
   refine QaO (QbC (Qaf.mk Qkh Qk7) QqF) fun rv47 hg48=>?_
   refine Oc [1] QqG (Qdp (A:=_) hlx (Qe7 (Ent.take (is:=[0]) rfl) (QqH ((Qaf.mk Qkh Qk7)) a20 k21 QqF pre pre pre pre rv47 hg48))) ?_ (ht:=rfl)
   rintro c46 ⟨he49,he50,he51⟩
   unfold Qaa at he49
   have he50:(rv47.Width=Qkh):=he50
   have he51:(rv47.Words.length=((Qkh+63) / 64).toNat):=he51
   refine Jo 1 ?_; rintro a52 k53 rfl
   refine Fb 8 1 fun _=>?_
   refine Ost (Scl [3] Qaw [vi rv47.Width,vl a52 k53 rv47.Words]) (KS ?_)
   refine Oq Vm (Oq QaS (Oq Va (KS ?_)))
   exact Kg (r37,rv38.2,rv47.Width,rv47.Words,(QqF+1),a52,k53) [2,0,2,1,1] ⟨(q3 hM22 (by simp only [Qd7,h35,h44,hg39,hg48,cs4])),aM1,aM1,aM1,aM1,aM1,aM1,aM1,iv1,iv1⟩
  intro h44
  have g55:=ne_of_beq_false h44
  refine KS ?_
  refine Oq Vm (Oq QaS (Oq Va (KS ?_)))
  exact Kg (r37,rv38.2,Qkh,Qk7,(QqF+1),a20,k21) [1,1,1,0,0] ⟨(q3 hM22 (by simp only [Qd7,h35,h44,hg39,cs4])),aM1,aM1,aM1,aM1,aM1,aM1,aM1,iv1,iv1⟩
 intro h35
 have g56:=df h35
 obtain rfl:r15=0:=by omega
 refine Ke ?_
 have hR57:=q2 hM22 (Qmi,Qkh,Qk7) (by simp only [Qd7,h35,cs4])
 refine KS ?_
 refine Oq (Qar Qaw 1) (Ost (Scl [2] Qaw [vi Qkh,vl a20 k21 Qk7]) (KS ?_))
 have hq:=q4 hrr ((Qaf.mk Qkh Qk7),Qmi) (by simp only [QmP,h35,hg6,hR57,cs4]); subst hq
 exact Kr (vl a20 k21 Qk7) rfl (.cellN 0 rfl Qaw rfl (Qak _ _) rfl .nil) [1,2] en
theorem QCa (tP:Value) (ta:Option Addr) (tk:Nat) (tT:List Int) (tI:Int) (htI:0<=tI/\tI<=(tT.length:Int)) (rr:Int×Int) (hrr:QaT tT tI=rr):FT Tryz.prog 27 #[tP] [Cl tP [vl ta tk tT,vi tI],S ta tk tT] (fun g:Unit=>Qaa rr.1/\(0<=rr.2/\rr.2<=(tT.length:Int))/\(0<=rr.1/\rr.1<=8)) (fun g=>vi rr.1) (fun g=>[Cl tP [vl ta tk tT,vi rr.2]]):=by
 refine FTi Tryz.func27 fun w0 M0 F0=>Fb 8 1 fun _=>Fo 1 fun ho2=>?_
 refine KS ?_
 refine Oq Va (KS ?_)
 refine Oa (AsV QcP QmX [vi 3,vi 1,vi 4,vi 2,vi 6,vi 0,vi 8] [vi 3,vi 1,vi 4,vi 2,vi 6,vi 0,vi 8]) fun c3=>?_
 refine Jo 0 ?_; rintro a4 k5 rfl
 refine Oq Vm ?_
 refine QaO (Qan tT tI 7) fun rv6 hg7=>?_
 have hc8:=fn9 tP ta tk tT tI 7 pre pre rv6 hg7
 refine Oc [1,1] ca9 hc8 ?_
 rintro - ⟨he9,he10,he11⟩
 unfold Qaa at he9
 refine Jl [1] (Ent.crInt _ [3,1,4,2,6,0,8] _ _ rfl rfl (by intro x hx; simp only [List.mem_cons,List.not_mem_nil,or_false] at hx; rcases hx with rfl | rfl | rfl | rfl | rfl | rfl | rfl <;> (unfold Qaa; omega)) aB1) ?_
 refine Oq (Vi QcP 0) (Oq (QjF sh3 0) (Oq Va (KS ?_)))
 have hq:=q4 hrr (([3,1,4,2,6,0,8].getD rv6.1.toNat 0),rv6.2) (by simp only [QaT,hg7,cs4]); subst hq
 exact Kr () rfl (.tmp rfl .nil) [1] ⟨(by rw [<- hrr]; exact QsF _ _),en,(by rw [<- hrr]; exact Qj7 _ _)⟩
theorem QAe (tP:Value) (ta:Option Addr) (tk:Nat) (tT:List Int) (tI:Int) (width:Int) (htI:0<=tI/\tI<=(tT.length:Int)) (QbJ:Qaa width) (hw0:0<=width/\width<=1000) (rr:Qad×Int) (hrr:Qed tT tI width=rr):FT Tryz.prog 30 #[tP,vi width] [Cl tP [vl ta tk tT,vi tI],S ta tk tT] (fun g:Value×Value×Value=>Qaa rr.1.Gen.Width/\Qaa rr.1.Kill.Width/\(0<=rr.2/\rr.2<=(tT.length:Int))/\(rr.1.Gen.Width=width)/\(rr.1.Kill.Width=width)/\(rr.1.Copies.length<=12)) (fun g=>.agg #[vi rr.1.Gen.Width,g.1,vi rr.1.Kill.Width,g.2.1,g.2.2]) (fun g=>[sl g.1 rr.1.Gen.Words,sl g.2.1 rr.1.Kill.Words,sl g.2.2 rr.1.Copies,Cl tP [vl ta tk tT,vi rr.2]]):=by
 refine FTi Tryz.func30 fun w0 M0 F0=>?_
 unfold Qaa at QbJ
 refine Fb 8 1 fun _=>Fo 1 fun ho2=>KS ?_
 refine Oa (Al QpZ [vi 0,.slice none 0 0,vi 0,.slice none 0 0,.slice none 0 0]) fun p3=>KS ?_
 refine Oq Vm ?_
 refine QaO (QaD width) fun rv5 hg6=>?_
 have hc7:=QpO width pre pre rv5 hg6
 refine Oc [] Qp0 hc7 ?_
 rintro c4 ⟨he8,he9,he10⟩
 unfold Qaa at he8
 refine Jo 0 ?_; rintro a11 k12 rfl
 refine Fb 8 0 fun _=>Oq Vm ?_
 have hc15:=QpO width pre pre rv5 hg6
 refine Oc [] Qp0 hc15 ?_
 rintro c14 ⟨he16,he17,he18⟩
 unfold Qaa at he16
 refine Jo 0 ?_; rintro a19 k20 rfl
 refine Oq (Vbd QyS [vi rv5.Width,vl a11 k12 rv5.Words,vi rv5.Width,vl a19 k20 rv5.Words,.slice none 0 0]) (Oa (Al QpZ [vi 0,.slice none 0 0,vi 0,.slice none 0 0,.slice none 0 0]) fun p21=>Ost (Scl [0] Qdm [vi rv5.Width,vl a11 k12 rv5.Words,vi rv5.Width,vl a19 k20 rv5.Words,.slice none 0 0]) (KS ?_))
 refine Oq Va (KS ?_)
 refine Kl (γ:=Nat×Int×Int×List (BitVec 64)×Int×List (BitVec 64)×Int×Option Addr×Nat×Option Addr×Nat) (fun (r22,Qk8,QgT,QgU,QfT,QgN,Qoa,a29,k30,a31,k32)=>⟨[(0,tP),(1,vi width),(4,p3),(5,p21),(6,vi Qoa)],[O a31 k32 QgN,O a29 k30 QgU,Cl p21 [vi QgT,vl a29 k30 QgU,vi QfT,vl a31 k32 QgN,.slice none 0 0],Cl p3 [vi 0,.slice none 0 0,vi 0,.slice none 0 0,.slice none 0 0],Cl tP [vl ta tk tT,vi Qk8],S ta tk tT],QaL tT r22 Qk8 QgT QgU QfT QgN Qoa=QaL tT (((width:Int) - 0).toNat) tI rv5.Width rv5.Words rv5.Width rv5.Words 0/\r22=((width:Int) - Qoa).toNat/\(0:Int)<=Qoa/\(Qoa<=width\/Qoa=0)/\(-9223372036854775808<=Qk8/\Qk8<=9223372036854775807)/\(0<=Qk8/\Qk8<=(tT.length:Int))/\(-9223372036854775808<=QgT/\QgT<=9223372036854775807)/\(-9223372036854775808<=QfT/\QfT<=9223372036854775807)/\(-9223372036854775808<=Qoa/\Qoa<=9223372036854775807)/\QgT=width/\QgU.length=(((width:Int)+63) / 64).toNat/\QfT=width/\QgN.length=(((width:Int)+63) / 64).toNat,r22⟩) (((width:Int) - 0).toNat,tI,rv5.Width,rv5.Words,rv5.Width,rv5.Words,0,a11,k12,a19,k20) [1,1,0,0,0,0] ⟨rfl,rfl,aM1,(.inr rfl),aM1,aM1,aM1,aM1,aM1,iv0,iv0,iv0,iv0⟩ ?_
 rintro ⟨r22,Qk8,QgT,QgU,QfT,QgN,Qoa,a29,k30,a31,k32⟩ ⟨hM33,hr34,hi35,hi36,hk37,ht38,hk39,hk40,hk41,hv42,hv43,hv44,hv45⟩
 refine QaE fun _ _ hL hA=>?_; dsimp only at hL hA; subst hL hA
 refine Fb 8 0 fun _=>Fb 8 1 fun _=>Fb 8 5 fun _=>Fo 5 fun ho49=>KS ?_
 refine Oq Vm (Oq Vm (Oq Qbo (KS ?_)))
 refine Kc ?_ ?_
 ·intro h50
  have g51:=dt h50
  obtain ⟨r52,rfl⟩:=scc (n:=r22) aM1
  refine KS ?_
  refine Oq Vm ?_
  refine QaO (Qan tT Qk8 6) fun rv53 hg54=>?_
  have hc55:=fn9 tP ta tk tT Qk8 6 pre pre rv53 hg54
  refine Oc [4,4] ca9 hc55 ?_
  rintro - ⟨he56,he57,he58⟩
  unfold Qaa at he56
  refine KS ?_
  refine Oq Qcb (Oq Va (KS ?_))
  refine Kc ?_ ?_
  ·intro h59
   have g60:=eq_of_beq h59
   refine KS ?_
   refine Oq (Vfa Qdx 3) (Oq (Qml Qaw 3 [vi QgT,vl a29 k30 QgU]) (Oq Vm ?_))
   refine QaO (QbC (Qaf.mk QgT QgU) Qoa) fun rv62 hg63=>?_
   refine Oc [2] QqG (Qdp (A:=_) hlx (Qe7 (Ent.take (is:=[0]) rfl) (QqH ((Qaf.mk QgT QgU)) a29 k30 Qoa pre pre pre pre rv62 hg63))) ?_ (ht:=rfl)
   rintro c61 ⟨he64,he65,he66⟩
   unfold Qaa at he64
   have he65:(rv62.Width=QgT):=he65
   have he66:(rv62.Words.length=((QgT+63) / 64).toNat):=he66
   refine Jo 1 ?_; rintro a67 k68 rfl
   refine Fb 8 1 fun _=>?_
   refine Oq (Vfa Qdx 4) (Ost (Qij [4] Qaw [vi rv62.Width,vl a67 k68 rv62.Words,vi QfT,vl a31 k32 QgN,.slice none 0 0]) (KS ?_))
   refine Oq Vm (Oq QaS (Oq Va (KS ?_)))
   exact Kg (r52,rv53.2,rv62.Width,rv62.Words,QfT,QgN,(Qoa+1),a67,k68,a31,k32) [4,2,0,2,1,1] ⟨(q3 hM33 (by simp only [QaL,h50,h59,hg54,hg63,cs4])),aM1,aM1,aM1,aM1,aM1,aM1,aM1,aM1,iv1,iv1,iv1,iv1⟩
  intro h59
  have g70:=ne_of_beq_false h59
  refine KS ?_
  refine Oq Qcb (Oq Va (KS ?_))
  refine Kc ?_ ?_
  ·intro h71
   have g72:=eq_of_beq h71
   refine KS ?_
   refine Kc ?_ ?_
   ·intro h73
    have g74:=eq_of_beq h73
    refine KS ?_
    refine Oq (Vfa QfD 3) (Oq (Qml Qaw 3 [vi QfT,vl a31 k32 QgN]) (Oq Vm ?_))
    refine QaO (QbC (Qaf.mk QfT QgN) Qoa) fun rv76 hg77=>?_
    refine Oc [1] QqG (Qdp (A:=_) hlx (Qe7 (Ent.take (is:=[0]) rfl) (QqH ((Qaf.mk QfT QgN)) a31 k32 Qoa pre pre pre pre rv76 hg77))) ?_ (ht:=rfl)
    rintro c75 ⟨he78,he79,he80⟩
    unfold Qaa at he78
    have he79:(rv76.Width=QfT):=he79
    have he80:(rv76.Words.length=((QfT+63) / 64).toNat):=he80
    refine Jo 1 ?_; rintro a81 k82 rfl
    refine Fb 8 1 fun _=>?_
    refine Oq (Vfa QfD 4) (Ost (Qij [4] Qaw [vi QgT,vl a29 k30 QgU,vi rv76.Width,vl a81 k82 rv76.Words,.slice none 0 0]) (KS ?_))
    refine Oq Vm (Oq QaS (Oq Va (KS ?_)))
    exact Kg (r52,rv53.2,QgT,QgU,rv76.Width,rv76.Words,(Qoa+1),a29,k30,a81,k82) [2,3,0,2,1,1] ⟨(q3 hM33 (by simp only [QaL,h50,h59,h71,h73,hg54,hg77,cs4])),aM1,aM1,aM1,aM1,aM1,aM1,aM1,aM1,iv1,iv1,iv1,iv1⟩
   intro h73
   exact absurd h73 (by first | (simp [h71]; done) | (simp only [bne,h71]; decide) | (simp only [bne,h71,Bool.not_true,Bool.not_false]; decide) | (exfalso; omega) | (intro hq; simp only [bne,hq,Bool.not_false,Bool.not_true,reduceCtorEq] at h71))
  intro h71
  have g84:=ne_of_beq_false h71
  refine KS ?_
  refine Oq Qcb (Oq Va (KS ?_))
  refine Kc ?_ ?_
  ·intro h85
   have g86:=eq_of_beq h85
   refine KS ?_
   refine Oq (Vfa QfD 3) (Oq (Qml Qaw 3 [vi QfT,vl a31 k32 QgN]) (Oq Vm ?_))
   refine QaO (QbC (Qaf.mk QfT QgN) Qoa) fun rv88 hg89=>?_
   refine Oc [1] QqG (Qdp (A:=_) hlx (Qe7 (Ent.take (is:=[0]) rfl) (QqH ((Qaf.mk QfT QgN)) a31 k32 Qoa pre pre pre pre rv88 hg89))) ?_ (ht:=rfl)
   rintro c87 ⟨he90,he91,he92⟩
   unfold Qaa at he90
   have he91:(rv88.Width=QfT):=he91
   have he92:(rv88.Words.length=((QfT+63) / 64).toNat):=he92
   refine Jo 1 ?_; rintro a93 k94 rfl
   refine Fb 8 1 fun _=>?_
   refine Oq (Vfa QfD 4) (Ost (Qij [4] Qaw [vi QgT,vl a29 k30 QgU,vi rv88.Width,vl a93 k94 rv88.Words,.slice none 0 0]) (KS ?_))
   refine Oq Vm (Oq QaS (Oq Va (KS ?_)))
   exact Kg (r52,rv53.2,QgT,QgU,rv88.Width,rv88.Words,(Qoa+1),a29,k30,a93,k94) [2,3,0,2,1,1] ⟨(q3 hM33 (by simp only [QaL,h50,h59,h71,h85,hg54,hg89,cs4])),aM1,aM1,aM1,aM1,aM1,aM1,aM1,aM1,iv1,iv1,iv1,iv1⟩
  intro h85
  have g96:=ne_of_beq_false h85
  refine KS ?_
  refine Oq Vm (Oq QaS (Oq Va (KS ?_)))
  exact Kg (r52,rv53.2,QgT,QgU,QfT,QgN,(Qoa+1),a29,k30,a31,k32) [1,1,1,1,0,0] ⟨(q3 hM33 (by simp only [QaL,h50,h59,h71,h85,hg54,cs4])),aM1,aM1,aM1,aM1,aM1,aM1,aM1,aM1,iv1,iv1,iv1,iv1⟩
 intro h50
 have g97:=df h50
 obtain rfl:r22=0:=by omega
 refine Ke ?_
 have hR98:=q2 hM33 (Qk8,QgT,QgU,QfT,QgN) (by simp only [QaL,h50,cs4])
 refine KS ?_
 refine Oq Va (KS ?_)
 refine Jl [] (Ent.osNil (α:=QaB)) ?_
 refine Kl (γ:=Nat×Int×List QaB×Int×Option Addr×Nat) (fun (r99,QiH,QiI,Qhh,a103,k104)=>⟨[(0,tP),(1,vi width),(4,p3),(5,p21),(7,vi Qhh)],[O a103 k104 QiI,O a31 k32 QgN,O a29 k30 QgU,Cl p21 [vi QgT,vl a29 k30 QgU,vi QfT,vl a31 k32 QgN,vl a103 k104 QiI],Cl p3 [vi 0,.slice none 0 0,vi 0,.slice none 0 0,.slice none 0 0],Cl tP [vl ta tk tT,vi QiH],S ta tk tT],Qcd tT width r99 QiH QiI Qhh=Qcd tT width (((width:Int) - 0).toNat) Qk8 [] 0/\r99=((width:Int) - Qhh).toNat/\(0:Int)<=Qhh/\(Qhh<=width\/Qhh=0)/\(-9223372036854775808<=QiH/\QiH<=9223372036854775807)/\(0<=QiH/\QiH<=(tT.length:Int))/\(-9223372036854775808<=Qhh/\Qhh<=9223372036854775807)/\QiI.length<=12,r99⟩) (((width:Int) - 0).toNat,Qk8,[],0,none,0) [0,0,0,0,0,0,0] ⟨rfl,rfl,aM1,(.inr rfl),aM1,aM1,aM1,iv0⟩ ?_
 rintro ⟨r99,QiH,QiI,Qhh,a103,k104⟩ ⟨hM105,hr106,hi107,hi108,hk109,ht110,hk111,hv112⟩
 refine QaE fun _ _ hL hA=>?_; dsimp only at hL hA; subst hL hA
 refine Fb 16 0 fun _=>Fb 8 1 fun _=>Fb 8 2 fun _=>Fb 8 6 fun _=>Fo 6 fun ho117=>KS ?_
 refine Oq Vm (Oq Vm (Oq Qbo (KS ?_)))
 refine Kc ?_ ?_
 ·intro h118
  have g119:=dt h118
  obtain ⟨r120,rfl⟩:=scc (n:=r99) aM1
  refine KS ?_
  refine Oq Va (KS ?_)
  refine Kl (γ:=Nat×Int×List QaB×Int×Option Addr×Nat) (fun (r121,Qhz,QhA,Qil,a125,k126)=>⟨[(0,tP),(1,vi width),(4,p3),(5,p21),(7,vi Qhh),(8,vi Qil)],[O a125 k126 QhA,O a31 k32 QgN,O a29 k30 QgU,Cl p21 [vi QgT,vl a29 k30 QgU,vi QfT,vl a31 k32 QgN,vl a125 k126 QhA],Cl p3 [vi 0,.slice none 0 0,vi 0,.slice none 0 0,.slice none 0 0],Cl tP [vl ta tk tT,vi Qhz],S ta tk tT],QbF tT width Qhh r121 Qhz QhA Qil=QbF tT width Qhh (((width:Int) - 0).toNat) QiH QiI 0/\r121=((width:Int) - Qil).toNat/\(0:Int)<=Qil/\(Qil<=width\/Qil=0)/\(-9223372036854775808<=Qhz/\Qhz<=9223372036854775807)/\(0<=Qhz/\Qhz<=(tT.length:Int))/\(-9223372036854775808<=Qil/\Qil<=9223372036854775807)/\QhA.length<=12,r121⟩) (((width:Int) - 0).toNat,QiH,QiI,0,a103,k104) [0,0,0,0,0,0,0] ⟨rfl,rfl,aM1,(.inr rfl),aM1,aM1,aM1,iv0⟩ ?_
  rintro ⟨r121,Qhz,QhA,Qil,a125,k126⟩ ⟨hM127,hr128,hi129,hi130,hk131,ht132,hk133,hv134⟩
  refine QaE fun _ _ hL hA=>?_; dsimp only at hL hA; subst hL hA
  refine Fb 16 0 fun _=>Fb 8 1 fun _=>Fb 8 2 fun _=>Fb 8 6 fun _=>Fo 6 fun ho139=>KS ?_
  refine Oq Vm (Oq Vm (Oq Qbo (Oq Vm ?_)))
  refine Js 44 ?_ ?_
  ·intro h140
   have g141:=dt h140
   obtain ⟨r142,rfl⟩:=scc (n:=r121) aM1
   refine Oq (Vfa Qcw 3) (Oq (Qai Qi5 3) (Oq (Qbc Qhq) (Oq Qbo (Oq Vpt (KS ?_)))))
   refine Kc ?_ ?_
   ·intro h143
    have g144:=dt h143
    refine KS ?_
    refine Oq Vm (Oq Vm (Oq Qub ?_))
    refine QaO (Qan tT Qhz (2*width)) fun rv145 hg146=>?_
    have hc147:=fn9 tP ta tk tT Qhz ((2*width)) pre pre rv145 hg146
    refine Oc [5,5] ca9 hc147 ?_
    rintro - ⟨he148,he149,he150⟩
    unfold Qaa at he148
    refine Oq Qcb (KS ?_)
    refine Kc ?_ ?_
    ·intro h151
     have g152:=eq_of_beq h151
     refine KS ?_
     refine Oq (Vfa Qcw 4) (Oq (Qai Qi5 4) (Oq Vm (Oq Vm (Oq (Vbd Qpj [vi Qhh,vi Qil]) (Oa (AsV Qhq QsW [.agg #[vi Qhh,vi Qil]] [vi Qhh,vi Qil]) fun c153=>?_)))))
     refine Jo 0 ?_; rintro a154 k155 rfl
     refine Jl [0] (Ent.cr1 (α:=QaB) (A:=[]) _ (QaB.mk Qhh Qil) _ aB1 (fun h=>⟨rfl,aL1,aL1⟩)) ?_
     refine Oa (ApO [2,0] Qhq Qhq QsW) fun c156=>?_
     refine Jo 0 ?_; rintro a157 k158 rfl
     refine Fb 16 0 fun _=>?_
     have hn160:=la QhA ([(QaB.mk Qhh Qil)]:List QaB)
     refine Oq (Vfa Qcw 4) (Ost (Qij [4] Qi5 [vi QgT,vl a29 k30 QgU,vi QfT,vl a31 k32 QgN,vl a157 k158 (QhA++[(QaB.mk Qhh Qil)])]) (KS ?_))
     refine Oq Vm (Oq QaS (Oq Va (KS ?_)))
     exact Kg (r142,rv145.2,(QhA++[(QaB.mk Qhh Qil)]),(Qil+1),a157,k158) [1,2,2,0,1,0,0] ⟨(q3 hM127 (by simp only [QbF,h140,h143,h151,hg146,cs4])),aM1,aM1,aM1,aM1,aM1,aM1,iv1⟩
    intro h151
    have g161:=ne_of_beq_false h151
    refine KS ?_
    refine Oq Vm (Oq QaS (Oq Va (KS ?_)))
    exact Kg (r142,rv145.2,QhA,(Qil+1),a125,k126) [1,1,1,1,1,0,0] ⟨(q3 hM127 (by simp only [QbF,h140,h143,h151,hg146,cs4])),aM1,aM1,aM1,aM1,aM1,aM1,iv1⟩
   intro h143
   have g162:=df h143
   refine Ke ?_
   have hR163:=q2 hM127 (Qhz,QhA) (by simp only [QbF,h140,h143,cs4])
   refine KS ?_
   refine Oq Vm (Oq QaS (Oq Va (KS ?_)))
   exact Kg (r120,Qhz,QhA,(Qhh+1),a125,k126) [0,0,0,0,0,0,0] ⟨(q3 hM105 (by simp only [Qcd,h118,h140,h143,hR163,cs4])),aM1,aM1,aM1,aM1,aM1,aM1,iv1⟩
  intro h140
  have g164:=df h140
  obtain rfl:r121=0:=by omega
  refine Osk (Osk (Osk (Osk (Oq Vpf (KS ?_)))))
  refine Kf ?_
  refine Ke ?_
  have hR165:=q2 hM127 (Qhz,QhA) (by simp only [QbF,h140,cs4])
  refine KS ?_
  refine Oq Vm (Oq QaS (Oq Va (KS ?_)))
  exact Kg (r120,Qhz,QhA,(Qhh+1),a125,k126) [0,0,0,0,0,0,0] ⟨(q3 hM105 (by simp only [Qcd,h118,h140,hR165,cs4])),aM1,aM1,aM1,aM1,aM1,aM1,iv1⟩
 intro h118
 have g166:=df h118
 obtain rfl:r99=0:=by omega
 refine Ke ?_
 have hR167:=q2 hM105 (QiH,QiI) (by simp only [Qcd,h118,cs4])
 refine KS ?_
 refine Oq (Qar Qdm 3) (Ost (Scl [4] Qdm [vi QgT,vl a29 k30 QgU,vi QfT,vl a31 k32 QgN,vl a103 k104 QiI]) (KS ?_))
 refine Jl [3] (Ent.freeze _ _) ?_
 refine Jl [3] (Ent.freeze _ _) ?_
 refine Jl [3] (Ent.freeze _ _) ?_
 have hq:=q4 hrr ((Qad.mk (Qaf.mk QgT QgU) (Qaf.mk QfT QgN) QiI),QiH) (by simp only [Qed,h50,h118,hg6,hR98,hR167,cs4]); subst hq
 exact Kr (vl a29 k30 QgU,vl a31 k32 QgN,vl a103 k104 QiI) rfl (.cellN 3 rfl Qdm rfl (Qak _ _) rfl .nil) [2,1,0,5] en
theorem fn8 (tP:Value) (ta:Option Addr) (tk:Nat) (tT:List Int) (tI:Int) (n:Int) (htI:0<=tI/\tI<=(tT.length:Int)) (Qf1:Qaa n) (hn0:0<=n/\n<=1000) (rr:Qab×Int) (hrr:QbZ tT tI n=rr):FT Tryz.prog 8 #[tP,vi n] [Cl tP [vl ta tk tT,vi tI],S ta tk tT] (fun g:Value×Value×Value=>Qaa rr.1.Width/\(0<=rr.2/\rr.2<=(tT.length:Int))/\(rr.1.Deps.length<=1001)) (fun g=>.agg #[vi rr.1.Width,g.1,g.2.1,g.2.2]) (fun g=>[sl g.1 rr.1.Deps,sl g.2.1 rr.1.Transfers,sl g.2.2 rr.1.Boundary,Cl tP [vl ta tk tT,vi rr.2]]):=by
 refine FTi Tryz.func8 fun w0 M0 F0=>?_
 unfold Qaa at Qf1
 refine Fb 8 1 fun _=>Fo 1 fun ho2=>KS ?_
 refine Oa (Al QtF [vi 0,.slice none 0 0,.slice none 0 0,.slice none 0 0]) fun p3=>KS ?_
 refine Oq Vm ?_
 refine QaO (QaT tT tI) fun rv4 hg5=>?_
 have hc6:=QCa tP ta tk tT tI pre rv4 hg5
 refine Oc [1,1] QAL hc6 ?_
 rintro - ⟨he7,he8,he9⟩
 unfold Qaa at he7
 refine Oq Qve (Oq (Vbd QyA [vi (rv4.1 % 5),.slice none 0 0,.slice none 0 0,.slice none 0 0]) (Oa (Al QtF [vi 0,.slice none 0 0,.slice none 0 0,.slice none 0 0]) fun p10=>Ost (Scl [0] Qeh [vi (rv4.1 % 5),.slice none 0 0,.slice none 0 0,.slice none 0 0]) (KS ?_)))
 refine Oq Vm (Oq Vm ?_)
 refine QaO (Qan tT rv4.2 n) fun rv11 hg12=>?_
 have hc13:=fn9 tP ta tk tT rv4.2 n pre pre rv11 hg12
 refine Oc [1,2] ca9 hc13 ?_
 rintro - ⟨he14,he15,he16⟩
 unfold Qaa at he14
 refine Oq QaS (Oq Va (KS ?_))
 refine Oq Va (KS ?_)
 refine Jl [] (Ent.osNil (α:=(List Int))) ?_
 refine Jl [] (Ent.osNil (α:=Qad)) ?_
 refine Jl [] (Ent.osNil (α:=Qaf)) ?_
 refine Kl (γ:=Nat×Int×List (List Int)×List Qad×List Qaf×Int×Option Addr×Nat×Option Addr×Nat×Option Addr×Nat) (fun (r17,Qmj,Qib,Qfq,QgO,QoT,a23,k24,a25,k26,a27,k28)=>⟨[(0,tP),(4,p3),(5,p10),(1,vi (1+rv11.1)),(6,vi QoT)],[O a27 k28 QgO,O a25 k26 Qfq,O a23 k24 Qib,Cl tP [vl ta tk tT,vi Qmj],Cl p10 [vi (rv4.1 % 5),vl a23 k24 Qib,vl a25 k26 Qfq,vl a27 k28 QgO],Cl p3 [vi 0,.slice none 0 0,.slice none 0 0,.slice none 0 0],S ta tk tT],Qbr tT (1+rv11.1) (rv4.1 % 5) r17 Qmj Qib Qfq QgO QoT=Qbr tT (1+rv11.1) (rv4.1 % 5) ((((1+rv11.1):Int) - 0).toNat) rv11.2 [] [] [] 0/\r17=(((1+rv11.1):Int) - QoT).toNat/\(0:Int)<=QoT/\QoT<=(1+rv11.1)/\(-9223372036854775808<=Qmj/\Qmj<=9223372036854775807)/\(0<=Qmj/\Qmj<=(tT.length:Int))/\(-9223372036854775808<=QoT/\QoT<=9223372036854775807)/\(Qib.length:Int)=QoT/\(Qfq.length:Int)=QoT/\(QgO.length:Int)=QoT,r17⟩) ((((1+rv11.1):Int) - 0).toNat,rv11.2,[],[],[],0,none,0,none,0,none,0) [0,0,0,0,0,0,0] ⟨rfl,rfl,aM1,aM1,aM1,aM1,aM1,iv0,iv0,iv0⟩ ?_
 rintro ⟨r17,Qmj,Qib,Qfq,QgO,QoT,a23,k24,a25,k26,a27,k28⟩ ⟨hM29,hr30,hi31,hi32,hk33,ht34,hk35,hv36,hv37,hv38⟩
 refine QaE fun _ _ hL hA=>?_; dsimp only at hL hA; subst hL hA
 refine Fb 32 0 fun _=>Fb 88 1 fun _=>Fb 24 2 fun _=>Fb 8 6 fun _=>Fo 6 fun ho43=>KS ?_
 refine Oq Vm (Oq Vm (Oq Qbo (KS ?_)))
 refine Kc ?_ ?_
 ·intro h44
  have g45:=dt h44
  obtain ⟨r46,rfl⟩:=scc (n:=r17) aM1
  refine KS ?_
  refine Oq Va (KS ?_)
  refine Oq Vm ?_
  refine QaO (Qan tT Qmj 4) fun rv47 hg48=>?_
  have hc49:=fn9 tP ta tk tT Qmj 4 pre pre rv47 hg48
  refine Oc [3,5] ca9 hc49 ?_
  rintro - ⟨he50,he51,he52⟩
  unfold Qaa at he50
  refine Oq Va (KS ?_)
  refine Jl [] (Ent.slNil (α:=Int)) ?_
  refine Kl (γ:=Nat×Int×List Int×Int×Option Addr×Nat) (fun (r53,Qk9,Qk3,QtA,a57,k58)=>⟨[(0,tP),(4,p3),(5,p10),(1,vi (1+rv11.1)),(6,vi QoT),(7,vl a57 k58 Qk3),(8,vi QtA)],[S a57 k58 Qk3,Cl tP [vl ta tk tT,vi Qk9],O a27 k28 QgO,O a25 k26 Qfq,O a23 k24 Qib,Cl p10 [vi (rv4.1 % 5),vl a23 k24 Qib,vl a25 k26 Qfq,vl a27 k28 QgO],Cl p3 [vi 0,.slice none 0 0,.slice none 0 0,.slice none 0 0],S ta tk tT],QbT tT (1+rv11.1) r53 Qk9 Qk3 QtA=QbT tT (1+rv11.1) (rv47.1.toNat) rv47.2 [] rv47.1/\r53=QtA.toNat/\QtA<=(rv47.1:Int)/\(-9223372036854775808<=Qk9/\Qk9<=9223372036854775807)/\(0<=Qk9/\Qk9<=(tT.length:Int))/\(-9223372036854775808<=QtA/\QtA<=9223372036854775807)/\(Qk3.length:Int)+QtA<=4,r53⟩) (rv47.1.toNat,rv47.2,[],rv47.1,none,0) [0,1,1,1,1,1,1,1] ⟨rfl,rfl,aM1,aM1,aM1,aM1,iv0⟩ ?_
  rintro ⟨r53,Qk9,Qk3,QtA,a57,k58⟩ ⟨hM59,hr60,hi61,hk62,ht63,hk64,hv65⟩
  refine QaE fun _ _ hL hA=>?_; dsimp only at hL hA; subst hL hA
  refine Fb 8 0 fun _=>Fo 0 fun ho67=>Fb 32 2 fun _=>Fb 88 3 fun _=>Fb 24 4 fun _=>Fb 8 7 fun _=>Fo 7 fun ho72=>KS ?_
  refine Oq Vm (Oq QgZ (KS ?_))
  refine Kc ?_ ?_
  ·intro h73
   have g74:=dt h73
   obtain ⟨r75,rfl⟩:=scc (n:=r53) aM1
   refine KS ?_
   refine Oq Vm (Oq Vm (Oq Vm ?_))
   refine QaO (Qan tT Qk9 (1+rv11.1)) fun rv76 hg77=>?_
   have hc78:=fn9 tP ta tk tT Qk9 ((1+rv11.1)) pre pre rv76 hg77
   refine Oc [1,6] ca9 hc78 ?_
   rintro - ⟨he79,he80,he81⟩
   unfold Qaa at he79
   refine QaO (Qc9 Qk3 rv76.1) fun rv83 hg84=>?_
   have hc85:=Qyw Qk3 a57 k58 rv76.1 pre pre rv83 hg84
   refine Oc [1] Qzk hc85 ?_
   rintro c82 he86
   refine Jo 0 ?_; rintro a87 k88 rfl
   refine Fb 8 0 fun _=>Fo 0 fun ho90=>?_
   refine Oq Va (KS ?_)
   refine Oq Vm (Oq Qjf (Oq Va (KS ?_)))
   exact Kg (r75,rv76.2,rv83,(QtA - 1),a87,k88) [0,1,2,2,2,2,2,2] ⟨(q3 hM59 (by simp only [QbT,h73,hg77,hg84,cs4])),aM1,aM1,aM1,aM1,aM1,iv1⟩
  intro h73
  have g91:=df h73
  obtain rfl:r53=0:=by omega
  refine Ke ?_
  have hR92:=q2 hM59 (Qk9,Qk3) (by simp only [QbT,h73,cs4])
  refine KS ?_
  refine Oq (Vfa Qb7 5) (Oq (Qai sh3 5) ?_)
  refine QaO (QaD (rv4.1 % 5)) fun rv94 hg95=>?_
  have hc96:=QpO ((rv4.1 % 5)) pre pre rv94 hg95
  refine Oc [] Qp0 hc96 ?_
  rintro c93 ⟨he97,he98,he99⟩
  unfold Qaa at he97
  refine Jo 0 ?_; rintro a100 k101 rfl
  refine Fb 8 0 fun _=>?_
  refine Oa (Al Qhj [vi 0,.slice none 0 0]) fun p103=>Ost (Scl [0] Qaw [vi rv94.Width,vl a100 k101 rv94.Words]) (KS ?_)
  refine Oq Vm ?_
  refine QaO (Qan tT Qk9 3) fun rv104 hg105=>?_
  have hc106:=fn9 tP ta tk tT Qk9 3 pre pre rv104 hg105
  refine Oc [3,8] ca9 hc106 ?_
  rintro - ⟨he107,he108,he109⟩
  unfold Qaa at he107
  refine Oq Qcb (KS ?_)
  refine Kc ?_ ?_
  ·intro h110
   have g111:=eq_of_beq h110
   refine KS ?_
   refine Oq Vm (Oq (Vfa Qb7 7) (Oq (Qai sh3 7) ?_))
   refine QaO (QmP tT rv104.2 (rv4.1 % 5)) fun rv113 hg114=>?_
   have hc115:=QBL tP ta tk tT rv104.2 ((rv4.1 % 5)) pre pre pre rv113 hg114
   refine Oc [0,8] QBa hc115 ?_
   rintro c112 ⟨he116,he117,he118,he119⟩
   unfold Qaa at he116
   refine Jo 0 ?_; rintro a120 k121 rfl
   refine Fb 8 0 fun _=>?_
   refine Ost (Scl [2] Qaw [vi rv113.1.Width,vl a120 k121 rv113.1.Words]) (KS ?_)
   refine Jp 8 fun hp123=>?_
   refine Qam [0,1,0,4,15,0,32,0,128,511,0,1024,0,0,8192,29695,62463,131071,27775,524287,1048575,2097151,4194303,8388607] QcF ?_
   refine Dv [0] (Vfa Qbt 0) (Dv [9] (Qai QfL 0) (Dv [] Vm (Dx [] [] [0] (fun G=>(G.g 3 0)) [fun G=>Cr (G.g 3 0) 1 [vl a57 k58 Qk3]] (fun G=>xA (AsV QeN Qra [vl a57 k58 Qk3] [vl a57 k58 Qk3])) ?_)))
   have hn126:=la Qib ([Qk3]:List (List Int))
   refine Dx [5,8,12] [8,12] [1,0] (fun G=>(G.g 4 0)) [fun G=>os (G.g 4 0) ((Qib++[Qk3]):List (List Int))] (fun G=>xp [2,0] rfl (Ent.cr1 (α:=List Int) (A:=[S a57 k58 Qk3]) _ Qk3 _ aB1 (fun h=>⟨_,rfl,Qaj (i:=0) rfl h⟩)) (xA (ApO [3,0] QeN QeN Qra))) (Dv [0] (Vfa Qc8 0) (Dv [9] (Qai Qjc 0) (Dv [1] (Qar Qaw 0) (Dx [] [] [0] (fun G=>(G.g 8 0)) [fun G=>Cr (G.g 8 0) 1 [vi rv113.1.Width,vl a120 k121 rv113.1.Words]] (fun G=>xA (AsV Qd2 Qob [.agg #[vi rv113.1.Width,vl a120 k121 rv113.1.Words]] [vi rv113.1.Width,vl a120 k121 rv113.1.Words])) ?_))))
   have hn129:=la QgO ([rv113.1]:List Qaf)
   refine Dx [2,6,14] [2,6,14] [1,0] (fun G=>(G.g 9 0)) [fun G=>S a120 k121 rv113.1.Words,fun G=>os (G.g 9 0) ((QgO++[rv113.1]):List Qaf)] (fun G=>xp [0] rfl (Ent.freeze _ _) (xp [2,0] rfl (Ent.cr1 (α:=Qaf) (A:=[S a120 k121 rv113.1.Words]) _ rv113.1 _ aB1 (fun h=>⟨_,rfl,aL1,Qaj (i:=0) rfl h⟩)) (xA (ApO [3,0] Qd2 Qd2 Qob)))) (Dv [0] (Vfa Qco 0) (Dv [9] (Qai QiS 0) (Dv [] Vm (Dv [0] (Vfa Qb7 0) (Dv [9] (Qai sh3 0) ?_)))))
   refine QaO (Qed tT rv113.2 (rv4.1 % 5)) fun rv133 hg134=>?_
   refine Dx [3,11] [3] [5,0,1,2,3,4] (fun G=>.agg #[vi rv133.1.Gen.Width,(G.g 15 0),vi rv133.1.Kill.Width,(G.g 15 1),(G.g 15 2)]) [fun G=>SP.fact (Qaa rv133.1.Gen.Width/\Qaa rv133.1.Kill.Width/\(0<=rv133.2/\rv133.2<=(tT.length:Int))/\(rv133.1.Gen.Width=(rv4.1 % 5))/\(rv133.1.Kill.Width=(rv4.1 % 5))/\(rv133.1.Copies.length<=12)),fun G=>sl (G.g 15 0) rv133.1.Gen.Words,fun G=>sl (G.g 15 1) rv133.1.Kill.Words,fun G=>sl (G.g 15 2) rv133.1.Copies,fun G=>Cl tP [vl ta tk tT,vi rv133.2]] (fun G=>xC [0,0] QzU (QAe tP ta tk tT rv113.2 ((rv4.1 % 5)) pre pre pre rv133 hg134)) (Dx [] [] [0] (fun G=>(G.g 16 0)) [fun G=>Cr (G.g 16 0) 1 [vi rv133.1.Gen.Width,(G.g 15 0),vi rv133.1.Kill.Width,(G.g 15 1),(G.g 15 2)]] (fun G=>xA (AsV Qhi Qsf [.agg #[vi rv133.1.Gen.Width,(G.g 15 0),vi rv133.1.Kill.Width,(G.g 15 1),(G.g 15 2)]] [vi rv133.1.Gen.Width,(G.g 15 0),vi rv133.1.Kill.Width,(G.g 15 1),(G.g 15 2)])) ?_)
   have hn137:=la Qfq ([rv133.1]:List Qad)
   refine Dx [7,17,18,19,20,22] [7,22] [4,1,2,3,0] (fun G=>(G.g 17 0)) [fun G=>os (G.g 17 0) ((Qfq++[rv133.1]):List Qad)] (fun G=>by refine xf 1 rfl ?_; rintro ⟨he138,he139,he140,he141,he142,he143⟩; unfold Qaa at he138 he139; exact xp [5,2,3,4] rfl (Ent.cr1 (α:=Qad) (A:=[sl (G.g 15 0) rv133.1.Gen.Words,sl (G.g 15 1) rv133.1.Kill.Words,sl (G.g 15 2) rv133.1.Copies]) _ rv133.1 _ aB1 (fun h=>⟨_,_,_,rfl,aL1,Qaj (i:=0) rfl h,aL1,Qaj (i:=1) rfl h,Qaj (i:=2) rfl h⟩)) (xA (ApO [4,0] Qhi Qhi Qsf))) (Dv [0] (Vfa Qbt 0) (Dx0 [9,13] [9] [1,0] [fun G=>Cl p10 [vi (rv4.1 % 5),(G.g 4 0),vl a25 k26 Qfq,vl a27 k28 QgO]] (fun G=>x1 1 rfl Qcn fun ho144=>(xS (OpS.frame [0] rfl (OpS.storeClF [(G.g 4 0)] [vi (rv4.1 % 5),(G.g 4 0),vl a25 k26 Qfq,vl a27 k28 QgO] rfl rfl rfl QfL (QaF ho144) rfl (by simp only [List.all_cons,List.all_nil,ho144,Bool.and_true,Bool.true_and] <;> rfl) aB1 rfl)))) (Dv [0] (Vfa Qc8 0) (Dx0 [16,24] [24] [1,0] [fun G=>Cl p10 [vi (rv4.1 % 5),(G.g 4 0),vl a25 k26 Qfq,(G.g 9 0)]] (fun G=>x1 0 rfl Qcn fun ho145=>(xS (OpS.frame [1] rfl (OpS.storeClF [(G.g 9 0)] [vi (rv4.1 % 5),(G.g 4 0),vl a25 k26 Qfq,(G.g 9 0)] rfl rfl rfl Qjc (QaF ho145) rfl (by simp only [List.all_cons,List.all_nil,ho145,Bool.and_true,Bool.true_and] <;> rfl) aB1 rfl)))) (Dv [0] (Vfa Qco 0) (Dx0 [23,25] [25] [1,0] [fun G=>Cl p10 [vi (rv4.1 % 5),(G.g 4 0),(G.g 17 0),(G.g 9 0)]] (fun G=>x1 0 rfl Qcn fun ho146=>(xS (OpS.frame [1] rfl (OpS.storeClF [(G.g 17 0)] [vi (rv4.1 % 5),(G.g 4 0),(G.g 17 0),(G.g 9 0)] rfl rfl rfl QiS (QaF ho146) rfl (by simp only [List.all_cons,List.all_nil,ho146,Bool.and_true,Bool.true_and] <;> rfl) aB1 rfl)))) ?_))))))
   refine Dn ⟨by kernel_rfl,fun G=>?_⟩
   refine Jw2 [(0,tP),(4,p3),(5,p10),(1,vi (1+rv11.1)),(6,vi QoT)] [0,1,4,5,10,11] [os (G.g 4 0) ((Qib++[Qk3]):List (List Int)),S a120 k121 rv113.1.Words,os (G.g 9 0) ((QgO++[rv113.1]):List Qaf),SP.fact (Qaa rv133.1.Gen.Width/\Qaa rv133.1.Kill.Width/\(0<=rv133.2/\rv133.2<=(tT.length:Int))/\(rv133.1.Gen.Width=(rv4.1 % 5))/\(rv133.1.Kill.Width=(rv4.1 % 5))/\(rv133.1.Copies.length<=12)),sl (G.g 15 0) rv133.1.Gen.Words,sl (G.g 15 1) rv133.1.Kill.Words,sl (G.g 15 2) rv133.1.Copies,Cl tP [vl ta tk tT,vi rv133.2],os (G.g 17 0) ((Qfq++[rv133.1]):List Qad),Cl p10 [vi (rv4.1 % 5),(G.g 4 0),(G.g 17 0),(G.g 9 0)]] ?_
   generalize G.g 4 0=c125,G.g 9 0=c128,G.g 15 0=c130,G.g 15 1=c131,G.g 15 2=c132,G.g 17 0=c136
   refine Jf 9 rfl ?_; rintro ⟨he147,he148,he149,he150,he151,he152⟩
   unfold Qaa at he147 he148
   refine Jk [1,1,1,2,2,3,3,4,5,6,7,8,8,8] ?_
   refine Jo 5 ?_; rintro a153 k154 rfl
   refine Fb 24 5 fun _=>?_
   refine Jo 7 ?_; rintro a156 k157 rfl
   refine Fb 32 7 fun _=>?_
   refine Jo 8 ?_; rintro a159 k160 rfl
   refine Fb 8 8 fun _=>?_
   refine Jo 9 ?_; rintro a162 k163 rfl
   refine Fb 8 9 fun _=>?_
   refine Jo 10 ?_; rintro a165 k166 rfl
   refine Fb 16 10 fun _=>?_
   refine Jo 12 ?_; rintro a168 k169 rfl
   refine Fb 88 12 fun _=>KS ?_
   refine Oq Vm (Oq QaS (Oq Va (KS ?_)))
   exact Kg (r46,rv133.2,(Qib++[Qk3]),(Qfq++[rv133.1]),(QgO++[rv113.1]),(QoT+1),a153,k154,a168,k169,a156,k157) [7,11,5,9,9,3,3] ⟨(q3 hM29 (by simp only [Qbr,h44,h73,h110,hg48,hR92,hg95,hg105,hg114,hg134,cs4])),aM1,aM1,aM1,aM1,aM1,aM1,iv1,iv1,iv1⟩
  intro h110
  have g171:=ne_of_beq_false h110
  refine KS ?_
  refine Jp 7 fun hp172=>?_
  refine Qam [0,1,0,4,15,0,32,0,128,511,0,1024,0,0,8192,29695,62463,131071,27775,524287,1048575,2097151,4194303,8388607] QcF ?_
  refine Dv [0] (Vfa Qbt 0) (Dv [8] (Qai QfL 0) (Dv [] Vm (Dx [] [] [0] (fun G=>(G.g 3 0)) [fun G=>Cr (G.g 3 0) 1 [vl a57 k58 Qk3]] (fun G=>xA (AsV QeN Qra [vl a57 k58 Qk3] [vl a57 k58 Qk3])) ?_)))
  have hn175:=la Qib ([Qk3]:List (List Int))
  refine Dx [4,7,11] [7,11] [1,0] (fun G=>(G.g 4 0)) [fun G=>os (G.g 4 0) ((Qib++[Qk3]):List (List Int))] (fun G=>xp [2,0] rfl (Ent.cr1 (α:=List Int) (A:=[S a57 k58 Qk3]) _ Qk3 _ aB1 (fun h=>⟨_,rfl,Qaj (i:=0) rfl h⟩)) (xA (ApO [3,0] QeN QeN Qra))) (Dv [0] (Vfa Qc8 0) (Dv [8] (Qai Qjc 0) (Dv [2] (Qar Qaw 0) (Dx [] [] [0] (fun G=>(G.g 8 0)) [fun G=>Cr (G.g 8 0) 1 [vi rv94.Width,vl a100 k101 rv94.Words]] (fun G=>xA (AsV Qd2 Qob [.agg #[vi rv94.Width,vl a100 k101 rv94.Words]] [vi rv94.Width,vl a100 k101 rv94.Words])) ?_))))
  have hn178:=la QgO ([rv94]:List Qaf)
  refine Dx [3,5,13] [3,5,13] [1,0] (fun G=>(G.g 9 0)) [fun G=>S a100 k101 rv94.Words,fun G=>os (G.g 9 0) ((QgO++[rv94]):List Qaf)] (fun G=>xp [0] rfl (Ent.freeze _ _) (xp [2,0] rfl (Ent.cr1 (α:=Qaf) (A:=[S a100 k101 rv94.Words]) _ rv94 _ aB1 (fun h=>⟨_,rfl,aL1,Qaj (i:=0) rfl h⟩)) (xA (ApO [3,0] Qd2 Qd2 Qob)))) (Dv [0] (Vfa Qco 0) (Dv [8] (Qai QiS 0) (Dv [] Vm (Dv [0] (Vfa Qb7 0) (Dv [8] (Qai sh3 0) ?_)))))
  refine QaO (Qed tT rv104.2 (rv4.1 % 5)) fun rv182 hg183=>?_
  refine Dx [1,10] [1] [5,0,1,2,3,4] (fun G=>.agg #[vi rv182.1.Gen.Width,(G.g 15 0),vi rv182.1.Kill.Width,(G.g 15 1),(G.g 15 2)]) [fun G=>SP.fact (Qaa rv182.1.Gen.Width/\Qaa rv182.1.Kill.Width/\(0<=rv182.2/\rv182.2<=(tT.length:Int))/\(rv182.1.Gen.Width=(rv4.1 % 5))/\(rv182.1.Kill.Width=(rv4.1 % 5))/\(rv182.1.Copies.length<=12)),fun G=>sl (G.g 15 0) rv182.1.Gen.Words,fun G=>sl (G.g 15 1) rv182.1.Kill.Words,fun G=>sl (G.g 15 2) rv182.1.Copies,fun G=>Cl tP [vl ta tk tT,vi rv182.2]] (fun G=>xC [0,0] QzU (QAe tP ta tk tT rv104.2 ((rv4.1 % 5)) pre pre pre rv182 hg183)) (Dx [] [] [0] (fun G=>(G.g 16 0)) [fun G=>Cr (G.g 16 0) 1 [vi rv182.1.Gen.Width,(G.g 15 0),vi rv182.1.Kill.Width,(G.g 15 1),(G.g 15 2)]] (fun G=>xA (AsV Qhi Qsf [.agg #[vi rv182.1.Gen.Width,(G.g 15 0),vi rv182.1.Kill.Width,(G.g 15 1),(G.g 15 2)]] [vi rv182.1.Gen.Width,(G.g 15 0),vi rv182.1.Kill.Width,(G.g 15 1),(G.g 15 2)])) ?_)
  have hn186:=la Qfq ([rv182.1]:List Qad)
  refine Dx [6,16,17,18,19,21] [6,21] [4,1,2,3,0] (fun G=>(G.g 17 0)) [fun G=>os (G.g 17 0) ((Qfq++[rv182.1]):List Qad)] (fun G=>by refine xf 1 rfl ?_; rintro ⟨he187,he188,he189,he190,he191,he192⟩; unfold Qaa at he187 he188; exact xp [5,2,3,4] rfl (Ent.cr1 (α:=Qad) (A:=[sl (G.g 15 0) rv182.1.Gen.Words,sl (G.g 15 1) rv182.1.Kill.Words,sl (G.g 15 2) rv182.1.Copies]) _ rv182.1 _ aB1 (fun h=>⟨_,_,_,rfl,aL1,Qaj (i:=0) rfl h,aL1,Qaj (i:=1) rfl h,Qaj (i:=2) rfl h⟩)) (xA (ApO [4,0] Qhi Qhi Qsf))) (Dv [0] (Vfa Qbt 0) (Dx0 [8,12] [8] [1,0] [fun G=>Cl p10 [vi (rv4.1 % 5),(G.g 4 0),vl a25 k26 Qfq,vl a27 k28 QgO]] (fun G=>x1 1 rfl Qcn fun ho193=>(xS (OpS.frame [0] rfl (OpS.storeClF [(G.g 4 0)] [vi (rv4.1 % 5),(G.g 4 0),vl a25 k26 Qfq,vl a27 k28 QgO] rfl rfl rfl QfL (QaF ho193) rfl (by simp only [List.all_cons,List.all_nil,ho193,Bool.and_true,Bool.true_and] <;> rfl) aB1 rfl)))) (Dv [0] (Vfa Qc8 0) (Dx0 [15,23] [23] [1,0] [fun G=>Cl p10 [vi (rv4.1 % 5),(G.g 4 0),vl a25 k26 Qfq,(G.g 9 0)]] (fun G=>x1 0 rfl Qcn fun ho194=>(xS (OpS.frame [1] rfl (OpS.storeClF [(G.g 9 0)] [vi (rv4.1 % 5),(G.g 4 0),vl a25 k26 Qfq,(G.g 9 0)] rfl rfl rfl Qjc (QaF ho194) rfl (by simp only [List.all_cons,List.all_nil,ho194,Bool.and_true,Bool.true_and] <;> rfl) aB1 rfl)))) (Dv [0] (Vfa Qco 0) (Dx0 [22,24] [24] [1,0] [fun G=>Cl p10 [vi (rv4.1 % 5),(G.g 4 0),(G.g 17 0),(G.g 9 0)]] (fun G=>x1 0 rfl Qcn fun ho195=>(xS (OpS.frame [1] rfl (OpS.storeClF [(G.g 17 0)] [vi (rv4.1 % 5),(G.g 4 0),(G.g 17 0),(G.g 9 0)] rfl rfl rfl QiS (QaF ho195) rfl (by simp only [List.all_cons,List.all_nil,ho195,Bool.and_true,Bool.true_and] <;> rfl) aB1 rfl)))) ?_))))))
  refine Dn ⟨by kernel_rfl,fun G=>?_⟩
  refine Jw2 [(0,tP),(4,p3),(5,p10),(1,vi (1+rv11.1)),(6,vi QoT)] [0,2,4,9,10] [os (G.g 4 0) ((Qib++[Qk3]):List (List Int)),S a100 k101 rv94.Words,os (G.g 9 0) ((QgO++[rv94]):List Qaf),SP.fact (Qaa rv182.1.Gen.Width/\Qaa rv182.1.Kill.Width/\(0<=rv182.2/\rv182.2<=(tT.length:Int))/\(rv182.1.Gen.Width=(rv4.1 % 5))/\(rv182.1.Kill.Width=(rv4.1 % 5))/\(rv182.1.Copies.length<=12)),sl (G.g 15 0) rv182.1.Gen.Words,sl (G.g 15 1) rv182.1.Kill.Words,sl (G.g 15 2) rv182.1.Copies,Cl tP [vl ta tk tT,vi rv182.2],os (G.g 17 0) ((Qfq++[rv182.1]):List Qad),Cl p10 [vi (rv4.1 % 5),(G.g 4 0),(G.g 17 0),(G.g 9 0)]] ?_
  generalize G.g 4 0=c174,G.g 9 0=c177,G.g 15 0=c179,G.g 15 1=c180,G.g 15 2=c181,G.g 17 0=c185
  refine Jf 8 rfl ?_; rintro ⟨he196,he197,he198,he199,he200,he201⟩
  unfold Qaa at he196 he197
  refine Jk [1,1,2,2,3,3,4,5,6,7,8,8,8] ?_
  refine Jo 4 ?_; rintro a202 k203 rfl
  refine Fb 24 4 fun _=>?_
  refine Jo 6 ?_; rintro a205 k206 rfl
  refine Fb 32 6 fun _=>?_
  refine Jo 7 ?_; rintro a208 k209 rfl
  refine Fb 8 7 fun _=>?_
  refine Jo 8 ?_; rintro a211 k212 rfl
  refine Fb 8 8 fun _=>?_
  refine Jo 9 ?_; rintro a214 k215 rfl
  refine Fb 16 9 fun _=>?_
  refine Jo 11 ?_; rintro a217 k218 rfl
  refine Fb 88 11 fun _=>KS ?_
  refine Oq Vm (Oq QaS (Oq Va (KS ?_)))
  exact Kg (r46,rv182.2,(Qib++[Qk3]),(Qfq++[rv182.1]),(QgO++[rv94]),(QoT+1),a202,k203,a217,k218,a205,k206) [6,10,4,8,8,2,2] ⟨(q3 hM29 (by simp only [Qbr,h44,h73,h110,hg48,hR92,hg95,hg105,hg183,cs4])),aM1,aM1,aM1,aM1,aM1,aM1,iv1,iv1,iv1⟩
 intro h44
 have g220:=df h44
 obtain rfl:r17=0:=by omega
 refine Ke ?_
 have hR221:=q2 hM29 (Qmj,Qib,Qfq,QgO) (by simp only [Qbr,h44,cs4])
 refine KS ?_
 refine Oq (Qar Qeh 4) (Ost (Scl [5] Qeh [vi (rv4.1 % 5),vl a23 k24 Qib,vl a25 k26 Qfq,vl a27 k28 QgO]) (KS ?_))
 refine Jl [3] (Ent.freeze _ _) ?_
 refine Jl [3] (Ent.freeze _ _) ?_
 refine Jl [3] (Ent.freeze _ _) ?_
 have hq:=q4 hrr ((Qab.mk (rv4.1 % 5) Qib Qfq QgO),Qmj) (by simp only [QbZ,h44,hg5,hg12,hR221,cs4]); subst hq
 exact Kr (vl a23 k24 Qib,vl a25 k26 Qfq,vl a27 k28 QgO) rfl (.cellN 3 rfl Qeh rfl (Qak _ _) rfl .nil) [2,1,0,4] en
theorem fn5 (t:List Int) (ta0:Option Addr) (tk0:Nat) (s:Qab) (sa1:Option Addr) (sk1:Nat) (sa2:Option Addr) (sk2:Nat) (sa3:Option Addr) (sk3:Nat) (n:Int) (bit:Int) (QcL:Qaa s.Width) (Qf1:Qaa n) (QfG:Qaa bit) (rr:Bool) (hrr:QbI t s n bit=rr):FT Tryz.prog 5 #[vl ta0 tk0 t,.agg #[vi s.Width,vl sa1 sk1 s.Deps,vl sa2 sk2 s.Transfers,vl sa3 sk3 s.Boundary],vi n,vi bit] [S ta0 tk0 t,S sa1 sk1 s.Deps,S sa2 sk2 s.Transfers,S sa3 sk3 s.Boundary] (fun g:Unit=>True) (fun g=>vb rr) (fun g=>[]):=by
 refine FTi Tryz.func5 fun w0 M0 F0=>?_
 unfold Qaa at QcL Qf1 QfG
 refine Fb 8 0 fun _=>Fo 0 fun ho2=>Fb 24 1 fun _=>Fb 88 2 fun _=>Fb 32 3 fun _=>KS ?_
 refine Oa (Ab [vi s.Width,vl sa1 sk1 s.Deps,vl sa2 sk2 s.Transfers,vl sa3 sk3 s.Boundary]) fun p6=>Oq Va (KS ?_)
 refine Oq Vm ?_
 refine QaO (QsM t) fun rv8 hg9=>?_
 have hc10:=fn7 t ta0 tk0 rv8 hg9
 refine Oc [1] ca7 hc10 ?_
 rintro c7 -
 refine Oq Va (KS ?_)
 refine Oq Va (KS ?_)
 refine Kl (γ:=Nat×Int×Int) (fun (r11,QmI,QjD)=>⟨[(2,vi n),(3,vi bit),(5,p6),(9,c7),(10,vi QjD)],[Cl c7 [vl ta0 tk0 t,vi QmI],pv p6 [vi s.Width,vl sa1 sk1 s.Deps,vl sa2 sk2 s.Transfers,vl sa3 sk3 s.Boundary],S ta0 tk0 t,S sa1 sk1 s.Deps,S sa2 sk2 s.Transfers,S sa3 sk3 s.Boundary],QaV t n bit r11 QmI QjD=QaV t n bit 4 0 0/\r11=((4:Int) - QjD).toNat/\(0:Int)<=QjD/\QjD<=4/\(-9223372036854775808<=QmI/\QmI<=9223372036854775807)/\(0<=QmI/\QmI<=(t.length:Int))/\(-9223372036854775808<=QjD/\QjD<=9223372036854775807),r11⟩) (4,0,0) [0,0,1,2,3,4] ⟨rfl,rfl,aM1,aM1,aM1,aM1,aM1⟩ ?_
 rintro ⟨r11,QmI,QjD⟩ ⟨hM14,hr15,hi16,hi17,hk18,ht19,hk20⟩
 refine QaE fun _ _ hL hA=>?_; dsimp only at hL hA; subst hL hA
 refine Fb 8 2 fun _=>Fo 2 fun ho22=>Fb 24 3 fun _=>Fb 88 4 fun _=>Fb 32 5 fun _=>KS ?_
 refine Oq Vm (Oq Qbo (KS ?_))
 refine Kc ?_ ?_
 ·intro h26
  have g27:=dt h26
  obtain ⟨r28,rfl⟩:=scc (n:=r11) aM1
  refine KS ?_
  refine Oq Vm ?_
  refine QaO (QbZ t QmI 5) fun rv32 hg33=>?_
  have hc34:=fn8 c7 ta0 tk0 t QmI 5 pre pre pre rv32 hg33
  refine Oc [0,1] ca8 hc34 ?_
  rintro ⟨c29,c30,c31⟩ ⟨he35,he36,he37⟩
  unfold Qaa at he35
  refine Jo 0 ?_; rintro a38 k39 rfl
  refine Fb 24 0 fun _=>?_
  refine Jo 1 ?_; rintro a41 k42 rfl
  refine Fb 88 1 fun _=>?_
  refine Jo 2 ?_; rintro a44 k45 rfl
  refine Fb 32 2 fun _=>?_
  have hds:=Qoq (by assumption:QbZ t QmI 5=rv32) aM1
  obtain ⟨hd1,hd2,hd3⟩:=hds
  have hv1:=hd1.n
  have hv2:=hd1.tl
  have hv3:=hd1.bl
  have hv4:=hd1.w
  have hv5:=hd1.dep_len
  refine Oa (Al QtF [vi 0,.slice none 0 0,.slice none 0 0,.slice none 0 0]) fun p47=>Ost (Scl [0] Qeh [vi rv32.1.Width,vl a38 k39 rv32.1.Deps,vl a41 k42 rv32.1.Transfers,vl a44 k45 rv32.1.Boundary]) (KS ?_)
  refine Oq Va (KS ?_)
  refine Kl (γ:=Nat×Int×Int) (fun (r48,Qla,QqO)=>⟨[(2,vi n),(3,vi bit),(5,p6),(9,c7),(10,vi QjD),(11,p47),(12,vi QqO)],[Cl p47 [vi rv32.1.Width,vl a38 k39 rv32.1.Deps,vl a41 k42 rv32.1.Transfers,vl a44 k45 rv32.1.Boundary],S a38 k39 rv32.1.Deps,S a41 k42 rv32.1.Transfers,S a44 k45 rv32.1.Boundary,Cl c7 [vl ta0 tk0 t,vi Qla],pv p6 [vi s.Width,vl sa1 sk1 s.Deps,vl sa2 sk2 s.Transfers,vl sa3 sk3 s.Boundary],S ta0 tk0 t,S sa1 sk1 s.Deps,S sa2 sk2 s.Transfers,S sa3 sk3 s.Boundary],Qbh t rv32.1.Width rv32.1.Deps rv32.1.Transfers rv32.1.Boundary r48 Qla QqO=Qbh t rv32.1.Width rv32.1.Deps rv32.1.Transfers rv32.1.Boundary (((rv32.1.Deps.length:Int) - 0).toNat) rv32.2 0/\r48=((rv32.1.Deps.length:Int) - QqO).toNat/\(0:Int)<=QqO/\QqO<=(rv32.1.Deps.length:Int)/\(-9223372036854775808<=Qla/\Qla<=9223372036854775807)/\(0<=Qla/\Qla<=(t.length:Int))/\(-9223372036854775808<=QqO/\QqO<=9223372036854775807),r48⟩) (((rv32.1.Deps.length:Int) - 0).toNat,rv32.2,0) [0,0,1,2,3,3,4,5,6,7] ⟨rfl,rfl,aM1,aM1,aM1,aM1,aM1⟩ ?_
  rintro ⟨r48,Qla,QqO⟩ ⟨hM51,hr52,hi53,hi54,hk55,ht56,hk57⟩
  refine QaE fun _ _ hL hA=>?_; dsimp only at hL hA; subst hL hA
  refine Fb 24 1 fun _=>Fb 88 2 fun _=>Fb 32 3 fun _=>Fb 8 6 fun _=>Fo 6 fun ho62=>Fb 24 7 fun _=>Fb 88 8 fun _=>Fb 32 9 fun _=>KS ?_
  refine Oq Vm (Oq (Vfa Qbt 0) (Oq (Qai QfL 0) (Oq (Qbc QeN) (Oq Qbo (KS ?_)))))
  refine Kc ?_ ?_
  ·intro h66
   have g67:=dt h66
   obtain ⟨r68,rfl⟩:=scc (n:=r48) aM1
   refine KS ?_
   refine Jp 0 fun hp69=>?_
   refine Qam [0,0,0,0,8,24,60,124,255,511] QcF ?_
   refine Dv [1] (Qar Qeh 0) (Dv [] Vm (Dv [] Vm (Dv [0] (Vfa Qb7 0) (Dv [1] (Qai sh3 0) (Dv [] QaS ?_)))))
   refine QaO (Qan t Qla (rv32.1.Width+2)) fun rv70 hg71=>Dx [5,7] [5] [2,0,1] (fun G=>vi rv70.1) [fun G=>SP.fact (Qaa rv70.1/\(0<=rv70.2/\rv70.2<=(t.length:Int))/\(0<=rv70.1/\(rv70.1 < (rv32.1.Width+2)\/rv70.1=0))),fun G=>Cl c7 [vl ta0 tk0 t,vi rv70.2]] (fun G=>xC [0,0] ca9 (fn9 c7 ta0 tk0 t Qla ((rv32.1.Width+2)) pre pre rv70 hg71)) ?_
   refine Dx [11] [] [0] (fun G=>vi (rv70.1 - 1)) [] (fun G=>by refine xf 0 rfl ?_; rintro ⟨he72,he73,he74⟩; unfold Qaa at he72; exact xV (Qjf)) ?_
   refine QaO (Qcg rv32.1 QqO (rv70.1 - 1)) fun rv75 hg76=>?_
   refine Dx [2,3,4,11] [] [1,2,3,4,0] (fun G=>vb rv75) [fun G=>SP.fact (True)] (fun G=>by refine xf 3 rfl ?_; rintro ⟨he77,he78,he79⟩; unfold Qaa at he77; exact xC [0,1,2] QxK (QxA rv32.1 a38 k39 a41 k42 a44 k45 QqO ((rv70.1 - 1)) pre pre pre rv75 hg76)) (Dv [] QcN ?_)
   refine Dn ⟨by kernel_rfl,fun G=>?_⟩
   refine Jw2 [(2,vi n),(3,vi bit),(5,p6),(9,c7),(10,vi QjD),(11,p47),(12,vi QqO),(37,vb (!rv75))] [0,1,2,3,4,6,7,8,9,10] [SP.fact (Qaa rv70.1/\(0<=rv70.2/\rv70.2<=(t.length:Int))/\(0<=rv70.1/\(rv70.1 < (rv32.1.Width+2)\/rv70.1=0))),Cl c7 [vl ta0 tk0 t,vi rv70.2],SP.fact (True)] ?_
   refine Jf 10 rfl ?_; rintro ⟨he80,he81,he82⟩
   unfold Qaa at he80
   refine Jk [1,1,2,3,4,5,6,7,8,10] ?_
   refine Kc ?_ ?_
   ·intro h83
    have h85:=not_true h83
    refine KS ?_
    refine Oq Va (KS ?_)
    have hR87:=q2 hM51 (.ret false) (by simp only [Qbh,h66,h83,h85,hg71,hg76,cs4])
    have hR88:=q2 hM14 (.ret false) (by simp only [QaV,h26,h66,h83,h85,hg33,hg71,hg76,hR87,cs4])
    have hq:=q4 hrr false (by unfold QbI; simp only [h26,h66,h83,h85,hg9,hg33,hg71,hg76,hR87,hR88,cs4]); subst hq
    exact Kr () rfl (.tmp rfl .nil) [] trivial
   intro h83
   have h90:=not_false h83
   refine KS ?_
   refine Oq Vm (Oq QaS (Oq Va (KS ?_)))
   exact Kg (r68,rv70.2,(QqO+1)) [0,0,1,2,8,3,4,5,6,7] ⟨(q3 hM51 (by simp only [Qbh,h66,h83,h90,hg71,hg76,cs4])),aM1,aM1,aM1,aM1,aM1,aM1⟩
  intro h66
  have g92:=df h66
  obtain rfl:r48=0:=by omega
  refine Ke ?_
  have hR93:=q2 hM51 (.brk Qla) (by simp only [Qbh,h66,cs4])
  refine KS ?_
  refine Oq Vm (Oq (Qar Qeh 0) ?_)
  refine QaO (Qcc t Qla rv32.1) fun rv97 hg98=>?_
  have hc99:=QBB c7 ta0 tk0 t Qla rv32.1 a38 k39 a41 k42 a44 k45 pre pre pre rv97 hg98
  refine Oc [4,5,1,2,3] QAX hc99 ?_
  rintro ⟨c94,c95,c96⟩ ⟨he100,he101⟩
  unfold Qaa at he100
  refine Jo 0 ?_; rintro a102 k103 rfl
  refine Fb 24 0 fun _=>?_
  refine Jo 1 ?_; rintro a105 k106 rfl
  refine Fb 88 1 fun _=>?_
  refine Jo 2 ?_; rintro a108 k109 rfl
  refine Fb 32 2 fun _=>?_
  refine QaO (Qcg rv97.1 0 0) fun rv111 hg112=>?_
  have hc113:=QxA rv97.1 a102 k103 a105 k106 a108 k109 0 0 pre pre pre rv111 hg112
  refine Oc [0,1,2] QxK hc113 ?_
  rintro - -
  refine Oq QcN (Oq Vm ?_)
  refine Js 43 ?_ ?_
  ·intro h114
   have h116:=not_true h114
   refine Osk (Osk (Osk (Osk (Osk (Oq Vpt (KS ?_))))))
   refine Kt (KS ?_)
   refine Oq Va (KS ?_)
   have hR118:=q2 hM14 (.ret false) (by simp only [QaV,h26,h66,h114,h116,hg33,hR93,hg98,hg112,cs4])
   have hq:=q4 hrr false (by unfold QbI; simp only [h26,h66,h114,h116,hg9,hg33,hR93,hg98,hg112,hR118,cs4]); subst hq
   exact Kr () rfl (.tmp rfl .nil) [] trivial
  intro h114
  have h120:=not_false h114
  refine Oq (Qar Qeh 4) (Oq Vm (Oq Vm ?_))
  refine QaO (Qcg rv32.1 n bit) fun rv122 hg123=>?_
  have hc124:=QxA rv32.1 a38 k39 a41 k42 a44 k45 n bit pre pre pre rv122 hg123
  refine Oc [5,6,7] QxK hc124 ?_
  rintro - -
  refine Oq QcN (Oq Vpf (KS ?_))
  refine Kc ?_ ?_
  ·intro h125
   have h127:=not_true h125
   refine KS ?_
   refine Oq Va (KS ?_)
   have hR129:=q2 hM14 (.ret false) (by simp only [QaV,h26,h66,h114,h120,h125,h127,hg33,hR93,hg98,hg112,hg123,cs4])
   have hq:=q4 hrr false (by unfold QbI; simp only [h26,h66,h114,h120,h125,h127,hg9,hg33,hR93,hg98,hg112,hg123,hR129,cs4]); subst hq
   exact Kr () rfl (.tmp rfl .nil) [] trivial
  intro h125
  have h131:=not_false h125
  refine KS ?_
  refine Oq Vm (Oq QaS (Oq Va (KS ?_)))
  exact Kg (r28,rv97.2,(QjD+1)) [3,7,8,9,10,11] ⟨(q3 hM14 (by simp only [QaV,h26,h66,h114,h120,h125,h131,hg33,hR93,hg98,hg112,hg123,cs4])),aM1,aM1,aM1,aM1,aM1,aM1⟩
 intro h26
 have g133:=df h26
 obtain rfl:r11=0:=by omega
 refine Ke ?_
 have hR134:=q2 hM14 (.brk ()) (by simp only [QaV,h26,cs4])
 refine KS ?_
 refine Oq (Qar Qeh 1) ?_
 refine QaO (Qiq s) fun rv135 hg136=>?_
 have hc137:=QB5 s sa1 sk1 sa2 sk2 sa3 sk3 pre rv135 hg136
 refine Oc [3,4,5] QCm hc137 ?_
 rintro - -
 refine Oq Vm ?_
 refine Js 52 ?_ ?_
 ·intro h138
  refine Osk (Osk (Osk (Osk (Osk (Osk (Osk (Oq Vpt (Oq Va (KS ?_)))))))))
  have hq:=q4 hrr true (by unfold QbI; simp only [h26,h138,hg9,hR134,hg136,cs4]); subst hq
  exact Kr () rfl (.tmp rfl .nil) [] trivial
 intro h138
 refine Oq (Qar Qeh 1) (Oq Vm (Oq Vm ?_))
 refine QaO (Qcg s n bit) fun rv141 hg142=>?_
 have hc143:=QxA s sa1 sk1 sa2 sk2 sa3 sk3 n bit pre pre pre rv141 hg142
 refine Oc [3,4,5] QxK hc143 ?_
 rintro - -
 refine Oq Vm ?_
 refine Js 57 ?_ ?_
 ·intro h144
  have hc146:=QCo  Qlc rfl
  refine Oc [] QAZ hc146 ?_
  rintro - -
  refine Oq Vpt (Oq Vpf (Oq Va (KS ?_)))
  have hq:=q4 hrr Qlc (by unfold QbI; simp only [h26,h138,h144,hg9,hR134,hg136,hg142,cs4]); subst hq
  exact Kr () rfl (.tmp rfl .nil) [] trivial
 intro h144
 refine Osk (Oq Vpf (Oq Vpf (Oq Va (KS ?_))))
 have hq:=q4 hrr false (by unfold QbI; simp only [h26,h138,h144,hg9,hR134,hg136,hg142,cs4]); subst hq
 exact Kr () rfl (.tmp rfl .nil) [] trivial
end Go.SL.G
