/- Part 4 of the walks: mirrors, plain laws and walks used by the last text of this claim. -/
import Derived.Test.YtbccjgpbflaibaaGreatW3
import Derived.Test.YtbccjgpbflaibaaGreatProg
set_option linter.unusedVariables false
set_option linter.unusedSimpArgs false
namespace Go.SL.G
open Go Go.SL Go.Proofs
set_option maxHeartbeats 20000000
set_option maxRecDepth 100000
theorem QBi (text:Str) (Qvp:text.b.length<=140737488355328) (rr:List Qbe×Int×Int×Int) (hrr:Qpb text=.ret rr):FT Tryz.prog 84 #[.string (bs text)] [] (fun g:Value=>Qaa rr.2.1/\Qaa rr.2.2.1/\Qaa rr.2.2.2) (fun g=>.tuple #[g,vi rr.2.1,vi rr.2.2.1,vi rr.2.2.2]) (fun g=>[sl g rr.1]):=by
 refine FTi Tryz.func84 fun w0 M0 F0=>?_
 have hx0:=lrn rr; have H:=hrr; unfold Qpb at H
 refine KS ?_
 refine Oq Va (Oq Va (Oq Va (Oq Va (KS ?_))))
 refine Oq Vm (Oq (VlS un9 (l:=text)) (Oq QgZ (KS ?_)))
 refine pF H hx0 fun h1 H=>?_
 refine KcF h1 ?_
 have g2:=df h1
 refine KS ?_
 refine Oq Va (KS ?_)
 refine Oq Va (Oq Va (Oq Va (KS ?_)))
 refine Oq Va (KS ?_)
 refine Jl [] (Ent.osNil (α:=Qbe)) ?_
 refine llH H hx0 fun X13 hX14 hx15 HL16=>?_
 refine Kl (γ:=Nat×List Qbe×Int×Bool×Int×Option Addr×Nat) (fun (r3,QcO,Qdh,open__6,i_7,a8,k9)=>⟨[(0,.string (bs text)),(6,vl a8 k9 QcO),(7,vi 1),(8,vi Qdh),(9,vb open__6),(10,vi i_7)],[O a8 k9 QcO],Qfc text r3 QcO Qdh open__6 i_7=X13/\(-9223372036854775808<=Qdh/\Qdh<=9223372036854775807)/\(-9223372036854775808<=i_7/\i_7<=9223372036854775807),r3⟩) (100000,[],1,false,0,none,0) [0] ⟨hX14,aM1,aM1⟩ ?_
 rintro ⟨r3,QcO,Qdh,open__6,i_7,a8,k9⟩ ⟨hM10,hk11,hk12⟩
 refine QaE fun _ _ hL hA=>?_; dsimp only at hL hA; subst hL hA
 refine Fb 40 0 fun _=>?_
 rcases r3 with _ | r3
 ·exact absurd (hM10.symm.trans rfl) hx15
 have H:=hM10; (try dsimp only at H); rw [Qfc] at H
 refine KS ?_
 refine Oq Vm (Oq Vm (Oq (VlS un9 (l:=text)) (Oq Qbo (KS ?_))))
 refine KcH H ?_ ?_
 ·intro h18 H
  have g19:=dt h18
  refine KS ?_
  refine Oq Vm (Oq Vm ?_)
  refine pC H hx15 fun hc20 H=>?_
  refine Oq (Vix un9 (l:=text)) ?_
  have hb21:=u8b (text.b.getD i_7.toNat 0)
  refine Oq Va (KS ?_)
  refine Oq Vm (Oq Qcb (Oq Vm ?_))
  refine JsH 28 H ?_ ?_
  ·intro h22 H
   have g23:=eq_of_beq h22
   refine Osk (Osk (Oq Vpt (Oq Va (KS ?_))))
   refine Kt (KS ?_)
   refine Oq Vm ?_
   refine pC H hx15 fun hc24 H=>?_
   refine Oq QaS (Oq Vm ?_)
   refine pC H hx15 fun hc25 H=>?_
   refine Oq QaS (Oq Va (Oq Va (KS ?_)))
   exact Kg (r3,QcO,(Qdh+1),open__6,(i_7+1),a8,k9) [0] ⟨H,aM1,aM1⟩
  intro h22 H
  have g26:=ne_of_beq_false h22
  refine Oq Vm (Oq Qcb (Oq Vpf (Oq Va (KS ?_))))
  refine pF H hx15 fun h27 H=>?_
  refine KcF h27 ?_
  have g28:=ne_of_beq_false h27
  refine KS ?_
  refine Oq Vm (Oq Qcb (Oq Vm ?_))
  refine pF H hx15 fun h29 H=>?_
  refine JsF 39 h29 ?_
  have g30:=ne_of_beq_false h29
  refine Oq Vm (Oq Qcb (Oq Vpf (Oq Vm ?_)))
  refine JsH 43 H ?_ ?_
  ·intro h31 H
   have g32:=eq_of_beq h31
   refine Osk (Osk (Oq Vpt (Oq Va (KS ?_))))
   refine Kt (KS ?_)
   refine Oq Vm (KS ?_)
   refine pT H hx15 fun h33 H=>?_
   refine KcT h33 ?_
   refine KS ?_
   refine Oq Vm (Oq Vm (Oq Vm (Oq (Vbd QrN [vi 3,.string (bs (Str.mk [])),vi 1,vi Qdh]) (Oa (AsV Qfk Qmq [.agg #[vi 3,.string (bs (Str.mk [])),vi 1,vi Qdh]] [vi 3,.string (bs (Str.mk [])),vi 1,vi Qdh]) fun c35=>?_))))
   refine Jo 0 ?_; rintro a36 k37 rfl
   refine Jl [0] (Ent.cr1 (α:=Qbe) (A:=[]) _ (Qbe.mk 3 (Str.mk []) 1 Qdh) _ aB1 (fun h=>⟨rfl,aL1,aS1,aL1,aL1⟩)) ?_
   refine pC H hx15 fun hc38 H=>?_
   refine Oa (ApO [1,0] Qfk Qfk Qmq) fun c39=>?_
   refine Jo 0 ?_; rintro a40 k41 rfl
   refine Fb 40 0 fun _=>?_
   have hn43:=la QcO ([(Qbe.mk 3 (Str.mk []) 1 Qdh)]:List Qbe)
   refine Oq Va (KS ?_)
   refine Oq Va (KS ?_)
   refine llH H hx15 fun X46 hX47 hx48 HL49=>?_
   refine Kl (γ:=Nat) (fun r44=>⟨[(0,.string (bs text)),(7,vi 1),(8,vi Qdh),(10,vi i_7),(11,.int .u8 ((text.b.getD i_7.toNat 0).toNat:Int)),(6,vl a40 k41 (QcO++[(Qbe.mk 3 (Str.mk []) 1 Qdh)])),(9,vb false)],[O a40 k41 ((QcO++[(Qbe.mk 3 (Str.mk []) 1 Qdh)]):List Qbe)],Qkt ((text.b.getD i_7.toNat 0).toNat:Int) r44=X46,r44⟩) 1 [0] hX47 ?_
   rintro r44 hM45
   refine QaE fun _ _ hL hA=>?_; dsimp only at hL hA; subst hL hA
   refine Fb 40 0 fun _=>?_
   rcases r44 with _ | r44
   ·exact absurd (hM45.symm.trans rfl) hx48
   have H:=hM45; (try dsimp only at H); rw [Qkt] at H
   refine KS ?_
   refine Oq Vm (Oq Qcb (Oq Vm ?_))
   refine pF H hx48 fun h51 H=>?_
   refine JsF 56 h51 ?_
   have g52:=ne_of_beq_false h51
   refine Osk (Osk (Osk (Osk (Oq Vpf (Oq Vm (Osk (Osk (Osk (Osk ?_)))))))))
   refine Oq Vpf (KS ?_)
   refine Kf ?_
   refine Ke ?_
   have H:=llB H HL49
   refine KS ?_
   refine Oq Vm (Oq Qcb (KS ?_))
   refine Kc ?_ ?_
   ·intro h53
    have g54:=eq_of_beq h53
    refine KS ?_
    refine Oq Vm ?_
    refine pC H hx15 fun hc55 H=>?_
    refine Oq QaS (Oq Vm ?_)
    refine pC H hx15 fun hc56 H=>?_
    refine Oq QaS (Oq Va (Oq Va (KS ?_)))
    refine Oq Vm (Oq Vm (Oq (VlS un9 (l:=text)) (Oq Qbo (Oq Vm ?_))))
    refine pT H hx15 fun h57 H=>?_
    refine JsT 82 h57 ?_
    have g58:=dt h57
    refine Oq Vm (Oq Vm ?_)
    refine pC H hx15 fun hc59 H=>?_
    refine Oq (Vix un9 (l:=text)) ?_
    have hb60:=u8b (text.b.getD ((i_7+1):Int).toNat 0)
    refine Oq Qcb (Oq Vpt (Oq Vm ?_))
    refine pF H hx15 fun h61 H=>?_
    refine JsF 88 h61 ?_
    have g62:=ne_of_beq_false h61
    refine Osk (Osk (Oq Vpf (KS ?_)))
    refine Kf (KS ?_)
    exact Kg (r3,(QcO++[(Qbe.mk 3 (Str.mk []) 1 Qdh)]),(Qdh+1),false,(i_7+1),a40,k41) [0] ⟨H,aM1,aM1⟩
   intro h53
   exact absurd h53 (by first | (simp [h31]; done) | (simp only [bne,h31]; decide) | (simp only [bne,h31,Bool.not_true,Bool.not_false]; decide) | (exfalso; omega) | (intro hq; simp only [bne,hq,Bool.not_false,Bool.not_true,reduceCtorEq] at h31))
  intro h31 H
  have g63:=ne_of_beq_false h31
  refine Oq Vm (Oq Qcb (Oq Vpf (Oq Va (KS ?_))))
  refine pF H hx15 fun h64 H=>?_
  refine KcF h64 ?_
  have g65:=ne_of_beq_false h64
  refine KS ?_
  refine Oq Vm (Oq Qcb (Oq Va (KS ?_)))
  refine KcH H ?_ ?_
  ·intro h66 H
   have g67:=eq_of_beq h66
   refine KS ?_
   refine Oq Vm (Oq Vm (Oq Vm (Oq (Vbd QrN [vi 2,.string (bs (Str.mk [61])),vi 1,vi Qdh]) (Oa (AsV Qfk Qmq [.agg #[vi 2,.string (bs (Str.mk [61])),vi 1,vi Qdh]] [vi 2,.string (bs (Str.mk [61])),vi 1,vi Qdh]) fun c68=>?_))))
   refine Jo 0 ?_; rintro a69 k70 rfl
   refine Jl [0] (Ent.cr1 (α:=Qbe) (A:=[]) _ (Qbe.mk 2 (Str.mk [61]) 1 Qdh) _ aB1 (fun h=>⟨rfl,aL1,aS1,aL1,aL1⟩)) ?_
   refine pC H hx15 fun hc71 H=>?_
   refine Oa (ApO [1,0] Qfk Qfk Qmq) fun c72=>?_
   refine Jo 0 ?_; rintro a73 k74 rfl
   refine Fb 40 0 fun _=>?_
   have hn76:=la QcO ([(Qbe.mk 2 (Str.mk [61]) 1 Qdh)]:List Qbe)
   refine Oq Va (KS ?_)
   refine Oq Vm ?_
   refine pC H hx15 fun hc77 H=>?_
   refine Oq QaS (Oq Vm ?_)
   refine pC H hx15 fun hc78 H=>?_
   refine Oq QaS (Oq Va (Oq Va (Oq Va (KS ?_))))
   exact Kg (r3,(QcO++[(Qbe.mk 2 (Str.mk [61]) 1 Qdh)]),(Qdh+1),true,(i_7+1),a73,k74) [0] ⟨H,aM1,aM1⟩
  intro h66 H
  have g79:=ne_of_beq_false h66
  refine KS ?_
  refine Oq Vm ?_
  refine lbH H hx15 fun rv80 hg81 H=>?_
  have hc82:=Qtt (((text.b.getD i_7.toNat 0).toNat:Int)) pre rv80 hg81
  refine Oc [] QsH hc82 ?_
  rintro - -
  refine Oq Vm ?_
  refine pT H hx15 fun h83 H=>?_
  refine JsT 112 h83 ?_
  refine Osk (Osk (Oq Vpt (Oq Va (KS ?_))))
  refine Kt (KS ?_)
  refine Oq Va (KS ?_)
  refine llH H hx15 fun X89 hX90 hx91 HL92=>?_
  refine Kl (γ:=Nat×Int) (fun (r85,Qkl)=>⟨[(0,.string (bs text)),(6,vl a8 k9 QcO),(7,vi 1),(8,vi Qdh),(10,vi i_7),(11,.int .u8 ((text.b.getD i_7.toNat 0).toNat:Int)),(12,vi Qkl)],[O a8 k9 QcO],QiR text i_7 r85 Qkl=X89/\(-9223372036854775808<=Qkl/\Qkl<=9223372036854775807),r85⟩) (100000,0) [0] ⟨hX90,aM1⟩ ?_
  rintro ⟨r85,Qkl⟩ ⟨hM87,hk88⟩
  refine QaE fun _ _ hL hA=>?_; dsimp only at hL hA; subst hL hA
  refine Fb 40 0 fun _=>?_
  rcases r85 with _ | r85
  ·exact absurd (hM87.symm.trans rfl) hx91
  have H:=hM87; (try dsimp only at H); rw [QiR] at H
  refine KS ?_
  refine Oq Vm (Oq Vm ?_)
  refine pC H hx91 fun hc94 H=>?_
  refine Oq QaS (Oq Vm (Oq (VlS un9 (l:=text)) (Oq Qbo (Oq Vm ?_))))
  refine JsH 122 H ?_ ?_
  ·intro h95 H
   have g96:=dt h95
   refine Oq Vm (Oq Vm (Oq Vm (Oq QaS ?_)))
   refine pC H hx91 fun hc97 H=>?_
   refine pC H hx91 fun hc98 H=>?_
   refine Oq (Vix un9 (l:=text)) ?_
   have hb99:=u8b (text.b.getD ((i_7+Qkl):Int).toNat 0)
   refine lbH H hx91 fun rv100 hg101 H=>?_
   have hc102:=Qtt (((text.b.getD ((i_7+Qkl):Int).toNat 0).toNat:Int)) pre rv100 hg101
   refine Oc [] QsH hc102 ?_
   rintro - -
   refine Oq Vm ?_
   refine JsH 129 H ?_ ?_
   ·intro h103 H
    refine Osk (Osk (Osk (Osk (Osk (Osk (Oq Vpt (Oq Vpt (KS ?_))))))))
    refine Kt (KS ?_)
    refine Oq Vm ?_
    refine pC H hx91 fun hc105 H=>?_
    refine Oq QaS (Oq Va (KS ?_))
    exact Kg (r85,(Qkl+1)) [0] ⟨H,aM1⟩
   intro h103 H
   refine Oq Vm (Oq Vm (Oq Vm (Oq QaS (Oq (Vix un9 (l:=text)) ?_))))
   have hb107:=u8b (text.b.getD ((i_7+Qkl):Int).toNat 0)
   refine pC H hx91 fun hc110 H=>?_
   refine pC H hx91 fun hc111 H=>?_
   refine lbH H hx91 fun rv108 hg109 H=>?_
   have hc112:=QuJ (((text.b.getD ((i_7+Qkl):Int).toNat 0).toNat:Int)) pre rv108 hg109
   refine Oc [] Qu8 hc112 ?_
   rintro - -
   refine Oq Vpf (Oq Vpt (KS ?_))
   refine pF H hx91 fun h113 H=>?_
   refine KcF h113 ?_
   refine Ke ?_
   have H:=llB H HL92
   refine KS ?_
   refine Oq Vm ?_
   refine lbH H hx15 fun rv115 hg116 H=>?_
   have hc117:=QuJ (((text.b.getD i_7.toNat 0).toNat:Int)) pre rv115 hg116
   refine Oc [] Qu8 hc117 ?_
   rintro - -
   refine KS ?_
   refine pF H hx15 fun h118 H=>?_
   refine KcF h118 ?_
   refine KS ?_
   refine Oq Vm (Oq QgZ (KS ?_))
   refine pF H hx15 fun h120 H=>?_
   refine KcF h120 ?_
   have g121:=df h120
   refine KS ?_
   refine Oq Vm (Oq Vm (Oq Vm (Oq Vm (Oq Vm (Oq QaS ?_)))))
   refine pC H hx15 fun hc122 H=>?_
   refine pC H hx15 fun hc123 H=>?_
   refine Oq (Qz3 un9 (l:=text)) ?_
   have hb124:=QpL text i_7.toNat ((i_7+Qkl):Int).toNat
   refine Oq Vm (Oq Vm (Oq (Vbd QrN [vi 1,.string (bs (text.sub i_7.toNat ((i_7+Qkl):Int).toNat)),vi 1,vi Qdh]) (Oa (AsV Qfk Qmq [.agg #[vi 1,.string (bs (text.sub i_7.toNat ((i_7+Qkl):Int).toNat)),vi 1,vi Qdh]] [vi 1,.string (bs (text.sub i_7.toNat ((i_7+Qkl):Int).toNat)),vi 1,vi Qdh]) fun c125=>?_)))
   refine Jo 0 ?_; rintro a126 k127 rfl
   refine Jl [0] (Ent.cr1 (α:=Qbe) (A:=[]) _ (Qbe.mk 1 (text.sub i_7.toNat ((i_7+Qkl):Int).toNat) 1 Qdh) _ aB1 (fun h=>⟨rfl,aL1,aS1,aL1,aL1⟩)) ?_
   refine pC H hx15 fun hc128 H=>?_
   refine Oa (ApO [1,0] Qfk Qfk Qmq) fun c129=>?_
   refine Jo 0 ?_; rintro a130 k131 rfl
   refine Fb 40 0 fun _=>?_
   have hn133:=la QcO ([(Qbe.mk 1 (text.sub i_7.toNat ((i_7+Qkl):Int).toNat) 1 Qdh)]:List Qbe)
   refine Oq Va (KS ?_)
   refine Oq Vm (Oq Vm (Oq QaS (Oq Vm (Oq Vm ?_))))
   refine pC H hx15 fun hc134 H=>?_
   refine pC H hx15 fun hc135 H=>?_
   refine Oq QaS (Oq Va (Oq Va (Oq Va (KS ?_))))
   exact Kg (r3,(QcO++[(Qbe.mk 1 (text.sub i_7.toNat ((i_7+Qkl):Int).toNat) 1 Qdh)]),(Qdh+Qkl),true,(i_7+Qkl),a130,k131) [0] ⟨H,aM1,aM1⟩
  intro h95 H
  have g136:=df h95
  refine Osk (Osk (Osk (Osk (Osk (Osk (Osk (Osk (Osk (Osk ?_)))))))))
  refine Osk (Osk (Osk (Osk (Oq Vpf (KS ?_)))))
  refine Kf ?_
  refine Ke ?_
  have H:=llB H HL92
  refine KS ?_
  refine Oq Vm ?_
  refine lbH H hx15 fun rv137 hg138 H=>?_
  have hc139:=QuJ (((text.b.getD i_7.toNat 0).toNat:Int)) pre rv137 hg138
  refine Oc [] Qu8 hc139 ?_
  rintro - -
  refine KS ?_
  refine pF H hx15 fun h140 H=>?_
  refine KcF h140 ?_
  refine KS ?_
  refine Oq Vm (Oq QgZ (KS ?_))
  refine pF H hx15 fun h142 H=>?_
  refine KcF h142 ?_
  have g143:=df h142
  refine KS ?_
  refine Oq Vm (Oq Vm (Oq Vm (Oq Vm (Oq Vm (Oq QaS ?_)))))
  refine pC H hx15 fun hc144 H=>?_
  refine pC H hx15 fun hc145 H=>?_
  refine Oq (Qz3 un9 (l:=text)) ?_
  have hb146:=QpL text i_7.toNat ((i_7+Qkl):Int).toNat
  refine Oq Vm (Oq Vm (Oq (Vbd QrN [vi 1,.string (bs (text.sub i_7.toNat ((i_7+Qkl):Int).toNat)),vi 1,vi Qdh]) (Oa (AsV Qfk Qmq [.agg #[vi 1,.string (bs (text.sub i_7.toNat ((i_7+Qkl):Int).toNat)),vi 1,vi Qdh]] [vi 1,.string (bs (text.sub i_7.toNat ((i_7+Qkl):Int).toNat)),vi 1,vi Qdh]) fun c147=>?_)))
  refine Jo 0 ?_; rintro a148 k149 rfl
  refine Jl [0] (Ent.cr1 (α:=Qbe) (A:=[]) _ (Qbe.mk 1 (text.sub i_7.toNat ((i_7+Qkl):Int).toNat) 1 Qdh) _ aB1 (fun h=>⟨rfl,aL1,aS1,aL1,aL1⟩)) ?_
  refine pC H hx15 fun hc150 H=>?_
  refine Oa (ApO [1,0] Qfk Qfk Qmq) fun c151=>?_
  refine Jo 0 ?_; rintro a152 k153 rfl
  refine Fb 40 0 fun _=>?_
  have hn155:=la QcO ([(Qbe.mk 1 (text.sub i_7.toNat ((i_7+Qkl):Int).toNat) 1 Qdh)]:List Qbe)
  refine Oq Va (KS ?_)
  refine Oq Vm (Oq Vm (Oq QaS (Oq Vm (Oq Vm ?_))))
  refine pC H hx15 fun hc156 H=>?_
  refine pC H hx15 fun hc157 H=>?_
  refine Oq QaS (Oq Va (Oq Va (Oq Va (KS ?_))))
  exact Kg (r3,(QcO++[(Qbe.mk 1 (text.sub i_7.toNat ((i_7+Qkl):Int).toNat) 1 Qdh)]),(Qdh+Qkl),true,(i_7+Qkl),a152,k153) [0] ⟨H,aM1,aM1⟩
 intro h18 H
 have g158:=df h18
 refine Ke ?_
 have H:=llB H HL16
 dsimp only at H
 refine KS ?_
 refine Oq Vm (KS ?_)
 refine pT H hx0 fun h159 H=>?_
 refine KcT h159 ?_
 refine KS ?_
 refine Oq Vm (Oq Vm (Oq Vm (Oq (Vbd QrN [vi 3,.string (bs (Str.mk [])),vi 1,vi Qdh]) (Oa (AsV Qfk Qmq [.agg #[vi 3,.string (bs (Str.mk [])),vi 1,vi Qdh]] [vi 3,.string (bs (Str.mk [])),vi 1,vi Qdh]) fun c161=>?_))))
 refine Jo 0 ?_; rintro a162 k163 rfl
 refine Jl [0] (Ent.cr1 (α:=Qbe) (A:=[]) _ (Qbe.mk 3 (Str.mk []) 1 Qdh) _ aB1 (fun h=>⟨rfl,aL1,aS1,aL1,aL1⟩)) ?_
 refine pC H hx0 fun hc164 H=>?_
 refine Oa (ApO [1,0] Qfk Qfk Qmq) fun c165=>?_
 refine Jo 0 ?_; rintro a166 k167 rfl
 refine Fb 40 0 fun _=>?_
 have hn169:=la QcO ([(Qbe.mk 3 (Str.mk []) 1 Qdh)]:List Qbe)
 refine Oq Va (KS ?_)
 refine Oq Vm (Oq Va (Oq Va (Oq Va (Oq Va (KS ?_)))))
 refine Jl [0] (Ent.freeze _ _) ?_
 have hq:=rI H; subst hq
 exact Kr (vl a166 k167 (QcO++[(Qbe.mk 3 (Str.mk []) 1 Qdh)])) rfl (.tmp rfl (.tmp rfl (.tmp rfl (.tmp rfl .nil)))) [0] en
theorem QvC (pP:Value) (p:Qah) (pa0:Option Addr) (pk0:Nat) (word:Str) (Ql8:Qaa p.at_) (Ql9:Qaa p.Err) (QzN:word.b.length<=140737488355328) (rr:Bool) (hrr:Qow p word=.ret rr):FT Tryz.prog 85 #[pP,.string (bs word)] [Cl pP [vl pa0 pk0 p.l,vi p.at_,vi p.Err],S pa0 pk0 p.l] (fun g:Unit=>True) (fun g=>vb rr) (fun g=>[Cl pP [vl pa0 pk0 p.l,vi p.at_,vi p.Err]]):=by
 refine FTi Tryz.func85 fun w0 M0 F0=>?_
 unfold Qaa at Ql8 Ql9
 refine Fb 40 1 fun _=>?_
 have hx0:=lrn rr; have H:=hrr; unfold Qow at H
 refine KS ?_
 refine Oq Va (KS ?_)
 refine Jp 0 fun hp2=>?_
 refine pT H hx0 fun h3 H=>?_
 have g4:=eq_of_beq h3
 refine pS H ?_ ?_
 ·intro h5 H
  have g6:=dt h5
  refine pC H hx0 fun hc7 H=>?_
  refine Qeo p.at_.toNat 2 rfl rng fun hb8 hb9 hb10 hb11=>?_
  unfold Qaa at hb8 hb10 hb11
  refine Kq [0,1,3,7,15,31,63,127,255,511,63,1087,3135,7231,15423,32767,65535,131071,262143,524287,1048575,2097151,262143,4456447,12845055,29622271,67108863,134217727,268435455,536870911,1073741823,2147483647,4294967295,8589934591,17179869183,34359738367,4294967295,73014444031,210453397503,485331304447,1099511627775,2199023255551,4398046511103,4294967295,17592186044415,35184372088831,70368744177663] QcF ?_
  refine Qv [] Vm (Qv [1] (Vn 0) (Qv [1] (Vfa QkB 0) (Qv [2] (Qai Qvx 0) (Qb h3 [] Qcb (Qv [] Vm (Qv [] Vm (Qv [1] (Vn 0) (Qv [1] (Vfa QcB 0) (Qv [2] (Qai sh3 0) ?_)))))))))
  refine Qv [] Vm (Qv [1] (Vn 0) (Qv [1] (Vfa Qf9 0) (Qv [2] (Qai QlD 0) (Qv [] (Qbc Qfk) (Qb h5 [] Qbo (Qv [] Vpt (Qv [] Vm (Qv [] Vm (Qv [1] (Vn 0) ?_)))))))))
  refine Qv [1] (Vfa Qf9 0) (Qv [2] (Qai QlD 0) (Qv [] Vm (Qv [1] (Vn 0) (Qv [1] (Vfa QcB 0) (Qv [2] (Qai sh3 0) (Qv [3] (Vi Qfk 0) (Qv [0] (Vfa QoV 0) (Qv [0] (Qai sh3 0) (Qv [] Qcb ?_)))))))))
  refine Qv [] Vpt ?_
  refine pC H hx0 fun hc13 H=>?_
  refine pT H hx0 fun h12 H=>?_
  have g14:=eq_of_beq h12
  refine Qb h12 [] Vm (Qv [] Vm (Qv [1] (Vn 0) (Qv [1] (Vfa Qf9 0) (Qv [2] (Qai QlD 0) (Qv [] Vm (Qv [1] (Vn 0) (Qv [1] (Vfa QcB 0) (Qv [2] (Qai sh3 0) (Qv [3] (Vi Qfk 0) ?_)))))))))
  refine Qv [0] (Vfa Qnu 0) (Qv [0] (Qai sh9 0) (Qv [] Vm (Qv [] (Qmv (l:=(p.l.getD p.at_.toNat default).Text) (m:=word)) (Qv [] Vpt (Qv [] Va ?_)))))
  refine Qn ⟨by kernel_rfl,?_⟩
  refine pC H hx0 fun hc15 H=>?_
  have hq:=rI H; subst hq
  exact Kr () rfl (.tmp rfl .nil) [2] trivial
 intro h5 H
 have g16:=df h5
 refine Kq [0,1,3,7,15,31,63,127,255,511,63,1087,3135,7231,15423,32767,65535,131071,262143,524287,1048575,2097151,262143,4456447,12845055,29622271,67108863,134217727,268435455,536870911,1073741823,2147483647,4294967295,8589934591,17179869183,34359738367,4294967295,73014444031,210453397503,485331304447,1099511627775,2199023255551,4398046511103,4294967295,17592186044415,35184372088831,70368744177663] QcF ?_
 refine Qv [] Vm (Qv [0] (Vn 0) (Qv [0] (Vfa QkB 0) (Qv [1] (Qai Qvx 0) (Qb h3 [] Qcb (Qv [] Vm (Qv [] Vm (Qv [0] (Vn 0) (Qv [0] (Vfa QcB 0) (Qv [1] (Qai sh3 0) ?_)))))))))
 refine Qv [] Vm (Qv [0] (Vn 0) (Qv [0] (Vfa Qf9 0) (Qv [1] (Qai QlD 0) (Qv [] (Qbc Qfk) (Qb h5 [] Qbo (Qv [] Vpt (Qv [] Vm (Qs (Qs ?_)))))))))
 refine Qs (Qs (Qs (Qs (Qs (Qs (Qs (Qs (Qs (Qs ?_)))))))))
 refine Qv [] Vpf (Qv [] Vm (Qs (Qs (Qs (Qs (Qs (Qs (Qs (Qs ?_)))))))))
 refine Qs (Qs (Qs (Qs (Qs (Qv [] Vpf (Qv [] Va ?_))))))
 refine Qn ⟨by kernel_rfl,?_⟩
 have hq:=rI H; subst hq
 exact Kr () rfl (.tmp rfl .nil) [1] trivial
theorem Qvb (pP:Value) (p:Qah) (pa0:Option Addr) (pk0:Nat) (w:Str) (Ql8:Qaa p.at_) (Ql9:Qaa p.Err) (QCT:w.b.length<=140737488355328) (rr:Qah) (hrr:Qlx p w=.ret rr):FT Tryz.prog 121 #[pP,.string (bs w)] [Cl pP [vl pa0 pk0 p.l,vi p.at_,vi p.Err],S pa0 pk0 p.l] (fun g:Unit=>Qaa rr.at_/\Qaa rr.Err) (fun g=>.tuple #[]) (fun g=>[Cl pP [vl pa0 pk0 p.l,vi rr.at_,vi rr.Err]]):=by
 refine FTi Tryz.func121 fun w0 M0 F0=>?_
 unfold Qaa at Ql8 Ql9
 refine Fb 40 1 fun _=>?_
 have hx0:=lrn rr; have H:=hrr; unfold Qlx at H
 refine KS ?_
 refine Oq Vm (Oq Vm ?_)
 refine lbH H hx0 fun rv2 hg3 H=>?_
 have hc4:=QvC pP p pa0 pk0 w pre pre pre rv2 hg3
 refine Oc [0,0] Qvt hc4 ?_
 rintro - -
 refine Oq QcN (KS ?_)
 refine pF H hx0 fun h5 H=>?_
 refine KcF h5 ?_
 have h7:=not_false h5
 refine KS ?_
 refine Oq Vm (Oq (Vn 0) (Oq (Vfa QcB 0) (Oq (Qai sh3 0) ?_)))
 refine pC H hx0 fun hc9 H=>?_
 refine Oq QaS (Oq (Vn 0) (Oq (Vfa QcB 0) (Ost (Qij [0] sh3 [vl pa0 pk0 p.l,vi (p.at_+1),vi p.Err]) (KS ?_))))
 have hq:=rI H; subst hq
 exact Kz () rfl .nil [0] en
theorem Qzj  (rr:List Str) (hrr:QjA=.ret rr):FT Tryz.prog 182 #[] [] (fun g:Value=>True) (fun g=>g) (fun g=>[sl g rr]):=by
 refine FTi Tryz.func182 fun w0 M0 F0=>?_
 have hx0:=lrn rr; have H:=hrr; unfold QjA at H
 refine KS ?_
 refine Oq Va (KS ?_)
 refine Oa (AsV Qcu Qii [.string (bs (Str.mk [102,117,110,99])),.string (bs (Str.mk [98,108,111,99,107])),.string (bs (Str.mk [101,110,100])),.string (bs (Str.mk [117,115,101])),.string (bs (Str.mk [99,97,108,108])),.string (bs (Str.mk [115,111,117,114,99,101])),.string (bs (Str.mk [115,105,110,107])),.string (bs (Str.mk [115,97,110,105,116,105,122,101])),.string (bs (Str.mk [103,111,116,111])),.string (bs (Str.mk [98,114,97,110,99,104])),.string (bs (Str.mk [114,101,116,117,114,110]))] [.string (bs (Str.mk [102,117,110,99])),.string (bs (Str.mk [98,108,111,99,107])),.string (bs (Str.mk [101,110,100])),.string (bs (Str.mk [117,115,101])),.string (bs (Str.mk [99,97,108,108])),.string (bs (Str.mk [115,111,117,114,99,101])),.string (bs (Str.mk [115,105,110,107])),.string (bs (Str.mk [115,97,110,105,116,105,122,101])),.string (bs (Str.mk [103,111,116,111])),.string (bs (Str.mk [98,114,97,110,99,104])),.string (bs (Str.mk [114,101,116,117,114,110]))]) fun c1=>?_
 refine Jo 0 ?_; rintro a2 k3 rfl
 refine Oq Va (KS ?_)
 refine Jl [0] (Ent.crOs (α:=Str) (A:=[]) _ ([(Str.mk [102,117,110,99]),(Str.mk [98,108,111,99,107]),(Str.mk [101,110,100]),(Str.mk [117,115,101]),(Str.mk [99,97,108,108]),(Str.mk [115,111,117,114,99,101]),(Str.mk [115,105,110,107]),(Str.mk [115,97,110,105,116,105,122,101]),(Str.mk [103,111,116,111]),(Str.mk [98,114,97,110,99,104]),(Str.mk [114,101,116,117,114,110])]:List Str) _ aB1 (fun h=>⟨[.string (bs (Str.mk [102,117,110,99]))],[.string (bs (Str.mk [98,108,111,99,107])),.string (bs (Str.mk [101,110,100])),.string (bs (Str.mk [117,115,101])),.string (bs (Str.mk [99,97,108,108])),.string (bs (Str.mk [115,111,117,114,99,101])),.string (bs (Str.mk [115,105,110,107])),.string (bs (Str.mk [115,97,110,105,116,105,122,101])),.string (bs (Str.mk [103,111,116,111])),.string (bs (Str.mk [98,114,97,110,99,104])),.string (bs (Str.mk [114,101,116,117,114,110]))],rfl,(fun _=>⟨rfl,by first | omega | (simp; done) | (dsimp only; omega) | exact QeK rfl⟩) h,⟨[.string (bs (Str.mk [98,108,111,99,107]))],[.string (bs (Str.mk [101,110,100])),.string (bs (Str.mk [117,115,101])),.string (bs (Str.mk [99,97,108,108])),.string (bs (Str.mk [115,111,117,114,99,101])),.string (bs (Str.mk [115,105,110,107])),.string (bs (Str.mk [115,97,110,105,116,105,122,101])),.string (bs (Str.mk [103,111,116,111])),.string (bs (Str.mk [98,114,97,110,99,104])),.string (bs (Str.mk [114,101,116,117,114,110]))],rfl,(fun _=>⟨rfl,by first | omega | (simp; done) | (dsimp only; omega) | exact QeK rfl⟩) h,⟨[.string (bs (Str.mk [101,110,100]))],[.string (bs (Str.mk [117,115,101])),.string (bs (Str.mk [99,97,108,108])),.string (bs (Str.mk [115,111,117,114,99,101])),.string (bs (Str.mk [115,105,110,107])),.string (bs (Str.mk [115,97,110,105,116,105,122,101])),.string (bs (Str.mk [103,111,116,111])),.string (bs (Str.mk [98,114,97,110,99,104])),.string (bs (Str.mk [114,101,116,117,114,110]))],rfl,(fun _=>⟨rfl,by first | omega | (simp; done) | (dsimp only; omega) | exact QeK rfl⟩) h,⟨[.string (bs (Str.mk [117,115,101]))],[.string (bs (Str.mk [99,97,108,108])),.string (bs (Str.mk [115,111,117,114,99,101])),.string (bs (Str.mk [115,105,110,107])),.string (bs (Str.mk [115,97,110,105,116,105,122,101])),.string (bs (Str.mk [103,111,116,111])),.string (bs (Str.mk [98,114,97,110,99,104])),.string (bs (Str.mk [114,101,116,117,114,110]))],rfl,(fun _=>⟨rfl,by first | omega | (simp; done) | (dsimp only; omega) | exact QeK rfl⟩) h,⟨[.string (bs (Str.mk [99,97,108,108]))],[.string (bs (Str.mk [115,111,117,114,99,101])),.string (bs (Str.mk [115,105,110,107])),.string (bs (Str.mk [115,97,110,105,116,105,122,101])),.string (bs (Str.mk [103,111,116,111])),.string (bs (Str.mk [98,114,97,110,99,104])),.string (bs (Str.mk [114,101,116,117,114,110]))],rfl,(fun _=>⟨rfl,by first | omega | (simp; done) | (dsimp only; omega) | exact QeK rfl⟩) h,⟨[.string (bs (Str.mk [115,111,117,114,99,101]))],[.string (bs (Str.mk [115,105,110,107])),.string (bs (Str.mk [115,97,110,105,116,105,122,101])),.string (bs (Str.mk [103,111,116,111])),.string (bs (Str.mk [98,114,97,110,99,104])),.string (bs (Str.mk [114,101,116,117,114,110]))],rfl,(fun _=>⟨rfl,by first | omega | (simp; done) | (dsimp only; omega) | exact QeK rfl⟩) h,⟨[.string (bs (Str.mk [115,105,110,107]))],[.string (bs (Str.mk [115,97,110,105,116,105,122,101])),.string (bs (Str.mk [103,111,116,111])),.string (bs (Str.mk [98,114,97,110,99,104])),.string (bs (Str.mk [114,101,116,117,114,110]))],rfl,(fun _=>⟨rfl,by first | omega | (simp; done) | (dsimp only; omega) | exact QeK rfl⟩) h,⟨[.string (bs (Str.mk [115,97,110,105,116,105,122,101]))],[.string (bs (Str.mk [103,111,116,111])),.string (bs (Str.mk [98,114,97,110,99,104])),.string (bs (Str.mk [114,101,116,117,114,110]))],rfl,(fun _=>⟨rfl,by first | omega | (simp; done) | (dsimp only; omega) | exact QeK rfl⟩) h,⟨[.string (bs (Str.mk [103,111,116,111]))],[.string (bs (Str.mk [98,114,97,110,99,104])),.string (bs (Str.mk [114,101,116,117,114,110]))],rfl,(fun _=>⟨rfl,by first | omega | (simp; done) | (dsimp only; omega) | exact QeK rfl⟩) h,⟨[.string (bs (Str.mk [98,114,97,110,99,104]))],[.string (bs (Str.mk [114,101,116,117,114,110]))],rfl,(fun _=>⟨rfl,by first | omega | (simp; done) | (dsimp only; omega) | exact QeK rfl⟩) h,⟨[.string (bs (Str.mk [114,101,116,117,114,110]))],[],rfl,(fun _=>⟨rfl,by first | omega | (simp; done) | (dsimp only; omega) | exact QeK rfl⟩) h,rfl⟩⟩⟩⟩⟩⟩⟩⟩⟩⟩⟩)) ?_
 refine Jl [0] (Ent.freeze _ _) ?_
 have hq:=rI H; subst hq
 exact Kr (.slice a2 11 k3) rfl (.tmp rfl .nil) [0] trivial
theorem QrR (s:Str) (QcL:s.b.length<=140737488355328) (rr:Bool) (hrr:QgB s=.ret rr):FT Tryz.prog 176 #[.string (bs s)] [] (fun g:Unit=>True) (fun g=>vb rr) (fun g=>[]):=by
 refine FTi Tryz.func176 fun w0 M0 F0=>?_
 have hx0:=lrn rr; have H:=hrr; unfold QgB at H
 refine KS ?_
 refine Oq Va (KS ?_)
 refine Oq Vm (Oq (VlS un9 (l:=s)) (Oq Qcb (Oq Vm ?_)))
 refine JsH 9 H ?_ ?_
 ·intro h1 H
  have g2:=eq_of_beq h1
  refine Osk (Osk (Osk (Oq Vpt (Oq Vm (Osk (Osk (Osk (Osk (Oq Vpt ?_)))))))))
  refine Oq Vm (Osk (Osk (Osk (Oq Vpt (KS ?_)))))
  refine Kt (KS ?_)
  refine Oq Va (KS ?_)
  have hq:=rI H; subst hq
  exact Kr () rfl (.tmp rfl .nil) [] trivial
 intro h1 H
 have g3:=ne_of_beq_false h1
 refine Oq Vm (Oq (VlS un9 (l:=s)) (Oq QgZ (Oq Vpf (Oq Vm ?_))))
 refine pF H hx0 fun h4 H=>?_
 refine JsF 14 h4 ?_
 have g5:=df h4
 refine Oq Vm ?_
 refine pC H hx0 fun hc6 H=>?_
 refine Oq (Vix un9 (l:=s)) ?_
 have hb7:=u8b (s.b.getD (0:Int).toNat 0)
 refine lbH H hx0 fun rv8 hg9 H=>?_
 have hc10:=Qtt (((s.b.getD (0:Int).toNat 0).toNat:Int)) pre rv8 hg9
 refine Oc [] QsH hc10 ?_
 rintro - -
 refine Oq QcN (Oq Vpf (Oq Vm ?_))
 refine pF H hx0 fun h11 H=>?_
 refine JsF 20 h11 ?_
 have h13:=not_false h11
 refine Oq Vm (Oq (Vix un9 (l:=s)) ?_)
 have hb15:=u8b (s.b.getD (0:Int).toNat 0)
 refine Oq Qcb (Oq Vpf (KS ?_))
 refine pC H hx0 fun hc17 H=>?_
 refine pF H hx0 fun h16 H=>?_
 refine KcF h16 ?_
 have g18:=ne_of_beq_false h16
 refine KS ?_
 refine Oq Va (KS ?_)
 refine llH H hx0 fun X26 hX27 hx28 HL29=>?_
 refine Kl (γ:=Nat×Int) (fun (r19,Qsj)=>⟨[(0,.string (bs s)),(3,vi Qsj)],[],QfC s r19 Qsj=X26/\r19=((s.b.length:Int) - Qsj).toNat/\(0:Int)<=Qsj/\Qsj<=(s.b.length:Int)/\(-9223372036854775808<=Qsj/\Qsj<=9223372036854775807),r19⟩) (((s.b.length:Int) - 0).toNat,0) [] ⟨hX27,rfl,aM1,aM1,aM1⟩ ?_
 rintro ⟨r19,Qsj⟩ ⟨hM21,hr22,hi23,hi24,hk25⟩
 refine QaE fun _ _ hL hA=>?_; dsimp only at hL hA; subst hL hA
 refine KS ?_
 refine Oq Vm (Oq Vm (Oq (VlS un9 (l:=s)) (Oq Qbo (KS ?_))))
 refine Kc ?_ ?_
 ·intro h30
  have g31:=dt h30
  obtain ⟨r32,rfl⟩:=scc (n:=r19) aM1
  have H:=hM21; (try dsimp only at H); rw [QfC] at H
  refine KS ?_
  refine Oq Vm (Oq Vm ?_)
  refine pC H hx28 fun hc33 H=>?_
  refine Oq (Vix un9 (l:=s)) ?_
  have hb34:=u8b (s.b.getD Qsj.toNat 0)
  refine lbH H hx28 fun rv35 hg36 H=>?_
  have hc37:=Qtt (((s.b.getD Qsj.toNat 0).toNat:Int)) pre rv35 hg36
  refine Oc [] QsH hc37 ?_
  rintro - -
  refine Oq QcN (Oq Vm ?_)
  refine pF H hx28 fun h38 H=>?_
  refine JsF 36 h38 ?_
  have h40:=not_false h38
  refine Osk (Osk (Osk (Osk (Osk (Oq Vpf (KS ?_))))))
  refine Kf (KS ?_)
  refine Oq Vm (Oq QaS (Oq Va (KS ?_)))
  refine pC H hx28 fun hc42 H=>?_
  exact Kg (r32,(Qsj+1)) [] ⟨H,aM1,aM1,aM1,aM1⟩
 intro h30
 have g43:=df h30
 obtain rfl:r19=0:=by omega
 have H:=hM21; (try dsimp only at H); rw [QfC] at H
 refine Ke ?_
 have H:=llB H HL29
 refine KS ?_
 refine lbH H hx0 fun rv45 hg46 H=>?_
 have hc47:=Qzj  rv45 hg46
 refine Oc [] QyT hc47 ?_
 rintro c44 -
 refine Jo 0 ?_; rintro a48 k49 rfl
 refine Fb 16 0 fun _=>?_
 refine FoS 0 fun ho51=>?_
 refine Oq Va (KS ?_)
 refine Oq Va (KS ?_)
 refine llH H hx0 fun X59 hX60 hx61 HL62=>?_
 refine Kl (γ:=Nat×Int) (fun (r52,Qsk)=>⟨[(0,.string (bs s)),(4,vl a48 k49 rv45),(5,vi Qsk)],[S a48 k49 rv45],Qfy s rv45 r52 Qsk=X59/\r52=((rv45.length:Int) - Qsk).toNat/\(0:Int)<=Qsk/\Qsk<=(rv45.length:Int)/\(-9223372036854775808<=Qsk/\Qsk<=9223372036854775807),r52⟩) (((rv45.length:Int) - 0).toNat,0) [0] ⟨hX60,rfl,aM1,aM1,aM1⟩ ?_
 rintro ⟨r52,Qsk⟩ ⟨hM54,hr55,hi56,hi57,hk58⟩
 refine QaE fun _ _ hL hA=>?_; dsimp only at hL hA; subst hL hA
 refine Fb 16 0 fun _=>?_
 refine FoS 0 fun ho64=>?_
 refine KS ?_
 refine Oq Vm (Oq Vm (Oq (Qbc Qcu) (Oq Qbo (KS ?_))))
 refine Kc ?_ ?_
 ·intro h65
  have g66:=dt h65
  obtain ⟨r67,rfl⟩:=scc (n:=r52) aM1
  have H:=hM54; (try dsimp only at H); rw [Qfy] at H
  refine KS ?_
  refine Oq Vm (Oq Vm ?_)
  refine pC H hx61 fun hc68 H=>?_
  refine Oq (Vi Qcu 0) ?_
  have hb69:=okS (i:=Qsk.toNat) ho64 rng
  refine Oq (Qtu sh9 0) (Oq Vm (Oq (Qmv (l:=(rv45.getD Qsk.toNat default)) (m:=s)) (KS ?_)))
  refine KcH H ?_ ?_
  ·intro h70 H
   have g71:=eq_of_beq h70
   refine KS ?_
   refine Oq Va (KS ?_)
   have H:=llR H HL62
   have hq:=rI H; subst hq
   exact Kr () rfl (.tmp rfl .nil) [] trivial
  intro h70 H
  have g72:=ne_of_beq_false h70
  refine KS ?_
  refine Oq Vm (Oq QaS (Oq Va (KS ?_)))
  refine pC H hx61 fun hc73 H=>?_
  exact Kg (r67,(Qsk+1)) [0] ⟨H,aM1,aM1,aM1,aM1⟩
 intro h65
 have g74:=df h65
 obtain rfl:r52=0:=by omega
 have H:=hM54; (try dsimp only at H); rw [Qfy] at H
 refine Ke ?_
 have H:=llB H HL62
 refine KS ?_
 refine Oq Va (KS ?_)
 have hq:=rI H; subst hq
 exact Kr () rfl (.tmp rfl .nil) [] trivial
theorem Qrj (pP:Value) (p:Qah) (pa0:Option Addr) (pk0:Nat) (Ql8:Qaa p.at_) (Ql9:Qaa p.Err) (rr:Bool) (hrr:Qgq p=.ret rr):FT Tryz.prog 154 #[pP] [Cl pP [vl pa0 pk0 p.l,vi p.at_,vi p.Err],S pa0 pk0 p.l] (fun g:Unit=>True) (fun g=>vb rr) (fun g=>[Cl pP [vl pa0 pk0 p.l,vi p.at_,vi p.Err]]):=by
 refine FTi Tryz.func154 fun w0 M0 F0=>?_
 unfold Qaa at Ql8 Ql9
 refine Fb 40 1 fun _=>?_
 have hx0:=lrn rr; have H:=hrr; unfold Qgq at H
 refine KS ?_
 refine Oq Va (KS ?_)
 refine Jp 0 fun hp2=>?_
 refine pT H hx0 fun h3 H=>?_
 have g4:=eq_of_beq h3
 refine pT H hx0 fun h5 H=>?_
 have g6:=dt h5
 refine pC H hx0 fun hc7 H=>?_
 refine Qeo p.at_.toNat 2 rfl rng fun hb8 hb9 hb10 hb11=>?_
 unfold Qaa at hb8 hb10 hb11
 refine Qam [0,1,3,7,15,31,63,127,255,511,63,1087,3135,7231,15423,32767,65535,131071,262143,524287,1048575,2097151,262143,4456447,12845055,29622271,67108863,134217727,268435455,536870911,1073741823,2147483647,4294967295,8589934591,17179869183,34359738367,4294967295,73014444031,210453397503,485331304447,1099511627775,2199023255551,4398046511103,8796093022207,17592186044415,35184372088831] QcF ?_
 refine Dv [] Vm (Dv [1] (Vn 0) (Dv [1] (Vfa QkB 0) (Dv [2] (Qai Qvx 0) (Db h3 [] Qcb (Dv [] Vm (Dv [] Vm (Dv [1] (Vn 0) (Dv [1] (Vfa QcB 0) (Dv [2] (Qai sh3 0) ?_)))))))))
 refine Dv [] Vm (Dv [1] (Vn 0) (Dv [1] (Vfa Qf9 0) (Dv [2] (Qai QlD 0) (Dv [] (Qbc Qfk) (Db h5 [] Qbo (Dv [] Vpt (Dv [] Vm (Dv [] Vm (Dv [1] (Vn 0) ?_)))))))))
 refine Dv [1] (Vfa Qf9 0) (Dv [2] (Qai QlD 0) (Dv [] Vm (Dv [1] (Vn 0) (Dv [1] (Vfa QcB 0) (Dv [2] (Qai sh3 0) (Dv [3] (Vi Qfk 0) (Dv [0] (Vfa QoV 0) (Dv [0] (Qai sh3 0) (Dv [] Qcb ?_)))))))))
 refine Dv [] Vpt ?_
 refine pC H hx0 fun hc13 H=>?_
 refine pS H ?_ ?_
 ·intro h12 H
  have g14:=eq_of_beq h12
  refine Db h12 [] Vm (Dv [] Vm (Dv [1] (Vn 0) (Dv [1] (Vfa Qf9 0) (Dv [2] (Qai QlD 0) (Dv [] Vm (Dv [1] (Vn 0) (Dv [1] (Vfa QcB 0) (Dv [2] (Qai sh3 0) (Dv [3] (Vi Qfk 0) ?_)))))))))
  refine Dv [0] (Vfa Qnu 0) (Dv [0] (Qai sh9 0) ?_)
  refine pC H hx0 fun hc17 H=>?_
  refine lbH H hx0 fun rv15 hg16 H=>?_
  refine Dx [] [] [0] (fun G=>vb rv15) [fun G=>SP.fact (True)] (fun G=>xC [] Qrt (QrR ((p.l.getD p.at_.toNat default).Text) pre rv15 hg16)) (Dv [] Vpt (Dv [] Va ?_))
  refine Dn ⟨by kernel_rfl,fun G=>?_⟩
  refine Jw2 [(2,vb rv15)] [0,1,2,3] [SP.fact (True)] ?_
  refine Jk [0,2,2] ?_
  have hq:=rI H; subst hq
  exact Kr () rfl (.tmp rfl .nil) [1] trivial
 intro h12 H
 have g18:=ne_of_beq_false h12
 refine Db h12 [] Vm (Ds (Ds (Ds (Ds (Ds (Ds (Ds (Ds (Ds ?_)))))))))
 refine Ds (Ds (Ds (Dv [] Vpf (Dv [] Va ?_))))
 refine Dn ⟨by kernel_rfl,fun G=>?_⟩
 refine Jw2 [(2,vb false)] [0,1,2,3] [] ?_
 refine Jk [0,2,2] ?_
 have hq:=rI H; subst hq
 exact Kr () rfl (.tmp rfl .nil) [1] trivial
theorem Qo8 (pP:Value) (p:Qah) (pa0:Option Addr) (pk0:Nat) (Ql8:Qaa p.at_) (Ql9:Qaa p.Err) (rr:Str×Qah) (hrr:QhW p=.ret rr):FT Tryz.prog 122 #[pP] [Cl pP [vl pa0 pk0 p.l,vi p.at_,vi p.Err],S pa0 pk0 p.l] (fun g:Unit=>rr.1.b.length<=140737488355328/\Qaa rr.2.at_/\Qaa rr.2.Err) (fun g=>.string (bs rr.1)) (fun g=>[Cl pP [vl pa0 pk0 p.l,vi rr.2.at_,vi rr.2.Err]]):=by
 refine FTi Tryz.func122 fun w0 M0 F0=>?_
 unfold Qaa at Ql8 Ql9
 refine Fb 40 1 fun _=>?_
 have hx0:=lrn rr; have H:=hrr; unfold QhW at H
 refine KS ?_
 refine Oq Va (KS ?_)
 refine Oq Vm ?_
 refine lbH H hx0 fun rv2 hg3 H=>?_
 have hc4:=Qrj pP p pa0 pk0 pre pre rv2 hg3
 refine Oc [0,0] Qsh hc4 ?_
 rintro - -
 refine Oq QcN (KS ?_)
 refine pF H hx0 fun h5 H=>?_
 refine KcF h5 ?_
 have h7:=not_false h5
 refine KS ?_
 refine Oq Vm (Oq (Vn 0) (Oq (Vfa QcB 0) (Oq (Qai sh3 0) ?_)))
 refine pC H hx0 fun hc9 H=>?_
 refine Oq QaS (Oq (Vn 0) (Oq (Vfa QcB 0) (Ost (Qij [0] sh3 [vl pa0 pk0 p.l,vi (p.at_+1),vi p.Err]) (KS ?_))))
 refine Jp 0 fun hp10=>?_
 refine pC H hx0 fun hc11 H=>?_
 refine pC H hx0 fun hc12 H=>?_
 refine Qeo (((p.at_+1) - 1):Int).toNat 2 rfl rng fun hb13 hb14 hb15 hb16=>?_
 unfold Qaa at hb13 hb15 hb16
 refine Kq [0,1,3,7,0,16,48,112,240,511,1023,2047,4095] QcF ?_
 refine Qv [] Vm (Qv [1] (Vn 0) (Qv [1] (Vfa Qf9 0) (Qv [2] (Qai QlD 0) (Qv [] Vm (Qv [1] (Vn 0) (Qv [1] (Vfa QcB 0) (Qv [2] (Qai sh3 0) (Qv [] Qjf (Qv [3] (Vi Qfk 0) ?_)))))))))
 refine Qv [0] (Vfa Qnu 0) (Qv [0] (Qai sh9 0) (Qv [] Va ?_))
 refine Qn ⟨by kernel_rfl,?_⟩
 refine pC H hx0 fun hc17 H=>?_
 have hq:=rI H; subst hq
 exact Kr () rfl (.tmp rfl .nil) [2] en
theorem Quw (pP:Value) (p:Qah) (pa0:Option Addr) (pk0:Nat) (k:Int) (Ql8:Qaa p.at_) (Ql9:Qaa p.Err) (QzK:Qaa k) (rr:Bool) (hrr:Qiw p k=.ret rr):FT Tryz.prog 155 #[pP,vi k] [Cl pP [vl pa0 pk0 p.l,vi p.at_,vi p.Err],S pa0 pk0 p.l] (fun g:Unit=>True) (fun g=>vb rr) (fun g=>[Cl pP [vl pa0 pk0 p.l,vi p.at_,vi p.Err]]):=by
 refine FTi Tryz.func155 fun w0 M0 F0=>?_
 unfold Qaa at Ql8 Ql9 QzK
 refine Fb 40 1 fun _=>?_
 have hx0:=lrn rr; have H:=hrr; unfold Qiw at H
 refine KS ?_
 refine Oq Va (KS ?_)
 refine Jp 0 fun hp2=>?_
 refine pT H hx0 fun h3 H=>?_
 have g4:=eq_of_beq h3
 refine pT H hx0 fun h5 H=>?_
 have g6:=dt h5
 refine pC H hx0 fun hc7 H=>?_
 refine Qeo p.at_.toNat 2 rfl rng fun hb8 hb9 hb10 hb11=>?_
 unfold Qaa at hb8 hb10 hb11
 refine Kq [0,1,3,7,15,31,63,127,255,511,63,1087,3135,7231,15423,32767,65535,131071,262143,524287,1048575,2097151,262143,4456447,12845055,29622271,67108863,134217727,268435455,262143,1073741823,2147483647,4294967295] QcF ?_
 refine Qv [] Vm (Qv [1] (Vn 0) (Qv [1] (Vfa QkB 0) (Qv [2] (Qai Qvx 0) (Qb h3 [] Qcb (Qv [] Vm (Qv [] Vm (Qv [1] (Vn 0) (Qv [1] (Vfa QcB 0) (Qv [2] (Qai sh3 0) ?_)))))))))
 refine Qv [] Vm (Qv [1] (Vn 0) (Qv [1] (Vfa Qf9 0) (Qv [2] (Qai QlD 0) (Qv [] (Qbc Qfk) (Qb h5 [] Qbo (Qv [] Vpt (Qv [] Vm (Qv [] Vm (Qv [1] (Vn 0) ?_)))))))))
 refine Qv [1] (Vfa Qf9 0) (Qv [2] (Qai QlD 0) (Qv [] Vm (Qv [1] (Vn 0) (Qv [1] (Vfa QcB 0) (Qv [2] (Qai sh3 0) (Qv [3] (Vi Qfk 0) (Qv [0] (Vfa QoV 0) (Qv [0] (Qai sh3 0) (Qv [] Vm ?_)))))))))
 refine Qv [] Qcb (Qv [] Vpt (Qv [] Va ?_))
 refine Qn ⟨by kernel_rfl,?_⟩
 refine pC H hx0 fun hc12 H=>?_
 have hq:=rI H; subst hq
 exact Kr () rfl (.tmp rfl .nil) [2] trivial
theorem QnA (pP:Value) (p:Qah) (pa0:Option Addr) (pk0:Nat) (Ql8:Qaa p.at_) (Ql9:Qaa p.Err) (rr:Qah) (hrr:QiB p=.ret rr):FT Tryz.prog 123 #[pP] [Cl pP [vl pa0 pk0 p.l,vi p.at_,vi p.Err],S pa0 pk0 p.l] (fun g:Unit=>Qaa rr.at_/\Qaa rr.Err) (fun g=>.tuple #[]) (fun g=>[Cl pP [vl pa0 pk0 p.l,vi rr.at_,vi rr.Err]]):=by
 refine FTi Tryz.func123 fun w0 M0 F0=>?_
 unfold Qaa at Ql8 Ql9
 refine Fb 40 1 fun _=>?_
 have hx0:=lrn rr; have H:=hrr; unfold QiB at H
 refine KS ?_
 refine Oq Vm ?_
 refine lbH H hx0 fun rv2 hg3 H=>?_
 have hc4:=Quw pP p pa0 pk0 3 pre pre pre rv2 hg3
 refine Oc [0,0] Qun hc4 ?_
 rintro - -
 refine Oq QcN (KS ?_)
 refine pF H hx0 fun h5 H=>?_
 refine KcF h5 ?_
 have h7:=not_false h5
 refine KS ?_
 refine Oq Vm (Oq (Vn 0) (Oq (Vfa QcB 0) (Oq (Qai sh3 0) ?_)))
 refine pC H hx0 fun hc9 H=>?_
 refine Oq QaS (Oq (Vn 0) (Oq (Vfa QcB 0) (Ost (Qij [0] sh3 [vl pa0 pk0 p.l,vi (p.at_+1),vi p.Err]) (KS ?_))))
 have hq:=rI H; subst hq
 exact Kz () rfl .nil [0] en
theorem QvL (pP:Value) (p:Qah) (pa0:Option Addr) (pk0:Nat) (Ql8:Qaa p.at_) (Ql9:Qaa p.Err) (rr:Bool) (hrr:Qkc p=.ret rr):FT Tryz.prog 156 #[pP] [Cl pP [vl pa0 pk0 p.l,vi p.at_,vi p.Err],S pa0 pk0 p.l] (fun g:Unit=>True) (fun g=>vb rr) (fun g=>[Cl pP [vl pa0 pk0 p.l,vi p.at_,vi p.Err]]):=by
 refine FTi Tryz.func156 fun w0 M0 F0=>?_
 unfold Qaa at Ql8 Ql9
 refine Fb 40 1 fun _=>?_
 have hx0:=lrn rr; have H:=hrr; unfold Qkc at H
 refine KS ?_
 refine Oq Va (KS ?_)
 refine Oa (AsV Qcu Qii [.string (bs (Str.mk [117,115,101])),.string (bs (Str.mk [99,97,108,108])),.string (bs (Str.mk [115,111,117,114,99,101])),.string (bs (Str.mk [115,105,110,107])),.string (bs (Str.mk [115,97,110,105,116,105,122,101])),.string (bs (Str.mk [103,111,116,111])),.string (bs (Str.mk [98,114,97,110,99,104])),.string (bs (Str.mk [114,101,116,117,114,110]))] [.string (bs (Str.mk [117,115,101])),.string (bs (Str.mk [99,97,108,108])),.string (bs (Str.mk [115,111,117,114,99,101])),.string (bs (Str.mk [115,105,110,107])),.string (bs (Str.mk [115,97,110,105,116,105,122,101])),.string (bs (Str.mk [103,111,116,111])),.string (bs (Str.mk [98,114,97,110,99,104])),.string (bs (Str.mk [114,101,116,117,114,110]))]) fun c2=>?_
 refine Jo 0 ?_; rintro a3 k4 rfl
 refine Oq Va (KS ?_)
 refine Oq Va (KS ?_)
 refine Jl [0] (Ent.crOs (α:=Str) (A:=[]) _ ([(Str.mk [117,115,101]),(Str.mk [99,97,108,108]),(Str.mk [115,111,117,114,99,101]),(Str.mk [115,105,110,107]),(Str.mk [115,97,110,105,116,105,122,101]),(Str.mk [103,111,116,111]),(Str.mk [98,114,97,110,99,104]),(Str.mk [114,101,116,117,114,110])]:List Str) _ aB1 (fun h=>⟨[.string (bs (Str.mk [117,115,101]))],[.string (bs (Str.mk [99,97,108,108])),.string (bs (Str.mk [115,111,117,114,99,101])),.string (bs (Str.mk [115,105,110,107])),.string (bs (Str.mk [115,97,110,105,116,105,122,101])),.string (bs (Str.mk [103,111,116,111])),.string (bs (Str.mk [98,114,97,110,99,104])),.string (bs (Str.mk [114,101,116,117,114,110]))],rfl,(fun _=>⟨rfl,by first | omega | (simp; done) | (dsimp only; omega) | exact QeK rfl⟩) h,⟨[.string (bs (Str.mk [99,97,108,108]))],[.string (bs (Str.mk [115,111,117,114,99,101])),.string (bs (Str.mk [115,105,110,107])),.string (bs (Str.mk [115,97,110,105,116,105,122,101])),.string (bs (Str.mk [103,111,116,111])),.string (bs (Str.mk [98,114,97,110,99,104])),.string (bs (Str.mk [114,101,116,117,114,110]))],rfl,(fun _=>⟨rfl,by first | omega | (simp; done) | (dsimp only; omega) | exact QeK rfl⟩) h,⟨[.string (bs (Str.mk [115,111,117,114,99,101]))],[.string (bs (Str.mk [115,105,110,107])),.string (bs (Str.mk [115,97,110,105,116,105,122,101])),.string (bs (Str.mk [103,111,116,111])),.string (bs (Str.mk [98,114,97,110,99,104])),.string (bs (Str.mk [114,101,116,117,114,110]))],rfl,(fun _=>⟨rfl,by first | omega | (simp; done) | (dsimp only; omega) | exact QeK rfl⟩) h,⟨[.string (bs (Str.mk [115,105,110,107]))],[.string (bs (Str.mk [115,97,110,105,116,105,122,101])),.string (bs (Str.mk [103,111,116,111])),.string (bs (Str.mk [98,114,97,110,99,104])),.string (bs (Str.mk [114,101,116,117,114,110]))],rfl,(fun _=>⟨rfl,by first | omega | (simp; done) | (dsimp only; omega) | exact QeK rfl⟩) h,⟨[.string (bs (Str.mk [115,97,110,105,116,105,122,101]))],[.string (bs (Str.mk [103,111,116,111])),.string (bs (Str.mk [98,114,97,110,99,104])),.string (bs (Str.mk [114,101,116,117,114,110]))],rfl,(fun _=>⟨rfl,by first | omega | (simp; done) | (dsimp only; omega) | exact QeK rfl⟩) h,⟨[.string (bs (Str.mk [103,111,116,111]))],[.string (bs (Str.mk [98,114,97,110,99,104])),.string (bs (Str.mk [114,101,116,117,114,110]))],rfl,(fun _=>⟨rfl,by first | omega | (simp; done) | (dsimp only; omega) | exact QeK rfl⟩) h,⟨[.string (bs (Str.mk [98,114,97,110,99,104]))],[.string (bs (Str.mk [114,101,116,117,114,110]))],rfl,(fun _=>⟨rfl,by first | omega | (simp; done) | (dsimp only; omega) | exact QeK rfl⟩) h,⟨[.string (bs (Str.mk [114,101,116,117,114,110]))],[],rfl,(fun _=>⟨rfl,by first | omega | (simp; done) | (dsimp only; omega) | exact QeK rfl⟩) h,rfl⟩⟩⟩⟩⟩⟩⟩⟩)) ?_
 refine Fb 16 0 fun _=>?_
 refine FoS 0 fun ho6=>?_
 refine llH H hx0 fun X14 hX15 hx16 HL17=>?_
 refine Kl (γ:=Nat×Int) (fun (r7,i_8)=>⟨[(0,pP),(3,.slice a3 8 k4),(4,vi i_8)],[os (.slice a3 8 k4) ([(Str.mk [117,115,101]),(Str.mk [99,97,108,108]),(Str.mk [115,111,117,114,99,101]),(Str.mk [115,105,110,107]),(Str.mk [115,97,110,105,116,105,122,101]),(Str.mk [103,111,116,111]),(Str.mk [98,114,97,110,99,104]),(Str.mk [114,101,116,117,114,110])]:List Str),Cl pP [vl pa0 pk0 p.l,vi p.at_,vi p.Err],S pa0 pk0 p.l],QfA p r7 i_8=X14/\r7=((((8:Nat):Int):Int) - i_8).toNat/\(0:Int)<=i_8/\(i_8<=((8:Nat):Int)\/i_8=0)/\(-9223372036854775808<=i_8/\i_8<=9223372036854775807),r7⟩) (((((8:Nat):Int):Int) - 0).toNat,0) [0,0,0] ⟨hX15,rfl,aM1,(.inr rfl),aM1⟩ ?_
 rintro ⟨r7,i_8⟩ ⟨hM9,hr10,hi11,hi12,hk13⟩
 refine QaE fun _ _ hL hA=>?_; dsimp only at hL hA; subst hL hA
 refine Fb 16 0 fun _=>?_
 refine FoS 0 fun ho19=>?_
 refine Fl 0 fun hn20=>Fb 40 2 fun _=>?_
 refine KS ?_
 refine Oq Vm (Oq Vm (Oq (Qbc Qcu) (Oq Qbo (KS ?_))))
 refine Kc ?_ ?_
 ·intro h22
  have g23:=dt h22
  obtain ⟨r24,rfl⟩:=scc (n:=r7) aM1
  have H:=hM9; (try dsimp only at H); rw [QfA] at H
  refine KS ?_
  refine Oq Vm (Oq Vm (Oq Vm ?_))
  refine pC H hx16 fun hc25 H=>?_
  refine Oq (Vi Qcu 0) ?_
  have hb26:=okS (i:=i_8.toNat) ho19 rng
  refine Oq (Qtu sh9 0) ?_
  refine lbH H hx16 fun rv27 hg28 H=>?_
  have hc29:=QvC pP p pa0 pk0 (([(Str.mk [117,115,101]),(Str.mk [99,97,108,108]),(Str.mk [115,111,117,114,99,101]),(Str.mk [115,105,110,107]),(Str.mk [115,97,110,105,116,105,122,101]),(Str.mk [103,111,116,111]),(Str.mk [98,114,97,110,99,104]),(Str.mk [114,101,116,117,114,110])].getD i_8.toNat default)) pre pre pre rv27 hg28
  refine Oc [1,1] Qvt hc29 ?_
  rintro - -
  refine KS ?_
  refine KcH H ?_ ?_
  ·intro h30 H
   refine KS ?_
   refine Oq Va (KS ?_)
   have H:=llR H HL17
   have hq:=rI H; subst hq
   exact Kr () rfl (.tmp rfl .nil) [0] trivial
  intro h30 H
  refine KS ?_
  refine Oq Vm (Oq QaS (Oq Va (KS ?_)))
  refine pC H hx16 fun hc33 H=>?_
  exact Kg (r24,(i_8+1)) [1,0,0] ⟨H,aM1,aM1,aM1,aM1⟩
 intro h22
 have g34:=df h22
 obtain rfl:r7=0:=by omega
 have H:=hM9; (try dsimp only at H); rw [QfA] at H
 refine Ke ?_
 have H:=llB H HL17
 refine KS ?_
 refine Oq Vm ?_
 refine lbH H hx0 fun rv35 hg36 H=>?_
 have hc37:=Qrj pP p pa0 pk0 pre pre rv35 hg36
 refine Oc [1,1] Qsh hc37 ?_
 rintro - -
 refine Oq Va (KS ?_)
 have hq:=rI H; subst hq
 exact Kr () rfl (.tmp rfl .nil) [0] trivial
theorem QvX (pP:Value) (p:Qah) (pa0:Option Addr) (pk0:Nat) (have_:Int) (Ql8:Qaa p.at_) (Ql9:Qaa p.Err) (hhave__0:Qaa have_) (rr:List Str×Qah) (hrr:Qnt p have_=.ret rr):FT Tryz.prog 177 #[pP,vi have_] [Cl pP [vl pa0 pk0 p.l,vi p.at_,vi p.Err],S pa0 pk0 p.l] (fun g:Value=>Qaa rr.2.at_/\Qaa rr.2.Err) (fun g=>g) (fun g=>[sl g rr.1,Cl pP [vl pa0 pk0 p.l,vi rr.2.at_,vi rr.2.Err]]):=by
 refine FTi Tryz.func177 fun w0 M0 F0=>?_
 unfold Qaa at Ql8 Ql9 hhave__0
 refine Fb 40 1 fun _=>?_
 have hx0:=lrn rr; have H:=hrr; unfold Qnt at H
 refine KS ?_
 refine Oq Va (KS ?_)
 refine Oq Va (KS ?_)
 refine llH H hx0 fun X4 hX5 hx6 HL7=>?_
 refine Kl (γ:=Nat) (fun r2=>⟨[(0,pP),(1,vi have_),(5,.slice none 0 0)],[Cl pP [vl pa0 pk0 p.l,vi p.at_,vi p.Err],S pa0 pk0 p.l],Qkw p r2=X4,r2⟩) 1 [0,0] hX5 ?_
 rintro r2 hM3
 refine QaE fun _ _ hL hA=>?_; dsimp only at hL hA; subst hL hA
 refine Fb 40 1 fun _=>?_
 rcases r2 with _ | r2
 ·exact absurd (hM3.symm.trans rfl) hx6
 have H:=hM3; (try dsimp only at H); rw [Qkw] at H
 refine KS ?_
 refine Oq Vm ?_
 refine lbH H hx6 fun rv9 hg10 H=>?_
 have hc11:=Qrj pP p pa0 pk0 pre pre rv9 hg10
 refine Oc [0,0] Qsh hc11 ?_
 rintro - -
 refine KS ?_
 refine pF H hx6 fun h12 H=>?_
 refine KcF h12 ?_
 refine Ke ?_
 have H:=llB H HL7
 refine KS ?_
 refine Oq Vm (Oq Va (KS ?_))
 refine Jl [] (Ent.slNil (α:=Str)) ?_
 have hq:=rI H; subst hq
 exact Kr (.slice none 0 0) rfl (.tmp rfl .nil) [0,1] en
theorem Qxi (pP:Value) (p:Qah) (pa0:Option Addr) (pk0:Nat) (Ql8:Qaa p.at_) (Ql9:Qaa p.Err) (rr:List Str×Qah) (hrr:Qln p=.ret rr):FT Tryz.prog 178 #[pP] [Cl pP [vl pa0 pk0 p.l,vi p.at_,vi p.Err],S pa0 pk0 p.l] (fun g:Value=>Qaa rr.2.at_/\Qaa rr.2.Err) (fun g=>g) (fun g=>[sl g rr.1,Cl pP [vl pa0 pk0 p.l,vi rr.2.at_,vi rr.2.Err]]):=by
 refine FTi Tryz.func178 fun w0 M0 F0=>?_
 unfold Qaa at Ql8 Ql9
 refine Fb 40 1 fun _=>?_
 have hx0:=lrn rr; have H:=hrr; unfold Qln at H
 refine KS ?_
 refine Oq Va (KS ?_)
 refine Oq Va (KS ?_)
 refine Jl [] (Ent.osNil (α:=Str)) ?_
 refine llH H hx0 fun X11 hX12 hx13 HL14=>?_
 refine Kl (γ:=Nat×Int×Int×List Str×Option Addr×Nat) (fun (r2,Qvq,Qvr,Qpu,a6,k7)=>⟨[(0,pP),(3,vl a6 k7 Qpu)],[O a6 k7 Qpu,Cl pP [vl pa0 pk0 p.l,vi Qvq,vi Qvr],S pa0 pk0 p.l],QhX p r2 Qvq Qvr Qpu=X11/\(-9223372036854775808<=Qvq/\Qvq<=9223372036854775807)/\(-9223372036854775808<=Qvr/\Qvr<=9223372036854775807),r2⟩) (100000,p.at_,p.Err,[],none,0) [0,0,0] ⟨hX12,aM1,aM1⟩ ?_
 rintro ⟨r2,Qvq,Qvr,Qpu,a6,k7⟩ ⟨hM8,hk9,hk10⟩
 refine QaE fun _ _ hL hA=>?_; dsimp only at hL hA; subst hL hA
 refine Fb 16 0 fun _=>?_
 refine FoS 0 fun ho16=>?_
 refine Fb 40 2 fun _=>?_
 rcases r2 with _ | r2
 ·exact absurd (hM8.symm.trans rfl) hx13
 have H:=hM8; (try dsimp only at H); rw [QhX] at H
 refine KS ?_
 refine Oq Vm ?_
 refine lbH H hx13 fun rv18 hg19 H=>?_
 have hc20:=Qrj pP (Qah.mk p.l Qvq Qvr) pa0 pk0 pre pre rv18 hg19
 refine Oc [1,1] Qsh hc20 ?_
 rintro - -
 refine KS ?_
 refine KcH H ?_ ?_
 ·intro h21 H
  refine KS ?_
  refine Oq Vm (Oq (Qbc Qcu) (Oq Qcb (KS ?_)))
  refine pF H hx13 fun h23 H=>?_
  refine KcF h23 ?_
  have g24:=ne_of_beq_false h23
  refine KS ?_
  refine Oq Vm (Oq Vm ?_)
  refine lbH H hx13 fun rv25 hg26 H=>?_
  have hc27:=Qo8 pP (Qah.mk p.l Qvq Qvr) pa0 pk0 pre pre rv25 hg26
  refine Oc [0,1] Qpt hc27 ?_
  rintro - ⟨he28,he29,he30⟩
  unfold Qaa at he29 he30
  refine Oa (AsV Qcu Qii [.string (bs rv25.1)] [.string (bs rv25.1)]) fun c31=>?_
  refine Jo 0 ?_; rintro a32 k33 rfl
  refine Jl [0] (Ent.cr1 (α:=Str) (A:=[]) _ rv25.1 _ aB1 (fun _=>⟨rfl,aS1⟩)) ?_
  refine pC H hx13 fun hc34 H=>?_
  refine Oa (ApO [2,0] Qcu Qcu Qii) fun c35=>?_
  refine Jo 0 ?_; rintro a36 k37 rfl
  refine Fb 16 0 fun _=>?_
  refine FoS 0 fun ho39=>?_
  have hn40:=la Qpu ([rv25.1]:List Str)
  refine Oq Va (KS ?_)
  exact Kg (r2,rv25.2.at_,rv25.2.Err,(Qpu++[rv25.1]),a36,k37) [0,0,0] ⟨H,aM1,aM1⟩
 intro h21 H
 refine Ke ?_
 have H:=llB H HL14
 dsimp only at H
 refine KS ?_
 refine Oq Vm (Oq Va (KS ?_))
 refine Jl [1] (Ent.freeze _ _) ?_
 have hq:=rI H; subst hq
 exact Kr (vl a6 k7 Qpu) rfl (.tmp rfl .nil) [0,1] en
theorem Qyn (pP:Value) (p:Qah) (pa0:Option Addr) (pk0:Nat) (Ql8:Qaa p.at_) (Ql9:Qaa p.Err) (rr:QdB×Qah) (hrr:Qpq p=.ret rr):FT Tryz.prog 157 #[pP] [Cl pP [vl pa0 pk0 p.l,vi p.at_,vi p.Err],S pa0 pk0 p.l] (fun g:Value×Value=>Qaa rr.1.Op/\rr.1.Def.b.length<=140737488355328/\Qaa rr.2.at_/\Qaa rr.2.Err) (fun g=>.agg #[vi rr.1.Op,.string (bs rr.1.Def),g.1,g.2]) (fun g=>[sl g.1 rr.1.Uses,sl g.2 rr.1.Targets,Cl pP [vl pa0 pk0 p.l,vi rr.2.at_,vi rr.2.Err]]):=by
 refine FTi Tryz.func157 fun w0 M0 F0=>?_
 unfold Qaa at Ql8 Ql9
 refine Fb 40 1 fun _=>?_
 have hx0:=lrn rr; have H:=hrr; unfold Qpq at H
 refine KS ?_
 refine Oa (Al Qqx [vi 0,.string (bs (Str.mk [])),.slice none 0 0,.slice none 0 0]) fun p2=>KS ?_
 refine Oa (Al Qqx [vi 0,.string (bs (Str.mk [])),.slice none 0 0,.slice none 0 0]) fun p3=>KS ?_
 refine Oq Va (KS ?_)
 refine Oq Vm ?_
 refine lbH H hx0 fun rv4 hg5 H=>?_
 have hc6:=Qrj pP p pa0 pk0 pre pre rv4 hg5
 refine Oc [2,2] Qsh hc6 ?_
 rintro - -
 refine Oq QcN (KS ?_)
 refine KcH H ?_ ?_
 ·intro h7 H
  have h9:=not_true h7
  refine KS ?_
  refine Jp 0 fun hp11=>?_
  refine pC H hx0 fun hc12 H=>?_
  refine Qeo p.at_.toNat 4 rfl rng fun hb13 hb14 hb15 hb16=>?_
  unfold Qaa at hb13 hb15 hb16
  refine Kq [0,1,3,7,0,16,48,112,255,511,1023,2047] QcF ?_
  refine Qv [] Vm (Qv [1] (Vn 0) (Qv [1] (Vfa Qf9 0) (Qv [2] (Qai QlD 0) (Qv [] Vm (Qv [1] (Vn 0) (Qv [1] (Vfa QcB 0) (Qv [2] (Qai sh3 0) (Qv [5] (Vi Qfk 0) (Qv [0] (Vfa Qnu 0) ?_)))))))))
  refine Qv [0] (Qai sh9 0) (Qv [] Va ?_)
  refine Qn ⟨by kernel_rfl,?_⟩
  refine KS ?_
  refine Oq Vm (Oq (Vn 2) (Oq (Vfa QcB 2) (Oq (Qai sh3 2) ?_)))
  refine pC H hx0 fun hc17 H=>?_
  refine pC H hx0 fun hc18 H=>?_
  refine Oq QaS (Oq (Vn 2) (Oq (Vfa QcB 2) (Ost (Qij [2] sh3 [vl pa0 pk0 p.l,vi (p.at_+1),vi p.Err]) (KS ?_))))
  refine Oq Vm (KS ?_)
  refine Oq (Qmv (l:=(p.l.getD p.at_.toNat default).Text) (m:=(Str.mk [117,115,101]))) (Oq Va (KS ?_))
  refine KcH H ?_ ?_
  ·intro h19 H
   have g20:=eq_of_beq h19
   refine KS ?_
   refine Oq Vm ?_
   refine lbH H hx0 fun rv21 hg22 H=>?_
   have hc23:=Qo8 pP (Qah.mk p.l (p.at_+1) p.Err) pa0 pk0 pre pre rv21 hg22
   refine Oc [0,4] Qpt hc23 ?_
   rintro - ⟨he24,he25,he26⟩
   unfold Qaa at he25 he26
   refine Oa (AsV Qcu Qii [.string (bs rv21.1)] [.string (bs rv21.1)]) fun c27=>?_
   refine Jo 0 ?_; rintro a28 k29 rfl
   refine Oq (Vfa QdV 4) (Ost (Qij [4] sh3 [vi 2,.string (bs (Str.mk [])),.slice none 0 0,.slice none 0 0]) (Oq (Vfa QfN 0) (Ost (Qij [0] Qjq [vi 2,.string (bs (Str.mk [])),.slice a28 1 k29,.slice none 0 0]) (KS ?_))))
   refine Jp 0 fun hp30=>?_
   refine Qam [0,1,0,4,15,31,63] QcF ?_
   refine Dv [0] (Vfa QfN 0) (Dv [1] (Qai Qjq 0) (Dv [] Vm ?_))
   refine lbH H hx0 fun rv32 hg33 H=>?_
   refine Dx [3,7] [3] [3,0,1,2] (fun G=>(G.g 3 0)) [fun G=>SP.fact (Qaa rv32.2.at_/\Qaa rv32.2.Err),fun G=>sl (G.g 3 0) rv32.1,fun G=>Cl pP [vl pa0 pk0 p.l,vi rv32.2.at_,vi rv32.2.Err]] (fun G=>xC [0,0] Qwc (QvX pP (Qah.mk p.l rv21.2.at_ rv21.2.Err) pa0 pk0 1 pre pre pre rv32 hg33)) ?_
   refine pC H hx0 fun hc34 H=>?_
   have hn36:([rv21.1]++rv32.1:List Str).length=1+rv32.1.length:=la ([rv21.1]:List Str) rv32.1
   refine Dx [2,8,9] [2] [1,2,0] (fun G=>(G.g 4 0)) [fun G=>os (G.g 4 0) (([rv21.1]++rv32.1):List Str)] (fun G=>by refine xf 1 rfl ?_; rintro ⟨he37,he38⟩; unfold Qaa at he37 he38; exact xp [0] rfl (Ent.cr1 (α:=Str) (A:=[]) _ rv21.1 _ aB1 (fun _=>⟨rfl,aS1⟩)) (xA (Ap [0,1] Qcu Qcu Qii))) (Dv [0] (Vfa QfN 0) (Dx0 [1,11] [1] [1,0] [fun G=>Cl p3 [vi 2,.string (bs (Str.mk [])),(G.g 4 0),.slice none 0 0]] (fun G=>x1 1 rfl Qcn fun ho39=>(xS (OpS.frame [0] rfl (OpS.storeClF [(G.g 4 0)] [vi 2,.string (bs (Str.mk [])),(G.g 4 0),.slice none 0 0] rfl rfl rfl Qjq (QaF ho39) rfl (by simp only [List.all_cons,List.all_nil,ho39,Bool.and_true,Bool.true_and] <;> rfl) aB1 rfl)))) ?_))
   refine Dn ⟨by kernel_rfl,fun G=>?_⟩
   refine Jw2 [(0,pP),(2,p2),(3,p3)] [0,4,5,6,7] [SP.fact (Qaa rv32.2.at_/\Qaa rv32.2.Err),sl (G.g 3 0) rv32.1,Cl pP [vl pa0 pk0 p.l,vi rv32.2.at_,vi rv32.2.Err],os (G.g 4 0) (([rv21.1]++rv32.1):List Str),Cl p3 [vi 2,.string (bs (Str.mk [])),(G.g 4 0),.slice none 0 0]] ?_
   generalize G.g 3 0=c31,G.g 4 0=c35
   refine Jf 5 rfl ?_; rintro ⟨he40,he41⟩
   unfold Qaa at he40 he41
   refine Jk [1,3,3,5,6,6,6] ?_
   refine Jo 3 ?_; rintro a42 k43 rfl
   refine Fb 16 3 fun _=>?_
   refine FoS 3 fun ho45=>?_
   refine Jo 5 ?_; rintro a46 k47 rfl
   refine Fb 16 5 fun _=>?_
   refine FoS 5 fun ho49=>?_
   refine KS ?_
   refine Oq Vm ?_
   refine lbH H hx0 fun rv50 hg51 H=>?_
   have hc52:=QnA pP (Qah.mk p.l rv32.2.at_ rv32.2.Err) pa0 pk0 pre pre rv50 hg51
   refine Oc [4,2] Qnj hc52 ?_
   rintro - ⟨he53,he54⟩
   unfold Qaa at he53 he54
   refine KS ?_
   refine Oq (Qar Qek 6) (Ost (Scl [2] Qek [vi 2,.string (bs (Str.mk [])),vl a46 k47 ([rv21.1]++rv32.1),.slice none 0 0]) (KS ?_))
   refine Jl [5] (Ent.freeze _ _) ?_
   refine Jl [] (Ent.slNil (α:=Str)) ?_
   have hq:=rI H; subst hq
   exact Kr (vl a46 k47 ([rv21.1]++rv32.1),.slice none 0 0) rfl (.cellN 2 rfl Qek rfl (Qak _ _) rfl .nil) [1,0,3] en
  intro h19 H
  have g55:=ne_of_beq_false h19
  refine KS ?_
  refine Oq (Qmv (l:=(p.l.getD p.at_.toNat default).Text) (m:=(Str.mk [99,97,108,108]))) (Oq Va (KS ?_))
  refine pF H hx0 fun h56 H=>?_
  refine KcF h56 ?_
  have g57:=ne_of_beq_false h56
  refine KS ?_
  refine Oq (Qmv (l:=(p.l.getD p.at_.toNat default).Text) (m:=(Str.mk [115,111,117,114,99,101]))) (Oq Va (KS ?_))
  refine pF H hx0 fun h58 H=>?_
  refine KcF h58 ?_
  have g59:=ne_of_beq_false h58
  refine KS ?_
  refine Oq (Qmv (l:=(p.l.getD p.at_.toNat default).Text) (m:=(Str.mk [115,105,110,107]))) (Oq Va (KS ?_))
  refine pF H hx0 fun h60 H=>?_
  refine KcF h60 ?_
  have g61:=ne_of_beq_false h60
  refine KS ?_
  refine Oq (Qmv (l:=(p.l.getD p.at_.toNat default).Text) (m:=(Str.mk [115,97,110,105,116,105,122,101]))) (Oq Va (KS ?_))
  refine pF H hx0 fun h62 H=>?_
  refine KcF h62 ?_
  have g63:=ne_of_beq_false h62
  refine KS ?_
  refine Oq (Qmv (l:=(p.l.getD p.at_.toNat default).Text) (m:=(Str.mk [103,111,116,111]))) (Oq Va (KS ?_))
  refine pF H hx0 fun h64 H=>?_
  refine KcF h64 ?_
  have g65:=ne_of_beq_false h64
  refine KS ?_
  refine Oq (Qmv (l:=(p.l.getD p.at_.toNat default).Text) (m:=(Str.mk [98,114,97,110,99,104]))) (Oq Va (KS ?_))
  refine pF H hx0 fun h66 H=>?_
  refine KcF h66 ?_
  have g67:=ne_of_beq_false h66
  refine KS ?_
  refine Oq (Qmv (l:=(p.l.getD p.at_.toNat default).Text) (m:=(Str.mk [114,101,116,117,114,110]))) (Oq Va (KS ?_))
  refine KcH H ?_ ?_
  ·intro h68 H
   have g69:=eq_of_beq h68
   refine KS ?_
   refine Oq (Vfa QdV 3) (Ost (Qij [3] sh3 [vi 9,.string (bs (Str.mk [])),.slice none 0 0,.slice none 0 0]) (KS ?_))
   refine Oq Vm ?_
   refine lbH H hx0 fun rv70 hg71 H=>?_
   have hc72:=QnA pP (Qah.mk p.l (p.at_+1) p.Err) pa0 pk0 pre pre rv70 hg71
   refine Oc [1,4] Qnj hc72 ?_
   rintro - ⟨he73,he74⟩
   unfold Qaa at he73 he74
   refine KS ?_
   refine Oq (Qar Qek 1) (Ost (Scl [4] Qek [vi 9,.string (bs (Str.mk [])),.slice none 0 0,.slice none 0 0]) (KS ?_))
   refine Jl [] (Ent.slNil (α:=Str)) ?_
   have hq:=rI H; subst hq
   exact Kr (.slice none 0 0,.slice none 0 0) rfl (.cellN 1 rfl Qek rfl (Qak _ _) rfl .nil) [0,0,2] en
  intro h68 H
  have g75:=ne_of_beq_false h68
  refine KS ?_
  refine Oq Vm ?_
  refine lbH H hx0 fun rv76 hg77 H=>?_
  have hc78:=Qo8 pP (Qah.mk p.l (p.at_+1) p.Err) pa0 pk0 pre pre rv76 hg77
  refine Oc [0,4] Qpt hc78 ?_
  rintro - ⟨he79,he80,he81⟩
  unfold Qaa at he80 he81
  refine Oq (Vfa QdV 3) (Ost (Qij [3] sh3 [vi 1,.string (bs (Str.mk [])),.slice none 0 0,.slice none 0 0]) (Oq (Vfa QhS 0) (Ost (Qij [0] sh9 [vi 1,.string (bs rv76.1),.slice none 0 0,.slice none 0 0]) (KS ?_))))
  refine Oq Vm ?_
  refine lbH H hx0 fun rv82 hg83 H=>?_
  have hc84:=Quw pP (Qah.mk p.l rv76.2.at_ rv76.2.Err) pa0 pk0 2 pre pre pre rv82 hg83
  refine Oc [1,4] Qun hc84 ?_
  rintro - -
  refine Oq QcN (KS ?_)
  refine pF H hx0 fun h85 H=>?_
  refine KcF h85 ?_
  have h87:=not_false h85
  refine KS ?_
  refine Oq Vm (Oq (Vn 0) (Oq (Vfa QcB 0) (Oq (Qai sh3 0) ?_)))
  refine pC H hx0 fun hc89 H=>?_
  refine Oq QaS (Oq (Vn 0) (Oq (Vfa QcB 0) (Ost (Qij [0] sh3 [vl pa0 pk0 p.l,vi (rv76.2.at_+1),vi rv76.2.Err]) (KS ?_))))
  refine Oq Vm ?_
  refine lbH H hx0 fun rv91 hg92 H=>?_
  have hc93:=Qxi pP (Qah.mk p.l (rv76.2.at_+1) rv76.2.Err) pa0 pk0 pre pre rv91 hg92
  refine Oc [0,4] QwX hc93 ?_
  rintro c90 ⟨he94,he95⟩
  unfold Qaa at he94 he95
  refine Jo 0 ?_; rintro a96 k97 rfl
  refine Fb 16 0 fun _=>?_
  refine FoS 0 fun ho99=>?_
  refine Oq (Vfa QfN 2) (Ost (Qij [2] Qjq [vi 1,.string (bs rv76.1),vl a96 k97 rv91.1,.slice none 0 0]) (KS ?_))
  refine Oq Vm ?_
  refine lbH H hx0 fun rv100 hg101 H=>?_
  have hc102:=QnA pP (Qah.mk p.l rv91.2.at_ rv91.2.Err) pa0 pk0 pre pre rv100 hg101
  refine Oc [2,5] Qnj hc102 ?_
  rintro - ⟨he103,he104⟩
  unfold Qaa at he103 he104
  refine KS ?_
  refine Oq (Qar Qek 1) (Ost (Scl [5] Qek [vi 1,.string (bs rv76.1),vl a96 k97 rv91.1,.slice none 0 0]) (KS ?_))
  refine Jl [] (Ent.slNil (α:=Str)) ?_
  have hq:=rI H; subst hq
  exact Kr (vl a96 k97 rv91.1,.slice none 0 0) rfl (.cellN 1 rfl Qek rfl (Qak _ _) rfl .nil) [4,0,2] en
 intro h7 H
 have h106:=not_false h7
 refine KS ?_
 refine Oq Vm (KS ?_)
 refine Oq (Qmv (l:=(Str.mk [])) (m:=(Str.mk [117,115,101]))) (Oq Va (KS ?_))
 refine KcH H ?_ ?_
 ·intro h108 H
  have g109:=eq_of_beq h108
  refine KS ?_
  refine Oq Vm ?_
  refine lbH H hx0 fun rv110 hg111 H=>?_
  have hc112:=Qo8 pP p pa0 pk0 pre pre rv110 hg111
  refine Oc [0,2] Qpt hc112 ?_
  rintro - ⟨he113,he114,he115⟩
  unfold Qaa at he114 he115
  refine Oa (AsV Qcu Qii [.string (bs rv110.1)] [.string (bs rv110.1)]) fun c116=>?_
  refine Jo 0 ?_; rintro a117 k118 rfl
  refine Oq (Vfa QdV 2) (Ost (Qij [2] sh3 [vi 2,.string (bs (Str.mk [])),.slice none 0 0,.slice none 0 0]) (Oq (Vfa QfN 0) (Ost (Qij [0] Qjq [vi 2,.string (bs (Str.mk [])),.slice a117 1 k118,.slice none 0 0]) (KS ?_))))
  refine Jp 0 fun hp119=>?_
  refine Qam [0,1,0,4,15,31,63] QcF ?_
  refine Dv [0] (Vfa QfN 0) (Dv [1] (Qai Qjq 0) (Dv [] Vm ?_))
  refine lbH H hx0 fun rv121 hg122 H=>?_
  refine Dx [3,5] [3] [3,0,1,2] (fun G=>(G.g 3 0)) [fun G=>SP.fact (Qaa rv121.2.at_/\Qaa rv121.2.Err),fun G=>sl (G.g 3 0) rv121.1,fun G=>Cl pP [vl pa0 pk0 p.l,vi rv121.2.at_,vi rv121.2.Err]] (fun G=>xC [0,0] Qwc (QvX pP (Qah.mk p.l rv110.2.at_ rv110.2.Err) pa0 pk0 1 pre pre pre rv121 hg122)) ?_
  refine pC H hx0 fun hc123 H=>?_
  have hn125:([rv110.1]++rv121.1:List Str).length=1+rv121.1.length:=la ([rv110.1]:List Str) rv121.1
  refine Dx [2,6,7] [2] [1,2,0] (fun G=>(G.g 4 0)) [fun G=>os (G.g 4 0) (([rv110.1]++rv121.1):List Str)] (fun G=>by refine xf 1 rfl ?_; rintro ⟨he126,he127⟩; unfold Qaa at he126 he127; exact xp [0] rfl (Ent.cr1 (α:=Str) (A:=[]) _ rv110.1 _ aB1 (fun _=>⟨rfl,aS1⟩)) (xA (Ap [0,1] Qcu Qcu Qii))) (Dv [0] (Vfa QfN 0) (Dx0 [1,9] [1] [1,0] [fun G=>Cl p3 [vi 2,.string (bs (Str.mk [])),(G.g 4 0),.slice none 0 0]] (fun G=>x1 1 rfl Qcn fun ho128=>(xS (OpS.frame [0] rfl (OpS.storeClF [(G.g 4 0)] [vi 2,.string (bs (Str.mk [])),(G.g 4 0),.slice none 0 0] rfl rfl rfl Qjq (QaF ho128) rfl (by simp only [List.all_cons,List.all_nil,ho128,Bool.and_true,Bool.true_and] <;> rfl) aB1 rfl)))) ?_))
  refine Dn ⟨by kernel_rfl,fun G=>?_⟩
  refine Jw2 [(0,pP),(2,p2),(3,p3)] [0,4,5] [SP.fact (Qaa rv121.2.at_/\Qaa rv121.2.Err),sl (G.g 3 0) rv121.1,Cl pP [vl pa0 pk0 p.l,vi rv121.2.at_,vi rv121.2.Err],os (G.g 4 0) (([rv110.1]++rv121.1):List Str),Cl p3 [vi 2,.string (bs (Str.mk [])),(G.g 4 0),.slice none 0 0]] ?_
  generalize G.g 3 0=c120,G.g 4 0=c124
  refine Jf 3 rfl ?_; rintro ⟨he129,he130⟩
  unfold Qaa at he129 he130
  refine Jk [1,1,3,4,4,4] ?_
  refine Jo 2 ?_; rintro a131 k132 rfl
  refine Fb 16 2 fun _=>?_
  refine FoS 2 fun ho134=>?_
  refine Jo 4 ?_; rintro a135 k136 rfl
  refine Fb 16 4 fun _=>?_
  refine FoS 4 fun ho138=>?_
  refine KS ?_
  refine Oq Vm ?_
  refine lbH H hx0 fun rv139 hg140 H=>?_
  have hc141:=QnA pP (Qah.mk p.l rv121.2.at_ rv121.2.Err) pa0 pk0 pre pre rv139 hg140
  refine Oc [3,1] Qnj hc141 ?_
  rintro - ⟨he142,he143⟩
  unfold Qaa at he142 he143
  refine KS ?_
  refine Oq (Qar Qek 5) (Ost (Scl [1] Qek [vi 2,.string (bs (Str.mk [])),vl a135 k136 ([rv110.1]++rv121.1),.slice none 0 0]) (KS ?_))
  refine Jl [4] (Ent.freeze _ _) ?_
  refine Jl [] (Ent.slNil (α:=Str)) ?_
  have hq:=rI H; subst hq
  exact Kr (vl a135 k136 ([rv110.1]++rv121.1),.slice none 0 0) rfl (.cellN 2 rfl Qek rfl (Qak _ _) rfl .nil) [1,0,3] en
 intro h108 H
 have g144:=ne_of_beq_false h108
 refine KS ?_
 refine Oq (Qmv (l:=(Str.mk [])) (m:=(Str.mk [99,97,108,108]))) (Oq Va (KS ?_))
 refine pF H hx0 fun h145 H=>?_
 refine KcF h145 ?_
 have g146:=ne_of_beq_false h145
 refine KS ?_
 refine Oq (Qmv (l:=(Str.mk [])) (m:=(Str.mk [115,111,117,114,99,101]))) (Oq Va (KS ?_))
 refine pF H hx0 fun h147 H=>?_
 refine KcF h147 ?_
 have g148:=ne_of_beq_false h147
 refine KS ?_
 refine Oq (Qmv (l:=(Str.mk [])) (m:=(Str.mk [115,105,110,107]))) (Oq Va (KS ?_))
 refine pF H hx0 fun h149 H=>?_
 refine KcF h149 ?_
 have g150:=ne_of_beq_false h149
 refine KS ?_
 refine Oq (Qmv (l:=(Str.mk [])) (m:=(Str.mk [115,97,110,105,116,105,122,101]))) (Oq Va (KS ?_))
 refine pF H hx0 fun h151 H=>?_
 refine KcF h151 ?_
 have g152:=ne_of_beq_false h151
 refine KS ?_
 refine Oq (Qmv (l:=(Str.mk [])) (m:=(Str.mk [103,111,116,111]))) (Oq Va (KS ?_))
 refine pF H hx0 fun h153 H=>?_
 refine KcF h153 ?_
 have g154:=ne_of_beq_false h153
 refine KS ?_
 refine Oq (Qmv (l:=(Str.mk [])) (m:=(Str.mk [98,114,97,110,99,104]))) (Oq Va (KS ?_))
 refine pF H hx0 fun h155 H=>?_
 refine KcF h155 ?_
 have g156:=ne_of_beq_false h155
 refine KS ?_
 refine Oq (Qmv (l:=(Str.mk [])) (m:=(Str.mk [114,101,116,117,114,110]))) (Oq Va (KS ?_))
 refine KcH H ?_ ?_
 ·intro h157 H
  have g158:=eq_of_beq h157
  refine KS ?_
  refine Oq (Vfa QdV 1) (Ost (Qij [1] sh3 [vi 9,.string (bs (Str.mk [])),.slice none 0 0,.slice none 0 0]) (KS ?_))
  refine Oq Vm ?_
  refine lbH H hx0 fun rv159 hg160 H=>?_
  have hc161:=QnA pP p pa0 pk0 pre pre rv159 hg160
  refine Oc [1,2] Qnj hc161 ?_
  rintro - ⟨he162,he163⟩
  unfold Qaa at he162 he163
  refine KS ?_
  refine Oq (Qar Qek 1) (Ost (Scl [2] Qek [vi 9,.string (bs (Str.mk [])),.slice none 0 0,.slice none 0 0]) (KS ?_))
  refine Jl [] (Ent.slNil (α:=Str)) ?_
  have hq:=rI H; subst hq
  exact Kr (.slice none 0 0,.slice none 0 0) rfl (.cellN 1 rfl Qek rfl (Qak _ _) rfl .nil) [0,0,2] en
 intro h157 H
 have g164:=ne_of_beq_false h157
 refine KS ?_
 refine Oq Vm ?_
 refine lbH H hx0 fun rv165 hg166 H=>?_
 have hc167:=Qo8 pP p pa0 pk0 pre pre rv165 hg166
 refine Oc [0,2] Qpt hc167 ?_
 rintro - ⟨he168,he169,he170⟩
 unfold Qaa at he169 he170
 refine Oq (Vfa QdV 1) (Ost (Qij [1] sh3 [vi 1,.string (bs (Str.mk [])),.slice none 0 0,.slice none 0 0]) (Oq (Vfa QhS 0) (Ost (Qij [0] sh9 [vi 1,.string (bs rv165.1),.slice none 0 0,.slice none 0 0]) (KS ?_))))
 refine Oq Vm ?_
 refine lbH H hx0 fun rv171 hg172 H=>?_
 have hc173:=Quw pP (Qah.mk p.l rv165.2.at_ rv165.2.Err) pa0 pk0 2 pre pre pre rv171 hg172
 refine Oc [1,2] Qun hc173 ?_
 rintro - -
 refine Oq QcN (KS ?_)
 refine pF H hx0 fun h174 H=>?_
 refine KcF h174 ?_
 have h176:=not_false h174
 refine KS ?_
 refine Oq Vm (Oq (Vn 0) (Oq (Vfa QcB 0) (Oq (Qai sh3 0) ?_)))
 refine pC H hx0 fun hc178 H=>?_
 refine Oq QaS (Oq (Vn 0) (Oq (Vfa QcB 0) (Ost (Qij [0] sh3 [vl pa0 pk0 p.l,vi (rv165.2.at_+1),vi rv165.2.Err]) (KS ?_))))
 refine Oq Vm ?_
 refine lbH H hx0 fun rv180 hg181 H=>?_
 have hc182:=Qxi pP (Qah.mk p.l (rv165.2.at_+1) rv165.2.Err) pa0 pk0 pre pre rv180 hg181
 refine Oc [0,2] QwX hc182 ?_
 rintro c179 ⟨he183,he184⟩
 unfold Qaa at he183 he184
 refine Jo 0 ?_; rintro a185 k186 rfl
 refine Fb 16 0 fun _=>?_
 refine FoS 0 fun ho188=>?_
 refine Oq (Vfa QfN 2) (Ost (Qij [2] Qjq [vi 1,.string (bs rv165.1),vl a185 k186 rv180.1,.slice none 0 0]) (KS ?_))
 refine Oq Vm ?_
 refine lbH H hx0 fun rv189 hg190 H=>?_
 have hc191:=QnA pP (Qah.mk p.l rv180.2.at_ rv180.2.Err) pa0 pk0 pre pre rv189 hg190
 refine Oc [2,3] Qnj hc191 ?_
 rintro - ⟨he192,he193⟩
 unfold Qaa at he192 he193
 refine KS ?_
 refine Oq (Qar Qek 1) (Ost (Scl [3] Qek [vi 1,.string (bs rv165.1),vl a185 k186 rv180.1,.slice none 0 0]) (KS ?_))
 refine Jl [] (Ent.slNil (α:=Str)) ?_
 have hq:=rI H; subst hq
 exact Kr (vl a185 k186 rv180.1,.slice none 0 0) rfl (.cellN 1 rfl Qek rfl (Qak _ _) rfl .nil) [4,0,2] en
theorem QxQ (pP:Value) (p:Qah) (pa0:Option Addr) (pk0:Nat) (Ql8:Qaa p.at_) (Ql9:Qaa p.Err) (rr:QeI×Qah) (hrr:Qnx p=.ret rr):FT Tryz.prog 124 #[pP] [Cl pP [vl pa0 pk0 p.l,vi p.at_,vi p.Err],S pa0 pk0 p.l] (fun g:Value=>rr.1.Name.b.length<=140737488355328/\Qaa rr.2.at_/\Qaa rr.2.Err) (fun g=>.agg #[.string (bs rr.1.Name),g]) (fun g=>[sl g rr.1.Stmts,Cl pP [vl pa0 pk0 p.l,vi rr.2.at_,vi rr.2.Err]]):=by
 refine FTi Tryz.func124 fun w0 M0 F0=>?_
 unfold Qaa at Ql8 Ql9
 refine Fb 40 1 fun _=>?_
 have hx0:=lrn rr; have H:=hrr; unfold Qnx at H
 refine KS ?_
 refine Oa (Al QuS [.string (bs (Str.mk [])),.slice none 0 0]) fun p2=>KS ?_
 refine Oa (Al QuS [.string (bs (Str.mk [])),.slice none 0 0]) fun p3=>KS ?_
 refine Oq Vm ?_
 refine lbH H hx0 fun rv4 hg5 H=>?_
 have hc6:=Qvb pP p pa0 pk0 ((Str.mk [98,108,111,99,107])) pre pre pre rv4 hg5
 refine Oc [2,2] Quo hc6 ?_
 rintro - ⟨he7,he8⟩
 unfold Qaa at he7 he8
 refine KS ?_
 refine Oq Vm ?_
 refine lbH H hx0 fun rv9 hg10 H=>?_
 have hc11:=Qo8 pP (Qah.mk p.l rv4.at_ rv4.Err) pa0 pk0 pre pre rv9 hg10
 refine Oc [0,2] Qpt hc11 ?_
 rintro - ⟨he12,he13,he14⟩
 unfold Qaa at he13 he14
 refine Oq (Vfa Qo3 1) (Ost (Qij [1] sh9 [.string (bs rv9.1),.slice none 0 0]) (KS ?_))
 refine Oq Vm ?_
 refine lbH H hx0 fun rv15 hg16 H=>?_
 have hc17:=QnA pP (Qah.mk p.l rv9.2.at_ rv9.2.Err) pa0 pk0 pre pre rv15 hg16
 refine Oc [1,2] Qnj hc17 ?_
 rintro - ⟨he18,he19⟩
 unfold Qaa at he18 he19
 refine KS ?_
 refine Oq Vm ?_
 refine lbH H hx0 fun rv20 hg21 H=>?_
 have hc22:=QvL pP (Qah.mk p.l rv15.at_ rv15.Err) pa0 pk0 pre pre rv20 hg21
 refine Oc [0,2] Qw0 hc22 ?_
 rintro - -
 refine Oq QcN (KS ?_)
 refine pF H hx0 fun h23 H=>?_
 refine KcF h23 ?_
 have h25:=not_false h23
 refine KS ?_
 refine Jl [] (Ent.osNil (α:=QdB)) ?_
 refine llH H hx0 fun X36 hX37 hx38 HL39=>?_
 refine Kl (γ:=Nat×Int×Int×List QdB×Option Addr×Nat) (fun (r27,Qja,Qjb,QmB,a31,k32)=>⟨[(0,pP),(2,p2),(3,p3)],[O a31 k32 QmB,Cl pP [vl pa0 pk0 p.l,vi Qja,vi Qjb],Cl p3 [.string (bs rv9.1),vl a31 k32 QmB],Cl p2 [.string (bs (Str.mk [])),.slice none 0 0],S pa0 pk0 p.l],QhF p r27 Qja Qjb QmB=X36/\(-9223372036854775808<=Qja/\Qja<=9223372036854775807)/\(-9223372036854775808<=Qjb/\Qjb<=9223372036854775807),r27⟩) (100000,rv15.at_,rv15.Err,[],none,0) [0,0,0,0,0] ⟨hX37,aM1,aM1⟩ ?_
 rintro ⟨r27,Qja,Qjb,QmB,a31,k32⟩ ⟨hM33,hk34,hk35⟩
 refine QaE fun _ _ hL hA=>?_; dsimp only at hL hA; subst hL hA
 refine Fb 72 0 fun _=>Fb 40 4 fun _=>?_
 rcases r27 with _ | r27
 ·exact absurd (hM33.symm.trans rfl) hx38
 have H:=hM33; (try dsimp only at H); rw [QhF] at H
 refine KS ?_
 refine Oq Vm ?_
 refine lbH H hx38 fun rv42 hg43 H=>?_
 have hc44:=QvL pP (Qah.mk p.l Qja Qjb) pa0 pk0 pre pre rv42 hg43
 refine Oc [1,3] Qw0 hc44 ?_
 rintro - -
 refine KS ?_
 refine KcH H ?_ ?_
 ·intro h45 H
  refine KS ?_
  refine Oq (Vfa Qff 2) (Oq (Qai Qkn 2) (Oq (Qbc QgQ) (Oq Qcb (KS ?_))))
  refine pF H hx38 fun h47 H=>?_
  refine KcF h47 ?_
  have g48:=ne_of_beq_false h47
  refine KS ?_
  refine Jp 2 fun hp49=>?_
  refine Qam [0,1,0,4,12,31,63,127] QcF ?_
  refine Dv [0] (Vfa Qff 0) (Dv [3] (Qai Qkn 0) (Dv [] Vm ?_))
  refine lbH H hx38 fun rv52 hg53 H=>?_
  refine Dx [1,5] [1] [4,0,1,2,3] (fun G=>.agg #[vi rv52.1.Op,.string (bs rv52.1.Def),(G.g 3 0),(G.g 3 1)]) [fun G=>SP.fact (Qaa rv52.1.Op/\rv52.1.Def.b.length<=140737488355328/\Qaa rv52.2.at_/\Qaa rv52.2.Err),fun G=>sl (G.g 3 0) rv52.1.Uses,fun G=>sl (G.g 3 1) rv52.1.Targets,fun G=>Cl pP [vl pa0 pk0 p.l,vi rv52.2.at_,vi rv52.2.Err]] (fun G=>xC [0,0] Qzl (Qyn pP (Qah.mk p.l Qja Qjb) pa0 pk0 pre pre rv52 hg53)) (Dx [] [] [0] (fun G=>(G.g 4 0)) [fun G=>Cr (G.g 4 0) 1 [vi rv52.1.Op,.string (bs rv52.1.Def),(G.g 3 0),(G.g 3 1)]] (fun G=>xA (AsV QgQ Qv1 [.agg #[vi rv52.1.Op,.string (bs rv52.1.Def),(G.g 3 0),(G.g 3 1)]] [vi rv52.1.Op,.string (bs rv52.1.Def),(G.g 3 0),(G.g 3 1)])) ?_)
  refine pC H hx38 fun hc55 H=>?_
  have hn57:=la QmB ([rv52.1]:List QdB)
  refine Dx [2,6,7,8,10] [2,10] [3,1,2,0] (fun G=>(G.g 5 0)) [fun G=>os (G.g 5 0) ((QmB++[rv52.1]):List QdB)] (fun G=>by refine xf 1 rfl ?_; rintro ⟨he58,he59,he60,he61⟩; unfold Qaa at he58 he60 he61; exact xp [4,2,3] rfl (Ent.cr1 (α:=QdB) (A:=[sl (G.g 3 0) rv52.1.Uses,sl (G.g 3 1) rv52.1.Targets]) _ rv52.1 _ aB1 (fun h=>⟨_,_,rfl,aL1,aS1,Qaj (i:=0) rfl h,Qaj (i:=1) rfl h⟩)) (xA (ApO [3,0] QgQ QgQ Qv1))) (Dv [0] (Vfa Qff 0) (Dx0 [3,11] [3] [1,0] [fun G=>Cl p3 [.string (bs rv9.1),(G.g 5 0)]] (fun G=>x1 1 rfl Qcn fun ho62=>(xS (OpS.frame [0] rfl (OpS.storeClF [(G.g 5 0)] [.string (bs rv9.1),(G.g 5 0)] rfl rfl rfl Qkn (QaF ho62) rfl (by simp only [List.all_cons,List.all_nil,ho62,Bool.and_true,Bool.true_and] <;> rfl) aB1 rfl)))) ?_))
  refine Dn ⟨by kernel_rfl,fun G=>?_⟩
  refine Jw2 [(0,pP),(2,p2),(3,p3)] [0,4,5] [SP.fact (Qaa rv52.1.Op/\rv52.1.Def.b.length<=140737488355328/\Qaa rv52.2.at_/\Qaa rv52.2.Err),sl (G.g 3 0) rv52.1.Uses,sl (G.g 3 1) rv52.1.Targets,Cl pP [vl pa0 pk0 p.l,vi rv52.2.at_,vi rv52.2.Err],os (G.g 5 0) ((QmB++[rv52.1]):List QdB),Cl p3 [.string (bs rv9.1),(G.g 5 0)]] ?_
  generalize G.g 3 0=c50,G.g 3 1=c51,G.g 5 0=c56
  refine Jf 3 rfl ?_; rintro ⟨he63,he64,he65,he66⟩
  unfold Qaa at he63 he65 he66
  refine Jk [1,1,3,4,5,5,5] ?_
  refine Jo 2 ?_; rintro a67 k68 rfl
  refine Fb 16 2 fun _=>?_
  refine FoS 2 fun ho70=>?_
  refine Jo 3 ?_; rintro a71 k72 rfl
  refine Fb 16 3 fun _=>?_
  refine FoS 3 fun ho74=>?_
  refine Jo 5 ?_; rintro a75 k76 rfl
  refine Fb 72 5 fun _=>KS ?_
  exact Kg (r27,rv52.2.at_,rv52.2.Err,(QmB++[rv52.1]),a75,k76) [5,4,4,0,0] ⟨H,aM1,aM1⟩
 intro h45 H
 refine Ke ?_
 have H:=llB H HL39
 dsimp only at H
 refine KS ?_
 refine Oq (Qar Qrm 2) (Ost (Scl [3] Qrm [.string (bs rv9.1),vl a31 k32 QmB]) (KS ?_))
 refine Jl [2] (Ent.freeze _ _) ?_
 have hq:=rI H; subst hq
 exact Kr (vl a31 k32 QmB) rfl (.cellN 1 rfl Qrm rfl (Qak _ _) rfl .nil) [0,2] en
theorem QBR (pP:Value) (p:Qah) (pa0:Option Addr) (pk0:Nat) (Ql8:Qaa p.at_) (Ql9:Qaa p.Err) (rr:Qgy×Qah) (hrr:Qjv p=.ret rr):FT Tryz.prog 87 #[pP] [Cl pP [vl pa0 pk0 p.l,vi p.at_,vi p.Err],S pa0 pk0 p.l] (fun g:Value=>rr.1.Name.b.length<=140737488355328/\Qaa rr.2.at_/\Qaa rr.2.Err) (fun g=>.agg #[.string (bs rr.1.Name),g]) (fun g=>[sl g rr.1.Blocks,Cl pP [vl pa0 pk0 p.l,vi rr.2.at_,vi rr.2.Err]]):=by
 refine FTi Tryz.func87 fun w0 M0 F0=>?_
 unfold Qaa at Ql8 Ql9
 refine Fb 40 1 fun _=>?_
 have hx0:=lrn rr; have H:=hrr; unfold Qjv at H
 refine KS ?_
 refine Oa (Al QsP [.string (bs (Str.mk [])),.slice none 0 0]) fun p2=>KS ?_
 refine Oa (Al QsP [.string (bs (Str.mk [])),.slice none 0 0]) fun p3=>KS ?_
 refine Oq Vm ?_
 refine lbH H hx0 fun rv4 hg5 H=>?_
 have hc6:=Qvb pP p pa0 pk0 ((Str.mk [102,117,110,99])) pre pre pre rv4 hg5
 refine Oc [2,2] Quo hc6 ?_
 rintro - ⟨he7,he8⟩
 unfold Qaa at he7 he8
 refine KS ?_
 refine Oq Vm ?_
 refine lbH H hx0 fun rv9 hg10 H=>?_
 have hc11:=Qo8 pP (Qah.mk p.l rv4.at_ rv4.Err) pa0 pk0 pre pre rv9 hg10
 refine Oc [0,2] Qpt hc11 ?_
 rintro - ⟨he12,he13,he14⟩
 unfold Qaa at he13 he14
 refine Oq (Vfa Qo7 1) (Ost (Qij [1] sh9 [.string (bs rv9.1),.slice none 0 0]) (KS ?_))
 refine Oq Vm ?_
 refine lbH H hx0 fun rv15 hg16 H=>?_
 have hc17:=QnA pP (Qah.mk p.l rv9.2.at_ rv9.2.Err) pa0 pk0 pre pre rv15 hg16
 refine Oc [1,2] Qnj hc17 ?_
 rintro - ⟨he18,he19⟩
 unfold Qaa at he18 he19
 refine KS ?_
 refine Oq Vm ?_
 refine lbH H hx0 fun rv20 hg21 H=>?_
 have hc22:=QvC pP (Qah.mk p.l rv15.at_ rv15.Err) pa0 pk0 ((Str.mk [98,108,111,99,107])) pre pre pre rv20 hg21
 refine Oc [0,2] Qvt hc22 ?_
 rintro - -
 refine Oq QcN (KS ?_)
 refine pF H hx0 fun h23 H=>?_
 refine KcF h23 ?_
 have h25:=not_false h23
 refine KS ?_
 refine Jl [] (Ent.osNil (α:=QeI)) ?_
 refine llH H hx0 fun X36 hX37 hx38 HL39=>?_
 refine Kl (γ:=Nat×Int×Int×List QeI×Option Addr×Nat) (fun (r27,Qja,Qjb,QmC,a31,k32)=>⟨[(0,pP),(2,p2),(3,p3)],[O a31 k32 QmC,Cl pP [vl pa0 pk0 p.l,vi Qja,vi Qjb],Cl p3 [.string (bs rv9.1),vl a31 k32 QmC],Cl p2 [.string (bs (Str.mk [])),.slice none 0 0],S pa0 pk0 p.l],Qft p r27 Qja Qjb QmC=X36/\(-9223372036854775808<=Qja/\Qja<=9223372036854775807)/\(-9223372036854775808<=Qjb/\Qjb<=9223372036854775807),r27⟩) (100000,rv15.at_,rv15.Err,[],none,0) [0,0,0,0,0] ⟨hX37,aM1,aM1⟩ ?_
 rintro ⟨r27,Qja,Qjb,QmC,a31,k32⟩ ⟨hM33,hk34,hk35⟩
 refine QaE fun _ _ hL hA=>?_; dsimp only at hL hA; subst hL hA
 refine Fb 40 0 fun _=>Fb 40 4 fun _=>?_
 rcases r27 with _ | r27
 ·exact absurd (hM33.symm.trans rfl) hx38
 have H:=hM33; (try dsimp only at H); rw [Qft] at H
 refine KS ?_
 refine Oq Vm ?_
 refine lbH H hx38 fun rv42 hg43 H=>?_
 have hc44:=QvC pP (Qah.mk p.l Qja Qjb) pa0 pk0 ((Str.mk [98,108,111,99,107])) pre pre pre rv42 hg43
 refine Oc [1,3] Qvt hc44 ?_
 rintro - -
 refine KS ?_
 refine KcH H ?_ ?_
 ·intro h45 H
  refine KS ?_
  refine Oq (Vfa QdH 2) (Oq (Qai QhL 2) (Oq (Qbc Qht) (Oq Qcb (KS ?_))))
  refine pF H hx38 fun h47 H=>?_
  refine KcF h47 ?_
  have g48:=ne_of_beq_false h47
  refine KS ?_
  refine Jp 2 fun hp49=>?_
  refine Qam [0,1,0,4,12,31,63,127] QcF ?_
  refine Dv [0] (Vfa QdH 0) (Dv [3] (Qai QhL 0) (Dv [] Vm ?_))
  refine lbH H hx38 fun rv51 hg52 H=>?_
  refine Dx [1,5] [1] [3,0,1,2] (fun G=>.agg #[.string (bs rv51.1.Name),(G.g 3 0)]) [fun G=>SP.fact (rv51.1.Name.b.length<=140737488355328/\Qaa rv51.2.at_/\Qaa rv51.2.Err),fun G=>sl (G.g 3 0) rv51.1.Stmts,fun G=>Cl pP [vl pa0 pk0 p.l,vi rv51.2.at_,vi rv51.2.Err]] (fun G=>xC [0,0] Qx9 (QxQ pP (Qah.mk p.l Qja Qjb) pa0 pk0 pre pre rv51 hg52)) (Dx [] [] [0] (fun G=>(G.g 4 0)) [fun G=>Cr (G.g 4 0) 1 [.string (bs rv51.1.Name),(G.g 3 0)]] (fun G=>xA (AsV Qht Qwk [.agg #[.string (bs rv51.1.Name),(G.g 3 0)]] [.string (bs rv51.1.Name),(G.g 3 0)])) ?_)
  refine pC H hx38 fun hc54 H=>?_
  have hn56:=la QmC ([rv51.1]:List QeI)
  refine Dx [2,6,7,9] [2,9] [2,1,0] (fun G=>(G.g 5 0)) [fun G=>os (G.g 5 0) ((QmC++[rv51.1]):List QeI)] (fun G=>by refine xf 1 rfl ?_; rintro ⟨he57,he58,he59⟩; unfold Qaa at he58 he59; exact xp [3,2] rfl (Ent.cr1 (α:=QeI) (A:=[sl (G.g 3 0) rv51.1.Stmts]) _ rv51.1 _ aB1 (fun h=>⟨_,rfl,aS1,Qaj (i:=0) rfl h⟩)) (xA (ApO [2,0] Qht Qht Qwk))) (Dv [0] (Vfa QdH 0) (Dx0 [3,10] [3] [1,0] [fun G=>Cl p3 [.string (bs rv9.1),(G.g 5 0)]] (fun G=>x1 1 rfl Qcn fun ho60=>(xS (OpS.frame [0] rfl (OpS.storeClF [(G.g 5 0)] [.string (bs rv9.1),(G.g 5 0)] rfl rfl rfl QhL (QaF ho60) rfl (by simp only [List.all_cons,List.all_nil,ho60,Bool.and_true,Bool.true_and] <;> rfl) aB1 rfl)))) ?_))
  refine Dn ⟨by kernel_rfl,fun G=>?_⟩
  refine Jw2 [(0,pP),(2,p2),(3,p3)] [0,4,5] [SP.fact (rv51.1.Name.b.length<=140737488355328/\Qaa rv51.2.at_/\Qaa rv51.2.Err),sl (G.g 3 0) rv51.1.Stmts,Cl pP [vl pa0 pk0 p.l,vi rv51.2.at_,vi rv51.2.Err],os (G.g 5 0) ((QmC++[rv51.1]):List QeI),Cl p3 [.string (bs rv9.1),(G.g 5 0)]] ?_
  generalize G.g 3 0=c50,G.g 5 0=c55
  refine Jf 3 rfl ?_; rintro ⟨he61,he62,he63⟩
  unfold Qaa at he62 he63
  refine Jk [1,1,3,4,4,4] ?_
  refine Jo 2 ?_; rintro a64 k65 rfl
  refine Fb 72 2 fun _=>?_
  refine Jo 4 ?_; rintro a67 k68 rfl
  refine Fb 40 4 fun _=>KS ?_
  exact Kg (r27,rv51.2.at_,rv51.2.Err,(QmC++[rv51.1]),a67,k68) [4,3,3,0,0] ⟨H,aM1,aM1⟩
 intro h45 H
 refine Ke ?_
 have H:=llB H HL39
 dsimp only at H
 refine KS ?_
 refine Oq Vm ?_
 refine lbH H hx0 fun rv71 hg72 H=>?_
 have hc73:=Qvb pP (Qah.mk p.l Qja Qjb) pa0 pk0 ((Str.mk [101,110,100])) pre pre pre rv71 hg72
 refine Oc [0,3] Quo hc73 ?_
 rintro - ⟨he74,he75⟩
 unfold Qaa at he74 he75
 refine KS ?_
 refine Oq Vm ?_
 refine lbH H hx0 fun rv76 hg77 H=>?_
 have hc78:=QnA pP (Qah.mk p.l rv71.at_ rv71.Err) pa0 pk0 pre pre rv76 hg77
 refine Oc [0,3] Qnj hc78 ?_
 rintro - ⟨he79,he80⟩
 unfold Qaa at he79 he80
 refine KS ?_
 refine Oq (Qar Qmx 2) (Ost (Scl [3] Qmx [.string (bs rv9.1),vl a31 k32 QmC]) (KS ?_))
 refine Jl [2] (Ent.freeze _ _) ?_
 have hq:=rI H; subst hq
 exact Kr (vl a31 k32 QmC) rfl (.cellN 1 rfl Qmx rfl (Qak _ _) rfl .nil) [0,2] en
theorem QBN (text:Str) (Qvp:text.b.length<=140737488355328) (rr:Qaz×Int×Int×Int) (hrr:Qng text=.ret rr):FT Tryz.prog 50 #[.string (bs text)] [] (fun g:Value=>Qaa rr.2.1/\Qaa rr.2.2.1/\Qaa rr.2.2.2) (fun g=>.tuple #[.agg #[g],vi rr.2.1,vi rr.2.2.1,vi rr.2.2.2]) (fun g=>[sl g rr.1.Funcs]):=by
 refine FTi Tryz.func50 fun w0 M0 F0=>?_
 have hx0:=lrn rr; have H:=hrr; unfold Qng at H
 refine KS ?_
 refine Oa (Al QyE [.slice none 0 0]) fun p1=>Oq Va (Oq Va (Oq Va (KS ?_)))
 refine Oq Vm ?_
 refine lbH H hx0 fun rv3 hg4 H=>?_
 have hc5:=QBi text pre rv3 hg4
 refine Oc [] QAK hc5 ?_
 rintro c2 ⟨he6,he7,he8⟩
 unfold Qaa at he6 he7 he8
 refine Jo 0 ?_; rintro a9 k10 rfl
 refine Fb 40 0 fun _=>?_
 refine Oq Vm (Oq Vx (Oq Vx (Oq Vx (Oq Vx (Oq Va (Oq Va (Oq Va (Oq Va (KS ?_)))))))))
 refine Oq Vm (Oq Qf4 (KS ?_))
 refine pF H hx0 fun h12 H=>?_
 refine KcF h12 ?_
 have g13:=Qae h12
 refine KS ?_
 refine Oq Vm (Oq (Vbd Qx1 [vl a9 k10 rv3.1,vi 0,vi 0]) (Oa (AbO [vl a9 k10 rv3.1,vi 0,vi 0]) fun p14=>Oq Va (KS ?_)))
 refine Oa (Al QyE [.slice none 0 0]) fun p15=>KS ?_
 refine Oq Vm ?_
 refine lbH H hx0 fun rv16 hg17 H=>?_
 have hc18:=QvC p14 (Qah.mk rv3.1 0 0) a9 k10 ((Str.mk [102,117,110,99])) pre pre pre rv16 hg17
 refine Oc [1,1] Qvt hc18 ?_
 rintro - -
 refine Oq QcN (KS ?_)
 refine pF H hx0 fun h19 H=>?_
 refine KcF h19 ?_
 have h21:=not_false h19
 refine KS ?_
 refine Jl [] (Ent.osNil (α:=Qgy)) ?_
 refine llH H hx0 fun X32 hX33 hx34 HL35=>?_
 refine Kl (γ:=Nat×Int×Int×List Qgy×Option Addr×Nat) (fun (r23,Qpv,Qpw,Qha,a27,k28)=>⟨[(2,p1),(6,vl a9 k10 rv3.1),(10,p14),(11,p15)],[O a27 k28 Qha,Cl p14 [vl a9 k10 rv3.1,vi Qpv,vi Qpw],Cl p15 [vl a27 k28 Qha],S a9 k10 rv3.1,Cl p1 [.slice none 0 0]],QhO rv3.1 r23 Qpv Qpw Qha=X32/\(-9223372036854775808<=Qpv/\Qpv<=9223372036854775807)/\(-9223372036854775808<=Qpw/\Qpw<=9223372036854775807),r23⟩) (100000,0,0,[],none,0) [0,0,0,0,1] ⟨hX33,aM1,aM1⟩ ?_
 rintro ⟨r23,Qpv,Qpw,Qha,a27,k28⟩ ⟨hM29,hk30,hk31⟩
 refine QaE fun _ _ hL hA=>?_; dsimp only at hL hA; subst hL hA
 refine Fb 40 0 fun _=>Fb 40 3 fun _=>?_
 rcases r23 with _ | r23
 ·exact absurd (hM29.symm.trans rfl) hx34
 have H:=hM29; (try dsimp only at H); rw [QhO] at H
 refine KS ?_
 refine Oq Vm ?_
 refine lbH H hx34 fun rv38 hg39 H=>?_
 have hc40:=QvC p14 (Qah.mk rv3.1 Qpv Qpw) a9 k10 ((Str.mk [102,117,110,99])) pre pre pre rv38 hg39
 refine Oc [1,2] Qvt hc40 ?_
 rintro - -
 refine KS ?_
 refine KcH H ?_ ?_
 ·intro h41 H
  refine KS ?_
  refine Oq (Vfa Qej 2) (Oq (Qai Qmm 2) (Oq (Qbc Ql3) (Oq Qcb (KS ?_))))
  refine pF H hx34 fun h43 H=>?_
  refine KcF h43 ?_
  have g44:=ne_of_beq_false h43
  refine KS ?_
  refine Jp 2 fun hp45=>?_
  refine Qam [0,1,0,4,12,31,63,127] QcF ?_
  refine Dv [0] (Vfa Qej 0) (Dv [3] (Qai Qmm 0) (Dv [] Vm ?_))
  refine lbH H hx34 fun rv47 hg48 H=>?_
  refine Dx [1,4] [1] [3,0,1,2] (fun G=>.agg #[.string (bs rv47.1.Name),(G.g 3 0)]) [fun G=>SP.fact (rv47.1.Name.b.length<=140737488355328/\Qaa rv47.2.at_/\Qaa rv47.2.Err),fun G=>sl (G.g 3 0) rv47.1.Blocks,fun G=>Cl p14 [vl a9 k10 rv3.1,vi rv47.2.at_,vi rv47.2.Err]] (fun G=>xC [0,0] QBt (QBR p14 (Qah.mk rv3.1 Qpv Qpw) a9 k10 pre pre rv47 hg48)) (Dx [] [] [0] (fun G=>(G.g 4 0)) [fun G=>Cr (G.g 4 0) 1 [.string (bs rv47.1.Name),(G.g 3 0)]] (fun G=>xA (AsV Ql3 QzZ [.agg #[.string (bs rv47.1.Name),(G.g 3 0)]] [.string (bs rv47.1.Name),(G.g 3 0)])) ?_)
  refine pC H hx34 fun hc50 H=>?_
  have hn52:=la Qha ([rv47.1]:List Qgy)
  refine Dx [2,6,7,9] [2,9] [2,1,0] (fun G=>(G.g 5 0)) [fun G=>os (G.g 5 0) ((Qha++[rv47.1]):List Qgy)] (fun G=>by refine xf 1 rfl ?_; rintro ⟨he53,he54,he55⟩; unfold Qaa at he54 he55; exact xp [3,2] rfl (Ent.cr1 (α:=Qgy) (A:=[sl (G.g 3 0) rv47.1.Blocks]) _ rv47.1 _ aB1 (fun h=>⟨_,rfl,aS1,Qaj (i:=0) rfl h⟩)) (xA (ApO [2,0] Ql3 Ql3 QzZ))) (Dv [0] (Vfa Qej 0) (Dx0 [3,10] [3] [1,0] [fun G=>Cl p15 [(G.g 5 0)]] (fun G=>x1 1 rfl Qcn fun ho56=>(xS (OpS.frame [0] rfl (OpS.storeClF [(G.g 5 0)] [(G.g 5 0)] rfl rfl rfl Qmm (QaF ho56) rfl (by simp only [List.all_cons,List.all_nil,ho56,Bool.and_true,Bool.true_and] <;> rfl) aB1 rfl)))) ?_))
  refine Dn ⟨by kernel_rfl,fun G=>?_⟩
  refine Jw2 [(2,p1),(6,vl a9 k10 rv3.1),(10,p14),(11,p15)] [0,4,5] [SP.fact (rv47.1.Name.b.length<=140737488355328/\Qaa rv47.2.at_/\Qaa rv47.2.Err),sl (G.g 3 0) rv47.1.Blocks,Cl p14 [vl a9 k10 rv3.1,vi rv47.2.at_,vi rv47.2.Err],os (G.g 5 0) ((Qha++[rv47.1]):List Qgy),Cl p15 [(G.g 5 0)]] ?_
  generalize G.g 3 0=c46,G.g 5 0=c51
  refine Jf 3 rfl ?_; rintro ⟨he57,he58,he59⟩
  unfold Qaa at he58 he59
  refine Jk [1,2,3,4,4,4] ?_
  refine Jo 2 ?_; rintro a60 k61 rfl
  refine Fb 40 2 fun _=>?_
  refine Jo 4 ?_; rintro a63 k64 rfl
  refine Fb 40 4 fun _=>KS ?_
  exact Kg (r23,rv47.2.at_,rv47.2.Err,(Qha++[rv47.1]),a63,k64) [4,3,3,0,1] ⟨H,aM1,aM1⟩
 intro h41 H
 refine Ke ?_
 have H:=llB H HL35
 dsimp only at H
 refine KS ?_
 refine Oq Vm (Oq (Vn 0) (Oq (Vfa QkB 0) (Oq (Qai Qvx 0) (Oq Qcb (Oq Vm ?_)))))
 refine pT H hx0 fun h67 H=>?_
 refine JsT 53 h67 ?_
 have g68:=eq_of_beq h67
 refine Oq Vm (Oq (Vn 0) (Oq (Vfa QcB 0) (Oq (Qai sh3 0) (Oq Vm (Oq (Qbc Qfk) (Oq Qbo (Oq Vpt (KS ?_))))))))
 refine pF H hx0 fun h69 H=>?_
 refine KcF h69 ?_
 have g70:=df h69
 refine KS ?_
 refine Oq Vm (Oq (Vn 0) (Oq (Vfa QkB 0) (Oq (Qai Qvx 0) (Oq Qcb (KS ?_)))))
 refine Kc ?_ ?_
 ·intro h71
  have g72:=eq_of_beq h71
  refine KS ?_
  refine Oq (Qar Qkj 2) (Ost (Scl [4] Qkj [vl a27 k28 Qha]) (Oq Va (Oq Va (Oq Va (KS ?_)))))
  refine Jl [2] (Ent.freeze _ _) ?_
  have hq:=rI H; subst hq
  exact Kr (vl a27 k28 Qha) rfl (.cellN 1 rfl Qkj rfl (Qak _ _) rfl (.tmp rfl (.tmp rfl (.tmp rfl .nil)))) [0] en
 intro h71
 exact absurd h71 (by first | (simp [h67]; done) | (simp only [bne,h67]; decide) | (simp only [bne,h67,Bool.not_true,Bool.not_false]; decide) | (exfalso; omega) | (intro hq; simp only [bne,hq,Bool.not_false,Bool.not_true,reduceCtorEq] at h67))
theorem QpO (width:Int) (QbJ:Qaa width) (hw0:0<=width/\width<=1000000) (rr:Qaf) (hrr:QaD width=rr):FT Tryz.prog 29 #[vi width] [] (fun g:Value=>Qaa rr.Width/\(rr.Width=width)/\(rr.Words.length=(((width:Int)+63) / 64).toNat)) (fun g=>.agg #[vi rr.Width,g]) (fun g=>[os g rr.Words]):=by
 refine FTi Tryz.func29 fun w0 M0 F0=>?_
 unfold Qaa at QbJ
 refine KS ?_
 refine Oa (Al Qhj [vi 0,.slice none 0 0]) fun p1=>KS ?_
 refine Oq Vm (Oq Vm (Oq QaS (Oq Qq9 (Oa (Amk (α:=BitVec 64) QgP Quy 0#64 (fun _ _=>rfl)) fun c2=>?_))))
 refine Jo 0 ?_; rintro a3 k4 rfl
 refine Fb 8 0 fun _=>?_
 have hn6:=List.length_replicate (n:=(((width+63) / 64):Int).toNat) (a:=(0#64:BitVec 64))
 refine Oq (Vbd Qjw [vi width,vl a3 k4 (List.replicate (((width+63) / 64):Int).toNat 0#64)]) (Ost (Scl [1] Qaw [vi width,vl a3 k4 (List.replicate (((width+63) / 64):Int).toNat 0#64)]) (KS ?_))
 have hq:=q4 hrr (Qaf.mk width (List.replicate (((width+63) / 64):Int).toNat 0#64)) (by simp only [QaD,cs4]); subst hq
 exact Kr (vl a3 k4 (List.replicate (((width+63) / 64):Int).toNat 0#64)) rfl (.cellN 0 rfl Qaw rfl (Qak _ _) rfl .nil) [1] en
theorem QrS (l:List Str) (la0:Option Addr) (lk0:Nat) (s:Str) (QcL:s.b.length<=140737488355328) (rr:Int) (hrr:QiN l s=.ret rr):FT Tryz.prog 129 #[vl la0 lk0 l,.string (bs s)] [S la0 lk0 l] (fun g:Unit=>Qaa rr) (fun g=>vi rr) (fun g=>[]):=by
 refine FTi Tryz.func129 fun w0 M0 F0=>Fb 16 0 fun _=>?_
 refine FoS 0 fun ho2=>?_
 have hx0:=lrn rr; have H:=hrr; unfold QiN at H
 refine KS ?_
 refine Oq Va (KS ?_)
 refine Oq Va (KS ?_)
 refine llH H hx0 fun X10 hX11 hx12 HL13=>?_
 refine Kl (γ:=Nat×Int) (fun (r3,i_4)=>⟨[(0,vl la0 lk0 l),(1,.string (bs s)),(5,vi i_4)],[S la0 lk0 l],Qgl l s r3 i_4=X10/\r3=((l.length:Int) - i_4).toNat/\(0:Int)<=i_4/\i_4<=(l.length:Int)/\(-9223372036854775808<=i_4/\i_4<=9223372036854775807),r3⟩) (((l.length:Int) - 0).toNat,0) [0] ⟨hX11,rfl,aM1,aM1,aM1⟩ ?_
 rintro ⟨r3,i_4⟩ ⟨hM5,hr6,hi7,hi8,hk9⟩
 refine QaE fun _ _ hL hA=>?_; dsimp only at hL hA; subst hL hA
 refine Fb 16 0 fun _=>?_
 refine FoS 0 fun ho15=>?_
 refine KS ?_
 refine Oq Vm (Oq Vm (Oq (Qbc Qcu) (Oq Qbo (KS ?_))))
 refine Kc ?_ ?_
 ·intro h16
  have g17:=dt h16
  obtain ⟨r18,rfl⟩:=scc (n:=r3) aM1
  have H:=hM5; (try dsimp only at H); rw [Qgl] at H
  refine KS ?_
  refine Oq Vm (Oq Vm ?_)
  refine pC H hx12 fun hc19 H=>?_
  refine Oq (Vi Qcu 0) ?_
  have hb20:=okS (i:=i_4.toNat) ho15 rng
  refine Oq (Qtu sh9 0) (Oq Vm (Oq (Qmv (l:=(l.getD i_4.toNat default)) (m:=s)) (KS ?_)))
  refine KcH H ?_ ?_
  ·intro h21 H
   have g22:=eq_of_beq h21
   refine KS ?_
   refine Oq Vm (Oq Va (KS ?_))
   have H:=llR H HL13
   have hq:=rI H; subst hq
   exact Kr () rfl (.tmp rfl .nil) [] en
  intro h21 H
  have g23:=ne_of_beq_false h21
  refine KS ?_
  refine Oq Vm (Oq QaS (Oq Va (KS ?_)))
  refine pC H hx12 fun hc24 H=>?_
  exact Kg (r18,(i_4+1)) [0] ⟨H,aM1,aM1,aM1,aM1⟩
 intro h16
 have g25:=df h16
 obtain rfl:r3=0:=by omega
 have H:=hM5; (try dsimp only at H); rw [Qgl] at H
 refine Ke ?_
 have H:=llB H HL13
 refine KS ?_
 refine Oq Va (KS ?_)
 have hq:=rI H; subst hq
 exact Kr () rfl (.tmp rfl .nil) [] en
theorem QvP (l:List Str) (la0:Option Addr) (lk0:Nat) (a:Int) (b:Int) (Qke:Qaa a) (QgI:Qaa b) (rr:Bool) (hrr:QiO l a b=.ret rr):FT Tryz.prog 183 #[vl la0 lk0 l,vi a,vi b] [S la0 lk0 l] (fun g:Unit=>True) (fun g=>vb rr) (fun g=>[]):=by
 refine FTi Tryz.func183 fun w0 M0 F0=>?_
 unfold Qaa at Qke QgI
 refine Fb 16 0 fun _=>?_
 refine FoS 0 fun ho2=>?_
 have hx0:=lrn rr; have H:=hrr; unfold QiO at H
 refine KS ?_
 refine Oq Va (KS ?_)
 refine Oq Va (KS ?_)
 refine llH H hx0 fun X10 hX11 hx12 HL13=>?_
 refine Kl (γ:=Nat×Int) (fun (r3,i_4)=>⟨[(0,vl la0 lk0 l),(1,vi a),(2,vi b),(7,vi i_4)],[S la0 lk0 l],QeY l r3 i_4=X10/\r3=((l.length:Int) - i_4).toNat/\(0:Int)<=i_4/\i_4<=(l.length:Int)/\(-9223372036854775808<=i_4/\i_4<=9223372036854775807),r3⟩) (((l.length:Int) - 0).toNat,0) [0] ⟨hX11,rfl,aM1,aM1,aM1⟩ ?_
 rintro ⟨r3,i_4⟩ ⟨hM5,hr6,hi7,hi8,hk9⟩
 refine QaE fun _ _ hL hA=>?_; dsimp only at hL hA; subst hL hA
 refine Fb 16 0 fun _=>?_
 refine FoS 0 fun ho15=>?_
 refine KS ?_
 refine Oq Vm (Oq Vm (Oq (Qbc Qcu) (Oq Qbo (KS ?_))))
 refine Kc ?_ ?_
 ·intro h16
  have g17:=dt h16
  obtain ⟨r18,rfl⟩:=scc (n:=r3) aM1
  have H:=hM5; (try dsimp only at H); rw [QeY] at H
  refine KS ?_
  refine Oq Vm (Oq Vm ?_)
  refine pC H hx12 fun hc19 H=>?_
  refine Oq (Vi Qcu 0) ?_
  have hb20:=okS (i:=i_4.toNat) ho15 rng
  refine Oq (Qtu sh9 0) ?_
  refine lbH H hx12 fun rv21 hg22 H=>?_
  have hc23:=QrR ((l.getD i_4.toNat default)) pre rv21 hg22
  refine Oc [] Qrt hc23 ?_
  rintro - -
  refine Oq QcN (KS ?_)
  refine pF H hx12 fun h24 H=>?_
  refine KcF h24 ?_
  have h26:=not_false h24
  refine KS ?_
  refine Oq Vm (Oq QaS (Oq Va (KS ?_)))
  refine pC H hx12 fun hc28 H=>?_
  exact Kg (r18,(i_4+1)) [0] ⟨H,aM1,aM1,aM1,aM1⟩
 intro h16
 have g29:=df h16
 obtain rfl:r3=0:=by omega
 have H:=hM5; (try dsimp only at H); rw [QeY] at H
 refine Ke ?_
 have H:=llB H HL13
 refine KS ?_
 refine Oq Vm (Oq (Qbc Qcu) (Oq Vm (Oq Qhv (Oq Vm ?_))))
 refine pT H hx0 fun h30 H=>?_
 refine JsT 24 h30 ?_
 have g31:=dt h30
 refine Oq Vm (Oq (Qbc Qcu) (Oq Vm (Oq Qss (Oq Vpt (Oq Va (KS ?_))))))
 have hq:=rI H; subst hq
 exact Kr () rfl (.tmp rfl .nil) [] trivial
theorem Qyu (s:QdB) (sa2:Option Addr) (sk2:Nat) (sa3:Option Addr) (sk3:Nat) (QcL:Qaa s.Op) (QzO:s.Def.b.length<=140737488355328) (rr:Bool) (hrr:Qlz s=.ret rr):FT Tryz.prog 179 #[.agg #[vi s.Op,.string (bs s.Def),vl sa2 sk2 s.Uses,vl sa3 sk3 s.Targets]] [S sa2 sk2 s.Uses,S sa3 sk3 s.Targets] (fun g:Unit=>True) (fun g=>vb rr) (fun g=>[]):=by
 refine FTi Tryz.func179 fun w0 M0 F0=>?_
 unfold Qaa at QcL
 refine Fb 16 0 fun _=>?_
 refine FoS 0 fun ho2=>?_
 refine Fb 16 1 fun _=>?_
 refine FoS 1 fun ho4=>?_
 have hx0:=lrn rr; have H:=hrr; unfold Qlz at H
 refine KS ?_
 refine Oa (Ab [vi s.Op,.string (bs s.Def),vl sa2 sk2 s.Uses,vl sa3 sk3 s.Targets]) fun p5=>Oq Va (KS ?_)
 refine Oq (Vfa QhS 0) (Oq (Qai sh9 0) ?_)
 refine lbH H hx0 fun rv6 hg7 H=>?_
 have hc8:=QrR s.Def pre rv6 hg7
 refine Oc [] Qrt hc8 ?_
 rintro - -
 refine Oq Va (KS ?_)
 refine Kq [0,1,3,0,8,24,7,127] QcF ?_
 refine Qv [0] (Vfa QfN 0) (Qv [0] (Qai Qjq 0) (Qv [] (Qbc Qcu) (Qv [0] (Vfa Qo6 0) (Qv [0] (Qai Qjq 0) (Qv [] (Qbc Qcu) (Qv [] Va (Qv [] Va ?_)))))))
 refine Qn ⟨by kernel_rfl,?_⟩
 refine KS ?_
 refine Oq (Vfa QfN 0) (Oq (Qai Qjq 0) ?_)
 refine lbH H hx0 fun rv9 hg10 H=>?_
 have hc11:=QvP s.Uses sa2 sk2 0 4 pre pre rv9 hg10
 refine Oc [1] QvF hc11 ?_
 rintro - -
 refine Oq QcN (Oq Vm ?_)
 refine pF H hx0 fun h12 H=>?_
 refine JsF 19 h12 ?_
 have h14:=not_false h12
 refine Oq (Vfa Qo6 0) (Oq (Qai Qjq 0) ?_)
 refine lbH H hx0 fun rv16 hg17 H=>?_
 have hc18:=QvP s.Targets sa3 sk3 0 2 pre pre rv16 hg17
 refine Oc [2] QvF hc18 ?_
 rintro - -
 refine Oq QcN (Oq Vpf (KS ?_))
 refine pF H hx0 fun h19 H=>?_
 refine KcF h19 ?_
 have h21:=not_false h19
 refine KS ?_
 refine Oq (Vfa QdV 0) (Oq (Qai sh3 0) (KS ?_))
 refine Oq Qcb (Oq Va (KS ?_))
 refine KcH H ?_ ?_
 ·intro h23 H
  have g24:=eq_of_beq h23
  refine KS ?_
  refine Oq Vm (Oq Vm ?_)
  refine pT H hx0 fun h25 H=>?_
  refine JsT 30 h25 ?_
  refine Oq Vm (Oq Qcb (Oq Vpt (Oq Va (KS ?_))))
  have hq:=rI H; subst hq
  exact Kr () rfl (.tmp rfl .nil) [] trivial
 intro h23 H
 have g27:=ne_of_beq_false h23
 refine KS ?_
 refine Oq Qcb (Oq Va (KS ?_))
 refine KcH H ?_ ?_
 ·intro h28 H
  have g29:=eq_of_beq h28
  refine KS ?_
  refine Oq (Vfa QhS 0) (Oq (Qai sh9 0) (Oq (Qmv (l:=s.Def) (m:=(Str.mk []))) (Oq Vm ?_)))
  refine pT H hx0 fun h30 H=>?_
  refine JsT 39 h30 ?_
  have g31:=eq_of_beq h30
  refine Oq Vm (Oq Qhv (Oq Vpt (Oq Vm ?_)))
  refine pT H hx0 fun h32 H=>?_
  refine JsT 43 h32 ?_
  have g33:=dt h32
  refine Oq Vm (Oq Qcb (Oq Vpt (Oq Va (KS ?_))))
  have hq:=rI H; subst hq
  exact Kr () rfl (.tmp rfl .nil) [] trivial
 intro h28 H
 have g34:=ne_of_beq_false h28
 refine KS ?_
 refine Oq Qcb (Oq Va (KS ?_))
 refine pF H hx0 fun h35 H=>?_
 refine KcF h35 ?_
 have g36:=ne_of_beq_false h35
 refine KS ?_
 refine Oq Qcb (Oq Va (KS ?_))
 refine pF H hx0 fun h37 H=>?_
 refine KcF h37 ?_
 have g38:=ne_of_beq_false h37
 refine KS ?_
 refine Oq Qcb (Oq Va (KS ?_))
 refine pF H hx0 fun h39 H=>?_
 refine KcF h39 ?_
 have g40:=ne_of_beq_false h39
 refine KS ?_
 refine Oq Qcb (Oq Va (KS ?_))
 refine pF H hx0 fun h41 H=>?_
 refine KcF h41 ?_
 have g42:=ne_of_beq_false h41
 refine KS ?_
 refine Oq Qcb (Oq Va (KS ?_))
 refine pF H hx0 fun h43 H=>?_
 refine KcF h43 ?_
 have g44:=ne_of_beq_false h43
 refine KS ?_
 refine Oq Qcb (Oq Va (KS ?_))
 refine pF H hx0 fun h45 H=>?_
 refine KcF h45 ?_
 have g46:=ne_of_beq_false h45
 refine KS ?_
 refine Oq Qcb (Oq Va (KS ?_))
 refine pT H hx0 fun h47 H=>?_
 refine KcT h47 ?_
 have g48:=eq_of_beq h47
 refine KS ?_
 refine Oq (Vfa QhS 0) (Oq (Qai sh9 0) (Oq (Qmv (l:=s.Def) (m:=(Str.mk []))) (Oq Vm ?_)))
 refine pT H hx0 fun h49 H=>?_
 refine JsT 104 h49 ?_
 have g50:=eq_of_beq h49
 refine Oq Vm (Oq Qcb (Oq Vpt (Oq Vm ?_)))
 refine pT H hx0 fun h51 H=>?_
 refine JsT 108 h51 ?_
 have g52:=eq_of_beq h51
 refine Oq Vm (Oq Qcb (Oq Vpt (Oq Va (KS ?_))))
 have hq:=rI H; subst hq
 exact Kr () rfl (.tmp rfl .nil) [] trivial
theorem Qud (p:Qaz) (pa0:Option Addr) (pk0:Nat) (rr:Bool) (hrr:Qkd p=.ret rr):FT Tryz.prog 158 #[.agg #[vl pa0 pk0 p.Funcs]] [S pa0 pk0 p.Funcs] (fun g:Unit=>True) (fun g=>vb rr) (fun g=>[]):=by
 refine FTi Tryz.func158 fun w0 M0 F0=>Fb 40 0 fun _=>?_
 have hx0:=lrn rr; have H:=hrr; unfold Qkd at H
 refine KS ?_
 refine Oa (Ab [vl pa0 pk0 p.Funcs]) fun p2=>Oq Va (KS ?_)
 refine Oq (Vfa Qej 0) (Oq (Qai Qmm 0) (Oq (Qbc Ql3) (Oq Qbo (Oq Vm ?_))))
 refine pF H hx0 fun h3 H=>?_
 refine JsF 12 h3 ?_
 have g4:=df h3
 refine Oq (Vfa Qej 0) (Oq (Qai Qmm 0) (Oq (Qbc Ql3) (Oq QgZ (Oq Vpf (KS ?_)))))
 refine pF H hx0 fun h5 H=>?_
 refine KcF h5 ?_
 have g6:=df h5
 refine KS ?_
 refine Oq Va (KS ?_)
 refine llH H hx0 fun X14 hX15 hx16 HL17=>?_
 refine Kl (γ:=Nat×Int) (fun (r7,i_8)=>⟨[(1,p2),(3,vi i_8)],[pv p2 [vl pa0 pk0 p.Funcs],S pa0 pk0 p.Funcs],Qgt p r7 i_8=X14/\r7=((p.Funcs.length:Int) - i_8).toNat/\(0:Int)<=i_8/\i_8<=(p.Funcs.length:Int)/\(-9223372036854775808<=i_8/\i_8<=9223372036854775807),r7⟩) (((p.Funcs.length:Int) - 0).toNat,0) [0,1] ⟨hX15,rfl,aM1,aM1,aM1⟩ ?_
 rintro ⟨r7,i_8⟩ ⟨hM9,hr10,hi11,hi12,hk13⟩
 refine QaE fun _ _ hL hA=>?_; dsimp only at hL hA; subst hL hA
 refine Fb 40 1 fun _=>KS ?_
 refine Oq Vm (Oq (Vfa Qej 0) (Oq (Qai Qmm 0) (Oq (Qbc Ql3) (Oq Qbo (KS ?_)))))
 refine Kc ?_ ?_
 ·intro h19
  have g20:=dt h19
  obtain ⟨r21,rfl⟩:=scc (n:=r7) aM1
  have H:=hM9; (try dsimp only at H); rw [Qgt] at H
  refine KS ?_
  refine Oq (Vfa Qej 0) (Oq (Qai Qmm 0) (Oq Vm ?_))
  refine pC H hx16 fun hc22 H=>?_
  refine Oq (Vi Ql3 1) ?_
  refine Qdb i_8.toNat 1 rfl rng fun a23 k24 hb25=>?_
  refine Fb 40 1 fun _=>?_
  refine Oq (Qar Qmx 0) (Oa (Al QsP [.string (bs (Str.mk [])),.slice none 0 0]) fun p27=>Ost (Scl [0] Qmx [.string (bs ((p.Funcs.getD i_8.toNat default).Name)),vl a23 k24 ((p.Funcs.getD i_8.toNat default).Blocks)]) (KS ?_))
  refine Oq (Vfa Qo7 0) (Oq (Qai sh9 0) ?_)
  refine pC H hx16 fun hc30 H=>?_
  refine lbH H hx16 fun rv28 hg29 H=>?_
  have hc31:=QrR ((p.Funcs.getD i_8.toNat default).Name) pre rv28 hg29
  refine Oc [] Qrt hc31 ?_
  rintro - -
  refine Oq QcN (Oq Vm ?_)
  refine pF H hx16 fun h32 H=>?_
  refine JsF 34 h32 ?_
  have h34:=not_false h32
  refine Oq (Vfa QdH 0) (Oq (Qai QhL 0) (Oq (Qbc Qht) (Oq Qbo (Oq Vpf (Oq Vm ?_)))))
  refine pF H hx16 fun h36 H=>?_
  refine JsF 40 h36 ?_
  have g37:=df h36
  refine Oq (Vfa QdH 0) (Oq (Qai QhL 0) (Oq (Qbc Qht) (Oq QgZ (Oq Vpf (KS ?_)))))
  refine pF H hx16 fun h38 H=>?_
  refine KcF h38 ?_
  have g39:=df h38
  refine KS ?_
  refine Oq Va (KS ?_)
  refine llH H hx16 fun X47 hX48 hx49 HL50=>?_
  refine Kl (γ:=Nat×Int) (fun (r40,Qma)=>⟨[(1,p2),(3,vi i_8),(4,p27),(5,vi Qma)],[Cl p27 [.string (bs ((p.Funcs.getD i_8.toNat default).Name)),vl a23 k24 ((p.Funcs.getD i_8.toNat default).Blocks)],S a23 k24 ((p.Funcs.getD i_8.toNat default).Blocks),pv p2 [vl pa0 pk0 p.Funcs],S pa0 pk0 p.Funcs],Qgw ((p.Funcs.getD i_8.toNat default).Blocks) r40 Qma=X47/\r40=(((((p.Funcs.getD i_8.toNat default).Blocks).length:Int):Int) - Qma).toNat/\(0:Int)<=Qma/\(Qma<=(((p.Funcs.getD i_8.toNat default).Blocks).length:Int)\/Qma=0)/\(-9223372036854775808<=Qma/\Qma<=9223372036854775807),r40⟩) ((((((p.Funcs.getD i_8.toNat default).Blocks).length:Int):Int) - 0).toNat,0) [0,1,2,3] ⟨hX48,rfl,aM1,(.inr rfl),aM1⟩ ?_
  rintro ⟨r40,Qma⟩ ⟨hM42,hr43,hi44,hi45,hk46⟩
  refine QaE fun _ _ hL hA=>?_; dsimp only at hL hA; subst hL hA
  refine Fb 40 1 fun _=>Fb 40 3 fun _=>KS ?_
  refine Oq Vm (Oq (Vfa QdH 0) (Oq (Qai QhL 0) (Oq (Qbc Qht) (Oq Qbo (KS ?_)))))
  refine Kc ?_ ?_
  ·intro h53
   have g54:=dt h53
   obtain ⟨r55,rfl⟩:=scc (n:=r40) aM1
   have H:=hM42; (try dsimp only at H); rw [Qgw] at H
   refine KS ?_
   refine Oq (Vfa QdH 0) (Oq (Qai QhL 0) (Oq Vm ?_))
   refine pC H hx49 fun hc56 H=>?_
   refine Oq (Vi Qht 1) ?_
   refine QcE Qma.toNat 1 rfl rng fun a57 k58 hb59=>?_
   refine Fb 72 1 fun _=>?_
   refine Oq (Qar Qrm 0) (Oa (Al QuS [.string (bs (Str.mk [])),.slice none 0 0]) fun p61=>Ost (Scl [0] Qrm [.string (bs ((((p.Funcs.getD i_8.toNat default).Blocks).getD Qma.toNat default).Name)),.slice a57 (((((p.Funcs.getD i_8.toNat default).Blocks).getD Qma.toNat default).Stmts).length) k58]) (KS ?_))
   refine Oq (Vfa Qo3 0) (Oq (Qai sh9 0) ?_)
   refine pC H hx49 fun hc64 H=>?_
   refine lbH H hx49 fun rv62 hg63 H=>?_
   have hc65:=QrR ((((p.Funcs.getD i_8.toNat default).Blocks).getD Qma.toNat default).Name) pre rv62 hg63
   refine Oc [] Qrt hc65 ?_
   rintro - -
   refine Oq QcN (Oq Vm ?_)
   refine pF H hx49 fun h66 H=>?_
   refine JsF 62 h66 ?_
   have h68:=not_false h66
   refine Oq (Vfa Qff 0) (Oq (Qai Qkn 0) (Oq (Qbc QgQ) (Oq Qbo (Oq Vpf (Oq Vm ?_)))))
   refine pF H hx49 fun h70 H=>?_
   refine JsF 68 h70 ?_
   have g71:=df h70
   refine Oq (Vfa Qff 0) (Oq (Qai Qkn 0) (Oq (Qbc QgQ) (Oq QgZ (Oq Vpf (KS ?_)))))
   refine pF H hx49 fun h72 H=>?_
   refine KcF h72 ?_
   have g73:=df h72
   refine KS ?_
   refine Oq Va (KS ?_)
   refine llH H hx49 fun X81 hX82 hx83 HL84=>?_
   refine Kl (γ:=Nat×Int) (fun (r74,QqK)=>⟨[(1,p2),(3,vi i_8),(4,p27),(5,vi Qma),(6,p61),(7,vi QqK)],[Cl p61 [.string (bs ((((p.Funcs.getD i_8.toNat default).Blocks).getD Qma.toNat default).Name)),.slice a57 (((((p.Funcs.getD i_8.toNat default).Blocks).getD Qma.toNat default).Stmts).length) k58],S a57 k58 ((((p.Funcs.getD i_8.toNat default).Blocks).getD Qma.toNat default).Stmts),Cl p27 [.string (bs ((p.Funcs.getD i_8.toNat default).Name)),vl a23 k24 ((p.Funcs.getD i_8.toNat default).Blocks)],S a23 k24 ((p.Funcs.getD i_8.toNat default).Blocks),pv p2 [vl pa0 pk0 p.Funcs],S pa0 pk0 p.Funcs],Qgd ((((p.Funcs.getD i_8.toNat default).Blocks).getD Qma.toNat default).Stmts) r74 QqK=X81/\r74=(((((((p.Funcs.getD i_8.toNat default).Blocks).getD Qma.toNat default).Stmts).length:Int):Int) - QqK).toNat/\(0:Int)<=QqK/\(QqK<=(((((p.Funcs.getD i_8.toNat default).Blocks).getD Qma.toNat default).Stmts).length:Int)\/QqK=0)/\(-9223372036854775808<=QqK/\QqK<=9223372036854775807),r74⟩) ((((((((p.Funcs.getD i_8.toNat default).Blocks).getD Qma.toNat default).Stmts).length:Int):Int) - 0).toNat,0) [0,1,2,2,3,4] ⟨hX82,rfl,aM1,(.inr rfl),aM1⟩ ?_
   rintro ⟨r74,QqK⟩ ⟨hM76,hr77,hi78,hi79,hk80⟩
   refine QaE fun _ _ hL hA=>?_; dsimp only at hL hA; subst hL hA
   refine Fb 72 1 fun _=>Fb 40 3 fun _=>Fb 40 5 fun _=>KS ?_
   refine Oq Vm (Oq (Vfa Qff 0) (Oq (Qai Qkn 0) (Oq (Qbc QgQ) (Oq Qbo (KS ?_)))))
   refine Kc ?_ ?_
   ·intro h88
    have g89:=dt h88
    obtain ⟨r90,rfl⟩:=scc (n:=r74) aM1
    have H:=hM76; (try dsimp only at H); rw [Qgd] at H
    refine KS ?_
    refine Oq (Vfa Qff 0) (Oq (Qai Qkn 0) (Oq Vm ?_))
    refine pC H hx83 fun hc91 H=>?_
    refine Oq (Vi QgQ 1) ?_
    refine QdG QqK.toNat 1 rfl rng fun a92 k93 a94 k95 hb96 hb97=>?_
    unfold Qaa at hb96
    refine Fb 16 1 fun _=>?_
    refine FoS 1 fun ho99=>?_
    refine Fb 16 2 fun _=>?_
    refine FoS 2 fun ho101=>?_
    refine Oq (Qar Qek 0) ?_
    refine pC H hx83 fun hc104 H=>?_
    refine lbH H hx83 fun rv102 hg103 H=>?_
    have hc105:=Qyu ((((((p.Funcs.getD i_8.toNat default).Blocks).getD Qma.toNat default).Stmts).getD QqK.toNat default)) a92 k93 a94 k95 pre pre rv102 hg103
    refine Oc [1,2] Qzu hc105 ?_
    rintro - -
    refine Oq QcN (KS ?_)
    refine pF H hx83 fun h106 H=>?_
    refine KcF h106 ?_
    have h108:=not_false h106
    refine KS ?_
    refine Oq Vm (Oq QaS (Oq Va (KS ?_)))
    refine pC H hx83 fun hc110 H=>?_
    exact Kg (r90,(QqK+1)) [3,3,4,4,5,6] ⟨H,aM1,aM1,aM1,aM1⟩
   intro h88
   have g111:=df h88
   obtain rfl:r74=0:=by omega
   have H:=hM76; (try dsimp only at H); rw [Qgd] at H
   refine Ke ?_
   have H:=llB H HL84
   refine KS ?_
   refine Oq Vm (Oq QaS (Oq Va (KS ?_)))
   refine pC H hx49 fun hc112 H=>?_
   exact Kg (r55,(Qma+1)) [2,2,3,4] ⟨H,aM1,aM1,aM1,aM1⟩
  intro h53
  have g113:=df h53
  obtain rfl:r40=0:=by omega
  have H:=hM42; (try dsimp only at H); rw [Qgw] at H
  refine Ke ?_
  have H:=llB H HL50
  refine KS ?_
  refine Oq Vm (Oq QaS (Oq Va (KS ?_)))
  refine pC H hx16 fun hc114 H=>?_
  exact Kg (r21,(i_8+1)) [2,3] ⟨H,aM1,aM1,aM1,aM1⟩
 intro h19
 have g115:=df h19
 obtain rfl:r7=0:=by omega
 have H:=hM9; (try dsimp only at H); rw [Qgt] at H
 refine Ke ?_
 have H:=llB H HL17
 refine KS ?_
 refine Oq Va (KS ?_)
 have hq:=rI H; subst hq
 exact Kr () rfl (.tmp rfl .nil) [] trivial
theorem Qum (p:Qaz) (pa0:Option Addr) (pk0:Nat) (rr:List Str) (hrr:QfB p=.ret rr):FT Tryz.prog 126 #[.agg #[vl pa0 pk0 p.Funcs]] [S pa0 pk0 p.Funcs] (fun g:Value=>True) (fun g=>g) (fun g=>[sl g rr]):=by
 refine FTi Tryz.func126 fun w0 M0 F0=>Fb 40 0 fun _=>?_
 have hx0:=lrn rr; have H:=hrr; unfold QfB at H
 refine KS ?_
 refine Oa (Ab [vl pa0 pk0 p.Funcs]) fun p2=>Oq Va (KS ?_)
 refine Oq Va (KS ?_)
 refine Oq (Qar Qkj 0) ?_
 refine lbH H hx0 fun rv3 hg4 H=>?_
 have hc5:=Qud p pa0 pk0 rv3 hg4
 refine Oc [1] QuP hc5 ?_
 rintro - -
 refine Oq QcN (KS ?_)
 refine pF H hx0 fun h6 H=>?_
 refine KcF h6 ?_
 have h8:=not_false h6
 refine KS ?_
 refine Oq Va (KS ?_)
 refine Jl [] (Ent.osNil (α:=Str)) ?_
 refine llH H hx0 fun X20 hX21 hx22 HL23=>?_
 refine Kl (γ:=Nat×List Str×Int×Option Addr×Nat) (fun (r10,QfH,Qb0,a13,k14)=>⟨[(1,p2),(3,vl a13 k14 QfH),(4,vi Qb0)],[O a13 k14 QfH,pv p2 [vl pa0 pk0 p.Funcs],S pa0 pk0 p.Funcs],Qeb p r10 QfH Qb0=X20/\r10=((p.Funcs.length:Int) - Qb0).toNat/\(0:Int)<=Qb0/\Qb0<=(p.Funcs.length:Int)/\(-9223372036854775808<=Qb0/\Qb0<=9223372036854775807),r10⟩) (((p.Funcs.length:Int) - 0).toNat,[],0,none,0) [0,0,1] ⟨hX21,rfl,aM1,aM1,aM1⟩ ?_
 rintro ⟨r10,QfH,Qb0,a13,k14⟩ ⟨hM15,hr16,hi17,hi18,hk19⟩
 refine QaE fun _ _ hL hA=>?_; dsimp only at hL hA; subst hL hA
 refine Fb 16 0 fun _=>?_
 refine FoS 0 fun ho25=>?_
 refine Fb 40 2 fun _=>KS ?_
 refine Oq Vm (Oq (Vfa Qej 1) (Oq (Qai Qmm 1) (Oq (Qbc Ql3) (Oq Qbo (KS ?_)))))
 refine Kc ?_ ?_
 ·intro h27
  have g28:=dt h27
  obtain ⟨r29,rfl⟩:=scc (n:=r10) aM1
  have H:=hM15; (try dsimp only at H); rw [Qeb] at H
  refine KS ?_
  refine Oq Va (KS ?_)
  refine llH H hx22 fun X37 hX38 hx39 HL40=>?_
  refine Kl (γ:=Nat×List Str×Int×Option Addr×Nat) (fun (r30,Qm8,Qd3,a33,k34)=>⟨[(1,p2),(3,vl a33 k34 Qm8),(4,vi Qb0),(5,vi Qd3)],[O a33 k34 Qm8,pv p2 [vl pa0 pk0 p.Funcs],S pa0 pk0 p.Funcs],QeV p Qb0 r30 Qm8 Qd3=X37/\(-9223372036854775808<=Qd3/\Qd3<=9223372036854775807),r30⟩) (100000,QfH,0,a13,k14) [0,0,1] ⟨hX38,aM1⟩ ?_
  rintro ⟨r30,Qm8,Qd3,a33,k34⟩ ⟨hM35,hk36⟩
  refine QaE fun _ _ hL hA=>?_; dsimp only at hL hA; subst hL hA
  refine Fb 16 0 fun _=>?_
  refine FoS 0 fun ho42=>?_
  refine Fb 40 2 fun _=>?_
  rcases r30 with _ | r30
  ·exact absurd (hM35.symm.trans rfl) hx39
  have H:=hM35; (try dsimp only at H); rw [QeV] at H
  refine KS ?_
  refine Oq Vm (Oq (Vfa Qej 1) (Oq (Qai Qmm 1) (Oq Vm ?_)))
  refine pC H hx39 fun hc44 H=>?_
  refine Oq (Vi Ql3 2) ?_
  refine Qdb Qb0.toNat 2 rfl rng fun a45 k46 hb47=>?_
  refine Fb 40 1 fun _=>?_
  refine Oq (Vfa QdH 0) (Oq (Qai QhL 0) (Oq (Qbc Qht) (Oq Qbo (KS ?_))))
  refine pC H hx39 fun hc50 H=>?_
  refine KcH H ?_ ?_
  ·intro h49 H
   have g51:=dt h49
   refine KS ?_
   refine Oq (Vfa Qej 3) (Oq (Qai Qmm 3) (Oq Vm (Oq (Vi Ql3 4) (Oq (Vfa QdH 0) (Oq (Qai QhL 0) (Oq Vm ?_))))))
   refine pC H hx39 fun hc52 H=>?_
   refine pC H hx39 fun hc53 H=>?_
   refine Oq (Vi Qht 1) ?_
   refine QcE Qd3.toNat 1 rfl rng fun a54 k55 hb56=>?_
   refine Fb 72 1 fun _=>?_
   refine Oq (Vfa Qff 0) (Oq (Qai Qkn 0) (Oq Va (KS ?_)))
   refine Oq Va (KS ?_)
   refine pC H hx39 fun hc68 H=>?_
   refine llH H hx39 fun X69 hX70 hx71 HL72=>?_
   refine Kl (γ:=Nat×List Str×Int×Option Addr×Nat) (fun (r58,Qk1,Qer,a61,k62)=>⟨[(1,p2),(3,vl a61 k62 Qk1),(4,vi Qb0),(5,vi Qd3),(6,.slice a54 (((((p.Funcs.getD Qb0.toNat default).Blocks).getD Qd3.toNat default).Stmts).length) k55),(7,vi Qer)],[O a61 k62 Qk1,S a54 k55 ((((p.Funcs.getD Qb0.toNat default).Blocks).getD Qd3.toNat default).Stmts),pv p2 [vl pa0 pk0 p.Funcs],S pa0 pk0 p.Funcs],Qdq ((((p.Funcs.getD Qb0.toNat default).Blocks).getD Qd3.toNat default).Stmts) r58 Qk1 Qer=X69/\r58=(((((((p.Funcs.getD Qb0.toNat default).Blocks).getD Qd3.toNat default).Stmts).length:Int):Int) - Qer).toNat/\(0:Int)<=Qer/\(Qer<=(((((p.Funcs.getD Qb0.toNat default).Blocks).getD Qd3.toNat default).Stmts).length:Int)\/Qer=0)/\(-9223372036854775808<=Qer/\Qer<=9223372036854775807),r58⟩) ((((((((p.Funcs.getD Qb0.toNat default).Blocks).getD Qd3.toNat default).Stmts).length:Int):Int) - 0).toNat,Qm8,0,a33,k34) [4,1,4,5] ⟨hX70,rfl,aM1,(.inr rfl),aM1⟩ ?_
   rintro ⟨r58,Qk1,Qer,a61,k62⟩ ⟨hM63,hr64,hi65,hi66,hk67⟩
   refine QaE fun _ _ hL hA=>?_; dsimp only at hL hA; subst hL hA
   refine Fb 16 0 fun _=>?_
   refine FoS 0 fun ho74=>?_
   refine Fb 72 1 fun _=>Fb 40 3 fun _=>KS ?_
   refine Oq Vm (Oq Vm (Oq (Qbc QgQ) (Oq Qbo (KS ?_))))
   refine Kc ?_ ?_
   ·intro h77
    have g78:=dt h77
    obtain ⟨r79,rfl⟩:=scc (n:=r58) aM1
    have H:=hM63; (try dsimp only at H); rw [Qdq] at H
    refine KS ?_
    refine Oq Vm (Oq Vm ?_)
    refine pC H hx71 fun hc80 H=>?_
    refine Oq (Vi QgQ 1) ?_
    refine QdG Qer.toNat 1 rfl rng fun a81 k82 a83 k84 hb85 hb86=>?_
    unfold Qaa at hb85
    refine Fb 16 1 fun _=>?_
    refine FoS 1 fun ho88=>?_
    refine Fb 16 2 fun _=>?_
    refine FoS 2 fun ho90=>?_
    refine Oq (Vfa QfN 0) (Oq (Qai Qjq 0) (Oq Va (KS ?_)))
    refine Oq Vm (Oq Vm (Oq (Vi QgQ 4) (Oq (Vfa QhS 0) (Oq (Qai sh9 0) (Oq (QBA (l:=(((((p.Funcs.getD Qb0.toNat default).Blocks).getD Qd3.toNat default).Stmts).getD Qer.toNat default).Def) (m:=(Str.mk []))) (KS ?_))))))
    refine pC H hx71 fun hc92 H=>?_
    refine pC H hx71 fun hc93 H=>?_
    refine KcH H ?_ ?_
    ·intro h91 H
     have g94:=Qax h91
     refine Qam [0,0,3,7,15,31,0,0,192,448,960,2047,4095] QcF ?_
     refine Dv [] Vm (Dv [] Vm (Dv [4] (Vi QgQ 0) (Dv [0] (Vfa QhS 0) (Dv [0] (Qai sh9 0) (Dx [] [] [0] (fun G=>(G.g 5 0)) [fun G=>Cr (G.g 5 0) 1 [.string (bs ((((((p.Funcs.getD Qb0.toNat default).Blocks).getD Qd3.toNat default).Stmts).getD Qer.toNat default).Def))]] (fun G=>xA (AsV Qcu Qii [.string (bs ((((((p.Funcs.getD Qb0.toNat default).Blocks).getD Qd3.toNat default).Stmts).getD Qer.toNat default).Def))] [.string (bs ((((((p.Funcs.getD Qb0.toNat default).Blocks).getD Qd3.toNat default).Stmts).getD Qer.toNat default).Def))])) (Dv [] Vm (Dv [] Vm (Dv [4] (Vi QgQ 0) (Dv [0] (Vfa QfN 0) ?_)))))))))
     refine Dv [0] (Qai Qjq 0) ?_
     refine pC H hx71 fun hc96 H=>?_
     refine pC H hx71 fun hc97 H=>?_
     refine pC H hx71 fun hc98 H=>?_
     have hn100:([(((((p.Funcs.getD Qb0.toNat default).Blocks).getD Qd3.toNat default).Stmts).getD Qer.toNat default).Def]++(((((p.Funcs.getD Qb0.toNat default).Blocks).getD Qd3.toNat default).Stmts).getD Qer.toNat default).Uses:List Str).length=1+((((((p.Funcs.getD Qb0.toNat default).Blocks).getD Qd3.toNat default).Stmts).getD Qer.toNat default).Uses).length:=la ([(((((p.Funcs.getD Qb0.toNat default).Blocks).getD Qd3.toNat default).Stmts).getD Qer.toNat default).Def]:List Str) ((((((p.Funcs.getD Qb0.toNat default).Blocks).getD Qd3.toNat default).Stmts).getD Qer.toNat default).Uses)
     refine Dx [1,7] [7] [1,0] (fun G=>(G.g 11 0)) [fun G=>os (G.g 11 0) (([(((((p.Funcs.getD Qb0.toNat default).Blocks).getD Qd3.toNat default).Stmts).getD Qer.toNat default).Def]++(((((p.Funcs.getD Qb0.toNat default).Blocks).getD Qd3.toNat default).Stmts).getD Qer.toNat default).Uses):List Str)] (fun G=>xp [1] rfl (Ent.cr1 (α:=Str) (A:=[]) _ ((((((p.Funcs.getD Qb0.toNat default).Blocks).getD Qd3.toNat default).Stmts).getD Qer.toNat default).Def) _ aB1 (fun _=>⟨rfl,aS1⟩)) (xA (Ap [0,0] Qcu Qcu Qii))) (Dg [] (fun G=>(G.g 11 0)) (fun G=>Va) ?_)
     refine Dn ⟨by kernel_rfl,fun G=>?_⟩
     refine Jw2 [(1,p2),(3,vl a61 k62 Qk1),(4,vi Qb0),(5,vi Qd3),(6,.slice a54 (((((p.Funcs.getD Qb0.toNat default).Blocks).getD Qd3.toNat default).Stmts).length) k55),(7,vi Qer),(8,(G.g 11 0))] [0,1,2,3,4,5,6] [os (G.g 11 0) (([(((((p.Funcs.getD Qb0.toNat default).Blocks).getD Qd3.toNat default).Stmts).getD Qer.toNat default).Def]++(((((p.Funcs.getD Qb0.toNat default).Blocks).getD Qd3.toNat default).Stmts).getD Qer.toNat default).Uses):List Str)] ?_
     generalize G.g 11 0=c99
     refine Jo 7 ?_; rintro a101 k102 rfl
     refine Fb 16 7 fun _=>?_
     refine FoS 7 fun ho104=>?_
     refine KS ?_
     refine Oq Va (KS ?_)
     refine llH H hx71 fun X115 hX116 hx117 HL118=>?_
     refine Kl (γ:=Nat×List Str×Int×Option Addr×Nat) (fun (r105,Qh1,Qh2,a108,k109)=>⟨[(1,p2),(3,vl a108 k109 Qh1),(4,vi Qb0),(5,vi Qd3),(6,.slice a54 (((((p.Funcs.getD Qb0.toNat default).Blocks).getD Qd3.toNat default).Stmts).length) k55),(7,vi Qer),(8,.slice a101 (([(((((p.Funcs.getD Qb0.toNat default).Blocks).getD Qd3.toNat default).Stmts).getD Qer.toNat default).Def]++(((((p.Funcs.getD Qb0.toNat default).Blocks).getD Qd3.toNat default).Stmts).getD Qer.toNat default).Uses).length) k102),(9,vi Qh2)],[O a108 k109 Qh1,S a54 k55 ((((p.Funcs.getD Qb0.toNat default).Blocks).getD Qd3.toNat default).Stmts),pv p2 [vl pa0 pk0 p.Funcs],S pa0 pk0 p.Funcs,O a101 k102 (([(((((p.Funcs.getD Qb0.toNat default).Blocks).getD Qd3.toNat default).Stmts).getD Qer.toNat default).Def]++(((((p.Funcs.getD Qb0.toNat default).Blocks).getD Qd3.toNat default).Stmts).getD Qer.toNat default).Uses):List Str)],QbD ([(((((p.Funcs.getD Qb0.toNat default).Blocks).getD Qd3.toNat default).Stmts).getD Qer.toNat default).Def]++(((((p.Funcs.getD Qb0.toNat default).Blocks).getD Qd3.toNat default).Stmts).getD Qer.toNat default).Uses) r105 Qh1 Qh2=X115/\r105=(((([(((((p.Funcs.getD Qb0.toNat default).Blocks).getD Qd3.toNat default).Stmts).getD Qer.toNat default).Def]++(((((p.Funcs.getD Qb0.toNat default).Blocks).getD Qd3.toNat default).Stmts).getD Qer.toNat default).Uses).length:Int):Int) - Qh2).toNat/\(0:Int)<=Qh2/\(Qh2<=(([(((((p.Funcs.getD Qb0.toNat default).Blocks).getD Qd3.toNat default).Stmts).getD Qer.toNat default).Def]++(((((p.Funcs.getD Qb0.toNat default).Blocks).getD Qd3.toNat default).Stmts).getD Qer.toNat default).Uses).length:Int)\/Qh2=0)/\(-9223372036854775808<=Qh2/\Qh2<=9223372036854775807),r105⟩) ((((([(((((p.Funcs.getD Qb0.toNat default).Blocks).getD Qd3.toNat default).Stmts).getD Qer.toNat default).Def]++(((((p.Funcs.getD Qb0.toNat default).Blocks).getD Qd3.toNat default).Stmts).getD Qer.toNat default).Uses).length:Int):Int) - 0).toNat,Qk1,0,a61,k62) [3,3,4,5,6] ⟨hX116,rfl,aM1,(.inr rfl),aM1⟩ ?_
     rintro ⟨r105,Qh1,Qh2,a108,k109⟩ ⟨hM110,hr111,hi112,hi113,hk114⟩
     refine QaE fun _ _ hL hA=>?_; dsimp only at hL hA; subst hL hA
     refine Fb 16 0 fun _=>?_
     refine FoS 0 fun ho120=>?_
     refine Fb 72 1 fun _=>Fb 40 3 fun _=>Fb 16 4 fun _=>?_
     refine FoS 4 fun ho124=>?_
     refine KS ?_
     refine Oq Vm (Oq Vm (Oq (Qbc Qcu) (Oq Qbo (KS ?_))))
     refine Kc ?_ ?_
     ·intro h125
      have g126:=dt h125
      obtain ⟨r127,rfl⟩:=scc (n:=r105) aM1
      have H:=hM110; (try dsimp only at H); rw [QbD] at H
      refine KS ?_
      refine Oq Vm (Oq Vm (Oq Vm ?_))
      refine pC H hx117 fun hc128 H=>?_
      refine Oq (Vi Qcu 4) ?_
      have hb129:=okS (i:=Qh2.toNat) ho124 rng
      refine Oq (Qtu sh9 4) ?_
      refine lbH H hx117 fun rv130 hg131 H=>?_
      refine Oc [0] Qq4 (Qdp (A:=_) (fun _ _ h=>by cases h) (Qe7 (Ent.take (is:=[0]) rfl) (QrS Qh1 a108 k109 ((([(((((p.Funcs.getD Qb0.toNat default).Blocks).getD Qd3.toNat default).Stmts).getD Qer.toNat default).Def]++(((((p.Funcs.getD Qb0.toNat default).Blocks).getD Qd3.toNat default).Stmts).getD Qer.toNat default).Uses).getD Qh2.toNat default)) pre rv130 hg131))) ?_ (ht:=rfl)
      rintro - he132
      unfold Qaa at he132
      refine Oq Qbo (KS ?_)
      refine KcH H ?_ ?_
      ·intro h133 H
       have g134:=dt h133
       refine KS ?_
       refine Oq Vm (Oq Vm (Oq Vm (Oq (Vi Qcu 4) ?_)))
       have hb135:=okS (i:=Qh2.toNat) ho124 rng
       refine Oq (Qtu sh9 4) (Oa (AsV Qcu Qii [.string (bs (([(((((p.Funcs.getD Qb0.toNat default).Blocks).getD Qd3.toNat default).Stmts).getD Qer.toNat default).Def]++(((((p.Funcs.getD Qb0.toNat default).Blocks).getD Qd3.toNat default).Stmts).getD Qer.toNat default).Uses).getD Qh2.toNat default))] [.string (bs (([(((((p.Funcs.getD Qb0.toNat default).Blocks).getD Qd3.toNat default).Stmts).getD Qer.toNat default).Def]++(((((p.Funcs.getD Qb0.toNat default).Blocks).getD Qd3.toNat default).Stmts).getD Qer.toNat default).Uses).getD Qh2.toNat default))]) fun c136=>?_)
       refine Jo 0 ?_; rintro a137 k138 rfl
       refine Jl [0] (Ent.cr1 (α:=Str) (A:=[]) _ (([(((((p.Funcs.getD Qb0.toNat default).Blocks).getD Qd3.toNat default).Stmts).getD Qer.toNat default).Def]++(((((p.Funcs.getD Qb0.toNat default).Blocks).getD Qd3.toNat default).Stmts).getD Qer.toNat default).Uses).getD Qh2.toNat default) _ aB1 (fun _=>⟨rfl,aS1⟩)) ?_
       refine pC H hx117 fun hc139 H=>?_
       refine pC H hx117 fun hc140 H=>?_
       refine Oa (ApO [1,0] Qcu Qcu Qii) fun c141=>?_
       refine Jo 0 ?_; rintro a142 k143 rfl
       refine Fb 16 0 fun _=>?_
       refine FoS 0 fun ho145=>?_
       have hn146:=la Qh1 ([(([(((((p.Funcs.getD Qb0.toNat default).Blocks).getD Qd3.toNat default).Stmts).getD Qer.toNat default).Def]++(((((p.Funcs.getD Qb0.toNat default).Blocks).getD Qd3.toNat default).Stmts).getD Qer.toNat default).Uses).getD Qh2.toNat default)]:List Str)
       refine Oq Va (KS ?_)
       refine Oq Vm (Oq QaS (Oq Va (KS ?_)))
       refine pC H hx117 fun hc147 H=>?_
       exact Kg (r127,(Qh1++[(([(((((p.Funcs.getD Qb0.toNat default).Blocks).getD Qd3.toNat default).Stmts).getD Qer.toNat default).Def]++(((((p.Funcs.getD Qb0.toNat default).Blocks).getD Qd3.toNat default).Stmts).getD Qer.toNat default).Uses).getD Qh2.toNat default)]),(Qh2+1),a142,k143) [0,0,1,2,3] ⟨H,aM1,aM1,aM1,aM1⟩
      intro h133 H
      have g148:=df h133
      refine KS ?_
      refine Oq Vm (Oq QaS (Oq Va (KS ?_)))
      refine pC H hx117 fun hc149 H=>?_
      exact Kg (r127,Qh1,(Qh2+1),a108,k109) [0,0,1,2,3] ⟨H,aM1,aM1,aM1,aM1⟩
     intro h125
     have g150:=df h125
     obtain rfl:r105=0:=by omega
     have H:=hM110; (try dsimp only at H); rw [QbD] at H
     refine Ke ?_
     have H:=llB H HL118
     refine KS ?_
     refine Oq Vm (Oq QaS (Oq Va (KS ?_)))
     refine pC H hx71 fun hc151 H=>?_
     exact Kg (r79,Qh1,(Qer+1),a108,k109) [0,0,1,2] ⟨H,aM1,aM1,aM1,aM1⟩
    intro h91 H
    have g152:=Qae h91
    refine KS ?_
    refine Oq Va (KS ?_)
    refine llH H hx71 fun X163 hX164 hx165 HL166=>?_
    refine Kl (γ:=Nat×List Str×Int×Option Addr×Nat) (fun (r153,Qh3,Qh4,a156,k157)=>⟨[(1,p2),(3,vl a156 k157 Qh3),(4,vi Qb0),(5,vi Qd3),(6,.slice a54 (((((p.Funcs.getD Qb0.toNat default).Blocks).getD Qd3.toNat default).Stmts).length) k55),(7,vi Qer),(8,.slice a81 (((((((p.Funcs.getD Qb0.toNat default).Blocks).getD Qd3.toNat default).Stmts).getD Qer.toNat default).Uses).length) k82),(9,vi Qh4)],[O a156 k157 Qh3,S a81 k82 ((((((p.Funcs.getD Qb0.toNat default).Blocks).getD Qd3.toNat default).Stmts).getD Qer.toNat default).Uses),S a54 k55 ((((p.Funcs.getD Qb0.toNat default).Blocks).getD Qd3.toNat default).Stmts),pv p2 [vl pa0 pk0 p.Funcs],S pa0 pk0 p.Funcs],QbD ((((((p.Funcs.getD Qb0.toNat default).Blocks).getD Qd3.toNat default).Stmts).getD Qer.toNat default).Uses) r153 Qh3 Qh4=X163/\r153=(((((((((p.Funcs.getD Qb0.toNat default).Blocks).getD Qd3.toNat default).Stmts).getD Qer.toNat default).Uses).length:Int):Int) - Qh4).toNat/\(0:Int)<=Qh4/\(Qh4<=(((((((p.Funcs.getD Qb0.toNat default).Blocks).getD Qd3.toNat default).Stmts).getD Qer.toNat default).Uses).length:Int)\/Qh4=0)/\(-9223372036854775808<=Qh4/\Qh4<=9223372036854775807),r153⟩) ((((((((((p.Funcs.getD Qb0.toNat default).Blocks).getD Qd3.toNat default).Stmts).getD Qer.toNat default).Uses).length:Int):Int) - 0).toNat,Qk1,0,a61,k62) [3,1,3,4,5] ⟨hX164,rfl,aM1,(.inr rfl),aM1⟩ ?_
    rintro ⟨r153,Qh3,Qh4,a156,k157⟩ ⟨hM158,hr159,hi160,hi161,hk162⟩
    refine QaE fun _ _ hL hA=>?_; dsimp only at hL hA; subst hL hA
    refine Fb 16 0 fun _=>?_
    refine FoS 0 fun ho168=>?_
    refine Fb 16 1 fun _=>?_
    refine FoS 1 fun ho170=>?_
    refine Fb 72 2 fun _=>Fb 40 4 fun _=>KS ?_
    refine Oq Vm (Oq Vm (Oq (Qbc Qcu) (Oq Qbo (KS ?_))))
    refine Kc ?_ ?_
    ·intro h173
     have g174:=dt h173
     obtain ⟨r175,rfl⟩:=scc (n:=r153) aM1
     have H:=hM158; (try dsimp only at H); rw [QbD] at H
     refine KS ?_
     refine Oq Vm (Oq Vm (Oq Vm ?_))
     refine pC H hx165 fun hc176 H=>?_
     refine Oq (Vi Qcu 1) ?_
     have hb177:=okS (i:=Qh4.toNat) ho170 rng
     refine Oq (Qtu sh9 1) ?_
     refine lbH H hx165 fun rv178 hg179 H=>?_
     refine Oc [0] Qq4 (Qdp (A:=_) (fun _ _ h=>by cases h) (Qe7 (Ent.take (is:=[0]) rfl) (QrS Qh3 a156 k157 ((((((((p.Funcs.getD Qb0.toNat default).Blocks).getD Qd3.toNat default).Stmts).getD Qer.toNat default).Uses).getD Qh4.toNat default)) pre rv178 hg179))) ?_ (ht:=rfl)
     rintro - he180
     unfold Qaa at he180
     refine Oq Qbo (KS ?_)
     refine KcH H ?_ ?_
     ·intro h181 H
      have g182:=dt h181
      refine KS ?_
      refine Oq Vm (Oq Vm (Oq Vm (Oq (Vi Qcu 1) ?_)))
      have hb183:=okS (i:=Qh4.toNat) ho170 rng
      refine Oq (Qtu sh9 1) (Oa (AsV Qcu Qii [.string (bs (((((((p.Funcs.getD Qb0.toNat default).Blocks).getD Qd3.toNat default).Stmts).getD Qer.toNat default).Uses).getD Qh4.toNat default))] [.string (bs (((((((p.Funcs.getD Qb0.toNat default).Blocks).getD Qd3.toNat default).Stmts).getD Qer.toNat default).Uses).getD Qh4.toNat default))]) fun c184=>?_)
      refine Jo 0 ?_; rintro a185 k186 rfl
      refine Jl [0] (Ent.cr1 (α:=Str) (A:=[]) _ (((((((p.Funcs.getD Qb0.toNat default).Blocks).getD Qd3.toNat default).Stmts).getD Qer.toNat default).Uses).getD Qh4.toNat default) _ aB1 (fun _=>⟨rfl,aS1⟩)) ?_
      refine pC H hx165 fun hc187 H=>?_
      refine pC H hx165 fun hc188 H=>?_
      refine Oa (ApO [1,0] Qcu Qcu Qii) fun c189=>?_
      refine Jo 0 ?_; rintro a190 k191 rfl
      refine Fb 16 0 fun _=>?_
      refine FoS 0 fun ho193=>?_
      have hn194:=la Qh3 ([(((((((p.Funcs.getD Qb0.toNat default).Blocks).getD Qd3.toNat default).Stmts).getD Qer.toNat default).Uses).getD Qh4.toNat default)]:List Str)
      refine Oq Va (KS ?_)
      refine Oq Vm (Oq QaS (Oq Va (KS ?_)))
      refine pC H hx165 fun hc195 H=>?_
      exact Kg (r175,(Qh3++[(((((((p.Funcs.getD Qb0.toNat default).Blocks).getD Qd3.toNat default).Stmts).getD Qer.toNat default).Uses).getD Qh4.toNat default)]),(Qh4+1),a190,k191) [0,0,1,2,3] ⟨H,aM1,aM1,aM1,aM1⟩
     intro h181 H
     have g196:=df h181
     refine KS ?_
     refine Oq Vm (Oq QaS (Oq Va (KS ?_)))
     refine pC H hx165 fun hc197 H=>?_
     exact Kg (r175,Qh3,(Qh4+1),a156,k157) [0,0,1,2,3] ⟨H,aM1,aM1,aM1,aM1⟩
    intro h173
    have g198:=df h173
    obtain rfl:r153=0:=by omega
    have H:=hM158; (try dsimp only at H); rw [QbD] at H
    refine Ke ?_
    have H:=llB H HL166
    refine KS ?_
    refine Oq Vm (Oq QaS (Oq Va (KS ?_)))
    refine pC H hx71 fun hc199 H=>?_
    exact Kg (r79,Qh3,(Qer+1),a156,k157) [0,1,2,3] ⟨H,aM1,aM1,aM1,aM1⟩
   intro h77
   have g200:=df h77
   obtain rfl:r58=0:=by omega
   have H:=hM63; (try dsimp only at H); rw [Qdq] at H
   refine Ke ?_
   have H:=llB H HL72
   refine KS ?_
   refine Oq Vm ?_
   refine pC H hx39 fun hc201 H=>?_
   refine Oq QaS (Oq Va (KS ?_))
   exact Kg (r30,Qk1,(Qd3+1),a61,k62) [0,1,2] ⟨H,aM1⟩
  intro h49 H
  have g202:=df h49
  refine Ke ?_
  have H:=llB H HL40
  refine KS ?_
  refine Oq Vm (Oq QaS (Oq Va (KS ?_)))
  refine pC H hx22 fun hc203 H=>?_
  exact Kg (r29,Qm8,(Qb0+1),a33,k34) [2,2,3] ⟨H,aM1,aM1,aM1,aM1⟩
 intro h27
 have g204:=df h27
 obtain rfl:r10=0:=by omega
 have H:=hM15; (try dsimp only at H); rw [Qeb] at H
 refine Ke ?_
 have H:=llB H HL23
 refine KS ?_
 refine Oq Vm (Oq Va (KS ?_))
 refine Jl [0] (Ent.freeze _ _) ?_
 have hq:=rI H; subst hq
 exact Kr (vl a13 k14 QfH) rfl (.tmp rfl .nil) [0] trivial
theorem QvV (l:List Str) (la0:Option Addr) (lk0:Nat) (rr:Int) (hrr:QhN l=.ret rr):FT Tryz.prog 159 #[vl la0 lk0 l] [S la0 lk0 l] (fun g:Unit=>Qaa rr) (fun g=>vi rr) (fun g=>[]):=by
 refine FTi Tryz.func159 fun w0 M0 F0=>Fb 16 0 fun _=>?_
 refine FoS 0 fun ho2=>?_
 have hx0:=lrn rr; have H:=hrr; unfold QhN at H
 refine KS ?_
 refine Oq Va (KS ?_)
 refine Oq Va (KS ?_)
 refine llH H hx0 fun X10 hX11 hx12 HL13=>?_
 refine Kl (γ:=Nat×Int) (fun (r3,i_4)=>⟨[(0,vl la0 lk0 l),(3,vi i_4)],[S la0 lk0 l],Qep l r3 i_4=X10/\r3=((l.length:Int) - i_4).toNat/\(0:Int)<=i_4/\i_4<=(l.length:Int)/\(-9223372036854775808<=i_4/\i_4<=9223372036854775807),r3⟩) (((l.length:Int) - 0).toNat,0) [0] ⟨hX11,rfl,aM1,aM1,aM1⟩ ?_
 rintro ⟨r3,i_4⟩ ⟨hM5,hr6,hi7,hi8,hk9⟩
 refine QaE fun _ _ hL hA=>?_; dsimp only at hL hA; subst hL hA
 refine Fb 16 0 fun _=>?_
 refine FoS 0 fun ho15=>?_
 refine KS ?_
 refine Oq Vm (Oq Vm (Oq (Qbc Qcu) (Oq Qbo (KS ?_))))
 refine Kc ?_ ?_
 ·intro h16
  have g17:=dt h16
  obtain ⟨r18,rfl⟩:=scc (n:=r3) aM1
  have H:=hM5; (try dsimp only at H); rw [Qep] at H
  refine KS ?_
  refine Qam [0,0,3,0,0,24,56,127,255] QcF ?_
  refine Dv [] Vm (Dv [] Vm ?_)
  refine pC H hx12 fun hc19 H=>?_
  refine Dx [0] [] [1,0] (fun G=>(G.g 2 0)) [fun G=>sl (G.g 2 0) ((l.take (i_4.toNat)).drop 0)] (fun G=>xA (Asl [0] Qcu 0 (i_4.toNat))) (Dv [] Vm (Dv [] Vm ?_))
  refine pC H hx12 fun hc21 H=>?_
  refine Dv [0] (Vi Qcu 0) ?_
  have hb22:=okS (i:=i_4.toNat) ho15 rng
  refine Dv [0] (Qtu sh9 0) ?_
  refine lbH H hx12 fun rv26 hg27 H=>?_
  refine Dx [1] [] [1,0] (fun G=>vi rv26) [fun G=>SP.fact (Qaa rv26)] (fun G=>xD [0] Qq4 rfl rfl rfl (QlR (γ:=Unit) (I:=fun g=>Qaa rv26) (V:=fun g=>vi rv26) (B:=fun g=>[]) (R:=sl (G.g 2 0) ((l.take (i_4.toNat)).drop 0)) QjT (fun aq23 kq24 eq25=>by rw [eq25]; exact Qe7 (Ent.take (is:=[0]) rfl) (QrS (((l.take (i_4.toNat)).drop 0)) aq23 kq24 ((l.getD i_4.toNat default)) pre rv26 hg27)))) (Dv [] Qhv ?_)
  refine Dn ⟨by kernel_rfl,fun G=>?_⟩
  refine Jw2 [(0,vl la0 lk0 l),(3,vi i_4),(18,vb (decide (0<=rv26)))] [0] [sl (G.g 2 0) ((l.take (i_4.toNat)).drop 0),SP.fact (Qaa rv26)] ?_
  generalize G.g 2 0=c20
  refine Jf 2 rfl ?_; rintro he28
  unfold Qaa at he28
  refine Jk [0,1] ?_
  refine Jo 1 ?_; rintro a29 k30 rfl
  refine Fb 16 1 fun _=>?_
  refine FoS 1 fun ho32=>?_
  refine pF H hx12 fun h33 H=>?_
  refine KcF h33 ?_
  have g34:=df h33
  refine KS ?_
  refine Oq Vm (Oq QaS (Oq Va (KS ?_)))
  refine pC H hx12 fun hc35 H=>?_
  exact Kg (r18,(i_4+1)) [0] ⟨H,aM1,aM1,aM1,aM1⟩
 intro h16
 have g36:=df h16
 obtain rfl:r3=0:=by omega
 have H:=hM5; (try dsimp only at H); rw [Qep] at H
 refine Ke ?_
 have H:=llB H HL13
 refine KS ?_
 refine Oq Va (KS ?_)
 have hq:=rI H; subst hq
 exact Kr () rfl (.tmp rfl .nil) [] en
theorem Qx4 (p:Qaz) (pa0:Option Addr) (pk0:Nat) (rr:List Str) (hrr:Qir p=.ret rr):FT Tryz.prog 160 #[.agg #[vl pa0 pk0 p.Funcs]] [S pa0 pk0 p.Funcs] (fun g:Value=>True) (fun g=>g) (fun g=>[sl g rr]):=by
 refine FTi Tryz.func160 fun w0 M0 F0=>Fb 40 0 fun _=>?_
 have hx0:=lrn rr; have H:=hrr; unfold Qir at H
 refine KS ?_
 refine Oa (Ab [vl pa0 pk0 p.Funcs]) fun p2=>Oq Va (KS ?_)
 refine Oq Va (KS ?_)
 refine Oq Va (KS ?_)
 refine Jl [] (Ent.osNil (α:=Str)) ?_
 refine llH H hx0 fun X13 hX14 hx15 HL16=>?_
 refine Kl (γ:=Nat×List Str×Int×Option Addr×Nat) (fun (r3,QcO,i_5,a6,k7)=>⟨[(1,p2),(3,vl a6 k7 QcO),(4,vi i_5)],[O a6 k7 QcO,pv p2 [vl pa0 pk0 p.Funcs],S pa0 pk0 p.Funcs],Qd5 p r3 QcO i_5=X13/\r3=((p.Funcs.length:Int) - i_5).toNat/\(0:Int)<=i_5/\i_5<=(p.Funcs.length:Int)/\(-9223372036854775808<=i_5/\i_5<=9223372036854775807),r3⟩) (((p.Funcs.length:Int) - 0).toNat,[],0,none,0) [0,0,1] ⟨hX14,rfl,aM1,aM1,aM1⟩ ?_
 rintro ⟨r3,QcO,i_5,a6,k7⟩ ⟨hM8,hr9,hi10,hi11,hk12⟩
 refine QaE fun _ _ hL hA=>?_; dsimp only at hL hA; subst hL hA
 refine Fb 16 0 fun _=>?_
 refine FoS 0 fun ho18=>?_
 refine Fb 40 2 fun _=>KS ?_
 refine Oq Vm (Oq (Vfa Qej 1) (Oq (Qai Qmm 1) (Oq (Qbc Ql3) (Oq Qbo (KS ?_)))))
 refine Kc ?_ ?_
 ·intro h20
  have g21:=dt h20
  obtain ⟨r22,rfl⟩:=scc (n:=r3) aM1
  have H:=hM8; (try dsimp only at H); rw [Qd5] at H
  refine KS ?_
  refine Oq Vm (Oq (Vfa Qej 1) (Oq (Qai Qmm 1) (Oq Vm ?_)))
  refine pC H hx15 fun hc23 H=>?_
  refine Oq (Vi Ql3 2) ?_
  refine Qdb i_5.toNat 2 rfl rng fun a24 k25 hb26=>?_
  refine Fb 40 1 fun _=>?_
  refine Oq (Vfa Qo7 0) (Oq (Qai sh9 0) (Oa (AsV Qcu Qii [.string (bs ((p.Funcs.getD i_5.toNat default).Name))] [.string (bs ((p.Funcs.getD i_5.toNat default).Name))]) fun c28=>?_))
  refine Jo 0 ?_; rintro a29 k30 rfl
  refine Jl [0] (Ent.cr1 (α:=Str) (A:=[]) _ ((p.Funcs.getD i_5.toNat default).Name) _ aB1 (fun _=>⟨rfl,aS1⟩)) ?_
  refine pC H hx15 fun hc31 H=>?_
  refine pC H hx15 fun hc32 H=>?_
  refine Oa (ApO [3,0] Qcu Qcu Qii) fun c33=>?_
  refine Jo 0 ?_; rintro a34 k35 rfl
  refine Fb 16 0 fun _=>?_
  refine FoS 0 fun ho37=>?_
  have hn38:=la QcO ([(p.Funcs.getD i_5.toNat default).Name]:List Str)
  refine Oq Va (KS ?_)
  refine Oq Vm (Oq QaS (Oq Va (KS ?_)))
  refine pC H hx15 fun hc39 H=>?_
  exact Kg (r22,(QcO++[(p.Funcs.getD i_5.toNat default).Name]),(i_5+1),a34,k35) [0,2,3] ⟨H,aM1,aM1,aM1,aM1⟩
 intro h20
 have g40:=df h20
 obtain rfl:r3=0:=by omega
 have H:=hM8; (try dsimp only at H); rw [Qd5] at H
 refine Ke ?_
 have H:=llB H HL16
 refine KS ?_
 refine Oq Vm (Oq Va (KS ?_))
 refine Jl [0] (Ent.freeze _ _) ?_
 have hq:=rI H; subst hq
 exact Kr (vl a6 k7 QcO) rfl (.tmp rfl .nil) [0] trivial
theorem QwW (f:Qgy) (fa1:Option Addr) (fk1:Nat) (Qsi:f.Name.b.length<=140737488355328) (rr:List Str) (hrr:QfX f=.ret rr):FT Tryz.prog 161 #[.agg #[.string (bs f.Name),vl fa1 fk1 f.Blocks]] [S fa1 fk1 f.Blocks] (fun g:Value=>True) (fun g=>g) (fun g=>[sl g rr]):=by
 refine FTi Tryz.func161 fun w0 M0 F0=>Fb 40 0 fun _=>?_
 have hx0:=lrn rr; have H:=hrr; unfold QfX at H
 refine KS ?_
 refine Oa (Ab [.string (bs f.Name),vl fa1 fk1 f.Blocks]) fun p2=>Oq Va (KS ?_)
 refine Oq Va (KS ?_)
 refine Oq Va (KS ?_)
 refine Jl [] (Ent.osNil (α:=Str)) ?_
 refine llH H hx0 fun X13 hX14 hx15 HL16=>?_
 refine Kl (γ:=Nat×List Str×Int×Option Addr×Nat) (fun (r3,QcO,k_5,a6,k7)=>⟨[(1,p2),(3,vl a6 k7 QcO),(4,vi k_5)],[O a6 k7 QcO,pv p2 [.string (bs f.Name),vl fa1 fk1 f.Blocks],S fa1 fk1 f.Blocks],QdP f r3 QcO k_5=X13/\r3=((f.Blocks.length:Int) - k_5).toNat/\(0:Int)<=k_5/\k_5<=(f.Blocks.length:Int)/\(-9223372036854775808<=k_5/\k_5<=9223372036854775807),r3⟩) (((f.Blocks.length:Int) - 0).toNat,[],0,none,0) [0,0,1] ⟨hX14,rfl,aM1,aM1,aM1⟩ ?_
 rintro ⟨r3,QcO,k_5,a6,k7⟩ ⟨hM8,hr9,hi10,hi11,hk12⟩
 refine QaE fun _ _ hL hA=>?_; dsimp only at hL hA; subst hL hA
 refine Fb 16 0 fun _=>?_
 refine FoS 0 fun ho18=>?_
 refine Fb 40 2 fun _=>KS ?_
 refine Oq Vm (Oq (Vfa QdH 1) (Oq (Qai QhL 1) (Oq (Qbc Qht) (Oq Qbo (KS ?_)))))
 refine Kc ?_ ?_
 ·intro h20
  have g21:=dt h20
  obtain ⟨r22,rfl⟩:=scc (n:=r3) aM1
  have H:=hM8; (try dsimp only at H); rw [QdP] at H
  refine KS ?_
  refine Oq Vm (Oq (Vfa QdH 1) (Oq (Qai QhL 1) (Oq Vm ?_)))
  refine pC H hx15 fun hc23 H=>?_
  refine Oq (Vi Qht 2) ?_
  refine QcE k_5.toNat 2 rfl rng fun a24 k25 hb26=>?_
  refine Fb 72 1 fun _=>?_
  refine Oq (Vfa Qo3 0) (Oq (Qai sh9 0) (Oa (AsV Qcu Qii [.string (bs ((f.Blocks.getD k_5.toNat default).Name))] [.string (bs ((f.Blocks.getD k_5.toNat default).Name))]) fun c28=>?_))
  refine Jo 0 ?_; rintro a29 k30 rfl
  refine Jl [0] (Ent.cr1 (α:=Str) (A:=[]) _ ((f.Blocks.getD k_5.toNat default).Name) _ aB1 (fun _=>⟨rfl,aS1⟩)) ?_
  refine pC H hx15 fun hc31 H=>?_
  refine pC H hx15 fun hc32 H=>?_
  refine Oa (ApO [3,0] Qcu Qcu Qii) fun c33=>?_
  refine Jo 0 ?_; rintro a34 k35 rfl
  refine Fb 16 0 fun _=>?_
  refine FoS 0 fun ho37=>?_
  have hn38:=la QcO ([(f.Blocks.getD k_5.toNat default).Name]:List Str)
  refine Oq Va (KS ?_)
  refine Oq Vm (Oq QaS (Oq Va (KS ?_)))
  refine pC H hx15 fun hc39 H=>?_
  exact Kg (r22,(QcO++[(f.Blocks.getD k_5.toNat default).Name]),(k_5+1),a34,k35) [0,2,3] ⟨H,aM1,aM1,aM1,aM1⟩
 intro h20
 have g40:=df h20
 obtain rfl:r3=0:=by omega
 have H:=hM8; (try dsimp only at H); rw [QdP] at H
 refine Ke ?_
 have H:=llB H HL16
 refine KS ?_
 refine Oq Vm (Oq Va (KS ?_))
 refine Jl [0] (Ent.freeze _ _) ?_
 have hq:=rI H; subst hq
 exact Kr (vl a6 k7 QcO) rfl (.tmp rfl .nil) [0] trivial
theorem Qzw (op:Int) (QzP:Qaa op) (rr:Bool) (hrr:QhI op=.ret rr):FT Tryz.prog 180 #[vi op] [] (fun g:Unit=>True) (fun g=>vb rr) (fun g=>[]):=by
 refine FTi Tryz.func180 fun w0 M0 F0=>?_
 unfold Qaa at QzP
 have hx0:=lrn rr; have H:=hrr; unfold QhI at H
 refine KS ?_
 refine Oq Va (KS ?_)
 refine Oq Vm (Oq Qcb (Oq Vm ?_))
 refine pF H hx0 fun h1 H=>?_
 refine JsF 5 h1 ?_
 have g2:=ne_of_beq_false h1
 refine Oq Vm (Oq Qcb (Oq Vpf (Oq Vm ?_)))
 refine pF H hx0 fun h3 H=>?_
 refine JsF 9 h3 ?_
 have g4:=ne_of_beq_false h3
 refine Oq Vm (Oq Qcb (Oq Vpf (Oq Va (KS ?_))))
 have hq:=rI H; subst hq
 exact Kr () rfl (.tmp rfl .nil) [] trivial
theorem Qzv (p:Qaz) (pa0:Option Addr) (pk0:Nat) (f:Qgy) (fa1:Option Addr) (fk1:Nat) (s:QdB) (sa2:Option Addr) (sk2:Nat) (sa3:Option Addr) (sk3:Nat) (last:Bool) (Qsi:f.Name.b.length<=140737488355328) (QcL:Qaa s.Op) (QzO:s.Def.b.length<=140737488355328) (rr:Int) (hrr:QkA p f s last=.ret rr):FT Tryz.prog 162 #[.agg #[vl pa0 pk0 p.Funcs],.agg #[.string (bs f.Name),vl fa1 fk1 f.Blocks],.agg #[vi s.Op,.string (bs s.Def),vl sa2 sk2 s.Uses,vl sa3 sk3 s.Targets],vb last] [S pa0 pk0 p.Funcs,S fa1 fk1 f.Blocks,S sa2 sk2 s.Uses,S sa3 sk3 s.Targets] (fun g:Unit=>Qaa rr) (fun g=>vi rr) (fun g=>[]):=by
 refine FTi Tryz.func162 fun w0 M0 F0=>?_
 unfold Qaa at QcL
 refine Fb 40 0 fun _=>Fb 40 1 fun _=>Fb 16 2 fun _=>?_
 refine FoS 2 fun ho4=>?_
 refine Fb 16 3 fun _=>?_
 refine FoS 3 fun ho6=>?_
 have hx0:=lrn rr; have H:=hrr; unfold QkA at H
 refine KS ?_
 refine Oa (Ab [vl pa0 pk0 p.Funcs]) fun p7=>Oa (Ab [.string (bs f.Name),vl fa1 fk1 f.Blocks]) fun p8=>Oa (Ab [vi s.Op,.string (bs s.Def),vl sa2 sk2 s.Uses,vl sa3 sk3 s.Targets]) fun p9=>Oq Va (KS ?_)
 refine Oq (Vfa QdV 0) (Oq (Qai sh3 0) ?_)
 refine lbH H hx0 fun rv10 hg11 H=>?_
 have hc12:=Qzw s.Op pre rv10 hg11
 refine Oc [] Qyg hc12 ?_
 rintro - -
 refine Oq Vm (Oq (Vnb un4) (KS ?_))
 refine pF H hx0 fun h13 H=>?_
 refine KcF h13 ?_
 refine KS ?_
 refine Oq (Qar Qmx 1) ?_
 refine lbH H hx0 fun rv16 hg17 H=>?_
 have hc18:=QwW f fa1 fk1 pre rv16 hg17
 refine Oc [4] Qwv hc18 ?_
 rintro c15 -
 refine Jo 0 ?_; rintro a19 k20 rfl
 refine Fb 16 0 fun _=>?_
 refine FoS 0 fun ho22=>?_
 refine Oq Va (KS ?_)
 refine Oq (Vfa QdV 1) (Oq (Qai sh3 1) (Oq Qcb (KS ?_)))
 refine pF H hx0 fun h23 H=>?_
 refine KcF h23 ?_
 have g24:=ne_of_beq_false h23
 refine KS ?_
 refine Oq Va (KS ?_)
 refine llH H hx0 fun X27 hX28 hx29 HL30=>?_
 refine Kl (γ:=Nat) (fun r25=>⟨[(6,p9),(9,vl a19 k20 rv16),(10,vi 0)],[S a19 k20 rv16,pv p9 [vi s.Op,.string (bs s.Def),vl sa2 sk2 s.Uses,vl sa3 sk3 s.Targets],S sa2 sk2 s.Uses,S sa3 sk3 s.Targets],QhR s r25=X27,r25⟩) 1 [0,1,6,7] hX28 ?_
 rintro r25 hM26
 refine QaE fun _ _ hL hA=>?_; dsimp only at hL hA; subst hL hA
 refine Fb 16 0 fun _=>?_
 refine FoS 0 fun ho32=>?_
 refine Fb 16 2 fun _=>?_
 refine FoS 2 fun ho34=>?_
 refine Fb 16 3 fun _=>?_
 refine FoS 3 fun ho36=>?_
 rcases r25 with _ | r25
 ·exact absurd (hM26.symm.trans rfl) hx29
 have H:=hM26; (try dsimp only at H); rw [QhR] at H
 refine KS ?_
 refine Oq Vm (Oq (Vfa Qo6 1) (Oq (Qai Qjq 1) (Oq (Qbc Qcu) (Oq Qbo (KS ?_)))))
 refine pF H hx29 fun h37 H=>?_
 refine KcF h37 ?_
 have g38:=df h37
 refine Ke ?_
 have H:=llB H HL30
 refine KS ?_
 refine Oq Va (KS ?_)
 have hq:=rI H; subst hq
 exact Kr () rfl (.tmp rfl .nil) [] en
theorem Qy4 (p:Qaz) (pa0:Option Addr) (pk0:Nat) (rr:Int×Int) (hrr:Qnl p=.ret rr):FT Tryz.prog 163 #[.agg #[vl pa0 pk0 p.Funcs]] [S pa0 pk0 p.Funcs] (fun g:Unit=>Qaa rr.1/\Qaa rr.2) (fun g=>.tuple #[vi rr.1,vi rr.2]) (fun g=>[]):=by
 refine FTi Tryz.func163 fun w0 M0 F0=>Fb 40 0 fun _=>?_
 have hx0:=lrn rr; have H:=hrr; unfold Qnl at H
 refine KS ?_
 refine Oa (Ab [vl pa0 pk0 p.Funcs]) fun p2=>Oq Va (Oq Va (KS ?_))
 refine Oq Va (Oq Va (KS ?_))
 refine Oq (Qar Qkj 0) ?_
 refine lbH H hx0 fun rv3 hg4 H=>?_
 have hc5:=Qud p pa0 pk0 rv3 hg4
 refine Oc [1] QuP hc5 ?_
 rintro - -
 refine Oq QcN (KS ?_)
 refine pF H hx0 fun h6 H=>?_
 refine KcF h6 ?_
 have h8:=not_false h6
 refine KS ?_
 refine Oq Va (KS ?_)
 refine llH H hx0 fun X21 hX22 hx23 HL24=>?_
 refine Kl (γ:=Nat×Int×Int×Int) (fun (r10,QqE,Qi3,QjD)=>⟨[(1,p2),(4,vi QqE),(5,vi Qi3),(6,vi QjD)],[pv p2 [vl pa0 pk0 p.Funcs],S pa0 pk0 p.Funcs],Qgk p r10 QqE Qi3 QjD=X21/\r10=((p.Funcs.length:Int) - QjD).toNat/\(0:Int)<=QjD/\QjD<=(p.Funcs.length:Int)/\(-9223372036854775808<=QqE/\QqE<=9223372036854775807)/\(-9223372036854775808<=Qi3/\Qi3<=9223372036854775807)/\(-9223372036854775808<=QjD/\QjD<=9223372036854775807),r10⟩) (((p.Funcs.length:Int) - 0).toNat,0,0,0) [0,1] ⟨hX22,rfl,aM1,aM1,aM1,aM1,aM1⟩ ?_
 rintro ⟨r10,QqE,Qi3,QjD⟩ ⟨hM14,hr15,hi16,hi17,hk18,hk19,hk20⟩
 refine QaE fun _ _ hL hA=>?_; dsimp only at hL hA; subst hL hA
 refine Fb 40 1 fun _=>KS ?_
 refine Oq Vm (Oq (Vfa Qej 0) (Oq (Qai Qmm 0) (Oq (Qbc Ql3) (Oq Qbo (KS ?_)))))
 refine Kc ?_ ?_
 ·intro h26
  have g27:=dt h26
  obtain ⟨r28,rfl⟩:=scc (n:=r10) aM1
  have H:=hM14; (try dsimp only at H); rw [Qgk] at H
  refine KS ?_
  refine Oq Vm ?_
  refine pC H hx23 fun hc29 H=>?_
  refine Oq QaS (Oq Vm ?_)
  refine pC H hx23 fun hc30 H=>?_
  refine Oq QaS (Oq Va (Oq Va (KS ?_)))
  refine Oq Va (KS ?_)
  refine llH H hx23 fun X39 hX40 hx41 HL42=>?_
  refine Kl (γ:=Nat×Int×Int×Int) (fun (r31,Qpx,Qh5,Qp7)=>⟨[(1,p2),(6,vi QjD),(4,vi Qpx),(5,vi Qh5),(7,vi Qp7)],[pv p2 [vl pa0 pk0 p.Funcs],S pa0 pk0 p.Funcs],QhD p QjD r31 Qpx Qh5 Qp7=X39/\(-9223372036854775808<=Qpx/\Qpx<=9223372036854775807)/\(-9223372036854775808<=Qh5/\Qh5<=9223372036854775807)/\(-9223372036854775808<=Qp7/\Qp7<=9223372036854775807),r31⟩) (100000,(QqE+2),(Qi3+1),0) [0,1] ⟨hX40,aM1,aM1,aM1⟩ ?_
  rintro ⟨r31,Qpx,Qh5,Qp7⟩ ⟨hM35,hk36,hk37,hk38⟩
  refine QaE fun _ _ hL hA=>?_; dsimp only at hL hA; subst hL hA
  refine Fb 40 1 fun _=>?_
  rcases r31 with _ | r31
  ·exact absurd (hM35.symm.trans rfl) hx41
  have H:=hM35; (try dsimp only at H); rw [QhD] at H
  refine KS ?_
  refine Oq Vm (Oq (Vfa Qej 0) (Oq (Qai Qmm 0) (Oq Vm ?_)))
  refine pC H hx41 fun hc44 H=>?_
  refine Oq (Vi Ql3 1) ?_
  refine Qdb QjD.toNat 1 rfl rng fun a45 k46 hb47=>?_
  refine Fb 40 1 fun _=>?_
  refine Oq (Vfa QdH 0) (Oq (Qai QhL 0) (Oq (Qbc Qht) (Oq Qbo (KS ?_))))
  refine pC H hx41 fun hc50 H=>?_
  refine KcH H ?_ ?_
  ·intro h49 H
   have g51:=dt h49
   refine KS ?_
   refine Oq (Vfa Qej 2) (Oq (Qai Qmm 2) (Oq Vm (Oq (Vi Ql3 3) (Oq (Vfa QdH 0) (Oq (Qai QhL 0) (Oq Vm ?_))))))
   refine pC H hx41 fun hc52 H=>?_
   refine pC H hx41 fun hc53 H=>?_
   refine Oq (Vi Qht 1) ?_
   refine QcE Qp7.toNat 1 rfl rng fun a54 k55 hb56=>?_
   refine Fb 72 1 fun _=>?_
   refine Oq (Vfa Qff 0) (Oq (Qai Qkn 0) (Oq Va (KS ?_)))
   refine Oq Va (KS ?_)
   refine pC H hx41 fun hc69 H=>?_
   refine llH H hx41 fun X70 hX71 hx72 HL73=>?_
   refine Kl (γ:=Nat×Int×Int×Int) (fun (r58,Qpy,Qh6,Qsl)=>⟨[(1,p2),(6,vi QjD),(4,vi Qpy),(5,vi Qh6),(7,vi Qp7),(8,.slice a54 (((((p.Funcs.getD QjD.toNat default).Blocks).getD Qp7.toNat default).Stmts).length) k55),(9,vi Qsl)],[S a54 k55 ((((p.Funcs.getD QjD.toNat default).Blocks).getD Qp7.toNat default).Stmts),pv p2 [vl pa0 pk0 p.Funcs],S pa0 pk0 p.Funcs],Qgi ((((p.Funcs.getD QjD.toNat default).Blocks).getD Qp7.toNat default).Stmts) r58 Qpy Qh6 Qsl=X70/\r58=(((((((p.Funcs.getD QjD.toNat default).Blocks).getD Qp7.toNat default).Stmts).length:Int):Int) - Qsl).toNat/\(0:Int)<=Qsl/\(Qsl<=(((((p.Funcs.getD QjD.toNat default).Blocks).getD Qp7.toNat default).Stmts).length:Int)\/Qsl=0)/\(-9223372036854775808<=Qpy/\Qpy<=9223372036854775807)/\(-9223372036854775808<=Qh6/\Qh6<=9223372036854775807)/\(-9223372036854775808<=Qsl/\Qsl<=9223372036854775807),r58⟩) ((((((((p.Funcs.getD QjD.toNat default).Blocks).getD Qp7.toNat default).Stmts).length:Int):Int) - 0).toNat,Qpx,Qh5,0) [1,4,5] ⟨hX71,rfl,aM1,(.inr rfl),aM1,aM1,aM1⟩ ?_
   rintro ⟨r58,Qpy,Qh6,Qsl⟩ ⟨hM62,hr63,hi64,hi65,hk66,hk67,hk68⟩
   refine QaE fun _ _ hL hA=>?_; dsimp only at hL hA; subst hL hA
   refine Fb 72 0 fun _=>Fb 40 2 fun _=>KS ?_
   refine Oq Vm (Oq Vm (Oq (Qbc QgQ) (Oq Qbo (KS ?_))))
   refine Kc ?_ ?_
   ·intro h76
    have g77:=dt h76
    obtain ⟨r78,rfl⟩:=scc (n:=r58) aM1
    have H:=hM62; (try dsimp only at H); rw [Qgi] at H
    refine KS ?_
    refine Oq Vm ?_
    refine pC H hx72 fun hc79 H=>?_
    refine Oq QaS (Oq Va (KS ?_))
    refine Oq Vm (Oq Vm ?_)
    refine pC H hx72 fun hc80 H=>?_
    refine Oq (Vi QgQ 0) ?_
    refine QdG Qsl.toNat 0 rfl rng fun a81 k82 a83 k84 hb85 hb86=>?_
    unfold Qaa at hb85
    refine Fb 16 1 fun _=>?_
    refine FoS 1 fun ho88=>?_
    refine Fb 16 2 fun _=>?_
    refine FoS 2 fun ho90=>?_
    refine Oq (Vfa QdV 0) (Oq (Qai sh3 0) (KS ?_))
    refine Oq Qcb (Oq Va (KS ?_))
    refine pC H hx72 fun hc92 H=>?_
    refine pF H hx72 fun h91 H=>?_
    refine KcF h91 ?_
    have g93:=ne_of_beq_false h91
    refine KS ?_
    refine Oq Qcb (Oq Va (KS ?_))
    refine pF H hx72 fun h94 H=>?_
    refine KcF h94 ?_
    have g95:=ne_of_beq_false h94
    refine KS ?_
    refine Oq Vm ?_
    refine pC H hx72 fun hc96 H=>?_
    refine Oq QaS (Oq Va (KS ?_))
    refine Oq Vm (Oq QaS (Oq Va (KS ?_)))
    refine pC H hx72 fun hc97 H=>?_
    exact Kg (r78,(Qpy+1),(Qh6+1),(Qsl+1)) [3,4,5] ⟨H,aM1,aM1,aM1,aM1,aM1,aM1⟩
   intro h76
   have g98:=df h76
   obtain rfl:r58=0:=by omega
   have H:=hM62; (try dsimp only at H); rw [Qgi] at H
   refine Ke ?_
   have H:=llB H HL73
   dsimp only at H
   refine KS ?_
   refine Oq Vm ?_
   refine pC H hx41 fun hc99 H=>?_
   refine Oq QaS (Oq Va (KS ?_))
   exact Kg (r31,Qpy,Qh6,(Qp7+1)) [1,2] ⟨H,aM1,aM1,aM1⟩
  intro h49 H
  have g100:=df h49
  refine Ke ?_
  have H:=llB H HL42
  dsimp only at H
  refine KS ?_
  refine Oq Vm (Oq QaS (Oq Va (KS ?_)))
  refine pC H hx23 fun hc101 H=>?_
  exact Kg (r28,Qpx,Qh5,(QjD+1)) [2,3] ⟨H,aM1,aM1,aM1,aM1,aM1,aM1⟩
 intro h26
 have g102:=df h26
 obtain rfl:r10=0:=by omega
 have H:=hM14; (try dsimp only at H); rw [Qgk] at H
 refine Ke ?_
 have H:=llB H HL24
 dsimp only at H
 refine KS ?_
 refine Oq Vm (Oq Vm (Oq Va (Oq Va (KS ?_))))
 have hq:=rI H; subst hq
 exact Kr () rfl (.tmp rfl (.tmp rfl .nil)) [] en
theorem QuY (p:Qaz) (pa0:Option Addr) (pk0:Nat) (rr:Qbl×Int) (hrr:QjN p=.ret rr):FT Tryz.prog 125 #[.agg #[vl pa0 pk0 p.Funcs]] [S pa0 pk0 p.Funcs] (fun g:Unit=>Qaa rr.1.Kind/\Qaa rr.1.Func/\Qaa rr.1.Block/\Qaa rr.1.Stmt/\Qaa rr.2) (fun g=>.tuple #[.agg #[vi rr.1.Kind,vi rr.1.Func,vi rr.1.Block,vi rr.1.Stmt],vi rr.2]) (fun g=>[]):=by
 refine FTi Tryz.func125 fun w0 M0 F0=>Fb 40 0 fun _=>?_
 have hx0:=lrn rr; have H:=hrr; unfold QjN at H
 refine KS ?_
 refine Oa (Ab [vl pa0 pk0 p.Funcs]) fun p2=>Oa (Al Qrf [vi 0,vi 0,vi 0,vi 0]) fun p3=>Oq Va (KS ?_)
 refine Oq (Qar Qkj 1) ?_
 refine lbH H hx0 fun rv4 hg5 H=>?_
 have hc6:=Qud p pa0 pk0 rv4 hg5
 refine Oc [2] QuP hc6 ?_
 rintro - -
 refine Oq QcN (KS ?_)
 refine pF H hx0 fun h7 H=>?_
 refine KcF h7 ?_
 have h9:=not_false h7
 refine KS ?_
 refine Oq (Qar Qkj 1) ?_
 refine lbH H hx0 fun rv12 hg13 H=>?_
 have hc14:=Qx4 p pa0 pk0 rv12 hg13
 refine Oc [2] Qyd hc14 ?_
 rintro c11 -
 refine Jo 0 ?_; rintro a15 k16 rfl
 refine Fb 16 0 fun _=>?_
 refine FoS 0 fun ho18=>?_
 refine lbH H hx0 fun rv19 hg20 H=>?_
 have hc21:=QvV rv12 a15 k16 rv19 hg20
 refine Oc [0] QwR hc21 ?_
 rintro - he22
 unfold Qaa at he22
 refine Oq Va (KS ?_)
 refine Oq Vm (Oq Qhv (KS ?_))
 refine pF H hx0 fun h23 H=>?_
 refine KcF h23 ?_
 have g24:=df h23
 refine KS ?_
 refine Oq Va (KS ?_)
 refine llH H hx0 fun X32 hX33 hx34 HL35=>?_
 refine Kl (γ:=Nat×Int) (fun (r25,Qh7)=>⟨[(1,p2),(2,p3),(5,vi Qh7)],[Cl p3 [vi 0,vi 0,vi 0,vi 0],pv p2 [vl pa0 pk0 p.Funcs],S pa0 pk0 p.Funcs],Qge p r25 Qh7=X32/\r25=((p.Funcs.length:Int) - Qh7).toNat/\(0:Int)<=Qh7/\Qh7<=(p.Funcs.length:Int)/\(-9223372036854775808<=Qh7/\Qh7<=9223372036854775807),r25⟩) (((p.Funcs.length:Int) - 0).toNat,0) [1,1,2] ⟨hX33,rfl,aM1,aM1,aM1⟩ ?_
 rintro ⟨r25,Qh7⟩ ⟨hM27,hr28,hi29,hi30,hk31⟩
 refine QaE fun _ _ hL hA=>?_; dsimp only at hL hA; subst hL hA
 refine Fb 40 2 fun _=>KS ?_
 refine Oq Vm (Oq (Vfa Qej 1) (Oq (Qai Qmm 1) (Oq (Qbc Ql3) (Oq Qbo (KS ?_)))))
 refine Kc ?_ ?_
 ·intro h37
  have g38:=dt h37
  obtain ⟨r39,rfl⟩:=scc (n:=r25) aM1
  have H:=hM27; (try dsimp only at H); rw [Qge] at H
  refine KS ?_
  refine Oq (Vfa Qej 1) (Oq (Qai Qmm 1) (Oq Vm ?_))
  refine pC H hx34 fun hc40 H=>?_
  refine Oq (Vi Ql3 2) ?_
  refine Qdb Qh7.toNat 2 rfl rng fun a41 k42 hb43=>?_
  refine Fb 40 1 fun _=>?_
  refine Oq (Qar Qmx 0) (Oa (Al QsP [.string (bs (Str.mk [])),.slice none 0 0]) fun p45=>Ost (Scl [0] Qmx [.string (bs ((p.Funcs.getD Qh7.toNat default).Name)),vl a41 k42 ((p.Funcs.getD Qh7.toNat default).Blocks)]) (KS ?_))
  refine Oq (Qar Qmx 0) ?_
  refine pC H hx34 fun hc49 H=>?_
  refine lbH H hx34 fun rv47 hg48 H=>?_
  have hc50:=QwW ((p.Funcs.getD Qh7.toNat default)) a41 k42 pre rv47 hg48
  refine Oc [2] Qwv hc50 ?_
  rintro c46 -
  refine Jo 0 ?_; rintro a51 k52 rfl
  refine Fb 16 0 fun _=>?_
  refine FoS 0 fun ho54=>?_
  refine lbH H hx34 fun rv55 hg56 H=>?_
  have hc57:=QvV rv47 a51 k52 rv55 hg56
  refine Oc [0] QwR hc57 ?_
  rintro - he58
  unfold Qaa at he58
  refine Oq Va (KS ?_)
  refine Oq Vm (Oq Qhv (KS ?_))
  refine pF H hx34 fun h59 H=>?_
  refine KcF h59 ?_
  have g60:=df h59
  refine KS ?_
  refine Oq Va (KS ?_)
  refine llH H hx34 fun X68 hX69 hx70 HL71=>?_
  refine Kl (γ:=Nat×Int) (fun (r61,Qmn)=>⟨[(1,p2),(2,p3),(5,vi Qh7),(6,p45),(8,vi Qmn)],[Cl p45 [.string (bs ((p.Funcs.getD Qh7.toNat default).Name)),vl a41 k42 ((p.Funcs.getD Qh7.toNat default).Blocks)],S a41 k42 ((p.Funcs.getD Qh7.toNat default).Blocks),Cl p3 [vi 0,vi 0,vi 0,vi 0],pv p2 [vl pa0 pk0 p.Funcs],S pa0 pk0 p.Funcs],QgD p ((p.Funcs.getD Qh7.toNat default).Name) ((p.Funcs.getD Qh7.toNat default).Blocks) r61 Qmn=X68/\r61=(((((p.Funcs.getD Qh7.toNat default).Blocks).length:Int):Int) - Qmn).toNat/\(0:Int)<=Qmn/\(Qmn<=(((p.Funcs.getD Qh7.toNat default).Blocks).length:Int)\/Qmn=0)/\(-9223372036854775808<=Qmn/\Qmn<=9223372036854775807),r61⟩) ((((((p.Funcs.getD Qh7.toNat default).Blocks).length:Int):Int) - 0).toNat,0) [1,2,3,3,4] ⟨hX69,rfl,aM1,(.inr rfl),aM1⟩ ?_
  rintro ⟨r61,Qmn⟩ ⟨hM63,hr64,hi65,hi66,hk67⟩
  refine QaE fun _ _ hL hA=>?_; dsimp only at hL hA; subst hL hA
  refine Fb 40 1 fun _=>Fb 40 4 fun _=>KS ?_
  refine Oq Vm (Oq (Vfa QdH 0) (Oq (Qai QhL 0) (Oq (Qbc Qht) (Oq Qbo (KS ?_)))))
  refine Kc ?_ ?_
  ·intro h74
   have g75:=dt h74
   obtain ⟨r76,rfl⟩:=scc (n:=r61) aM1
   have H:=hM63; (try dsimp only at H); rw [QgD] at H
   refine KS ?_
   refine Oq (Vfa QdH 0) (Oq (Qai QhL 0) (Oq Vm ?_))
   refine pC H hx70 fun hc77 H=>?_
   refine Oq (Vi Qht 1) ?_
   refine QcE Qmn.toNat 1 rfl rng fun a78 k79 hb80=>?_
   refine Fb 72 1 fun _=>?_
   refine Oq (Vfa Qff 0) (Oq (Qai Qkn 0) (Oq Va (KS ?_)))
   refine Oq Va (KS ?_)
   refine pC H hx70 fun hc89 H=>?_
   refine llH H hx70 fun X90 hX91 hx92 HL93=>?_
   refine Kl (γ:=Nat×Int) (fun (r82,Qp8)=>⟨[(1,p2),(2,p3),(5,vi Qh7),(6,p45),(8,vi Qmn),(9,.slice a78 (((((p.Funcs.getD Qh7.toNat default).Blocks).getD Qmn.toNat default).Stmts).length) k79),(10,vi Qp8)],[S a78 k79 ((((p.Funcs.getD Qh7.toNat default).Blocks).getD Qmn.toNat default).Stmts),Cl p45 [.string (bs ((p.Funcs.getD Qh7.toNat default).Name)),vl a41 k42 ((p.Funcs.getD Qh7.toNat default).Blocks)],S a41 k42 ((p.Funcs.getD Qh7.toNat default).Blocks),Cl p3 [vi 0,vi 0,vi 0,vi 0],pv p2 [vl pa0 pk0 p.Funcs],S pa0 pk0 p.Funcs],Qgp p ((p.Funcs.getD Qh7.toNat default).Name) ((p.Funcs.getD Qh7.toNat default).Blocks) ((((p.Funcs.getD Qh7.toNat default).Blocks).getD Qmn.toNat default).Stmts) r82 Qp8=X90/\r82=(((((((p.Funcs.getD Qh7.toNat default).Blocks).getD Qmn.toNat default).Stmts).length:Int):Int) - Qp8).toNat/\(0:Int)<=Qp8/\(Qp8<=(((((p.Funcs.getD Qh7.toNat default).Blocks).getD Qmn.toNat default).Stmts).length:Int)\/Qp8=0)/\(-9223372036854775808<=Qp8/\Qp8<=9223372036854775807),r82⟩) ((((((((p.Funcs.getD Qh7.toNat default).Blocks).getD Qmn.toNat default).Stmts).length:Int):Int) - 0).toNat,0) [1,2,2,3,3,4] ⟨hX91,rfl,aM1,(.inr rfl),aM1⟩ ?_
   rintro ⟨r82,Qp8⟩ ⟨hM84,hr85,hi86,hi87,hk88⟩
   refine QaE fun _ _ hL hA=>?_; dsimp only at hL hA; subst hL hA
   refine Fb 72 0 fun _=>Fb 40 2 fun _=>Fb 40 5 fun _=>KS ?_
   refine Oq Vm (Oq Vm (Oq (Qbc QgQ) (Oq Qbo (KS ?_))))
   refine Kc ?_ ?_
   ·intro h97
    have g98:=dt h97
    obtain ⟨r99,rfl⟩:=scc (n:=r82) aM1
    have H:=hM84; (try dsimp only at H); rw [Qgp] at H
    refine KS ?_
    refine pC H hx92 fun hc100 H=>?_
    refine QdG Qp8.toNat 0 rfl rng fun a101 k102 a103 k104 hb105 hb106=>?_
    unfold Qaa at hb105
    refine Fb 16 1 fun _=>?_
    refine FoS 1 fun ho108=>?_
    refine Fb 16 2 fun _=>?_
    refine FoS 2 fun ho110=>?_
    refine Qam [0,0,0,0,12,28,0,0,128,384,960,2047,4095] QcF ?_
    refine Dv [7] (Qar Qkj 0) (Dv [4] (Qar Qmx 0) (Dv [] Vm (Dv [] Vm (Dv [3] (Vi QgQ 0) (Dv [0] (Qar Qek 0) (Dv [] Vm (Dv [] Vm (Dv [] (Qbc QgQ) ?_))))))))
    refine pC H hx92 fun hc111 H=>?_
    refine pC H hx92 fun hc112 H=>?_
    refine Dv [] Qjf (Dv [] Qcb ?_)
    refine lbH H hx92 fun rv113 hg114 H=>?_
    refine Dx [1,2,5,8] [] [1,2,3,4,0] (fun G=>vi rv113) [fun G=>SP.fact (Qaa rv113)] (fun G=>xC [3,2,0,1] Qyy (Qzv p pa0 pk0 ((p.Funcs.getD Qh7.toNat default)) a41 k42 ((((((p.Funcs.getD Qh7.toNat default).Blocks).getD Qmn.toNat default).Stmts).getD Qp8.toNat default)) a101 k102 a103 k104 ((Qp8 == ((((((p.Funcs.getD Qh7.toNat default).Blocks).getD Qmn.toNat default).Stmts).length:Int) - 1))) pre pre pre rv113 hg114)) (Dv [] Va ?_)
    refine Dn ⟨by kernel_rfl,fun G=>?_⟩
    refine Jw2 [(1,p2),(2,p3),(5,vi Qh7),(6,p45),(8,vi Qmn),(9,.slice a78 (((((p.Funcs.getD Qh7.toNat default).Blocks).getD Qmn.toNat default).Stmts).length) k79),(10,vi Qp8),(11,vi rv113)] [0,1,2,3,4,5,6,7,8] [SP.fact (Qaa rv113)] ?_
    refine Jf 9 rfl ?_; rintro he115
    unfold Qaa at he115
    refine Jk [0,1,2,3,4,4,5,5,6] ?_
    refine KS ?_
    refine Oq Vm (Oq Qf4 (KS ?_))
    refine pF H hx92 fun h116 H=>?_
    refine KcF h116 ?_
    have g117:=Qae h116
    refine KS ?_
    refine Oq Vm (Oq QaS (Oq Va (KS ?_)))
    refine pC H hx92 fun hc118 H=>?_
    exact Kg (r99,(Qp8+1)) [3,4,4,5,5,6] ⟨H,aM1,aM1,aM1,aM1⟩
   intro h97
   have g119:=df h97
   obtain rfl:r82=0:=by omega
   have H:=hM84; (try dsimp only at H); rw [Qgp] at H
   refine Ke ?_
   have H:=llB H HL93
   refine KS ?_
   refine Oq Vm (Oq QaS (Oq Va (KS ?_)))
   refine pC H hx70 fun hc120 H=>?_
   exact Kg (r76,(Qmn+1)) [1,1,2,2,3] ⟨H,aM1,aM1,aM1,aM1⟩
  intro h74
  have g121:=df h74
  obtain rfl:r61=0:=by omega
  have H:=hM63; (try dsimp only at H); rw [QgD] at H
  refine Ke ?_
  have H:=llB H HL71
  refine KS ?_
  refine Oq Vm (Oq QaS (Oq Va (KS ?_)))
  refine pC H hx34 fun hc122 H=>?_
  exact Kg (r39,(Qh7+1)) [2,2,3] ⟨H,aM1,aM1,aM1,aM1⟩
 intro h37
 have g123:=df h37
 obtain rfl:r25=0:=by omega
 have H:=hM27; (try dsimp only at H); rw [Qge] at H
 refine Ke ?_
 have H:=llB H HL35
 refine KS ?_
 refine Oq (Qar Qkj 1) ?_
 refine lbH H hx0 fun rv124 hg125 H=>?_
 have hc126:=Qy4 p pa0 pk0 rv124 hg125
 refine Oc [2] QxM hc126 ?_
 rintro - ⟨he127,he128⟩
 unfold Qaa at he127 he128
 refine Oq Vm (Oq Vx (Oq Vx (Oq Va (Oq Va (KS ?_)))))
 refine Oq (Qar Qkj 1) ?_
 refine lbH H hx0 fun rv130 hg131 H=>?_
 have hc132:=Qum p pa0 pk0 rv130 hg131
 refine Oc [2] Qul hc132 ?_
 rintro c129 -
 refine Jo 0 ?_; rintro a133 k134 rfl
 refine Fb 16 0 fun _=>?_
 refine FoS 0 fun ho136=>?_
 refine Oq (Qbc Qcu) (Oq QgZ (Oq Vm ?_))
 refine pF H hx0 fun h137 H=>?_
 refine JsF 92 h137 ?_
 have g138:=df h137
 refine Oq Vm (Oq QgZ (Oq Vpf (Oq Vm ?_)))
 refine pF H hx0 fun h139 H=>?_
 refine JsF 96 h139 ?_
 have g140:=df h139
 refine Oq Vm (Oq QgZ (Oq Vpf (KS ?_)))
 refine pF H hx0 fun h141 H=>?_
 refine KcF h141 ?_
 have g142:=df h141
 refine KS ?_
 refine Oq (Vbd Qol [vi 0,vi 0,vi 0,vi 0]) (Ost (Scl [1] Qkr [vi 0,vi 0,vi 0,vi 0]) (Oq Va (KS ?_)))
 have hq:=rI H; subst hq
 exact Kr () rfl (.cellN 0 rfl Qkr rfl (Qak _ _) rfl (.tmp rfl .nil)) [] en
theorem Quu (p:Qaz) (pa0:Option Addr) (pk0:Nat) (rr:List Qbl) (hrr:QlS p=.ret rr):FT Tryz.prog 127 #[.agg #[vl pa0 pk0 p.Funcs]] [S pa0 pk0 p.Funcs] (fun g:Value=>True) (fun g=>g) (fun g=>[sl g rr]):=by
 refine FTi Tryz.func127 fun w0 M0 F0=>Fb 40 0 fun _=>?_
 have hx0:=lrn rr; have H:=hrr; unfold QlS at H
 refine KS ?_
 refine Oa (Ab [vl pa0 pk0 p.Funcs]) fun p2=>Oq Va (KS ?_)
 refine Oq Va (KS ?_)
 refine Oq (Qar Qkj 0) ?_
 refine lbH H hx0 fun rv3 hg4 H=>?_
 have hc5:=QuY p pa0 pk0 rv3 hg4
 refine Oc [1] Quh hc5 ?_
 rintro - ⟨he6,he7,he8,he9,he10⟩
 unfold Qaa at he6 he7 he8 he9 he10
 refine Oq Vm (Oq Vx (Oq Vx (Oa (Al Qrf [vi 0,vi 0,vi 0,vi 0]) fun p11=>Ost (Scl [0] Qkr [vi rv3.1.Kind,vi rv3.1.Func,vi rv3.1.Block,vi rv3.1.Stmt]) (Oq Va (KS ?_)))))
 refine Oq Vm (Oq Qf4 (KS ?_))
 refine pF H hx0 fun h12 H=>?_
 refine KcF h12 ?_
 have g13:=Qae h12
 refine KS ?_
 refine Oq Va (KS ?_)
 refine Jl [] (Ent.osNil (α:=Qbl)) ?_
 refine llH H hx0 fun X24 hX25 hx26 HL27=>?_
 refine Kl (γ:=Nat×List Qbl×Int×Option Addr×Nat) (fun (r14,Qmb,Qe6,a17,k18)=>⟨[(1,p2),(3,vl a17 k18 Qmb),(6,vi Qe6)],[O a17 k18 Qmb,pv p2 [vl pa0 pk0 p.Funcs],S pa0 pk0 p.Funcs],Qhm p r14 Qmb Qe6=X24/\r14=((p.Funcs.length:Int) - Qe6).toNat/\(0:Int)<=Qe6/\Qe6<=(p.Funcs.length:Int)/\(-9223372036854775808<=Qe6/\Qe6<=9223372036854775807),r14⟩) (((p.Funcs.length:Int) - 0).toNat,[],0,none,0) [0,1,2] ⟨hX25,rfl,aM1,aM1,aM1⟩ ?_
 rintro ⟨r14,Qmb,Qe6,a17,k18⟩ ⟨hM19,hr20,hi21,hi22,hk23⟩
 refine QaE fun _ _ hL hA=>?_; dsimp only at hL hA; subst hL hA
 refine Fb 32 0 fun _=>Fb 40 2 fun _=>KS ?_
 refine Oq Vm (Oq (Vfa Qej 1) (Oq (Qai Qmm 1) (Oq (Qbc Ql3) (Oq Qbo (KS ?_)))))
 refine Kc ?_ ?_
 ·intro h30
  have g31:=dt h30
  obtain ⟨r32,rfl⟩:=scc (n:=r14) aM1
  have H:=hM19; (try dsimp only at H); rw [Qhm] at H
  refine KS ?_
  refine Oq Vm (Oq Vm (Oq (Vbd Qol [vi 1,vi Qe6,vi (-1),vi (-1)]) (Oa (AsV Qgb Qqp [.agg #[vi 1,vi Qe6,vi (-1),vi (-1)]] [vi 1,vi Qe6,vi (-1),vi (-1)]) fun c33=>?_)))
  refine Jo 0 ?_; rintro a34 k35 rfl
  refine Jl [0] (Ent.cr1 (α:=Qbl) (A:=[]) _ (Qbl.mk 1 Qe6 (-1) (-1)) _ aB1 (fun h=>⟨rfl,aL1,aL1,aL1,aL1⟩)) ?_
  refine pC H hx26 fun hc36 H=>?_
  refine Oa (ApO [1,0] Qgb Qgb Qqp) fun c37=>?_
  refine Jo 0 ?_; rintro a38 k39 rfl
  refine Fb 32 0 fun _=>?_
  have hn41:=la Qmb ([(Qbl.mk 1 Qe6 (-1) (-1))]:List Qbl)
  refine Oq Va (KS ?_)
  refine Oq Va (KS ?_)
  refine llH H hx26 fun X49 hX50 hx51 HL52=>?_
  refine Kl (γ:=Nat×List Qbl×Int×Option Addr×Nat) (fun (r42,Qmc,QmD,a45,k46)=>⟨[(1,p2),(6,vi Qe6),(3,vl a45 k46 Qmc),(7,vi QmD)],[O a45 k46 Qmc,pv p2 [vl pa0 pk0 p.Funcs],S pa0 pk0 p.Funcs],QiY p Qe6 r42 Qmc QmD=X49/\(-9223372036854775808<=QmD/\QmD<=9223372036854775807),r42⟩) (100000,(Qmb++[(Qbl.mk 1 Qe6 (-1) (-1))]),0,a38,k39) [0,0,1] ⟨hX50,aM1⟩ ?_
  rintro ⟨r42,Qmc,QmD,a45,k46⟩ ⟨hM47,hk48⟩
  refine QaE fun _ _ hL hA=>?_; dsimp only at hL hA; subst hL hA
  refine Fb 32 0 fun _=>Fb 40 2 fun _=>?_
  rcases r42 with _ | r42
  ·exact absurd (hM47.symm.trans rfl) hx51
  have H:=hM47; (try dsimp only at H); rw [QiY] at H
  refine KS ?_
  refine Oq Vm (Oq (Vfa Qej 1) (Oq (Qai Qmm 1) (Oq Vm ?_)))
  refine pC H hx51 fun hc55 H=>?_
  refine Oq (Vi Ql3 2) ?_
  refine Qdb Qe6.toNat 2 rfl rng fun a56 k57 hb58=>?_
  refine Fb 40 1 fun _=>?_
  refine Oq (Vfa QdH 0) (Oq (Qai QhL 0) (Oq (Qbc Qht) (Oq Qbo (KS ?_))))
  refine pC H hx51 fun hc61 H=>?_
  refine KcH H ?_ ?_
  ·intro h60 H
   have g62:=dt h60
   refine KS ?_
   refine Oq (Vfa Qej 3) (Oq (Qai Qmm 3) (Oq Vm (Oq (Vi Ql3 4) (Oq (Vfa QdH 0) (Oq (Qai QhL 0) (Oq Vm ?_))))))
   refine pC H hx51 fun hc63 H=>?_
   refine pC H hx51 fun hc64 H=>?_
   refine Oq (Vi Qht 1) ?_
   refine QcE QmD.toNat 1 rfl rng fun a65 k66 hb67=>?_
   refine Fb 72 1 fun _=>?_
   refine Oq (Vfa Qff 0) (Oq (Qai Qkn 0) (Oq Va (KS ?_)))
   refine Oq Va (KS ?_)
   refine pC H hx51 fun hc79 H=>?_
   refine llH H hx51 fun X80 hX81 hx82 HL83=>?_
   refine Kl (γ:=Nat×List Qbl×Int×Option Addr×Nat) (fun (r69,Qmd,QoS,a72,k73)=>⟨[(1,p2),(6,vi Qe6),(3,vl a72 k73 Qmd),(7,vi QmD),(8,.slice a65 (((((p.Funcs.getD Qe6.toNat default).Blocks).getD QmD.toNat default).Stmts).length) k66),(9,vi QoS)],[O a72 k73 Qmd,S a65 k66 ((((p.Funcs.getD Qe6.toNat default).Blocks).getD QmD.toNat default).Stmts),pv p2 [vl pa0 pk0 p.Funcs],S pa0 pk0 p.Funcs],Qhr Qe6 QmD ((((p.Funcs.getD Qe6.toNat default).Blocks).getD QmD.toNat default).Stmts) r69 Qmd QoS=X80/\r69=(((((((p.Funcs.getD Qe6.toNat default).Blocks).getD QmD.toNat default).Stmts).length:Int):Int) - QoS).toNat/\(0:Int)<=QoS/\(QoS<=(((((p.Funcs.getD Qe6.toNat default).Blocks).getD QmD.toNat default).Stmts).length:Int)\/QoS=0)/\(-9223372036854775808<=QoS/\QoS<=9223372036854775807),r69⟩) ((((((((p.Funcs.getD Qe6.toNat default).Blocks).getD QmD.toNat default).Stmts).length:Int):Int) - 0).toNat,Qmc,0,a45,k46) [4,1,4,5] ⟨hX81,rfl,aM1,(.inr rfl),aM1⟩ ?_
   rintro ⟨r69,Qmd,QoS,a72,k73⟩ ⟨hM74,hr75,hi76,hi77,hk78⟩
   refine QaE fun _ _ hL hA=>?_; dsimp only at hL hA; subst hL hA
   refine Fb 32 0 fun _=>Fb 72 1 fun _=>Fb 40 3 fun _=>KS ?_
   refine Oq Vm (Oq Vm (Oq (Qbc QgQ) (Oq Qbo (KS ?_))))
   refine Kc ?_ ?_
   ·intro h87
    have g88:=dt h87
    obtain ⟨r89,rfl⟩:=scc (n:=r69) aM1
    have H:=hM74; (try dsimp only at H); rw [Qhr] at H
    refine KS ?_
    refine Oq Vm (Oq Vm (Oq Vm (Oq Vm (Oq (Vbd Qol [vi 3,vi Qe6,vi QmD,vi QoS]) (Oa (AsV Qgb Qqp [.agg #[vi 3,vi Qe6,vi QmD,vi QoS]] [vi 3,vi Qe6,vi QmD,vi QoS]) fun c90=>?_)))))
    refine Jo 0 ?_; rintro a91 k92 rfl
    refine Jl [0] (Ent.cr1 (α:=Qbl) (A:=[]) _ (Qbl.mk 3 Qe6 QmD QoS) _ aB1 (fun h=>⟨rfl,aL1,aL1,aL1,aL1⟩)) ?_
    refine pC H hx82 fun hc93 H=>?_
    refine Oa (ApO [1,0] Qgb Qgb Qqp) fun c94=>?_
    refine Jo 0 ?_; rintro a95 k96 rfl
    refine Fb 32 0 fun _=>?_
    have hn98:=la Qmd ([(Qbl.mk 3 Qe6 QmD QoS)]:List Qbl)
    refine Oq Va (KS ?_)
    refine Oq Vm (Oq Vm ?_)
    refine pC H hx82 fun hc99 H=>?_
    refine Oq (Vi QgQ 1) ?_
    refine QdG QoS.toNat 1 rfl rng fun a100 k101 a102 k103 hb104 hb105=>?_
    unfold Qaa at hb104
    refine Fb 16 1 fun _=>?_
    refine FoS 1 fun ho107=>?_
    refine Fb 16 2 fun _=>?_
    refine FoS 2 fun ho109=>?_
    refine Oq (Vfa QdV 0) (Oq (Qai sh3 0) (Oq Qcb (KS ?_)))
    refine pC H hx82 fun hc111 H=>?_
    refine pF H hx82 fun h110 H=>?_
    refine KcF h110 ?_
    have g112:=ne_of_beq_false h110
    refine KS ?_
    refine Oq Vm (Oq QaS (Oq Va (KS ?_)))
    refine pC H hx82 fun hc113 H=>?_
    exact Kg (r89,(Qmd++[(Qbl.mk 3 Qe6 QmD QoS)]),(QoS+1),a95,k96) [3,3,4,5] ⟨H,aM1,aM1,aM1,aM1⟩
   intro h87
   have g114:=df h87
   obtain rfl:r69=0:=by omega
   have H:=hM74; (try dsimp only at H); rw [Qhr] at H
   refine Ke ?_
   have H:=llB H HL83
   refine KS ?_
   refine Oq Vm ?_
   refine pC H hx51 fun hc115 H=>?_
   refine Oq QaS (Oq Va (KS ?_))
   exact Kg (r42,Qmd,(QmD+1),a72,k73) [0,1,2] ⟨H,aM1⟩
  intro h60 H
  have g116:=df h60
  refine Ke ?_
  have H:=llB H HL52
  refine KS ?_
  refine Oq Vm (Oq Vm (Oq (Vbd Qol [vi 2,vi Qe6,vi (-1),vi (-1)]) (Oa (AsV Qgb Qqp [.agg #[vi 2,vi Qe6,vi (-1),vi (-1)]] [vi 2,vi Qe6,vi (-1),vi (-1)]) fun c117=>?_)))
  refine Jo 0 ?_; rintro a118 k119 rfl
  refine Jl [0] (Ent.cr1 (α:=Qbl) (A:=[]) _ (Qbl.mk 2 Qe6 (-1) (-1)) _ aB1 (fun h=>⟨rfl,aL1,aL1,aL1,aL1⟩)) ?_
  refine pC H hx26 fun hc120 H=>?_
  refine Oa (ApO [3,0] Qgb Qgb Qqp) fun c121=>?_
  refine Jo 0 ?_; rintro a122 k123 rfl
  refine Fb 32 0 fun _=>?_
  have hn125:=la Qmc ([(Qbl.mk 2 Qe6 (-1) (-1))]:List Qbl)
  refine Oq Va (KS ?_)
  refine Oq Vm (Oq QaS (Oq Va (KS ?_)))
  refine pC H hx26 fun hc126 H=>?_
  exact Kg (r32,(Qmc++[(Qbl.mk 2 Qe6 (-1) (-1))]),(Qe6+1),a122,k123) [0,2,3] ⟨H,aM1,aM1,aM1,aM1⟩
 intro h30
 have g127:=df h30
 obtain rfl:r14=0:=by omega
 have H:=hM19; (try dsimp only at H); rw [Qhm] at H
 refine Ke ?_
 have H:=llB H HL27
 refine KS ?_
 refine Oq Vm (Oq Va (KS ?_))
 refine Jl [0] (Ent.freeze _ _) ?_
 have hq:=rI H; subst hq
 exact Kr (vl a17 k18 Qmb) rfl (.tmp rfl .nil) [0] trivial
theorem Qw7 (s:QdB) (sa2:Option Addr) (sk2:Nat) (sa3:Option Addr) (sk3:Nat) (QcL:Qaa s.Op) (QzO:s.Def.b.length<=140737488355328) (rr:Bool) (hrr:QiT s=.ret rr):FT Tryz.prog 128 #[.agg #[vi s.Op,.string (bs s.Def),vl sa2 sk2 s.Uses,vl sa3 sk3 s.Targets]] [S sa2 sk2 s.Uses,S sa3 sk3 s.Targets] (fun g:Unit=>True) (fun g=>vb rr) (fun g=>[]):=by
 refine FTi Tryz.func128 fun w0 M0 F0=>?_
 unfold Qaa at QcL
 refine Fb 16 0 fun _=>?_
 refine FoS 0 fun ho2=>?_
 refine Fb 16 1 fun _=>?_
 refine FoS 1 fun ho4=>?_
 have hx0:=lrn rr; have H:=hrr; unfold QiT at H
 refine KS ?_
 refine Oa (Ab [vi s.Op,.string (bs s.Def),vl sa2 sk2 s.Uses,vl sa3 sk3 s.Targets]) fun p5=>Oq Va (KS ?_)
 refine Oq (Vfa QdV 0) (Oq (Qai sh3 0) (Oq Qcb (Oq Vm ?_)))
 refine JsH 6 H ?_ ?_
 ·intro h6 H
  have g7:=eq_of_beq h6
  refine Osk (Osk (Osk (Oq Vpt (Oq Vm (Osk (Osk (Osk (Oq Vpt (Oq Va ?_)))))))))
  refine KS ?_
  have hq:=rI H; subst hq
  exact Kr () rfl (.tmp rfl .nil) [] trivial
 intro h6 H
 have g8:=ne_of_beq_false h6
 refine Oq (Vfa QdV 0) (Oq (Qai sh3 0) (Oq Qcb (Oq Vpf (Oq Vm ?_))))
 refine pF H hx0 fun h9 H=>?_
 refine JsF 11 h9 ?_
 have g10:=ne_of_beq_false h9
 refine Oq (Vfa QdV 0) (Oq (Qai sh3 0) (Oq Qcb (Oq Vpf (Oq Va (KS ?_)))))
 have hq:=rI H; subst hq
 exact Kr () rfl (.tmp rfl .nil) [] trivial
theorem QsD (l:List Qbl) (la0:Option Addr) (lk0:Nat) (n:Qbl) (Qf1:Qaa n.Kind) (Qxu:Qaa n.Func) (Qxv:Qaa n.Block) (Qxw:Qaa n.Stmt) (rr:Int) (hrr:QiQ l n=.ret rr):FT Tryz.prog 167 #[vl la0 lk0 l,.agg #[vi n.Kind,vi n.Func,vi n.Block,vi n.Stmt]] [S la0 lk0 l] (fun g:Unit=>Qaa rr) (fun g=>vi rr) (fun g=>[]):=by
 refine FTi Tryz.func167 fun w0 M0 F0=>?_
 unfold Qaa at Qf1 Qxu Qxv Qxw
 refine Fb 32 0 fun _=>?_
 have hx0:=lrn rr; have H:=hrr; unfold QiQ at H
 refine KS ?_
 refine Oa (Ab [vi n.Kind,vi n.Func,vi n.Block,vi n.Stmt]) fun p2=>Oq Va (KS ?_)
 refine Oq Va (KS ?_)
 refine llH H hx0 fun X10 hX11 hx12 HL13=>?_
 refine Kl (γ:=Nat×Int) (fun (r3,i_4)=>⟨[(0,vl la0 lk0 l),(3,p2),(5,vi i_4)],[pv p2 [vi n.Kind,vi n.Func,vi n.Block,vi n.Stmt],S la0 lk0 l],Qgu l n r3 i_4=X10/\r3=((l.length:Int) - i_4).toNat/\(0:Int)<=i_4/\i_4<=(l.length:Int)/\(-9223372036854775808<=i_4/\i_4<=9223372036854775807),r3⟩) (((l.length:Int) - 0).toNat,0) [0,1] ⟨hX11,rfl,aM1,aM1,aM1⟩ ?_
 rintro ⟨r3,i_4⟩ ⟨hM5,hr6,hi7,hi8,hk9⟩
 refine QaE fun _ _ hL hA=>?_; dsimp only at hL hA; subst hL hA
 refine Fb 32 1 fun _=>KS ?_
 refine Oq Vm (Oq Vm (Oq (Qbc Qgb) (Oq Qbo (KS ?_))))
 refine Kc ?_ ?_
 ·intro h15
  have g16:=dt h15
  obtain ⟨r17,rfl⟩:=scc (n:=r3) aM1
  have H:=hM5; (try dsimp only at H); rw [Qgu] at H
  refine KS ?_
  refine pC H hx12 fun hc18 H=>?_
  refine QeU i_4.toNat 1 rfl rng fun hb19 hb20 hb21 hb22=>?_
  unfold Qaa at hb19 hb20 hb21 hb22
  refine Kq [0,0,3,7,0,31] QcF ?_
  refine Qv [] Vm (Qv [] Vm (Qv [2] (Vi Qgb 0) (Qv [0] (Qar Qkr 0) (Qv [1] (Qar Qkr 0) (Qv [] (QyF Qwt (l:=[(l.getD i_4.toNat default).Kind,(l.getD i_4.toNat default).Func,(l.getD i_4.toNat default).Block,(l.getD i_4.toNat default).Stmt]) (m:=[n.Kind,n.Func,n.Block,n.Stmt])) ?_)))))
  refine Qn ⟨by kernel_rfl,?_⟩
  refine pC H hx12 fun hc24 H=>?_
  refine KcH H ?_ ?_
  ·intro h23 H
   have g25:=eq_of_beq h23
   refine KS ?_
   refine Oq Vm (Oq Va (KS ?_))
   have H:=llR H HL13
   have hq:=rI H; subst hq
   exact Kr () rfl (.tmp rfl .nil) [] en
  intro h23 H
  have g26:=ne_of_beq_false h23
  refine KS ?_
  refine Oq Vm (Oq QaS (Oq Va (KS ?_)))
  refine pC H hx12 fun hc27 H=>?_
  exact Kg (r17,(i_4+1)) [1,2] ⟨H,aM1,aM1,aM1,aM1⟩
 intro h15
 have g28:=df h15
 obtain rfl:r3=0:=by omega
 have H:=hM5; (try dsimp only at H); rw [Qgu] at H
 exact absurd H.symm hx12
theorem QxN (p:Qaz) (pa0:Option Addr) (pk0:Nat) (n:Qbl) (Qf1:Qaa n.Kind) (Qxu:Qaa n.Func) (Qxv:Qaa n.Block) (Qxw:Qaa n.Stmt) (rr:Int) (hrr:Qpf p n=.ret rr):FT Tryz.prog 131 #[.agg #[vl pa0 pk0 p.Funcs],.agg #[vi n.Kind,vi n.Func,vi n.Block,vi n.Stmt]] [S pa0 pk0 p.Funcs] (fun g:Unit=>Qaa rr) (fun g=>vi rr) (fun g=>[]):=by
 refine FTi Tryz.func131 fun w0 M0 F0=>?_
 unfold Qaa at Qf1 Qxu Qxv Qxw
 refine Fb 40 0 fun _=>?_
 have hx0:=lrn rr; have H:=hrr; unfold Qpf at H
 refine KS ?_
 refine Oa (Ab [vl pa0 pk0 p.Funcs]) fun p2=>Oa (Ab [vi n.Kind,vi n.Func,vi n.Block,vi n.Stmt]) fun p3=>Oq Va (KS ?_)
 refine Qam [0,1,0,7,15] QcF ?_
 refine Dv [1] (Qar Qkj 0) ?_
 refine lbH H hx0 fun rv5 hg6 H=>?_
 refine Dx [2] [] [2,0,1] (fun G=>(G.g 1 0)) [fun G=>SP.fact (True),fun G=>sl (G.g 1 0) rv5] (fun G=>xC [0] Qug (Quu p pa0 pk0 rv5 hg6)) (Dv [0] (Qar Qkr 0) ?_)
 refine lbH H hx0 fun rv10 hg11 H=>?_
 refine Dx [4] [] [1,0] (fun G=>vi rv10) [fun G=>SP.fact (Qaa rv10)] (fun G=>xD [0] Qs1 rfl rfl rfl (QlR (γ:=Unit) (I:=fun g=>Qaa rv10) (V:=fun g=>vi rv10) (B:=fun g=>[]) (R:=sl (G.g 1 0) rv5) QjT (fun aq7 kq8 eq9=>by rw [eq9]; exact Qe7 (Ent.take (is:=[0]) rfl) (QsD rv5 aq7 kq8 n pre pre pre pre rv10 hg11)))) (Dv [] Va ?_)
 refine Dn ⟨by kernel_rfl,fun G=>?_⟩
 refine Jw2 [(4,vi rv10)] [0,1,2] [SP.fact (True),sl (G.g 1 0) rv5,SP.fact (Qaa rv10)] ?_
 generalize G.g 1 0=c4
 refine Jf 5 rfl ?_; rintro he12
 unfold Qaa at he12
 refine Jk [0,1,2,4] ?_
 refine Jo 3 ?_; rintro a13 k14 rfl
 refine Fb 32 3 fun _=>?_
 have hq:=rI H; subst hq
 exact Kr () rfl (.tmp rfl .nil) [] en
theorem QAk (p:Qaz) (pa0:Option Addr) (pk0:Nat) (n:Qbl) (Qf1:Qaa n.Kind) (Qxu:Qaa n.Func) (Qxv:Qaa n.Block) (Qxw:Qaa n.Stmt) (rr:QdB×Bool) (hrr:QnK p n=.ret rr):FT Tryz.prog 90 #[.agg #[vl pa0 pk0 p.Funcs],.agg #[vi n.Kind,vi n.Func,vi n.Block,vi n.Stmt]] [S pa0 pk0 p.Funcs] (fun g:Value×Value=>Qaa rr.1.Op/\rr.1.Def.b.length<=140737488355328) (fun g=>.tuple #[.agg #[vi rr.1.Op,.string (bs rr.1.Def),g.1,g.2],vb rr.2]) (fun g=>[sl g.1 rr.1.Uses,sl g.2 rr.1.Targets]):=by
 refine FTi Tryz.func90 fun w0 M0 F0=>?_
 unfold Qaa at Qf1 Qxu Qxv Qxw
 refine Fb 40 0 fun _=>?_
 have hx0:=lrn rr; have H:=hrr; unfold QnK at H
 refine KS ?_
 refine Oa (Ab [vl pa0 pk0 p.Funcs]) fun p2=>Oa (Ab [vi n.Kind,vi n.Func,vi n.Block,vi n.Stmt]) fun p3=>Oa (Al Qqx [vi 0,.string (bs (Str.mk [])),.slice none 0 0,.slice none 0 0]) fun p4=>Oq Va (KS ?_)
 refine Oq (Qar Qkj 2) (Oq (Qar Qkr 1) ?_)
 refine lbH H hx0 fun rv5 hg6 H=>?_
 have hc7:=QxN p pa0 pk0 n pre pre pre pre rv5 hg6
 refine Oc [3] QxV hc7 ?_
 rintro - he8
 unfold Qaa at he8
 refine Oq Qbo (Oq Vm ?_)
 refine pF H hx0 fun h9 H=>?_
 refine JsF 10 h9 ?_
 have g10:=df h9
 refine Oq (Vfa Qjy 1) (Oq (Qai sh3 1) (Oq Qf4 (Oq Vm ?_)))
 refine JsH 14 H ?_ ?_
 ·intro h11 H
  have g12:=Qax h11
  refine Oq (Vfa Qjy 1) (Oq (Qai sh3 1) (Oq Qf4 (Oq Vpt (Oq Vpf (KS ?_)))))
  refine pT H hx0 fun h13 H=>?_
  refine KcT h13 ?_
  have g14:=Qax h13
  refine KS ?_
  refine Oq (Vbd QzC [vi 0,.string (bs (Str.mk [])),.slice none 0 0,.slice none 0 0]) (Ost (Scl [0] Qek [vi 0,.string (bs (Str.mk [])),.slice none 0 0,.slice none 0 0]) (Oq Va (KS ?_)))
  refine Jl [] (Ent.slNil (α:=Str)) ?_
  have hq:=rI H; subst hq
  exact Kr (.slice none 0 0,.slice none 0 0) rfl (.cellN 1 rfl Qek rfl (Qak _ _) rfl (.tmp rfl .nil)) [0,0] en
 intro h11 H
 have g15:=Qae h11
 refine Osk (Osk (Osk (Oq Vpf (Oq Vpf (KS ?_)))))
 refine Kf (KS ?_)
 refine pC H hx0 fun hc16 H=>?_
 refine Qdb n.Func.toNat 3 rfl rng fun a17 k18 hb19=>?_
 refine Fb 40 1 fun _=>?_
 refine pC H hx0 fun hc21 H=>?_
 refine pC H hx0 fun hc22 H=>?_
 refine QcE n.Block.toNat 1 rfl rng fun a23 k24 hb25=>?_
 refine Fb 72 1 fun _=>?_
 refine pC H hx0 fun hc27 H=>?_
 refine pC H hx0 fun hc28 H=>?_
 refine QdG n.Stmt.toNat 1 rfl rng fun a29 k30 a31 k32 hb33 hb34=>?_
 unfold Qaa at hb33
 refine Fb 16 1 fun _=>?_
 refine FoS 1 fun ho36=>?_
 refine Fb 16 2 fun _=>?_
 refine FoS 2 fun ho38=>?_
 refine Qam [0,1,0,4,15,31,63,0,128,511,1023,2047,0,4096,16383,32767,65535,131071] QcF ?_
 refine Dv [9] (Vfa Qej 0) (Dv [9] (Qai Qmm 0) (Dv [8] (Vfa QlA 0) (Dv [8] (Qai sh3 0) (Dv [10] (Vi Ql3 0) (Dv [5] (Vfa QdH 0) (Dv [5] (Qai QhL 0) (Dv [8] (Vfa Qo9 0) (Dv [8] (Qai sh3 0) (Dv [6] (Vi Qht 0) ?_)))))))))
 refine Dv [3] (Vfa Qff 0) (Dv [3] (Qai Qkn 0) (Dv [8] (Vfa Qpo 0) (Dv [8] (Qai sh3 0) (Dv [4] (Vi QgQ 0) (Dv [0] (Qar Qek 0) (Dx0 [7] [7] [0] [fun G=>Cl p4 [vi ((((((p.Funcs.getD n.Func.toNat default).Blocks).getD n.Block.toNat default).Stmts).getD n.Stmt.toNat default).Op),.string (bs ((((((p.Funcs.getD n.Func.toNat default).Blocks).getD n.Block.toNat default).Stmts).getD n.Stmt.toNat default).Def)),.slice a29 (((((((p.Funcs.getD n.Func.toNat default).Blocks).getD n.Block.toNat default).Stmts).getD n.Stmt.toNat default).Uses).length) k30,.slice a31 (((((((p.Funcs.getD n.Func.toNat default).Blocks).getD n.Block.toNat default).Stmts).getD n.Stmt.toNat default).Targets).length) k32]] (fun G=>xS (Scl [0] Qek [vi ((((((p.Funcs.getD n.Func.toNat default).Blocks).getD n.Block.toNat default).Stmts).getD n.Stmt.toNat default).Op),.string (bs ((((((p.Funcs.getD n.Func.toNat default).Blocks).getD n.Block.toNat default).Stmts).getD n.Stmt.toNat default).Def)),.slice a29 (((((((p.Funcs.getD n.Func.toNat default).Blocks).getD n.Block.toNat default).Stmts).getD n.Stmt.toNat default).Uses).length) k30,.slice a31 (((((((p.Funcs.getD n.Func.toNat default).Blocks).getD n.Block.toNat default).Stmts).getD n.Stmt.toNat default).Targets).length) k32])) (Dv [] Va ?_)))))))
 refine Dn ⟨by kernel_rfl,fun G=>?_⟩
 refine Jw2 [(4,p4),(5,vb true)] [0,1,2,3,4,5,6,8,9,10] [Cl p4 [vi ((((((p.Funcs.getD n.Func.toNat default).Blocks).getD n.Block.toNat default).Stmts).getD n.Stmt.toNat default).Op),.string (bs ((((((p.Funcs.getD n.Func.toNat default).Blocks).getD n.Block.toNat default).Stmts).getD n.Stmt.toNat default).Def)),.slice a29 (((((((p.Funcs.getD n.Func.toNat default).Blocks).getD n.Block.toNat default).Stmts).getD n.Stmt.toNat default).Uses).length) k30,.slice a31 (((((((p.Funcs.getD n.Func.toNat default).Blocks).getD n.Block.toNat default).Stmts).getD n.Stmt.toNat default).Targets).length) k32]] ?_
 refine pC H hx0 fun hc39 H=>?_
 have hq:=rI H; subst hq
 exact Kr (.slice a29 (((((((p.Funcs.getD n.Func.toNat default).Blocks).getD n.Block.toNat default).Stmts).getD n.Stmt.toNat default).Uses).length) k30,.slice a31 (((((((p.Funcs.getD n.Func.toNat default).Blocks).getD n.Block.toNat default).Stmts).getD n.Stmt.toNat default).Targets).length) k32) rfl (.cellN 10 rfl Qek rfl (Qak _ _) rfl (.tmp rfl .nil)) [1,2] en
theorem QAE (p:Qaz) (pa0:Option Addr) (pk0:Nat) (kind:Int) (Qme:Qaa kind) (rr:List QfM×Int) (hrr:QnD p kind=.ret rr):FT Tryz.prog 88 #[.agg #[vl pa0 pk0 p.Funcs],vi kind] [S pa0 pk0 p.Funcs] (fun g:Value=>Qaa rr.2) (fun g=>.tuple #[g,vi rr.2]) (fun g=>[sl g rr.1]):=by
 refine FTi Tryz.func88 fun w0 M0 F0=>?_
 unfold Qaa at Qme
 refine Fb 40 0 fun _=>?_
 have hx0:=lrn rr; have H:=hrr; unfold QnD at H
 refine KS ?_
 refine Oa (Ab [vl pa0 pk0 p.Funcs]) fun p2=>Oq Va (Oq Va (KS ?_))
 refine Oq (Qar Qkj 0) ?_
 refine lbH H hx0 fun rv3 hg4 H=>?_
 have hc5:=QuY p pa0 pk0 rv3 hg4
 refine Oc [1] Quh hc5 ?_
 rintro - ⟨he6,he7,he8,he9,he10⟩
 unfold Qaa at he6 he7 he8 he9 he10
 refine Oq Vm (Oq Vx (Oq Vx (Oa (Al Qrf [vi 0,vi 0,vi 0,vi 0]) fun p11=>Ost (Scl [0] Qkr [vi rv3.1.Kind,vi rv3.1.Func,vi rv3.1.Block,vi rv3.1.Stmt]) (Oq Va (KS ?_)))))
 refine Oq Vm (Oq Qf4 (KS ?_))
 refine pF H hx0 fun h12 H=>?_
 refine KcF h12 ?_
 have g13:=Qae h12
 refine KS ?_
 refine Oq Vm (Oq Qbo (Oq Vm ?_))
 refine pF H hx0 fun h14 H=>?_
 refine JsF 25 h14 ?_
 have g15:=df h14
 refine Oq Vm (Oq QgZ (Oq Vpf (KS ?_)))
 refine pF H hx0 fun h16 H=>?_
 refine KcF h16 ?_
 have g17:=df h16
 refine KS ?_
 refine Oq (Qar Qkj 1) ?_
 refine lbH H hx0 fun rv19 hg20 H=>?_
 have hc21:=Qum p pa0 pk0 rv19 hg20
 refine Oc [2] Qul hc21 ?_
 rintro c18 -
 refine Jo 0 ?_; rintro a22 k23 rfl
 refine Fb 16 0 fun _=>?_
 refine FoS 0 fun ho25=>?_
 refine Oq Va (KS ?_)
 refine Oq Va (KS ?_)
 refine Oq Vm (Oq Qf4 (KS ?_))
 refine pF H hx0 fun h26 H=>?_
 refine KcF h26 ?_
 have g27:=Qae h26
 refine KS ?_
 refine Oq (Qar Qkj 2) ?_
 refine lbH H hx0 fun rv29 hg30 H=>?_
 have hc31:=Quu p pa0 pk0 rv29 hg30
 refine Oc [3] Qug hc31 ?_
 rintro c28 -
 refine Jo 0 ?_; rintro a32 k33 rfl
 refine Fb 32 0 fun _=>?_
 refine Oq Va (KS ?_)
 refine Oq Va (KS ?_)
 refine Jl [] (Ent.osNil (α:=QfM)) ?_
 refine llH H hx0 fun X45 hX46 hx47 HL48=>?_
 refine Kl (γ:=Nat×List QfM×Int×Option Addr×Nat) (fun (r35,Qjn,Qm9,a38,k39)=>⟨[(2,p2),(8,vl a22 k23 rv19),(9,vl a38 k39 Qjn),(11,vl a32 k33 rv29),(12,vi Qm9)],[O a38 k39 Qjn,S a32 k33 rv29,S a22 k23 rv19,pv p2 [vl pa0 pk0 p.Funcs],S pa0 pk0 p.Funcs],Qez p rv19 rv29 r35 Qjn Qm9=X45/\r35=((rv29.length:Int) - Qm9).toNat/\(0:Int)<=Qm9/\Qm9<=(rv29.length:Int)/\(-9223372036854775808<=Qm9/\Qm9<=9223372036854775807),r35⟩) (((rv29.length:Int) - 0).toNat,[],0,none,0) [0,0,1,3,4] ⟨hX46,rfl,aM1,aM1,aM1⟩ ?_
 rintro ⟨r35,Qjn,Qm9,a38,k39⟩ ⟨hM40,hr41,hi42,hi43,hk44⟩
 refine QaE fun _ _ hL hA=>?_; dsimp only at hL hA; subst hL hA
 refine Fb 16 0 fun _=>Fb 32 1 fun _=>Fb 16 2 fun _=>?_
 refine FoS 2 fun ho52=>?_
 refine Fb 40 4 fun _=>KS ?_
 refine Oq Vm (Oq Vm (Oq (Qbc Qgb) (Oq Qbo (KS ?_))))
 refine Kc ?_ ?_
 ·intro h54
  have g55:=dt h54
  obtain ⟨r56,rfl⟩:=scc (n:=r35) aM1
  have H:=hM40; (try dsimp only at H); rw [Qez] at H
  refine KS ?_
  refine pC H hx47 fun hc57 H=>?_
  refine QeU Qm9.toNat 1 rfl rng fun hb58 hb59 hb60 hb61=>?_
  unfold Qaa at hb58 hb59 hb60 hb61
  refine Qam [0,0,0,6,14,31,63,127,127,0,767,2047] QcF ?_
  refine Dv [4] (Qar Qkj 0) (Dv [] Vm (Dv [] Vm (Dv [2] (Vi Qgb 0) (Dv [0] (Qar Qkr 0) ?_))))
  refine pC H hx47 fun hc66 H=>?_
  refine lbH H hx47 fun rv64 hg65 H=>?_
  refine Dx [5] [] [3,0,1,2] (fun G=>.tuple #[.agg #[vi rv64.1.Op,.string (bs rv64.1.Def),(G.g 5 0),(G.g 5 1)],vb rv64.2]) [fun G=>SP.fact (Qaa rv64.1.Op/\rv64.1.Def.b.length<=140737488355328),fun G=>sl (G.g 5 0) rv64.1.Uses,fun G=>sl (G.g 5 1) rv64.1.Targets] (fun G=>xC [0] Qz0 (QAk p pa0 pk0 ((rv29.getD Qm9.toNat default)) pre pre pre pre rv64 hg65)) (Dg [] (fun G=>.tuple #[.agg #[vi rv64.1.Op,.string (bs rv64.1.Def),(G.g 5 0),(G.g 5 1)],vb rv64.2]) (fun G=>Vm) (Dg [] (fun G=>.agg #[vi rv64.1.Op,.string (bs rv64.1.Def),(G.g 5 0),(G.g 5 1)]) (fun G=>Vx) (Dv [] Vx (Dx [] [] [0] (fun G=>(G.g 9 0)) [fun G=>Cl (G.g 9 0) [vi 0,.string (bs (Str.mk [])),.slice none 0 0,.slice none 0 0]] (fun G=>xA (Al Qqx [vi 0,.string (bs (Str.mk [])),.slice none 0 0,.slice none 0 0])) (Dx0 [7,8,9] [9] [1,2,0] [fun G=>Cl (G.g 9 0) [vi rv64.1.Op,.string (bs rv64.1.Def),(G.g 5 0),(G.g 5 1)]] (fun G=>x1 0 rfl QjQ fun ho68=>(x1 1 rfl QjQ fun ho69=>(xS (Scl [2] Qek [vi rv64.1.Op,.string (bs rv64.1.Def),(G.g 5 0),(G.g 5 1)] (v:=.agg #[vi rv64.1.Op,.string (bs rv64.1.Def),(G.g 5 0),(G.g 5 1)]) (h1:=show [vi rv64.1.Op,.string (bs rv64.1.Def),(G.g 5 0),(G.g 5 1)].all (·.oneCell')=true from (by simp only [List.all_cons,List.all_nil,ho68,ho69,Bool.and_true,Bool.true_and] <;> rfl)))))) (Dv [] Va ?_))))))
  refine Dn ⟨by kernel_rfl,fun G=>?_⟩
  refine Jw2 [(2,p2),(8,vl a22 k23 rv19),(9,vl a38 k39 Qjn),(11,vl a32 k33 rv29),(12,vi Qm9),(13,(G.g 9 0)),(14,vb rv64.2)] [0,1,2,3,4,5] [SP.fact (Qaa rv64.1.Op/\rv64.1.Def.b.length<=140737488355328),sl (G.g 5 0) rv64.1.Uses,sl (G.g 5 1) rv64.1.Targets,Cl (G.g 9 0) [vi rv64.1.Op,.string (bs rv64.1.Def),(G.g 5 0),(G.g 5 1)]] ?_
  generalize G.g 5 0=c62,G.g 5 1=c63,G.g 9 0=p67
  refine Jf 6 rfl ?_; rintro ⟨he70,he71⟩
  unfold Qaa at he70
  refine Jk [0,1,1,2,3,4,6,7,8] ?_
  refine Jo 6 ?_; rintro a72 k73 rfl
  refine Fb 16 6 fun _=>?_
  refine FoS 6 fun ho75=>?_
  refine Jo 7 ?_; rintro a76 k77 rfl
  refine Fb 16 7 fun _=>?_
  refine FoS 7 fun ho79=>?_
  refine KS ?_
  refine Oq Vm (Oq Vm ?_)
  refine JsH 62 H ?_ ?_
  ·intro h80 H
   refine Oq Vm (Oq Vm (Oq (Vi Qgb 2) (Oq (Vfa Qjy 0) (Oq (Qai sh3 0) (Oq Qcb (Oq Vpt (Oq Vm ?_)))))))
   refine pC H hx47 fun hc83 H=>?_
   refine pT H hx47 fun h82 H=>?_
   refine JsT 70 h82 ?_
   have g84:=eq_of_beq h82
   refine Oq (Qar Qek 8) ?_
   refine lbH H hx47 fun rv85 hg86 H=>?_
   have hc87:=Qw7 rv64.1 a72 k73 a76 k77 pre pre rv85 hg86
   refine Oc [6,7] Qw8 hc87 ?_
   rintro - -
   refine Oq Vpt (KS ?_)
   refine KcH H ?_ ?_
   ·intro h88 H
    refine KS ?_
    refine Oq Vm (Oq Vm (Oq Vm (Oq (Vfa QhS 8) (Oq (Qai sh9 8) ?_))))
    refine lbH H hx47 fun rv90 hg91 H=>?_
    have hc92:=QrS rv19 a22 k23 rv64.1.Def pre rv90 hg91
    refine Oc [3] Qq4 hc92 ?_
    rintro - he93
    unfold Qaa at he93
    refine Oq (Vbd Qyz [vi Qm9,vi rv90]) (Oa (AsV Qkq Qv9 [.agg #[vi Qm9,vi rv90]] [vi Qm9,vi rv90]) fun c94=>?_)
    refine Jo 0 ?_; rintro a95 k96 rfl
    refine Jl [0] (Ent.cr1 (α:=QfM) (A:=[]) _ (QfM.mk Qm9 rv90) _ aB1 (fun h=>⟨rfl,aL1,aL1⟩)) ?_
    refine pC H hx47 fun hc97 H=>?_
    refine Oa (ApO [2,0] Qkq Qkq Qv9) fun c98=>?_
    refine Jo 0 ?_; rintro a99 k100 rfl
    refine Fb 16 0 fun _=>?_
    have hn102:=la Qjn ([(QfM.mk Qm9 rv90)]:List QfM)
    refine Oq Va (KS ?_)
    refine Oq Vm (Oq QaS (Oq Va (KS ?_)))
    refine pC H hx47 fun hc103 H=>?_
    exact Kg (r56,(Qjn++[(QfM.mk Qm9 rv90)]),(Qm9+1),a99,k100) [0,1,2,3,4] ⟨H,aM1,aM1,aM1,aM1⟩
   intro h88 H
   refine KS ?_
   refine Oq Vm (Oq QaS (Oq Va (KS ?_)))
   refine pC H hx47 fun hc105 H=>?_
   exact Kg (r56,Qjn,(Qm9+1),a38,k39) [1,1,2,3,4] ⟨H,aM1,aM1,aM1,aM1⟩
  intro h80 H
  refine Osk (Osk (Osk (Osk (Osk (Osk (Oq Vpf (Oq Vm (Osk (Osk ?_)))))))))
  refine Oq Vpf (KS ?_)
  refine Kf (KS ?_)
  refine Oq Vm (Oq QaS (Oq Va (KS ?_)))
  refine pC H hx47 fun hc107 H=>?_
  exact Kg (r56,Qjn,(Qm9+1),a38,k39) [1,1,2,3,4] ⟨H,aM1,aM1,aM1,aM1⟩
 intro h54
 have g108:=df h54
 obtain rfl:r35=0:=by omega
 have H:=hM40; (try dsimp only at H); rw [Qez] at H
 refine Ke ?_
 have H:=llB H HL48
 refine KS ?_
 refine Oq Vm (Oq (Qbc Qkq) (Oq QgZ (KS ?_)))
 refine pF H hx0 fun h109 H=>?_
 refine KcF h109 ?_
 have g110:=df h109
 refine KS ?_
 refine Oq Vm (Oq Va (Oq Va (KS ?_)))
 refine Jl [0] (Ent.freeze _ _) ?_
 have hq:=rI H; subst hq
 exact Kr (vl a38 k39 Qjn) rfl (.tmp rfl (.tmp rfl .nil)) [0] en
theorem Qv7 (l:List Qbl) (la0:Option Addr) (lk0:Nat) (f:Int) (b:Int) (s:Int) (Qsi:Qaa f) (QgI:Qaa b) (QcL:Qaa s) (rr:Int) (hrr:QhP l f b s=.ret rr):FT Tryz.prog 164 #[vl la0 lk0 l,vi f,vi b,vi s] [S la0 lk0 l] (fun g:Unit=>Qaa rr) (fun g=>vi rr) (fun g=>[]):=by
 refine FTi Tryz.func164 fun w0 M0 F0=>?_
 unfold Qaa at Qsi QgI QcL
 refine Fb 32 0 fun _=>?_
 have hx0:=lrn rr; have H:=hrr; unfold QhP at H
 refine KS ?_
 refine Oq Va (KS ?_)
 refine Oq Vm (Oq Vm (Oq Vm (Oq Vm (Oq (Vbd Qol [vi 3,vi f,vi b,vi s]) ?_))))
 refine lbH H hx0 fun rv2 hg3 H=>?_
 have hc4:=QsD l la0 lk0 ((Qbl.mk 3 f b s)) pre pre pre pre rv2 hg3
 refine Oc [0] Qs1 hc4 ?_
 rintro - he5
 unfold Qaa at he5
 refine Oq Va (KS ?_)
 have hq:=rI H; subst hq
 exact Kr () rfl (.tmp rfl .nil) [] en
theorem Qzi (l:List Qbl) (la0:Option Addr) (lk0:Nat) (f:Int) (Qsi:Qaa f) (rr:Int×Int) (hrr:Qpr l f=.ret rr):FT Tryz.prog 165 #[vl la0 lk0 l,vi f] [S la0 lk0 l] (fun g:Unit=>Qaa rr.1/\Qaa rr.2) (fun g=>.tuple #[vi rr.1,vi rr.2]) (fun g=>[]):=by
 refine FTi Tryz.func165 fun w0 M0 F0=>?_
 unfold Qaa at Qsi
 refine Fb 32 0 fun _=>?_
 have hx0:=lrn rr; have H:=hrr; unfold Qpr at H
 refine KS ?_
 refine Oq Va (Oq Va (KS ?_))
 refine Oq Vm (Oq Vm (Oq (Vbd Qol [vi 1,vi f,vi (-1),vi (-1)]) ?_))
 refine lbH H hx0 fun rv2 hg3 H=>?_
 have hc4:=QsD l la0 lk0 ((Qbl.mk 1 f (-1) (-1))) pre pre pre pre rv2 hg3
 refine Oc [0] Qs1 hc4 ?_
 rintro - he5
 unfold Qaa at he5
 refine Oq Vm (Oq Vm (Oq (Vbd Qol [vi 2,vi f,vi (-1),vi (-1)]) ?_))
 refine lbH H hx0 fun rv6 hg7 H=>?_
 have hc8:=QsD l la0 lk0 ((Qbl.mk 2 f (-1) (-1))) pre pre pre pre rv6 hg7
 refine Oc [0] Qs1 hc8 ?_
 rintro - he9
 unfold Qaa at he9
 refine Oq Va (Oq Va (KS ?_))
 have hq:=rI H; subst hq
 exact Kr () rfl (.tmp rfl (.tmp rfl .nil)) [] en
theorem QyL (p:Qaz) (pa0:Option Addr) (pk0:Nat) (l:List Qbl) (la0:Option Addr) (lk0:Nat) (i:Int) (QCF:Qaa i) (rr:List Int) (hrr:QhJ p l i=.ret rr):FT Tryz.prog 130 #[.agg #[vl pa0 pk0 p.Funcs],vl la0 lk0 l,vi i] [S pa0 pk0 p.Funcs,S la0 lk0 l] (fun g:Value=>True) (fun g=>g) (fun g=>[sl g rr]):=by
 refine FTi Tryz.func130 fun w0 M0 F0=>?_
 unfold Qaa at QCF
 refine Fb 40 0 fun _=>Fb 32 1 fun _=>?_
 have hx0:=lrn rr; have H:=hrr; unfold QhJ at H
 refine KS ?_
 refine Oa (Ab [vl pa0 pk0 p.Funcs]) fun p3=>Oq Va (KS ?_)
 refine Oq Vm (Oq Vm ?_)
 refine pC H hx0 fun hc4 H=>?_
 refine Oq (Vi Qgb 2) ?_
 refine QeU i.toNat 2 rfl rng fun hb5 hb6 hb7 hb8=>?_
 unfold Qaa at hb5 hb6 hb7 hb8
 refine Oq (Qar Qkr 0) (Oa (Al Qrf [vi 0,vi 0,vi 0,vi 0]) fun p9=>Ost (Scl [0] Qkr [vi ((l.getD i.toNat default).Kind),vi ((l.getD i.toNat default).Func),vi ((l.getD i.toNat default).Block),vi ((l.getD i.toNat default).Stmt)]) (KS ?_))
 refine Oq (Vfa Qjy 0) (Oq (Qai sh3 0) (Oq Qcb (KS ?_)))
 refine pC H hx0 fun hc11 H=>?_
 refine KcH H ?_ ?_
 ·intro h10 H
  have g12:=eq_of_beq h10
  refine KS ?_
  refine Oq Vm (Oq (Vfa QlA 0) (Oq (Qai sh3 0) ?_))
  refine lbH H hx0 fun rv13 hg14 H=>?_
  have hc15:=Qv7 l la0 lk0 ((l.getD i.toNat default).Func) 0 0 pre pre pre rv13 hg14
  refine Oc [4] QwV hc15 ?_
  rintro - he16
  unfold Qaa at he16
  refine Oa (AsV QcP QmX [vi rv13] [vi rv13]) fun c17=>?_
  refine Jo 0 ?_; rintro a18 k19 rfl
  refine Oq Va (KS ?_)
  refine Jl [0] (Ent.crInt _ [rv13] _ _ rfl rfl (by intro x hx; rw [List.mem_singleton] at hx; subst hx; unfold Qaa; omega) aB1) ?_
  refine Jl [0] (Ent.freeze _ _) ?_
  have hq:=rI H; subst hq
  exact Kr (.slice a18 1 k19) rfl (.tmp rfl .nil) [0] trivial
 intro h10 H
 have g20:=ne_of_beq_false h10
 refine KS ?_
 refine Oq (Vfa Qjy 0) (Oq (Qai sh3 0) (Oq Qcb (KS ?_)))
 refine KcH H ?_ ?_
 ·intro h21 H
  have g22:=eq_of_beq h21
  refine KS ?_
  refine Oq Va (KS ?_)
  refine Oq Va (KS ?_)
  refine llH H hx0 fun X30 hX31 hx32 HL33=>?_
  refine Kl (γ:=Nat×Int) (fun (r23,Qsv)=>⟨[(1,vl la0 lk0 l),(3,p3),(7,p9),(8,.slice none 0 0),(9,vi Qsv)],[Cl p9 [vi ((l.getD i.toNat default).Kind),vi ((l.getD i.toNat default).Func),vi ((l.getD i.toNat default).Block),vi ((l.getD i.toNat default).Stmt)],pv p3 [vl pa0 pk0 p.Funcs],S pa0 pk0 p.Funcs,S la0 lk0 l],QdM l r23 Qsv=X30/\r23=((l.length:Int) - Qsv).toNat/\(0:Int)<=Qsv/\Qsv<=(l.length:Int)/\(-9223372036854775808<=Qsv/\Qsv<=9223372036854775807),r23⟩) (((l.length:Int) - 0).toNat,0) [0,1,2,3] ⟨hX31,rfl,aM1,aM1,aM1⟩ ?_
  rintro ⟨r23,Qsv⟩ ⟨hM25,hr26,hi27,hi28,hk29⟩
  refine QaE fun _ _ hL hA=>?_; dsimp only at hL hA; subst hL hA
  refine Fb 40 2 fun _=>Fb 32 3 fun _=>KS ?_
  refine Oq Vm (Oq Vm (Oq (Qbc Qgb) (Oq Qbo (KS ?_))))
  refine Kc ?_ ?_
  ·intro h36
   have g37:=dt h36
   obtain ⟨r38,rfl⟩:=scc (n:=r23) aM1
   have H:=hM25; (try dsimp only at H); rw [QdM] at H
   refine KS ?_
   refine pC H hx32 fun hc39 H=>?_
   refine QeU Qsv.toNat 3 rfl rng fun hb40 hb41 hb42 hb43=>?_
   unfold Qaa at hb40 hb41 hb42 hb43
   refine Kq [0,0,3,7,15,31,63,127,255,127,127,1663,3711,7807,16383,32767,65535,127,127,393343,917631,1966207,4194303,8388607,16777215,127,127,100663423,234881151,503316607,1073741823,2147483647,4294967295,8589934591,17179869183,127,34359738495,127,137438953599,515396075647,1065151889535,2164663517311,4398046511103,8796093022207] QcF ?_
   refine Qv [] Vm (Qv [] Vm (Qv [4] (Vi Qgb 0) (Qv [0] (Vfa Qjy 0) (Qv [0] (Qai sh3 0) (Qv [] Qcb ?_)))))
   refine pC H hx32 fun hc45 H=>?_
   refine pF H hx32 fun h44 H=>?_
   have g46:=ne_of_beq_false h44
   refine Qb h44 [] Vm (Qs (Qs (Qs (Qs (Qs (Qs (Qs (Qs (Qs ?_)))))))))
   refine Qs (Qs (Qs (Qs (Qs (Qs (Qs (Qs (Qs (Qs ?_)))))))))
   refine Qs (Qs (Qs (Qs (Qs (Qs (Qs (Qs (Qs (Qs ?_)))))))))
   refine Qs (Qs (Qs (Qs (Qs (Qs (Qs (Qv [] Vpf ?_)))))))
   refine Qn ⟨by kernel_rfl,?_⟩
   refine Kf (KS ?_)
   refine Oq Vm (Oq QaS (Oq Va (KS ?_)))
   refine pC H hx32 fun hc47 H=>?_
   exact Kg (r38,(Qsv+1)) [1,1,2,3] ⟨H,aM1,aM1,aM1,aM1⟩
  intro h36
  have g48:=df h36
  obtain rfl:r23=0:=by omega
  have H:=hM25; (try dsimp only at H); rw [QdM] at H
  refine Ke ?_
  have H:=llB H HL33
  refine KS ?_
  refine Oq Vm (Oq Va (KS ?_))
  refine Jl [] (Ent.slNil (α:=Int)) ?_
  have hq:=rI H; subst hq
  exact Kr (.slice none 0 0) rfl (.tmp rfl .nil) [0] trivial
 intro h21 H
 have g49:=ne_of_beq_false h21
 refine KS ?_
 refine Jp 0 fun hp50=>?_
 refine pC H hx0 fun hc51 H=>?_
 refine Qdb ((l.getD i.toNat default).Func:Int).toNat 4 rfl rng fun a52 k53 hb54=>?_
 refine Fb 40 1 fun _=>?_
 refine pC H hx0 fun hc56 H=>?_
 refine pC H hx0 fun hc57 H=>?_
 refine QcE ((l.getD i.toNat default).Block:Int).toNat 1 rfl rng fun a58 k59 hb60=>?_
 refine Fb 72 1 fun _=>?_
 refine pC H hx0 fun hc62 H=>?_
 refine pC H hx0 fun hc63 H=>?_
 refine QdG ((l.getD i.toNat default).Stmt:Int).toNat 1 rfl rng fun a64 k65 a66 k67 hb68 hb69=>?_
 unfold Qaa at hb68
 refine Fb 16 1 fun _=>?_
 refine FoS 1 fun ho71=>?_
 refine Fb 16 2 fun _=>?_
 refine FoS 2 fun ho73=>?_
 refine Qam [0,1,0,4,15,31,63,0,128,511,1023,2047,0,4096,16383,32767,0,131071] QcF ?_
 refine Dv [10] (Vfa Qej 0) (Dv [10] (Qai Qmm 0) (Dv [7] (Vfa QlA 0) (Dv [8] (Qai sh3 0) (Dv [11] (Vi Ql3 0) (Dv [5] (Vfa QdH 0) (Dv [5] (Qai QhL 0) (Dv [7] (Vfa Qo9 0) (Dv [8] (Qai sh3 0) (Dv [6] (Vi Qht 0) ?_)))))))))
 refine Dv [3] (Vfa Qff 0) (Dv [3] (Qai Qkn 0) (Dv [7] (Vfa Qpo 0) (Dv [8] (Qai sh3 0) (Dv [4] (Vi QgQ 0) (Dv [0] (Qar Qek 0) (Dx [] [] [0] (fun G=>(G.g 16 0)) [fun G=>Cl (G.g 16 0) [vi 0,.string (bs (Str.mk [])),.slice none 0 0,.slice none 0 0]] (fun G=>xA (Al Qqx [vi 0,.string (bs (Str.mk [])),.slice none 0 0,.slice none 0 0])) (Dx0 [13] [13] [0] [fun G=>Cl (G.g 16 0) [vi ((((((p.Funcs.getD ((l.getD i.toNat default).Func:Int).toNat default).Blocks).getD ((l.getD i.toNat default).Block:Int).toNat default).Stmts).getD ((l.getD i.toNat default).Stmt:Int).toNat default).Op),.string (bs ((((((p.Funcs.getD ((l.getD i.toNat default).Func:Int).toNat default).Blocks).getD ((l.getD i.toNat default).Block:Int).toNat default).Stmts).getD ((l.getD i.toNat default).Stmt:Int).toNat default).Def)),.slice a64 (((((((p.Funcs.getD ((l.getD i.toNat default).Func:Int).toNat default).Blocks).getD ((l.getD i.toNat default).Block:Int).toNat default).Stmts).getD ((l.getD i.toNat default).Stmt:Int).toNat default).Uses).length) k65,.slice a66 (((((((p.Funcs.getD ((l.getD i.toNat default).Func:Int).toNat default).Blocks).getD ((l.getD i.toNat default).Block:Int).toNat default).Stmts).getD ((l.getD i.toNat default).Stmt:Int).toNat default).Targets).length) k67]] (fun G=>xS (Scl [0] Qek [vi ((((((p.Funcs.getD ((l.getD i.toNat default).Func:Int).toNat default).Blocks).getD ((l.getD i.toNat default).Block:Int).toNat default).Stmts).getD ((l.getD i.toNat default).Stmt:Int).toNat default).Op),.string (bs ((((((p.Funcs.getD ((l.getD i.toNat default).Func:Int).toNat default).Blocks).getD ((l.getD i.toNat default).Block:Int).toNat default).Stmts).getD ((l.getD i.toNat default).Stmt:Int).toNat default).Def)),.slice a64 (((((((p.Funcs.getD ((l.getD i.toNat default).Func:Int).toNat default).Blocks).getD ((l.getD i.toNat default).Block:Int).toNat default).Stmts).getD ((l.getD i.toNat default).Stmt:Int).toNat default).Uses).length) k65,.slice a66 (((((((p.Funcs.getD ((l.getD i.toNat default).Func:Int).toNat default).Blocks).getD ((l.getD i.toNat default).Block:Int).toNat default).Stmts).getD ((l.getD i.toNat default).Stmt:Int).toNat default).Targets).length) k67])) ?_)))))))
 refine Dn ⟨by kernel_rfl,fun G=>?_⟩
 refine Jw2 [(1,vl la0 lk0 l),(3,p3),(7,p9),(10,(G.g 16 0))] [0,1,2,3,4,5,6,7,8,9,10,11,12] [Cl (G.g 16 0) [vi ((((((p.Funcs.getD ((l.getD i.toNat default).Func:Int).toNat default).Blocks).getD ((l.getD i.toNat default).Block:Int).toNat default).Stmts).getD ((l.getD i.toNat default).Stmt:Int).toNat default).Op),.string (bs ((((((p.Funcs.getD ((l.getD i.toNat default).Func:Int).toNat default).Blocks).getD ((l.getD i.toNat default).Block:Int).toNat default).Stmts).getD ((l.getD i.toNat default).Stmt:Int).toNat default).Def)),.slice a64 (((((((p.Funcs.getD ((l.getD i.toNat default).Func:Int).toNat default).Blocks).getD ((l.getD i.toNat default).Block:Int).toNat default).Stmts).getD ((l.getD i.toNat default).Stmt:Int).toNat default).Uses).length) k65,.slice a66 (((((((p.Funcs.getD ((l.getD i.toNat default).Func:Int).toNat default).Blocks).getD ((l.getD i.toNat default).Block:Int).toNat default).Stmts).getD ((l.getD i.toNat default).Stmt:Int).toNat default).Targets).length) k67]] ?_
 generalize G.g 16 0=p74
 refine Jk [0,1,2,3,4,5,6,8,8,9,10,11,12] ?_
 refine KS ?_
 refine Oq Vm (Oq (Vfa QlA 7) (Oq (Qai sh3 7) ?_))
 refine pC H hx0 fun hc77 H=>?_
 refine lbH H hx0 fun rv75 hg76 H=>?_
 have hc78:=Qzi l la0 lk0 ((l.getD i.toNat default).Func) pre rv75 hg76
 refine Oc [11] Qzg hc78 ?_
 rintro - ⟨he79,he80⟩
 unfold Qaa at he79 he80
 refine Oq Vm (Oq Vx (Oq Vx (Oq Va (Oq Va (KS ?_)))))
 refine Oq (Vfa QdV 12) (Oq (Qai sh3 12) (Oq Qcb (Oq Va (KS ?_))))
 refine KcH H ?_ ?_
 ·intro h81 H
  have g82:=eq_of_beq h81
  refine KS ?_
  refine Oq Vm (Oa (AsV QcP QmX [vi rv75.2] [vi rv75.2]) fun c83=>?_)
  refine Jo 0 ?_; rintro a84 k85 rfl
  refine Oq Va (KS ?_)
  refine Jl [0] (Ent.crInt _ [rv75.2] _ _ rfl rfl (by intro x hx; rw [List.mem_singleton] at hx; subst hx; unfold Qaa; omega) aB1) ?_
  refine Jl [0] (Ent.freeze _ _) ?_
  have hq:=rI H; subst hq
  exact Kr (.slice a84 1 k85) rfl (.tmp rfl .nil) [0] trivial
 intro h81 H
 have g86:=ne_of_beq_false h81
 refine KS ?_
 refine Oq (Vfa QdV 12) (Oq (Qai sh3 12) (Oq Qcb (Oq Vm ?_)))
 refine pF H hx0 fun h87 H=>?_
 refine JsF 120 h87 ?_
 have g88:=ne_of_beq_false h87
 refine Osk (Osk (Osk (Oq Vpf (Oq Va (KS ?_)))))
 refine Kf (KS ?_)
 refine Oq (Vfa QdV 12) (Oq (Qai sh3 12) (Oq Qcb (Oq Vm ?_)))
 refine pF H hx0 fun h89 H=>?_
 refine JsF 142 h89 ?_
 have g90:=ne_of_beq_false h89
 refine Oq (Vfa QdV 12) (Oq (Qai sh3 12) (Oq Qcb (Oq Vpf (Oq Va (KS ?_)))))
 refine pF H hx0 fun h91 H=>?_
 refine KcF h91 ?_
 have g92:=ne_of_beq_false h91
 refine KS ?_
 refine Oq Vm (Oq (Vfa QlA 7) (Oq (Qai sh3 7) (Oq (Vfa Qo9 7) (Oq (Qai sh3 7) (Oq (Vfa Qpo 7) (Oq (Qai sh3 7) ?_))))))
 refine pC H hx0 fun hc93 H=>?_
 refine Oq QaS ?_
 refine lbH H hx0 fun rv94 hg95 H=>?_
 have hc96:=Qv7 l la0 lk0 ((l.getD i.toNat default).Func) ((l.getD i.toNat default).Block) (((l.getD i.toNat default).Stmt+1)) pre pre pre rv94 hg95
 refine Oc [11] QwV hc96 ?_
 rintro - he97
 unfold Qaa at he97
 refine Oa (AsV QcP QmX [vi rv94] [vi rv94]) fun c98=>?_
 refine Jo 0 ?_; rintro a99 k100 rfl
 refine Oq Va (KS ?_)
 refine Jl [0] (Ent.crInt _ [rv94] _ _ rfl rfl (by intro x hx; rw [List.mem_singleton] at hx; subst hx; unfold Qaa; omega) aB1) ?_
 refine Jl [0] (Ent.freeze _ _) ?_
 have hq:=rI H; subst hq
 exact Kr (.slice a99 1 k100) rfl (.tmp rfl .nil) [0] trivial
theorem Qyw (l:List Int) (la0:Option Addr) (lk0:Nat) (n:Int) (Qf1:Qaa n) (hl0:l.length<=1000000000) (rr:List Int) (hrr:Qc9 l n=rr):FT Tryz.prog 28 #[vl la0 lk0 l,vi n] [S la0 lk0 l] (fun g:Value=>(rr.length<=l.length+1)) (fun g=>g) (fun g=>[sl g rr]):=by
 refine FTi Tryz.func28 fun w0 M0 F0=>?_
 unfold Qaa at Qf1
 refine Fb 8 0 fun _=>Fo 0 fun ho2=>KS ?_
 refine Oq Va (KS ?_)
 refine Oq Va (KS ?_)
 refine Kl (γ:=Nat×Int) (fun (r3,i_4)=>⟨[(0,vl la0 lk0 l),(1,vi n),(5,vi i_4)],[S la0 lk0 l],Qbv l n r3 i_4=Qbv l n (((l.length:Int) - 0).toNat) 0/\r3=((l.length:Int) - i_4).toNat/\(0:Int)<=i_4/\i_4<=(l.length:Int)/\(-9223372036854775808<=i_4/\i_4<=9223372036854775807),r3⟩) (((l.length:Int) - 0).toNat,0) [0] ⟨rfl,rfl,aM1,aM1,aM1⟩ ?_
 rintro ⟨r3,i_4⟩ ⟨hM5,hr6,hi7,hi8,hk9⟩
 refine QaE fun _ _ hL hA=>?_; dsimp only at hL hA; subst hL hA
 refine Fb 8 0 fun _=>Fo 0 fun ho11=>KS ?_
 refine Oq Vm (Oq Vm (Oq (Qbc QcP) (Oq Qbo (Oq Vm ?_))))
 refine Js 11 ?_ ?_
 ·intro h12
  have g13:=dt h12
  obtain ⟨r14,rfl⟩:=scc (n:=r3) aM1
  refine Oq Vm (Oq Vm (Oq (Vi QcP 0) ?_))
  have hb15:=ok1 (i:=i_4.toNat) ho11 rng
  refine Oq (QjF sh3 0) (Oq Vm (Oq Qbo (Oq Vpt (KS ?_))))
  refine Kc ?_ ?_
  ·intro h16
   have g17:=dt h16
   refine KS ?_
   refine Oq Vm (Oq QaS (Oq Va (KS ?_)))
   exact Kg (r14,(i_4+1)) [0] ⟨(q3 hM5 (by simp only [Qbv,h12,h16,cs4])),aM1,aM1,aM1,aM1⟩
  intro h16
  have g18:=df h16
  refine Ke ?_
  have hR19:=q2 hM5 i_4 (by simp only [Qbv,h12,h16,cs4])
  refine KS ?_
  refine Oq Vm (Oq Vm (Oq (Qbc QcP) (Oq Qbo (Oq Vm ?_))))
  refine Js 25 ?_ ?_
  ·intro h20
   have g21:=dt h20
   refine Oq Vm (Oq Vm (Oq (Vi QcP 0) ?_))
   have hb22:=ok1 (i:=i_4.toNat) ho11 rng
   refine Oq (QjF sh3 0) (Oq Vm (Oq Qcb (Oq Vpt (KS ?_))))
   refine Kc ?_ ?_
   ·intro h23
    have g24:=eq_of_beq h23
    refine KS ?_
    refine Oq Vm (Oq Va (KS ?_))
    have hq:=q4 hrr l (by simp only [Qc9,h12,h16,h20,h23,hR19,cs4]); subst hq
    exact Kr (vl la0 lk0 l) rfl (.tmp rfl .nil) [0] en
   intro h23
   have g25:=ne_of_beq_false h23
   refine KS ?_
   refine Oa (As0 QcP) fun c26=>?_
   refine Jo 0 ?_; rintro a27 k28 rfl
   refine Oq Vm (Oq Vm (Oa (Asl [1] QcP 0 (i_4.toNat)) fun c29=>?_))
   refine Jo 0 ?_; rintro a30 k31 rfl
   refine Fb 8 0 fun _=>Fo 0 fun ho33=>?_
   have hn34:((l.take (i_4.toNat)).drop 0).length=(i_4.toNat) - 0:=Qhu rng rng
   refine Jl [1] (Ent.crNil (α:=Int) _) ?_
   refine Oa (Ap0 [0,0] QcP QcP QmX) fun c35=>?_
   refine Jo 0 ?_; rintro a36 k37 rfl
   refine Oq Va (KS ?_)
   refine Oq Vm (Oq Vm (Oa (AsV QcP QmX [vi n] [vi n]) fun c38=>?_))
   refine Jo 0 ?_; rintro a39 k40 rfl
   refine Jl [0] (Ent.crInt _ [n] _ _ rfl rfl (by intro x hx; rw [List.mem_singleton] at hx; subst hx; unfold Qaa; omega) aB1) ?_
   refine Oa (ApO [1,0] QcP QcP QmX) fun c41=>?_
   refine Jo 0 ?_; rintro a42 k43 rfl
   refine Fb 8 0 fun _=>Fo 0 fun ho45=>?_
   have hn46:=la ((l.take (i_4.toNat)).drop 0) ([n]:List Int)
   refine Oq Va (KS ?_)
   refine Oq Vm (Oq Vm (Oq Vm (Oa (Asl [2] QcP (i_4.toNat) l.length) fun c47=>?_)))
   refine Jo 0 ?_; rintro a48 k49 rfl
   refine Fb 8 0 fun _=>Fo 0 fun ho51=>?_
   have hn52:((l.take l.length).drop (i_4.toNat)).length=l.length - (i_4.toNat):=Qhu rng rng
   refine Oa (Ap [1,0] QcP QcP QmX) fun c53=>?_
   refine Jo 0 ?_; rintro a54 k55 rfl
   refine Fb 8 0 fun _=>Fo 0 fun ho57=>?_
   have hn58:=la ((((l.take (i_4.toNat)).drop 0)++[n]):List Int) ((l.take l.length).drop (i_4.toNat))
   refine Oq Va (KS ?_)
   refine Jl [0] (Ent.freeze _ _) ?_
   have hq:=q4 hrr ((((l.take (i_4.toNat)).drop 0)++[n])++((l.take l.length).drop (i_4.toNat))) (by simp only [Qc9,h12,h16,h20,h23,hR19,cs4]); subst hq
   exact Kr (.slice a54 (((((l.take (i_4.toNat)).drop 0)++[n])++((l.take l.length).drop (i_4.toNat))).length) k55) rfl (.tmp rfl .nil) [0] en
  intro h20
  exact absurd h20 (by first | (simp [h12]; done) | (simp only [bne,h12]; decide) | (simp only [bne,h12,Bool.not_true,Bool.not_false]; decide) | (exfalso; omega) | (intro hq; simp only [bne,hq,Bool.not_false,Bool.not_true,reduceCtorEq] at h12))
 intro h12
 have g59:=df h12
 obtain rfl:r3=0:=by omega
 refine Osk (Osk (Osk (Osk (Osk (Osk (Oq Vpf (KS ?_)))))))
 refine Kf ?_
 refine Ke ?_
 have hR60:=q2 hM5 i_4 (by simp only [Qbv,h12,cs4])
 refine KS ?_
 refine Oq Vm (Oq Vm (Oq (Qbc QcP) (Oq Qbo (Oq Vm ?_))))
 refine Js 25 ?_ ?_
 ·intro h61
  exact absurd h61 (by first | (simp [h12]; done) | (simp only [bne,h12]; decide) | (simp only [bne,h12,Bool.not_true,Bool.not_false]; decide) | (exfalso; omega) | (intro hq; simp only [bne,hq,Bool.not_false,Bool.not_true,reduceCtorEq] at h12))
 intro h61
 have g62:=df h61
 refine Osk (Osk (Osk (Osk (Osk (Osk (Oq Vpf (KS ?_)))))))
 refine Kf (KS ?_)
 refine Oa (As0 QcP) fun c63=>?_
 refine Jo 0 ?_; rintro a64 k65 rfl
 refine Oq Vm (Oq Vm (Oa (Asl [1] QcP 0 (i_4.toNat)) fun c66=>?_))
 refine Jo 0 ?_; rintro a67 k68 rfl
 refine Fb 8 0 fun _=>Fo 0 fun ho70=>?_
 have hn71:((l.take (i_4.toNat)).drop 0).length=(i_4.toNat) - 0:=Qhu rng rng
 refine Jl [1] (Ent.crNil (α:=Int) _) ?_
 refine Oa (Ap0 [0,0] QcP QcP QmX) fun c72=>?_
 refine Jo 0 ?_; rintro a73 k74 rfl
 refine Oq Va (KS ?_)
 refine Oq Vm (Oq Vm (Oa (AsV QcP QmX [vi n] [vi n]) fun c75=>?_))
 refine Jo 0 ?_; rintro a76 k77 rfl
 refine Jl [0] (Ent.crInt _ [n] _ _ rfl rfl (by intro x hx; rw [List.mem_singleton] at hx; subst hx; unfold Qaa; omega) aB1) ?_
 refine Oa (ApO [1,0] QcP QcP QmX) fun c78=>?_
 refine Jo 0 ?_; rintro a79 k80 rfl
 refine Fb 8 0 fun _=>Fo 0 fun ho82=>?_
 have hn83:=la ((l.take (i_4.toNat)).drop 0) ([n]:List Int)
 refine Oq Va (KS ?_)
 refine Oq Vm (Oq Vm (Oq Vm (Oa (Asl [2] QcP (i_4.toNat) l.length) fun c84=>?_)))
 refine Jo 0 ?_; rintro a85 k86 rfl
 refine Fb 8 0 fun _=>Fo 0 fun ho88=>?_
 have hn89:((l.take l.length).drop (i_4.toNat)).length=l.length - (i_4.toNat):=Qhu rng rng
 refine Oa (Ap [1,0] QcP QcP QmX) fun c90=>?_
 refine Jo 0 ?_; rintro a91 k92 rfl
 refine Fb 8 0 fun _=>Fo 0 fun ho94=>?_
 have hn95:=la ((((l.take (i_4.toNat)).drop 0)++[n]):List Int) ((l.take l.length).drop (i_4.toNat))
 refine Oq Va (KS ?_)
 refine Jl [0] (Ent.freeze _ _) ?_
 have hq:=q4 hrr ((((l.take (i_4.toNat)).drop 0)++[n])++((l.take l.length).drop (i_4.toNat))) (by simp only [Qc9,h12,h61,hR60,cs4]); subst hq
 exact Kr (.slice a91 (((((l.take (i_4.toNat)).drop 0)++[n])++((l.take l.length).drop (i_4.toNat))).length) k92) rfl (.tmp rfl .nil) [0] en
theorem QBD (p:Qaz) (pa0:Option Addr) (pk0:Nat) (rr:Ql4×Int) (hrr:Qnh p=.ret rr):FT Tryz.prog 89 #[.agg #[vl pa0 pk0 p.Funcs]] [S pa0 pk0 p.Funcs] (fun g:Value×Value×Value=>Qaa rr.2) (fun g=>.tuple #[.agg #[g.1,g.2.1,g.2.2],vi rr.2]) (fun g=>[sl g.1 rr.1.Nodes,sl g.2.1 rr.1.Succ,sl g.2.2 rr.1.Pred]):=by
 refine FTi Tryz.func89 fun w0 M0 F0=>Fb 40 0 fun _=>?_
 have hx0:=lrn rr; have H:=hrr; unfold Qnh at H
 refine KS ?_
 refine Oa (Ab [vl pa0 pk0 p.Funcs]) fun p2=>Oa (Al Qux [.slice none 0 0,.slice none 0 0,.slice none 0 0]) fun p3=>Oq Va (KS ?_)
 refine Oq (Qar Qkj 1) ?_
 refine lbH H hx0 fun rv4 hg5 H=>?_
 have hc6:=QuY p pa0 pk0 rv4 hg5
 refine Oc [2] Quh hc6 ?_
 rintro - ⟨he7,he8,he9,he10,he11⟩
 unfold Qaa at he7 he8 he9 he10 he11
 refine Oq Vm (Oq Vx (Oq Vx (Oa (Al Qrf [vi 0,vi 0,vi 0,vi 0]) fun p12=>Ost (Scl [0] Qkr [vi rv4.1.Kind,vi rv4.1.Func,vi rv4.1.Block,vi rv4.1.Stmt]) (Oq Va (KS ?_)))))
 refine Oq Vm (Oq Qf4 (KS ?_))
 refine pF H hx0 fun h13 H=>?_
 refine KcF h13 ?_
 have g14:=Qae h13
 refine KS ?_
 refine Oq (Qar Qkj 2) ?_
 refine lbH H hx0 fun rv16 hg17 H=>?_
 have hc18:=Quu p pa0 pk0 rv16 hg17
 refine Oc [3] Qug hc18 ?_
 rintro c15 -
 refine Jo 0 ?_; rintro a19 k20 rfl
 refine Fb 32 0 fun _=>?_
 refine Oq Va (KS ?_)
 refine Qam [0,0,2,6,0,16,48,127,0,511] QcF ?_
 refine Dv [] Vm (Dv [] Vm (Dv [] (Qbc Qgb) ?_))
 refine pC H hx0 fun hc22 H=>?_
 have hn24:=List.length_replicate (n:=(rv16.length:Int).toNat) (a:=([]:List Int))
 refine Dx [] [] [0] (fun G=>(G.g 3 0)) [fun G=>os (G.g 3 0) ((List.replicate (rv16.length:Int).toNat []):List (List Int))] (fun G=>xA (Amk (α:=List Int) QeN Qra [] (fun _ _=>⟨_,rfl,QjM⟩))) (Dv [] Vm (Dv [] (Qbc Qgb) ?_))
 have hn26:=List.length_replicate (n:=(rv16.length:Int).toNat) (a:=([]:List Int))
 refine Dx [] [] [0] (fun G=>(G.g 6 0)) [fun G=>os (G.g 6 0) ((List.replicate (rv16.length:Int).toNat []):List (List Int))] (fun G=>xA (Amk (α:=List Int) QeN Qra [] (fun _ _=>⟨_,rfl,QjM⟩))) ?_
 refine Dx [5,6] [] [0,0] (fun G=>.agg #[vl a19 k20 rv16,(G.g 3 0),(G.g 6 0)]) [] (fun G=>xV (v:=.agg #[vl a19 k20 rv16,(G.g 3 0),(G.g 6 0)]) (Vo 0 rfl (Qim _ _) fun aq27 kq28 eq29=>(by rw [eq29]; exact Vo 1 rfl (Qim _ _) fun aq30 kq31 eq32=>(by rw [eq32]; exact Vbd QyM [vl a19 k20 rv16,.slice aq27 (((List.replicate (rv16.length:Int).toNat []):List (List Int)).length) kq28,.slice aq30 (((List.replicate (rv16.length:Int).toNat []):List (List Int)).length) kq31])))) (Dx [] [] [0] (fun G=>(G.g 8 0)) [fun G=>Cl (G.g 8 0) [.slice none 0 0,.slice none 0 0,.slice none 0 0]] (fun G=>xA (Al Qux [.slice none 0 0,.slice none 0 0,.slice none 0 0])) (Dx0 [5,6,7] [7] [1,1,0] [fun G=>Cl (G.g 8 0) [vl a19 k20 rv16,(G.g 3 0),(G.g 6 0)]] (fun G=>x1 0 rfl Qcn fun ho34=>(x1 1 rfl Qcn fun ho35=>(xS (Scl [2] Qr4 [vl a19 k20 rv16,(G.g 3 0),(G.g 6 0)] (v:=.agg #[vl a19 k20 rv16,(G.g 3 0),(G.g 6 0)]) (h1:=show [vl a19 k20 rv16,(G.g 3 0),(G.g 6 0)].all (·.oneCell')=true from (by simp only [List.all_cons,List.all_nil,ho34,ho35,Bool.and_true,Bool.true_and] <;> rfl)))))) ?_))
 refine Dn ⟨by kernel_rfl,fun G=>?_⟩
 refine Jw2 [(1,p2),(2,p3),(6,vl a19 k20 rv16),(7,(G.g 8 0))] [0,1,2,3,4] [os (G.g 3 0) ((List.replicate (rv16.length:Int).toNat []):List (List Int)),os (G.g 6 0) ((List.replicate (rv16.length:Int).toNat []):List (List Int)),Cl (G.g 8 0) [vl a19 k20 rv16,(G.g 3 0),(G.g 6 0)]] ?_
 generalize G.g 3 0=c23,G.g 6 0=c25,G.g 8 0=p33
 refine Jo 5 ?_; rintro a36 k37 rfl
 refine Fb 24 5 fun _=>?_
 refine Jo 6 ?_; rintro a39 k40 rfl
 refine KS ?_
 refine Oq Va (KS ?_)
 refine pC H hx0 fun hc54 H=>?_
 refine llH H hx0 fun X55 hX56 hx57 HL58=>?_
 refine Kl (γ:=Nat×List (List Int)×List (List Int)×Int×Option Addr×Nat×Option Addr×Nat) (fun (r41,Qmf,Qk6,Qmo,a45,k46,a47,k48)=>⟨[(1,p2),(2,p3),(6,vl a19 k20 rv16),(7,p33),(8,vi Qmo)],[O a47 k48 Qk6,O a45 k46 Qmf,S a19 k20 rv16,Cl p3 [.slice none 0 0,.slice none 0 0,.slice none 0 0],pv p2 [vl pa0 pk0 p.Funcs],S pa0 pk0 p.Funcs,Cl p33 [vl a19 k20 rv16,vl a45 k46 Qmf,vl a47 k48 Qk6]],Qgr p rv16 r41 Qmf Qk6 Qmo=X55/\r41=((rv16.length:Int) - Qmo).toNat/\(0:Int)<=Qmo/\Qmo<=(rv16.length:Int)/\(-9223372036854775808<=Qmo/\Qmo<=9223372036854775807),r41⟩) (((rv16.length:Int) - 0).toNat,(List.replicate (rv16.length:Int).toNat []),(List.replicate (rv16.length:Int).toNat []),0,a36,k37,a39,k40) [6,5,0,2,2,3,4] ⟨hX56,rfl,aM1,aM1,aM1⟩ ?_
 rintro ⟨r41,Qmf,Qk6,Qmo,a45,k46,a47,k48⟩ ⟨hM49,hr50,hi51,hi52,hk53⟩
 refine QaE fun _ _ hL hA=>?_; dsimp only at hL hA; subst hL hA
 refine Fb 24 0 fun _=>Fb 24 1 fun _=>Fb 32 2 fun _=>Fb 40 5 fun _=>KS ?_
 refine Oq Vm (Oq Vm (Oq (Qbc Qgb) (Oq Qbo (KS ?_))))
 refine Kc ?_ ?_
 ·intro h63
  have g64:=dt h63
  obtain ⟨r65,rfl⟩:=scc (n:=r41) aM1
  have H:=hM49; (try dsimp only at H); rw [Qgr] at H
  refine KS ?_
  refine Oq (Qar Qkj 4) (Oq Vm (Oq Vm ?_))
  refine lbH H hx57 fun rv67 hg68 H=>?_
  have hc69:=QyL p pa0 pk0 rv16 a19 k20 Qmo pre rv67 hg68
  refine Oc [5,2] Qzb hc69 ?_
  rintro c66 -
  refine Jo 0 ?_; rintro a70 k71 rfl
  refine Fb 8 0 fun _=>Fo 0 fun ho73=>?_
  refine Oq Va (KS ?_)
  refine Oq Va (KS ?_)
  refine llH H hx57 fun X83 hX84 hx85 HL86=>?_
  refine Kl (γ:=Nat×List (List Int)×List (List Int)×Int) (fun (r74,QmE,QmF,Qmg)=>⟨[(1,p2),(2,p3),(6,vl a19 k20 rv16),(7,p33),(8,vi Qmo),(9,vl a70 k71 rv67),(10,vi Qmg)],[S a70 k71 rv67,os (vl a47 k48 Qk6) QmF,os (vl a45 k46 Qmf) QmE,S a19 k20 rv16,Cl p3 [.slice none 0 0,.slice none 0 0,.slice none 0 0],pv p2 [vl pa0 pk0 p.Funcs],S pa0 pk0 p.Funcs,Cl p33 [vl a19 k20 rv16,vl a45 k46 Qmf,vl a47 k48 Qk6]],Qgn Qmo rv67 r74 QmE QmF Qmg=X83/\r74=((rv67.length:Int) - Qmg).toNat/\(0:Int)<=Qmg/\Qmg<=(rv67.length:Int)/\(-9223372036854775808<=Qmg/\Qmg<=9223372036854775807),r74⟩) (((rv67.length:Int) - 0).toNat,Qmf,Qk6,0) [0,1,1,1,2,2,3,4] ⟨hX84,rfl,aM1,aM1,aM1⟩ ?_
  rintro ⟨r74,QmE,QmF,Qmg⟩ ⟨hM78,hr79,hi80,hi81,hk82⟩
  refine QaE fun _ _ hL hA=>?_; dsimp only at hL hA; subst hL hA
  refine Fb 8 0 fun _=>Fo 0 fun ho88=>Fb 24 1 fun _=>Fl 1 fun hn90=>?_
  refine Fb 24 2 fun _=>Fl 2 fun hn92=>?_
  refine Fb 32 3 fun _=>Fb 40 6 fun _=>KS ?_
  refine Oq Vm (Oq Vm (Oq (Qbc QcP) (Oq Qbo (KS ?_))))
  refine Kc ?_ ?_
  ·intro h95
   have g96:=dt h95
   obtain ⟨r97,rfl⟩:=scc (n:=r74) aM1
   have H:=hM78; (try dsimp only at H); rw [Qgn] at H
   refine KS ?_
   refine Jp 7 fun hp98=>?_
   refine pC H hx85 fun hc99 H=>?_
   refine QlY Qmo.toNat 3 rfl rng fun a100 k101=>?_
   refine Fb 8 1 fun _=>Fo 1 fun ho103=>?_
   refine Qam [0,1,0,0,8,0,56,120,0,0,768,1792,4088,8191,16383] QcF ?_
   refine Dv [2] (Vfa Qsc 0) (Dv [9] (Qai QfL 0) (Dv [] Vm (Dv [2] (Vfa Qsc 0) (Dv [9] (Qai QfL 0) (Dv [] Vm (Dv [0] (Vi QeN 0) (Dv [0] (Vld Qjs 0) (Dv [] Vm (Dv [] Vm ?_)))))))))
   refine pC H hx85 fun hc104 H=>?_
   refine pC H hx85 fun hc105 H=>?_
   refine Dv [3] (Vi QcP 0) ?_
   have hb106:=ok1 (i:=Qmg.toNat) ho88 rng
   refine Dv [3] (QjF sh3 0) ?_
   refine pC H hx85 fun hc107 H=>?_
   refine lvH H fun rv109 hg110 H=>?_
   refine Dx [1] [] [2,0,1] (fun G=>(G.g 12 0)) [fun G=>SP.fact ((rv109.length<=(QmE.getD Qmo.toNat []).length+1)),fun G=>sl (G.g 12 0) rv109] (fun G=>xC [0] Qzk (Qyw ((QmE.getD Qmo.toNat [])) a100 k101 ((rv67.getD Qmg.toNat 0)) pre pre rv109 hg110)) (Dv [0] (Vi QeN 0) ?_)
   refine Dx0 [0,10,11] [0] [2,1,0] [fun G=>os (vl a45 k46 Qmf) (QmE.set Qmo.toNat rv109)] (fun G=>by refine xf 1 rfl ?_; rintro he111; exact xp [0] rfl (Ent.oread _ _ _ _) (x1 2 rfl QjQ fun ho112=>(xS (OpS.frame [0,1] rfl (OpS.storeOs' (Rs:=[sl (G.g 12 0) rv109]) rv109 [(G.g 12 0)] rfl rfl rfl Qjs (QaF ho112) rfl (fun h=>⟨_,rfl,Qaj (i:=0) rfl h⟩) rng))))) ?_
   refine Dn ⟨by kernel_rfl,fun G=>?_⟩
   refine Jw2 [(1,p2),(2,p3),(6,vl a19 k20 rv16),(7,p33),(8,vi Qmo),(9,vl a70 k71 rv67),(10,vi Qmg)] [1,2,3,4,5,6,7,8,9] [SP.fact ((rv109.length<=(QmE.getD Qmo.toNat []).length+1)),sl (G.g 12 0) rv109,os (vl a45 k46 Qmf) (QmE.set Qmo.toNat rv109)] ?_
   generalize G.g 12 0=c108
   refine Jf 9 rfl ?_; rintro he113
   refine Jk [0,2,3,3,4,4,5,6,7,8] ?_
   refine Jo 8 ?_; rintro a114 k115 rfl
   refine Fb 8 8 fun _=>Fo 8 fun ho117=>?_
   refine Jp 7 fun hp118=>?_
   refine pC H hx85 fun hc119 H=>?_
   refine pC H hx85 fun hc120 H=>?_
   refine pC H hx85 fun hc121 H=>?_
   refine pC H hx85 fun hc122 H=>?_
   refine QlY ((rv67.getD Qmg.toNat 0):Int).toNat 3 rfl rng fun a123 k124=>?_
   refine Fb 8 1 fun _=>Fo 1 fun ho126=>?_
   refine Qam [0,1,0,0,12,28,0,64,0,0,768,1792,4032,8128,0,32704,65535,131071] QcF ?_
   refine Dv [2] (Vfa Qph 0) (Dv [9] (Qai QfL 0) (Dv [] Vm (Dv [] Vm (Dv [4] (Vi QcP 0) ?_))))
   have hb127:=ok1 (i:=Qmg.toNat) ho88 rng
   refine Dv [4] (QjF sh3 0) (Dv [2] (Vfa Qph 0) (Dv [9] (Qai QfL 0) (Dv [] Vm (Dv [] Vm (Dv [4] (Vi QcP 0) ?_)))))
   have hb128:=ok1 (i:=Qmg.toNat) ho88 rng
   refine Dv [4] (QjF sh3 0) (Dv [0] (Vi QeN 0) (Dv [0] (Vld Qjs 0) (Dv [] Vm ?_)))
   refine pC H hx85 fun hc129 H=>?_
   refine pC H hx85 fun hc130 H=>?_
   refine lvH H fun rv132 hg133 H=>?_
   refine Dx [1] [] [2,0,1] (fun G=>(G.g 15 0)) [fun G=>SP.fact ((rv132.length<=(QmF.getD ((rv67.getD Qmg.toNat 0):Int).toNat []).length+1)),fun G=>sl (G.g 15 0) rv132] (fun G=>xC [0] Qzk (Qyw ((QmF.getD ((rv67.getD Qmg.toNat 0):Int).toNat [])) a123 k124 Qmo pre pre rv132 hg133)) ?_
   refine Dx [0,12] [] [0,0] (fun G=>(QgV 1 (vl a47 k48 Qk6) ((rv67.getD Qmg.toNat 0):Int).toNat)) [] (fun G=>by refine xf 1 rfl ?_; rintro he134; exact xV (Vi QeN 0)) ?_
   refine Dx0 [0,12,13] [0] [2,1,0] [fun G=>os (vl a47 k48 Qk6) (QmF.set ((rv67.getD Qmg.toNat 0):Int).toNat rv132)] (fun G=>by refine xf 1 rfl ?_; rintro he135; exact xp [0] rfl (Ent.oread _ _ _ _) (x1 2 rfl QjQ fun ho136=>(xS (OpS.frame [0,1] rfl (OpS.storeOs' (Rs:=[sl (G.g 15 0) rv132]) rv132 [(G.g 15 0)] rfl rfl rfl Qjs (QaF ho136) rfl (fun h=>⟨_,rfl,Qaj (i:=0) rfl h⟩) rng))))) ?_
   refine Dn ⟨by kernel_rfl,fun G=>?_⟩
   refine Jw2 [(1,p2),(2,p3),(6,vl a19 k20 rv16),(7,p33),(8,vi Qmo),(9,vl a70 k71 rv67),(10,vi Qmg)] [1,2,3,4,5,6,7,8,9,10,11] [SP.fact ((rv132.length<=(QmF.getD ((rv67.getD Qmg.toNat 0):Int).toNat []).length+1)),sl (G.g 15 0) rv132,os (vl a47 k48 Qk6) (QmF.set ((rv67.getD Qmg.toNat 0):Int).toNat rv132)] ?_
   generalize G.g 15 0=c131
   refine Jf 11 rfl ?_; rintro he137
   refine Jk [0,2,3,4,5,5,6,7,7,8,9,10] ?_
   refine Jo 10 ?_; rintro a138 k139 rfl
   refine Fb 8 10 fun _=>Fo 10 fun ho141=>KS ?_
   refine Oq Vm (Oq QaS (Oq Va (KS ?_)))
   refine pC H hx85 fun hc142 H=>?_
   refine pC H hx85 fun hc143 H=>?_
   exact Kg (r97,(QmE.set Qmo.toNat rv109),(QmF.set ((rv67.getD Qmg.toNat 0):Int).toNat rv132),(Qmg+1)) [2,11,9,3,4,4,5,6] ⟨H,aM1,aM1,aM1,aM1⟩
  intro h95
  have g144:=df h95
  obtain rfl:r74=0:=by omega
  have H:=hM78; (try dsimp only at H); rw [Qgn] at H
  refine Ke ?_
  have H:=llB H HL86
  dsimp only at H
  refine KS ?_
  refine Oq Vm (Oq QaS (Oq Va (KS ?_)))
  refine Fl 2 fun hn145=>?_; (try unfold vl); rw [<- hn145]
  refine Fl 1 fun hn146=>?_; (try unfold vl); rw [<- hn146]
  refine pC H hx57 fun hc147 H=>?_
  exact Kg (r65,QmE,QmF,(Qmo+1),a45,k46,a47,k48) [1,1,1,2,2,3,4] ⟨H,aM1,aM1,aM1,aM1⟩
 intro h63
 have g148:=df h63
 obtain rfl:r41=0:=by omega
 have H:=hM49; (try dsimp only at H); rw [Qgr] at H
 refine Ke ?_
 have H:=llB H HL58
 dsimp only at H
 refine KS ?_
 refine Oq (Qar Qr4 6) (Ost (Scl [3] Qr4 [vl a19 k20 rv16,vl a45 k46 Qmf,vl a47 k48 Qk6]) (Oq Va (KS ?_)))
 refine Jl [2] (Ent.freeze _ _) ?_
 refine Jl [2] (Ent.freeze _ _) ?_
 have hq:=rI H; subst hq
 exact Kr (vl a19 k20 rv16,vl a45 k46 Qmf,vl a47 k48 Qk6) rfl (.cellN 2 rfl Qr4 rfl (Qak _ _) rfl (.tmp rfl .nil)) [3,1,0] en
theorem Qyk (width:Int) (QbJ:Qaa width) (rr:Qad) (hrr:Qjx width=.ret rr):FT Tryz.prog 132 #[vi width] [] (fun g:Value×Value×Value=>Qaa rr.Gen.Width/\Qaa rr.Kill.Width) (fun g=>.agg #[vi rr.Gen.Width,g.1,vi rr.Kill.Width,g.2.1,g.2.2]) (fun g=>[sl g.1 rr.Gen.Words,sl g.2.1 rr.Kill.Words,os g.2.2 rr.Copies]):=by
 refine FTi Tryz.func132 fun w0 M0 F0=>?_
 unfold Qaa at QbJ
 have hx0:=lrn rr; have H:=hrr; unfold Qjx at H
 refine KS ?_
 refine Oa (Al QpZ [vi 0,.slice none 0 0,vi 0,.slice none 0 0,.slice none 0 0]) fun p1=>KS ?_
 refine Oq Vm ?_
 refine pC H hx0 fun hc2 H=>?_
 refine lvH H fun rv4 hg5 H=>?_
 have hc6:=QpO width pre pre rv4 hg5
 refine Oc [] Qp0 hc6 ?_
 rintro c3 ⟨he7,he8,he9⟩
 unfold Qaa at he7
 refine Jo 0 ?_; rintro a10 k11 rfl
 refine Fb 8 0 fun _=>Oq Vm ?_
 have hc14:=QpO width pre pre rv4 hg5
 refine Oc [] Qp0 hc14 ?_
 rintro c13 ⟨he15,he16,he17⟩
 unfold Qaa at he15
 refine Jo 0 ?_; rintro a18 k19 rfl
 refine Oq (Vbd QyS [vi rv4.Width,vl a10 k11 rv4.Words,vi rv4.Width,vl a18 k19 rv4.Words,.slice none 0 0]) (Ost (Scl [2] Qdm [vi rv4.Width,vl a10 k11 rv4.Words,vi rv4.Width,vl a18 k19 rv4.Words,.slice none 0 0]) (KS ?_))
 refine Jl [] (Ent.osNil (α:=QaB)) ?_
 refine Jl [3] (Ent.freeze _ _) ?_
 refine Jl [3] (Ent.freeze _ _) ?_
 refine pC H hx0 fun hc20 H=>?_
 have hq:=rI H; subst hq
 exact Kr (vl a10 k11 rv4.Words,vl a18 k19 rv4.Words,.slice none 0 0) rfl (.cellN 3 rfl Qdm rfl (Qak _ _) rfl .nil) [1,0,2] en
theorem QtN (s:Qaf) (sa1:Option Addr) (sk1:Nat) (QcL:Qaa s.Width) (rr:Bool) (hrr:Qbd s=rr):FT Tryz.prog 53 #[.agg #[vi s.Width,vl sa1 sk1 s.Words]] [S sa1 sk1 s.Words] (fun g:Unit=>True) (fun g=>vb rr) (fun g=>[]):=by
 refine FTi Tryz.func53 fun w0 M0 F0=>?_
 unfold Qaa at QcL
 refine Fb 8 0 fun _=>KS ?_
 refine Oa (Ab [vi s.Width,vl sa1 sk1 s.Words]) fun p2=>Oq Va (KS ?_)
 refine Oq (Vfa Qbj 0) (Oq (Qai sh3 0) (Oq Qbo (Oq Vm ?_)))
 refine Js 7 ?_ ?_
 ·intro h3
  have g4:=dt h3
  refine Osk (Osk (Osk (Oq Vpt (Oq Vm (Osk (Osk (Osk (Osk (Osk ?_)))))))))
  refine Osk (Osk (Osk (Oq Vpt (KS ?_))))
  refine Kt (KS ?_)
  refine Oq Va (KS ?_)
  have hq:=q4 hrr false (by simp only [Qbd,h3,cs4]); subst hq
  exact Kr () rfl (.tmp rfl .nil) [] trivial
 intro h3
 have g5:=df h3
 refine Oq (Vfa Qbj 0) (Oq (Qai sh3 0) (Oq QgZ (Oq Vpf (Oq Vm ?_))))
 refine Js 12 ?_ ?_
 ·intro h6
  have g7:=dt h6
  refine Osk (Osk (Osk (Osk (Osk (Osk (Osk (Osk (Oq Vpt (KS ?_)))))))))
  refine Kt (KS ?_)
  refine Oq Va (KS ?_)
  have hq:=q4 hrr false (by simp only [Qbd,h3,h6,cs4]); subst hq
  exact Kr () rfl (.tmp rfl .nil) [] trivial
 intro h6
 have g8:=df h6
 refine Oq (Vfa Qcv 0) (Oq (Qai Qi4 0) (Oq (Qbc QgP) (Oq (Vfa Qbj 0) (Oq (Qai sh3 0) (Oq QaS (Oq Qq9 (Oq Qf4 (Oq Vpf (KS ?_)))))))))
 refine Kc ?_ ?_
 ·intro h9
  have g10:=Qax h9
  refine KS ?_
  refine Oq Va (KS ?_)
  have hq:=q4 hrr false (by simp only [Qbd,h3,h6,h9,cs4]); subst hq
  exact Kr () rfl (.tmp rfl .nil) [] trivial
 intro h9
 have g11:=Qae h9
 refine KS ?_
 refine Oq (Vfa Qbj 0) (Oq (Qai sh3 0) (Oq Va (KS ?_)))
 refine Kl (γ:=Nat×Int) (fun (r12,Qsw)=>⟨[(1,p2),(3,vi Qsw)],[pv p2 [vi s.Width,vl sa1 sk1 s.Words],S sa1 sk1 s.Words],Qd8 s r12 Qsw=Qd8 s ((((64*(s.Words.length:Int)):Int) - s.Width).toNat) s.Width/\r12=(((64*(s.Words.length:Int)):Int) - Qsw).toNat/\(s.Width:Int)<=Qsw/\(Qsw<=(64*(s.Words.length:Int))\/Qsw=s.Width)/\(-9223372036854775808<=Qsw/\Qsw<=9223372036854775807),r12⟩) ((((64*(s.Words.length:Int)):Int) - s.Width).toNat,s.Width) [0,1] ⟨rfl,rfl,aM1,(.inr rfl),aM1⟩ ?_
 rintro ⟨r12,Qsw⟩ ⟨hM14,hr15,hi16,hi17,hk18⟩
 refine QaE fun _ _ hL hA=>?_; dsimp only at hL hA; subst hL hA
 refine Fb 8 1 fun _=>KS ?_
 refine Oq Vm (Oq (Vfa Qcv 0) (Oq (Qai Qi4 0) (Oq (Qbc QgP) (Oq Qub (Oq Qbo (KS ?_))))))
 refine Kc ?_ ?_
 ·intro h20
  have g21:=dt h20
  obtain ⟨r22,rfl⟩:=scc (n:=r12) aM1
  refine KS ?_
  refine Oq (Vfa Qcv 0) (Oq (Qai Qi4 0) (Oq Vm (Oq Qq9 (Oq (Vi QgP 1) (Oq (Qp3 Qn0 1) (Oq Vm (Oq Qve (Oq (VcU un3 Qrp) (Oq QuH ?_)))))))))
  refine Oq (Qtf (b:=1#64)) (Oq (Qtk (b:=1#64)) (KS ?_))
  refine Kc ?_ ?_
  ·intro h23
   have g24:=eq_of_beq h23
   refine KS ?_
   refine Oq Va (KS ?_)
   have hR25:=q2 hM14 (.ret false) (by simp only [Qd8,h20,h23,cs4])
   have hq:=q4 hrr false (by simp only [Qbd,h3,h6,h9,h20,h23,hR25,cs4]); subst hq
   exact Kr () rfl (.tmp rfl .nil) [] trivial
  intro h23
  have g26:=ne_of_beq_false h23
  refine KS ?_
  refine Oq Vm (Oq QaS (Oq Va (KS ?_)))
  exact Kg (r22,(Qsw+1)) [0,1] ⟨(q3 hM14 (by simp only [Qd8,h20,h23,cs4])),aM1,aM1,aM1,aM1⟩
 intro h20
 have g27:=df h20
 obtain rfl:r12=0:=by omega
 refine Ke ?_
 have hR28:=q2 hM14 (.brk ()) (by simp only [Qd8,h20,cs4])
 refine KS ?_
 refine Oq Va (KS ?_)
 have hq:=q4 hrr true (by simp only [Qbd,h3,h6,h9,h20,hR28,cs4]); subst hq
 exact Kr () rfl (.tmp rfl .nil) [] trivial
theorem Qtx (s:Qaf) (sa1:Option Addr) (sk1:Nat) (b:Int) (QcL:Qaa s.Width) (QgI:Qaa b) (rr:Bool) (hrr:Qas s b=rr):FT Tryz.prog 21 #[.agg #[vi s.Width,vl sa1 sk1 s.Words],vi b] [S sa1 sk1 s.Words] (fun g:Unit=>True) (fun g=>vb rr) (fun g=>[]):=by
 refine FTi Tryz.func21 fun w0 M0 F0=>?_
 unfold Qaa at QcL QgI
 refine Fb 8 0 fun _=>KS ?_
 refine Oa (Ab [vi s.Width,vl sa1 sk1 s.Words]) fun p2=>Oq Va (KS ?_)
 refine Oq (Qar Qaw 0) ?_
 refine QaO (Qbd s) fun rv3 hg4=>?_
 have hc5:=QtN s sa1 sk1 pre rv3 hg4
 refine Oc [1] QtJ hc5 ?_
 rintro - -
 refine Oq Vm ?_
 refine Js 7 ?_ ?_
 ·intro h6
  try have hrg:=Qsg (s:=s) (by simp only [h6,hg4])
  refine Oq Vm (Oq Qhv (Oq Vpt (Oq Vm ?_)))
  refine Js 11 ?_ ?_
  ·intro h8
   have g9:=dt h8
   refine Oq Vm (Oq (Vfa Qbj 0) (Oq (Qai sh3 0) (Oq Qbo (Oq Vpt (Oq Vm ?_)))))
   refine Js 17 ?_ ?_
   ·intro h10
    have g11:=dt h10
    refine Oq (Vfa Qcv 0) (Oq (Qai Qi4 0) (Oq Vm (Oq Qq9 (Oq (Vi QgP 1) (Oq (Qp3 Qn0 1) (Oq Vm (Oq Qve (Oq (VcU un3 Qrp) (Oq QuH ?_)))))))))
    refine Oq (Qtf (b:=1#64)) (Oq (Qtk (b:=1#64)) (Oq Vpt (Oq Va (KS ?_))))
    have hq:=q4 hrr ((((s.Words.getD ((b / 64):Int).toNat 0#64) >>> (((BitVec.ofInt 64 (b % 64)).toNat:Int)).toNat) &&& 1#64) == 1#64) (by simp only [Qas,h6,h8,h10,hg4,cs4]); subst hq
    exact Kr () rfl (.tmp rfl .nil) [] trivial
   intro h10
   have g12:=df h10
   refine Osk (Osk (Osk (Osk (Osk (Osk (Osk (Osk (Osk (Osk ?_)))))))))
   refine Osk (Osk (Oq Vpf (Oq Va (KS ?_))))
   have hq:=q4 hrr false (by simp only [Qas,h6,h8,h10,hg4,cs4]); subst hq
   exact Kr () rfl (.tmp rfl .nil) [] trivial
  intro h8
  have g13:=df h8
  refine Osk (Osk (Osk (Osk (Oq Vpf (Oq Vm (Osk (Osk (Osk (Osk ?_)))))))))
  refine Osk (Osk (Osk (Osk (Osk (Osk (Osk (Osk (Oq Vpf (Oq Va ?_)))))))))
  refine KS ?_
  have hq:=q4 hrr false (by simp only [Qas,h6,h8,hg4,cs4]); subst hq
  exact Kr () rfl (.tmp rfl .nil) [] trivial
 intro h6
 refine Osk (Osk (Oq Vpf (Oq Vm (Osk (Osk (Osk (Osk (Oq Vpf (Oq Vm ?_)))))))))
 refine Osk (Osk (Osk (Osk (Osk (Osk (Osk (Osk (Osk (Osk ?_)))))))))
 refine Osk (Osk (Oq Vpf (Oq Va (KS ?_))))
 have hq:=q4 hrr false (by simp only [Qas,h6,hg4,cs4]); subst hq
 exact Kr () rfl (.tmp rfl .nil) [] trivial
theorem QqH (s:Qaf) (sa1:Option Addr) (sk1:Nat) (b:Int) (QcL:Qaa s.Width) (QgI:Qaa b) (hb0:0<=b/\b < s.Width) (hw0:s.Width<=1000000) (rr:Qaf) (hrr:QbC s b=rr):FT Tryz.prog 41 #[.agg #[vi s.Width,vl sa1 sk1 s.Words],vi b] [S sa1 sk1 s.Words] (fun g:Value=>Qaa rr.Width/\(rr.Width=s.Width)/\(rr.Words.length=((s.Width+63) / 64).toNat)) (fun g=>.agg #[vi rr.Width,g]) (fun g=>[os g rr.Words]):=by
 refine FTi Tryz.func41 fun w0 M0 F0=>?_
 unfold Qaa at QcL QgI
 refine Fb 8 0 fun _=>KS ?_
 refine Oa (Ab [vi s.Width,vl sa1 sk1 s.Words]) fun p2=>Oa (Al Qhj [vi 0,.slice none 0 0]) fun p3=>KS ?_
 refine Oq (Vfa Qbj 1) (Oq (Qai sh3 1) ?_)
 refine QaO (QaD s.Width) fun rv5 hg6=>?_
 have hc7:=QpO s.Width pre pre rv5 hg6
 refine Oc [] Qp0 hc7 ?_
 rintro c4 ⟨he8,he9,he10⟩
 unfold Qaa at he8
 refine Jo 0 ?_; rintro a11 k12 rfl
 refine Fb 8 0 fun _=>?_
 refine Oa (Al Qhj [vi 0,.slice none 0 0]) fun p14=>Ost (Scl [0] Qaw [vi rv5.Width,vl a11 k12 rv5.Words]) (KS ?_)
 refine Oq (Vfa Qcv 0) (Oq (Qai Qi4 0) (Oq (Vfa Qcv 3) (Oq (Qai Qi4 3) (Oa (OpA.frame [1,3] rfl (OpA.copyS (α:=BitVec 64) rfl rfl rfl QgP rfl)) fun u15=>?_))))
 have hn16:(s.Words.take rv5.Words.length++rv5.Words.drop s.Words.length).length=rv5.Words.length:=Qtd _ _
 refine KS ?_
 refine Oq (Vfa Qcv 1) (Oq (Qai Qi4 1) (Oq Vm (Oq Qq9 (Oq (Vi QgP 0) (Oq (Qp3 Qn0 0) (Oq Vm (Oq Qve (Oq (VcU un3 Qrp) (Oq (QqZ (a:=1#64)) ?_)))))))))
 refine Oq Qxy (Oq (Vi QgP 0) (Ost (SoU [0] Qn0) (KS ?_)))
 refine Oq (Qar Qaw 1) (Ost (Scl [2] Qaw [vi rv5.Width,vl a11 k12 rv5.Words]) (KS ?_))
 have hq:=q4 hrr (Qaf.mk rv5.Width ((s.Words.take rv5.Words.length++rv5.Words.drop s.Words.length).set ((b / 64):Int).toNat (((s.Words.take rv5.Words.length++rv5.Words.drop s.Words.length).getD ((b / 64):Int).toNat 0#64) ||| (1#64 <<< (((BitVec.ofInt 64 (b % 64)).toNat:Int)).toNat)))) (by simp only [QbC,hg6,cs4]); subst hq
 exact Kr (vl a11 k12 rv5.Words) rfl (.cellN 0 rfl Qaw rfl (Qak _ _) rfl .nil) [1] en
theorem Qye (x:Qj3) (xa1:Option Addr) (xk1:Nat) (xa2:Option Addr) (xk2:Nat) (Qvh:Qaa x.Zero.Width) (rr:Qad×Bool) (hrr:QjC x=.ret rr):FT Tryz.prog 168 #[.agg #[vi x.Zero.Width,vl xa1 xk1 x.Zero.Words,vl xa2 xk2 x.One]] [S xa1 xk1 x.Zero.Words,S xa2 xk2 x.One] (fun g:Value×Value×Value=>Qaa rr.1.Gen.Width/\Qaa rr.1.Kill.Width) (fun g=>.tuple #[.agg #[vi rr.1.Gen.Width,g.1,vi rr.1.Kill.Width,g.2.1,g.2.2],vb rr.2]) (fun g=>[sl g.1 rr.1.Gen.Words,sl g.2.1 rr.1.Kill.Words,sl g.2.2 rr.1.Copies]):=by
 refine FTi Tryz.func168 fun w0 M0 F0=>?_
 unfold Qaa at Qvh
 refine Fb 8 0 fun _=>Fb 32 1 fun _=>?_
 have hx0:=lrn rr; have H:=hrr; unfold QjC at H
 refine KS ?_
 refine Oa (Ab [vi x.Zero.Width,vl xa1 xk1 x.Zero.Words,vl xa2 xk2 x.One]) fun p3=>Oa (Al QpZ [vi 0,.slice none 0 0,vi 0,.slice none 0 0,.slice none 0 0]) fun p4=>Oq Va (KS ?_)
 refine Oq (Vfa Qpl 1) (Oq (Qoy Qbj 1) (Oq (Qai sh3 1) (Oq Va (KS ?_))))
 refine Qam [0,1,0,4,15,0,63] QcF ?_
 refine Dv [1] (Vfa Qpl 0) (Dv [1] (Qml Qaw 0 [vi x.Zero.Width,vl xa1 xk1 x.Zero.Words]) (Dv [] Vm ?_))
 refine pC H hx0 fun hc5 H=>?_
 refine lvH H fun rv7 hg8 H=>?_
 refine Dx [] [] [0,1] (fun G=>.agg #[vi rv7.Width,(G.g 3 0)]) [fun G=>SP.fact (Qaa rv7.Width/\(rv7.Width=x.Zero.Width)/\(rv7.Words.length=(((x.Zero.Width:Int)+63) / 64).toNat)),fun G=>os (G.g 3 0) rv7.Words] (fun G=>xC [] Qp0 (QpO x.Zero.Width pre pre rv7 hg8)) ?_
 refine Dx [5] [] [0] (fun G=>.agg #[vi x.Zero.Width,vl xa1 xk1 x.Zero.Words,vi rv7.Width,(G.g 3 0),.slice none 0 0]) [] (fun G=>xV (v:=.agg #[vi x.Zero.Width,vl xa1 xk1 x.Zero.Words,vi rv7.Width,(G.g 3 0),.slice none 0 0]) (Vo 0 rfl (Qim _ _) fun aq9 kq10 eq11=>(by rw [eq11]; exact Vbd QyS [vi x.Zero.Width,vl xa1 xk1 x.Zero.Words,vi rv7.Width,.slice aq9 ((rv7.Words:List (BitVec 64)).length) kq10,.slice none 0 0]))) (Dx [] [] [0] (fun G=>(G.g 5 0)) [fun G=>Cl (G.g 5 0) [vi 0,.slice none 0 0,vi 0,.slice none 0 0,.slice none 0 0]] (fun G=>xA (Al QpZ [vi 0,.slice none 0 0,vi 0,.slice none 0 0,.slice none 0 0])) (Dx0 [5,6] [6] [1,0] [fun G=>Cl (G.g 5 0) [vi x.Zero.Width,vl xa1 xk1 x.Zero.Words,vi rv7.Width,(G.g 3 0),.slice none 0 0]] (fun G=>x1 0 rfl Qcn fun ho13=>(xS (Scl [1] Qdm [vi x.Zero.Width,vl xa1 xk1 x.Zero.Words,vi rv7.Width,(G.g 3 0),.slice none 0 0] (v:=.agg #[vi x.Zero.Width,vl xa1 xk1 x.Zero.Words,vi rv7.Width,(G.g 3 0),.slice none 0 0]) (h1:=show [vi x.Zero.Width,vl xa1 xk1 x.Zero.Words,vi rv7.Width,(G.g 3 0),.slice none 0 0].all (·.oneCell')=true from (by simp only [List.all_cons,List.all_nil,ho13,Bool.and_true,Bool.true_and] <;> rfl))))) ?_))
 refine Dn ⟨by kernel_rfl,fun G=>?_⟩
 refine Jw2 [(1,p3),(2,p4),(4,vi x.Zero.Width),(5,(G.g 5 0))] [0,1,2,3] [SP.fact (Qaa rv7.Width/\(rv7.Width=x.Zero.Width)/\(rv7.Words.length=(((x.Zero.Width:Int)+63) / 64).toNat)),os (G.g 3 0) rv7.Words,Cl (G.g 5 0) [vi x.Zero.Width,vl xa1 xk1 x.Zero.Words,vi rv7.Width,(G.g 3 0),.slice none 0 0]] ?_
 generalize G.g 3 0=c6,G.g 5 0=p12
 refine Jf 4 rfl ?_; rintro ⟨he14,he15,he16⟩
 unfold Qaa at he14
 refine Jk [0,0,1,2,4,4] ?_
 refine Jo 4 ?_; rintro a17 k18 rfl
 refine Fb 8 4 fun _=>KS ?_
 refine Oq Va (KS ?_)
 refine llH H hx0 fun X32 hX33 hx34 HL35=>?_
 refine Kl (γ:=Nat×Int×List (BitVec 64)×Int×Option Addr×Nat) (fun (r20,Qkf,QkJ,Qna,a24,k25)=>⟨[(1,p3),(2,p4),(4,vi x.Zero.Width),(5,p12),(6,vi Qna)],[O a24 k25 QkJ,Cl p4 [vi 0,.slice none 0 0,vi 0,.slice none 0 0,.slice none 0 0],pv p3 [vi x.Zero.Width,vl xa1 xk1 x.Zero.Words,vl xa2 xk2 x.One],S xa1 xk1 x.Zero.Words,S xa2 xk2 x.One,Cl p12 [vi x.Zero.Width,vl xa1 xk1 x.Zero.Words,vi Qkf,vl a24 k25 QkJ,.slice none 0 0]],QdT x r20 Qkf QkJ Qna=X32/\r20=((x.Zero.Width:Int) - Qna).toNat/\(0:Int)<=Qna/\(Qna<=x.Zero.Width\/Qna=0)/\(-9223372036854775808<=Qkf/\Qkf<=9223372036854775807)/\(-9223372036854775808<=Qna/\Qna<=9223372036854775807),r20⟩) (((x.Zero.Width:Int) - 0).toNat,rv7.Width,rv7.Words,0,a17,k18) [4,0,0,1,2,3] ⟨hX33,rfl,aM1,(.inr rfl),aM1,aM1⟩ ?_
 rintro ⟨r20,Qkf,QkJ,Qna,a24,k25⟩ ⟨hM26,hr27,hi28,hi29,hk30,hk31⟩
 refine QaE fun _ _ hL hA=>?_; dsimp only at hL hA; subst hL hA
 refine Fb 8 0 fun _=>Fb 8 3 fun _=>Fb 32 4 fun _=>KS ?_
 refine Oq Vm (Oq Vm (Oq Qbo (KS ?_)))
 refine Kc ?_ ?_
 ·intro h39
  have g40:=dt h39
  obtain ⟨r41,rfl⟩:=scc (n:=r20) aM1
  have H:=hM26; (try dsimp only at H); rw [QdT] at H
  refine KS ?_
  refine Oq (Vfa QoZ 2) (Oq (Qai Qjc 2) (Oq Vm ?_))
  refine pC H hx34 fun hc42 H=>?_
  refine Oq (Vi Qd2 4) ?_
  refine Qbf Qna.toNat 4 rfl rng fun a43 k44 hb45=>?_
  unfold Qaa at hb45
  refine Fb 8 1 fun _=>?_
  refine Oq (Qar Qaw 0) (Oq Vm ?_)
  refine pC H hx34 fun hc49 H=>?_
  refine lvH H fun rv47 hg48 H=>?_
  have hc50:=Qtx ((x.One.getD Qna.toNat default)) a43 k44 Qna pre pre rv47 hg48
  refine Oc [1] Qtc hc50 ?_
  rintro - -
  refine Oq QcN (Oq Vm ?_)
  refine pF H hx34 fun h51 H=>?_
  refine JsF 29 h51 ?_
  have h53:=not_false h51
  refine Oq (Vfa Qpl 4) (Oq (Qml Qaw 4 [vi x.Zero.Width,vl xa1 xk1 x.Zero.Words]) (Oq Vm ?_))
  refine lvH H fun rv55 hg56 H=>?_
  have hc57:=Qtx x.Zero xa1 xk1 Qna pre pre rv55 hg56
  refine Oc [5] Qtc hc57 ?_
  rintro - -
  refine Oq Vpf (KS ?_)
  refine KcH H ?_ ?_
  ·intro h58 H
   refine KS ?_
   refine Oq (Vfa QfD 7) (Oq (Qml Qaw 7 [vi Qkf,vl a24 k25 QkJ]) (Oq Vm ?_))
   refine pC H hx34 fun hc60 H=>?_
   refine pC H hx34 fun hc61 H=>?_
   refine lvH H fun rv63 hg64 H=>?_
   refine Oc [2] QqG (Qdp (A:=_) hlx (Qe7 (Ent.take (is:=[0]) rfl) (QqH ((Qaf.mk Qkf QkJ)) a24 k25 Qna pre pre pre pre rv63 hg64))) ?_ (ht:=rfl)
   rintro c62 ⟨he65,he66,he67⟩
   unfold Qaa at he65
   have he66:(rv63.Width=Qkf):=he66
   have he67:(rv63.Words.length=((Qkf+63) / 64).toNat):=he67
   refine Jo 1 ?_; rintro a68 k69 rfl
   refine Fb 8 1 fun _=>?_
   refine Oq (Vfa QfD 8) (Ost (Qij [8] Qaw [vi x.Zero.Width,vl xa1 xk1 x.Zero.Words,vi rv63.Width,vl a68 k69 rv63.Words,.slice none 0 0]) (KS ?_))
   refine Oq Va (KS ?_)
   refine llH H hx34 fun X78 hX79 hx80 HL81=>?_
   refine Kl (γ:=Nat×Int) (fun (r71,Qsx)=>⟨[(1,p3),(2,p4),(4,vi x.Zero.Width),(5,p12),(6,vi Qna),(7,vi Qsx)],[Cl p12 [vi x.Zero.Width,vl xa1 xk1 x.Zero.Words,vi rv63.Width,vl a68 k69 rv63.Words,.slice none 0 0],O a68 k69 rv63.Words,Cl p4 [vi 0,.slice none 0 0,vi 0,.slice none 0 0,.slice none 0 0],pv p3 [vi x.Zero.Width,vl xa1 xk1 x.Zero.Words,vl xa2 xk2 x.One],S xa1 xk1 x.Zero.Words,S xa2 xk2 x.One],Qb9 Qna r71 Qsx=X78/\r71=((x.Zero.Width:Int) - Qsx).toNat/\(0:Int)<=Qsx/\(Qsx<=x.Zero.Width\/Qsx=0)/\(-9223372036854775808<=Qsx/\Qsx<=9223372036854775807),r71⟩) (((x.Zero.Width:Int) - 0).toNat,0) [0,1,3,3,4,5] ⟨hX79,rfl,aM1,(.inr rfl),aM1⟩ ?_
   rintro ⟨r71,Qsx⟩ ⟨hM73,hr74,hi75,hi76,hk77⟩
   refine QaE fun _ _ hL hA=>?_; dsimp only at hL hA; subst hL hA
   refine Fb 8 1 fun _=>Fb 8 4 fun _=>Fb 32 5 fun _=>KS ?_
   refine Oq Vm (Oq Vm (Oq Qbo (KS ?_)))
   refine Kc ?_ ?_
   ·intro h85
    have g86:=dt h85
    obtain ⟨r87,rfl⟩:=scc (n:=r71) aM1
    have H:=hM73; (try dsimp only at H); rw [Qb9] at H
    refine KS ?_
    refine Oq Vm (Oq Vm (Oq Qf4 (Oq Vm ?_)))
    refine pF H hx80 fun h88 H=>?_
    refine JsF 48 h88 ?_
    have g89:=Qae h88
    refine Osk (Osk (Osk (Osk (Osk (Osk (Osk (Oq Vpf (Oq Vm (Osk ?_)))))))))
    refine Osk (Osk (Osk (Osk (Oq Vpf (KS ?_)))))
    refine Kf (KS ?_)
    refine Oq Vm (Oq QaS (Oq Va (KS ?_)))
    refine pC H hx80 fun hc90 H=>?_
    exact Kg (r87,(Qsx+1)) [0,0,0,0,1,2] ⟨H,aM1,aM1,aM1,aM1⟩
   intro h85
   have g91:=df h85
   obtain rfl:r71=0:=by omega
   have H:=hM73; (try dsimp only at H); rw [Qb9] at H
   refine Ke ?_
   have H:=llB H HL81
   refine KS ?_
   refine Oq Vm (Oq QaS (Oq Va (KS ?_)))
   refine pC H hx34 fun hc92 H=>?_
   exact Kg (r41,rv63.Width,rv63.Words,(Qna+1),a68,k69) [1,1,1,2,3,0] ⟨H,aM1,aM1,aM1,aM1,aM1⟩
  intro h58 H
  refine KS ?_
  refine Oq Va (KS ?_)
  refine llH H hx34 fun X101 hX102 hx103 HL104=>?_
  refine Kl (γ:=Nat×Int) (fun (r94,Qsy)=>⟨[(1,p3),(2,p4),(4,vi x.Zero.Width),(5,p12),(6,vi Qna),(7,vi Qsy)],[O a24 k25 QkJ,Cl p4 [vi 0,.slice none 0 0,vi 0,.slice none 0 0,.slice none 0 0],pv p3 [vi x.Zero.Width,vl xa1 xk1 x.Zero.Words,vl xa2 xk2 x.One],S xa1 xk1 x.Zero.Words,S xa2 xk2 x.One,Cl p12 [vi x.Zero.Width,vl xa1 xk1 x.Zero.Words,vi Qkf,vl a24 k25 QkJ,.slice none 0 0]],Qb9 Qna r94 Qsy=X101/\r94=((x.Zero.Width:Int) - Qsy).toNat/\(0:Int)<=Qsy/\(Qsy<=x.Zero.Width\/Qsy=0)/\(-9223372036854775808<=Qsy/\Qsy<=9223372036854775807),r94⟩) (((x.Zero.Width:Int) - 0).toNat,0) [2,2,2,3,4,5] ⟨hX102,rfl,aM1,(.inr rfl),aM1⟩ ?_
  rintro ⟨r94,Qsy⟩ ⟨hM96,hr97,hi98,hi99,hk100⟩
  refine QaE fun _ _ hL hA=>?_; dsimp only at hL hA; subst hL hA
  refine Fb 8 0 fun _=>Fb 8 3 fun _=>Fb 32 4 fun _=>KS ?_
  refine Oq Vm (Oq Vm (Oq Qbo (KS ?_)))
  refine Kc ?_ ?_
  ·intro h108
   have g109:=dt h108
   obtain ⟨r110,rfl⟩:=scc (n:=r94) aM1
   have H:=hM96; (try dsimp only at H); rw [Qb9] at H
   refine KS ?_
   refine Oq Vm (Oq Vm (Oq Qf4 (Oq Vm ?_)))
   refine pF H hx103 fun h111 H=>?_
   refine JsF 48 h111 ?_
   have g112:=Qae h111
   refine Osk (Osk (Osk (Osk (Osk (Osk (Osk (Oq Vpf (Oq Vm (Osk ?_)))))))))
   refine Osk (Osk (Osk (Osk (Oq Vpf (KS ?_)))))
   refine Kf (KS ?_)
   refine Oq Vm (Oq QaS (Oq Va (KS ?_)))
   refine pC H hx103 fun hc113 H=>?_
   exact Kg (r110,(Qsy+1)) [0,0,0,1,2,3] ⟨H,aM1,aM1,aM1,aM1⟩
  intro h108
  have g114:=df h108
  obtain rfl:r94=0:=by omega
  have H:=hM96; (try dsimp only at H); rw [Qb9] at H
  refine Ke ?_
  have H:=llB H HL104
  refine KS ?_
  refine Oq Vm (Oq QaS (Oq Va (KS ?_)))
  refine pC H hx34 fun hc115 H=>?_
  exact Kg (r41,Qkf,QkJ,(Qna+1),a24,k25) [0,0,0,1,2,3] ⟨H,aM1,aM1,aM1,aM1,aM1⟩
 intro h39
 have g116:=df h39
 obtain rfl:r20=0:=by omega
 have H:=hM26; (try dsimp only at H); rw [QdT] at H
 refine Ke ?_
 have H:=llB H HL35
 dsimp only at H
 refine KS ?_
 refine Jp 5 fun hp117=>?_
 refine Qam [0,0,2,6,14,1,63] QcF ?_
 refine Dv [6] (Qar Qdm 0) (Dv [0] (Vfa Qcw 0) (Dv [6] (Qai Qi5 0) (Dv [] (Qbc Qhq) (Dv [] Qss (Dx0 [2] [2] [0] [fun G=>Cl p4 [vi x.Zero.Width,vl xa1 xk1 x.Zero.Words,vi Qkf,vl a24 k25 QkJ,.slice none 0 0]] (fun G=>xS (Scl [0] Qdm [vi x.Zero.Width,vl xa1 xk1 x.Zero.Words,vi Qkf,vl a24 k25 QkJ,.slice none 0 0])) (Dv [] Va ?_))))))
 refine Dn ⟨by kernel_rfl,fun G=>?_⟩
 refine Jw2 [(2,p4),(3,vb (decide (((0:Nat):Int)<=64)))] [0,1,3,4,5,6] [Cl p4 [vi x.Zero.Width,vl xa1 xk1 x.Zero.Words,vi Qkf,vl a24 k25 QkJ,.slice none 0 0]] ?_
 refine Jk [1,1,2,3,4,4] ?_
 refine Jl [0] (Ent.freeze _ _) ?_
 refine Jl [] (Ent.slNil (α:=QaB)) ?_
 have hq:=rI H; subst hq
 exact Kr (vl xa1 xk1 x.Zero.Words,vl a24 k25 QkJ,.slice none 0 0) rfl (.cellN 6 rfl Qdm rfl (Qak _ _) rfl (.tmp rfl .nil)) [3,1,0] en
theorem QwN (t:Qad) (ta1:Option Addr) (tk1:Nat) (ta3:Option Addr) (tk3:Nat) (ta4:Option Addr) (tk4:Nat) (a:Int) (b:Int) (QkH:Qaa t.Gen.Width) (QkI:Qaa t.Kill.Width) (Qke:Qaa a) (QgI:Qaa b) (rr:Bool) (hrr:Qat t a b=rr):FT Tryz.prog 106 #[.agg #[vi t.Gen.Width,vl ta1 tk1 t.Gen.Words,vi t.Kill.Width,vl ta3 tk3 t.Kill.Words,vl ta4 tk4 t.Copies],vi a,vi b] [S ta1 tk1 t.Gen.Words,S ta3 tk3 t.Kill.Words,S ta4 tk4 t.Copies] (fun g:Unit=>True) (fun g=>vb rr) (fun g=>[]):=by
 refine FTi Tryz.func106 fun w0 M0 F0=>?_
 unfold Qaa at QkH QkI Qke QgI
 refine Fb 8 0 fun _=>Fb 8 1 fun _=>Fb 16 2 fun _=>KS ?_
 refine Oa (Ab [vi t.Gen.Width,vl ta1 tk1 t.Gen.Words,vi t.Kill.Width,vl ta3 tk3 t.Kill.Words,vl ta4 tk4 t.Copies]) fun p4=>Oq Va (KS ?_)
 refine Oq Vm (Oq Vm (Oq Qcb (Oq Vm ?_)))
 refine Js 11 ?_ ?_
 ·intro h5
  have g6:=eq_of_beq h5
  refine Oq (Vfa QfD 0) (Oq (Qml Qaw 0 [vi t.Kill.Width,vl ta3 tk3 t.Kill.Words]) (Oq Vm ?_))
  refine QaO (Qas t.Kill a) fun rv7 hg8=>?_
  have hc9:=Qtx t.Kill ta3 tk3 a pre pre rv7 hg8
  refine Oc [2] Qtc hc9 ?_
  rintro - -
  refine Oq QcN (Oq Vpt (KS ?_))
  refine Kc ?_ ?_
  ·intro h10
   have h12:=not_true h10
   refine KS ?_
   refine Oq Va (KS ?_)
   have hq:=q4 hrr true (by simp only [Qat,h5,h10,h12,hg8,cs4]); subst hq
   exact Kr () rfl (.tmp rfl .nil) [] trivial
  intro h10
  have h15:=not_false h10
  refine KS ?_
  refine Oq Va (KS ?_)
  refine Kl (γ:=Nat×Int) (fun (r17,Qi2)=>⟨[(1,vi a),(2,vi b),(3,p4),(7,vi Qi2)],[pv p4 [vi t.Gen.Width,vl ta1 tk1 t.Gen.Words,vi t.Kill.Width,vl ta3 tk3 t.Kill.Words,vl ta4 tk4 t.Copies],S ta1 tk1 t.Gen.Words,S ta3 tk3 t.Kill.Words,S ta4 tk4 t.Copies],QaJ t a b r17 Qi2=QaJ t a b (((t.Copies.length:Int) - 0).toNat) 0/\r17=((t.Copies.length:Int) - Qi2).toNat/\(0:Int)<=Qi2/\Qi2<=(t.Copies.length:Int)/\(-9223372036854775808<=Qi2/\Qi2<=9223372036854775807),r17⟩) (((t.Copies.length:Int) - 0).toNat,0) [0,1,2,3] ⟨rfl,rfl,aM1,aM1,aM1⟩ ?_
  rintro ⟨r17,Qi2⟩ ⟨hM19,hr20,hi21,hi22,hk23⟩
  refine QaE fun _ _ hL hA=>?_; dsimp only at hL hA; subst hL hA
  refine Fb 8 1 fun _=>Fb 8 2 fun _=>Fb 16 3 fun _=>KS ?_
  refine Oq Vm (Oq (Vfa Qcw 0) (Oq (Qai Qi5 0) (Oq (Qbc Qhq) (Oq Qbo (KS ?_)))))
  refine Kc ?_ ?_
  ·intro h27
   have g28:=dt h27
   obtain ⟨r29,rfl⟩:=scc (n:=r17) aM1
   refine KS ?_
   refine Oq (Vfa Qcw 0) (Oq (Qai Qi5 0) (Oq Vm (Oq (Vi Qhq 3) ?_)))
   refine Qcz Qi2.toNat 3 rfl rng fun hb30 hb31=>?_
   unfold Qaa at hb30 hb31
   refine Oq (Vfa QcA 0) (Oq (Qai sh3 0) (Oq Vm (Oq Qcb (Oq Vm ?_))))
   refine Js 33 ?_ ?_
   ·intro h32
    have g33:=eq_of_beq h32
    refine Oq (Vfa Qcw 1) (Oq (Qai Qi5 1) (Oq Vm (Oq (Vi Qhq 4) (Oq (Vfa Qd4 0) (Oq (Qai sh3 0) (Oq Vm (Oq Qcb (Oq Vpt (KS ?_)))))))))
    refine Kc ?_ ?_
    ·intro h34
     have g35:=eq_of_beq h34
     refine KS ?_
     refine Oq Va (KS ?_)
     have hR36:=q2 hM19 (.ret true) (by simp only [QaJ,h27,h32,h34,cs4])
     have hq:=q4 hrr true (by simp only [Qat,h5,h10,h15,h27,h32,h34,hg8,hR36,cs4]); subst hq
     exact Kr () rfl (.tmp rfl .nil) [] trivial
    intro h34
    have g37:=ne_of_beq_false h34
    refine KS ?_
    refine Oq Vm (Oq QaS (Oq Va (KS ?_)))
    exact Kg (r29,(Qi2+1)) [1,2,3,4] ⟨(q3 hM19 (by simp only [QaJ,h27,h32,h34,cs4])),aM1,aM1,aM1,aM1⟩
   intro h32
   have g38:=ne_of_beq_false h32
   refine Osk (Osk (Osk (Osk (Osk (Osk (Osk (Osk (Oq Vpf (KS ?_)))))))))
   refine Kf (KS ?_)
   refine Oq Vm (Oq QaS (Oq Va (KS ?_)))
   exact Kg (r29,(Qi2+1)) [1,2,3,4] ⟨(q3 hM19 (by simp only [QaJ,h27,h32,cs4])),aM1,aM1,aM1,aM1⟩
  intro h27
  have g39:=df h27
  obtain rfl:r17=0:=by omega
  refine Ke ?_
  have hR40:=q2 hM19 (.brk ()) (by simp only [QaJ,h27,cs4])
  refine KS ?_
  refine Oq Va (KS ?_)
  have hq:=q4 hrr false (by simp only [Qat,h5,h10,h15,h27,hg8,hR40,cs4]); subst hq
  exact Kr () rfl (.tmp rfl .nil) [] trivial
 intro h5
 have g41:=ne_of_beq_false h5
 refine Osk (Osk (Osk (Osk (Osk (Oq Vpf (KS ?_))))))
 refine Kf (KS ?_)
 refine Oq Va (KS ?_)
 refine Kl (γ:=Nat×Int) (fun (r42,Qsm)=>⟨[(1,vi a),(2,vi b),(3,p4),(7,vi Qsm)],[pv p4 [vi t.Gen.Width,vl ta1 tk1 t.Gen.Words,vi t.Kill.Width,vl ta3 tk3 t.Kill.Words,vl ta4 tk4 t.Copies],S ta1 tk1 t.Gen.Words,S ta3 tk3 t.Kill.Words,S ta4 tk4 t.Copies],QaJ t a b r42 Qsm=QaJ t a b (((t.Copies.length:Int) - 0).toNat) 0/\r42=((t.Copies.length:Int) - Qsm).toNat/\(0:Int)<=Qsm/\Qsm<=(t.Copies.length:Int)/\(-9223372036854775808<=Qsm/\Qsm<=9223372036854775807),r42⟩) (((t.Copies.length:Int) - 0).toNat,0) [0,1,2,3] ⟨rfl,rfl,aM1,aM1,aM1⟩ ?_
 rintro ⟨r42,Qsm⟩ ⟨hM44,hr45,hi46,hi47,hk48⟩
 refine QaE fun _ _ hL hA=>?_; dsimp only at hL hA; subst hL hA
 refine Fb 8 1 fun _=>Fb 8 2 fun _=>Fb 16 3 fun _=>KS ?_
 refine Oq Vm (Oq (Vfa Qcw 0) (Oq (Qai Qi5 0) (Oq (Qbc Qhq) (Oq Qbo (KS ?_)))))
 refine Kc ?_ ?_
 ·intro h52
  have g53:=dt h52
  obtain ⟨r54,rfl⟩:=scc (n:=r42) aM1
  refine KS ?_
  refine Oq (Vfa Qcw 0) (Oq (Qai Qi5 0) (Oq Vm (Oq (Vi Qhq 3) ?_)))
  refine Qcz Qsm.toNat 3 rfl rng fun hb55 hb56=>?_
  unfold Qaa at hb55 hb56
  refine Oq (Vfa QcA 0) (Oq (Qai sh3 0) (Oq Vm (Oq Qcb (Oq Vm ?_))))
  refine Js 33 ?_ ?_
  ·intro h57
   have g58:=eq_of_beq h57
   refine Oq (Vfa Qcw 1) (Oq (Qai Qi5 1) (Oq Vm (Oq (Vi Qhq 4) (Oq (Vfa Qd4 0) (Oq (Qai sh3 0) (Oq Vm (Oq Qcb (Oq Vpt (KS ?_)))))))))
   refine Kc ?_ ?_
   ·intro h59
    have g60:=eq_of_beq h59
    refine KS ?_
    refine Oq Va (KS ?_)
    have hR61:=q2 hM44 (.ret true) (by simp only [QaJ,h52,h57,h59,cs4])
    have hq:=q4 hrr true (by simp only [Qat,h5,h52,h57,h59,hR61,cs4]); subst hq
    exact Kr () rfl (.tmp rfl .nil) [] trivial
   intro h59
   have g62:=ne_of_beq_false h59
   refine KS ?_
   refine Oq Vm (Oq QaS (Oq Va (KS ?_)))
   exact Kg (r54,(Qsm+1)) [1,2,3,4] ⟨(q3 hM44 (by simp only [QaJ,h52,h57,h59,cs4])),aM1,aM1,aM1,aM1⟩
  intro h57
  have g63:=ne_of_beq_false h57
  refine Osk (Osk (Osk (Osk (Osk (Osk (Osk (Osk (Oq Vpf (KS ?_)))))))))
  refine Kf (KS ?_)
  refine Oq Vm (Oq QaS (Oq Va (KS ?_)))
  exact Kg (r54,(Qsm+1)) [1,2,3,4] ⟨(q3 hM44 (by simp only [QaJ,h52,h57,cs4])),aM1,aM1,aM1,aM1⟩
 intro h52
 have g64:=df h52
 obtain rfl:r42=0:=by omega
 refine Ke ?_
 have hR65:=q2 hM44 (.brk ()) (by simp only [QaJ,h52,cs4])
 refine KS ?_
 refine Oq Va (KS ?_)
 have hq:=q4 hrr false (by simp only [Qat,h5,h52,hR65,cs4]); subst hq
 exact Kr () rfl (.tmp rfl .nil) [] trivial
theorem QwH (t:Qad) (ta1:Option Addr) (tk1:Nat) (ta3:Option Addr) (tk3:Nat) (ta4:Option Addr) (tk4:Nat) (s:Qaf) (sa1:Option Addr) (sk1:Nat) (QkH:Qaa t.Gen.Width) (QkI:Qaa t.Kill.Width) (QcL:Qaa s.Width) (ht:Qal t=true) (hw:t.Gen.Width=s.Width) (rr:Qaf) (hrr:QiV t s=rr):FT Tryz.prog 153 #[.agg #[vi t.Gen.Width,vl ta1 tk1 t.Gen.Words,vi t.Kill.Width,vl ta3 tk3 t.Kill.Words,vl ta4 tk4 t.Copies],.agg #[vi s.Width,vl sa1 sk1 s.Words]] [S ta1 tk1 t.Gen.Words,S ta3 tk3 t.Kill.Words,S ta4 tk4 t.Copies,S sa1 sk1 s.Words] (fun g:Value=>Qaa rr.Width) (fun g=>.agg #[vi rr.Width,g]) (fun g=>[sl g rr.Words]):=by
 refine FTi Tryz.func153 fun w0 M0 F0=>?_
 unfold Qaa at QkH QkI QcL
 refine Fb 8 0 fun _=>Fb 8 1 fun _=>Fb 16 2 fun _=>Fb 8 3 fun _=>?_
 have hvt:=QAP ht
 refine KS ?_
 refine Oa (Ab [vi t.Gen.Width,vl ta1 tk1 t.Gen.Words,vi t.Kill.Width,vl ta3 tk3 t.Kill.Words,vl ta4 tk4 t.Copies]) fun p5=>Oa (Ab [vi s.Width,vl sa1 sk1 s.Words]) fun p6=>Oa (Al Qhj [vi 0,.slice none 0 0]) fun p7=>KS ?_
 refine Oq (Vfa Qdx 2) (Oq (Qml Qaw 2 [vi t.Gen.Width,vl ta1 tk1 t.Gen.Words]) (Oa (Al Qhj [vi 0,.slice none 0 0]) fun p8=>Ost (Scl [0] Qaw [vi t.Gen.Width,vl ta1 tk1 t.Gen.Words]) (KS ?_)))
 refine Oq Va (KS ?_)
 refine Kl (γ:=Nat×Int×List (BitVec 64)×Int×Option Addr×Nat) (fun (r9,QfP,QfQ,Qn6,a13,k14)=>⟨[(2,p5),(3,p6),(4,p7),(5,p8),(6,vi Qn6)],[S a13 k14 QfQ,Cl p8 [vi QfP,vl a13 k14 QfQ],Cl p7 [vi 0,.slice none 0 0],pv p6 [vi s.Width,vl sa1 sk1 s.Words],pv p5 [vi t.Gen.Width,vl ta1 tk1 t.Gen.Words,vi t.Kill.Width,vl ta3 tk3 t.Kill.Words,vl ta4 tk4 t.Copies],S ta1 tk1 t.Gen.Words,S ta3 tk3 t.Kill.Words,S ta4 tk4 t.Copies,S sa1 sk1 s.Words],Qct t s r9 QfP QfQ Qn6=Qct t s (((s.Width:Int) - 0).toNat) t.Gen.Width t.Gen.Words 0/\r9=((s.Width:Int) - Qn6).toNat/\(0:Int)<=Qn6/\(Qn6<=s.Width\/Qn6=0)/\(-9223372036854775808<=QfP/\QfP<=9223372036854775807)/\(-9223372036854775808<=Qn6/\Qn6<=9223372036854775807)/\QfP=s.Width/\QfQ.length=((s.Width+63) / 64).toNat,r9⟩) (((s.Width:Int) - 0).toNat,t.Gen.Width,t.Gen.Words,0,ta1,tk1) [4,0,0,0,1,2,3,4,5] ⟨rfl,rfl,aM1,(.inr rfl),aM1,aM1,iv0,iv0⟩ ?_
 rintro ⟨r9,QfP,QfQ,Qn6,a13,k14⟩ ⟨hM15,hr16,hi17,hi18,hk19,hk20,hv21,hv22⟩
 refine QaE fun _ _ hL hA=>?_; dsimp only at hL hA; subst hL hA
 refine Fb 8 0 fun _=>Fb 8 5 fun _=>Fb 8 6 fun _=>Fb 16 7 fun _=>Fb 8 8 fun _=>KS ?_
 refine Oq Vm (Oq (Vfa Qbj 3) (Oq (Qai sh3 3) (Oq Qbo (KS ?_))))
 refine Kc ?_ ?_
 ·intro h28
  have g29:=dt h28
  obtain ⟨r30,rfl⟩:=scc (n:=r9) aM1
  refine KS ?_
  refine Oq Va (KS ?_)
  have hterm43:QbR t s Qn6 (s.Width.toNat+1) QfP QfQ 0≠LR.oof:=QhC _ _ _ _ _ _ _ aM1 aM1
  refine Kl (γ:=Nat×Int×List (BitVec 64)×Int×Option Addr×Nat) (fun (r31,QeF,QfR,QqL,a35,k36)=>⟨[(2,p5),(3,p6),(4,p7),(5,p8),(6,vi Qn6),(7,vi QqL)],[S a35 k36 QfR,Cl p8 [vi QeF,vl a35 k36 QfR],Cl p7 [vi 0,.slice none 0 0],pv p6 [vi s.Width,vl sa1 sk1 s.Words],pv p5 [vi t.Gen.Width,vl ta1 tk1 t.Gen.Words,vi t.Kill.Width,vl ta3 tk3 t.Kill.Words,vl ta4 tk4 t.Copies],S ta1 tk1 t.Gen.Words,S ta3 tk3 t.Kill.Words,S ta4 tk4 t.Copies,S sa1 sk1 s.Words],QbR t s Qn6 r31 QeF QfR QqL=QbR t s Qn6 (s.Width.toNat+1) QfP QfQ 0/\(-9223372036854775808<=QeF/\QeF<=9223372036854775807)/\(-9223372036854775808<=QqL/\QqL<=9223372036854775807)/\QeF=s.Width/\QfR.length=((s.Width+63) / 64).toNat/\0<=QqL,r31⟩) ((s.Width.toNat+1),QfP,QfQ,0,a13,k14) [0,1,1,1,2,3,4,5,6] ⟨rfl,aM1,aM1,iv0,iv0,iv0⟩ ?_
  rintro ⟨r31,QeF,QfR,QqL,a35,k36⟩ ⟨hM37,hk38,hk39,hv40,hv41,hv42⟩
  refine QaE fun _ _ hL hA=>?_; dsimp only at hL hA; subst hL hA
  refine Fb 8 0 fun _=>Fb 8 5 fun _=>Fb 8 6 fun _=>Fb 16 7 fun _=>Fb 8 8 fun _=>?_
  rcases r31 with _ | r31
  ·exact absurd (hM37.symm.trans rfl) hterm43
  refine KS ?_
  refine Oq (Qar Qaw 3) (Oq Vm ?_)
  refine QaO (Qas s Qn6) fun rv49 hg50=>?_
  have hc51:=Qtx s sa1 sk1 Qn6 pre pre rv49 hg50
  refine Oc [8] Qtc hc51 ?_
  rintro - -
  refine Oq Vm ?_
  refine Js 19 ?_ ?_
  ·intro h52
   refine Oq Vm (Oq (Vfa Qbj 3) (Oq (Qai sh3 3) (Oq Qbo (Oq Vpt (KS ?_)))))
   refine Kc ?_ ?_
   ·intro h54
    have g55:=dt h54
    refine KS ?_
    refine Oq (Qar Qdm 4) (Oq Vm (Oq Vm ?_))
    refine QaO (Qat t Qn6 QqL) fun rv56 hg57=>?_
    have hc58:=QwN t ta1 tk1 ta3 tk3 ta4 tk4 Qn6 QqL pre pre pre pre rv56 hg57
    refine Oc [5,6,7] Qwi hc58 ?_
    rintro - -
    refine KS ?_
    refine Kc ?_ ?_
    ·intro h59
     refine KS ?_
     refine Oq (Qar Qaw 1) (Oq Vm ?_)
     refine QaO (QbC (Qaf.mk QeF QfR) QqL) fun rv62 hg63=>?_
     have hc64:=QqH ((Qaf.mk QeF QfR)) a35 k36 QqL pre pre pre pre rv62 hg63
     refine Oc [0] QqG hc64 ?_
     rintro c61 ⟨he65,he66,he67⟩
     unfold Qaa at he65
     have he66:(rv62.Width=QeF):=he66
     have he67:(rv62.Words.length=((QeF+63) / 64).toNat):=he67
     refine Jo 0 ?_; rintro a68 k69 rfl
     refine Fb 8 0 fun _=>?_
     refine Ost (Scl [2] Qaw [vi rv62.Width,vl a68 k69 rv62.Words]) (KS ?_)
     refine Oq Vm (Oq QaS (Oq Va (KS ?_)))
     refine Jl [1] (Ent.freeze _ _) ?_
     exact Kg (r31,rv62.Width,rv62.Words,(QqL+1),a68,k69) [0,1,2,2,3,4,5,6,7] ⟨(q3 hM37 (by simp only [QbR,h52,h54,h59,hg50,hg57,hg63,cs4])),aM1,aM1,iv1,iv1,iv1⟩
    intro h59
    refine KS ?_
    refine Oq Vm (Oq QaS (Oq Va (KS ?_)))
    exact Kg (r31,QeF,QfR,(QqL+1),a35,k36) [0,1,1,1,2,3,4,5,6] ⟨(q3 hM37 (by simp only [QbR,h52,h54,h59,hg50,hg57,cs4])),aM1,aM1,iv1,iv1,iv1⟩
   intro h54
   have g72:=df h54
   refine Ke ?_
   have hR73:=q2 hM37 (.brk (QeF,QfR)) (by simp only [QbR,h52,h54,hg50,cs4])
   refine KS ?_
   refine Oq Vm (Oq QaS (Oq Va (KS ?_)))
   exact Kg (r30,QeF,QfR,(Qn6+1),a35,k36) [0,1,1,1,2,3,4,5,6] ⟨(q3 hM15 (by simp only [Qct,h28,h52,h54,hg50,hR73,cs4])),aM1,aM1,aM1,aM1,aM1,iv1,iv1⟩
  intro h52
  refine Osk (Osk (Osk (Osk (Oq Vpf (KS ?_)))))
  refine Kf ?_
  refine Ke ?_
  have hR75:=q2 hM37 (.brk (QeF,QfR)) (by simp only [QbR,h52,hg50,cs4])
  refine KS ?_
  refine Oq Vm (Oq QaS (Oq Va (KS ?_)))
  exact Kg (r30,QeF,QfR,(Qn6+1),a35,k36) [0,1,1,1,2,3,4,5,6] ⟨(q3 hM15 (by simp only [Qct,h28,h52,hg50,hR75,cs4])),aM1,aM1,aM1,aM1,aM1,iv1,iv1⟩
 intro h28
 have g76:=df h28
 obtain rfl:r9=0:=by omega
 refine Ke ?_
 have hR77:=q2 hM15 (QfP,QfQ) (by simp only [Qct,h28,cs4])
 refine KS ?_
 refine Oq (Qar Qaw 1) (Ost (Scl [2] Qaw [vi QfP,vl a13 k14 QfQ]) (KS ?_))
 have hq:=q4 hrr (Qaf.mk QfP QfQ) (by simp only [QiV,h28,hR77,cs4]); subst hq
 exact Kr (vl a13 k14 QfQ) rfl (.cellN 0 rfl Qaw rfl (Qak _ _) rfl .nil) [1] en
theorem Qyr (t:Qad) (ta1:Option Addr) (tk1:Nat) (ta3:Option Addr) (tk3:Nat) (ta4:Option Addr) (tk4:Nat) (QkH:Qaa t.Gen.Width) (QkI:Qaa t.Kill.Width) (rr:Qj3) (hrr:Qn2 t=.ret rr):FT Tryz.prog 169 #[.agg #[vi t.Gen.Width,vl ta1 tk1 t.Gen.Words,vi t.Kill.Width,vl ta3 tk3 t.Kill.Words,vl ta4 tk4 t.Copies]] [S ta1 tk1 t.Gen.Words,S ta3 tk3 t.Kill.Words,S ta4 tk4 t.Copies] (fun g:Value×Value=>Qaa rr.Zero.Width) (fun g=>.agg #[vi rr.Zero.Width,g.1,g.2]) (fun g=>[sl g.1 rr.Zero.Words,sl g.2 rr.One]):=by
 refine FTi Tryz.func169 fun w0 M0 F0=>?_
 unfold Qaa at QkH QkI
 refine Fb 8 0 fun _=>Fb 8 1 fun _=>Fb 16 2 fun _=>?_
 have hx0:=lrn rr; have H:=hrr; unfold Qn2 at H
 refine KS ?_
 refine Oa (Ab [vi t.Gen.Width,vl ta1 tk1 t.Gen.Words,vi t.Kill.Width,vl ta3 tk3 t.Kill.Words,vl ta4 tk4 t.Copies]) fun p4=>Oa (Al Qxm [vi 0,.slice none 0 0,.slice none 0 0]) fun p5=>KS ?_
 refine Oq (Vfa Qdx 1) (Oq (Qml Qaw 1 [vi t.Gen.Width,vl ta1 tk1 t.Gen.Words]) (Oq (Vbd Qx8 [vi t.Gen.Width,vl ta1 tk1 t.Gen.Words,.slice none 0 0]) (Oa (Al Qxm [vi 0,.slice none 0 0,.slice none 0 0]) fun p6=>Ost (Scl [0] Qtv [vi t.Gen.Width,vl ta1 tk1 t.Gen.Words,.slice none 0 0]) (KS ?_))))
 refine Oq Va (KS ?_)
 refine Jl [] (Ent.osNil (α:=Qaf)) ?_
 refine llH H hx0 fun X17 hX18 hx19 HL20=>?_
 refine Kl (γ:=Nat×List Qaf×Int×Option Addr×Nat) (fun (r7,Qsz,b_9,a10,k11)=>⟨[(1,p4),(2,p5),(3,p6),(4,vi b_9)],[O a10 k11 Qsz,Cl p6 [vi t.Gen.Width,vl ta1 tk1 t.Gen.Words,vl a10 k11 Qsz],Cl p5 [vi 0,.slice none 0 0,.slice none 0 0],pv p4 [vi t.Gen.Width,vl ta1 tk1 t.Gen.Words,vi t.Kill.Width,vl ta3 tk3 t.Kill.Words,vl ta4 tk4 t.Copies],S ta1 tk1 t.Gen.Words,S ta3 tk3 t.Kill.Words,S ta4 tk4 t.Copies],Qgm t r7 Qsz b_9=X17/\r7=((t.Gen.Width:Int) - b_9).toNat/\(0:Int)<=b_9/\(b_9<=t.Gen.Width\/b_9=0)/\(-9223372036854775808<=b_9/\b_9<=9223372036854775807),r7⟩) (((t.Gen.Width:Int) - 0).toNat,[],0,none,0) [0,0,0,0,1,2,3] ⟨hX18,rfl,aM1,(.inr rfl),aM1⟩ ?_
 rintro ⟨r7,Qsz,b_9,a10,k11⟩ ⟨hM12,hr13,hi14,hi15,hk16⟩
 refine QaE fun _ _ hL hA=>?_; dsimp only at hL hA; subst hL hA
 refine Fb 32 0 fun _=>Fb 8 4 fun _=>Fb 8 5 fun _=>Fb 16 6 fun _=>KS ?_
 refine Oq Vm (Oq (Vfa Qdx 3) (Oq (Qoy Qbj 3) (Oq (Qai sh3 3) (Oq Qbo (KS ?_)))))
 refine Kc ?_ ?_
 ·intro h25
  have g26:=dt h25
  obtain ⟨r27,rfl⟩:=scc (n:=r7) aM1
  have H:=hM12; (try dsimp only at H); rw [Qgm] at H
  refine KS ?_
  refine Jp 1 fun hp28=>?_
  refine Qam [0,1,0,0,8,24,56,0,248,508,1020,2047,4095,8191] QcF ?_
  refine Dv [0] (Vfa QoZ 0) (Dv [2] (Qai Qjc 0) (Dv [4] (Qar Qdm 0) (Dv [4] (Vfa Qdx 0) (Dv [4] (Qoy Qbj 0) (Dv [4] (Qai sh3 0) ?_)))))
  refine pC H hx19 fun hc29 H=>?_
  refine lvH H fun rv31 hg32 H=>?_
  refine Dx [] [] [0,1] (fun G=>.agg #[vi rv31.Width,(G.g 6 0)]) [fun G=>SP.fact (Qaa rv31.Width/\(rv31.Width=t.Gen.Width)/\(rv31.Words.length=(((t.Gen.Width:Int)+63) / 64).toNat)),fun G=>os (G.g 6 0) rv31.Words] (fun G=>xC [] Qp0 (QpO t.Gen.Width pre pre rv31 hg32)) (Dv [] Vm ?_)
  refine pC H hx19 fun hc36 H=>?_
  refine pC H hx19 fun hc37 H=>?_
  refine lvH H fun rv39 hg40 H=>?_
  refine Dx [8,9] [] [3,1,0,1] (fun G=>.agg #[vi rv39.Width,(G.g 8 0)]) [fun G=>SP.fact (Qaa rv39.Width/\(rv39.Width=rv31.Width)/\(rv39.Words.length=((rv31.Width+63) / 64).toNat)),fun G=>os (G.g 8 0) rv39.Words] (fun G=>by refine xf 0 rfl ?_; rintro ⟨he41,he42,he43⟩; unfold Qaa at he41; exact xD [1] QqG rfl rfl rfl (QlR (γ:=Value) (I:=fun g=>Qaa rv39.Width/\(rv39.Width=rv31.Width)/\(rv39.Words.length=((rv31.Width+63) / 64).toNat)) (V:=fun g=>.agg #[vi rv39.Width,g]) (B:=fun g=>[os (G.g 6 0) rv31.Words,os g rv39.Words]) (R:=os (G.g 6 0) rv31.Words) QnY (fun aq33 kq34 eq35=>by rw [eq35]; exact Qe7 (Ent.take (is:=[0]) rfl) (Qdp (A:=_) hlx (Qe7 (Ent.take (is:=[0]) rfl) (QqH rv31 aq33 kq34 b_9 pre pre pre pre rv39 hg40)))))) ?_
  refine pC H hx19 fun hc47 H=>?_
  refine pC H hx19 fun hc48 H=>?_
  refine lvH H fun rv50 hg51 H=>?_
  refine Dx [5,6,7,8,10,11] [11] [3,4,5,6,7,2,0,1] (fun G=>.agg #[vi rv50.Width,(G.g 9 0)]) [fun G=>sl (G.g 8 0) rv39.Words,fun G=>SP.fact (Qaa rv50.Width),fun G=>sl (G.g 9 0) rv50.Words] (fun G=>by refine xf 3 rfl ?_; rintro ⟨he52,he53,he54⟩; unfold Qaa at he52; refine xf 4 rfl ?_; rintro ⟨he55,he56,he57⟩; unfold Qaa at he55; exact xp [5] rfl (Ent.freeze _ _) (xD [0,1,2,3] Qxl rfl rfl rfl (QlR (γ:=Value) (I:=fun g=>Qaa rv50.Width) (V:=fun g=>.agg #[vi rv50.Width,g]) (B:=fun g=>[sl g rv50.Words]) (R:=sl (G.g 8 0) rv39.Words) QjT (fun aq44 kq45 eq46=>by rw [eq46]; exact Qe7 (Ent.take (is:=[1,2,3,0]) rfl) (QwH t ta1 tk1 ta3 tk3 ta4 tk4 rv39 aq44 kq45 pre pre pre pre pre rv50 hg51))))) (Dx [] [] [0] (fun G=>(G.g 10 0)) [fun G=>Cr (G.g 10 0) 1 [vi rv50.Width,(G.g 9 0)]] (fun G=>xA (AsV Qd2 Qob [.agg #[vi rv50.Width,(G.g 9 0)]] [vi rv50.Width,(G.g 9 0)])) ?_)
  refine pC H hx19 fun hc59 H=>?_
  have hn61:=la Qsz ([rv50]:List Qaf)
  refine Dx [1,13,14,15] [1,15] [2,1,0] (fun G=>(G.g 11 0)) [fun G=>os (G.g 11 0) ((Qsz++[rv50]):List Qaf)] (fun G=>by refine xf 1 rfl ?_; rintro he62; unfold Qaa at he62; exact xp [3,2] rfl (Ent.cr1 (α:=Qaf) (A:=[sl (G.g 9 0) rv50.Words]) _ rv50 _ aB1 (fun h=>⟨_,rfl,aL1,Qaj (i:=0) rfl h⟩)) (xA (ApO [2,0] Qd2 Qd2 Qob))) (Dv [0] (Vfa QoZ 0) (Dx0 [2,16] [2] [1,0] [fun G=>Cl p6 [vi t.Gen.Width,vl ta1 tk1 t.Gen.Words,(G.g 11 0)]] (fun G=>x1 1 rfl Qcn fun ho63=>(xS (OpS.frame [0] rfl (OpS.storeClF [(G.g 11 0)] [vi t.Gen.Width,vl ta1 tk1 t.Gen.Words,(G.g 11 0)] rfl rfl rfl Qjc (QaF ho63) rfl (by simp only [List.all_cons,List.all_nil,ho63,Bool.and_true,Bool.true_and] <;> rfl) aB1 rfl)))) ?_))
  refine Dn ⟨by kernel_rfl,fun G=>?_⟩
  refine Jw2 [(1,p4),(2,p5),(3,p6),(4,vi b_9)] [0,3,4,5,6,7] [SP.fact (Qaa rv31.Width/\(rv31.Width=t.Gen.Width)/\(rv31.Words.length=(((t.Gen.Width:Int)+63) / 64).toNat)),os (G.g 6 0) rv31.Words,SP.fact (Qaa rv39.Width/\(rv39.Width=rv31.Width)/\(rv39.Words.length=((rv31.Width+63) / 64).toNat)),sl (G.g 8 0) rv39.Words,SP.fact (Qaa rv50.Width),sl (G.g 9 0) rv50.Words,os (G.g 11 0) ((Qsz++[rv50]):List Qaf),Cl p6 [vi t.Gen.Width,vl ta1 tk1 t.Gen.Words,(G.g 11 0)]] ?_
  generalize G.g 6 0=c30,G.g 8 0=c38,G.g 9 0=c49,G.g 11 0=c60
  refine Jf 6 rfl ?_; rintro ⟨he64,he65,he66⟩
  unfold Qaa at he64
  refine Jf 8 rfl ?_; rintro ⟨he67,he68,he69⟩
  unfold Qaa at he67
  refine Jf 10 rfl ?_; rintro he70
  unfold Qaa at he70
  refine Jk [1,1,2,3,4,6,7,9,10,10] ?_
  refine Jo 5 ?_; rintro a71 k72 rfl
  refine Fb 8 5 fun _=>?_
  refine Jo 6 ?_; rintro a74 k75 rfl
  refine Fb 8 6 fun _=>?_
  refine Jo 7 ?_; rintro a77 k78 rfl
  refine Fb 8 7 fun _=>?_
  refine Jo 8 ?_; rintro a80 k81 rfl
  refine Fb 32 8 fun _=>KS ?_
  refine Oq Vm (Oq QaS (Oq Va (KS ?_)))
  refine pC H hx19 fun hc83 H=>?_
  exact Kg (r27,(Qsz++[rv50]),(b_9+1),a80,k81) [8,8,0,0,1,2,3] ⟨H,aM1,aM1,aM1,aM1⟩
 intro h25
 have g84:=df h25
 obtain rfl:r7=0:=by omega
 have H:=hM12; (try dsimp only at H); rw [Qgm] at H
 refine Ke ?_
 have H:=llB H HL20
 refine KS ?_
 refine Oq (Qar Qtv 1) (Ost (Scl [2] Qtv [vi t.Gen.Width,vl ta1 tk1 t.Gen.Words,vl a10 k11 Qsz]) (KS ?_))
 refine Jl [1] (Ent.freeze _ _) ?_
 have hq:=rI H; subst hq
 exact Kr (vl ta1 tk1 t.Gen.Words,vl a10 k11 Qsz) rfl (.cellN 1 rfl Qtv rfl (Qak _ _) rfl .nil) [4,0] en
theorem Qx3 (a:QaB) (b:QaB) (Qke:Qaa a.From) (Qvi:Qaa a.To) (QgI:Qaa b.From) (Qvj:Qaa b.To) (rr:Bool) (hrr:Qc4 a b=rr):FT Tryz.prog 107 #[.agg #[vi a.From,vi a.To],.agg #[vi b.From,vi b.To]] [] (fun g:Unit=>True) (fun g=>vb rr) (fun g=>[]):=by
 refine FTi Tryz.func107 fun w0 M0 F0=>?_
 unfold Qaa at Qke Qvi QgI Qvj
 refine KS ?_
 refine Oa (Ab [vi a.From,vi a.To]) fun p1=>Oa (Ab [vi b.From,vi b.To]) fun p2=>Oq Va (KS ?_)
 refine Oq (Vfa QcA 1) (Oq (Qai sh3 1) (Oq (Vfa QcA 0) (Oq (Qai sh3 0) (Oq Qbo (Oq Vm ?_)))))
 refine Js 10 ?_ ?_
 ·intro h3
  have g4:=dt h3
  refine Osk (Osk (Osk (Osk (Osk (Osk (Osk (Osk (Osk (Osk ?_)))))))))
  refine Osk (Osk (Oq Vpt (Oq Va (KS ?_))))
  have hq:=q4 hrr true (by simp only [Qc4,h3,cs4]); subst hq
  exact Kr () rfl (.tmp rfl .nil) [] trivial
 intro h3
 have g5:=df h3
 refine Oq (Vfa QcA 1) (Oq (Qai sh3 1) (Oq (Vfa QcA 0) (Oq (Qai sh3 0) (Oq Qcb (Oq Vm ?_)))))
 refine Js 16 ?_ ?_
 ·intro h6
  have g7:=eq_of_beq h6
  refine Oq (Vfa Qd4 1) (Oq (Qai sh3 1) (Oq (Vfa Qd4 0) (Oq (Qai sh3 0) (Oq Qbo (Oq Vpt (Oq Vpf (Oq Va (KS ?_))))))))
  have hq:=q4 hrr (decide (a.To < b.To)) (by simp only [Qc4,h3,h6,cs4]); subst hq
  exact Kr () rfl (.tmp rfl .nil) [] trivial
 intro h6
 have g8:=ne_of_beq_false h6
 refine Osk (Osk (Osk (Osk (Osk (Oq Vpf (Oq Vpf (Oq Va (KS ?_))))))))
 have hq:=q4 hrr false (by simp only [Qc4,h3,h6,cs4]); subst hq
 exact Kr () rfl (.tmp rfl .nil) [] trivial
theorem Qvv (t:Qad) (ta1:Option Addr) (tk1:Nat) (ta3:Option Addr) (tk3:Nat) (ta4:Option Addr) (tk4:Nat) (QkH:Qaa t.Gen.Width) (QkI:Qaa t.Kill.Width) (rr:Bool) (hrr:Qal t=rr):FT Tryz.prog 68 #[.agg #[vi t.Gen.Width,vl ta1 tk1 t.Gen.Words,vi t.Kill.Width,vl ta3 tk3 t.Kill.Words,vl ta4 tk4 t.Copies]] [S ta1 tk1 t.Gen.Words,S ta3 tk3 t.Kill.Words,S ta4 tk4 t.Copies] (fun g:Unit=>True) (fun g=>vb rr) (fun g=>[]):=by
 refine FTi Tryz.func68 fun w0 M0 F0=>?_
 unfold Qaa at QkH QkI
 refine Fb 8 0 fun _=>Fb 8 1 fun _=>Fb 16 2 fun _=>KS ?_
 refine Oa (Ab [vi t.Gen.Width,vl ta1 tk1 t.Gen.Words,vi t.Kill.Width,vl ta3 tk3 t.Kill.Words,vl ta4 tk4 t.Copies]) fun p4=>Oq Va (KS ?_)
 refine Oq (Vfa Qdx 0) (Oq (Qml Qaw 0 [vi t.Gen.Width,vl ta1 tk1 t.Gen.Words]) ?_)
 refine QaO (Qbd t.Gen) fun rv5 hg6=>?_
 have hc7:=QtN t.Gen ta1 tk1 pre rv5 hg6
 refine Oc [1] QtJ hc7 ?_
 rintro - -
 refine Oq QcN (Oq Vm ?_)
 refine Js 10 ?_ ?_
 ·intro h8
  have h10:=not_true h8
  refine Osk (Osk (Osk (Osk (Oq Vpt (Oq Vm (Osk (Osk (Osk (Osk ?_)))))))))
  refine Osk (Osk (Osk (Oq Vpt (Oq Vm (Osk (Osk (Osk (Osk (Oq Vpt ?_)))))))))
  refine KS ?_
  refine Kt (KS ?_)
  refine Oq Va (KS ?_)
  have hq:=q4 hrr false (by simp only [Qal,h8,h10,hg6,cs4]); subst hq
  exact Kr () rfl (.tmp rfl .nil) [] trivial
 intro h8
 have h13:=not_false h8
 refine Oq (Vfa QfD 0) (Oq (Qml Qaw 0 [vi t.Kill.Width,vl ta3 tk3 t.Kill.Words]) ?_)
 refine QaO (Qbd t.Kill) fun rv15 hg16=>?_
 have hc17:=QtN t.Kill ta3 tk3 pre rv15 hg16
 refine Oc [2] QtJ hc17 ?_
 rintro - -
 refine Oq QcN (Oq Vpf (Oq Vm ?_))
 refine Js 16 ?_ ?_
 ·intro h18
  have h20:=not_true h18
  refine Osk (Osk (Osk (Osk (Osk (Osk (Osk (Oq Vpt (Oq Vm (Osk ?_)))))))))
  refine Osk (Osk (Osk (Oq Vpt (KS ?_))))
  refine Kt (KS ?_)
  refine Oq Va (KS ?_)
  have hq:=q4 hrr false (by simp only [Qal,h8,h13,h18,h20,hg6,hg16,cs4]); subst hq
  exact Kr () rfl (.tmp rfl .nil) [] trivial
 intro h18
 have h23:=not_false h18
 refine Oq (Vfa Qdx 0) (Oq (Qoy Qbj 0) (Oq (Qai sh3 0) (Oq (Vfa QfD 0) (Oq (Qoy Qbj 0) (Oq (Qai sh3 0) (Oq Qf4 (Oq Vpf (Oq Vm ?_))))))))
 refine Js 25 ?_ ?_
 ·intro h25
  have g26:=Qax h25
  refine Osk (Osk (Osk (Osk (Oq Vpt (KS ?_)))))
  refine Kt (KS ?_)
  refine Oq Va (KS ?_)
  have hq:=q4 hrr false (by simp only [Qal,h8,h13,h18,h23,h25,hg6,hg16,cs4]); subst hq
  exact Kr () rfl (.tmp rfl .nil) [] trivial
 intro h25
 have g27:=Qae h25
 refine Oq (Vfa Qcw 0) (Oq (Qai Qi5 0) (Oq (Qbc Qhq) (Oq QgZ (Oq Vpf (KS ?_)))))
 refine Kc ?_ ?_
 ·intro h28
  have g29:=dt h28
  refine KS ?_
  refine Oq Va (KS ?_)
  have hq:=q4 hrr false (by simp only [Qal,h8,h13,h18,h23,h25,h28,hg6,hg16,cs4]); subst hq
  exact Kr () rfl (.tmp rfl .nil) [] trivial
 intro h28
 have g30:=df h28
 refine KS ?_
 refine Oq (Vfa Qdx 0) (Oq (Qoy Qbj 0) (Oq (Qai sh3 0) (Oq Va (KS ?_))))
 refine Oq Va (KS ?_)
 refine Kl (γ:=Nat×Int) (fun (r31,Qls)=>⟨[(1,p4),(3,vi t.Gen.Width),(4,vi Qls)],[pv p4 [vi t.Gen.Width,vl ta1 tk1 t.Gen.Words,vi t.Kill.Width,vl ta3 tk3 t.Kill.Words,vl ta4 tk4 t.Copies],S ta1 tk1 t.Gen.Words,S ta3 tk3 t.Kill.Words,S ta4 tk4 t.Copies],Qao t r31 Qls=Qao t (((t.Copies.length:Int) - 0).toNat) 0/\r31=((t.Copies.length:Int) - Qls).toNat/\(0:Int)<=Qls/\Qls<=(t.Copies.length:Int)/\(-9223372036854775808<=Qls/\Qls<=9223372036854775807),r31⟩) (((t.Copies.length:Int) - 0).toNat,0) [0,1,2,3] ⟨rfl,rfl,aM1,aM1,aM1⟩ ?_
 rintro ⟨r31,Qls⟩ ⟨hM33,hr34,hi35,hi36,hk37⟩
 refine QaE fun _ _ hL hA=>?_; dsimp only at hL hA; subst hL hA
 refine Fb 8 1 fun _=>Fb 8 2 fun _=>Fb 16 3 fun _=>KS ?_
 refine Oq Vm (Oq (Vfa Qcw 0) (Oq (Qai Qi5 0) (Oq (Qbc Qhq) (Oq Qbo (KS ?_)))))
 refine Kc ?_ ?_
 ·intro h41
  have g42:=dt h41
  obtain ⟨r43,rfl⟩:=scc (n:=r31) aM1
  refine KS ?_
  refine Oq (Vfa Qcw 0) (Oq (Qai Qi5 0) (Oq Vm (Oq (Vi Qhq 3) ?_)))
  refine Qcz Qls.toNat 3 rfl rng fun hb44 hb45=>?_
  unfold Qaa at hb44 hb45
  refine Oq (Qar QiC 0) (Oa (Al Quj [vi 0,vi 0]) fun p46=>Ost (Scl [0] QiC [vi ((t.Copies.getD Qls.toNat default).From),vi ((t.Copies.getD Qls.toNat default).To)]) (KS ?_))
  refine Jp 0 fun hp47=>?_
  refine Qa5 (decide ((t.Copies.getD Qls.toNat default).From < 0)) ?_ ?_
  ·intro h48
   have g49:=dt h48
   refine Kq [0,1,3,7,15,31,15,127,255,511,1023,2047,4095,8191,16383,32767,65535,32767,262143,524287,1048575,2097151,4194303,8388607,16777215,33554431,16777215,83886079,268435455,536870911,16777215,2147483647,4294967295,8589934591,17179869183] QcF ?_
   refine Qv [0] (Vfa QcA 0) (Qv [1] (Qai sh3 0) (Qb h48 [] Qbo (Qv [] Vm (Qs (Qs (Qs (Qs (Qv [] Vpt (Qv [] Vm ?_)))))))))
   refine Qs (Qs (Qs (Qv [] Vpt (Qv [] Vm (Qs (Qs (Qs (Qs (Qv [] Vpt ?_)))))))))
   refine Qv [] Vm (Qs (Qs (Qs (Qs (Qs (Qs (Qs (Qs (Qs ?_)))))))))
   refine Qs (Qs (Qs (Qs (Qv [] Vpt ?_))))
   refine Qn ⟨by kernel_rfl,?_⟩
   refine Kt (KS ?_)
   refine Oq Va (KS ?_)
   have hR50:=q2 hM33 (.ret false) (by simp only [Qao,h41,h48,cs4])
   have hq:=q4 hrr false (by simp only [Qal,h8,h13,h18,h23,h25,h28,h41,h48,hg6,hg16,hR50,cs4]); subst hq
   exact Kr () rfl (.tmp rfl .nil) [] trivial
  intro h48
  have g51:=df h48
  refine Qa5 (decide (t.Gen.Width<=(t.Copies.getD Qls.toNat default).From)) ?_ ?_
  ·intro h52
   have g53:=dt h52
   refine Kq [0,1,3,7,15,31,15,127,255,511,1023,2047,4095,8191,16383,32767,65535,32767,262143,524287,1048575,2097151,4194303,8388607,16777215,33554431,16777215,83886079,268435455,536870911,16777215,2147483647,4294967295,8589934591,17179869183] QcF ?_
   refine Qv [0] (Vfa QcA 0) (Qv [1] (Qai sh3 0) (Qb h48 [] Qbo (Qv [] Vm (Qv [0] (Vfa QcA 0) (Qv [1] (Qai sh3 0) (Qv [] Vm (Qb h52 [] Qhv (Qv [] Vpf (Qv [] Vm ?_)))))))))
   refine Qs (Qs (Qs (Qv [] Vpt (Qv [] Vm (Qs (Qs (Qs (Qs (Qv [] Vpt ?_)))))))))
   refine Qv [] Vm (Qs (Qs (Qs (Qs (Qs (Qs (Qs (Qs (Qs ?_)))))))))
   refine Qs (Qs (Qs (Qs (Qv [] Vpt ?_))))
   refine Qn ⟨by kernel_rfl,?_⟩
   refine Kt (KS ?_)
   refine Oq Va (KS ?_)
   have hR54:=q2 hM33 (.ret false) (by simp only [Qao,h41,h48,h52,cs4])
   have hq:=q4 hrr false (by simp only [Qal,h8,h13,h18,h23,h25,h28,h41,h48,h52,hg6,hg16,hR54,cs4]); subst hq
   exact Kr () rfl (.tmp rfl .nil) [] trivial
  intro h52
  have g55:=df h52
  refine Qa5 (decide ((t.Copies.getD Qls.toNat default).To < 0)) ?_ ?_
  ·intro h56
   have g57:=dt h56
   refine Kq [0,1,3,7,15,31,15,127,255,511,1023,2047,4095,8191,16383,32767,65535,32767,262143,524287,1048575,2097151,4194303,8388607,16777215,33554431,16777215,83886079,268435455,536870911,16777215,2147483647,4294967295,8589934591,17179869183] QcF ?_
   refine Qv [0] (Vfa QcA 0) (Qv [1] (Qai sh3 0) (Qb h48 [] Qbo (Qv [] Vm (Qv [0] (Vfa QcA 0) (Qv [1] (Qai sh3 0) (Qv [] Vm (Qb h52 [] Qhv (Qv [] Vpf (Qv [] Vm ?_)))))))))
   refine Qv [0] (Vfa Qd4 0) (Qv [1] (Qai sh3 0) (Qb h56 [] Qbo (Qv [] Vpf (Qv [] Vm (Qs (Qs (Qs (Qs (Qv [] Vpt ?_)))))))))
   refine Qv [] Vm (Qs (Qs (Qs (Qs (Qs (Qs (Qs (Qs (Qs ?_)))))))))
   refine Qs (Qs (Qs (Qs (Qv [] Vpt ?_))))
   refine Qn ⟨by kernel_rfl,?_⟩
   refine Kt (KS ?_)
   refine Oq Va (KS ?_)
   have hR58:=q2 hM33 (.ret false) (by simp only [Qao,h41,h48,h52,h56,cs4])
   have hq:=q4 hrr false (by simp only [Qal,h8,h13,h18,h23,h25,h28,h41,h48,h52,h56,hg6,hg16,hR58,cs4]); subst hq
   exact Kr () rfl (.tmp rfl .nil) [] trivial
  intro h56
  have g59:=df h56
  refine Qa5 (decide (t.Gen.Width<=(t.Copies.getD Qls.toNat default).To)) ?_ ?_
  ·intro h60
   have g61:=dt h60
   refine Kq [0,1,3,7,15,31,15,127,255,511,1023,2047,4095,8191,16383,32767,65535,32767,262143,524287,1048575,2097151,4194303,8388607,16777215,33554431,16777215,83886079,268435455,536870911,16777215,2147483647,4294967295,8589934591,17179869183] QcF ?_
   refine Qv [0] (Vfa QcA 0) (Qv [1] (Qai sh3 0) (Qb h48 [] Qbo (Qv [] Vm (Qv [0] (Vfa QcA 0) (Qv [1] (Qai sh3 0) (Qv [] Vm (Qb h52 [] Qhv (Qv [] Vpf (Qv [] Vm ?_)))))))))
   refine Qv [0] (Vfa Qd4 0) (Qv [1] (Qai sh3 0) (Qb h56 [] Qbo (Qv [] Vpf (Qv [] Vm (Qv [0] (Vfa Qd4 0) (Qv [1] (Qai sh3 0) (Qv [] Vm (Qb h60 [] Qhv (Qv [] Vpf ?_)))))))))
   refine Qv [] Vm (Qs (Qs (Qs (Qs (Qs (Qs (Qs (Qs (Qs ?_)))))))))
   refine Qs (Qs (Qs (Qs (Qv [] Vpt ?_))))
   refine Qn ⟨by kernel_rfl,?_⟩
   refine Kt (KS ?_)
   refine Oq Va (KS ?_)
   have hR62:=q2 hM33 (.ret false) (by simp only [Qao,h41,h48,h52,h56,h60,cs4])
   have hq:=q4 hrr false (by simp only [Qal,h8,h13,h18,h23,h25,h28,h41,h48,h52,h56,h60,hg6,hg16,hR62,cs4]); subst hq
   exact Kr () rfl (.tmp rfl .nil) [] trivial
  intro h60
  have g63:=df h60
  refine Qa5 (decide (0 < Qls)) ?_ ?_
  ·intro h64
   have g65:=dt h64
   refine Qcz ((Qls - 1):Int).toNat 6 rfl rng fun hb66 hb67=>?_
   unfold Qaa at hb66 hb67
   refine Qam [0,1,3,7,15,31,15,127,255,511,1023,2047,4095,8191,16383,32767,65535,32767,262143,524287,1048575,2097151,4194303,8388607,16777215,33554431,16777215,83886079,268435455,536870911,16777215,2147483647,4294967295,8589934591,17179869183] QcF ?_
   refine Dv [1] (Vfa QcA 0) (Dv [2] (Qai sh3 0) (Db h48 [] Qbo (Dv [] Vm (Dv [1] (Vfa QcA 0) (Dv [2] (Qai sh3 0) (Dv [] Vm (Db h52 [] Qhv (Dv [] Vpf (Dv [] Vm ?_)))))))))
   refine Dv [1] (Vfa Qd4 0) (Dv [2] (Qai sh3 0) (Db h56 [] Qbo (Dv [] Vpf (Dv [] Vm (Dv [1] (Vfa Qd4 0) (Dv [2] (Qai sh3 0) (Dv [] Vm (Db h60 [] Qhv (Dv [] Vpf ?_)))))))))
   refine Dv [] Vm (Dv [] Vm (Db h64 [] QgZ (Dv [] Vm (Dv [4] (Vfa Qcw 0) (Dv [4] (Qai Qi5 0) (Dv [] Vm (Dv [] Qjf (Dv [7] (Vi Qhq 0) (Dv [0] (Qar QiC 0) ?_)))))))))
   refine Dv [2] (Qar QiC 0) ?_
   refine QaO (Qc4 (t.Copies.getD ((Qls - 1):Int).toNat default) (t.Copies.getD Qls.toNat default)) fun rv68 hg69=>?_
   refine Dx [] [] [0] (fun G=>vb rv68) [fun G=>SP.fact (True)] (fun G=>xC [] Qzr (Qx3 ((t.Copies.getD ((Qls - 1):Int).toNat default)) ((t.Copies.getD Qls.toNat default)) pre pre pre pre rv68 hg69)) (Dv [] QcN (Dv [] Vpt (Dv [] Vpf ?_)))
   refine Dn ⟨by kernel_rfl,fun G=>?_⟩
   refine Jw2 [(1,p4),(3,vi t.Gen.Width),(4,vi Qls),(80,vb (!rv68))] [0,1,2,3,4,5,6,7] [SP.fact (True)] ?_
   refine Jk [0,2,2,3,4,5,6] ?_
   refine Kc ?_ ?_
   ·intro h70
    have h72:=not_true h70
    refine KS ?_
    refine Oq Va (KS ?_)
    have hR74:=q2 hM33 (.ret false) (by simp only [Qao,h41,h48,h52,h56,h60,h64,h70,h72,hg69,cs4])
    have hq:=q4 hrr false (by simp only [Qal,h8,h13,h18,h23,h25,h28,h41,h48,h52,h56,h60,h64,h70,h72,hg6,hg16,hg69,hR74,cs4]); subst hq
    exact Kr () rfl (.tmp rfl .nil) [] trivial
   intro h70
   have h76:=not_false h70
   refine KS ?_
   refine Oq Vm (Oq QaS (Oq Va (KS ?_)))
   exact Kg (r43,(Qls+1)) [3,4,5,6] ⟨(q3 hM33 (by simp only [Qao,h41,h48,h52,h56,h60,h64,h70,h76,hg69,cs4])),aM1,aM1,aM1,aM1⟩
  intro h64
  have g78:=df h64
  refine Kq [0,1,3,7,15,31,15,127,255,511,1023,2047,4095,8191,16383,32767,65535,32767,262143,524287,1048575,2097151,4194303,8388607,16777215,33554431,16777215,83886079,268435455,536870911,16777215,2147483647,4294967295,8589934591,17179869183] QcF ?_
  refine Qv [0] (Vfa QcA 0) (Qv [1] (Qai sh3 0) (Qb h48 [] Qbo (Qv [] Vm (Qv [0] (Vfa QcA 0) (Qv [1] (Qai sh3 0) (Qv [] Vm (Qb h52 [] Qhv (Qv [] Vpf (Qv [] Vm ?_)))))))))
  refine Qv [0] (Vfa Qd4 0) (Qv [1] (Qai sh3 0) (Qb h56 [] Qbo (Qv [] Vpf (Qv [] Vm (Qv [0] (Vfa Qd4 0) (Qv [1] (Qai sh3 0) (Qv [] Vm (Qb h60 [] Qhv (Qv [] Vpf ?_)))))))))
  refine Qv [] Vm (Qv [] Vm (Qb h64 [] QgZ (Qv [] Vm (Qs (Qs (Qs (Qs (Qs (Qs ?_)))))))))
  refine Qs (Qs (Qs (Qv [] Vpf (Qv [] Vpf ?_))))
  refine Qn ⟨by kernel_rfl,?_⟩
  refine Kf (KS ?_)
  refine Oq Vm (Oq QaS (Oq Va (KS ?_)))
  exact Kg (r43,(Qls+1)) [3,4,5,6] ⟨(q3 hM33 (by simp only [Qao,h41,h48,h52,h56,h60,h64,cs4])),aM1,aM1,aM1,aM1⟩
 intro h41
 have g79:=df h41
 obtain rfl:r31=0:=by omega
 refine Ke ?_
 have hR80:=q2 hM33 (.brk ()) (by simp only [Qao,h41,cs4])
 refine KS ?_
 refine Oq Va (KS ?_)
 have hq:=q4 hrr true (by simp only [Qal,h8,h13,h18,h23,h25,h28,h41,hg6,hg16,hR80,cs4]); subst hq
 exact Kr () rfl (.tmp rfl .nil) [] trivial
end Go.SL.G
