/- Part 5 of the walks: mirrors, plain laws and walks used by the last text of this claim. -/
import Derived.Test.YtbccjgpbflaibaaGreatW4
import Derived.Test.YtbccjgpbflaibaaGreatProg
set_option linter.unusedVariables false
set_option linter.unusedSimpArgs false
namespace Go.SL.G
open Go Go.SL Go.Proofs
set_option maxHeartbeats 20000000
set_option maxRecDepth 100000
theorem Qw6 (t:Qad) (ta1:Option Addr) (tk1:Nat) (ta3:Option Addr) (tk3:Nat) (ta4:Option Addr) (tk4:Nat) (QkH:Qaa t.Gen.Width) (QkI:Qaa t.Kill.Width) (rr:Qad×Int) (hrr:Qlo t=.ret rr):FT Tryz.prog 133 #[.agg #[vi t.Gen.Width,vl ta1 tk1 t.Gen.Words,vi t.Kill.Width,vl ta3 tk3 t.Kill.Words,vl ta4 tk4 t.Copies]] [S ta1 tk1 t.Gen.Words,S ta3 tk3 t.Kill.Words,S ta4 tk4 t.Copies] (fun g:Value×Value×Value=>Qaa rr.1.Gen.Width/\Qaa rr.1.Kill.Width/\Qaa rr.2) (fun g=>.tuple #[.agg #[vi rr.1.Gen.Width,g.1,vi rr.1.Kill.Width,g.2.1,g.2.2],vi rr.2]) (fun g=>[sl g.1 rr.1.Gen.Words,sl g.2.1 rr.1.Kill.Words,sl g.2.2 rr.1.Copies]):=by
 refine FTi Tryz.func133 fun w0 M0 F0=>?_
 unfold Qaa at QkH QkI
 refine Fb 8 0 fun _=>Fb 8 1 fun _=>Fb 16 2 fun _=>?_
 have hx0:=lrn rr; have H:=hrr; unfold Qlo at H
 refine KS ?_
 refine Oa (Ab [vi t.Gen.Width,vl ta1 tk1 t.Gen.Words,vi t.Kill.Width,vl ta3 tk3 t.Kill.Words,vl ta4 tk4 t.Copies]) fun p4=>Oa (Al QpZ [vi 0,.slice none 0 0,vi 0,.slice none 0 0,.slice none 0 0]) fun p5=>Oq Va (KS ?_)
 refine Oq (Qar Qdm 1) ?_
 refine lvH H fun rv6 hg7 H=>?_
 have hc8:=Qvv t ta1 tk1 ta3 tk3 ta4 tk4 pre pre rv6 hg7
 refine Oc [2,3,4] Qvw hc8 ?_
 rintro - -
 refine Oq QcN (KS ?_)
 refine pF H hx0 fun h9 H=>?_
 refine KcF h9 ?_
 have h11:=not_false h9
 refine KS ?_
 refine Oq (Qar Qdm 1) ?_
 refine lbH H hx0 fun rv15 hg16 H=>?_
 have hc17:=Qyr t ta1 tk1 ta3 tk3 ta4 tk4 pre pre rv15 hg16
 refine Oc [2,3,4] QxU hc17 ?_
 rintro ⟨c13,c14⟩ he18
 unfold Qaa at he18
 refine Jo 0 ?_; rintro a19 k20 rfl
 refine Fb 8 0 fun _=>?_
 refine Jo 1 ?_; rintro a22 k23 rfl
 refine Fb 32 1 fun _=>?_
 refine lbH H hx0 fun rv28 hg29 H=>?_
 have hc30:=Qye rv15 a19 k20 a22 k23 pre rv28 hg29
 refine Oc [0,1] QxX hc30 ?_
 rintro ⟨c25,c26,c27⟩ ⟨he31,he32⟩
 unfold Qaa at he31 he32
 refine Jo 0 ?_; rintro a33 k34 rfl
 refine Fb 8 0 fun _=>?_
 refine Jo 1 ?_; rintro a36 k37 rfl
 refine Fb 8 1 fun _=>?_
 refine Jo 2 ?_; rintro a39 k40 rfl
 refine Fb 16 2 fun _=>?_
 refine Oq Vm (Oq Vx (Oq Vx (Oa (Al QpZ [vi 0,.slice none 0 0,vi 0,.slice none 0 0,.slice none 0 0]) fun p42=>Ost (Scl [0] Qdm [vi rv28.1.Gen.Width,vl a33 k34 rv28.1.Gen.Words,vi rv28.1.Kill.Width,vl a36 k37 rv28.1.Kill.Words,vl a39 k40 rv28.1.Copies]) (Oq Va (KS ?_)))))
 refine Oq (Qar Qdm 0) (Ost (Scl [6] Qdm [vi rv28.1.Gen.Width,vl a33 k34 rv28.1.Gen.Words,vi rv28.1.Kill.Width,vl a36 k37 rv28.1.Kill.Words,vl a39 k40 rv28.1.Copies]) (Oq Va (KS ?_)))
 have hq:=rI H; subst hq
 exact Kr (vl a33 k34 rv28.1.Gen.Words,vl a36 k37 rv28.1.Kill.Words,vl a39 k40 rv28.1.Copies) rfl (.cellN 0 rfl Qdm rfl (Qak _ _) rfl (.tmp rfl .nil)) [2,3,4] en
theorem QzI (l:List QfM) (la0:Option Addr) (lk0:Nat) (v:Int) (QqD:Qaa v) (rr:Qaf) (hrr:QnM l v=.ret rr):FT Tryz.prog 134 #[vl la0 lk0 l,vi v] [S la0 lk0 l] (fun g:Value=>Qaa rr.Width) (fun g=>.agg #[vi rr.Width,g]) (fun g=>[sl g rr.Words]):=by
 refine FTi Tryz.func134 fun w0 M0 F0=>?_
 unfold Qaa at QqD
 refine Fb 16 0 fun _=>?_
 have hx0:=lrn rr; have H:=hrr; unfold QnM at H
 refine KS ?_
 refine Oa (Al Qhj [vi 0,.slice none 0 0]) fun p2=>KS ?_
 refine Oq Vm (Oq (Qbc Qkq) ?_)
 refine pC H hx0 fun hc3 H=>?_
 refine lvH H fun rv5 hg6 H=>?_
 have hc7:=QpO ((l.length:Int)) pre pre rv5 hg6
 refine Oc [] Qp0 hc7 ?_
 rintro c4 ⟨he8,he9,he10⟩
 unfold Qaa at he8
 refine Jo 0 ?_; rintro a11 k12 rfl
 refine Fb 8 0 fun _=>?_
 refine Oa (Al Qhj [vi 0,.slice none 0 0]) fun p14=>Ost (Scl [0] Qaw [vi rv5.Width,vl a11 k12 rv5.Words]) (KS ?_)
 refine Oq Va (KS ?_)
 refine llH H hx0 fun X27 hX28 hx29 HL30=>?_
 refine Kl (γ:=Nat×Int×List (BitVec 64)×Int×Option Addr×Nat) (fun (r15,Qn7,Qpz,Qi2,a19,k20)=>⟨[(0,vl la0 lk0 l),(1,vi v),(4,p2),(5,p14),(6,vi Qi2)],[O a19 k20 Qpz,Cl p14 [vi Qn7,vl a19 k20 Qpz],Cl p2 [vi 0,.slice none 0 0],S la0 lk0 l],QgA l v r15 Qn7 Qpz Qi2=X27/\r15=((l.length:Int) - Qi2).toNat/\(0:Int)<=Qi2/\Qi2<=(l.length:Int)/\(-9223372036854775808<=Qn7/\Qn7<=9223372036854775807)/\(-9223372036854775808<=Qi2/\Qi2<=9223372036854775807),r15⟩) (((l.length:Int) - 0).toNat,rv5.Width,rv5.Words,0,a11,k12) [1,0,0,0] ⟨hX28,rfl,aM1,aM1,aM1,aM1⟩ ?_
 rintro ⟨r15,Qn7,Qpz,Qi2,a19,k20⟩ ⟨hM21,hr22,hi23,hi24,hk25,hk26⟩
 refine QaE fun _ _ hL hA=>?_; dsimp only at hL hA; subst hL hA
 refine Fb 8 0 fun _=>Fb 16 3 fun _=>KS ?_
 refine Oq Vm (Oq Vm (Oq (Qbc Qkq) (Oq Qbo (KS ?_))))
 refine Kc ?_ ?_
 ·intro h33
  have g34:=dt h33
  obtain ⟨r35,rfl⟩:=scc (n:=r15) aM1
  have H:=hM21; (try dsimp only at H); rw [QgA] at H
  refine KS ?_
  refine Oq Vm (Oq Vm ?_)
  refine pC H hx29 fun hc36 H=>?_
  refine Oq (Vi Qkq 3) ?_
  refine QjW Qi2.toNat 3 rfl rng fun hb37 hb38=>?_
  unfold Qaa at hb37 hb38
  refine Oq (Vfa Qu6 0) (Oq (Qai sh3 0) (Oq Vm (Oq Qcb (KS ?_))))
  refine pC H hx29 fun hc40 H=>?_
  refine pT H hx29 fun h39 H=>?_
  refine KcT h39 ?_
  have g41:=eq_of_beq h39
  refine KS ?_
  refine Oq (Qar Qaw 2) (Oq Vm ?_)
  refine pC H hx29 fun hc42 H=>?_
  refine pC H hx29 fun hc43 H=>?_
  refine lvH H fun rv45 hg46 H=>?_
  refine Oc [1] QqG (Qdp (A:=_) hlx (Qe7 (Ent.take (is:=[0]) rfl) (QqH ((Qaf.mk Qn7 Qpz)) a19 k20 Qi2 pre pre pre pre rv45 hg46))) ?_ (ht:=rfl)
  rintro c44 ⟨he47,he48,he49⟩
  unfold Qaa at he47
  have he48:(rv45.Width=Qn7):=he48
  have he49:(rv45.Words.length=((Qn7+63) / 64).toNat):=he49
  refine Jo 1 ?_; rintro a50 k51 rfl
  refine Fb 8 1 fun _=>?_
  refine Ost (Scl [3] Qaw [vi rv45.Width,vl a50 k51 rv45.Words]) (KS ?_)
  refine Oq Vm (Oq QaS (Oq Va (KS ?_)))
  refine pC H hx29 fun hc53 H=>?_
  exact Kg (r35,rv45.Width,rv45.Words,(Qi2+1),a50,k51) [2,0,2,2] ⟨H,aM1,aM1,aM1,aM1,aM1⟩
 intro h33
 have g54:=df h33
 obtain rfl:r15=0:=by omega
 have H:=hM21; (try dsimp only at H); rw [QgA] at H
 refine Ke ?_
 have H:=llB H HL30
 dsimp only at H
 refine KS ?_
 refine Oq (Qar Qaw 1) (Ost (Scl [2] Qaw [vi Qn7,vl a19 k20 Qpz]) (KS ?_))
 refine Jl [1] (Ent.freeze _ _) ?_
 have hq:=rI H; subst hq
 exact Kr (vl a19 k20 Qpz) rfl (.cellN 1 rfl Qaw rfl (Qak _ _) rfl .nil) [0] en
theorem QAj (p:Qaz) (pa0:Option Addr) (pk0:Nat) (kind:Int) (l:List QfM) (la0:Option Addr) (lk0:Nat) (node:Int) (s:QdB) (sa2:Option Addr) (sk2:Nat) (sa3:Option Addr) (sk3:Nat) (Qme:Qaa kind) (Qvs:Qaa node) (QcL:Qaa s.Op) (QzO:s.Def.b.length<=140737488355328) (rr:Qad) (hrr:QgX p kind l node s=.ret rr):FT Tryz.prog 92 #[.agg #[vl pa0 pk0 p.Funcs],vi kind,vl la0 lk0 l,vi node,.agg #[vi s.Op,.string (bs s.Def),vl sa2 sk2 s.Uses,vl sa3 sk3 s.Targets]] [S pa0 pk0 p.Funcs,S la0 lk0 l,S sa2 sk2 s.Uses,S sa3 sk3 s.Targets] (fun g:Value×Value×Value=>Qaa rr.Gen.Width/\Qaa rr.Kill.Width) (fun g=>.agg #[vi rr.Gen.Width,g.1,vi rr.Kill.Width,g.2.1,g.2.2]) (fun g=>[sl g.1 rr.Gen.Words,sl g.2.1 rr.Kill.Words,sl g.2.2 rr.Copies]):=by
 refine FTi Tryz.func92 fun w0 M0 F0=>?_
 unfold Qaa at Qme Qvs QcL
 refine Fb 40 0 fun _=>Fb 16 1 fun _=>Fb 16 2 fun _=>?_
 refine FoS 2 fun ho4=>?_
 refine Fb 16 3 fun _=>?_
 refine FoS 3 fun ho6=>?_
 have hx0:=lrn rr; have H:=hrr; unfold QgX at H
 refine KS ?_
 refine Oa (Ab [vl pa0 pk0 p.Funcs]) fun p7=>Oa (Ab [vi s.Op,.string (bs s.Def),vl sa2 sk2 s.Uses,vl sa3 sk3 s.Targets]) fun p8=>Oa (Al QpZ [vi 0,.slice none 0 0,vi 0,.slice none 0 0,.slice none 0 0]) fun p9=>KS ?_
 refine Oq Vm (Oq (Qbc Qkq) ?_)
 refine lbH H hx0 fun rv13 hg14 H=>?_
 have hc15:=Qyk ((l.length:Int)) pre rv13 hg14
 refine Oc [] QzG hc15 ?_
 rintro ⟨c10,c11,c12⟩ ⟨he16,he17⟩
 unfold Qaa at he16 he17
 refine Jo 0 ?_; rintro a18 k19 rfl
 refine Fb 8 0 fun _=>?_
 refine Jo 1 ?_; rintro a21 k22 rfl
 refine Fb 8 1 fun _=>?_
 refine Jo 2 ?_; rintro a24 k25 rfl
 refine Fb 16 2 fun _=>?_
 refine Oa (Al QpZ [vi 0,.slice none 0 0,vi 0,.slice none 0 0,.slice none 0 0]) fun p27=>Ost (Scl [0] Qdm [vi rv13.Gen.Width,vl a18 k19 rv13.Gen.Words,vi rv13.Kill.Width,vl a21 k22 rv13.Kill.Words,vl a24 k25 rv13.Copies]) (KS ?_)
 refine Oq (Qar Qkj 6) ?_
 refine lbH H hx0 fun rv29 hg30 H=>?_
 have hc31:=Qum p pa0 pk0 rv29 hg30
 refine Oc [7] Qul hc31 ?_
 rintro c28 -
 refine Jo 0 ?_; rintro a32 k33 rfl
 refine Fb 16 0 fun _=>?_
 refine FoS 0 fun ho35=>?_
 refine Oq Va (KS ?_)
 refine Oq Vm (Oq Qcb (KS ?_))
 refine pF H hx0 fun h36 H=>?_
 refine KcF h36 ?_
 have g37:=ne_of_beq_false h36
 refine KS ?_
 refine Oq (Qar Qek 6) ?_
 refine lbH H hx0 fun rv38 hg39 H=>?_
 have hc40:=Qw7 s sa2 sk2 sa3 sk3 pre pre rv38 hg39
 refine Oc [10,11] Qw8 hc40 ?_
 rintro - -
 refine Oq QcN (KS ?_)
 refine KcH H ?_ ?_
 ·intro h41 H
  have h43:=not_true h41
  refine KS ?_
  refine Oq (Qar Qdm 1) ?_
  refine Jl [4] (Ent.freeze _ _) ?_
  refine lbH H hx0 fun rv48 hg49 H=>?_
  have hc50:=Qw6 rv13 a18 k19 a21 k22 a24 k25 pre pre rv48 hg49
  refine Oc [3,4,0] Qxk hc50 ?_
  rintro ⟨c45,c46,c47⟩ ⟨he51,he52,he53⟩
  unfold Qaa at he51 he52 he53
  refine Jo 0 ?_; rintro a54 k55 rfl
  refine Fb 8 0 fun _=>?_
  refine Jo 1 ?_; rintro a57 k58 rfl
  refine Fb 8 1 fun _=>?_
  refine Jo 2 ?_; rintro a60 k61 rfl
  refine Fb 16 2 fun _=>?_
  refine Oq Vm (Oq Vx (Oq Vx (Oa (Al QpZ [vi 0,.slice none 0 0,vi 0,.slice none 0 0,.slice none 0 0]) fun p63=>Ost (Scl [0] Qdm [vi rv48.1.Gen.Width,vl a54 k55 rv48.1.Gen.Words,vi rv48.1.Kill.Width,vl a57 k58 rv48.1.Kill.Words,vl a60 k61 rv48.1.Copies]) (Oq Va (KS ?_)))))
  refine Oq (Qar Qdm 0) (Ost (Scl [9] Qdm [vi rv48.1.Gen.Width,vl a54 k55 rv48.1.Gen.Words,vi rv48.1.Kill.Width,vl a57 k58 rv48.1.Kill.Words,vl a60 k61 rv48.1.Copies]) (KS ?_))
  have hq:=rI H; subst hq
  exact Kr (vl a54 k55 rv48.1.Gen.Words,vl a57 k58 rv48.1.Kill.Words,vl a60 k61 rv48.1.Copies) rfl (.cellN 0 rfl Qdm rfl (Qak _ _) rfl .nil) [2,3,4] en
 intro h41 H
 have h65:=not_false h41
 refine KS ?_
 refine Oq Vm (Oq (Vfa QhS 6) (Oq (Qai sh9 6) ?_))
 refine lbH H hx0 fun rv67 hg68 H=>?_
 have hc69:=QrS rv29 a32 k33 s.Def pre rv67 hg68
 refine Oc [0] Qq4 hc69 ?_
 rintro - he70
 unfold Qaa at he70
 refine Oq Va (KS ?_)
 refine Oq Vm (Oq Vm ?_)
 refine lbH H hx0 fun rv72 hg73 H=>?_
 have hc74:=QzI l la0 lk0 rv67 pre rv72 hg73
 refine Oc [9] QyX hc74 ?_
 rintro c71 he75
 unfold Qaa at he75
 refine Jo 0 ?_; rintro a76 k77 rfl
 refine Fb 8 0 fun _=>?_
 refine Oq (Vfa QfD 2) (Ost (Qij [2] Qaw [vi rv13.Gen.Width,vl a18 k19 rv13.Gen.Words,vi rv72.Width,vl a76 k77 rv72.Words,vl a24 k25 rv13.Copies]) (KS ?_))
 refine Oq Vm (Oq Qcb (Oq Va (KS ?_)))
 refine pT H hx0 fun h79 H=>?_
 refine KcT h79 ?_
 have g80:=eq_of_beq h79
 refine KS ?_
 refine Oq Va (KS ?_)
 refine llH H hx0 fun X93 hX94 hx95 HL96=>?_
 refine Kl (γ:=Nat×Int×List (BitVec 64)×Int×Option Addr×Nat) (fun (r81,QmG,QpA,Qsn,a85,k86)=>⟨[(2,vl la0 lk0 l),(3,vi node),(10,p9),(11,p27),(17,vi Qsn)],[S a85 k86 QpA,Cl p27 [vi QmG,vl a85 k86 QpA,vi rv72.Width,vl a76 k77 rv72.Words,vl a24 k25 rv13.Copies],S a76 k77 rv72.Words,O a24 k25 rv13.Copies,Cl p9 [vi 0,.slice none 0 0,vi 0,.slice none 0 0,.slice none 0 0],S la0 lk0 l],Qec l node r81 QmG QpA Qsn=X93/\r81=((l.length:Int) - Qsn).toNat/\(0:Int)<=Qsn/\Qsn<=(l.length:Int)/\(-9223372036854775808<=QmG/\QmG<=9223372036854775807)/\(-9223372036854775808<=Qsn/\Qsn<=9223372036854775807),r81⟩) (((l.length:Int) - 0).toNat,rv13.Gen.Width,rv13.Gen.Words,0,a18,k19) [3,0,0,4,4,7] ⟨hX94,rfl,aM1,aM1,aM1,aM1⟩ ?_
 rintro ⟨r81,QmG,QpA,Qsn,a85,k86⟩ ⟨hM87,hr88,hi89,hi90,hk91,hk92⟩
 refine QaE fun _ _ hL hA=>?_; dsimp only at hL hA; subst hL hA
 refine Fb 8 0 fun _=>Fb 8 2 fun _=>Fb 16 3 fun _=>Fb 16 5 fun _=>KS ?_
 refine Oq Vm (Oq Vm (Oq (Qbc Qkq) (Oq Qbo (KS ?_))))
 refine Kc ?_ ?_
 ·intro h101
  have g102:=dt h101
  obtain ⟨r103,rfl⟩:=scc (n:=r81) aM1
  have H:=hM87; (try dsimp only at H); rw [Qec] at H
  refine KS ?_
  refine Oq Vm (Oq Vm ?_)
  refine pC H hx95 fun hc104 H=>?_
  refine Oq (Vi Qkq 5) ?_
  refine QjW Qsn.toNat 5 rfl rng fun hb105 hb106=>?_
  unfold Qaa at hb105 hb106
  refine Oq (Vfa Qu7 0) (Oq (Qai sh3 0) (Oq Vm (Oq Qcb (KS ?_))))
  refine pC H hx95 fun hc108 H=>?_
  refine pT H hx95 fun h107 H=>?_
  refine KcT h107 ?_
  have g109:=eq_of_beq h107
  refine KS ?_
  refine Oq (Vfa Qdx 2) (Oq (Qml Qaw 2 [vi QmG,vl a85 k86 QpA]) (Oq Vm ?_))
  refine pC H hx95 fun hc110 H=>?_
  refine pC H hx95 fun hc111 H=>?_
  refine lvH H fun rv113 hg114 H=>?_
  have hc115:=QqH ((Qaf.mk QmG QpA)) a85 k86 Qsn pre pre pre pre rv113 hg114
  refine Oc [1] QqG hc115 ?_
  rintro c112 ⟨he116,he117,he118⟩
  unfold Qaa at he116
  have he117:(rv113.Width=QmG):=he117
  have he118:(rv113.Words.length=((QmG+63) / 64).toNat):=he118
  refine Jo 0 ?_; rintro a119 k120 rfl
  refine Fb 8 0 fun _=>?_
  refine Oq (Vfa Qdx 3) (Ost (Qij [3] Qaw [vi rv113.Width,vl a119 k120 rv113.Words,vi rv72.Width,vl a76 k77 rv72.Words,vl a24 k25 rv13.Copies]) (KS ?_))
  refine Oq Vm (Oq QaS (Oq Va (KS ?_)))
  refine Jl [1] (Ent.freeze _ _) ?_
  refine pC H hx95 fun hc122 H=>?_
  exact Kg (r103,rv113.Width,rv113.Words,(Qsn+1),a119,k120) [0,1,3,4,4,4] ⟨H,aM1,aM1,aM1,aM1,aM1⟩
 intro h101
 have g123:=df h101
 obtain rfl:r81=0:=by omega
 have H:=hM87; (try dsimp only at H); rw [Qec] at H
 refine Ke ?_
 have H:=llB H HL96
 dsimp only at H
 refine KS ?_
 refine Oq (Qar Qdm 1) ?_
 refine Jl [3] (Ent.freeze _ _) ?_
 refine lbH H hx0 fun rv127 hg128 H=>?_
 have hc129:=Qw6 ((Qad.mk (Qaf.mk QmG QpA) rv72 rv13.Copies)) a85 k86 a76 k77 a24 k25 pre pre rv127 hg128
 refine Oc [1,3,0] Qxk hc129 ?_
 rintro ⟨c124,c125,c126⟩ ⟨he130,he131,he132⟩
 unfold Qaa at he130 he131 he132
 refine Jo 0 ?_; rintro a133 k134 rfl
 refine Fb 8 0 fun _=>?_
 refine Jo 1 ?_; rintro a136 k137 rfl
 refine Fb 8 1 fun _=>?_
 refine Jo 2 ?_; rintro a139 k140 rfl
 refine Fb 16 2 fun _=>?_
 refine Oq Vm (Oq Vx (Oq Vx (Oa (Al QpZ [vi 0,.slice none 0 0,vi 0,.slice none 0 0,.slice none 0 0]) fun p142=>Ost (Scl [0] Qdm [vi rv127.1.Gen.Width,vl a133 k134 rv127.1.Gen.Words,vi rv127.1.Kill.Width,vl a136 k137 rv127.1.Kill.Words,vl a139 k140 rv127.1.Copies]) (Oq Va (KS ?_)))))
 refine Oq (Qar Qdm 0) (Ost (Scl [8] Qdm [vi rv127.1.Gen.Width,vl a133 k134 rv127.1.Gen.Words,vi rv127.1.Kill.Width,vl a136 k137 rv127.1.Kill.Words,vl a139 k140 rv127.1.Copies]) (KS ?_))
 have hq:=rI H; subst hq
 exact Kr (vl a133 k134 rv127.1.Gen.Words,vl a136 k137 rv127.1.Kill.Words,vl a139 k140 rv127.1.Copies) rfl (.cellN 0 rfl Qdm rfl (Qak _ _) rfl .nil) [2,3,4] en
theorem QBk (p:Qaz) (pa0:Option Addr) (pk0:Nat) (kind:Int) (Qme:Qaa kind) (rr:Qab×Int) (hrr:Qq8 p kind=.ret rr):FT Tryz.prog 51 #[.agg #[vl pa0 pk0 p.Funcs],vi kind] [S pa0 pk0 p.Funcs] (fun g:Value×Value×Value=>Qaa rr.1.Width/\Qaa rr.2) (fun g=>.tuple #[.agg #[vi rr.1.Width,g.1,g.2.1,g.2.2],vi rr.2]) (fun g=>[sl g.1 rr.1.Deps,sl g.2.1 rr.1.Transfers,sl g.2.2 rr.1.Boundary]):=by
 refine FTi Tryz.func51 fun w0 M0 F0=>?_
 unfold Qaa at Qme
 refine Fb 40 0 fun _=>?_
 have hx0:=lrn rr; have H:=hrr; unfold Qq8 at H
 refine KS ?_
 refine Oa (Ab [vl pa0 pk0 p.Funcs]) fun p2=>Oa (Al QtF [vi 0,.slice none 0 0,.slice none 0 0,.slice none 0 0]) fun p3=>Oq Va (KS ?_)
 refine Oq (Qar Qkj 1) (Oq Vm ?_)
 refine lbH H hx0 fun rv5 hg6 H=>?_
 have hc7:=QAE p pa0 pk0 kind pre rv5 hg6
 refine Oc [2] QAV hc7 ?_
 rintro c4 he8
 unfold Qaa at he8
 refine Jo 0 ?_; rintro a9 k10 rfl
 refine Fb 16 0 fun _=>?_
 refine Oq Vm (Oq Vx (Oq Vx (Oq Va (Oq Va (KS ?_)))))
 refine Oq Vm (Oq Qf4 (KS ?_))
 refine pF H hx0 fun h12 H=>?_
 refine KcF h12 ?_
 have g13:=Qae h12
 refine KS ?_
 refine Oq (Qar Qkj 2) ?_
 refine lbH H hx0 fun rv17 hg18 H=>?_
 have hc19:=QBD p pa0 pk0 rv17 hg18
 refine Oc [3] QBI hc19 ?_
 rintro ⟨c14,c15,c16⟩ he20
 unfold Qaa at he20
 refine Jo 0 ?_; rintro a21 k22 rfl
 refine Fb 32 0 fun _=>?_
 refine Jo 1 ?_; rintro a24 k25 rfl
 refine Fb 24 1 fun _=>?_
 refine Jo 2 ?_; rintro a27 k28 rfl
 refine Fb 24 2 fun _=>?_
 refine Oq Vm (Oq Vx (Oq Vx (Oa (Al Qux [.slice none 0 0,.slice none 0 0,.slice none 0 0]) fun p30=>Ost (Scl [0] Qr4 [vl a21 k22 rv17.1.Nodes,vl a24 k25 rv17.1.Succ,vl a27 k28 rv17.1.Pred]) (Oq Va (KS ?_)))))
 refine Oq Vm (Oq (Qbc Qkq) (Oq (Vbd QyA [vi (rv5.1.length:Int),.slice none 0 0,.slice none 0 0,.slice none 0 0]) (Oa (Al QtF [vi 0,.slice none 0 0,.slice none 0 0,.slice none 0 0]) fun p31=>Ost (Scl [0] Qeh [vi (rv5.1.length:Int),.slice none 0 0,.slice none 0 0,.slice none 0 0]) (KS ?_))))
 refine Oq Va (KS ?_)
 refine Jl [] (Ent.osNil (α:=(List Int))) ?_
 refine Jl [] (Ent.osNil (α:=Qad)) ?_
 refine Jl [] (Ent.osNil (α:=Qaf)) ?_
 refine llH H hx0 fun X48 hX49 hx50 HL51=>?_
 refine Kl (γ:=Nat×List (List Int)×List Qad×List Qaf×Int×Option Addr×Nat×Option Addr×Nat×Option Addr×Nat) (fun (r32,QgR,QgS,Qf2,QgK,a37,k38,a39,k40,a41,k42)=>⟨[(1,vi kind),(2,p2),(4,p3),(6,vl a9 k10 rv5.1),(8,p30),(10,p31),(11,vi QgK)],[O a41 k42 Qf2,O a39 k40 QgS,O a37 k38 QgR,Cl p31 [vi (rv5.1.length:Int),vl a37 k38 QgR,vl a39 k40 QgS,vl a41 k42 Qf2],Cl p30 [vl a21 k22 rv17.1.Nodes,vl a24 k25 rv17.1.Succ,vl a27 k28 rv17.1.Pred],S a21 k22 rv17.1.Nodes,S a24 k25 rv17.1.Succ,S a27 k28 rv17.1.Pred,S a9 k10 rv5.1,Cl p3 [vi 0,.slice none 0 0,.slice none 0 0,.slice none 0 0],pv p2 [vl pa0 pk0 p.Funcs],S pa0 pk0 p.Funcs],Qhw p kind rv5.1 rv17.1.Nodes rv17.1.Pred r32 QgR QgS Qf2 QgK=X48/\r32=((rv17.1.Nodes.length:Int) - QgK).toNat/\(0:Int)<=QgK/\QgK<=(rv17.1.Nodes.length:Int)/\(-9223372036854775808<=QgK/\QgK<=9223372036854775807),r32⟩) (((rv17.1.Nodes.length:Int) - 0).toNat,[],[],[],0,none,0,none,0,none,0) [0,0,0,0,0,0,1,2,3,4,4,5] ⟨hX49,rfl,aM1,aM1,aM1⟩ ?_
 rintro ⟨r32,QgR,QgS,Qf2,QgK,a37,k38,a39,k40,a41,k42⟩ ⟨hM43,hr44,hi45,hi46,hk47⟩
 refine QaE fun _ _ hL hA=>?_; dsimp only at hL hA; subst hL hA
 refine Fb 32 0 fun _=>Fb 88 1 fun _=>Fb 24 2 fun _=>Fb 32 5 fun _=>Fb 24 6 fun _=>Fb 24 7 fun _=>Fb 16 8 fun _=>Fb 40 11 fun _=>KS ?_
 refine Oq Vm (Oq (Vfa Qpg 4) (Oq (Qai QuR 4) (Oq (Qbc Qgb) (Oq Qbo (KS ?_)))))
 refine Kc ?_ ?_
 ·intro h60
  have g61:=dt h60
  obtain ⟨r62,rfl⟩:=scc (n:=r32) aM1
  have H:=hM43; (try dsimp only at H); rw [Qhw] at H
  refine KS ?_
  refine Oq (Vfa Qph 4) (Oq (Qai QfL 4) (Oq Vm ?_))
  refine pC H hx50 fun hc63 H=>?_
  refine Oq (Vi QeN 7) ?_
  refine Qef QgK.toNat 7 rfl rng fun a64 k65=>?_
  refine Fb 8 1 fun _=>Fo 1 fun ho67=>?_
  refine Oq (Vld Qjs 0) (Oq Va (KS ?_))
  refine Oq Vm (Oq Qcb (KS ?_))
  refine pC H hx50 fun hc69 H=>?_
  refine pF H hx50 fun h68 H=>?_
  refine KcF h68 ?_
  have g70:=ne_of_beq_false h68
  refine KS ?_
  refine Oa (Al Qqx [vi 0,.string (bs (Str.mk [])),.slice none 0 0,.slice none 0 0]) fun p71=>KS ?_
  refine Oq (Vfa Qpg 7) (Oq (Qai QuR 7) (Oq Vm ?_))
  refine pC H hx50 fun hc72 H=>?_
  refine Oq (Vi Qgb 8) ?_
  refine QeU QgK.toNat 8 rfl rng fun hb73 hb74 hb75 hb76=>?_
  unfold Qaa at hb73 hb74 hb75 hb76
  refine Oq (Vfa Qjy 0) (Oq (Qai sh3 0) (Oq Qcb (KS ?_)))
  refine pC H hx50 fun hc78 H=>?_
  refine KcH H ?_ ?_
  ·intro h77 H
   have g79:=eq_of_beq h77
   refine Jp 8 fun hp80=>?_
   refine Qam [0,0,2,0,14,30,63,127,255,255,511] QcF ?_
   refine Dv [15] (Qar Qkj 0) (Dv [0] (Vfa Qpg 0) (Dv [9] (Qai QuR 0) (Dv [] Vm (Dv [10] (Vi Qgb 0) (Dv [1] (Qar Qkr 0) ?_)))))
   refine pC H hx50 fun hc85 H=>?_
   refine lbH H hx50 fun rv83 hg84 H=>?_
   refine Dx [16] [] [3,0,1,2] (fun G=>.tuple #[.agg #[vi rv83.1.Op,.string (bs rv83.1.Def),(G.g 6 0),(G.g 6 1)],vb rv83.2]) [fun G=>SP.fact (Qaa rv83.1.Op/\rv83.1.Def.b.length<=140737488355328),fun G=>sl (G.g 6 0) rv83.1.Uses,fun G=>sl (G.g 6 1) rv83.1.Targets] (fun G=>xC [0] Qz0 (QAk p pa0 pk0 ((rv17.1.Nodes.getD QgK.toNat default)) pre pre pre pre rv83 hg84)) (Dg [] (fun G=>.tuple #[.agg #[vi rv83.1.Op,.string (bs rv83.1.Def),(G.g 6 0),(G.g 6 1)],vb rv83.2]) (fun G=>Vm) (Dg [] (fun G=>.agg #[vi rv83.1.Op,.string (bs rv83.1.Def),(G.g 6 0),(G.g 6 1)]) (fun G=>Vx) (Dv [] Vx (Dx0 [2,18,19] [2] [1,2,0] [fun G=>Cl p71 [vi rv83.1.Op,.string (bs rv83.1.Def),(G.g 6 0),(G.g 6 1)]] (fun G=>x1 1 rfl QjQ fun ho86=>(x1 2 rfl QjQ fun ho87=>(xS (Scl [0] Qek [vi rv83.1.Op,.string (bs rv83.1.Def),(G.g 6 0),(G.g 6 1)] (v:=.agg #[vi rv83.1.Op,.string (bs rv83.1.Def),(G.g 6 0),(G.g 6 1)]) (h1:=show [vi rv83.1.Op,.string (bs rv83.1.Def),(G.g 6 0),(G.g 6 1)].all (·.oneCell')=true from (by simp only [List.all_cons,List.all_nil,ho86,ho87,Bool.and_true,Bool.true_and] <;> rfl)))))) ?_))))
   refine Dn ⟨by kernel_rfl,fun G=>?_⟩
   refine Jw2 [(1,vi kind),(2,p2),(4,p3),(6,vl a9 k10 rv5.1),(8,p30),(10,p31),(11,vi QgK),(12,vl a64 k65 (rv17.1.Pred.getD QgK.toNat [])),(13,p71)] [0,1,3,4,5,6,7,8,9,10,11,12,13,14,15,16] [SP.fact (Qaa rv83.1.Op/\rv83.1.Def.b.length<=140737488355328),sl (G.g 6 0) rv83.1.Uses,sl (G.g 6 1) rv83.1.Targets,Cl p71 [vi rv83.1.Op,.string (bs rv83.1.Def),(G.g 6 0),(G.g 6 1)]] ?_
   generalize G.g 6 0=c81,G.g 6 1=c82
   refine Jf 16 rfl ?_; rintro ⟨he88,he89⟩
   unfold Qaa at he88
   refine Jk [1,2,3,4,4,4,4,4,4,5,6,7,8,8,9,11,12,13] ?_
   refine Jo 15 ?_; rintro a90 k91 rfl
   refine Fb 16 15 fun _=>?_
   refine FoS 15 fun ho93=>?_
   refine Jo 16 ?_; rintro a94 k95 rfl
   refine Fb 16 16 fun _=>?_
   refine FoS 16 fun ho97=>?_
   refine KS ?_
   refine Oq Vm (Oq (Qbc Qkq) ?_)
   refine pC H hx50 fun hc98 H=>?_
   refine lvH H fun rv100 hg101 H=>?_
   have hc102:=QpO ((rv5.1.length:Int)) pre pre rv100 hg101
   refine Oc [] Qp0 hc102 ?_
   rintro c99 ⟨he103,he104,he105⟩
   unfold Qaa at he103
   refine Jo 0 ?_; rintro a106 k107 rfl
   refine Fb 8 0 fun _=>?_
   refine Oa (Al Qhj [vi 0,.slice none 0 0]) fun p109=>Ost (Scl [0] Qaw [vi rv100.Width,vl a106 k107 rv100.Words]) (KS ?_)
   refine Oq Vm (Oq Qcb (Oq Vm ?_))
   refine pF H hx50 fun h110 H=>?_
   refine JsF 74 h110 ?_
   have g111:=ne_of_beq_false h110
   refine Osk (Osk (Oq Vpf (KS ?_)))
   refine Kf (KS ?_)
   refine Jp 8 fun hp112=>?_
   refine Qam [0,1,0,0,12,28,63,127,255] QcF ?_
   refine Dv [0] (Vfa Qbt 0) (Dv [9] (Qai QfL 0) (Dx [] [] [0] (fun G=>(G.g 2 0)) [fun G=>Cr (G.g 2 0) 0 []] (fun G=>xA (As0 QcP)) (Dv [] Vm (Dx [5,21] [21] [1,0] (fun G=>(G.g 4 0)) [fun G=>os (G.g 4 0) ((rv17.1.Pred.getD QgK.toNat []):List Int)] (fun G=>xp [1] rfl (Ent.crNil (α:=Int) _) (xA (Ap0 [0,0] QcP QcP QmX))) (Dx [22] [] [1,0] (fun G=>(G.g 5 0)) [fun G=>Cr (G.g 5 0) 1 [(G.g 4 0)]] (fun G=>x1 0 rfl Qcn fun ho116=>(xA (AsV QeN Qra [(G.g 4 0)] [(G.g 4 0)] (hv:=congrArg (fun a:Array Value=>Nat.beq a.size 1 && true) ((show ∀ v:Value,v.oneCell'=true->v.cells=#[v] from fun v h=>by cases v <;> first | rfl | cases h) _ ho116)) (hc:=congrArg (fun a:Array Value=>a.toList++[]) ((show ∀ v:Value,v.oneCell'=true->v.cells=#[v] from fun v h=>by cases v <;> first | rfl | cases h) _ ho116))))) ?_)))))
   refine pC H hx50 fun hc117 H=>?_
   have hn119:=la QgR ([(rv17.1.Pred.getD QgK.toNat [])]:List (List Int))
   refine Dx [8,22,23] [8,22,23] [1,0] (fun G=>(G.g 6 0)) [fun G=>sl (G.g 4 0) ((rv17.1.Pred.getD QgK.toNat []):List Int),fun G=>os (G.g 6 0) ((QgR++[(rv17.1.Pred.getD QgK.toNat [])]):List (List Int))] (fun G=>xp [1] rfl (Ent.freeze _ _) (xp [2,0] rfl (Ent.cr1 (α:=List Int) (A:=[sl (G.g 4 0) ((rv17.1.Pred.getD QgK.toNat []):List Int)]) _ (rv17.1.Pred.getD QgK.toNat []) _ aB1 (fun h=>⟨_,rfl,Qaj (i:=0) rfl h⟩)) (xA (ApO [3,0] QeN QeN Qra)))) (Dv [0] (Vfa Qbt 0) (Dx0 [9,25] [9] [1,0] [fun G=>Cl p31 [vi (rv5.1.length:Int),(G.g 6 0),vl a39 k40 QgS,vl a41 k42 Qf2]] (fun G=>x1 1 rfl Qcn fun ho120=>(xS (OpS.frame [0] rfl (OpS.storeClF [(G.g 6 0)] [vi (rv5.1.length:Int),(G.g 6 0),vl a39 k40 QgS,vl a41 k42 Qf2] rfl rfl rfl QfL (QaF ho120) rfl (by simp only [List.all_cons,List.all_nil,ho120,Bool.and_true,Bool.true_and] <;> rfl) aB1 rfl)))) ?_))
   refine Dn ⟨by kernel_rfl,fun G=>?_⟩
   refine Jw2 [(1,vi kind),(2,p2),(4,p3),(6,vl a9 k10 rv5.1),(8,p30),(10,p31),(11,vi QgK),(13,p71),(14,p109)] [0,1,2,3,4,5,6,7,10,11,12,13,14,15,16,17,18,19,20] [sl (G.g 4 0) ((rv17.1.Pred.getD QgK.toNat []):List Int),os (G.g 6 0) ((QgR++[(rv17.1.Pred.getD QgK.toNat [])]):List (List Int)),Cl p31 [vi (rv5.1.length:Int),(G.g 6 0),vl a39 k40 QgS,vl a41 k42 Qf2]] ?_
   generalize G.g 4 0=c114,G.g 6 0=c118
   refine Jk [1,1,1,2,3,4,4,4,4,5,6,7,8,8,9,10,11,12,12,13,13] ?_
   refine Jo 18 ?_; rintro a121 k122 rfl
   refine Jo 19 ?_; rintro a123 k124 rfl
   refine Fb 24 19 fun _=>KS ?_
   refine Jp 20 fun hp126=>?_
   refine Qam [0,1,0,0,0,0,0,124,252,511,1023,2047] QcF ?_
   refine Dv [0] (Vfa Qco 0) (Dv [21] (Qai QiS 0) (Dv [14] (Qar Qkj 0) (Dv [] Vm (Dv [] Vm (Dv [] Vm (Dv [18] (Qar Qek 0) ?_))))))
   refine lbH H hx50 fun rv130 hg131 H=>?_
   refine Dx [12,15,16,17] [] [4,5,6,7,0,1,2,3] (fun G=>.agg #[vi rv130.Gen.Width,(G.g 7 0),vi rv130.Kill.Width,(G.g 7 1),(G.g 7 2)]) [fun G=>SP.fact (Qaa rv130.Gen.Width/\Qaa rv130.Kill.Width),fun G=>sl (G.g 7 0) rv130.Gen.Words,fun G=>sl (G.g 7 1) rv130.Kill.Words,fun G=>sl (G.g 7 2) rv130.Copies] (fun G=>xC [1,0,2,3] QAa (QAj p pa0 pk0 kind rv5.1 a9 k10 QgK rv83.1 a90 k91 a94 k95 pre pre pre pre rv130 hg131)) (Dx [] [] [0] (fun G=>(G.g 8 0)) [fun G=>Cr (G.g 8 0) 1 [vi rv130.Gen.Width,(G.g 7 0),vi rv130.Kill.Width,(G.g 7 1),(G.g 7 2)]] (fun G=>xA (AsV Qhi Qsf [.agg #[vi rv130.Gen.Width,(G.g 7 0),vi rv130.Kill.Width,(G.g 7 1),(G.g 7 2)]] [vi rv130.Gen.Width,(G.g 7 0),vi rv130.Kill.Width,(G.g 7 1),(G.g 7 2)])) ?_)
   refine pC H hx50 fun hc133 H=>?_
   have hn135:=la QgS ([rv130]:List Qad)
   refine Dx [7,22,23,24,25,26] [7,26] [4,1,2,3,0] (fun G=>(G.g 9 0)) [fun G=>os (G.g 9 0) ((QgS++[rv130]):List Qad)] (fun G=>by refine xf 1 rfl ?_; rintro ⟨he136,he137⟩; unfold Qaa at he136 he137; exact xp [5,2,3,4] rfl (Ent.cr1 (α:=Qad) (A:=[sl (G.g 7 0) rv130.Gen.Words,sl (G.g 7 1) rv130.Kill.Words,sl (G.g 7 2) rv130.Copies]) _ rv130 _ aB1 (fun h=>⟨_,_,_,rfl,aL1,Qaj (i:=0) rfl h,aL1,Qaj (i:=1) rfl h,Qaj (i:=2) rfl h⟩)) (xA (ApO [4,0] Qhi Qhi Qsf))) (Dv [0] (Vfa Qco 0) (Dx0 [21,27] [21] [1,0] [fun G=>Cl p31 [vi (rv5.1.length:Int),vl a123 k124 (QgR++[(rv17.1.Pred.getD QgK.toNat [])]),(G.g 9 0),vl a41 k42 Qf2]] (fun G=>x1 1 rfl Qcn fun ho138=>(xS (OpS.frame [0] rfl (OpS.storeClF [(G.g 9 0)] [vi (rv5.1.length:Int),vl a123 k124 (QgR++[(rv17.1.Pred.getD QgK.toNat [])]),(G.g 9 0),vl a41 k42 Qf2] rfl rfl rfl QiS (QaF ho138) rfl (by simp only [List.all_cons,List.all_nil,ho138,Bool.and_true,Bool.true_and] <;> rfl) aB1 rfl)))) ?_))
   refine Dn ⟨by kernel_rfl,fun G=>?_⟩
   refine Jw2 [(1,vi kind),(2,p2),(4,p3),(6,vl a9 k10 rv5.1),(8,p30),(10,p31),(11,vi QgK),(14,p109)] [0,1,2,3,4,5,6,8,9,10,11,12,13,14,15,16,17,18,19,20] [SP.fact (Qaa rv130.Gen.Width/\Qaa rv130.Kill.Width),sl (G.g 7 0) rv130.Gen.Words,sl (G.g 7 1) rv130.Kill.Words,sl (G.g 7 2) rv130.Copies,os (G.g 9 0) ((QgS++[rv130]):List Qad),Cl p31 [vi (rv5.1.length:Int),vl a123 k124 (QgR++[(rv17.1.Pred.getD QgK.toNat [])]),(G.g 9 0),vl a41 k42 Qf2]] ?_
   generalize G.g 7 0=c127,G.g 7 1=c128,G.g 7 2=c129,G.g 9 0=c134
   refine Jf 20 rfl ?_; rintro ⟨he139,he140⟩
   unfold Qaa at he139 he140
   refine Jk [1,1,1,2,3,4,4,4,5,6,7,8,8,9,10,11,12,12,13,14,15,16,17,17] ?_
   refine Jo 19 ?_; rintro a141 k142 rfl
   refine Fb 8 19 fun _=>?_
   refine Jo 20 ?_; rintro a144 k145 rfl
   refine Fb 8 20 fun _=>?_
   refine Jo 21 ?_; rintro a147 k148 rfl
   refine Fb 16 21 fun _=>?_
   refine Jo 22 ?_; rintro a150 k151 rfl
   refine Fb 88 22 fun _=>KS ?_
   refine Oq (Vfa Qc8 23) (Oq (Qai Qjc 23) (Oq (Qar Qaw 0) (Oa (AsV Qd2 Qob [.agg #[vi rv100.Width,vl a106 k107 rv100.Words]] [vi rv100.Width,vl a106 k107 rv100.Words]) fun c153=>?_)))
   refine Jo 0 ?_; rintro a154 k155 rfl
   refine Jl [2] (Ent.freeze _ _) ?_
   refine Jl [1,0] (Ent.cr1 (α:=Qaf) (A:=[S a106 k107 rv100.Words]) _ rv100 _ aB1 (fun h=>⟨_,rfl,aL1,Qaj (i:=0) rfl h⟩)) ?_
   refine pC H hx50 fun hc156 H=>?_
   refine Oa (ApO [7,0] Qd2 Qd2 Qob) fun c157=>?_
   refine Jo 0 ?_; rintro a158 k159 rfl
   refine Fb 32 0 fun _=>?_
   have hn161:=la Qf2 ([rv100]:List Qaf)
   refine Oq (Vfa Qc8 24) (Ost (Qij [24] Qjc [vi (rv5.1.length:Int),vl a123 k124 (QgR++[(rv17.1.Pred.getD QgK.toNat [])]),vl a150 k151 (QgS++[rv130]),vl a158 k159 (Qf2++[rv100])]) (KS ?_))
   refine Oq Vm (Oq QaS (Oq Va (KS ?_)))
   refine pC H hx50 fun hc162 H=>?_
   exact Kg (r62,(QgR++[(rv17.1.Pred.getD QgK.toNat [])]),(QgS++[rv130]),(Qf2++[rv100]),(QgK+1),a123,k124,a150,k151,a158,k159) [1,23,19,0,6,6,7,8,9,10,10,11] ⟨H,aM1,aM1,aM1,aM1⟩
  intro h77 H
  have g163:=ne_of_beq_false h77
  refine KS ?_
  refine Oq Vm (Oq (Qbc Qkq) ?_)
  refine pC H hx50 fun hc164 H=>?_
  refine lvH H fun rv166 hg167 H=>?_
  have hc168:=QpO ((rv5.1.length:Int)) pre pre rv166 hg167
  refine Oc [] Qp0 hc168 ?_
  rintro c165 ⟨he169,he170,he171⟩
  unfold Qaa at he169
  refine Jo 0 ?_; rintro a172 k173 rfl
  refine Fb 8 0 fun _=>?_
  refine Oa (Al Qhj [vi 0,.slice none 0 0]) fun p175=>Ost (Scl [0] Qaw [vi rv166.Width,vl a172 k173 rv166.Words]) (KS ?_)
  refine Oq Vm (Oq Qcb (Oq Vm ?_))
  refine pF H hx50 fun h176 H=>?_
  refine JsF 74 h176 ?_
  have g177:=ne_of_beq_false h176
  refine Osk (Osk (Oq Vpf (KS ?_)))
  refine Kf (KS ?_)
  refine Jp 9 fun hp178=>?_
  refine Qam [0,1,0,0,12,28,63,127,255] QcF ?_
  refine Dv [0] (Vfa Qbt 0) (Dv [10] (Qai QfL 0) (Dx [] [] [0] (fun G=>(G.g 2 0)) [fun G=>Cr (G.g 2 0) 0 []] (fun G=>xA (As0 QcP)) (Dv [] Vm (Dx [6,19] [19] [1,0] (fun G=>(G.g 4 0)) [fun G=>os (G.g 4 0) ((rv17.1.Pred.getD QgK.toNat []):List Int)] (fun G=>xp [1] rfl (Ent.crNil (α:=Int) _) (xA (Ap0 [0,0] QcP QcP QmX))) (Dx [20] [] [1,0] (fun G=>(G.g 5 0)) [fun G=>Cr (G.g 5 0) 1 [(G.g 4 0)]] (fun G=>x1 0 rfl Qcn fun ho182=>(xA (AsV QeN Qra [(G.g 4 0)] [(G.g 4 0)] (hv:=congrArg (fun a:Array Value=>Nat.beq a.size 1 && true) ((show ∀ v:Value,v.oneCell'=true->v.cells=#[v] from fun v h=>by cases v <;> first | rfl | cases h) _ ho182)) (hc:=congrArg (fun a:Array Value=>a.toList++[]) ((show ∀ v:Value,v.oneCell'=true->v.cells=#[v] from fun v h=>by cases v <;> first | rfl | cases h) _ ho182))))) ?_)))))
  refine pC H hx50 fun hc183 H=>?_
  have hn185:=la QgR ([(rv17.1.Pred.getD QgK.toNat [])]:List (List Int))
  refine Dx [9,20,21] [9,20,21] [1,0] (fun G=>(G.g 6 0)) [fun G=>sl (G.g 4 0) ((rv17.1.Pred.getD QgK.toNat []):List Int),fun G=>os (G.g 6 0) ((QgR++[(rv17.1.Pred.getD QgK.toNat [])]):List (List Int))] (fun G=>xp [1] rfl (Ent.freeze _ _) (xp [2,0] rfl (Ent.cr1 (α:=List Int) (A:=[sl (G.g 4 0) ((rv17.1.Pred.getD QgK.toNat []):List Int)]) _ (rv17.1.Pred.getD QgK.toNat []) _ aB1 (fun h=>⟨_,rfl,Qaj (i:=0) rfl h⟩)) (xA (ApO [3,0] QeN QeN Qra)))) (Dv [0] (Vfa Qbt 0) (Dx0 [10,23] [10] [1,0] [fun G=>Cl p31 [vi (rv5.1.length:Int),(G.g 6 0),vl a39 k40 QgS,vl a41 k42 Qf2]] (fun G=>x1 1 rfl Qcn fun ho186=>(xS (OpS.frame [0] rfl (OpS.storeClF [(G.g 6 0)] [vi (rv5.1.length:Int),(G.g 6 0),vl a39 k40 QgS,vl a41 k42 Qf2] rfl rfl rfl QfL (QaF ho186) rfl (by simp only [List.all_cons,List.all_nil,ho186,Bool.and_true,Bool.true_and] <;> rfl) aB1 rfl)))) ?_))
  refine Dn ⟨by kernel_rfl,fun G=>?_⟩
  refine Jw2 [(1,vi kind),(2,p2),(4,p3),(6,vl a9 k10 rv5.1),(8,p30),(10,p31),(11,vi QgK),(13,p71),(14,p175)] [0,1,2,3,4,5,6,7,8,11,12,13,14,15,16,17,18] [sl (G.g 4 0) ((rv17.1.Pred.getD QgK.toNat []):List Int),os (G.g 6 0) ((QgR++[(rv17.1.Pred.getD QgK.toNat [])]):List (List Int)),Cl p31 [vi (rv5.1.length:Int),(G.g 6 0),vl a39 k40 QgS,vl a41 k42 Qf2]] ?_
  generalize G.g 4 0=c180,G.g 6 0=c184
  refine Jk [1,1,1,2,2,3,4,4,4,4,5,6,7,8,8,9,10,11,11] ?_
  refine Jo 16 ?_; rintro a187 k188 rfl
  refine Jo 17 ?_; rintro a189 k190 rfl
  refine Fb 24 17 fun _=>KS ?_
  refine Jp 18 fun hp192=>?_
  refine Qam [0,1,0,0,0,0,0,124,252,511,1023,2047] QcF ?_
  refine Dv [0] (Vfa Qco 0) (Dv [19] (Qai QiS 0) (Dv [15] (Qar Qkj 0) (Dv [] Vm (Dv [] Vm (Dv [] Vm (Dv [4] (Qar Qek 0) ?_))))))
  refine lbH H hx50 fun rv196 hg197 H=>?_
  refine Dx [13,16] [] [5,6,4,0,1,2,3] (fun G=>.agg #[vi rv196.Gen.Width,(G.g 7 0),vi rv196.Kill.Width,(G.g 7 1),(G.g 7 2)]) [fun G=>sl (.slice none 0 0) ([]:List Str),fun G=>SP.fact (Qaa rv196.Gen.Width/\Qaa rv196.Kill.Width),fun G=>sl (G.g 7 0) rv196.Gen.Words,fun G=>sl (G.g 7 1) rv196.Kill.Words,fun G=>sl (G.g 7 2) rv196.Copies] (fun G=>xp [] rfl (Ent.slNil (α:=Str)) (xC [2,1,0,0] QAa (QAj p pa0 pk0 kind rv5.1 a9 k10 QgK ((QdB.mk 0 (Str.mk []) [] [])) none 0 none 0 pre pre pre pre rv196 hg197))) (Dx [] [] [0] (fun G=>(G.g 8 0)) [fun G=>Cr (G.g 8 0) 1 [vi rv196.Gen.Width,(G.g 7 0),vi rv196.Kill.Width,(G.g 7 1),(G.g 7 2)]] (fun G=>xA (AsV Qhi Qsf [.agg #[vi rv196.Gen.Width,(G.g 7 0),vi rv196.Kill.Width,(G.g 7 1),(G.g 7 2)]] [vi rv196.Gen.Width,(G.g 7 0),vi rv196.Kill.Width,(G.g 7 1),(G.g 7 2)])) ?_)
  refine pC H hx50 fun hc199 H=>?_
  have hn201:=la QgS ([rv196]:List Qad)
  refine Dx [8,21,22,23,24,25] [8,25] [4,1,2,3,0] (fun G=>(G.g 9 0)) [fun G=>os (G.g 9 0) ((QgS++[rv196]):List Qad)] (fun G=>by refine xf 1 rfl ?_; rintro ⟨he202,he203⟩; unfold Qaa at he202 he203; exact xp [5,2,3,4] rfl (Ent.cr1 (α:=Qad) (A:=[sl (G.g 7 0) rv196.Gen.Words,sl (G.g 7 1) rv196.Kill.Words,sl (G.g 7 2) rv196.Copies]) _ rv196 _ aB1 (fun h=>⟨_,_,_,rfl,aL1,Qaj (i:=0) rfl h,aL1,Qaj (i:=1) rfl h,Qaj (i:=2) rfl h⟩)) (xA (ApO [4,0] Qhi Qhi Qsf))) (Dv [0] (Vfa Qco 0) (Dx0 [19,26] [19] [1,0] [fun G=>Cl p31 [vi (rv5.1.length:Int),vl a189 k190 (QgR++[(rv17.1.Pred.getD QgK.toNat [])]),(G.g 9 0),vl a41 k42 Qf2]] (fun G=>x1 1 rfl Qcn fun ho204=>(xS (OpS.frame [0] rfl (OpS.storeClF [(G.g 9 0)] [vi (rv5.1.length:Int),vl a189 k190 (QgR++[(rv17.1.Pred.getD QgK.toNat [])]),(G.g 9 0),vl a41 k42 Qf2] rfl rfl rfl QiS (QaF ho204) rfl (by simp only [List.all_cons,List.all_nil,ho204,Bool.and_true,Bool.true_and] <;> rfl) aB1 rfl)))) ?_))
  refine Dn ⟨by kernel_rfl,fun G=>?_⟩
  refine Jw2 [(1,vi kind),(2,p2),(4,p3),(6,vl a9 k10 rv5.1),(8,p30),(10,p31),(11,vi QgK),(14,p175)] [0,1,2,3,4,5,6,7,9,10,11,12,13,14,15,16,17,18] [sl (.slice none 0 0) ([]:List Str),SP.fact (Qaa rv196.Gen.Width/\Qaa rv196.Kill.Width),sl (G.g 7 0) rv196.Gen.Words,sl (G.g 7 1) rv196.Kill.Words,sl (G.g 7 2) rv196.Copies,os (G.g 9 0) ((QgS++[rv196]):List Qad),Cl p31 [vi (rv5.1.length:Int),vl a189 k190 (QgR++[(rv17.1.Pred.getD QgK.toNat [])]),(G.g 9 0),vl a41 k42 Qf2]] ?_
  generalize G.g 7 0=c193,G.g 7 1=c194,G.g 7 2=c195,G.g 9 0=c200
  refine Jf 19 rfl ?_; rintro ⟨he205,he206⟩
  unfold Qaa at he205 he206
  refine Jk [1,1,1,2,2,3,4,4,4,5,6,7,8,8,9,10,11,11,13,14,15,16,16] ?_
  refine Jo 18 ?_; rintro a207 k208 rfl
  refine Fb 8 18 fun _=>?_
  refine Jo 19 ?_; rintro a210 k211 rfl
  refine Fb 8 19 fun _=>?_
  refine Jo 20 ?_; rintro a213 k214 rfl
  refine Fb 16 20 fun _=>?_
  refine Jo 21 ?_; rintro a216 k217 rfl
  refine Fb 88 21 fun _=>KS ?_
  refine Oq (Vfa Qc8 22) (Oq (Qai Qjc 22) (Oq (Qar Qaw 0) (Oa (AsV Qd2 Qob [.agg #[vi rv166.Width,vl a172 k173 rv166.Words]] [vi rv166.Width,vl a172 k173 rv166.Words]) fun c219=>?_)))
  refine Jo 0 ?_; rintro a220 k221 rfl
  refine Jl [2] (Ent.freeze _ _) ?_
  refine Jl [1,0] (Ent.cr1 (α:=Qaf) (A:=[S a172 k173 rv166.Words]) _ rv166 _ aB1 (fun h=>⟨_,rfl,aL1,Qaj (i:=0) rfl h⟩)) ?_
  refine pC H hx50 fun hc222 H=>?_
  refine Oa (ApO [8,0] Qd2 Qd2 Qob) fun c223=>?_
  refine Jo 0 ?_; rintro a224 k225 rfl
  refine Fb 32 0 fun _=>?_
  have hn227:=la Qf2 ([rv166]:List Qaf)
  refine Oq (Vfa Qc8 23) (Ost (Qij [23] Qjc [vi (rv5.1.length:Int),vl a189 k190 (QgR++[(rv17.1.Pred.getD QgK.toNat [])]),vl a216 k217 (QgS++[rv196]),vl a224 k225 (Qf2++[rv166])]) (KS ?_))
  refine Oq Vm (Oq QaS (Oq Va (KS ?_)))
  refine pC H hx50 fun hc228 H=>?_
  exact Kg (r62,(QgR++[(rv17.1.Pred.getD QgK.toNat [])]),(QgS++[rv196]),(Qf2++[rv166]),(QgK+1),a189,k190,a216,k217,a224,k225) [1,22,17,0,7,7,8,9,10,11,11,12] ⟨H,aM1,aM1,aM1,aM1⟩
 intro h60
 have g229:=df h60
 obtain rfl:r32=0:=by omega
 have H:=hM43; (try dsimp only at H); rw [Qhw] at H
 refine Ke ?_
 have H:=llB H HL51
 dsimp only at H
 refine KS ?_
 refine Oq (Qar Qeh 3) (Ost (Scl [9] Qeh [vi (rv5.1.length:Int),vl a37 k38 QgR,vl a39 k40 QgS,vl a41 k42 Qf2]) (Oq Va (KS ?_)))
 refine Jl [3] (Ent.freeze _ _) ?_
 refine Jl [3] (Ent.freeze _ _) ?_
 refine Jl [3] (Ent.freeze _ _) ?_
 have hq:=rI H; subst hq
 exact Kr (vl a37 k38 QgR,vl a39 k40 QgS,vl a41 k42 Qf2) rfl (.cellN 3 rfl Qeh rfl (Qak _ _) rfl (.tmp rfl .nil)) [2,1,0] en
theorem Qz9 (a:List Qag) (aa0:Option Addr) (ak0:Nat) (b:List Qag) (ba0:Option Addr) (bk0:Nat) (rr:Bool) (hrr:Qda a b=rr):FT Tryz.prog 52 #[vl aa0 ak0 a,vl ba0 bk0 b] [S aa0 ak0 a,S ba0 bk0 b] (fun g:Unit=>True) (fun g=>vb rr) (fun g=>[]):=by
 refine FTi Tryz.func52 fun w0 M0 F0=>Fb 16 0 fun _=>Fb 16 1 fun _=>?_
 refine KS ?_
 refine Oq Va (KS ?_)
 refine Oq Vm (Oq (Qbc Qea) (Oq Vm (Oq (Qbc Qea) (Oq Qf4 (KS ?_)))))
 refine Kc ?_ ?_
 ·intro h3
  have g4:=Qax h3
  refine KS ?_
  refine Oq Va (KS ?_)
  have hq:=q4 hrr false (by simp only [Qda,h3,cs4]); subst hq
  exact Kr () rfl (.tmp rfl .nil) [] trivial
 intro h3
 have g5:=Qae h3
 refine KS ?_
 refine Oq Va (KS ?_)
 refine Kl (γ:=Nat×Int) (fun (r6,i_7)=>⟨[(0,vl aa0 ak0 a),(1,vl ba0 bk0 b),(5,vi i_7)],[S aa0 ak0 a,S ba0 bk0 b],QbQ a b r6 i_7=QbQ a b (((a.length:Int) - 0).toNat) 0/\r6=((a.length:Int) - i_7).toNat/\(0:Int)<=i_7/\i_7<=(a.length:Int)/\(-9223372036854775808<=i_7/\i_7<=9223372036854775807),r6⟩) (((a.length:Int) - 0).toNat,0) [0,1] ⟨rfl,rfl,aM1,aM1,aM1⟩ ?_
 rintro ⟨r6,i_7⟩ ⟨hM8,hr9,hi10,hi11,hk12⟩
 refine QaE fun _ _ hL hA=>?_; dsimp only at hL hA; subst hL hA
 refine Fb 16 0 fun _=>Fb 16 1 fun _=>KS ?_
 refine Oq Vm (Oq Vm (Oq (Qbc Qea) (Oq Qbo (KS ?_))))
 refine Kc ?_ ?_
 ·intro h15
  have g16:=dt h15
  obtain ⟨r17,rfl⟩:=scc (n:=r6) aM1
  refine KS ?_
  refine Qci i_7.toNat 0 rfl rng fun hb18 hb19=>?_
  unfold Qaa at hb18 hb19
  refine Qci i_7.toNat 2 rfl rng fun hb20 hb21=>?_
  unfold Qaa at hb20 hb21
  refine Kq [0,0,3,7,0,0,48,112,255] QcF ?_
  refine Qv [] Vm (Qv [] Vm (Qv [2] (Vi Qea 0) (Qv [1] (Qar Qe4 0) (Qv [] Vm (Qv [] Vm (Qv [3] (Vi Qea 0) (Qv [0] (Qar Qe4 0) (Qv [] (QAh Qws (l:=[(a.getD i_7.toNat default).Node,(a.getD i_7.toNat default).Bit]) (m:=[(b.getD i_7.toNat default).Node,(b.getD i_7.toNat default).Bit])) ?_))))))))
  refine Qn ⟨by kernel_rfl,?_⟩
  refine Kc ?_ ?_
  ·intro h22
   have g23:=Qax h22
   refine KS ?_
   refine Oq Va (KS ?_)
   have hR24:=q2 hM8 (.ret false) (by simp only [QbQ,h15,h22,cs4])
   have hq:=q4 hrr false (by simp only [Qda,h3,h15,h22,hR24,cs4]); subst hq
   exact Kr () rfl (.tmp rfl .nil) [] trivial
  intro h22
  have g25:=Qae h22
  refine KS ?_
  refine Oq Vm (Oq QaS (Oq Va (KS ?_)))
  exact Kg (r17,(i_7+1)) [2,3] ⟨(q3 hM8 (by simp only [QbQ,h15,h22,cs4])),aM1,aM1,aM1,aM1⟩
 intro h15
 have g26:=df h15
 obtain rfl:r6=0:=by omega
 refine Ke ?_
 have hR27:=q2 hM8 (.brk ()) (by simp only [QbQ,h15,cs4])
 refine KS ?_
 refine Oq Va (KS ?_)
 have hq:=q4 hrr true (by simp only [Qda,h3,h15,hR27,cs4]); subst hq
 exact Kr () rfl (.tmp rfl .nil) [] trivial
theorem Qys  (rr:Bool) (hrr:QlE=.ret rr):FT Tryz.prog 20 #[] [] (fun g:Unit=>True) (fun g=>vb rr) (fun g=>[]):=by
 refine FTi Tryz.func20 fun w0 M0 F0=>?_
 have hx0:=lrn rr; have H:=hrr; unfold QlE at H
 refine KS ?_
 refine Oq Va (KS ?_)
 refine lbH H hx0 fun rv2 hg3 H=>?_
 have hc4:=QBN ((Str.mk [102,117,110,99,32,109,59,32,98,108,111,99,107,32,98,59,32,120,32,61,32,121,59,32,117,115,101,32,120,59,32,114,101,116,117,114,110,59,32,101,110,100])) pre rv2 hg3
 refine Oc [] QAM hc4 ?_
 rintro c1 ⟨he5,he6,he7⟩
 unfold Qaa at he5 he6 he7
 refine Jo 0 ?_; rintro a8 k9 rfl
 refine Fb 40 0 fun _=>?_
 refine Oq Vm (Oq Vx (Oq Vx (Oq Vx (Oq Vx (Oa (Al QyE [.slice none 0 0]) fun p11=>Ost (Scl [0] Qkj [vl a8 k9 rv2.1.Funcs]) (Oq Va (Oq Va (Oq Va ?_))))))))
 refine KS ?_
 refine Oq (Qar Qkj 0) ?_
 refine lbH H hx0 fun rv15 hg16 H=>?_
 have hc17:=QBk rv2.1 a8 k9 1 pre rv15 hg16
 refine Oc [1] QCp hc17 ?_
 rintro ⟨c12,c13,c14⟩ ⟨he18,he19⟩
 unfold Qaa at he18 he19
 refine Jo 0 ?_; rintro a20 k21 rfl
 refine Fb 24 0 fun _=>?_
 refine Jo 1 ?_; rintro a23 k24 rfl
 refine Fb 88 1 fun _=>?_
 refine Jo 2 ?_; rintro a26 k27 rfl
 refine Fb 32 2 fun _=>?_
 refine Oq Vm (Oq Vx (Oq Vx (Oa (Al QtF [vi 0,.slice none 0 0,.slice none 0 0,.slice none 0 0]) fun p29=>Ost (Scl [0] Qeh [vi rv15.1.Width,vl a20 k21 rv15.1.Deps,vl a23 k24 rv15.1.Transfers,vl a26 k27 rv15.1.Boundary]) (Oq Va (KS ?_)))))
 refine Oq (Qar Qeh 0) ?_
 refine lvH H fun rv31 hg32 H=>?_
 have hc33:=QzT rv15.1 a20 k21 a23 k24 a26 k27 3 0 pre pre pre rv31 hg32
 refine Oc [1,2,3] QAl hc33 ?_
 rintro c30 he34
 unfold Qaa at he34
 refine Jo 0 ?_; rintro a35 k36 rfl
 refine Fb 16 0 fun _=>?_
 refine Oq Vm (Oq Vx (Oq Vx (Oq Vx (Oq Va (Oq Va (Oq Va (KS ?_)))))))
 refine Oq (Vbd Qrg [vi 2,vi 0]) (Oq (Vbd Qrg [vi 3,vi 0]) (Oa (AsV Qea Qmk [.agg #[vi 2,vi 0],.agg #[vi 3,vi 0]] [vi 2,vi 0,vi 3,vi 0]) fun c38=>?_))
 refine Jo 0 ?_; rintro a39 k40 rfl
 refine Oq Va (KS ?_)
 refine Oq Vm (Oq Qcb (Oq Vm ?_))
 refine pT H hx0 fun h41 H=>?_
 refine JsT 33 h41 ?_
 have g42:=eq_of_beq h41
 refine Oq Vm (Oq Vpt (Oq Vm ?_))
 refine pT H hx0 fun h43 H=>?_
 refine JsT 36 h43 ?_
 refine Oq Vm (Oq Vm ?_)
 refine Jl [0] (Ent.crOs (α:=Qag) (A:=[]) _ ([(Qag.mk 2 0),(Qag.mk 3 0)]:List Qag) _ aB1 (fun h=>⟨[vi 2,vi 0],[vi 3,vi 0],rfl,(fun h=>⟨rfl,aL1,aL1⟩) h,⟨[vi 3,vi 0],[],rfl,(fun h=>⟨rfl,aL1,aL1⟩) h,rfl⟩⟩)) ?_
 refine Jl [0] (Ent.freeze _ _) ?_
 refine lvH H fun rv45 hg46 H=>?_
 have hc47:=Qz9 rv31.1 a35 k36 ([(Qag.mk 2 0),(Qag.mk 3 0)]) a39 k40 rv45 hg46
 refine Oc [1,0] Qz6 hc47 ?_
 rintro - -
 refine Oq Vpt (Oq Vm ?_)
 refine pT H hx0 fun h48 H=>?_
 refine JsT 41 h48 ?_
 refine Oq (Qar Qeh 2) (Oq Vm ?_)
 refine lvH H fun rv50 hg51 H=>?_
 have hc52:=QCi rv15.1 a20 k21 a23 k24 a26 k27 3 0 ([(Qag.mk 2 0),(Qag.mk 3 0)]) a39 k40 pre pre pre rv50 hg51
 refine Oc [3,4,5,0] QB8 hc52 ?_
 rintro - -
 refine Oq Vpt (Oq Va (KS ?_))
 have hq:=rI H; subst hq
 exact Kr () rfl (.tmp rfl .nil) [] trivial
theorem Qqv:QlE=.ret true:=by kernel_rfl
theorem QCo  (rr:Bool) (hrr:Qlc=rr):FT Tryz.prog 20 #[] [] (fun g:Unit=>True) (fun g=>vb rr) (fun g=>[]):=by
 subst hrr; exact Qys  true Qqv
theorem QxE (l:List Int) (la0:Option Addr) (lk0:Nat) (n:Int) (Qf1:Qaa n) (rr:Bool) (hrr:QbA l n=rr):FT Tryz.prog 67 #[vl la0 lk0 l,vi n] [S la0 lk0 l] (fun g:Unit=>True) (fun g=>vb rr) (fun g=>[]):=by
 refine FTi Tryz.func67 fun w0 M0 F0=>?_
 unfold Qaa at Qf1
 refine Fb 8 0 fun _=>Fo 0 fun ho2=>KS ?_
 refine Oq Va (KS ?_)
 refine Oq Va (KS ?_)
 refine Kl (γ:=Nat×Int) (fun (r3,i_4)=>⟨[(0,vl la0 lk0 l),(1,vi n),(5,vi i_4)],[S la0 lk0 l],QaQ l n r3 i_4=QaQ l n (((l.length:Int) - 0).toNat) 0/\r3=((l.length:Int) - i_4).toNat/\(0:Int)<=i_4/\i_4<=(l.length:Int)/\(-9223372036854775808<=i_4/\i_4<=9223372036854775807),r3⟩) (((l.length:Int) - 0).toNat,0) [0] ⟨rfl,rfl,aM1,aM1,aM1⟩ ?_
 rintro ⟨r3,i_4⟩ ⟨hM5,hr6,hi7,hi8,hk9⟩
 refine QaE fun _ _ hL hA=>?_; dsimp only at hL hA; subst hL hA
 refine Fb 8 0 fun _=>Fo 0 fun ho11=>KS ?_
 refine Oq Vm (Oq Vm (Oq (Qbc QcP) (Oq Qbo (KS ?_))))
 refine Kc ?_ ?_
 ·intro h12
  have g13:=dt h12
  obtain ⟨r14,rfl⟩:=scc (n:=r3) aM1
  refine KS ?_
  refine Kq [0,0,3,7,15,31,63,63,255,511,63,2047,4095,8191,16383,32767,65535,131071,131071,393215,1048575,2097151,131071,131071,12713983,29491199,67108863,134217727,268435455] QcF ?_
  refine Qv [] Vm (Qv [] Vm (Qv [0] (Vi QcP 0) ?_))
  have hb15:=ok1 (i:=i_4.toNat) ho11 rng
  refine Qv [0] (QjF sh3 0) (Qv [] Qbo ?_)
  refine Qa5 (decide ((l.getD i_4.toNat 0) < 0)) ?_ ?_
  ·intro h16
   have g17:=dt h16
   refine Qb h16 [] Vm (Qs (Qs (Qs (Qs (Qs (Qs (Qv [] Vpt (Qv [] Vm (Qs ?_)))))))))
   refine Qs (Qs (Qs (Qs (Qs (Qs (Qs (Qs (Qs (Qs ?_)))))))))
   refine Qs (Qs (Qs (Qv [] Vpt ?_)))
   refine Qn ⟨by kernel_rfl,?_⟩
   refine Kt (KS ?_)
   refine Oq Va (KS ?_)
   have hR18:=q2 hM5 (.ret false) (by simp only [QaQ,h12,h16,cs4])
   have hq:=q4 hrr false (by simp only [QbA,h12,h16,hR18,cs4]); subst hq
   exact Kr () rfl (.tmp rfl .nil) [] trivial
  intro h16
  have g19:=df h16
  refine Qb h16 [] Vm (Qv [] Vm (Qv [] Vm (Qv [0] (Vi QcP 0) ?_)))
  have hb20:=ok1 (i:=i_4.toNat) ho11 rng
  refine Qv [0] (QjF sh3 0) (Qv [] Vm (Qv [] Qhv (Qv [] Vpf ?_)))
  refine Qa5 (decide (n<=(l.getD i_4.toNat 0))) ?_ ?_
  ·intro h21
   have g22:=dt h21
   refine Qb h21 [] Vm (Qs (Qs (Qs (Qs (Qs (Qs (Qs (Qs (Qs ?_)))))))))
   refine Qs (Qs (Qs (Qs (Qs (Qv [] Vpt ?_)))))
   refine Qn ⟨by kernel_rfl,?_⟩
   refine Kt (KS ?_)
   refine Oq Va (KS ?_)
   have hR23:=q2 hM5 (.ret false) (by simp only [QaQ,h12,h16,h21,cs4])
   have hq:=q4 hrr false (by simp only [QbA,h12,h16,h21,hR23,cs4]); subst hq
   exact Kr () rfl (.tmp rfl .nil) [] trivial
  intro h21
  have g24:=df h21
  refine Qb h21 [] Vm (Qv [] Vm (Qv [] QgZ ?_))
  refine Qa5 (decide (0 < i_4)) ?_ ?_
  ·intro h25
   have g26:=dt h25
   refine Qb h25 [] Vm (Qv [] Vm (Qv [] Vm (Qv [] Qjf (Qv [0] (Vi QcP 0) ?_))))
   have hb27:=ok1 (i:=((i_4 - 1):Int).toNat) ho11 rng
   refine Qv [0] (QjF sh3 0) (Qv [] Vm (Qv [] Vm (Qv [0] (Vi QcP 0) ?_)))
   have hb28:=ok1 (i:=i_4.toNat) ho11 rng
   refine Qv [0] (QjF sh3 0) (Qv [] Qhv (Qv [] Vpt (Qv [] Vpf ?_)))
   refine Qn ⟨by kernel_rfl,?_⟩
   refine Kc ?_ ?_
   ·intro h29
    have g30:=dt h29
    refine KS ?_
    refine Oq Va (KS ?_)
    have hR31:=q2 hM5 (.ret false) (by simp only [QaQ,h12,h16,h21,h25,h29,cs4])
    have hq:=q4 hrr false (by simp only [QbA,h12,h16,h21,h25,h29,hR31,cs4]); subst hq
    exact Kr () rfl (.tmp rfl .nil) [] trivial
   intro h29
   have g32:=df h29
   refine KS ?_
   refine Oq Vm (Oq QaS (Oq Va (KS ?_)))
   exact Kg (r14,(i_4+1)) [0] ⟨(q3 hM5 (by simp only [QaQ,h12,h16,h21,h25,h29,cs4])),aM1,aM1,aM1,aM1⟩
  intro h25
  have g33:=df h25
  refine Qb h25 [] Vm (Qs (Qs (Qs (Qs (Qs (Qs (Qs (Qs (Qs ?_)))))))))
  refine Qs (Qv [] Vpf (Qv [] Vpf ?_))
  refine Qn ⟨by kernel_rfl,?_⟩
  refine Kf (KS ?_)
  refine Oq Vm (Oq QaS (Oq Va (KS ?_)))
  exact Kg (r14,(i_4+1)) [0] ⟨(q3 hM5 (by simp only [QaQ,h12,h16,h21,h25,cs4])),aM1,aM1,aM1,aM1⟩
 intro h12
 have g34:=df h12
 obtain rfl:r3=0:=by omega
 refine Ke ?_
 have hR35:=q2 hM5 (.brk ()) (by simp only [QaQ,h12,cs4])
 refine KS ?_
 refine Oq Va (KS ?_)
 have hq:=q4 hrr true (by simp only [QbA,h12,hR35,cs4]); subst hq
 exact Kr () rfl (.tmp rfl .nil) [] trivial
theorem QyC (s:Qab) (sa1:Option Addr) (sk1:Nat) (sa2:Option Addr) (sk2:Nat) (sa3:Option Addr) (sk3:Nat) (QcL:Qaa s.Width) (rr:Bool) (hrr:Qbi s=rr):FT Tryz.prog 36 #[.agg #[vi s.Width,vl sa1 sk1 s.Deps,vl sa2 sk2 s.Transfers,vl sa3 sk3 s.Boundary]] [S sa1 sk1 s.Deps,S sa2 sk2 s.Transfers,S sa3 sk3 s.Boundary] (fun g:Unit=>True) (fun g=>vb rr) (fun g=>[]):=by
 refine FTi Tryz.func36 fun w0 M0 F0=>?_
 unfold Qaa at QcL
 refine Fb 24 0 fun _=>Fb 88 1 fun _=>Fb 32 2 fun _=>KS ?_
 refine Oa (Ab [vi s.Width,vl sa1 sk1 s.Deps,vl sa2 sk2 s.Transfers,vl sa3 sk3 s.Boundary]) fun p4=>Oq Va (KS ?_)
 refine Oq (Vfa Qc8 0) (Oq (Qai Qjc 0) (Oq (Qbc Qd2) (Oq Va (KS ?_))))
 refine Oq (Vfa Qb7 0) (Oq (Qai sh3 0) (Oq Qbo (Oq Vm ?_)))
 refine Js 12 ?_ ?_
 ·intro h5
  have g6:=dt h5
  refine Osk (Osk (Osk (Oq Vpt (Oq Vm (Osk (Osk (Oq Vpt (Oq Vm (Osk ?_)))))))))
  refine Osk (Oq Vpt (Oq Vm (Osk (Osk (Osk (Osk (Osk (Oq Vpt (Oq Vm ?_)))))))))
  refine Osk (Osk (Osk (Osk (Osk (Oq Vpt (KS ?_))))))
  refine Kt (KS ?_)
  refine Oq Va (KS ?_)
  have hq:=q4 hrr false (by simp only [Qbi,h5,cs4]); subst hq
  exact Kr () rfl (.tmp rfl .nil) [] trivial
 intro h5
 have g7:=df h5
 refine Oq (Vfa Qb7 0) (Oq (Qai sh3 0) (Oq QgZ (Oq Vpf (Oq Vm ?_))))
 refine Js 17 ?_ ?_
 ·intro h8
  have g9:=dt h8
  refine Osk (Osk (Oq Vpt (Oq Vm (Osk (Osk (Oq Vpt (Oq Vm (Osk (Osk ?_)))))))))
  refine Osk (Osk (Osk (Oq Vpt (Oq Vm (Osk (Osk (Osk (Osk (Osk ?_)))))))))
  refine Oq Vpt (KS ?_)
  refine Kt (KS ?_)
  refine Oq Va (KS ?_)
  have hq:=q4 hrr false (by simp only [Qbi,h5,h8,cs4]); subst hq
  exact Kr () rfl (.tmp rfl .nil) [] trivial
 intro h8
 have g10:=df h8
 refine Oq Vm (Oq Qbo (Oq Vpf (Oq Vm ?_)))
 refine Js 21 ?_ ?_
 ·intro h11
  have g12:=dt h11
  refine Osk (Osk (Oq Vpt (Oq Vm (Osk (Osk (Osk (Osk (Osk (Oq Vpt ?_)))))))))
  refine Oq Vm (Osk (Osk (Osk (Osk (Osk (Oq Vpt (KS ?_)))))))
  refine Kt (KS ?_)
  refine Oq Va (KS ?_)
  have hq:=q4 hrr false (by simp only [Qbi,h5,h8,h11,cs4]); subst hq
  exact Kr () rfl (.tmp rfl .nil) [] trivial
 intro h11
 have g13:=df h11
 refine Oq Vm (Oq QgZ (Oq Vpf (Oq Vm ?_)))
 refine Js 25 ?_ ?_
 ·intro h14
  have g15:=dt h14
  refine Osk (Osk (Osk (Osk (Osk (Oq Vpt (Oq Vm (Osk (Osk (Osk ?_)))))))))
  refine Osk (Osk (Oq Vpt (KS ?_)))
  refine Kt (KS ?_)
  refine Oq Va (KS ?_)
  have hq:=q4 hrr false (by simp only [Qbi,h5,h8,h11,h14,cs4]); subst hq
  exact Kr () rfl (.tmp rfl .nil) [] trivial
 intro h14
 have g16:=df h14
 refine Oq (Vfa Qbt 0) (Oq (Qai QfL 0) (Oq (Qbc QeN) (Oq Vm (Oq Qf4 (Oq Vpf (Oq Vm ?_))))))
 refine Js 32 ?_ ?_
 ·intro h17
  have g18:=Qax h17
  refine Osk (Osk (Osk (Osk (Osk (Oq Vpt (KS ?_))))))
  refine Kt (KS ?_)
  refine Oq Va (KS ?_)
  have hq:=q4 hrr false (by simp only [Qbi,h5,h8,h11,h14,h17,cs4]); subst hq
  exact Kr () rfl (.tmp rfl .nil) [] trivial
 intro h17
 have g19:=Qae h17
 refine Oq (Vfa Qco 0) (Oq (Qai QiS 0) (Oq (Qbc Qhi) (Oq Vm (Oq Qf4 (Oq Vpf (KS ?_))))))
 refine Kc ?_ ?_
 ·intro h20
  have g21:=Qax h20
  refine KS ?_
  refine Oq Va (KS ?_)
  have hq:=q4 hrr false (by simp only [Qbi,h5,h8,h11,h14,h17,h20,cs4]); subst hq
  exact Kr () rfl (.tmp rfl .nil) [] trivial
 intro h20
 have g22:=Qae h20
 refine KS ?_
 refine Oq Va (KS ?_)
 refine Oq Va (KS ?_)
 refine Kl (γ:=Nat×Int×Int) (fun (r23,QdI,QcR)=>⟨[(1,p4),(3,vi (s.Boundary.length:Int)),(4,vi QdI),(5,vi QcR)],[pv p4 [vi s.Width,vl sa1 sk1 s.Deps,vl sa2 sk2 s.Transfers,vl sa3 sk3 s.Boundary],S sa1 sk1 s.Deps,S sa2 sk2 s.Transfers,S sa3 sk3 s.Boundary],Qbu s r23 QdI QcR=Qbu s (((s.Boundary.length:Int) - 0).toNat) 0 0/\r23=((s.Boundary.length:Int) - QcR).toNat/\(0:Int)<=QcR/\QcR<=(s.Boundary.length:Int)/\(-9223372036854775808<=QdI/\QdI<=9223372036854775807)/\(-9223372036854775808<=QcR/\QcR<=9223372036854775807)/\0<=QdI/\QdI<=QcR*17592186044416,r23⟩) (((s.Boundary.length:Int) - 0).toNat,0,0) [0,1,2,3] ⟨rfl,rfl,aM1,aM1,aM1,aM1,iv0⟩ ?_
 rintro ⟨r23,QdI,QcR⟩ ⟨hM26,hr27,hi28,hi29,hk30,hk31,hv32⟩
 refine QaE fun _ _ hL hA=>?_; dsimp only at hL hA; subst hL hA
 refine Fb 24 1 fun _=>Fb 88 2 fun _=>Fb 32 3 fun _=>KS ?_
 refine Oq Vm (Oq Vm (Oq Qbo (KS ?_)))
 refine Kc ?_ ?_
 ·intro h36
  have g37:=dt h36
  obtain ⟨r38,rfl⟩:=scc (n:=r23) aM1
  refine KS ?_
  refine Qef QcR.toNat 1 rfl rng fun a39 k40=>?_
  refine Fb 8 1 fun _=>Fo 1 fun ho42=>?_
  refine QaO (QbA (s.Deps.getD QcR.toNat []) (s.Boundary.length:Int)) fun rv43 hg44=>?_
  refine Qa5 (!rv43) ?_ ?_
  ·intro h45
   have h47:=not_true h45
   refine Qam [0,1,0,7,15,0,63,127,255,511,1023,511,4095,8191,16383,32767,65535,131071,262143,524287,262143,2097151,4194303,8388607,16777215,262143,33816575,134217727,268435455,536870911,1073741823,2147483647,1073741823,8589934591,17179869183,34359738367,68719476735,137438953471,274877906943,549755813887,1099511627775,549755813887,4398046511103,8796093022207,17592186044415,549755813887,35734127902719,140737488355327,281474976710655] QcF ?_
   refine Dv [2] (Vfa Qbt 0) (Dv [2] (Qai QfL 0) (Dv [] Vm (Dv [3] (Vi QeN 0) (Dv [0] (Vld Qjs 0) (Dv [] Vm (Dx [1] [] [1,0] (fun G=>vb rv43) [fun G=>SP.fact (True)] (fun G=>xC [0] Qxx (QxE ((s.Deps.getD QcR.toNat [])) a39 k40 ((s.Boundary.length:Int)) pre rv43 hg44)) (Db h45 [] QcN (Dv [] Vm (Ds ?_)))))))))
   refine Ds (Ds (Ds (Ds (Ds (Ds (Dv [] Vpt (Dv [] Vm (Ds (Ds ?_)))))))))
   refine Ds (Ds (Ds (Ds (Ds (Ds (Ds (Ds (Dv [] Vpt (Dv [] Vm ?_)))))))))
   refine Ds (Ds (Ds (Ds (Ds (Ds (Ds (Dv [] Vpt (Dv [] Vm (Ds ?_)))))))))
   refine Ds (Ds (Ds (Ds (Ds (Ds (Ds (Ds (Dv [] Vpt ?_))))))))
   refine Dn ⟨by kernel_rfl,fun G=>?_⟩
   refine Jw2 [(1,p4),(3,vi (s.Boundary.length:Int)),(4,vi QdI),(5,vi QcR),(92,vb true)] [0,1,2,3,4,5] [SP.fact (True)] ?_
   refine Jk [0,1,2,3,4,5] (Kt ?_)
   refine KS ?_
   refine Oq Va (KS ?_)
   have hR49:=q2 hM26 (.ret false) (by simp only [Qbu,h36,h45,h47,hg44,cs4])
   have hq:=q4 hrr false (by simp only [Qbi,h5,h8,h11,h14,h17,h20,h36,h45,h47,hg44,hR49,cs4]); subst hq
   exact Kr () rfl (.tmp rfl .nil) [] trivial
  intro h45
  have h51:=not_false h45
  refine Qa0 QcR.toNat 4 rfl rng fun a53 k54 a55 k56 a57 k58 hb59 hb60=>?_
  unfold Qaa at hb59 hb60
  refine Fb 8 1 fun _=>Fb 8 2 fun _=>Fb 16 3 fun _=>?_
  refine QaO (Qal (s.Transfers.getD QcR.toNat default)) fun rv64 hg65=>?_
  refine Qa5 (!rv64) ?_ ?_
  ·intro h66
   have h68:=not_true h66
   refine Qam [0,1,0,7,15,0,63,127,255,511,1023,511,4095,8191,16383,32767,65535,131071,262143,524287,262143,2097151,4194303,8388607,16777215,262143,33816575,134217727,268435455,536870911,1073741823,2147483647,1073741823,8589934591,17179869183,34359738367,68719476735,137438953471,274877906943,549755813887,1099511627775,549755813887,4398046511103,8796093022207,17592186044415,549755813887,35734127902719,140737488355327,281474976710655] QcF ?_
   refine Dv [6] (Vfa Qbt 0) (Dv [6] (Qai QfL 0) (Dv [] Vm (Dv [7] (Vi QeN 0) (Dv [4] (Vld Qjs 0) (Dv [] Vm (Dx [5] [] [1,0] (fun G=>vb rv43) [fun G=>SP.fact (True)] (fun G=>xC [0] Qxx (QxE ((s.Deps.getD QcR.toNat [])) a39 k40 ((s.Boundary.length:Int)) pre rv43 hg44)) (Db h45 [] QcN (Dv [] Vm (Dv [6] (Vfa Qco 0) ?_)))))))))
   refine Dv [6] (Qai QiS 0) (Dv [] Vm (Dv [8] (Vi Qhi 0) (Dv [0] (Qar Qdm 0) (Dx [1,2,3] [] [1,2,3,0] (fun G=>vb rv64) [fun G=>SP.fact (True)] (fun G=>xC [0,1,2] Qvw (Qvv ((s.Transfers.getD QcR.toNat default)) a53 k54 a55 k56 a57 k58 pre pre rv64 hg65)) (Db h66 [] QcN (Dv [] Vpf (Dv [] Vm (Ds (Ds ?_)))))))))
   refine Ds (Ds (Ds (Ds (Ds (Ds (Ds (Ds (Dv [] Vpt (Dv [] Vm ?_)))))))))
   refine Ds (Ds (Ds (Ds (Ds (Ds (Ds (Dv [] Vpt (Dv [] Vm (Ds ?_)))))))))
   refine Ds (Ds (Ds (Ds (Ds (Ds (Ds (Ds (Dv [] Vpt ?_))))))))
   refine Dn ⟨by kernel_rfl,fun G=>?_⟩
   refine Jw2 [(1,p4),(3,vi (s.Boundary.length:Int)),(4,vi QdI),(5,vi QcR),(92,vb true)] [0,1,2,3,4,5,6,7,8,9] [SP.fact (True),SP.fact (True)] ?_
   refine Jk [0,1,2,3,4,5,6,7,8,9] (Kt ?_)
   refine KS ?_
   refine Oq Va (KS ?_)
   have hR70:=q2 hM26 (.ret false) (by simp only [Qbu,h36,h45,h51,h66,h68,hg44,hg65,cs4])
   have hq:=q4 hrr false (by simp only [Qbi,h5,h8,h11,h14,h17,h20,h36,h45,h51,h66,h68,hg44,hg65,hR70,cs4]); subst hq
   exact Kr () rfl (.tmp rfl .nil) [] trivial
  intro h66
  have h72:=not_false h66
  refine Qa5 (((s.Transfers.getD QcR.toNat default).Gen).Width != s.Width) ?_ ?_
  ·intro h74
   have g75:=Qax h74
   refine Qam [0,1,0,7,15,0,63,127,255,511,1023,511,4095,8191,16383,32767,65535,131071,262143,524287,262143,2097151,4194303,8388607,16777215,262143,33816575,134217727,268435455,536870911,1073741823,2147483647,1073741823,8589934591,17179869183,34359738367,68719476735,137438953471,274877906943,549755813887,1099511627775,549755813887,4398046511103,8796093022207,17592186044415,549755813887,35734127902719,140737488355327,281474976710655] QcF ?_
   refine Dv [6] (Vfa Qbt 0) (Dv [6] (Qai QfL 0) (Dv [] Vm (Dv [7] (Vi QeN 0) (Dv [4] (Vld Qjs 0) (Dv [] Vm (Dx [5] [] [1,0] (fun G=>vb rv43) [fun G=>SP.fact (True)] (fun G=>xC [0] Qxx (QxE ((s.Deps.getD QcR.toNat [])) a39 k40 ((s.Boundary.length:Int)) pre rv43 hg44)) (Db h45 [] QcN (Dv [] Vm (Dv [6] (Vfa Qco 0) ?_)))))))))
   refine Dv [6] (Qai QiS 0) (Dv [] Vm (Dv [8] (Vi Qhi 0) (Dv [0] (Qar Qdm 0) (Dx [1,2,3] [] [1,2,3,0] (fun G=>vb rv64) [fun G=>SP.fact (True)] (fun G=>xC [0,1,2] Qvw (Qvv ((s.Transfers.getD QcR.toNat default)) a53 k54 a55 k56 a57 k58 pre pre rv64 hg65)) (Db h66 [] QcN (Dv [] Vpf (Dv [] Vm (Dv [6] (Vfa Qco 0) (Dv [6] (Qai QiS 0) ?_)))))))))
   refine Dv [] Vm (Dv [8] (Vi Qhi 0) (Dv [0] (Vfa Qdx 0) (Dv [0] (Qoy Qbj 0) (Dv [0] (Qai sh3 0) (Dv [6] (Vfa Qb7 0) (Dv [6] (Qai sh3 0) (Db h74 [] Qf4 (Dv [] Vpf (Dv [] Vm ?_)))))))))
   refine Ds (Ds (Ds (Ds (Ds (Ds (Ds (Dv [] Vpt (Dv [] Vm (Ds ?_)))))))))
   refine Ds (Ds (Ds (Ds (Ds (Ds (Ds (Ds (Dv [] Vpt ?_))))))))
   refine Dn ⟨by kernel_rfl,fun G=>?_⟩
   refine Jw2 [(1,p4),(3,vi (s.Boundary.length:Int)),(4,vi QdI),(5,vi QcR),(92,vb true)] [0,1,2,3,4,5,6,7,8,9] [SP.fact (True),SP.fact (True)] ?_
   refine Jk [0,1,2,3,4,5,6,7,8,9] (Kt ?_)
   refine KS ?_
   refine Oq Va (KS ?_)
   have hR76:=q2 hM26 (.ret false) (by simp only [Qbu,h36,h45,h51,h66,h72,h74,hg44,hg65,cs4])
   have hq:=q4 hrr false (by simp only [Qbi,h5,h8,h11,h14,h17,h20,h36,h45,h51,h66,h72,h74,hg44,hg65,hR76,cs4]); subst hq
   exact Kr () rfl (.tmp rfl .nil) [] trivial
  intro h74
  have g77:=Qae h74
  refine Qbf QcR.toNat 9 rfl rng fun a78 k79 hb80=>?_
  unfold Qaa at hb80
  refine Fb 8 1 fun _=>?_
  refine Qam [0,1,0,7,15,0,63,127,255,511,1023,511,4095,8191,16383,32767,65535,131071,262143,524287,262143,2097151,4194303,8388607,16777215,262143,33816575,134217727,268435455,536870911,1073741823,2147483647,1073741823,8589934591,17179869183,34359738367,68719476735,137438953471,274877906943,549755813887,1099511627775,549755813887,4398046511103,8796093022207,17592186044415,549755813887,35734127902719,140737488355327,281474976710655] QcF ?_
  refine Dv [8] (Vfa Qbt 0) (Dv [8] (Qai QfL 0) (Dv [] Vm (Dv [9] (Vi QeN 0) (Dv [6] (Vld Qjs 0) (Dv [] Vm (Dx [7] [] [1,0] (fun G=>vb rv43) [fun G=>SP.fact (True)] (fun G=>xC [0] Qxx (QxE ((s.Deps.getD QcR.toNat [])) a39 k40 ((s.Boundary.length:Int)) pre rv43 hg44)) (Db h45 [] QcN (Dv [] Vm (Dv [8] (Vfa Qco 0) ?_)))))))))
  refine Dv [8] (Qai QiS 0) (Dv [] Vm (Dv [10] (Vi Qhi 0) (Dv [2] (Qar Qdm 0) (Dx [3,4,5] [] [1,2,3,0] (fun G=>vb rv64) [fun G=>SP.fact (True)] (fun G=>xC [0,1,2] Qvw (Qvv ((s.Transfers.getD QcR.toNat default)) a53 k54 a55 k56 a57 k58 pre pre rv64 hg65)) (Db h66 [] QcN (Dv [] Vpf (Dv [] Vm (Dv [8] (Vfa Qco 0) (Dv [8] (Qai QiS 0) ?_)))))))))
  refine Dv [] Vm (Dv [10] (Vi Qhi 0) (Dv [2] (Vfa Qdx 0) (Dv [2] (Qoy Qbj 0) (Dv [2] (Qai sh3 0) (Dv [8] (Vfa Qb7 0) (Dv [8] (Qai sh3 0) (Db h74 [] Qf4 (Dv [] Vpf (Dv [] Vm ?_)))))))))
  refine Dv [8] (Vfa Qc8 0) (Dv [8] (Qai Qjc 0) (Dv [] Vm (Dv [11] (Vi Qd2 0) (Dv [0] (Qar Qaw 0) ?_))))
  refine QaO (Qbd (s.Boundary.getD QcR.toNat default)) fun rv82 hg83=>?_
  refine Dx [1] [] [1,0] (fun G=>vb rv82) [fun G=>SP.fact (True)] (fun G=>xC [0] QtJ (QtN ((s.Boundary.getD QcR.toNat default)) a78 k79 pre rv82 hg83)) (Dv [] QcN (Dv [] Vpf ?_))
  refine Qa5 (!rv82) ?_ ?_
  ·intro h84
   have h86:=not_true h84
   refine Db h84 [] Vm (Ds (Ds (Ds (Ds (Ds (Ds (Ds (Ds (Ds ?_)))))))))
   refine Dv [] Vpt ?_
   refine Dn ⟨by kernel_rfl,fun G=>?_⟩
   refine Jw2 [(1,p4),(3,vi (s.Boundary.length:Int)),(4,vi QdI),(5,vi QcR),(92,vb true)] [0,1,2,3,4,5,6,7,8,9,10,11] [SP.fact (True),SP.fact (True),SP.fact (True)] ?_
   refine Jk [0,1,2,3,4,5,6,7,8,9,10,11] (Kt ?_)
   refine KS ?_
   refine Oq Va (KS ?_)
   have hR88:=q2 hM26 (.ret false) (by simp only [Qbu,h36,h45,h51,h66,h72,h74,h84,h86,hg44,hg65,hg83,cs4])
   have hq:=q4 hrr false (by simp only [Qbi,h5,h8,h11,h14,h17,h20,h36,h45,h51,h66,h72,h74,h84,h86,hg44,hg65,hg83,hR88,cs4]); subst hq
   exact Kr () rfl (.tmp rfl .nil) [] trivial
  intro h84
  have h90:=not_false h84
  refine Db h84 [] Vm (Dv [8] (Vfa Qc8 0) (Dv [8] (Qai Qjc 0) (Dv [] Vm (Dv [11] (Vi Qd2 0) (Dv [0] (Vfa Qbj 0) (Dv [0] (Qai sh3 0) (Dv [8] (Vfa Qb7 0) (Dv [8] (Qai sh3 0) (Dv [] Qf4 ?_)))))))))
  refine Dv [] Vpf ?_
  refine Dn ⟨by kernel_rfl,fun G=>?_⟩
  refine Jw2 [(1,p4),(3,vi (s.Boundary.length:Int)),(4,vi QdI),(5,vi QcR),(92,vb ((s.Boundary.getD QcR.toNat default).Width != s.Width))] [0,1,2,3,4,5,6,7,8,9,10,11] [SP.fact (True),SP.fact (True),SP.fact (True)] ?_
  refine Jk [0,1,2,3,4,5,6,7,8,9,10,11] ?_
  refine Kc ?_ ?_
  ·intro h92
   have g93:=Qax h92
   refine KS ?_
   refine Oq Va (KS ?_)
   have hR94:=q2 hM26 (.ret false) (by simp only [Qbu,h36,h45,h51,h66,h72,h74,h84,h90,h92,hg44,hg65,hg83,cs4])
   have hq:=q4 hrr false (by simp only [Qbi,h5,h8,h11,h14,h17,h20,h36,h45,h51,h66,h72,h74,h84,h90,h92,hg44,hg65,hg83,hR94,cs4]); subst hq
   exact Kr () rfl (.tmp rfl .nil) [] trivial
  intro h92
  have g95:=Qae h92
  refine KS ?_
  refine Oq Vm (Oq (Vfa Qbt 8) (Oq (Qai QfL 8) (Oq Vm (Oq (Vi QeN 9) (Oq (Vld Qjs 6) (Oq (Qbc QcP) (Oq QaS (Oq Va (KS ?_)))))))))
  refine Oq Vm (Oq QaS (Oq Va (KS ?_)))
  exact Kg (r38,(QdI+((s.Deps.getD QcR.toNat []).length:Int)),(QcR+1)) [8,9,10,11] ⟨(q3 hM26 (by simp only [Qbu,h36,h45,h51,h66,h72,h74,h84,h90,h92,hg44,hg65,hg83,cs4])),aM1,aM1,aM1,aM1,aM1,iv1⟩
 intro h36
 have g96:=df h36
 obtain rfl:r23=0:=by omega
 refine Ke ?_
 have hR97:=q2 hM26 (.brk QdI) (by simp only [Qbu,h36,cs4])
 refine KS ?_
 refine Oq Vm (Oq Qss (Oq Va (KS ?_)))
 have hq:=q4 hrr (decide (QdI<=1024)) (by simp only [Qbi,h5,h8,h11,h14,h17,h20,h36,hR97,cs4]); subst hq
 exact Kr () rfl (.tmp rfl .nil) [] trivial
theorem QAm (s:Qab) (sa1:Option Addr) (sk1:Nat) (sa2:Option Addr) (sk2:Nat) (sa3:Option Addr) (sk3:Nat) (n:Int) (bit:Int) (QcL:Qaa s.Width) (Qf1:Qaa n) (QfG:Qaa bit) (rr:Int) (hrr:QbE s n bit=rr):FT Tryz.prog 32 #[.agg #[vi s.Width,vl sa1 sk1 s.Deps,vl sa2 sk2 s.Transfers,vl sa3 sk3 s.Boundary],vi n,vi bit] [S sa1 sk1 s.Deps,S sa2 sk2 s.Transfers,S sa3 sk3 s.Boundary] (fun g:Unit=>Qaa rr) (fun g=>vi rr) (fun g=>[]):=by
 refine FTi Tryz.func32 fun w0 M0 F0=>?_
 unfold Qaa at QcL Qf1 QfG
 refine Fb 24 0 fun _=>Fb 88 1 fun _=>Fb 32 2 fun _=>KS ?_
 refine Oa (Ab [vi s.Width,vl sa1 sk1 s.Deps,vl sa2 sk2 s.Transfers,vl sa3 sk3 s.Boundary]) fun p4=>Oq Va (KS ?_)
 refine Oq (Qar Qeh 0) ?_
 refine QaO (Qbi s) fun rv5 hg6=>?_
 have hc7:=QyC s sa1 sk1 sa2 sk2 sa3 sk3 pre rv5 hg6
 refine Oc [1,2,3] Qy1 hc7 ?_
 rintro - -
 refine Oq QcN (Oq Va (KS ?_))
 refine Kc ?_ ?_
 ·intro h8
  have h10:=not_true h8
  refine KS ?_
  refine Oq Va (KS ?_)
  have hq:=q4 hrr 1 (by simp only [QbE,h8,h10,hg6,cs4]); subst hq
  exact Kr () rfl (.tmp rfl .nil) [] en
 intro h8
 have h13:=not_false h8
 refine KS ?_
 refine Oq Vm (Oq Qbo (Oq Vm ?_))
 refine Js 14 ?_ ?_
 ·intro h15
  have g16:=dt h15
  refine Osk (Osk (Osk (Osk (Osk (Oq Vpt (Oq Va (KS ?_)))))))
  refine Kt (KS ?_)
  refine Oq Va (KS ?_)
  have hq:=q4 hrr 9 (by simp only [QbE,h8,h13,h15,hg6,cs4]); subst hq
  exact Kr () rfl (.tmp rfl .nil) [] en
 intro h15
 have g17:=df h15
 refine Oq Vm (Oq (Vfa Qc8 0) (Oq (Qai Qjc 0) (Oq (Qbc Qd2) (Oq Qhv (Oq Vpf (Oq Va (KS ?_)))))))
 refine Kc ?_ ?_
 ·intro h18
  have g19:=dt h18
  refine KS ?_
  refine Oq Va (KS ?_)
  have hq:=q4 hrr 9 (by simp only [QbE,h8,h13,h15,h18,hg6,cs4]); subst hq
  exact Kr () rfl (.tmp rfl .nil) [] en
 intro h18
 have g20:=df h18
 refine KS ?_
 refine Oq Vm (Oq Qbo (Oq Vm ?_))
 refine Js 24 ?_ ?_
 ·intro h21
  have g22:=dt h21
  refine Osk (Osk (Osk (Osk (Oq Vpt (Oq Va (KS ?_))))))
  refine Kt (KS ?_)
  refine Oq Va (KS ?_)
  have hq:=q4 hrr 3 (by simp only [QbE,h8,h13,h15,h18,h21,hg6,cs4]); subst hq
  exact Kr () rfl (.tmp rfl .nil) [] en
 intro h21
 have g23:=df h21
 refine Oq Vm (Oq (Vfa Qb7 0) (Oq (Qai sh3 0) (Oq Qhv (Oq Vpf (Oq Va (KS ?_))))))
 refine Kc ?_ ?_
 ·intro h24
  have g25:=dt h24
  refine KS ?_
  refine Oq Va (KS ?_)
  have hq:=q4 hrr 3 (by simp only [QbE,h8,h13,h15,h18,h21,h24,hg6,cs4]); subst hq
  exact Kr () rfl (.tmp rfl .nil) [] en
 intro h24
 have g26:=df h24
 refine KS ?_
 refine Oq Va (KS ?_)
 have hq:=q4 hrr 0 (by simp only [QbE,h8,h13,h15,h18,h21,h24,hg6,cs4]); subst hq
 exact Kr () rfl (.tmp rfl .nil) [] en
theorem Qz8 (t:Qad) (ta1:Option Addr) (tk1:Nat) (ta3:Option Addr) (tk3:Nat) (ta4:Option Addr) (tk4:Nat) (a:Int) (b:Int) (QkH:Qaa t.Gen.Width) (QkI:Qaa t.Kill.Width) (Qke:Qaa a) (QgI:Qaa b) (rr:Bool) (hrr:Qcm t a b=rr):FT Tryz.prog 65 #[.agg #[vi t.Gen.Width,vl ta1 tk1 t.Gen.Words,vi t.Kill.Width,vl ta3 tk3 t.Kill.Words,vl ta4 tk4 t.Copies],vi a,vi b] [S ta1 tk1 t.Gen.Words,S ta3 tk3 t.Kill.Words,S ta4 tk4 t.Copies] (fun g:Unit=>True) (fun g=>vb rr) (fun g=>[]):=by
 refine FTi Tryz.func65 fun w0 M0 F0=>?_
 unfold Qaa at QkH QkI Qke QgI
 refine Fb 8 0 fun _=>Fb 8 1 fun _=>Fb 16 2 fun _=>KS ?_
 refine Oa (Ab [vi t.Gen.Width,vl ta1 tk1 t.Gen.Words,vi t.Kill.Width,vl ta3 tk3 t.Kill.Words,vl ta4 tk4 t.Copies]) fun p4=>Oq Va (KS ?_)
 refine Oq (Qar Qdm 0) ?_
 refine QaO (Qal t) fun rv5 hg6=>?_
 have hc7:=Qvv t ta1 tk1 ta3 tk3 ta4 tk4 pre pre rv5 hg6
 refine Oc [1,2,3] Qvw hc7 ?_
 rintro - -
 refine Oq Vm ?_
 refine Js 9 ?_ ?_
 ·intro h8
  refine Oq Vm (Oq Qhv (Oq Vpt (Oq Vm ?_)))
  refine Js 13 ?_ ?_
  ·intro h10
   have g11:=dt h10
   refine Oq Vm (Oq (Vfa Qdx 0) (Oq (Qoy Qbj 0) (Oq (Qai sh3 0) (Oq Qbo (Oq Vpt (Oq Vm ?_))))))
   refine Js 20 ?_ ?_
   ·intro h12
    have g13:=dt h12
    refine Oq Vm (Oq Qhv (Oq Vpt (Oq Vm ?_)))
    refine Js 24 ?_ ?_
    ·intro h14
     have g15:=dt h14
     refine Oq Vm (Oq (Vfa Qdx 0) (Oq (Qoy Qbj 0) (Oq (Qai sh3 0) (Oq Qbo (Oq Vpt (Oq Vm ?_))))))
     refine Js 31 ?_ ?_
     ·intro h16
      have g17:=dt h16
      refine Oq (Qar Qdm 0) (Oq Vm (Oq Vm ?_))
      refine QaO (Qat t a b) fun rv18 hg19=>?_
      have hc20:=QwN t ta1 tk1 ta3 tk3 ta4 tk4 a b pre pre pre pre rv18 hg19
      refine Oc [1,2,3] Qwi hc20 ?_
      rintro - -
      refine Oq Vpt (Oq Va (KS ?_))
      have hq:=q4 hrr rv18 (by simp only [Qcm,h8,h10,h12,h14,h16,hg6,hg19,cs4]); subst hq
      exact Kr () rfl (.tmp rfl .nil) [] trivial
     intro h16
     have g21:=df h16
     refine Osk (Osk (Osk (Osk (Oq Vpf (Oq Va (KS ?_))))))
     have hq:=q4 hrr false (by simp only [Qcm,h8,h10,h12,h14,h16,hg6,cs4]); subst hq
     exact Kr () rfl (.tmp rfl .nil) [] trivial
    intro h14
    have g22:=df h14
    refine Osk (Osk (Osk (Osk (Osk (Oq Vpf (Oq Vm (Osk (Osk (Osk ?_)))))))))
    refine Osk (Oq Vpf (Oq Va (KS ?_)))
    have hq:=q4 hrr false (by simp only [Qcm,h8,h10,h12,h14,hg6,cs4]); subst hq
    exact Kr () rfl (.tmp rfl .nil) [] trivial
   intro h12
   have g23:=df h12
   refine Osk (Osk (Oq Vpf (Oq Vm (Osk (Osk (Osk (Osk (Osk (Oq Vpf ?_)))))))))
   refine Oq Vm (Osk (Osk (Osk (Osk (Oq Vpf (Oq Va (KS ?_)))))))
   have hq:=q4 hrr false (by simp only [Qcm,h8,h10,h12,hg6,cs4]); subst hq
   exact Kr () rfl (.tmp rfl .nil) [] trivial
  intro h10
  have g24:=df h10
  refine Osk (Osk (Osk (Osk (Osk (Oq Vpf (Oq Vm (Osk (Osk (Oq Vpf ?_)))))))))
  refine Oq Vm (Osk (Osk (Osk (Osk (Osk (Oq Vpf (Oq Vm (Osk (Osk ?_)))))))))
  refine Osk (Osk (Oq Vpf (Oq Va (KS ?_))))
  have hq:=q4 hrr false (by simp only [Qcm,h8,h10,hg6,cs4]); subst hq
  exact Kr () rfl (.tmp rfl .nil) [] trivial
 intro h8
 refine Osk (Osk (Oq Vpf (Oq Vm (Osk (Osk (Osk (Osk (Osk (Oq Vpf ?_)))))))))
 refine Oq Vm (Osk (Osk (Oq Vpf (Oq Vm (Osk (Osk (Osk (Osk (Osk ?_)))))))))
 refine Oq Vpf (Oq Vm (Osk (Osk (Osk (Osk (Oq Vpf (Oq Va (KS ?_))))))))
 have hq:=q4 hrr false (by simp only [Qcm,h8,hg6,cs4]); subst hq
 exact Kr () rfl (.tmp rfl .nil) [] trivial
theorem QAA (s:Qab) (sa1:Option Addr) (sk1:Nat) (sa2:Option Addr) (sk2:Nat) (sa3:Option Addr) (sk3:Nat) (to_:Qag) (QcL:Qaa s.Width) (hto__0:Qaa to_.Node) (hto__1:Qaa to_.Bit) (hv0:QcT s) (ht0:(0<=to_.Node/\to_.Node < (s.Deps.length:Int))/\0<=to_.Bit/\to_.Bit < s.Width) (rr:List Int) (hrr:Qbp s to_=rr):FT Tryz.prog 33 #[.agg #[vi s.Width,vl sa1 sk1 s.Deps,vl sa2 sk2 s.Transfers,vl sa3 sk3 s.Boundary],.agg #[vi to_.Node,vi to_.Bit]] [S sa1 sk1 s.Deps,S sa2 sk2 s.Transfers,S sa3 sk3 s.Boundary] (fun g:Value=>True) (fun g=>g) (fun g=>[os g rr]):=by
 refine FTi Tryz.func33 fun w0 M0 F0=>?_
 unfold Qaa at QcL hto__0 hto__1
 refine Fb 24 0 fun _=>Fb 88 1 fun _=>Fb 32 2 fun _=>?_
 have hv2:=hv0.tl
 have hv3:=hv0.bl
 have hv4:=hv0.w
 have hv1:=hv0.n
 have hbw:=QwQ hv0
 have hbe:=QzF hv0
 have htx:=QoF (B:=(s.Boundary.length:Int)) (W:=s.Width) (m:=to_.Node) ht0.1.1 aM1 hv4.1
 refine KS ?_
 refine Oa (Ab [vi s.Width,vl sa1 sk1 s.Deps,vl sa2 sk2 s.Transfers,vl sa3 sk3 s.Boundary]) fun p4=>Oa (Ab [vi to_.Node,vi to_.Bit]) fun p5=>Oq Va (KS ?_)
 refine Oq (Vfa Qc8 1) (Oq (Qai Qjc 1) (Oq (Qbc Qd2) (Oq (Vfa Qb7 1) (Oq (Qai sh3 1) (Oq Qub ?_)))))
 refine Oa (Amk (α:=Int) QcP QmX (0:Int) (fun _ _=>⟨rfl,by unfold Qaa; decide⟩)) fun c6=>?_
 refine Jo 0 ?_; rintro a7 k8 rfl
 refine Fb 8 0 fun _=>Fo 0 fun ho10=>?_
 have hn11:=List.length_replicate (n:=(((s.Boundary.length:Int)*s.Width):Int).toNat) (a:=((0:Int):Int))
 refine Oq Va (KS ?_)
 refine Oq Vm (Oq (Vfa Qdl 1) (Oq (Qai sh3 1) (Oq (Vfa Qb7 2) (Oq (Qai sh3 2) (Oq Qub (Oq (Vfa Qe8 1) (Oq (Qai sh3 1) (Oq QaS (Oq (Vi QcP 0) ?_)))))))))
 refine Ost (SoI [0] sh3) (KS ?_)
 refine Oq Va (KS ?_)
 have hterm19:QaC s ((s.Boundary.length*s.Width.toNat:Nat)+2) ((List.replicate (((s.Boundary.length:Int)*s.Width):Int).toNat (0:Int)).set (((to_.Node*s.Width)+to_.Bit):Int).toNat 1) 1≠LR.oof:=(by obtain ⟨d1,e1,_⟩:=QrK hv0 (d:=((List.replicate (((s.Boundary.length:Int)*s.Width):Int).toNat (0:Int)).set (((to_.Node*s.Width)+to_.Bit):Int).toNat 1)) (by simp only [List.length_set,List.length_replicate]; omega); rw [e1]; intro h; cases h)
 refine Kl (γ:=Nat×List Int×Int) (fun (r12,QvE,QbY)=>⟨[(2,p4),(5,.slice a7 ((List.replicate (((s.Boundary.length:Int)*s.Width):Int).toNat (0:Int)).length) k8),(6,vi QbY)],[os (.slice a7 ((List.replicate (((s.Boundary.length:Int)*s.Width):Int).toNat (0:Int)).length) k8) QvE,pv p4 [vi s.Width,vl sa1 sk1 s.Deps,vl sa2 sk2 s.Transfers,vl sa3 sk3 s.Boundary],S sa1 sk1 s.Deps,S sa2 sk2 s.Transfers,S sa3 sk3 s.Boundary],QaC s r12 QvE QbY=QaC s ((s.Boundary.length*s.Width.toNat:Nat)+2) ((List.replicate (((s.Boundary.length:Int)*s.Width):Int).toNat (0:Int)).set (((to_.Node*s.Width)+to_.Bit):Int).toNat 1) 1/\(-9223372036854775808<=QbY/\QbY<=9223372036854775807)/\(QvE.length:Int)=(s.Boundary.length:Int)*s.Width/\(1<=QbY/\QbY+(r12:Int)<=((s.Boundary.length*s.Width.toNat:Nat):Int)+3),r12⟩) (((s.Boundary.length*s.Width.toNat:Nat)+2),((List.replicate (((s.Boundary.length:Int)*s.Width):Int).toNat (0:Int)).set (((to_.Node*s.Width)+to_.Bit):Int).toNat 1),1) [0,1,2,3,4] ⟨rfl,aM1,iv0,iv0⟩ ?_
 rintro ⟨r12,QvE,QbY⟩ ⟨hM15,hk16,hv17,hv18⟩
 refine QaE fun _ _ hL hA=>?_; dsimp only at hL hA; subst hL hA
 refine Fb 8 0 fun _=>Fo 0 fun ho21=>Fl 0 fun hn22=>?_
 refine Fb 24 2 fun _=>Fb 88 3 fun _=>Fb 32 4 fun _=>?_
 rcases r12 with _ | r12
 ·exact absurd (hM15.symm.trans rfl) hterm19
 refine KS ?_
 refine Oq Va (KS ?_)
 refine Oq Va (KS ?_)
 refine Kl (γ:=Nat×List Int×Bool×Int) (fun (r26,QsA,QkK,QhB)=>⟨[(2,p4),(5,.slice a7 ((List.replicate (((s.Boundary.length:Int)*s.Width):Int).toNat (0:Int)).length) k8),(6,vi QbY),(7,vb QkK),(8,vi QhB)],[os (.slice a7 ((List.replicate (((s.Boundary.length:Int)*s.Width):Int).toNat (0:Int)).length) k8) QsA,pv p4 [vi s.Width,vl sa1 sk1 s.Deps,vl sa2 sk2 s.Transfers,vl sa3 sk3 s.Boundary],S sa1 sk1 s.Deps,S sa2 sk2 s.Transfers,S sa3 sk3 s.Boundary],Qay s QbY r26 QsA QkK QhB=Qay s QbY (((s.Boundary.length:Int) - 0).toNat) QvE false 0/\r26=((s.Boundary.length:Int) - QhB).toNat/\(0:Int)<=QhB/\QhB<=(s.Boundary.length:Int)/\(-9223372036854775808<=QhB/\QhB<=9223372036854775807)/\(QsA.length:Int)=(s.Boundary.length:Int)*s.Width,r26⟩) (((s.Boundary.length:Int) - 0).toNat,QvE,false,0) [0,0,1,2,3] ⟨rfl,rfl,aM1,aM1,aM1,iv0⟩ ?_
 rintro ⟨r26,QsA,QkK,QhB⟩ ⟨hM30,hr31,hi32,hi33,hk34,hv35⟩
 refine QaE fun _ _ hL hA=>?_; dsimp only at hL hA; subst hL hA
 refine Fb 8 0 fun _=>Fo 0 fun ho37=>Fl 0 fun hn38=>?_
 refine Fb 24 2 fun _=>Fb 88 3 fun _=>Fb 32 4 fun _=>KS ?_
 refine Oq Vm (Oq (Vfa Qc8 1) (Oq (Qai Qjc 1) (Oq (Qbc Qd2) (Oq Qbo (KS ?_)))))
 refine Kc ?_ ?_
 ·intro h42
  have g43:=dt h42
  have hnx:=QoF (B:=(s.Boundary.length:Int)) (W:=s.Width) (m:=QhB) aM1 aM1 hv4.1
  obtain ⟨r44,rfl⟩:=scc (n:=r26) aM1
  refine KS ?_
  refine Oq Va (KS ?_)
  refine Kl (γ:=Nat×List Int×Bool×Int) (fun (r45,Qt5,QjE,Qk2)=>⟨[(2,p4),(5,.slice a7 ((List.replicate (((s.Boundary.length:Int)*s.Width):Int).toNat (0:Int)).length) k8),(6,vi QbY),(7,vb QjE),(8,vi QhB),(9,vi Qk2)],[os (.slice a7 ((List.replicate (((s.Boundary.length:Int)*s.Width):Int).toNat (0:Int)).length) k8) Qt5,pv p4 [vi s.Width,vl sa1 sk1 s.Deps,vl sa2 sk2 s.Transfers,vl sa3 sk3 s.Boundary],S sa1 sk1 s.Deps,S sa2 sk2 s.Transfers,S sa3 sk3 s.Boundary],QaR s QbY QhB r45 Qt5 QjE Qk2=QaR s QbY QhB (((((s.Deps.getD QhB.toNat []).length:Int):Int) - 0).toNat) QsA QkK 0/\r45=((((s.Deps.getD QhB.toNat []).length:Int):Int) - Qk2).toNat/\(0:Int)<=Qk2/\(Qk2<=((s.Deps.getD QhB.toNat []).length:Int)\/Qk2=0)/\(-9223372036854775808<=Qk2/\Qk2<=9223372036854775807)/\(Qt5.length:Int)=(s.Boundary.length:Int)*s.Width,r45⟩) (((((s.Deps.getD QhB.toNat []).length:Int):Int) - 0).toNat,QsA,QkK,0) [0,0,1,2,3] ⟨rfl,rfl,aM1,(.inr rfl),aM1,iv0⟩ ?_
  rintro ⟨r45,Qt5,QjE,Qk2⟩ ⟨hM49,hr50,hi51,hi52,hk53,hv54⟩
  refine QaE fun _ _ hL hA=>?_; dsimp only at hL hA; subst hL hA
  refine Fb 8 0 fun _=>Fo 0 fun ho56=>Fl 0 fun hn57=>?_
  refine Fb 24 2 fun _=>Fb 88 3 fun _=>Fb 32 4 fun _=>KS ?_
  refine Oq Vm (Oq (Vfa Qbt 1) (Oq (Qai QfL 1) (Oq Vm (Oq (Vi QeN 2) ?_))))
  refine Qef QhB.toNat 2 rfl rng fun a61 k62=>?_
  refine Fb 8 1 fun _=>Fo 1 fun ho64=>?_
  refine Oq (Vld Qjs 0) (Oq (Qbc QcP) (Oq Qbo (KS ?_)))
  refine Kc ?_ ?_
  ·intro h65
   have g66:=dt h65
   have hdm:=hv0.dep_mem (j:=QhB) aM1 aM1 _ (QaA (xs:=s.Deps.getD QhB.toNat []) (i:=Qk2.toNat) (d:=0) aM1); have hmx:=QoF (B:=(s.Boundary.length:Int)) (W:=s.Width) hdm.1 aM1 hv4.1
   obtain ⟨r67,rfl⟩:=scc (n:=r45) aM1
   refine KS ?_
   refine Oq (Vfa Qbt 3) (Oq (Qai QfL 3) (Oq Vm (Oq (Vi QeN 4) (Oq (Vld Qjs 0) (Oq Vm (Oq (Vi QcP 1) ?_))))))
   have hb68:=ok1 (i:=Qk2.toNat) ho64 rng
   refine Oq (QjF sh3 1) (Oq Va (KS ?_))
   refine Oq Va (KS ?_)
   refine Kl (γ:=Nat×List Int×Bool×Int) (fun (r69,Qtz,QiG,Qoc)=>⟨[(2,p4),(5,.slice a7 ((List.replicate (((s.Boundary.length:Int)*s.Width):Int).toNat (0:Int)).length) k8),(6,vi QbY),(7,vb QiG),(8,vi QhB),(9,vi Qk2),(10,vi ((s.Deps.getD QhB.toNat []).getD Qk2.toNat 0)),(11,vi Qoc)],[os (.slice a7 ((List.replicate (((s.Boundary.length:Int)*s.Width):Int).toNat (0:Int)).length) k8) Qtz,pv p4 [vi s.Width,vl sa1 sk1 s.Deps,vl sa2 sk2 s.Transfers,vl sa3 sk3 s.Boundary],S sa1 sk1 s.Deps,S sa2 sk2 s.Transfers,S sa3 sk3 s.Boundary],QaM s QbY QhB ((s.Deps.getD QhB.toNat []).getD Qk2.toNat 0) r69 Qtz QiG Qoc=QaM s QbY QhB ((s.Deps.getD QhB.toNat []).getD Qk2.toNat 0) (((s.Width:Int) - 0).toNat) Qt5 QjE 0/\r69=((s.Width:Int) - Qoc).toNat/\(0:Int)<=Qoc/\(Qoc<=s.Width\/Qoc=0)/\(-9223372036854775808<=Qoc/\Qoc<=9223372036854775807)/\(Qtz.length:Int)=(s.Boundary.length:Int)*s.Width,r69⟩) (((s.Width:Int) - 0).toNat,Qt5,QjE,0) [2,2,3,4,5] ⟨rfl,rfl,aM1,(.inr rfl),aM1,iv0⟩ ?_
   rintro ⟨r69,Qtz,QiG,Qoc⟩ ⟨hM73,hr74,hi75,hi76,hk77,hv78⟩
   refine QaE fun _ _ hL hA=>?_; dsimp only at hL hA; subst hL hA
   refine Fb 8 0 fun _=>Fo 0 fun ho80=>Fl 0 fun hn81=>?_
   refine Fb 24 2 fun _=>Fb 88 3 fun _=>Fb 32 4 fun _=>KS ?_
   refine Oq Vm (Oq (Vfa Qb7 1) (Oq (Qai sh3 1) (Oq Qbo (KS ?_))))
   refine Kc ?_ ?_
   ·intro h85
    have g86:=dt h85
    obtain ⟨r87,rfl⟩:=scc (n:=r69) aM1
    refine KS ?_
    refine Oq Va (KS ?_)
    have hterm96:Qaq s QbY QhB ((s.Deps.getD QhB.toNat []).getD Qk2.toNat 0) Qoc (s.Width.toNat+1) Qtz QiG 0≠LR.oof:=(Quk aM1 aM1 aM1 hv4.1 aM1)
    refine Kl (γ:=Nat×List Int×Bool×Int) (fun (r88,Qso,Qh8,Qp9)=>⟨[(2,p4),(5,.slice a7 ((List.replicate (((s.Boundary.length:Int)*s.Width):Int).toNat (0:Int)).length) k8),(6,vi QbY),(7,vb Qh8),(8,vi QhB),(9,vi Qk2),(10,vi ((s.Deps.getD QhB.toNat []).getD Qk2.toNat 0)),(11,vi Qoc),(12,vi Qp9)],[os (.slice a7 ((List.replicate (((s.Boundary.length:Int)*s.Width):Int).toNat (0:Int)).length) k8) Qso,pv p4 [vi s.Width,vl sa1 sk1 s.Deps,vl sa2 sk2 s.Transfers,vl sa3 sk3 s.Boundary],S sa1 sk1 s.Deps,S sa2 sk2 s.Transfers,S sa3 sk3 s.Boundary],Qaq s QbY QhB ((s.Deps.getD QhB.toNat []).getD Qk2.toNat 0) Qoc r88 Qso Qh8 Qp9=Qaq s QbY QhB ((s.Deps.getD QhB.toNat []).getD Qk2.toNat 0) Qoc (s.Width.toNat+1) Qtz QiG 0/\(-9223372036854775808<=Qp9/\Qp9<=9223372036854775807)/\(Qso.length:Int)=(s.Boundary.length:Int)*s.Width/\(0<=Qp9/\Qp9<=s.Width),r88⟩) ((s.Width.toNat+1),Qtz,QiG,0) [0,0,1,2,3] ⟨rfl,aM1,iv0,iv0⟩ ?_
    rintro ⟨r88,Qso,Qh8,Qp9⟩ ⟨hM92,hk93,hv94,hv95⟩
    refine QaE fun _ _ hL hA=>?_; dsimp only at hL hA; subst hL hA
    refine Fb 8 0 fun _=>Fo 0 fun ho98=>Fl 0 fun hn99=>?_
    refine Fb 24 2 fun _=>Fb 88 3 fun _=>Fb 32 4 fun _=>?_
    rcases r88 with _ | r88
    ·exact absurd (hM92.symm.trans rfl) hterm96
    refine KS ?_
    refine Oq Vm (Oq Vm (Oq (Vfa Qb7 1) (Oq (Qai sh3 1) (Oq Qub (Oq Vm (Oq QaS (Oq (Vi QcP 0) ?_)))))))
    have hb103:=ok1 (i:=(((QhB*s.Width)+Qoc):Int).toNat) ho98 rng
    refine Oq (QjF sh3 0) (Oq Vm (Oq Qcb (Oq Vm ?_)))
    refine Js 74 ?_ ?_
    ·intro h104
     have g105:=eq_of_beq h104
     refine Oq Vm (Oq (Vfa Qb7 1) (Oq (Qai sh3 1) (Oq Qbo (Oq Vpt (KS ?_)))))
     refine Kc ?_ ?_
     ·intro h106
      have g107:=dt h106
      refine KS ?_
      refine Oq Vm (Oq Vm (Oq (Vfa Qb7 1) (Oq (Qai sh3 1) (Oq Qub (Oq Vm (Oq QaS (Oq (Vi QcP 0) ?_)))))))
      have hb108:=ok1 (i:=(((((s.Deps.getD QhB.toNat []).getD Qk2.toNat 0)*s.Width)+Qp9):Int).toNat) ho98 rng
      refine Oq (QjF sh3 0) (Oq Qcb (Oq Vm ?_))
      refine Js 92 ?_ ?_
      ·intro h109
       have g110:=eq_of_beq h109
       refine Oq (Vfa Qco 1) (Oq (Qai QiS 1) (Oq Vm (Oq (Vi Qhi 3) ?_)))
       refine Qa0 (((s.Deps.getD QhB.toNat []).getD Qk2.toNat 0):Int).toNat 3 rfl rng fun a111 k112 a113 k114 a115 k116 hb117 hb118=>?_
       unfold Qaa at hb117 hb118
       refine Fb 8 1 fun _=>Fb 8 2 fun _=>Fb 16 3 fun _=>?_
       refine Oq (Qar Qdm 0) (Oq Vm (Oq Vm ?_))
       refine QaO (Qcm (s.Transfers.getD (((s.Deps.getD QhB.toNat []).getD Qk2.toNat 0):Int).toNat default) Qp9 Qoc) fun rv122 hg123=>?_
       have hc124:=Qz8 ((s.Transfers.getD (((s.Deps.getD QhB.toNat []).getD Qk2.toNat 0):Int).toNat default)) a111 k112 a113 k114 a115 k116 Qp9 Qoc pre pre pre pre rv122 hg123
       refine Oc [1,2,3] QzQ hc124 ?_
       rintro - -
       refine Oq Vpt (KS ?_)
       refine Kc ?_ ?_
       ·intro h125
        refine KS ?_
        refine Oq Vm (Oq Vm (Oq (Vfa Qb7 5) (Oq (Qai sh3 5) (Oq Qub (Oq Vm (Oq QaS (Oq Vm (Oq QaS (Oq (Vi QcP 4) ?_)))))))))
        refine Ost (SoI [4] sh3) (Oq Va (KS ?_))
        refine Oq Vm (Oq QaS (Oq Va (KS ?_)))
        exact Kg (r88,(Qso.set (((((s.Deps.getD QhB.toNat []).getD Qk2.toNat 0)*s.Width)+Qp9):Int).toNat (QbY+1)),true,(Qp9+1)) [0,4,5,6,7] ⟨(q3 hM92 (by simp only [Qaq,h104,h106,h109,h125,hg123,cs4])),aM1,iv1,iv1⟩
       intro h125
       refine KS ?_
       refine Oq Vm (Oq QaS (Oq Va (KS ?_)))
       exact Kg (r88,Qso,Qh8,(Qp9+1)) [4,4,5,6,7] ⟨(q3 hM92 (by simp only [Qaq,h104,h106,h109,h125,hg123,cs4])),aM1,iv1,iv1⟩
      intro h109
      have g128:=ne_of_beq_false h109
      refine Osk (Osk (Osk (Osk (Osk (Osk (Osk (Osk (Oq Vpf (KS ?_)))))))))
      refine Kf (KS ?_)
      refine Oq Vm (Oq QaS (Oq Va (KS ?_)))
      exact Kg (r88,Qso,Qh8,(Qp9+1)) [0,0,1,2,3] ⟨(q3 hM92 (by simp only [Qaq,h104,h106,h109,cs4])),aM1,iv1,iv1⟩
     intro h106
     have g129:=df h106
     refine Ke ?_
     have hR130:=q2 hM92 (.brk (Qso,Qh8)) (by simp only [Qaq,h104,h106,cs4])
     refine KS ?_
     refine Oq Vm (Oq QaS (Oq Va (KS ?_)))
     exact Kg (r87,Qso,Qh8,(Qoc+1)) [0,0,1,2,3] ⟨(q3 hM73 (by simp only [QaM,h85,h104,h106,hR130,cs4])),aM1,aM1,aM1,aM1,iv1⟩
    intro h104
    have g131:=ne_of_beq_false h104
    refine Osk (Osk (Osk (Osk (Oq Vpf (KS ?_)))))
    refine Kf ?_
    refine Ke ?_
    have hR132:=q2 hM92 (.brk (Qso,Qh8)) (by simp only [Qaq,h104,cs4])
    refine KS ?_
    refine Oq Vm (Oq QaS (Oq Va (KS ?_)))
    exact Kg (r87,Qso,Qh8,(Qoc+1)) [0,0,1,2,3] ⟨(q3 hM73 (by simp only [QaM,h85,h104,hR132,cs4])),aM1,aM1,aM1,aM1,iv1⟩
   intro h85
   have g133:=df h85
   obtain rfl:r69=0:=by omega
   refine Ke ?_
   have hR134:=q2 hM73 (Qtz,QiG) (by simp only [QaM,h85,cs4])
   refine KS ?_
   refine Oq Vm (Oq QaS (Oq Va (KS ?_)))
   exact Kg (r67,Qtz,QiG,(Qk2+1)) [0,0,1,2,3] ⟨(q3 hM49 (by simp only [QaR,h65,h85,hR134,cs4])),aM1,aM1,aM1,aM1,iv1⟩
  intro h65
  have g135:=df h65
  obtain rfl:r45=0:=by omega
  refine Ke ?_
  have hR136:=q2 hM49 (Qt5,QjE) (by simp only [QaR,h65,cs4])
  refine KS ?_
  refine Oq Vm (Oq QaS (Oq Va (KS ?_)))
  exact Kg (r44,Qt5,QjE,(QhB+1)) [2,2,3,4,5] ⟨(q3 hM30 (by simp only [Qay,h42,h65,hR136,cs4])),aM1,aM1,aM1,aM1,iv1⟩
 intro h42
 have g137:=df h42
 obtain rfl:r26=0:=by omega
 refine Ke ?_
 have hR138:=q2 hM30 (QsA,QkK) (by simp only [Qay,h42,cs4])
 refine KS ?_
 refine Oq Vm (Oq QcN (KS ?_))
 refine Kc ?_ ?_
 ·intro h139
  have h141:=not_true h139
  refine KS ?_
  refine Oq Vm (Oq Va (KS ?_))
  have hR143:=q2 hM15 (.ret QsA) (by simp only [QaC,h42,h139,h141,hR138,cs4])
  have hq:=q4 hrr QsA (by simp only [Qbp,h42,h139,h141,hR138,hR143,cs4]); subst hq
  exact Kr (.slice a7 ((List.replicate (((s.Boundary.length:Int)*s.Width):Int).toNat (0:Int)).length) k8) rfl (.tmp rfl .nil) [0] trivial
 intro h139
 have h145:=not_false h139
 refine KS ?_
 refine Oq Vm (Oq QaS (Oq Va (KS ?_)))
 exact Kg (r12,QsA,(QbY+1)) [0,0,1,2,3] ⟨(q3 hM15 (by simp only [QaC,h42,h139,h145,hR138,cs4])),aM1,iv1,iv1⟩
theorem QzV (s:Qab) (sa1:Option Addr) (sk1:Nat) (sa2:Option Addr) (sk2:Nat) (sa3:Option Addr) (sk3:Nat) (h:Qag) (QcL:Qaa s.Width) (Qvm:Qaa h.Node) (Qvn:Qaa h.Bit) (hv0:QcT s) (hn0:0<=h.Node/\h.Node < (s.Deps.length:Int)) (rr:Bool) (hrr:Qbx s h=rr):FT Tryz.prog 34 #[.agg #[vi s.Width,vl sa1 sk1 s.Deps,vl sa2 sk2 s.Transfers,vl sa3 sk3 s.Boundary],.agg #[vi h.Node,vi h.Bit]] [S sa1 sk1 s.Deps,S sa2 sk2 s.Transfers,S sa3 sk3 s.Boundary] (fun g:Unit=>True) (fun g=>vb rr) (fun g=>[]):=by
 refine FTi Tryz.func34 fun w0 M0 F0=>?_
 unfold Qaa at QcL Qvm Qvn
 refine Fb 24 0 fun _=>Fb 88 1 fun _=>Fb 32 2 fun _=>?_
 have hv2:=hv0.tl
 have hv3:=hv0.bl
 refine KS ?_
 refine Oa (Ab [vi s.Width,vl sa1 sk1 s.Deps,vl sa2 sk2 s.Transfers,vl sa3 sk3 s.Boundary]) fun p4=>Oa (Ab [vi h.Node,vi h.Bit]) fun p5=>Oq Va (KS ?_)
 refine Qbf h.Node.toNat 4 rfl rng fun a6 k7 hb8=>?_
 unfold Qaa at hb8
 refine Fb 8 1 fun _=>?_
 refine Qam [0,1,0,4,15,31,0,64,255] QcF ?_
 refine Dv [3] (Vfa Qc8 0) (Dv [3] (Qai Qjc 0) (Dv [2] (Vfa Qdl 0) (Dv [2] (Qai sh3 0) (Dv [6] (Vi Qd2 0) (Dv [0] (Qar Qaw 0) (Dv [2] (Vfa Qe8 0) (Dv [2] (Qai sh3 0) ?_)))))))
 refine QaO (Qas (s.Boundary.getD h.Node.toNat default) h.Bit) fun rv10 hg11=>Dx [1] [] [1,0] (fun G=>vb rv10) [fun G=>SP.fact (True)] (fun G=>xC [0] Qtc (Qtx ((s.Boundary.getD h.Node.toNat default)) a6 k7 h.Bit pre pre rv10 hg11)) ?_
 refine Dn ⟨by kernel_rfl,fun G=>?_⟩
 refine Jw2 [(2,p4),(3,p5),(14,vb rv10)] [0,1,2,3,4,5,6] [SP.fact (True)] ?_
 refine Jk [0,1,2,3,4,5,6] ?_
 refine Kc ?_ ?_
 ·intro h12
  refine KS ?_
  refine Oq Va (KS ?_)
  have hq:=q4 hrr true (by simp only [Qbx,h12,hg11,cs4]); subst hq
  exact Kr () rfl (.tmp rfl .nil) [] trivial
 intro h12
 refine KS ?_
 refine Oq Va (KS ?_)
 refine Kl (γ:=Nat×Int) (fun (r15,Qe6)=>⟨[(2,p4),(3,p5),(5,vi Qe6)],[pv p5 [vi h.Node,vi h.Bit],pv p4 [vi s.Width,vl sa1 sk1 s.Deps,vl sa2 sk2 s.Transfers,vl sa3 sk3 s.Boundary],S sa1 sk1 s.Deps,S sa2 sk2 s.Transfers,S sa3 sk3 s.Boundary],Qc1 s h r15 Qe6=Qc1 s h (((((s.Deps.getD h.Node.toNat []).length:Int):Int) - 0).toNat) 0/\r15=((((s.Deps.getD h.Node.toNat []).length:Int):Int) - Qe6).toNat/\(0:Int)<=Qe6/\(Qe6<=((s.Deps.getD h.Node.toNat []).length:Int)\/Qe6=0)/\(-9223372036854775808<=Qe6/\Qe6<=9223372036854775807),r15⟩) (((((s.Deps.getD h.Node.toNat []).length:Int):Int) - 0).toNat,0) [2,3,4,5,6] ⟨rfl,rfl,aM1,(.inr rfl),aM1⟩ ?_
 rintro ⟨r15,Qe6⟩ ⟨hM17,hr18,hi19,hi20,hk21⟩
 refine QaE fun _ _ hL hA=>?_; dsimp only at hL hA; subst hL hA
 refine Fb 24 2 fun _=>Fb 88 3 fun _=>Fb 32 4 fun _=>KS ?_
 refine Oq Vm (Oq (Vfa Qbt 1) (Oq (Qai QfL 1) (Oq (Vfa Qdl 0) (Oq (Qai sh3 0) (Oq (Vi QeN 2) ?_)))))
 refine Qef h.Node.toNat 2 rfl rng fun a25 k26=>?_
 refine Fb 8 1 fun _=>Fo 1 fun ho28=>?_
 refine Oq (Vld Qjs 0) (Oq (Qbc QcP) (Oq Qbo (KS ?_)))
 refine Kc ?_ ?_
 ·intro h29
  have g30:=dt h29
  have hq:=hv0.dep_mem hn0.1 hn0.2 _ (QaA (xs:=s.Deps.getD h.Node.toNat []) (i:=Qe6.toNat) (d:=0) aM1)
  obtain ⟨r31,rfl⟩:=scc (n:=r15) aM1
  refine KS ?_
  refine Qa0 (((s.Deps.getD h.Node.toNat []).getD Qe6.toNat 0):Int).toNat 5 rfl rng fun a32 k33 a34 k35 a36 k37 hb38 hb39=>?_
  unfold Qaa at hb38 hb39
  refine Fb 8 1 fun _=>Fb 8 2 fun _=>Fb 16 3 fun _=>?_
  refine Qam [0,1,0,4,0,16,60,124,0,508,1020,2047,4095,8191,0,16384,65535] QcF ?_
  refine Dv [7] (Vfa Qco 0) (Dv [7] (Qai QiS 0) (Dv [7] (Vfa Qbt 0) (Dv [7] (Qai QfL 0) (Dv [6] (Vfa Qdl 0) (Dv [6] (Qai sh3 0) (Dv [8] (Vi QeN 0) (Dv [4] (Vld Qjs 0) (Dv [] Vm (Dv [5] (Vi QcP 0) ?_)))))))))
  have hb43:=ok1 (i:=Qe6.toNat) ho28 rng
  refine Dv [5] (QjF sh3 0) (Dv [9] (Vi Qhi 0) (Dv [0] (Vfa Qdx 0) (Dv [0] (Qml Qaw 0 [vi (((s.Transfers.getD (((s.Deps.getD h.Node.toNat []).getD Qe6.toNat 0):Int).toNat default).Gen).Width),.slice a32 ((((s.Transfers.getD (((s.Deps.getD h.Node.toNat []).getD Qe6.toNat 0):Int).toNat default).Gen).Words).length) k33]) (Dv [6] (Vfa Qe8 0) (Dv [6] (Qai sh3 0) ?_)))))
  refine QaO (Qas ((s.Transfers.getD (((s.Deps.getD h.Node.toNat []).getD Qe6.toNat 0):Int).toNat default).Gen) h.Bit) fun rv44 hg45=>Dx [1] [] [1,0] (fun G=>vb rv44) [fun G=>SP.fact (True)] (fun G=>xC [0] Qtc (Qtx (((s.Transfers.getD (((s.Deps.getD h.Node.toNat []).getD Qe6.toNat 0):Int).toNat default).Gen)) a32 k33 h.Bit pre pre rv44 hg45)) ?_
  refine Dn ⟨by kernel_rfl,fun G=>?_⟩
  refine Jw2 [(2,p4),(3,p5),(5,vi Qe6),(42,vb rv44)] [0,1,2,3,4,5,6,7,8,9,10] [SP.fact (True)] ?_
  refine Jk [0,1,2,3,4,5,6,7,8,9,10] ?_
  refine Kc ?_ ?_
  ·intro h46
   refine KS ?_
   refine Oq Va (KS ?_)
   have hR48:=q2 hM17 (.ret true) (by simp only [Qc1,h29,h46,hg45,cs4])
   have hq:=q4 hrr true (by simp only [Qbx,h12,h29,h46,hg11,hg45,hR48,cs4]); subst hq
   exact Kr () rfl (.tmp rfl .nil) [] trivial
  intro h46
  refine KS ?_
  refine Oq Vm (Oq QaS (Oq Va (KS ?_)))
  exact Kg (r31,(Qe6+1)) [6,7,8,9,10] ⟨(q3 hM17 (by simp only [Qc1,h29,h46,hg45,cs4])),aM1,aM1,aM1,aM1⟩
 intro h29
 have g50:=df h29
 obtain rfl:r15=0:=by omega
 refine Ke ?_
 have hR51:=q2 hM17 (.brk ()) (by simp only [Qc1,h29,cs4])
 refine KS ?_
 refine Oq Va (KS ?_)
 have hq:=q4 hrr false (by simp only [Qbx,h12,h29,hg11,hR51,cs4]); subst hq
 exact Kr () rfl (.tmp rfl .nil) [] trivial
theorem QAb (l:List Int) (la0:Option Addr) (lk0:Nat) (n:Int) (Qf1:Qaa n) (rr:Bool) (hrr:QjJ l n=rr):FT Tryz.prog 66 #[vl la0 lk0 l,vi n] [S la0 lk0 l] (fun g:Unit=>True) (fun g=>vb rr) (fun g=>[]):=by
 refine FTi Tryz.func66 fun w0 M0 F0=>?_
 unfold Qaa at Qf1
 refine Fb 8 0 fun _=>Fo 0 fun ho2=>KS ?_
 refine Oq Va (KS ?_)
 refine Oq Va (KS ?_)
 refine Kl (γ:=Nat×Int) (fun (r3,i_4)=>⟨[(0,vl la0 lk0 l),(1,vi n),(5,vi i_4)],[S la0 lk0 l],QfE l n r3 i_4=QfE l n (((l.length:Int) - 0).toNat) 0/\r3=((l.length:Int) - i_4).toNat/\(0:Int)<=i_4/\i_4<=(l.length:Int)/\(-9223372036854775808<=i_4/\i_4<=9223372036854775807),r3⟩) (((l.length:Int) - 0).toNat,0) [0] ⟨rfl,rfl,aM1,aM1,aM1⟩ ?_
 rintro ⟨r3,i_4⟩ ⟨hM5,hr6,hi7,hi8,hk9⟩
 refine QaE fun _ _ hL hA=>?_; dsimp only at hL hA; subst hL hA
 refine Fb 8 0 fun _=>Fo 0 fun ho11=>KS ?_
 refine Oq Vm (Oq Vm (Oq (Qbc QcP) (Oq Qbo (KS ?_))))
 refine Kc ?_ ?_
 ·intro h12
  have g13:=dt h12
  obtain ⟨r14,rfl⟩:=scc (n:=r3) aM1
  refine KS ?_
  refine Oq Vm (Oq Vm (Oq (Vi QcP 0) ?_))
  have hb15:=ok1 (i:=i_4.toNat) ho11 rng
  refine Oq (QjF sh3 0) (Oq Vm (Oq Qcb (KS ?_)))
  refine Kc ?_ ?_
  ·intro h16
   have g17:=eq_of_beq h16
   refine KS ?_
   refine Oq Va (KS ?_)
   have hR18:=q2 hM5 (.ret true) (by simp only [QfE,h12,h16,cs4])
   have hq:=q4 hrr true (by simp only [QjJ,h12,h16,hR18,cs4]); subst hq
   exact Kr () rfl (.tmp rfl .nil) [] trivial
  intro h16
  have g19:=ne_of_beq_false h16
  refine KS ?_
  refine Oq Vm (Oq QaS (Oq Va (KS ?_)))
  exact Kg (r14,(i_4+1)) [0] ⟨(q3 hM5 (by simp only [QfE,h12,h16,cs4])),aM1,aM1,aM1,aM1⟩
 intro h12
 have g20:=df h12
 obtain rfl:r3=0:=by omega
 refine Ke ?_
 have hR21:=q2 hM5 (.brk ()) (by simp only [QfE,h12,cs4])
 refine KS ?_
 refine Oq Va (KS ?_)
 have hq:=q4 hrr false (by simp only [QjJ,h12,hR21,cs4]); subst hq
 exact Kr () rfl (.tmp rfl .nil) [] trivial
theorem QBq (s:Qab) (sa1:Option Addr) (sk1:Nat) (sa2:Option Addr) (sk2:Nat) (sa3:Option Addr) (sk3:Nat) (a:Qag) (b:Qag) (QcL:Qaa s.Width) (Qke:Qaa a.Node) (Qvi:Qaa a.Bit) (QgI:Qaa b.Node) (Qvj:Qaa b.Bit) (hv0:QcT s) (ha0:0<=a.Node/\a.Node < (s.Deps.length:Int)) (hb0:0<=b.Node/\b.Node < (s.Deps.length:Int)) (rr:Bool) (hrr:Qde s a b=rr):FT Tryz.prog 35 #[.agg #[vi s.Width,vl sa1 sk1 s.Deps,vl sa2 sk2 s.Transfers,vl sa3 sk3 s.Boundary],.agg #[vi a.Node,vi a.Bit],.agg #[vi b.Node,vi b.Bit]] [S sa1 sk1 s.Deps,S sa2 sk2 s.Transfers,S sa3 sk3 s.Boundary] (fun g:Unit=>True) (fun g=>vb rr) (fun g=>[]):=by
 refine FTi Tryz.func35 fun w0 M0 F0=>?_
 unfold Qaa at QcL Qke Qvi QgI Qvj
 refine Fb 24 0 fun _=>Fb 88 1 fun _=>Fb 32 2 fun _=>?_
 have hv2:=hv0.tl
 have hv3:=hv0.bl
 refine KS ?_
 refine Oa (Ab [vi s.Width,vl sa1 sk1 s.Deps,vl sa2 sk2 s.Transfers,vl sa3 sk3 s.Boundary]) fun p4=>Oa (Ab [vi a.Node,vi a.Bit]) fun p5=>Oa (Ab [vi b.Node,vi b.Bit]) fun p6=>Oq Va (KS ?_)
 refine Qef b.Node.toNat 3 rfl rng fun a7 k8=>?_
 refine Fb 8 1 fun _=>Fo 1 fun ho10=>?_
 refine QaO (QjJ (s.Deps.getD b.Node.toNat []) a.Node) fun rv11 hg12=>?_
 refine Qa5 rv11 ?_ ?_
 ·intro h13
  refine Qa0 a.Node.toNat 6 rfl rng fun a15 k16 a17 k18 a19 k20 hb21 hb22=>?_
  unfold Qaa at hb21 hb22
  refine Fb 8 1 fun _=>Fb 8 2 fun _=>Fb 16 3 fun _=>?_
  refine Qam [0,1,0,4,15,31,0,64,255,511,1023,2047,1023,5119,16383,32767,1023,66559,1023,263167,1048575,2097151,4194303] QcF ?_
  refine Dv [8] (Vfa Qbt 0) (Dv [8] (Qai QfL 0) (Dv [6] (Vfa Qdl 0) (Dv [6] (Qai sh3 0) (Dv [9] (Vi QeN 0) (Dv [4] (Vld Qjs 0) (Dv [7] (Vfa Qdl 0) (Dv [7] (Qai sh3 0) ?_)))))))
  refine Dx [5] [] [1,0] (fun G=>vb true) [fun G=>SP.fact (True)] (fun G=>xC [0] QzR (QAb ((s.Deps.getD b.Node.toNat [])) a7 k8 a.Node pre rv11 hg12)) ?_ (hV:=fun _ _=>congrArg Value.bool h13)
  refine Dv [] Vm (Dv [8] (Vfa Qco 0) (Dv [8] (Qai QiS 0) (Dv [7] (Vfa Qdl 0) (Dv [7] (Qai sh3 0) (Dv [10] (Vi Qhi 0) (Dv [0] (Qar Qdm 0) (Dv [7] (Vfa Qe8 0) (Dv [7] (Qai sh3 0) (Dv [6] (Vfa Qe8 0) ?_)))))))))
  refine Dv [6] (Qai sh3 0) ?_
  refine QaO (Qcm (s.Transfers.getD a.Node.toNat default) a.Bit b.Bit) fun rv26 hg27=>?_
  refine Dx [1,2,3] [] [1,2,3,0] (fun G=>vb rv26) [fun G=>SP.fact (True)] (fun G=>xC [0,1,2] QzQ (Qz8 ((s.Transfers.getD a.Node.toNat default)) a15 k16 a17 k18 a19 k20 a.Bit b.Bit pre pre pre pre rv26 hg27)) (Dv [] Vpt (Dv [] Va ?_))
  refine Dn ⟨by kernel_rfl,fun G=>?_⟩
  refine Jw2 [(6,vb rv26)] [0,1,2,3,4,5,6,7,8,9,10,11] [SP.fact (True),SP.fact (True)] ?_
  refine Jk [0,1,2,3,4,5,6,7,8,9,10,11] ?_
  have hq:=q4 hrr rv26 (by simp only [Qde,h13,hg12,hg27,cs4]); subst hq
  exact Kr () rfl (.tmp rfl .nil) [] trivial
 intro h13
 refine Qam [0,1,0,4,15,31,0,64,255,511,1023,2047,1023,5119,16383,32767,1023,66559,1023,263167,1048575,2097151,4194303] QcF ?_
 refine Dv [4] (Vfa Qbt 0) (Dv [4] (Qai QfL 0) (Dv [2] (Vfa Qdl 0) (Dv [2] (Qai sh3 0) (Dv [5] (Vi QeN 0) (Dv [0] (Vld Qjs 0) (Dv [3] (Vfa Qdl 0) (Dv [3] (Qai sh3 0) ?_)))))))
 refine Dx [1] [] [1,0] (fun G=>vb false) [fun G=>SP.fact (True)] (fun G=>xC [0] QzR (QAb ((s.Deps.getD b.Node.toNat [])) a7 k8 a.Node pre rv11 hg12)) ?_ (hV:=fun _ _=>congrArg Value.bool h13)
 refine Dv [] Vm (Ds (Ds (Ds (Ds (Ds (Ds (Ds (Ds (Ds ?_)))))))))
 refine Ds (Ds (Dv [] Vpf (Dv [] Va ?_)))
 refine Dn ⟨by kernel_rfl,fun G=>?_⟩
 refine Jw2 [(6,vb false)] [0,1,2,3,4,5,6,7] [SP.fact (True)] ?_
 refine Jk [0,1,2,3,4,5,6,7] ?_
 have hq:=q4 hrr false (by simp only [Qde,h13,hg12,cs4]); subst hq
 exact Kr () rfl (.tmp rfl .nil) [] trivial
theorem QBo (s:Qab) (sa1:Option Addr) (sk1:Nat) (sa2:Option Addr) (sk2:Nat) (sa3:Option Addr) (sk3:Nat) (n:Int) (bit:Int) (QcL:Qaa s.Width) (Qf1:Qaa n) (QfG:Qaa bit) (rr:List Qag×Bool×Int) (hrr:QeR s n bit=rr):FT Tryz.prog 10 #[.agg #[vi s.Width,vl sa1 sk1 s.Deps,vl sa2 sk2 s.Transfers,vl sa3 sk3 s.Boundary],vi n,vi bit] [S sa1 sk1 s.Deps,S sa2 sk2 s.Transfers,S sa3 sk3 s.Boundary] (fun g:Value=>Qaa rr.2.2/\((rr.1.length:Int)<=65541)) (fun g=>.tuple #[g,vb rr.2.1,vi rr.2.2]) (fun g=>[sl g rr.1]):=by
 refine FTi Tryz.func10 fun w0 M0 F0=>?_
 unfold Qaa at QcL Qf1 QfG
 refine Fb 24 0 fun _=>Fb 88 1 fun _=>Fb 32 2 fun _=>KS ?_
 refine Oa (Ab [vi s.Width,vl sa1 sk1 s.Deps,vl sa2 sk2 s.Transfers,vl sa3 sk3 s.Boundary]) fun p4=>Oq Va (Oq Va (Oq Va (KS ?_)))
 refine Oq (Qar Qeh 0) (Oq Vm (Oq Vm ?_))
 refine QaO (QbE s n bit) fun rv5 hg6=>?_
 have hc7:=QAm s sa1 sk1 sa2 sk2 sa3 sk3 n bit pre pre pre rv5 hg6
 refine Oc [1,2,3] QAs hc7 ?_
 rintro - he8
 unfold Qaa at he8
 refine Oq Va (KS ?_)
 refine Oq Vm (Oq Qf4 (KS ?_))
 refine Kc ?_ ?_
 ·intro h9
  have g10:=Qax h9
  refine KS ?_
  refine Oq Vm (Oq Va (Oq Va (Oq Va (KS ?_))))
  refine Jl [] (Ent.slNil (α:=Qag)) ?_
  have hq:=q4 hrr (([]:List Qag),false,rv5) (by simp only [QeR,h9,hg6,cs4]); subst hq
  exact Kr (.slice none 0 0) rfl (.tmp rfl (.tmp rfl (.tmp rfl .nil))) [0] ⟨en,(by dsimp only; first | omega | (simp; done))⟩
 intro h9
 have g11:=Qae h9
 have hwa:=Qr5 (by assumption:QbE s _ _=rv5) h9; have hwb:=hwa.1.bl; have hww:=hwa.1.w; have hwn:=hwa.1.n
 refine KS ?_
 refine Oq (Qar Qeh 0) (Oq Vm (Oq Vm (Oq (Vbd Qrg [vi n,vi bit]) ?_)))
 refine QaO (Qbp s (Qag.mk n bit)) fun rv13 hg14=>?_
 have hc15:=QAA s sa1 sk1 sa2 sk2 sa3 sk3 ((Qag.mk n bit)) pre pre pre hwa.1 hwa.2 rv13 hg14
 refine Oc [1,2,3] QBr hc15 ?_
 rintro c12 -
 refine Jo 0 ?_; rintro a16 k17 rfl
 refine Fb 8 0 fun _=>Fo 0 fun ho19=>?_
 refine Oq Va (KS ?_)
 refine Oq (Vbd Qrg [vi 0,vi 0]) (Oa (Al Qqu [vi 0,vi 0]) fun p20=>Ost (Scl [0] Qe4 [vi 0,vi 0]) (Oq Va (KS ?_)))
 refine Oq Va (KS ?_)
 refine Kl (γ:=Nat×Int×Int×Int×Int) (fun (r21,Qe1,QfI,QdW,QcR)=>⟨[(3,p4),(10,vl a16 k17 rv13),(11,p20),(12,vi QdW),(13,vi QcR)],[Cl p20 [vi Qe1,vi QfI],O a16 k17 rv13,pv p4 [vi s.Width,vl sa1 sk1 s.Deps,vl sa2 sk2 s.Transfers,vl sa3 sk3 s.Boundary],S sa1 sk1 s.Deps,S sa2 sk2 s.Transfers,S sa3 sk3 s.Boundary],QaY s rv13 r21 Qe1 QfI QdW QcR=QaY s rv13 (((rv13.length:Int) - 0).toNat) 0 0 0 0/\r21=((rv13.length:Int) - QcR).toNat/\(0:Int)<=QcR/\QcR<=(rv13.length:Int)/\(-9223372036854775808<=Qe1/\Qe1<=9223372036854775807)/\(-9223372036854775808<=QfI/\QfI<=9223372036854775807)/\(-9223372036854775808<=QdW/\QdW<=9223372036854775807)/\(-9223372036854775808<=QcR/\QcR<=9223372036854775807)/\(0<=Qe1/\Qe1 < (s.Deps.length:Int))/\(0<=QdW/\QdW<=65540),r21⟩) (((rv13.length:Int) - 0).toNat,0,0,0,0) [0,0,0,1,2,3] ⟨rfl,rfl,aM1,aM1,aM1,aM1,aM1,aM1,iv0,iv0⟩ ?_
 rintro ⟨r21,Qe1,QfI,QdW,QcR⟩ ⟨hM26,hr27,hi28,hi29,hk30,hk31,hk32,hk33,hv34,hv35⟩
 refine QaE fun _ _ hL hA=>?_; dsimp only at hL hA; subst hL hA
 refine Fb 8 1 fun _=>Fo 1 fun ho37=>Fb 24 3 fun _=>Fb 88 4 fun _=>Fb 32 5 fun _=>KS ?_
 refine Oq Vm (Oq Vm (Oq (Qbc QcP) (Oq Qbo (KS ?_))))
 refine Kc ?_ ?_
 ·intro h41
  have g42:=dt h41
  have hdl:=QpG hwa.1 (by assumption:Qbp s _=rv13); have hhx:=QrA (B:=(s.Boundary.length:Int)) (W:=s.Width) (i:=QcR) aM1 aM1 aM1
  obtain ⟨r43,rfl⟩:=scc (n:=r21) aM1
  refine KS ?_
  refine Qam [0,0,2,7,0,0,32,112,255,0,1023] QcF ?_
  refine Dv [] Vm (Dv [2] (Vfa Qb7 0) (Dv [2] (Qai sh3 0) (Dv [] Qq9 (Dv [] Vm (Dv [2] (Vfa Qb7 0) (Dv [2] (Qai sh3 0) (Dv [] Qve (Dv [] (Vbd Qrg [vi (QcR / s.Width),vi (QcR % s.Width)]) (Dx [] [] [0] (fun G=>(G.g 9 0)) [fun G=>Cl (G.g 9 0) [vi 0,vi 0]] (fun G=>xA (Al Qqu [vi 0,vi 0])) ?_)))))))))
  refine Dx0 [6] [6] [0] [fun G=>Cl (G.g 9 0) [vi (QcR / s.Width),vi (QcR % s.Width)]] (fun G=>xS (Scl [0] Qe4 [vi (QcR / s.Width),vi (QcR % s.Width)])) ?_
  refine Dn ⟨by kernel_rfl,fun G=>?_⟩
  refine Jw2 [(3,p4),(10,vl a16 k17 rv13),(11,p20),(12,vi QdW),(13,vi QcR),(14,(G.g 9 0))] [0,1,2,3,4,5] [Cl (G.g 9 0) [vi (QcR / s.Width),vi (QcR % s.Width)]] ?_
  generalize G.g 9 0=p44
  refine KS ?_
  refine Oq Vm (Oq Vm (Oq (Vi QcP 1) ?_))
  have hb45:=ok1 (i:=QcR.toNat) ho37 rng
  refine Oq (QjF sh3 1) (Oq QgZ (Oq Vm ?_))
  refine Js 52 ?_ ?_
  ·intro h46
   have g47:=dt h46
   have hdx:=Quc hwa.1 (by assumption:Qbp s _=rv13) _ (QaA (xs:=rv13) (i:=QcR.toNat) (d:=0) aM1)
   refine Oq Vm (Oq Qcb (Oq Vm ?_))
   refine Js 55 ?_ ?_
   ·intro h48
    have g49:=eq_of_beq h48
    refine Osk (Osk (Osk (Osk (Osk (Osk (Oq Vpt (Oq Vpt (Oq Vm (Oq (Qar Qeh 2) ?_)))))))))
    refine Oq (Qar Qe4 6) ?_
    refine QaO (Qbx s (Qag.mk (QcR / s.Width) (QcR % s.Width))) fun rv50 hg51=>?_
    have hc52:=QzV s sa1 sk1 sa2 sk2 sa3 sk3 ((Qag.mk (QcR / s.Width) (QcR % s.Width))) pre pre pre hwa.1 pre rv50 hg51
    refine Oc [3,4,5] QAf hc52 ?_
    rintro - -
    refine Oq Vpt (KS ?_)
    refine Kc ?_ ?_
    ·intro h53
     refine Qam [0,0,0,6,14,1,63] QcF ?_
     refine Dv [6] (Qar Qe4 0) (Dv [] Vm (Dv [] Vm (Dv [1] (Vi QcP 0) ?_)))
     have hb55:=ok1 (i:=QcR.toNat) ho37 rng
     refine Dv [1] (QjF sh3 0) (Dx0 [0] [0] [0] [fun G=>Cl p20 [vi (QcR / s.Width),vi (QcR % s.Width)]] (fun G=>xS (Scl [0] Qe4 [vi (QcR / s.Width),vi (QcR % s.Width)])) (Dv [] Va ?_))
     refine Dn ⟨by kernel_rfl,fun G=>?_⟩
     refine Jw2 [(3,p4),(10,vl a16 k17 rv13),(11,p20),(13,vi QcR),(12,vi (rv13.getD QcR.toNat 0))] [1,2,3,4,5,6] [Cl p20 [vi (QcR / s.Width),vi (QcR % s.Width)]] ?_
     refine KS ?_
     refine Oq Vm (Oq QaS (Oq Va (KS ?_)))
     exact Kg (r43,(QcR / s.Width),(QcR % s.Width),(rv13.getD QcR.toNat 0),(QcR+1)) [6,0,0,1,2,3] ⟨(q3 hM26 (by simp only [QaY,h41,h46,h48,h53,hg51,cs4])),aM1,aM1,aM1,aM1,aM1,aM1,aM1,iv1,iv1⟩
    intro h53
    refine KS ?_
    refine Oq Vm (Oq QaS (Oq Va (KS ?_)))
    exact Kg (r43,Qe1,QfI,QdW,(QcR+1)) [0,0,0,1,2,3] ⟨(q3 hM26 (by simp only [QaY,h41,h46,h48,h53,hg51,cs4])),aM1,aM1,aM1,aM1,aM1,aM1,aM1,iv1,iv1⟩
   intro h48
   have g57:=ne_of_beq_false h48
   refine Oq Vm (Oq Vm (Oq (Vi QcP 1) ?_))
   have hb58:=ok1 (i:=QcR.toNat) ho37 rng
   refine Oq (QjF sh3 1) (Oq Vm (Oq Qbo (Oq Vpf (Oq Vpt (Oq Vm ?_)))))
   refine Js 64 ?_ ?_
   ·intro h59
    have g60:=dt h59
    refine Oq (Qar Qeh 2) (Oq (Qar Qe4 6) ?_)
    refine QaO (Qbx s (Qag.mk (QcR / s.Width) (QcR % s.Width))) fun rv61 hg62=>?_
    have hc63:=QzV s sa1 sk1 sa2 sk2 sa3 sk3 ((Qag.mk (QcR / s.Width) (QcR % s.Width))) pre pre pre hwa.1 pre rv61 hg62
    refine Oc [3,4,5] QAf hc63 ?_
    rintro - -
    refine Oq Vpt (KS ?_)
    refine Kc ?_ ?_
    ·intro h64
     refine Qam [0,0,0,6,14,1,63] QcF ?_
     refine Dv [6] (Qar Qe4 0) (Dv [] Vm (Dv [] Vm (Dv [1] (Vi QcP 0) ?_)))
     have hb66:=ok1 (i:=QcR.toNat) ho37 rng
     refine Dv [1] (QjF sh3 0) (Dx0 [0] [0] [0] [fun G=>Cl p20 [vi (QcR / s.Width),vi (QcR % s.Width)]] (fun G=>xS (Scl [0] Qe4 [vi (QcR / s.Width),vi (QcR % s.Width)])) (Dv [] Va ?_))
     refine Dn ⟨by kernel_rfl,fun G=>?_⟩
     refine Jw2 [(3,p4),(10,vl a16 k17 rv13),(11,p20),(13,vi QcR),(12,vi (rv13.getD QcR.toNat 0))] [1,2,3,4,5,6] [Cl p20 [vi (QcR / s.Width),vi (QcR % s.Width)]] ?_
     refine KS ?_
     refine Oq Vm (Oq QaS (Oq Va (KS ?_)))
     exact Kg (r43,(QcR / s.Width),(QcR % s.Width),(rv13.getD QcR.toNat 0),(QcR+1)) [6,0,0,1,2,3] ⟨(q3 hM26 (by simp only [QaY,h41,h46,h48,h59,h64,hg62,cs4])),aM1,aM1,aM1,aM1,aM1,aM1,aM1,iv1,iv1⟩
    intro h64
    refine KS ?_
    refine Oq Vm (Oq QaS (Oq Va (KS ?_)))
    exact Kg (r43,Qe1,QfI,QdW,(QcR+1)) [0,0,0,1,2,3] ⟨(q3 hM26 (by simp only [QaY,h41,h46,h48,h59,h64,hg62,cs4])),aM1,aM1,aM1,aM1,aM1,aM1,aM1,iv1,iv1⟩
   intro h59
   have g68:=df h59
   refine Osk (Osk (Osk (Oq Vpf (KS ?_))))
   refine Kf (KS ?_)
   refine Oq Vm (Oq QaS (Oq Va (KS ?_)))
   exact Kg (r43,Qe1,QfI,QdW,(QcR+1)) [0,0,0,1,2,3] ⟨(q3 hM26 (by simp only [QaY,h41,h46,h48,h59,cs4])),aM1,aM1,aM1,aM1,aM1,aM1,aM1,iv1,iv1⟩
  intro h46
  have g69:=df h46
  refine Osk (Osk (Osk (Osk (Osk (Osk (Osk (Osk (Osk (Osk ?_)))))))))
  refine Oq Vpf (Oq Vm (Osk (Osk (Osk (Oq Vpf (KS ?_))))))
  refine Kf (KS ?_)
  refine Oq Vm (Oq QaS (Oq Va (KS ?_)))
  exact Kg (r43,Qe1,QfI,QdW,(QcR+1)) [0,0,0,1,2,3] ⟨(q3 hM26 (by simp only [QaY,h41,h46,cs4])),aM1,aM1,aM1,aM1,aM1,aM1,aM1,iv1,iv1⟩
 intro h41
 have g70:=df h41
 obtain rfl:r21=0:=by omega
 refine Ke ?_
 have hR71:=q2 hM26 (Qe1,QfI,QdW) (by simp only [QaY,h41,cs4])
 refine KS ?_
 refine Oq Vm (Oq Qcb (KS ?_))
 refine Kc ?_ ?_
 ·intro h72
  have g73:=eq_of_beq h72
  refine KS ?_
  refine Oq Va (Oq Va (Oq Va (KS ?_)))
  refine Jl [] (Ent.slNil (α:=Qag)) ?_
  have hq:=q4 hrr (([]:List Qag),false,0) (by simp only [QeR,h9,h41,h72,hg6,hg14,hR71,cs4]); subst hq
  exact Kr (.slice none 0 0) rfl (.tmp rfl (.tmp rfl (.tmp rfl .nil))) [0] ⟨en,(by dsimp only; first | omega | (simp; done))⟩
 intro h72
 have g74:=ne_of_beq_false h72
 refine KS ?_
 refine Oq (Qar Qe4 0) (Oa (AsV Qea Qmk [.agg #[vi Qe1,vi QfI]] [vi Qe1,vi QfI]) fun c75=>?_)
 refine Jo 0 ?_; rintro a76 k77 rfl
 refine Oq Va (KS ?_)
 refine Oq Vm (Oq Qjf (Oq Va (KS ?_)))
 refine Jl [0] (Ent.cr1 (α:=Qag) (A:=[]) _ (Qag.mk Qe1 QfI) _ aB1 (fun h=>⟨rfl,aL1,aL1⟩)) ?_
 refine Fb 16 0 fun _=>?_
 refine Kl (γ:=Nat×Int×Int×List Qag×Int×Option Addr×Nat) (fun (r79,Qe2,QfJ,QfV,QpB,a84,k85)=>⟨[(3,p4),(10,vl a16 k17 rv13),(11,p20),(15,vl a84 k85 QfV),(16,vi QpB)],[O a84 k85 QfV,Cl p20 [vi Qe2,vi QfJ],O a16 k17 rv13,pv p4 [vi s.Width,vl sa1 sk1 s.Deps,vl sa2 sk2 s.Transfers,vl sa3 sk3 s.Boundary],S sa1 sk1 s.Deps,S sa2 sk2 s.Transfers,S sa3 sk3 s.Boundary],Qdj s rv13 r79 Qe2 QfJ QfV QpB=Qdj s rv13 (((QdW - 1):Int).toNat) Qe1 QfI [(Qag.mk Qe1 QfI)] (QdW - 1)/\r79=QpB.toNat/\QpB<=((QdW - 1):Int)/\(-9223372036854775808<=Qe2/\Qe2<=9223372036854775807)/\(-9223372036854775808<=QfJ/\QfJ<=9223372036854775807)/\(-9223372036854775808<=QpB/\QpB<=9223372036854775807)/\(0<=Qe2/\Qe2 < (s.Deps.length:Int))/\(1<=(QfV.length:Int)/\(QfV.length:Int)+QpB<=65541/\0<=QpB),r79⟩) (((QdW - 1):Int).toNat,Qe1,QfI,[(Qag.mk Qe1 QfI)],(QdW - 1),a76,k77) [0,0,0,0,1,2,3] ⟨rfl,rfl,aM1,aM1,aM1,aM1,iv0,iv0⟩ ?_
 rintro ⟨r79,Qe2,QfJ,QfV,QpB,a84,k85⟩ ⟨hM86,hr87,hi88,hk89,hk90,hk91,hv92,hv93⟩
 refine QaE fun _ _ hL hA=>?_; dsimp only at hL hA; subst hL hA
 refine Fb 16 0 fun _=>Fb 8 2 fun _=>Fo 2 fun ho96=>Fb 24 4 fun _=>Fb 88 5 fun _=>Fb 32 6 fun _=>KS ?_
 refine Oq Vm (Oq QgZ (KS ?_))
 refine Kc ?_ ?_
 ·intro h100
  have g101:=dt h100
  obtain ⟨r102,rfl⟩:=scc (n:=r79) aM1
  refine KS ?_
  refine Oq Va (KS ?_)
  refine Kl (γ:=Nat×Int) (fun (r103,QdA)=>⟨[(3,p4),(10,vl a16 k17 rv13),(11,p20),(15,vl a84 k85 QfV),(16,vi QpB),(17,vi QdA)],[O a84 k85 QfV,Cl p20 [vi Qe2,vi QfJ],O a16 k17 rv13,pv p4 [vi s.Width,vl sa1 sk1 s.Deps,vl sa2 sk2 s.Transfers,vl sa3 sk3 s.Boundary],S sa1 sk1 s.Deps,S sa2 sk2 s.Transfers,S sa3 sk3 s.Boundary],QbK s rv13 Qe2 QfJ QpB r103 QdA=QbK s rv13 Qe2 QfJ QpB (((rv13.length:Int) - 0).toNat) 0/\r103=((rv13.length:Int) - QdA).toNat/\(0:Int)<=QdA/\QdA<=(rv13.length:Int)/\(-9223372036854775808<=QdA/\QdA<=9223372036854775807),r103⟩) (((rv13.length:Int) - 0).toNat,0) [0,0,0,0,1,2,3] ⟨rfl,rfl,aM1,aM1,aM1⟩ ?_
  rintro ⟨r103,QdA⟩ ⟨hM105,hr106,hi107,hi108,hk109⟩
  refine QaE fun _ _ hL hA=>?_; dsimp only at hL hA; subst hL hA
  refine Fb 16 0 fun _=>Fb 8 2 fun _=>Fo 2 fun ho112=>Fb 24 4 fun _=>Fb 88 5 fun _=>Fb 32 6 fun _=>KS ?_
  refine Oq Vm (Oq Vm (Oq (Qbc QcP) (Oq Qbo (KS ?_))))
  refine Kc ?_ ?_
  ·intro h116
   have g117:=dt h116
   have hdl:=QpG hwa.1 (by assumption:Qbp s _=rv13); have hhx:=QrA (B:=(s.Boundary.length:Int)) (W:=s.Width) (i:=QdA) aM1 aM1 aM1
   obtain ⟨r118,rfl⟩:=scc (n:=r103) aM1
   refine KS ?_
   refine Qam [0,0,2,7,0,0,32,112,255,0,1023] QcF ?_
   refine Dv [] Vm (Dv [3] (Vfa Qb7 0) (Dv [3] (Qai sh3 0) (Dv [] Qq9 (Dv [] Vm (Dv [3] (Vfa Qb7 0) (Dv [3] (Qai sh3 0) (Dv [] Qve (Dv [] (Vbd Qrg [vi (QdA / s.Width),vi (QdA % s.Width)]) (Dx [] [] [0] (fun G=>(G.g 9 0)) [fun G=>Cl (G.g 9 0) [vi 0,vi 0]] (fun G=>xA (Al Qqu [vi 0,vi 0])) ?_)))))))))
   refine Dx0 [7] [7] [0] [fun G=>Cl (G.g 9 0) [vi (QdA / s.Width),vi (QdA % s.Width)]] (fun G=>xS (Scl [0] Qe4 [vi (QdA / s.Width),vi (QdA % s.Width)])) ?_
   refine Dn ⟨by kernel_rfl,fun G=>?_⟩
   refine Jw2 [(3,p4),(10,vl a16 k17 rv13),(11,p20),(15,vl a84 k85 QfV),(16,vi QpB),(17,vi QdA),(18,(G.g 9 0))] [0,1,2,3,4,5,6] [Cl (G.g 9 0) [vi (QdA / s.Width),vi (QdA % s.Width)]] ?_
   generalize G.g 9 0=p119
   refine KS ?_
   refine Oq Vm (Oq Vm (Oq (Vi QcP 2) ?_))
   have hb120:=ok1 (i:=QdA.toNat) ho112 rng
   refine Oq (QjF sh3 2) (Oq Vm (Oq Qcb (Oq Vm ?_)))
   refine Js 105 ?_ ?_
   ·intro h121
    have g122:=eq_of_beq h121
    refine Oq (Qar Qeh 3) (Oq (Qar Qe4 1) (Oq (Qar Qe4 7) ?_))
    refine QaO (Qde s (Qag.mk Qe2 QfJ) (Qag.mk (QdA / s.Width) (QdA % s.Width))) fun rv123 hg124=>?_
    have hc125:=QBq s sa1 sk1 sa2 sk2 sa3 sk3 ((Qag.mk Qe2 QfJ)) ((Qag.mk (QdA / s.Width) (QdA % s.Width))) pre pre pre pre pre hwa.1 pre pre rv123 hg124
    refine Oc [4,5,6] QAJ hc125 ?_
    rintro - -
    refine Oq Vpt (KS ?_)
    refine Kc ?_ ?_
    ·intro h126
     refine KS ?_
     refine Oq (Qar Qe4 7) (Ost (Scl [1] Qe4 [vi (QdA / s.Width),vi (QdA % s.Width)]) (KS ?_))
     refine Ke ?_
     have hR128:=q2 hM105 ((QdA / s.Width),(QdA % s.Width)) (by simp only [QbK,h116,h121,h126,hg124,cs4])
     refine KS ?_
     refine Oq Vm (Oq (Qar Qe4 0) (Oa (AsV Qea Qmk [.agg #[vi (QdA / s.Width),vi (QdA % s.Width)]] [vi (QdA / s.Width),vi (QdA % s.Width)]) fun c129=>?_))
     refine Jo 0 ?_; rintro a130 k131 rfl
     refine Jl [0] (Ent.cr1 (α:=Qag) (A:=[]) _ (Qag.mk (QdA / s.Width) (QdA % s.Width)) _ aB1 (fun h=>⟨rfl,aL1,aL1⟩)) ?_
     refine Oa (ApO [2,0] Qea Qea Qmk) fun c132=>?_
     refine Jo 0 ?_; rintro a133 k134 rfl
     refine Fb 16 0 fun _=>?_
     have hn136:=la QfV ([(Qag.mk (QdA / s.Width) (QdA % s.Width))]:List Qag)
     refine Oq Va (KS ?_)
     refine Oq Vm (Oq Qjf (Oq Va (KS ?_)))
     exact Kg (r102,(QdA / s.Width),(QdA % s.Width),(QfV++[(Qag.mk (QdA / s.Width) (QdA % s.Width))]),(QpB - 1),a133,k134) [0,0,0,0,1,2,3] ⟨(q3 hM86 (by simp only [Qdj,h100,h116,h121,h126,hg124,hR128,cs4])),aM1,aM1,aM1,aM1,aM1,iv1,iv1⟩
    intro h126
    refine KS ?_
    refine Oq Vm (Oq QaS (Oq Va (KS ?_)))
    exact Kg (r118,(QdA+1)) [0,0,0,0,1,2,3] ⟨(q3 hM105 (by simp only [QbK,h116,h121,h126,hg124,cs4])),aM1,aM1,aM1,aM1⟩
   intro h121
   have g138:=ne_of_beq_false h121
   refine Osk (Osk (Osk (Osk (Oq Vpf (KS ?_)))))
   refine Kf (KS ?_)
   refine Oq Vm (Oq QaS (Oq Va (KS ?_)))
   exact Kg (r118,(QdA+1)) [0,0,0,0,1,2,3] ⟨(q3 hM105 (by simp only [QbK,h116,h121,cs4])),aM1,aM1,aM1,aM1⟩
  intro h116
  have g139:=df h116
  obtain rfl:r103=0:=by omega
  refine Ke ?_
  have hR140:=q2 hM105 (Qe2,QfJ) (by simp only [QbK,h116,cs4])
  refine KS ?_
  refine Oq Vm (Oq (Qar Qe4 1) (Oa (AsV Qea Qmk [.agg #[vi Qe2,vi QfJ]] [vi Qe2,vi QfJ]) fun c141=>?_))
  refine Jo 0 ?_; rintro a142 k143 rfl
  refine Jl [0] (Ent.cr1 (α:=Qag) (A:=[]) _ (Qag.mk Qe2 QfJ) _ aB1 (fun h=>⟨rfl,aL1,aL1⟩)) ?_
  refine Oa (ApO [1,0] Qea Qea Qmk) fun c144=>?_
  refine Jo 0 ?_; rintro a145 k146 rfl
  refine Fb 16 0 fun _=>?_
  have hn148:=la QfV ([(Qag.mk Qe2 QfJ)]:List Qag)
  refine Oq Va (KS ?_)
  refine Oq Vm (Oq Qjf (Oq Va (KS ?_)))
  exact Kg (r102,Qe2,QfJ,(QfV++[(Qag.mk Qe2 QfJ)]),(QpB - 1),a145,k146) [0,0,0,0,1,2,3] ⟨(q3 hM86 (by simp only [Qdj,h100,h116,hR140,cs4])),aM1,aM1,aM1,aM1,aM1,iv1,iv1⟩
 intro h100
 have g149:=df h100
 obtain rfl:r79=0:=by omega
 refine Ke ?_
 have hR150:=q2 hM86 QfV (by simp only [Qdj,h100,cs4])
 refine KS ?_
 refine Oq Vm (Oq Va (Oq Va (Oq Va (KS ?_))))
 refine Jl [0] (Ent.freeze _ _) ?_
 have hq:=q4 hrr (QfV,true,0) (by simp only [QeR,h9,h41,h72,h100,hg6,hg14,hR71,hR150,cs4]); subst hq
 exact Kr (vl a84 k85 QfV) rfl (.tmp rfl (.tmp rfl (.tmp rfl .nil))) [0] ⟨en,(by dsimp only; first | omega | (simp; done))⟩
theorem QyH (s1:List Qaf) (s1a0:Option Addr) (s1k0:Nat) (s2:List Qaf) (s2a0:Option Addr) (s2k0:Nat) (eqF:FuncId) (eqC:List Value) (eqp:Qaf->Qaf->Bool) (eqA:List SP) (heqc:Qac Tryz.prog eqF=true) (heqF:∀ x0 x1,∀ (a0:Option Addr) (k0:Nat) (a2:Option Addr) (k2:Nat),Qaa x0.Width->Qaa x1.Width->FT Tryz.prog eqF ([(.agg #[vi x0.Width,vl a0 k0 x0.Words]:Value),(.agg #[vi x1.Width,vl a2 k2 x1.Words]:Value)]++eqC).toArray ([S a0 k0 x0.Words,S a2 k2 x1.Words]++[Qgg eqA]) (fun _:Unit=>True) (fun _=>vb (eqp x0 x1)) (fun _=>[])) (rr:Bool) (hrr:Qcq s1 s2 eqp=rr):FT Tryz.prog 139 #[vl s1a0 s1k0 s1,vl s2a0 s2k0 s2,.func (.func eqF) #[] eqC.toArray] [S s1a0 s1k0 s1,S s2a0 s2k0 s2,Qgg eqA] (fun g:Unit=>True) (fun g=>vb rr) (fun g=>[]):=by
 refine FTi Tryz.func139 fun w0 M0 F0=>Fb 32 0 fun _=>Fb 32 1 fun _=>?_
 refine KS ?_
 refine Oq Va (KS ?_)
 refine Oq Vm (Oq (Qbc Qd2) (Oq Vm (Oq (Qbc Qd2) (Oq Qf4 (KS ?_)))))
 refine Kc ?_ ?_
 ·intro h3
  have g4:=Qax h3
  refine KS ?_
  refine Oq Va (KS ?_)
  have hq:=q4 hrr false (by simp only [Qcq,h3,cs4]); subst hq
  exact Kr () rfl (.tmp rfl .nil) [] trivial
 intro h3
 have g5:=Qae h3
 refine KS ?_
 refine Oq Vm (Oq (Qbc Qd2) (Oq Vm (KS ?_)))
 refine Kl (γ:=Nat×Int) (fun (r6,Qhb)=>⟨[(1,vl s2a0 s2k0 s2),(2,.func (.func eqF) #[] eqC.toArray),(15,vl s1a0 s1k0 s1),(16,vi (s1.length:Int)),(17,vi Qhb)],[S s1a0 s1k0 s1,S s2a0 s2k0 s2,Qgg eqA],Qa4 s1 s2 eqp r6 Qhb=Qa4 s1 s2 eqp (((s1.length:Int) - 0).toNat) 0/\r6=((s1.length:Int) - Qhb).toNat/\(0:Int)<=Qhb/\Qhb<=(s1.length:Int)/\(-9223372036854775808<=Qhb/\Qhb<=9223372036854775807),r6⟩) (((s1.length:Int) - 0).toNat,0) [0,1,2] ⟨rfl,rfl,aM1,aM1,aM1⟩ ?_
 rintro ⟨r6,Qhb⟩ ⟨hM8,hr9,hi10,hi11,hk12⟩
 refine QaE fun _ _ hL hA=>?_; dsimp only at hL hA; subst hL hA
 refine Fb 32 0 fun _=>Fb 32 1 fun _=>KS ?_
 refine Oq Qbo (KS ?_)
 refine Kc ?_ ?_
 ·intro h15
  have g16:=dt h15
  obtain ⟨r17,rfl⟩:=scc (n:=r6) aM1
  refine KS ?_
  refine Oq Vm (Oq (Vi Qd2 0) ?_)
  refine Qbf Qhb.toNat 0 rfl rng fun a18 k19 hb20=>?_
  unfold Qaa at hb20
  refine Fb 8 1 fun _=>?_
  refine Oq (Qar Qaw 0) (Oa (Al Qhj [vi 0,.slice none 0 0]) fun p22=>Oq Va (Ost (Scl [0] Qaw [vi ((s1.getD Qhb.toNat default).Width),vl a18 k19 ((s1.getD Qhb.toNat default).Words)]) (KS ?_)))
  refine Oq Vm (Oq Vm (Oq (Vi Qd2 4) ?_))
  refine Qbf Qhb.toNat 4 rfl rng fun a23 k24 hb25=>?_
  unfold Qaa at hb25
  refine Fb 8 1 fun _=>?_
  refine Oq (Qar Qaw 0) (Oa (Al Qhj [vi 0,.slice none 0 0]) fun p27=>Ost (Scl [0] Qaw [vi ((s2.getD Qhb.toNat default).Width),vl a23 k24 ((s2.getD Qhb.toNat default).Words)]) (KS ?_))
  refine Oq Vm (Oq (Qar Qaw 3) (Oq (Qar Qaw 0) ?_))
  refine Qg7 [5,2,8] rfl rfl rfl (OpC.clo (asv:=[(.agg #[vi ((s1.getD Qhb.toNat default).Width),vl a18 k19 ((s1.getD Qhb.toNat default).Words)]:Value),(.agg #[vi ((s2.getD Qhb.toNat default).Width),vl a23 k24 ((s2.getD Qhb.toNat default).Words)]:Value)]++eqC) rfl rfl heqc rfl (by simp)) (heqF (s1.getD Qhb.toNat default) (s2.getD Qhb.toNat default) a18 k19 a23 k24 pre pre) rfl fun _ _=>?_
  refine Oq QcN (KS ?_)
  refine Kc ?_ ?_
  ·intro h29
   have h31:=not_true h29
   refine KS ?_
   refine Oq Va (KS ?_)
   have hR33:=q2 hM8 (.ret false) (by simp only [Qa4,h15,h29,h31,cs4])
   have hq:=q4 hrr false (by simp only [Qcq,h3,h15,h29,h31,hR33,cs4]); subst hq
   exact Kr () rfl (.tmp rfl .nil) [] trivial
  intro h29
  have h35:=not_false h29
  refine KS ?_
  refine Oq QaS (Oq Vm (KS ?_))
  exact Kg (r17,(Qhb+1)) [6,7,8] ⟨(q3 hM8 (by simp only [Qa4,h15,h29,h35,cs4])),aM1,aM1,aM1,aM1⟩
 intro h15
 have g37:=df h15
 obtain rfl:r6=0:=by omega
 refine Ke ?_
 have hR38:=q2 hM8 (.brk ()) (by simp only [Qa4,h15,cs4])
 refine KS ?_
 refine Oq Va (KS ?_)
 have hq:=q4 hrr true (by simp only [Qcq,h3,h15,hR38,cs4]); subst hq
 exact Kr () rfl (.tmp rfl .nil) [] trivial
theorem Qzf (s1:List (BitVec 64)) (s1a0:Option Addr) (s1k0:Nat) (s2:List (BitVec 64)) (s2a0:Option Addr) (s2k0:Nat) (rr:Bool) (hrr:Qce s1 s2=rr):FT Tryz.prog 171 #[vl s1a0 s1k0 s1,vl s2a0 s2k0 s2] [S s1a0 s1k0 s1,S s2a0 s2k0 s2] (fun g:Unit=>True) (fun g=>vb rr) (fun g=>[]):=by
 refine FTi Tryz.func171 fun w0 M0 F0=>Fb 8 0 fun _=>Fb 8 1 fun _=>?_
 refine KS ?_
 refine Oq Va (KS ?_)
 refine Oq Vm (Oq (Qbc QgP) (Oq Vm (Oq (Qbc QgP) (Oq Qf4 (KS ?_)))))
 refine Kc ?_ ?_
 ·intro h3
  have g4:=Qax h3
  refine KS ?_
  refine Oq Va (KS ?_)
  have hq:=q4 hrr false (by simp only [Qce,h3,cs4]); subst hq
  exact Kr () rfl (.tmp rfl .nil) [] trivial
 intro h3
 have g5:=Qae h3
 refine KS ?_
 refine Oq Vm (Oq (Qbc QgP) (Oq Vm (KS ?_)))
 refine Kl (γ:=Nat×Int) (fun (r6,Qn8)=>⟨[(0,vl s1a0 s1k0 s1),(1,vl s2a0 s2k0 s2),(12,vi (s1.length:Int)),(13,vi Qn8)],[S s1a0 s1k0 s1,S s2a0 s2k0 s2],Qbn s1 s2 r6 Qn8=Qbn s1 s2 (((s1.length:Int) - 0).toNat) 0/\r6=((s1.length:Int) - Qn8).toNat/\(0:Int)<=Qn8/\Qn8<=(s1.length:Int)/\(-9223372036854775808<=Qn8/\Qn8<=9223372036854775807),r6⟩) (((s1.length:Int) - 0).toNat,0) [0,1] ⟨rfl,rfl,aM1,aM1,aM1⟩ ?_
 rintro ⟨r6,Qn8⟩ ⟨hM8,hr9,hi10,hi11,hk12⟩
 refine QaE fun _ _ hL hA=>?_; dsimp only at hL hA; subst hL hA
 refine Fb 8 0 fun _=>Fb 8 1 fun _=>KS ?_
 refine Oq Qbo (KS ?_)
 refine Kc ?_ ?_
 ·intro h15
  have g16:=dt h15
  obtain ⟨r17,rfl⟩:=scc (n:=r6) aM1
  refine KS ?_
  refine Oq Vm (Oq Va (KS ?_))
  refine Kq [0,0,3,7,0,0,48,112,255] QcF ?_
  refine Qv [] Vm (Qv [] Vm (Qv [0] (Vi QgP 0) (Qv [0] (Qp3 Qn0 0) (Qv [] Vm (Qv [] Vm (Qv [1] (Vi QgP 0) (Qv [1] (Qp3 Qn0 0) (Qv [] QvO ?_))))))))
  refine Qn ⟨by kernel_rfl,?_⟩
  refine Kc ?_ ?_
  ·intro h18
   have g19:=Qax h18
   refine KS ?_
   refine Oq Va (KS ?_)
   have hR20:=q2 hM8 (.ret false) (by simp only [Qbn,h15,h18,cs4])
   have hq:=q4 hrr false (by simp only [Qce,h3,h15,h18,hR20,cs4]); subst hq
   exact Kr () rfl (.tmp rfl .nil) [] trivial
  intro h18
  have g21:=Qae h18
  refine KS ?_
  refine Oq QaS (Oq Vm (KS ?_))
  exact Kg (r17,(Qn8+1)) [0,1] ⟨(q3 hM8 (by simp only [Qbn,h15,h18,cs4])),aM1,aM1,aM1,aM1⟩
 intro h15
 have g22:=df h15
 obtain rfl:r6=0:=by omega
 refine Ke ?_
 have hR23:=q2 hM8 (.brk ()) (by simp only [Qbn,h15,cs4])
 refine KS ?_
 refine Oq Va (KS ?_)
 have hq:=q4 hrr true (by simp only [Qce,h3,h15,hR23,cs4]); subst hq
 exact Kr () rfl (.tmp rfl .nil) [] trivial
theorem QxW (a:Qaf) (aa1:Option Addr) (ak1:Nat) (b:Qaf) (ba1:Option Addr) (bk1:Nat) (Qke:Qaa a.Width) (QgI:Qaa b.Width) (rr:Bool) (hrr:Qc7 a b=rr):FT Tryz.prog 140 #[.agg #[vi a.Width,vl aa1 ak1 a.Words],.agg #[vi b.Width,vl ba1 bk1 b.Words]] [S aa1 ak1 a.Words,S ba1 bk1 b.Words] (fun g:Unit=>True) (fun g=>vb rr) (fun g=>[]):=by
 refine FTi Tryz.func140 fun w0 M0 F0=>?_
 unfold Qaa at Qke QgI
 refine Fb 8 0 fun _=>Fb 8 1 fun _=>KS ?_
 refine Oa (Ab [vi a.Width,vl aa1 ak1 a.Words]) fun p3=>Oa (Ab [vi b.Width,vl ba1 bk1 b.Words]) fun p4=>Oq Va (KS ?_)
 refine Oq (Qar Qaw 1) ?_
 refine QaO (QaX a) fun rv5 hg6=>?_
 have hc7:=QrW a aa1 ak1 pre rv5 hg6
 refine Oc [2] Qrw hc7 ?_
 rintro - -
 refine Oq Vm ?_
 refine Js 7 ?_ ?_
 ·intro h8
  refine Oq (Qar Qaw 0) ?_
  refine QaO (QaX b) fun rv10 hg11=>?_
  have hc12:=QrW b ba1 bk1 pre rv10 hg11
  refine Oc [3] Qrw hc12 ?_
  rintro - -
  refine Oq Vpt (Oq Vm ?_)
  refine Js 11 ?_ ?_
  ·intro h13
   refine Oq (Vfa Qbj 1) (Oq (Qai sh3 1) (Oq (Vfa Qbj 0) (Oq (Qai sh3 0) (Oq Qcb (Oq Vpt (Oq Vm ?_))))))
   refine Js 18 ?_ ?_
   ·intro h15
    have g16:=eq_of_beq h15
    refine Oq (Vfa Qcv 1) (Oq (Qai Qi4 1) (Oq (Vfa Qcv 0) (Oq (Qai Qi4 0) ?_)))
    refine QaO (Qce a.Words b.Words) fun rv17 hg18=>?_
    have hc19:=Qzf a.Words aa1 ak1 b.Words ba1 bk1 rv17 hg18
    refine Oc [2,3] Qyl hc19 ?_
    rintro - -
    refine Oq Vpt (Oq Va (KS ?_))
    have hq:=q4 hrr rv17 (by simp only [Qc7,h8,h13,h15,hg6,hg11,hg18,cs4]); subst hq
    exact Kr () rfl (.tmp rfl .nil) [] trivial
   intro h15
   have g20:=ne_of_beq_false h15
   refine Osk (Osk (Osk (Osk (Osk (Oq Vpf (Oq Va (KS ?_)))))))
   have hq:=q4 hrr false (by simp only [Qc7,h8,h13,h15,hg6,hg11,cs4]); subst hq
   exact Kr () rfl (.tmp rfl .nil) [] trivial
  intro h13
  refine Osk (Osk (Osk (Osk (Osk (Oq Vpf (Oq Vm (Osk (Osk (Osk ?_)))))))))
  refine Osk (Osk (Oq Vpf (Oq Va (KS ?_))))
  have hq:=q4 hrr false (by simp only [Qc7,h8,h13,hg6,hg11,cs4]); subst hq
  exact Kr () rfl (.tmp rfl .nil) [] trivial
 intro h8
 refine Osk (Osk (Oq Vpf (Oq Vm (Osk (Osk (Osk (Osk (Osk (Oq Vpf ?_)))))))))
 refine Oq Vm (Osk (Osk (Osk (Osk (Osk (Oq Vpf (Oq Va (KS ?_))))))))
 have hq:=q4 hrr false (by simp only [Qc7,h8,hg6,cs4]); subst hq
 exact Kr () rfl (.tmp rfl .nil) [] trivial
theorem Qx6 (a:List Qaf) (aa0:Option Addr) (ak0:Nat) (b:List Qaf) (ba0:Option Addr) (bk0:Nat) (rr:Bool) (hrr:QhQ a b=rr):FT Tryz.prog 100 #[vl aa0 ak0 a,vl ba0 bk0 b] [S aa0 ak0 a,S ba0 bk0 b] (fun g:Unit=>True) (fun g=>vb rr) (fun g=>[]):=by
 refine FTi Tryz.func100 fun w0 M0 F0=>Fb 32 0 fun _=>Fb 32 1 fun _=>?_
 refine KS ?_
 refine Oq Va (KS ?_)
 refine Oq Vm (Oq Vm ?_)
 refine Qic (Ent.pall [] rfl rfl) ?_
 refine QaO (Qcq a b (fun x0 x1=>Qc7 x0 x1)) fun rv3 hg4=>?_
 have hc5:=QyH a aa0 ak0 b ba0 bk0 140 [] (fun x0 x1=>Qc7 x0 x1) [] Qy7 (fun x0 x1 a0 k0 a2 k2 hq0 hq1=>Qgc (A1:=_) (QxW x0 a0 k0 x1 a2 k2  hq0 hq1 _ rfl)) rv3 hg4
 refine Oc [1,2,0] QyY hc5 ?_
 rintro - -
 refine Oq Va (KS ?_)
 have hq:=q4 hrr rv3 (by simp only [QhQ,hg4,cs4]); subst hq
 exact Kr () rfl (.tmp rfl .nil) [] trivial
theorem QyP (width:Int) (QbJ:Qaa width) (rr:Qaf×Int) (hrr:QhK width=rr):FT Tryz.prog 138 #[vi width] [] (fun g:Value=>Qaa rr.1.Width/\Qaa rr.2) (fun g=>.tuple #[.agg #[vi rr.1.Width,g],vi rr.2]) (fun g=>[sl g rr.1.Words]):=by
 refine FTi Tryz.func138 fun w0 M0 F0=>?_
 unfold Qaa at QbJ
 refine KS ?_
 refine Oa (Al Qhj [vi 0,.slice none 0 0]) fun p1=>Oq Va (KS ?_)
 refine Oq Vm ?_
 refine QaO (QdL width) fun rv2 hg3=>?_
 have hc4:=QvW width pre rv2 hg3
 refine Oc [] QwA hc4 ?_
 rintro - -
 refine Oq QcN (KS ?_)
 refine Kc ?_ ?_
 ·intro h5
  have h7:=not_true h5
  refine KS ?_
  refine Oq (Vbd Qjw [vi 0,.slice none 0 0]) (Ost (Scl [0] Qaw [vi 0,.slice none 0 0]) (Oq Va (KS ?_)))
  refine Jl [] (Ent.slNil (α:=BitVec 64)) ?_
  have hq:=q4 hrr ((Qaf.mk 0 []),3) (by simp only [QhK,h5,h7,hg3,cs4]); subst hq
  exact Kr (.slice none 0 0) rfl (.cellN 1 rfl Qaw rfl (Qak _ _) rfl (.tmp rfl .nil)) [0] en
 intro h5
 have h10:=not_false h5
 have hrg:=Qm0 (w:=width) (by simp only [h5,h10,hg3])
 refine KS ?_
 refine Oq Vm (Oq Vm ?_)
 refine QaO (QfW width) fun rv12 hg13=>?_
 have hc14:=QwF width pre pre rv12 hg13
 refine Oc [] QwC hc14 ?_
 rintro - ⟨he15,he16⟩
 unfold Qaa at he15
 refine Oa (Amk (α:=BitVec 64) QgP Quy 0#64 (fun _ _=>rfl)) fun c17=>?_
 refine Jo 0 ?_; rintro a18 k19 rfl
 refine Fb 8 0 fun _=>?_
 have hn21:=List.length_replicate (n:=rv12.toNat) (a:=(0#64:BitVec 64))
 refine Oq (Vbd Qjw [vi width,vl a18 k19 (List.replicate rv12.toNat 0#64)]) (Ost (Scl [1] Qaw [vi width,vl a18 k19 (List.replicate rv12.toNat 0#64)]) (Oq Va (KS ?_)))
 refine Jl [1] (Ent.freeze _ _) ?_
 have hq:=q4 hrr ((Qaf.mk width (List.replicate rv12.toNat 0#64)),0) (by simp only [QhK,h5,h10,hg3,hg13,cs4]); subst hq
 exact Kr (vl a18 k19 (List.replicate rv12.toNat 0#64)) rfl (.cellN 1 rfl Qaw rfl (Qak _ _) rfl (.tmp rfl .nil)) [0] en
theorem QBy (width:Int) (n:Int) (QbJ:Qaa width) (Qf1:Qaa n) (hn0:0<=n/\n<=256/\0<=width/\width<=256) (rr:List Qaf) (hrr:QeZ width n=rr):FT Tryz.prog 99 #[vi width,vi n] [] (fun g:Value=>True) (fun g=>g) (fun g=>[sl g rr]):=by
 refine FTi Tryz.func99 fun w0 M0 F0=>?_
 unfold Qaa at QbJ Qf1
 refine KS ?_
 refine Oq Va (KS ?_)
 refine Oq Vm (Oa (Amk (α:=Qaf) Qd2 Qob (default:Qaf) QsG) fun c1=>?_)
 refine Jo 0 ?_; rintro a2 k3 rfl
 refine Fb 32 0 fun _=>?_
 have hn5:=List.length_replicate (n:=n.toNat) (a:=((default:Qaf):Qaf))
 refine Oq Va (KS ?_)
 refine Oq Vm (Oq (Qbc Qd2) (Oq Vm (KS ?_)))
 refine Kl (γ:=Nat×List Qaf×Int) (fun (r6,Qik,Qmh)=>⟨[(0,vi width),(5,vl a2 k3 (List.replicate n.toNat (default:Qaf))),(10,vi ((List.replicate n.toNat (default:Qaf)).length:Int)),(11,vi Qmh)],[os (vl a2 k3 (List.replicate n.toNat (default:Qaf))) Qik],QdE width r6 Qik Qmh=QdE width (((((List.replicate n.toNat (default:Qaf)).length:Int):Int) - 0).toNat) (List.replicate n.toNat (default:Qaf)) 0/\r6=((((List.replicate n.toNat (default:Qaf)).length:Int):Int) - Qmh).toNat/\(0:Int)<=Qmh/\(Qmh<=((List.replicate n.toNat (default:Qaf)).length:Int)\/Qmh=0)/\(-9223372036854775808<=Qmh/\Qmh<=9223372036854775807)/\(Qik.length:Int)=n,r6⟩) (((((List.replicate n.toNat (default:Qaf)).length:Int):Int) - 0).toNat,(List.replicate n.toNat (default:Qaf)),0) [0] ⟨rfl,rfl,aM1,(.inr rfl),aM1,iv0⟩ ?_
 rintro ⟨r6,Qik,Qmh⟩ ⟨hM9,hr10,hi11,hi12,hk13,hv14⟩
 refine QaE fun _ _ hL hA=>?_; dsimp only at hL hA; subst hL hA
 refine Fb 32 0 fun _=>Fl 0 fun hn16=>?_
 refine KS ?_
 refine Oq Qbo (KS ?_)
 refine Kc ?_ ?_
 ·intro h17
  have g18:=dt h17
  obtain ⟨r19,rfl⟩:=scc (n:=r6) aM1
  refine KS ?_
  refine Oq Vm (Oq Va (KS ?_))
  refine Oq Vm (Oq Vm (Oq Vm ?_))
  refine QaO (QhK width) fun rv21 hg22=>?_
  have hc23:=QyP width pre rv21 hg22
  refine Oc [] Qy3 hc23 ?_
  rintro c20 ⟨he24,he25⟩
  unfold Qaa at he24 he25
  refine Jo 0 ?_; rintro a26 k27 rfl
  refine Fb 8 0 fun _=>?_
  refine Oq Vm (Oq Vx (Oq Vx (Oq (Vi Qd2 1) ?_)))
  refine Ost (So (Rs:=[S a26 k27 rv21.1.Words]) [1,0] Qaw rv21.1 (fun h=>⟨_,rfl,aL1,Qaj (i:=0) rfl h⟩)) (KS ?_)
  refine Oq QaS (Oq Vm (KS ?_))
  exact Kg (r19,(Qik.set Qmh.toNat rv21.1),(Qmh+1)) [0] ⟨(q3 hM9 (by simp only [QdE,h17,hg22,cs4])),aM1,aM1,aM1,aM1,iv1⟩
 intro h17
 have g29:=df h17
 obtain rfl:r6=0:=by omega
 refine Ke ?_
 have hR30:=q2 hM9 Qik (by simp only [QdE,h17,cs4])
 refine KS ?_
 refine Oq Vm (Oq Va (KS ?_))
 refine Jl [0] (Ent.freeze _ _) ?_
 have hq:=q4 hrr Qik (by simp only [QeZ,h17,hR30,cs4]); subst hq
 exact Kr (vl a2 k3 (List.replicate n.toNat (default:Qaf))) rfl (.tmp rfl .nil) [0] trivial
theorem QAF (width:Int) (n:Int) (stepF:FuncId) (stepC:List Value) (stepp:(List Qaf)->(List Qaf)) (stepA:List SP) (QbJ:Qaa width) (Qf1:Qaa n) (hstepc:Qac Tryz.prog stepF=true) (hstepF:∀ x0,∀ (a0:Option Addr) (k0:Nat),FT Tryz.prog stepF ([(vl a0 k0 x0:Value)]++stepC).toArray ([S a0 k0 x0]++[Qgg stepA]) (fun g:Value=>True) (fun g=>g) (fun g=>[sl g (stepp x0)])) (hw0:0<=width/\width<=256/\0<=n/\n<=256) (hst:Qle width n stepp) (rr:List Qaf×Int) (hrr:Qio width n stepp=rr):FT Tryz.prog 57 #[vi width,vi n,.func (.func stepF) #[] stepC.toArray] [Qgg stepA] (fun g:Value=>Qaa rr.2) (fun g=>.tuple #[g,vi rr.2]) (fun g=>[sl g rr.1]):=by
 refine FTi Tryz.func57 fun w0 M0 F0=>?_
 unfold Qaa at QbJ Qf1
 have hbb:n.toNat*width.toNat<=256*256:=Nat.mul_le_mul aM1 aM1
 refine KS ?_
 refine Oq Va (Oq Va (KS ?_))
 refine Oq Vm (Oq Vm ?_)
 refine QaO (QeZ width n) fun rv2 hg3=>?_
 have hc4:=QBy width n pre pre pre rv2 hg3
 refine Oc [] QBg hc4 ?_
 rintro c1 -
 refine Jo 0 ?_; rintro a5 k6 rfl
 refine Fb 32 0 fun _=>?_
 refine Oq Va (KS ?_)
 refine Oq Vm (Oq Vm ?_)
 refine Qg7 [0,1] rfl rfl rfl (OpC.clo (asv:=[(vl a5 k6 rv2:Value)]++stepC) rfl rfl hstepc rfl (by simp)) (hstepF rv2 a5 k6 ) rfl fun c9 _=>?_
 refine Jo 0 ?_; rintro a10 k11 rfl
 refine Fb 32 0 fun _=>?_
 refine Oq Va (KS ?_)
 refine Oq Va (KS ?_)
 have hterm24:QbV stepp (n.toNat*width.toNat+2) rv2 (stepp rv2) 0≠LR.oof:=(by have h:=hst; unfold Qle at h; simp only [hg3] at h; exact h)
 refine Kl (γ:=Nat×List Qaf×List Qaf×Int×Option Addr×Nat×Option Addr×Nat) (fun (r13,Qkg,Qhc,Qfw,a17,k18,a19,k20)=>⟨[(2,.func (.func stepF) #[] stepC.toArray),(8,vl a17 k18 Qkg),(9,vl a19 k20 Qhc),(10,vi Qfw)],[S a19 k20 Qhc,S a17 k18 Qkg,Qgg stepA],QbV stepp r13 Qkg Qhc Qfw=QbV stepp (n.toNat*width.toNat+2) rv2 (stepp rv2) 0/\(-9223372036854775808<=Qfw/\Qfw<=9223372036854775807)/\0<=Qfw/\Qfw+(r13:Int)=((n.toNat*width.toNat+2:Nat):Int),r13⟩) ((n.toNat*width.toNat+2),rv2,(stepp rv2),0,a5,k6,a10,k11) [0,1,2] ⟨rfl,aM1,iv0⟩ ?_
 rintro ⟨r13,Qkg,Qhc,Qfw,a17,k18,a19,k20⟩ ⟨hM21,hk22,hv23⟩
 refine QaE fun _ _ hL hA=>?_; dsimp only at hL hA; subst hL hA
 refine Fb 32 0 fun _=>Fb 32 1 fun _=>?_
 rcases r13 with _ | r13
 ·exact absurd (hM21.symm.trans rfl) hterm24
 refine KS ?_
 refine Oq Vm (Oq Vm ?_)
 refine QaO (QhQ Qkg Qhc) fun rv27 hg28=>?_
 have hc29:=Qx6 Qkg a17 k18 Qhc a19 k20 rv27 hg28
 refine Oc [1,0] QyI hc29 ?_
 rintro - -
 refine Oq QcN (KS ?_)
 refine Kc ?_ ?_
 ·intro h30
  have h32:=not_true h30
  refine KS ?_
  refine Oq Vm (Oq Vm (Oq Vm ?_))
  refine Qg7 [0,2] rfl rfl rfl (OpC.clo (asv:=[(vl a19 k20 Qhc:Value)]++stepC) rfl rfl hstepc rfl (by simp)) (hstepF Qhc a19 k20 ) rfl fun c35 _=>?_
  refine Jo 0 ?_; rintro a36 k37 rfl
  refine Fb 32 0 fun _=>?_
  refine Oq Vm (Oq QaS (Oq Va (Oq Va (Oq Va (KS ?_)))))
  exact Kg (r13,Qhc,(stepp Qhc),(Qfw+1),a19,k20,a36,k37) [0,1,3] ⟨(q3 hM21 (by simp only [QbV,h30,h32,hg28,cs4])),aM1,iv1⟩
 intro h30
 have h40:=not_false h30
 refine Ke ?_
 have hR42:=q2 hM21 (.brk (Qkg,Qfw)) (by simp only [QbV,h30,h40,hg28,cs4])
 refine KS ?_
 refine Oq Vm (Oq Vm (Oq Va (Oq Va (KS ?_))))
 have hq:=q4 hrr (Qkg,Qfw) (by simp only [Qio,h30,h40,hg3,hg28,hR42,cs4]); subst hq
 exact Kr (vl a17 k18 Qkg) rfl (.tmp rfl (.tmp rfl .nil)) [1] en
theorem QxO (v:Qaf) (va1:Option Addr) (vk1:Nat) (QqD:Qaa v.Width) (rr:Bool) (hrr:QeH v=rr):FT Tryz.prog 141 #[.agg #[vi v.Width,vl va1 vk1 v.Words]] [S va1 vk1 v.Words] (fun g:Unit=>True) (fun g=>vb rr) (fun g=>[]):=by
 refine FTi Tryz.func141 fun w0 M0 F0=>?_
 unfold Qaa at QqD
 refine Fb 8 0 fun _=>KS ?_
 refine Oa (Ab [vi v.Width,vl va1 vk1 v.Words]) fun p2=>Oq Va (KS ?_)
 refine Oq (Qar Qaw 0) ?_
 refine QaO (QaX v) fun rv3 hg4=>?_
 have hc5:=QrW v va1 vk1 pre rv3 hg4
 refine Oc [1] Qrw hc5 ?_
 rintro - -
 refine Oq QcN (Oq Va (KS ?_))
 have hq:=q4 hrr (!rv3) (by simp only [QeH,hg4,cs4]); subst hq
 exact Kr () rfl (.tmp rfl .nil) [] trivial
theorem Qwu (s:List (BitVec 64)) (sa0:Option Addr) (sk0:Nat) (rr:List (BitVec 64)) (hrr:QcH s=rr):FT Tryz.prog 142 #[vl sa0 sk0 s] [S sa0 sk0 s] (fun g:Value=>(rr.length=s.length)) (fun g=>g) (fun g=>[os g rr]):=by
 have hm:QcH s=s:=rfl
 rw [hm] at hrr
 subst hrr
 refine FTi Tryz.func142 fun w0 M0 F0=>?_
 refine KS ?_
 refine Oq Va ?_
 refine KS ?_
 refine Oq Vm ?_
 refine Oq (QxB QBK) ?_
 refine KS ?_
 refine Kc ?_ ?_
 ·intro h
  refine QAp 0 h ?_
  intro h0
  subst h0
  refine KS ?_
  refine Oq Va ?_
  refine KS ?_
  refine Jl [] (Ent.osNil (α:=BitVec 64)) ?_
  exact Kr (.slice none 0 0) rfl (.tmp rfl .nil) [0] rfl
 ·intro _
  refine KS ?_
  refine Oa (As0 QgP) fun c1=>?_
  refine Jo 0 ?_; rintro a2 k3 rfl
  refine Oq Vm ?_
  refine Fb 8 1 fun hl=>?_
  refine Jl [0] (Ent.crNil (α:=BitVec 64) _) ?_
  refine Oa (Ap0 [0,0] QgP QgP Quy) fun c4=>?_
  refine Oq Va ?_
  refine KS ?_
  exact Kr c4 rfl (.tmp rfl .nil) [0] rfl
theorem Qwh (a:Qaf) (aa1:Option Addr) (ak1:Nat) (b:Qaf) (ba1:Option Addr) (bk1:Nat) (combineF:FuncId) (combineC:List Value) (combinep:(BitVec 64)->(BitVec 64)->(BitVec 64)) (combineA:List SP) (Qke:Qaa a.Width) (QgI:Qaa b.Width) (hcombinec:Qac Tryz.prog combineF=true) (hcombineF:∀ x0 x1,FT Tryz.prog combineF ([u64 x0,u64 x1]++combineC).toArray ([]++[Qgg combineA]) (fun _:Unit=>True) (fun _=>u64 (combinep x0 x1)) (fun _=>[])) (rr:Qaf×Int) (hrr:QdZ a b combinep=rr):FT Tryz.prog 150 #[.agg #[vi a.Width,vl aa1 ak1 a.Words],.agg #[vi b.Width,vl ba1 bk1 b.Words],.func (.func combineF) #[] combineC.toArray] [S aa1 ak1 a.Words,S ba1 bk1 b.Words,Qgg combineA] (fun g:Value=>Qaa rr.1.Width/\Qaa rr.2) (fun g=>.tuple #[.agg #[vi rr.1.Width,g],vi rr.2]) (fun g=>[sl g rr.1.Words]):=by
 refine FTi Tryz.func150 fun w0 M0 F0=>?_
 unfold Qaa at Qke QgI
 refine Fb 8 0 fun _=>Fb 8 1 fun _=>KS ?_
 refine Oa (Ab [vi a.Width,vl aa1 ak1 a.Words]) fun p3=>Oa (Ab [vi b.Width,vl ba1 bk1 b.Words]) fun p4=>Oa (Al Qhj [vi 0,.slice none 0 0]) fun p5=>Oq Va (KS ?_)
 refine Oq (Qar Qaw 2) ?_
 refine QaO (QaX a) fun rv6 hg7=>?_
 have hc8:=QrW a aa1 ak1 pre rv6 hg7
 refine Oc [3] Qrw hc8 ?_
 rintro - -
 refine Oq QcN (Oq Vm ?_)
 refine Js 14 ?_ ?_
 ·intro h9
  have h11:=not_true h9
  refine Osk (Osk (Osk (Oq Vpt (Oq Va (KS ?_)))))
  refine Kt (KS ?_)
  refine Oq (Vbd Qjw [vi 0,.slice none 0 0]) (Ost (Scl [0] Qaw [vi 0,.slice none 0 0]) (Oq Va (KS ?_)))
  refine Jl [] (Ent.slNil (α:=BitVec 64)) ?_
  have hq:=q4 hrr ((Qaf.mk 0 []),1) (by simp only [QdZ,h9,h11,hg7,cs4]); subst hq
  exact Kr (.slice none 0 0) rfl (.cellN 1 rfl Qaw rfl (Qak _ _) rfl (.tmp rfl .nil)) [0] en
 intro h9
 have h14:=not_false h9
 try have hra:=Qt2 (s:=a) (by simp only [h9,h14,hg7])
 try have hrb:=Qt2 (s:=b) (by simp only [h9,h14,hg7])
 refine Oq (Qar Qaw 1) ?_
 refine QaO (QaX b) fun rv16 hg17=>?_
 have hc18:=QrW b ba1 bk1 pre rv16 hg17
 refine Oc [4] Qrw hc18 ?_
 rintro - -
 refine Oq QcN (Oq Vpf (Oq Va (KS ?_)))
 refine Kc ?_ ?_
 ·intro h19
  have h21:=not_true h19
  refine KS ?_
  refine Oq (Vbd Qjw [vi 0,.slice none 0 0]) (Ost (Scl [0] Qaw [vi 0,.slice none 0 0]) (Oq Va (KS ?_)))
  refine Jl [] (Ent.slNil (α:=BitVec 64)) ?_
  have hq:=q4 hrr ((Qaf.mk 0 []),1) (by simp only [QdZ,h9,h14,h19,h21,hg7,hg17,cs4]); subst hq
  exact Kr (.slice none 0 0) rfl (.cellN 1 rfl Qaw rfl (Qak _ _) rfl (.tmp rfl .nil)) [0] en
 intro h19
 have h24:=not_false h19
 try have hra:=Qt2 (s:=a) (by simp only [h9,h14,h19,h24,hg7,hg17])
 try have hrb:=Qt2 (s:=b) (by simp only [h9,h14,h19,h24,hg7,hg17])
 refine KS ?_
 refine Oq (Vfa Qbj 2) (Oq (Qai sh3 2) (Oq (Vfa Qbj 1) (Oq (Qai sh3 1) (Oq Qf4 (Oq Va (KS ?_))))))
 refine Kc ?_ ?_
 ·intro h26
  have g27:=Qax h26
  refine KS ?_
  refine Oq (Vbd Qjw [vi 0,.slice none 0 0]) (Ost (Scl [0] Qaw [vi 0,.slice none 0 0]) (Oq Va (KS ?_)))
  refine Jl [] (Ent.slNil (α:=BitVec 64)) ?_
  have hq:=q4 hrr ((Qaf.mk 0 []),2) (by simp only [QdZ,h9,h14,h19,h24,h26,hg7,hg17,cs4]); subst hq
  exact Kr (.slice none 0 0) rfl (.cellN 1 rfl Qaw rfl (Qak _ _) rfl (.tmp rfl .nil)) [0] en
 intro h26
 have g28:=Qae h26
 refine KS ?_
 refine Qam [0,1,0,4,12,28,63,0,255] QcF ?_
 refine Dv [2] (Vfa Qbj 0) (Dv [2] (Qai sh3 0) (Dv [2] (Vfa Qcv 0) (Dv [2] (Qai Qi4 0) (Dv [] (Qbc QgP) ?_))))
 have hn30:=List.length_replicate (n:=(a.Words.length:Int).toNat) (a:=(0#64:BitVec 64))
 refine Dx [] [] [0] (fun G=>(G.g 5 0)) [fun G=>os (G.g 5 0) ((List.replicate (a.Words.length:Int).toNat 0#64):List (BitVec 64))] (fun G=>xA (Amk (α:=BitVec 64) QgP Quy 0#64 (fun _ _=>rfl))) ?_
 refine Dx [6] [] [0] (fun G=>.agg #[vi a.Width,(G.g 5 0)]) [] (fun G=>xV (v:=.agg #[vi a.Width,(G.g 5 0)]) (Vo 0 rfl (Qim _ _) fun aq31 kq32 eq33=>(by rw [eq33]; exact Vbd Qjw [vi a.Width,.slice aq31 (((List.replicate (a.Words.length:Int).toNat 0#64):List (BitVec 64)).length) kq32]))) (Dx [] [] [0] (fun G=>(G.g 7 0)) [fun G=>Cl (G.g 7 0) [vi 0,.slice none 0 0]] (fun G=>xA (Al Qhj [vi 0,.slice none 0 0])) (Dx0 [6,7] [7] [1,0] [fun G=>Cl (G.g 7 0) [vi a.Width,(G.g 5 0)]] (fun G=>x1 0 rfl Qcn fun ho35=>(xS (Scl [1] Qaw [vi a.Width,(G.g 5 0)] (v:=.agg #[vi a.Width,(G.g 5 0)]) (h1:=show [vi a.Width,(G.g 5 0)].all (·.oneCell')=true from (by simp only [List.all_cons,List.all_nil,ho35,Bool.and_true,Bool.true_and] <;> rfl))))) ?_))
 refine Dn ⟨by kernel_rfl,fun G=>?_⟩
 refine Jw2 [(2,.func (.func combineF) #[] combineC.toArray),(3,p3),(4,p4),(6,p5),(8,(G.g 7 0))] [0,1,2,3,4,5] [os (G.g 5 0) ((List.replicate (a.Words.length:Int).toNat 0#64):List (BitVec 64)),Cl (G.g 7 0) [vi a.Width,(G.g 5 0)]] ?_
 generalize G.g 5 0=c29,G.g 7 0=p34
 refine Jo 6 ?_; rintro a36 k37 rfl
 refine Fb 8 6 fun _=>KS ?_
 refine Oq (Vfa Qcv 7) (Oq (Qai Qi4 7) (Oq (Qbc QgP) (Oq Vm (KS ?_))))
 refine Kl (γ:=Nat×List (BitVec 64)×Int) (fun (r39,Qh9,QdC)=>⟨[(2,.func (.func combineF) #[] combineC.toArray),(3,p3),(4,p4),(6,p5),(8,p34),(36,vi (((List.replicate (a.Words.length:Int).toNat 0#64).length:Nat):Int)),(37,vi QdC)],[Cl p5 [vi 0,.slice none 0 0],pv p4 [vi b.Width,vl ba1 bk1 b.Words],pv p3 [vi a.Width,vl aa1 ak1 a.Words],S aa1 ak1 a.Words,S ba1 bk1 b.Words,Qgg combineA,os (vl a36 k37 (List.replicate (a.Words.length:Int).toNat 0#64)) Qh9,Cl p34 [vi a.Width,vl a36 k37 (List.replicate (a.Words.length:Int).toNat 0#64)]],QcJ a b combinep r39 Qh9 QdC=QcJ a b combinep ((((((List.replicate (a.Words.length:Int).toNat 0#64).length:Nat):Int):Int) - 0).toNat) (List.replicate (a.Words.length:Int).toNat 0#64) 0/\r39=(((((List.replicate (a.Words.length:Int).toNat 0#64).length:Nat):Int):Int) - QdC).toNat/\(0:Int)<=QdC/\(QdC<=(((List.replicate (a.Words.length:Int).toNat 0#64).length:Nat):Int)\/QdC=0)/\(-9223372036854775808<=QdC/\QdC<=9223372036854775807)/\Qh9.length=a.Words.length,r39⟩) ((((((List.replicate (a.Words.length:Int).toNat 0#64).length:Nat):Int):Int) - 0).toNat,(List.replicate (a.Words.length:Int).toNat 0#64),0) [0,0,1,2,3,4,5,5] ⟨rfl,rfl,aM1,(.inr rfl),aM1,iv0⟩ ?_
 rintro ⟨r39,Qh9,QdC⟩ ⟨hM42,hr43,hi44,hi45,hk46,hv47⟩
 refine QaE fun _ _ hL hA=>?_; dsimp only at hL hA; subst hL hA
 refine Fb 8 3 fun _=>Fb 8 4 fun _=>Fb 8 6 fun _=>Fl 6 fun hn51=>?_
 refine KS ?_
 refine Oq Qbo (KS ?_)
 refine Kc ?_ ?_
 ·intro h52
  have g53:=dt h52
  obtain ⟨r54,rfl⟩:=scc (n:=r39) aM1
  refine KS ?_
  refine Oq Vm (Oq Va (KS ?_))
  refine Jp 7 fun hp55=>?_
  refine Qam [0,1,0,0,0,16,0,112,240,0,512,0,3584,7680,16376,32767,65535] QcF ?_
  refine Dv [0] (Vfa Qcv 0) (Dv [8] (Qai Qi4 0) (Dv [] Vm (Dv [] Vm (Dv [3] (Vfa Qcv 0) (Dv [3] (Qai Qi4 0) (Dv [] Vm (Dv [4] (Vi QgP 0) (Dv [4] (Qp3 Qn0 0) (Dv [2] (Vfa Qcv 0) ?_)))))))))
  refine Dv [2] (Qai Qi4 0) (Dv [] Vm (Dv [5] (Vi QgP 0) (Dv [5] (Qp3 Qn0 0) (Dx [6] [] [1,0] (fun G=>u64 (combinep (a.Words.getD QdC.toNat 0#64) (b.Words.getD QdC.toNat 0#64))) [fun G=>SP.fact (True)] (fun G=>xE (asv:=[(u64 (a.Words.getD QdC.toNat 0#64):Value),(u64 (b.Words.getD QdC.toNat 0#64):Value)]++combineC) [0] hcombinec rfl rfl rfl (by simp) rfl (hcombineF (a.Words.getD QdC.toNat 0#64) (b.Words.getD QdC.toNat 0#64)  )) (Dv [7] (Vi QgP 0) (Dx0 [7] [7] [0] [fun G=>os (vl a36 k37 (List.replicate (a.Words.length:Int).toNat 0#64)) (Qh9.set QdC.toNat (combinep (a.Words.getD QdC.toNat 0#64) (b.Words.getD QdC.toNat 0#64)))] (fun G=>xS (SoU [0] Qn0)) ?_))))))
  refine Dn ⟨by kernel_rfl,fun G=>?_⟩
  refine Jw2 [(2,.func (.func combineF) #[] combineC.toArray),(3,p3),(4,p4),(6,p5),(8,p34),(36,vi (((List.replicate (a.Words.length:Int).toNat 0#64).length:Nat):Int)),(37,vi QdC)] [0,1,2,3,4,5,6,8] [SP.fact (True),os (vl a36 k37 (List.replicate (a.Words.length:Int).toNat 0#64)) (Qh9.set QdC.toNat (combinep (a.Words.getD QdC.toNat 0#64) (b.Words.getD QdC.toNat 0#64)))] ?_
  refine Jk [1,1,2,3,4,5,6,7] ?_
  refine KS ?_
  refine Oq QaS (Oq Vm (KS ?_))
  exact Kg (r54,(Qh9.set QdC.toNat (combinep (a.Words.getD QdC.toNat 0#64) (b.Words.getD QdC.toNat 0#64))),(QdC+1)) [0,0,1,2,3,4,6,5] ⟨(q3 hM42 (by simp only [QcJ,h52,cs4])),aM1,aM1,aM1,aM1,iv1⟩
 intro h52
 have g56:=df h52
 obtain rfl:r39=0:=by omega
 refine Ke ?_
 have hR57:=q2 hM42 Qh9 (by simp only [QcJ,h52,cs4])
 refine KS ?_
 refine Oq (Qar Qaw 7) (Ost (Scl [0] Qaw [vi a.Width,vl a36 k37 (List.replicate (a.Words.length:Int).toNat 0#64)]) (Oq Va (KS ?_)))
 refine Jl [6] (Ent.freeze _ _) ?_
 have hq:=q4 hrr ((Qaf.mk a.Width Qh9),0) (by simp only [QdZ,h9,h14,h19,h24,h26,h52,hg7,hg17,hR57,cs4]); subst hq
 exact Kr (vl a36 k37 (List.replicate (a.Words.length:Int).toNat 0#64)) rfl (.cellN 1 rfl Qaw rfl (Qak _ _) rfl (.tmp rfl .nil)) [0] en
theorem Qyf (x:BitVec 64) (y:BitVec 64) (rr:BitVec 64) (hrr:Qgx x y=rr):FT Tryz.prog 151 #[u64 x,u64 y] [] (fun g:Unit=>True) (fun g=>u64 rr) (fun g=>[]):=by
 refine FTi Tryz.func151 fun w0 M0 F0=>?_
 refine KS ?_
 refine Oq Va (KS ?_)
 refine Oq Vm (Oq Vm (Oq Qp6 (Oq Va (KS ?_))))
 have hq:=q4 hrr (x &&& ~~~y) (by simp only [Qgx,cs4]); subst hq
 exact Kr () rfl (.tmp rfl .nil) [] trivial
theorem Qzh (a:Qaf) (aa1:Option Addr) (ak1:Nat) (b:Qaf) (ba1:Option Addr) (bk1:Nat) (Qke:Qaa a.Width) (QgI:Qaa b.Width) (rr:Qaf×Int) (hrr:Qky a b=rr):FT Tryz.prog 111 #[.agg #[vi a.Width,vl aa1 ak1 a.Words],.agg #[vi b.Width,vl ba1 bk1 b.Words]] [S aa1 ak1 a.Words,S ba1 bk1 b.Words] (fun g:Value=>Qaa rr.1.Width/\Qaa rr.2) (fun g=>.tuple #[.agg #[vi rr.1.Width,g],vi rr.2]) (fun g=>[sl g rr.1.Words]):=by
 refine FTi Tryz.func111 fun w0 M0 F0=>?_
 unfold Qaa at Qke QgI
 refine Fb 8 0 fun _=>Fb 8 1 fun _=>KS ?_
 refine Oa (Ab [vi a.Width,vl aa1 ak1 a.Words]) fun p3=>Oa (Ab [vi b.Width,vl ba1 bk1 b.Words]) fun p4=>Oa (Al Qhj [vi 0,.slice none 0 0]) fun p5=>Oq Va (KS ?_)
 refine Oq (Qar Qaw 2) (Oq (Qar Qaw 1) ?_)
 refine Qic (Ent.pall [] rfl rfl) ?_
 refine QaO (QdZ a b (fun x0 x1=>Qgx x0 x1)) fun rv7 hg8=>?_
 have hc9:=Qwh a aa1 ak1 b ba1 bk1 151 [] (fun x0 x1=>Qgx x0 x1) [] pre pre QyD (fun x0 x1=>Qgc (A1:=[]) (Qyf x0 x1   _ rfl)) rv7 hg8
 refine Oc [4,5,0] QwM hc9 ?_
 rintro c6 ⟨he10,he11⟩
 unfold Qaa at he10 he11
 refine Jo 0 ?_; rintro a12 k13 rfl
 refine Fb 8 0 fun _=>?_
 refine Oq Vx (Oq Vx (Ost (Scl [2] Qaw [vi rv7.1.Width,vl a12 k13 rv7.1.Words]) (Oq Va (KS ?_))))
 have hq:=q4 hrr (rv7.1,rv7.2) (by simp only [Qky,hg8,cs4]); subst hq
 exact Kr (vl a12 k13 rv7.1.Words) rfl (.cellN 0 rfl Qaw rfl (Qak _ _) rfl (.tmp rfl .nil)) [1] en
theorem Qyb (x:BitVec 64) (y:BitVec 64) (rr:BitVec 64) (hrr:Qfm x y=rr):FT Tryz.prog 173 #[u64 x,u64 y] [] (fun g:Unit=>True) (fun g=>u64 rr) (fun g=>[]):=by
 refine FTi Tryz.func173 fun w0 M0 F0=>?_
 refine KS ?_
 refine Oq Va (KS ?_)
 refine Oq Vm (Oq Vm (Oq Qxy (Oq Va (KS ?_))))
 have hq:=q4 hrr (x ||| y) (by simp only [Qfm,cs4]); subst hq
 exact Kr () rfl (.tmp rfl .nil) [] trivial
theorem Qwa (a:Qaf) (aa1:Option Addr) (ak1:Nat) (b:Qaf) (ba1:Option Addr) (bk1:Nat) (Qke:Qaa a.Width) (QgI:Qaa b.Width) (rr:Qaf×Int) (hrr:QeX a b=rr):FT Tryz.prog 144 #[.agg #[vi a.Width,vl aa1 ak1 a.Words],.agg #[vi b.Width,vl ba1 bk1 b.Words]] [S aa1 ak1 a.Words,S ba1 bk1 b.Words] (fun g:Value=>Qaa rr.1.Width/\Qaa rr.2) (fun g=>.tuple #[.agg #[vi rr.1.Width,g],vi rr.2]) (fun g=>[sl g rr.1.Words]):=by
 refine FTi Tryz.func144 fun w0 M0 F0=>?_
 unfold Qaa at Qke QgI
 refine Fb 8 0 fun _=>Fb 8 1 fun _=>KS ?_
 refine Oa (Ab [vi a.Width,vl aa1 ak1 a.Words]) fun p3=>Oa (Ab [vi b.Width,vl ba1 bk1 b.Words]) fun p4=>Oa (Al Qhj [vi 0,.slice none 0 0]) fun p5=>Oq Va (KS ?_)
 refine Oq (Qar Qaw 2) (Oq (Qar Qaw 1) ?_)
 refine Qic (Ent.pall [] rfl rfl) ?_
 refine QaO (QdZ a b (fun x0 x1=>Qfm x0 x1)) fun rv7 hg8=>?_
 have hc9:=Qwh a aa1 ak1 b ba1 bk1 173 [] (fun x0 x1=>Qfm x0 x1) [] pre pre Qx7 (fun x0 x1=>Qgc (A1:=[]) (Qyb x0 x1   _ rfl)) rv7 hg8
 refine Oc [4,5,0] QwM hc9 ?_
 rintro c6 ⟨he10,he11⟩
 unfold Qaa at he10 he11
 refine Jo 0 ?_; rintro a12 k13 rfl
 refine Fb 8 0 fun _=>?_
 refine Oq Vx (Oq Vx (Ost (Scl [2] Qaw [vi rv7.1.Width,vl a12 k13 rv7.1.Words]) (Oq Va (KS ?_))))
 have hq:=q4 hrr (rv7.1,rv7.2) (by simp only [QeX,hg8,cs4]); subst hq
 exact Kr (vl a12 k13 rv7.1.Words) rfl (.cellN 0 rfl Qaw rfl (Qak _ _) rfl (.tmp rfl .nil)) [1] en
theorem QxY (s:Qaf) (sa1:Option Addr) (sk1:Nat) (b:Int) (QcL:Qaa s.Width) (QgI:Qaa b) (hb0:0<=b/\b / 64 < (s.Words.length:Int)) (rr:List (BitVec 64)) (hrr:QoA s b=rr):FT Tryz.prog 185 #[.agg #[vi s.Width,vl sa1 sk1 s.Words],vi b] [O sa1 sk1 s.Words] (fun g:Unit=>True) (fun g=>.tuple #[]) (fun g=>[os (vl sa1 sk1 s.Words) rr]):=by
 refine FTi Tryz.func185 fun w0 M0 F0=>?_
 unfold Qaa at QcL QgI
 refine Fb 8 0 fun _=>KS ?_
 refine Oa (Ab [vi s.Width,vl sa1 sk1 s.Words]) fun p2=>KS ?_
 refine Oq (Vfa Qcv 0) (Oq (Qai Qi4 0) (Oq Vm (Oq Qq9 (Oq (Vi QgP 1) (Oq (Qp3 Qn0 1) (Oq Vm (Oq (VcU un3 Qrp) (Oq (QrH (b:=64#64) (by simp)) (Oq (QqZ (a:=1#64)) ?_)))))))))
 refine Oq Qxy (Oq (Vi QgP 1) (Ost (SoU [1] Qn0) (KS ?_)))
 refine Fl 0 fun hn3=>?_
 have hq:=q4 hrr (s.Words.set ((b / 64):Int).toNat ((s.Words.getD ((b / 64):Int).toNat 0#64) ||| (1#64 <<< ((((BitVec.ofInt 64 b) % 64#64).toNat:Int)).toNat))) (by simp only [QoA,cs4]); subst hq
 exact Kz () rfl .nil [0] trivial
theorem Qyc (s:Qaf) (sa1:Option Addr) (sk1:Nat) (b:Int) (member:Bool) (QcL:Qaa s.Width) (QgI:Qaa b) (rr:Qaf×Int) (hrr:QeJ s b member=rr):FT Tryz.prog 184 #[.agg #[vi s.Width,vl sa1 sk1 s.Words],vi b,vb member] [S sa1 sk1 s.Words] (fun g:Value=>Qaa rr.1.Width/\Qaa rr.2) (fun g=>.tuple #[.agg #[vi rr.1.Width,g],vi rr.2]) (fun g=>[sl g rr.1.Words]):=by
 refine FTi Tryz.func184 fun w0 M0 F0=>?_
 unfold Qaa at QcL QgI
 refine Fb 8 0 fun _=>KS ?_
 refine Oa (Ab [vi s.Width,vl sa1 sk1 s.Words]) fun p2=>Oa (Al Qhj [vi 0,.slice none 0 0]) fun p3=>Oq Va (KS ?_)
 refine Oq (Qar Qaw 1) ?_
 refine QaO (QaX s) fun rv4 hg5=>?_
 have hc6:=QrW s sa1 sk1 pre rv4 hg5
 refine Oc [2] Qrw hc6 ?_
 rintro - -
 refine Oq QcN (Oq Va (KS ?_))
 refine Kc ?_ ?_
 ·intro h7
  have h9:=not_true h7
  refine KS ?_
  refine Oq (Vbd Qjw [vi 0,.slice none 0 0]) (Ost (Scl [0] Qaw [vi 0,.slice none 0 0]) (Oq Va (KS ?_)))
  refine Jl [] (Ent.slNil (α:=BitVec 64)) ?_
  have hq:=q4 hrr ((Qaf.mk 0 []),1) (by simp only [QeJ,h7,h9,hg5,cs4]); subst hq
  exact Kr (.slice none 0 0) rfl (.cellN 1 rfl Qaw rfl (Qak _ _) rfl (.tmp rfl .nil)) [0] en
 intro h7
 have h12:=not_false h7
 try have hrg:=Qt2 (s:=s) (by simp only [h7,h12,hg5])
 try have hwi:=Qhp (s:=s) (b:=b) (by simp only [h7,h12,hg5])
 refine KS ?_
 refine Oq (Qar Qaw 1) (Oq Vm ?_)
 refine QaO (Qdv s b) fun rv14 hg15=>?_
 have hc16:=QAo s sa1 sk1 b pre pre rv14 hg15
 refine Oc [2] QzW hc16 ?_
 rintro - -
 refine Oq QcN (Oq Va (KS ?_))
 refine Kc ?_ ?_
 ·intro h17
  have h19:=not_true h17
  refine KS ?_
  refine Oq (Vbd Qjw [vi 0,.slice none 0 0]) (Ost (Scl [0] Qaw [vi 0,.slice none 0 0]) (Oq Va (KS ?_)))
  refine Jl [] (Ent.slNil (α:=BitVec 64)) ?_
  have hq:=q4 hrr ((Qaf.mk 0 []),3) (by simp only [QeJ,h7,h12,h17,h19,hg5,hg15,cs4]); subst hq
  exact Kr (.slice none 0 0) rfl (.cellN 1 rfl Qaw rfl (Qak _ _) rfl (.tmp rfl .nil)) [0] en
 intro h17
 have h22:=not_false h17
 try have hrg:=Qt2 (s:=s) (by simp only [h7,h12,h17,h22,hg5,hg15])
 try have hwi:=Qhp (s:=s) (b:=b) (by simp only [h7,h12,h17,h22,hg5,hg15])
 refine KS ?_
 refine Qam [0,1,0,4,12,31,0,127] QcF ?_
 refine Dv [1] (Vfa Qbj 0) (Dv [1] (Qai sh3 0) (Dv [1] (Vfa Qcv 0) (Dv [1] (Qai Qi4 0) ?_)))
 refine QaO (QcH s.Words) fun rv25 hg26=>Dx [2] [] [2,0,1] (fun G=>(G.g 4 0)) [fun G=>SP.fact ((rv25.length=s.Words.length)),fun G=>os (G.g 4 0) rv25] (fun G=>xC [0] Qv0 (Qwu s.Words sa1 sk1 rv25 hg26)) ?_
 refine Dx [4] [] [0] (fun G=>.agg #[vi s.Width,(G.g 4 0)]) [] (fun G=>xV (v:=.agg #[vi s.Width,(G.g 4 0)]) (Vo 0 rfl (Qim _ _) fun aq27 kq28 eq29=>(by rw [eq29]; exact Vbd Qjw [vi s.Width,.slice aq27 ((rv25:List (BitVec 64)).length) kq28]))) (Dx [] [] [0] (fun G=>(G.g 6 0)) [fun G=>Cl (G.g 6 0) [vi 0,.slice none 0 0]] (fun G=>xA (Al Qhj [vi 0,.slice none 0 0])) (Dx0 [4,5] [5] [1,0] [fun G=>Cl (G.g 6 0) [vi s.Width,(G.g 4 0)]] (fun G=>x1 0 rfl Qcn fun ho31=>(xS (Scl [1] Qaw [vi s.Width,(G.g 4 0)] (v:=.agg #[vi s.Width,(G.g 4 0)]) (h1:=show [vi s.Width,(G.g 4 0)].all (·.oneCell')=true from (by simp only [List.all_cons,List.all_nil,ho31,Bool.and_true,Bool.true_and] <;> rfl))))) ?_))
 refine Dn ⟨by kernel_rfl,fun G=>?_⟩
 refine Jw2 [(1,vi b),(2,vb member),(6,p3),(8,(G.g 6 0))] [0,1,2] [SP.fact ((rv25.length=s.Words.length)),os (G.g 4 0) rv25,Cl (G.g 6 0) [vi s.Width,(G.g 4 0)]] ?_
 generalize G.g 4 0=c24,G.g 6 0=p30
 refine Jf 3 rfl ?_; rintro he32
 refine Jk [0,0,1,3,3] ?_
 refine Jo 3 ?_; rintro a33 k34 rfl
 refine Fb 8 3 fun _=>KS ?_
 refine Oq (Vfa Qcv 4) (Oq (Qai Qi4 4) (Oq Vm (Oq Qq9 (Oq (Vi QgP 3) (Oq (Qp3 Qn0 3) (Oq Vm (Oq (VcU un3 Qrp) (Oq (QrH (b:=64#64) (by simp)) (Oq (QqZ (a:=1#64)) ?_)))))))))
 refine Oq Qp6 (Oq (Vi QgP 3) (Ost (SoU [3] Qn0) (KS ?_)))
 refine Oq Vm (KS ?_)
 refine Kc ?_ ?_
 ·intro h36
  refine KS ?_
  refine Oq (Qar Qaw 4) (Oq Vm ?_)
  refine Fl 0 fun hn38=>?_; (try unfold vl); rw [<- hn38]
  refine QaO (QoA (Qaf.mk s.Width (rv25.set ((b / 64):Int).toNat ((rv25.getD ((b / 64):Int).toNat 0#64) &&& ~~~(1#64 <<< ((((BitVec.ofInt 64 b) % 64#64).toNat:Int)).toNat)))) b) fun rv39 hg40=>?_
  have hc41:=QxY ((Qaf.mk s.Width (rv25.set ((b / 64):Int).toNat ((rv25.getD ((b / 64):Int).toNat 0#64) &&& ~~~(1#64 <<< ((((BitVec.ofInt 64 b) % 64#64).toNat:Int)).toNat))))) a33 k34 b pre pre pre rv39 hg40
  refine Oc [0] QyU hc41 ?_
  rintro - -
  refine KS ?_
  refine Oq (Qar Qaw 4) (Ost (Scl [1] Qaw [vi s.Width,.slice a33 ((rv25.set ((b / 64):Int).toNat ((rv25.getD ((b / 64):Int).toNat 0#64) &&& ~~~(1#64 <<< ((((BitVec.ofInt 64 b) % 64#64).toNat:Int)).toNat))).length) k34]) (Oq Va (KS ?_)))
  refine Jl [1] (Ent.freeze _ _) ?_
  have hq:=q4 hrr ((Qaf.mk s.Width rv39),0) (by simp only [QeJ,h7,h12,h17,h22,h36,hg5,hg15,hg26,hg40,cs4]); subst hq
  exact Kr (.slice a33 ((rv25.set ((b / 64):Int).toNat ((rv25.getD ((b / 64):Int).toNat 0#64) &&& ~~~(1#64 <<< ((((BitVec.ofInt 64 b) % 64#64).toNat:Int)).toNat))).length) k34) rfl (.cellN 1 rfl Qaw rfl (Qak _ _) rfl (.tmp rfl .nil)) [0] en
 intro h36
 refine KS ?_
 refine Oq (Qar Qaw 4) (Ost (Scl [1] Qaw [vi s.Width,vl a33 k34 rv25]) (Oq Va (KS ?_)))
 refine Jl [1] (Ent.freeze _ _) ?_
 have hq:=q4 hrr ((Qaf.mk s.Width (rv25.set ((b / 64):Int).toNat ((rv25.getD ((b / 64):Int).toNat 0#64) &&& ~~~(1#64 <<< ((((BitVec.ofInt 64 b) % 64#64).toNat:Int)).toNat)))),0) (by simp only [QeJ,h7,h12,h17,h22,h36,hg5,hg15,hg26,cs4]); subst hq
 exact Kr (vl a33 k34 rv25) rfl (.cellN 1 rfl Qaw rfl (Qak _ _) rfl (.tmp rfl .nil)) [0] en
theorem QyB (s:Qaf) (sa1:Option Addr) (sk1:Nat) (b:Int) (QcL:Qaa s.Width) (QgI:Qaa b) (rr:Qaf×Int) (hrr:Qkz s b=rr):FT Tryz.prog 181 #[.agg #[vi s.Width,vl sa1 sk1 s.Words],vi b] [S sa1 sk1 s.Words] (fun g:Value=>Qaa rr.1.Width/\Qaa rr.2) (fun g=>.tuple #[.agg #[vi rr.1.Width,g],vi rr.2]) (fun g=>[sl g rr.1.Words]):=by
 refine FTi Tryz.func181 fun w0 M0 F0=>?_
 unfold Qaa at QcL QgI
 refine Fb 8 0 fun _=>KS ?_
 refine Oa (Ab [vi s.Width,vl sa1 sk1 s.Words]) fun p2=>Oa (Al Qhj [vi 0,.slice none 0 0]) fun p3=>Oq Va (KS ?_)
 refine Oq (Qar Qaw 1) (Oq Vm ?_)
 refine QaO (QeJ s b true) fun rv5 hg6=>?_
 have hc7:=Qyc s sa1 sk1 b true pre pre rv5 hg6
 refine Oc [2] Qyo hc7 ?_
 rintro c4 ⟨he8,he9⟩
 unfold Qaa at he8 he9
 refine Jo 0 ?_; rintro a10 k11 rfl
 refine Fb 8 0 fun _=>?_
 refine Oq Vx (Oq Vx (Ost (Scl [1] Qaw [vi rv5.1.Width,vl a10 k11 rv5.1.Words]) (Oq Va (KS ?_))))
 have hq:=q4 hrr (rv5.1,rv5.2) (by simp only [Qkz,hg6,cs4]); subst hq
 exact Kr (vl a10 k11 rv5.1.Words) rfl (.cellN 0 rfl Qaw rfl (Qak _ _) rfl (.tmp rfl .nil)) [1] en
theorem QyO (t:Qad) (ta1:Option Addr) (tk1:Nat) (ta3:Option Addr) (tk3:Nat) (ta4:Option Addr) (tk4:Nat) (s:Qaf) (sa1:Option Addr) (sk1:Nat) (QkH:Qaa t.Gen.Width) (QkI:Qaa t.Kill.Width) (QcL:Qaa s.Width) (rr:Qaf) (hrr:QiZ t s=rr):FT Tryz.prog 172 #[.agg #[vi t.Gen.Width,vl ta1 tk1 t.Gen.Words,vi t.Kill.Width,vl ta3 tk3 t.Kill.Words,vl ta4 tk4 t.Copies],.agg #[vi s.Width,vl sa1 sk1 s.Words]] [S ta1 tk1 t.Gen.Words,S ta3 tk3 t.Kill.Words,S ta4 tk4 t.Copies,S sa1 sk1 s.Words] (fun g:Value=>Qaa rr.Width) (fun g=>.agg #[vi rr.Width,g]) (fun g=>[sl g rr.Words]):=by
 refine FTi Tryz.func172 fun w0 M0 F0=>?_
 unfold Qaa at QkH QkI QcL
 refine Fb 8 0 fun _=>Fb 8 1 fun _=>Fb 16 2 fun _=>Fb 8 3 fun _=>KS ?_
 refine Oa (Ab [vi t.Gen.Width,vl ta1 tk1 t.Gen.Words,vi t.Kill.Width,vl ta3 tk3 t.Kill.Words,vl ta4 tk4 t.Copies]) fun p5=>Oa (Ab [vi s.Width,vl sa1 sk1 s.Words]) fun p6=>Oa (Al Qhj [vi 0,.slice none 0 0]) fun p7=>KS ?_
 refine Oq (Qar Qaw 1) (Oq (Vfa QfD 2) (Oq (Qml Qaw 2 [vi t.Kill.Width,vl ta3 tk3 t.Kill.Words]) ?_))
 refine QaO (Qky s t.Kill) fun rv9 hg10=>?_
 have hc11:=Qzh s sa1 sk1 t.Kill ta3 tk3 pre pre rv9 hg10
 refine Oc [6,4] Qyv hc11 ?_
 rintro c8 ⟨he12,he13⟩
 unfold Qaa at he12 he13
 refine Jo 0 ?_; rintro a14 k15 rfl
 refine Fb 8 0 fun _=>?_
 refine Oq Vm (Oq Vx (Oq Vx (Oa (Al Qhj [vi 0,.slice none 0 0]) fun p17=>Ost (Scl [0] Qaw [vi rv9.1.Width,vl a14 k15 rv9.1.Words]) (Oq Va (KS ?_)))))
 refine Oq (Qar Qaw 0) (Oq (Vfa Qdx 4) (Oq (Qml Qaw 4 [vi t.Gen.Width,vl ta1 tk1 t.Gen.Words]) ?_))
 refine QaO (QeX rv9.1 t.Gen) fun rv19 hg20=>?_
 have hc21:=Qwa rv9.1 a14 k15 t.Gen ta1 tk1 pre pre rv19 hg20
 refine Oc [1,5] Qw9 hc21 ?_
 rintro c18 ⟨he22,he23⟩
 unfold Qaa at he22 he23
 refine Jo 0 ?_; rintro a24 k25 rfl
 refine Fb 8 0 fun _=>?_
 refine Oq Vm (Oq Vx (Oq Vx (Ost (Scl [1] Qaw [vi rv19.1.Width,vl a24 k25 rv19.1.Words]) (KS ?_))))
 refine Oq (Vfa Qcw 5) (Oq (Qai Qi5 5) (Oq (Qbc Qhq) (Oq Vm (KS ?_))))
 refine Kl (γ:=Nat×Int×List (BitVec 64)×Int×Option Addr×Nat) (fun (r27,QgL,QgM,QfK,a31,k32)=>⟨[(3,p6),(4,p7),(5,p17),(24,vl ta4 tk4 t.Copies),(25,vi (t.Copies.length:Int)),(26,vi QfK)],[S a31 k32 QgM,Cl p17 [vi QgL,vl a31 k32 QgM],Cl p7 [vi 0,.slice none 0 0],pv p6 [vi s.Width,vl sa1 sk1 s.Words],S ta4 tk4 t.Copies,S sa1 sk1 s.Words],Qb2 t s r27 QgL QgM QfK=Qb2 t s (((t.Copies.length:Int) - 0).toNat) rv19.1.Width rv19.1.Words 0/\r27=((t.Copies.length:Int) - QfK).toNat/\(0:Int)<=QfK/\QfK<=(t.Copies.length:Int)/\(-9223372036854775808<=QgL/\QgL<=9223372036854775807)/\(-9223372036854775808<=QfK/\QfK<=9223372036854775807),r27⟩) (((t.Copies.length:Int) - 0).toNat,rv19.1.Width,rv19.1.Words,0,a24,k25) [1,0,2,2,6,7] ⟨rfl,rfl,aM1,aM1,aM1,aM1⟩ ?_
 rintro ⟨r27,QgL,QgM,QfK,a31,k32⟩ ⟨hM33,hr34,hi35,hi36,hk37,hk38⟩
 refine QaE fun _ _ hL hA=>?_; dsimp only at hL hA; subst hL hA
 refine Fb 8 0 fun _=>Fb 16 4 fun _=>Fb 8 5 fun _=>KS ?_
 refine Oq Qbo (KS ?_)
 refine Kc ?_ ?_
 ·intro h42
  have g43:=dt h42
  obtain ⟨r44,rfl⟩:=scc (n:=r27) aM1
  refine KS ?_
  refine Oq (Vi Qhq 4) ?_
  refine Qcz QfK.toNat 4 rfl rng fun hb45 hb46=>?_
  unfold Qaa at hb45 hb46
  refine Oq (Qar QiC 0) (Oa (Al Quj [vi 0,vi 0]) fun p47=>Ost (Scl [0] QiC [vi ((t.Copies.getD QfK.toNat default).From),vi ((t.Copies.getD QfK.toNat default).To)]) (KS ?_))
  refine Oq (Qar Qaw 5) (Oq (Vfa QcA 0) (Oq (Qai sh3 0) ?_))
  refine QaO (Qei s ((t.Copies.getD QfK.toNat default).From)) fun rv48 hg49=>?_
  have hc50:=Qu9 s sa1 sk1 ((t.Copies.getD QfK.toNat default).From) pre pre rv48 hg49
  refine Oc [7] QuD hc50 ?_
  rintro - -
  refine KS ?_
  refine Kc ?_ ?_
  ·intro h51
   refine KS ?_
   refine Oq (Qar Qaw 3) (Oq (Vfa Qd4 0) (Oq (Qai sh3 0) ?_))
   refine QaO (Qkz (Qaf.mk QgL QgM) ((t.Copies.getD QfK.toNat default).To)) fun rv54 hg55=>?_
   have hc56:=QyB ((Qaf.mk QgL QgM)) a31 k32 ((t.Copies.getD QfK.toNat default).To) pre pre rv54 hg55
   refine Oc [2] Qzq hc56 ?_
   rintro c53 ⟨he57,he58⟩
   unfold Qaa at he57 he58
   refine Jo 0 ?_; rintro a59 k60 rfl
   refine Fb 8 0 fun _=>?_
   refine Oq Vm (Oq Vx (Oq Vx (Ost (Scl [4] Qaw [vi rv54.1.Width,vl a59 k60 rv54.1.Words]) (KS ?_))))
   refine Oq QaS (Oq Vm (KS ?_))
   exact Kg (r44,rv54.1.Width,rv54.1.Words,(QfK+1),a59,k60) [1,0,4,4,5,6] ⟨(q3 hM33 (by simp only [Qb2,h42,h51,hg49,hg55,cs4])),aM1,aM1,aM1,aM1,aM1⟩
  intro h51
  refine KS ?_
  refine Oq QaS (Oq Vm (KS ?_))
  exact Kg (r44,QgL,QgM,(QfK+1),a31,k32) [2,3,3,3,4,5] ⟨(q3 hM33 (by simp only [Qb2,h42,h51,hg49,cs4])),aM1,aM1,aM1,aM1,aM1⟩
 intro h42
 have g63:=df h42
 obtain rfl:r27=0:=by omega
 refine Ke ?_
 have hR64:=q2 hM33 (QgL,QgM) (by simp only [Qb2,h42,cs4])
 refine KS ?_
 refine Oq (Qar Qaw 1) (Ost (Scl [2] Qaw [vi QgL,vl a31 k32 QgM]) (KS ?_))
 have hq:=q4 hrr (Qaf.mk QgL QgM) (by simp only [QiZ,h42,hg10,hg20,hR64,cs4]); subst hq
 exact Kr (vl a31 k32 QgM) rfl (.cellN 0 rfl Qaw rfl (Qak _ _) rfl .nil) [1] en
theorem Qze (t:Qad) (ta1:Option Addr) (tk1:Nat) (ta3:Option Addr) (tk3:Nat) (ta4:Option Addr) (tk4:Nat) (s:Qaf) (sa1:Option Addr) (sk1:Nat) (QkH:Qaa t.Gen.Width) (QkI:Qaa t.Kill.Width) (QcL:Qaa s.Width) (rr:Qaf×Int) (hrr:Qeu t s=rr):FT Tryz.prog 143 #[.agg #[vi t.Gen.Width,vl ta1 tk1 t.Gen.Words,vi t.Kill.Width,vl ta3 tk3 t.Kill.Words,vl ta4 tk4 t.Copies],.agg #[vi s.Width,vl sa1 sk1 s.Words]] [S ta1 tk1 t.Gen.Words,S ta3 tk3 t.Kill.Words,S ta4 tk4 t.Copies,S sa1 sk1 s.Words] (fun g:Value=>Qaa rr.1.Width/\Qaa rr.2) (fun g=>.tuple #[.agg #[vi rr.1.Width,g],vi rr.2]) (fun g=>[sl g rr.1.Words]):=by
 refine FTi Tryz.func143 fun w0 M0 F0=>?_
 unfold Qaa at QkH QkI QcL
 refine Fb 8 0 fun _=>Fb 8 1 fun _=>Fb 16 2 fun _=>Fb 8 3 fun _=>KS ?_
 refine Oa (Ab [vi t.Gen.Width,vl ta1 tk1 t.Gen.Words,vi t.Kill.Width,vl ta3 tk3 t.Kill.Words,vl ta4 tk4 t.Copies]) fun p5=>Oa (Ab [vi s.Width,vl sa1 sk1 s.Words]) fun p6=>Oa (Al Qhj [vi 0,.slice none 0 0]) fun p7=>Oq Va (KS ?_)
 refine Oq (Qar Qdm 2) ?_
 refine QaO (QcM t) fun rv8 hg9=>?_
 have hc10:=Qzn t ta1 tk1 ta3 tk3 ta4 tk4 pre pre rv8 hg9
 refine Oc [3,4,5] QyZ hc10 ?_
 rintro - -
 refine Oq QcN (Oq Vm ?_)
 refine Js 10 ?_ ?_
 ·intro h11
  have h13:=not_true h11
  refine Osk (Osk (Osk (Oq Vpt (Oq Va (KS ?_)))))
  refine Kt (KS ?_)
  refine Oq (Vbd Qjw [vi 0,.slice none 0 0]) (Ost (Scl [0] Qaw [vi 0,.slice none 0 0]) (Oq Va (KS ?_)))
  refine Jl [] (Ent.slNil (α:=BitVec 64)) ?_
  have hq:=q4 hrr ((Qaf.mk 0 []),1) (by simp only [Qeu,h11,h13,hg9,cs4]); subst hq
  exact Kr (.slice none 0 0) rfl (.cellN 1 rfl Qaw rfl (Qak _ _) rfl (.tmp rfl .nil)) [0] en
 intro h11
 have h16:=not_false h11
 refine Oq (Qar Qaw 1) ?_
 refine QaO (QaX s) fun rv18 hg19=>?_
 have hc20:=QrW s sa1 sk1 pre rv18 hg19
 refine Oc [6] Qrw hc20 ?_
 rintro - -
 refine Oq QcN (Oq Vpf (Oq Va (KS ?_)))
 refine Kc ?_ ?_
 ·intro h21
  have h23:=not_true h21
  refine KS ?_
  refine Oq (Vbd Qjw [vi 0,.slice none 0 0]) (Ost (Scl [0] Qaw [vi 0,.slice none 0 0]) (Oq Va (KS ?_)))
  refine Jl [] (Ent.slNil (α:=BitVec 64)) ?_
  have hq:=q4 hrr ((Qaf.mk 0 []),1) (by simp only [Qeu,h11,h16,h21,h23,hg9,hg19,cs4]); subst hq
  exact Kr (.slice none 0 0) rfl (.cellN 1 rfl Qaw rfl (Qak _ _) rfl (.tmp rfl .nil)) [0] en
 intro h21
 have h26:=not_false h21
 refine KS ?_
 refine Oq (Vfa Qdx 2) (Oq (Qoy Qbj 2) (Oq (Qai sh3 2) (Oq (Vfa Qbj 1) (Oq (Qai sh3 1) (Oq Qf4 (Oq Va (KS ?_)))))))
 refine Kc ?_ ?_
 ·intro h28
  have g29:=Qax h28
  refine KS ?_
  refine Oq (Vbd Qjw [vi 0,.slice none 0 0]) (Ost (Scl [0] Qaw [vi 0,.slice none 0 0]) (Oq Va (KS ?_)))
  refine Jl [] (Ent.slNil (α:=BitVec 64)) ?_
  have hq:=q4 hrr ((Qaf.mk 0 []),2) (by simp only [Qeu,h11,h16,h21,h26,h28,hg9,hg19,cs4]); subst hq
  exact Kr (.slice none 0 0) rfl (.cellN 1 rfl Qaw rfl (Qak _ _) rfl (.tmp rfl .nil)) [0] en
 intro h28
 have g30:=Qae h28
 refine KS ?_
 refine Oq (Qar Qdm 2) (Oq (Qar Qaw 1) ?_)
 refine QaO (QiZ t s) fun rv32 hg33=>?_
 have hc34:=QyO t ta1 tk1 ta3 tk3 ta4 tk4 s sa1 sk1 pre pre pre rv32 hg33
 refine Oc [3,4,5,6] Qza hc34 ?_
 rintro c31 he35
 unfold Qaa at he35
 refine Jo 0 ?_; rintro a36 k37 rfl
 refine Fb 8 0 fun _=>?_
 refine Ost (Scl [1] Qaw [vi rv32.Width,vl a36 k37 rv32.Words]) (Oq Va (KS ?_))
 have hq:=q4 hrr (rv32,0) (by simp only [Qeu,h11,h16,h21,h26,h28,hg9,hg19,hg33,cs4]); subst hq
 exact Kr (vl a36 k37 rv32.Words) rfl (.cellN 0 rfl Qaw rfl (Qak _ _) rfl (.tmp rfl .nil)) [1] en
theorem Qyq (s:Qab) (sa1:Option Addr) (sk1:Nat) (sa2:Option Addr) (sk2:Nat) (sa3:Option Addr) (sk3:Nat) (values:List Qaf) (valuesa0:Option Addr) (valuesk0:Nat) (n:Int) (QcL:Qaa s.Width) (Qf1:Qaa n) (rr:Qaf×Int) (hrr:Qev s values n=rr):FT Tryz.prog 101 #[.agg #[vi s.Width,vl sa1 sk1 s.Deps,vl sa2 sk2 s.Transfers,vl sa3 sk3 s.Boundary],vl valuesa0 valuesk0 values,vi n] [S sa1 sk1 s.Deps,S sa2 sk2 s.Transfers,S sa3 sk3 s.Boundary,S valuesa0 valuesk0 values] (fun g:Value=>Qaa rr.1.Width/\Qaa rr.2) (fun g=>.tuple #[.agg #[vi rr.1.Width,g],vi rr.2]) (fun g=>[sl g rr.1.Words]):=by
 refine FTi Tryz.func101 fun w0 M0 F0=>?_
 unfold Qaa at QcL Qf1
 refine Fb 24 0 fun _=>Fb 88 1 fun _=>Fb 32 2 fun _=>Fb 32 3 fun _=>KS ?_
 refine Oa (Ab [vi s.Width,vl sa1 sk1 s.Deps,vl sa2 sk2 s.Transfers,vl sa3 sk3 s.Boundary]) fun p5=>Oa (Al Qhj [vi 0,.slice none 0 0]) fun p6=>Oq Va (KS ?_)
 refine Oq (Qar Qeh 1) ?_
 refine QaO (Qca s) fun rv7 hg8=>?_
 have hc9:=QxJ s sa1 sk1 sa2 sk2 sa3 sk3 pre rv7 hg8
 refine Oc [2,3,4] Qxz hc9 ?_
 rintro - -
 refine Oq QcN (Oq Va (KS ?_))
 refine Kc ?_ ?_
 ·intro h10
  have h12:=not_true h10
  refine KS ?_
  refine Oq (Vbd Qjw [vi 0,.slice none 0 0]) (Ost (Scl [0] Qaw [vi 0,.slice none 0 0]) (Oq Va (KS ?_)))
  refine Jl [] (Ent.slNil (α:=BitVec 64)) ?_
  have hq:=q4 hrr ((Qaf.mk 0 []),1) (by simp only [Qev,h10,h12,hg8,cs4]); subst hq
  exact Kr (.slice none 0 0) rfl (.cellN 1 rfl Qaw rfl (Qak _ _) rfl (.tmp rfl .nil)) [0] en
 intro h10
 have h15:=not_false h10
 try (have hvs:=(Qdw s).1 (by simp only [h10,h15,hg8]); have hv1:=hvs.n; have hv2:=hvs.tl; have hv3:=hvs.bl; have hv4:=hvs.w; have hv5:=hvs.dep_len)
 refine KS ?_
 refine Oq Vm (Oq Qbo (Oq Vm ?_))
 refine Js 21 ?_ ?_
 ·intro h17
  have g18:=dt h17
  refine Osk (Osk (Osk (Osk (Osk (Oq Vpt (Oq Va (KS ?_)))))))
  refine Kt (KS ?_)
  refine Oq (Vbd Qjw [vi 0,.slice none 0 0]) (Ost (Scl [0] Qaw [vi 0,.slice none 0 0]) (Oq Va (KS ?_)))
  refine Jl [] (Ent.slNil (α:=BitVec 64)) ?_
  have hq:=q4 hrr ((Qaf.mk 0 []),9) (by simp only [Qev,h10,h15,h17,hg8,cs4]); subst hq
  exact Kr (.slice none 0 0) rfl (.cellN 1 rfl Qaw rfl (Qak _ _) rfl (.tmp rfl .nil)) [0] en
 intro h17
 have g19:=df h17
 refine Oq Vm (Oq (Vfa Qbt 1) (Oq (Qai QfL 1) (Oq (Qbc QeN) (Oq Qhv (Oq Vpf (Oq Va (KS ?_)))))))
 refine Kc ?_ ?_
 ·intro h20
  have g21:=dt h20
  refine KS ?_
  refine Oq (Vbd Qjw [vi 0,.slice none 0 0]) (Ost (Scl [0] Qaw [vi 0,.slice none 0 0]) (Oq Va (KS ?_)))
  refine Jl [] (Ent.slNil (α:=BitVec 64)) ?_
  have hq:=q4 hrr ((Qaf.mk 0 []),9) (by simp only [Qev,h10,h15,h17,h20,hg8,cs4]); subst hq
  exact Kr (.slice none 0 0) rfl (.cellN 1 rfl Qaw rfl (Qak _ _) rfl (.tmp rfl .nil)) [0] en
 intro h20
 have g22:=df h20
 refine KS ?_
 refine Oq Vm (Oq (Qbc Qd2) (Oq (Vfa Qbt 1) (Oq (Qai QfL 1) (Oq (Qbc QeN) (Oq Qf4 (Oq Vm ?_))))))
 refine Js 36 ?_ ?_
 ·intro h23
  have g24:=Qax h23
  refine Osk (Osk (Oq Vpt (Oq Va (KS ?_))))
  refine Kt (KS ?_)
  refine Oq (Vbd Qjw [vi 0,.slice none 0 0]) (Ost (Scl [0] Qaw [vi 0,.slice none 0 0]) (Oq Va (KS ?_)))
  refine Jl [] (Ent.slNil (α:=BitVec 64)) ?_
  have hq:=q4 hrr ((Qaf.mk 0 []),1) (by simp only [Qev,h10,h15,h17,h20,h23,hg8,cs4]); subst hq
  exact Kr (.slice none 0 0) rfl (.cellN 1 rfl Qaw rfl (Qak _ _) rfl (.tmp rfl .nil)) [0] en
 intro h23
 have g25:=Qae h23
 refine Oq Vm ?_
 refine Qic (Ent.pall [] rfl rfl) ?_
 refine QaO (QaN values (fun x=>QeH x)) fun rv26 hg27=>?_
 have hc28:=Qxd values valuesa0 valuesk0 141 [] (fun x=>QeH x) [] Qzc (fun x hx a1 k1 hq0=>Qgc (A1:=_) (QxO x a1 k1  hq0 _ rfl)) rv26 hg27
 refine Oc [6,0] QwB hc28 ?_
 rintro - -
 refine Oq Vpf (Oq Va (KS ?_))
 refine Kc ?_ ?_
 ·intro h29
  try (have hvs:=(Qdw s).1 (by simp only [h10,h15,h17,h20,h23,h29,hg8,hg27]); have hv1:=hvs.n; have hv2:=hvs.tl; have hv3:=hvs.bl; have hv4:=hvs.w; have hv5:=hvs.dep_len)
  refine KS ?_
  refine Oq (Vbd Qjw [vi 0,.slice none 0 0]) (Ost (Scl [1] Qaw [vi 0,.slice none 0 0]) (Oq Va (KS ?_)))
  refine Jl [] (Ent.slNil (α:=BitVec 64)) ?_
  have hq:=q4 hrr ((Qaf.mk 0 []),1) (by simp only [Qev,h10,h15,h17,h20,h23,h29,hg8,hg27,cs4]); subst hq
  exact Kr (.slice none 0 0) rfl (.cellN 1 rfl Qaw rfl (Qak _ _) rfl (.tmp rfl .nil)) [0] en
 intro h29
 refine KS ?_
 refine Oq (Vfa Qb7 2) (Oq (Qai sh3 2) (Oq Vm ?_))
 refine QaO (Qg5 s.Width values) fun rv32 hg33=>?_
 have hc34:=QzY s.Width values valuesa0 valuesk0 pre rv32 hg33
 refine Oc [6] QAi hc34 ?_
 rintro - -
 refine Oq QcN (Oq Va (KS ?_))
 refine Kc ?_ ?_
 ·intro h35
  have h37:=not_true h35
  refine KS ?_
  refine Oq (Vbd Qjw [vi 0,.slice none 0 0]) (Ost (Scl [1] Qaw [vi 0,.slice none 0 0]) (Oq Va (KS ?_)))
  refine Jl [] (Ent.slNil (α:=BitVec 64)) ?_
  have hq:=q4 hrr ((Qaf.mk 0 []),2) (by simp only [Qev,h10,h15,h17,h20,h23,h29,h35,h37,hg8,hg27,hg33,cs4]); subst hq
  exact Kr (.slice none 0 0) rfl (.cellN 1 rfl Qaw rfl (Qak _ _) rfl (.tmp rfl .nil)) [0] en
 intro h35
 have h40:=not_false h35
 try (have hvs:=(Qdw s).1 (by simp only [h10,h15,h17,h20,h23,h29,h35,h40,hg8,hg27,hg33]); have hv1:=hvs.n; have hv2:=hvs.tl; have hv3:=hvs.bl; have hv4:=hvs.w; have hv5:=hvs.dep_len)
 refine KS ?_
 refine Qbf n.toNat 5 rfl rng fun a42 k43 hb44=>?_
 unfold Qaa at hb44
 refine Fb 8 1 fun _=>?_
 refine Qam [0,1,0,4,0,28,60,124,252,511,0,2047] QcF ?_
 refine Dv [4] (Vfa Qb7 0) (Dv [4] (Qai sh3 0) (Dv [4] (Vfa Qc8 0) (Dv [4] (Qai Qjc 0) (Dv [] Vm (Dv [7] (Vi Qd2 0) (Dv [0] (Vfa Qcv 0) (Dv [0] (Qai Qi4 0) ?_)))))))
 refine QaO (QcH ((s.Boundary.getD n.toNat default).Words)) fun rv47 hg48=>Dx [1] [] [2,0,1] (fun G=>(G.g 8 0)) [fun G=>SP.fact ((rv47.length=((s.Boundary.getD n.toNat default).Words).length)),fun G=>os (G.g 8 0) rv47] (fun G=>xC [0] Qv0 (Qwu ((s.Boundary.getD n.toNat default).Words) a42 k43 rv47 hg48)) ?_
 refine Dx [10] [] [0] (fun G=>.agg #[vi s.Width,(G.g 8 0)]) [] (fun G=>xV (v:=.agg #[vi s.Width,(G.g 8 0)]) (Vo 0 rfl (Qim _ _) fun aq49 kq50 eq51=>(by rw [eq51]; exact Vbd Qjw [vi s.Width,.slice aq49 ((rv47:List (BitVec 64)).length) kq50]))) (Dx [] [] [0] (fun G=>(G.g 10 0)) [fun G=>Cl (G.g 10 0) [vi 0,.slice none 0 0]] (fun G=>xA (Al Qhj [vi 0,.slice none 0 0])) (Dx0 [10,11] [11] [1,0] [fun G=>Cl (G.g 10 0) [vi s.Width,(G.g 8 0)]] (fun G=>x1 0 rfl Qcn fun ho53=>(xS (Scl [1] Qaw [vi s.Width,(G.g 8 0)] (v:=.agg #[vi s.Width,(G.g 8 0)]) (h1:=show [vi s.Width,(G.g 8 0)].all (·.oneCell')=true from (by simp only [List.all_cons,List.all_nil,ho53,Bool.and_true,Bool.true_and] <;> rfl))))) ?_))
 refine Dn ⟨by kernel_rfl,fun G=>?_⟩
 refine Jw2 [(1,vl valuesa0 valuesk0 values),(2,vi n),(3,p5),(6,p6),(8,(G.g 10 0))] [0,1,2,3,4,5,6,7,8] [SP.fact ((rv47.length=((s.Boundary.getD n.toNat default).Words).length)),os (G.g 8 0) rv47,Cl (G.g 10 0) [vi s.Width,(G.g 8 0)]] ?_
 generalize G.g 8 0=c46,G.g 10 0=p52
 refine Jf 9 rfl ?_; rintro he54
 refine Jk [0,1,2,3,3,4,5,6,7,9,9] ?_
 refine Jo 9 ?_; rintro a55 k56 rfl
 refine Fb 8 9 fun _=>KS ?_
 refine Oq (Vfa Qbt 4) (Oq (Qai QfL 4) (Oq Vm (Oq (Vi QeN 5) ?_)))
 refine Qef n.toNat 5 rfl rng fun a58 k59=>?_
 refine Fb 8 1 fun _=>Fo 1 fun ho61=>?_
 refine Oq (Vld Qjs 0) (Oq (Qbc QcP) (Oq Vm (KS ?_)))
 refine Jl [11] (Ent.freeze _ _) ?_
 refine Kl (γ:=Nat×Int×List (BitVec 64)×Int×Option Addr×Nat) (fun (r62,Qhd,Qhe,Qe3,a66,k67)=>⟨[(1,vl valuesa0 valuesk0 values),(3,p5),(6,p6),(8,p52),(62,vl a58 k59 (s.Deps.getD n.toNat [])),(63,vi ((s.Deps.getD n.toNat []).length:Int)),(64,vi Qe3)],[S a66 k67 Qhe,S a58 k59 ((s.Deps.getD n.toNat []):List Int),Qgg [],Cl p6 [vi 0,.slice none 0 0],pv p5 [vi s.Width,vl sa1 sk1 s.Deps,vl sa2 sk2 s.Transfers,vl sa3 sk3 s.Boundary],S sa1 sk1 s.Deps,S sa2 sk2 s.Transfers,S sa3 sk3 s.Boundary,S valuesa0 valuesk0 values,Cl p52 [vi Qhd,vl a66 k67 Qhe]],Qd9 s values n r62 Qhd Qhe Qe3=Qd9 s values n (((((s.Deps.getD n.toNat []).length:Int):Int) - 0).toNat) s.Width rv47 0/\r62=((((s.Deps.getD n.toNat []).length:Int):Int) - Qe3).toNat/\(0:Int)<=Qe3/\(Qe3<=((s.Deps.getD n.toNat []).length:Int)\/Qe3=0)/\(-9223372036854775808<=Qhd/\Qhd<=9223372036854775807)/\(-9223372036854775808<=Qe3/\Qe3<=9223372036854775807),r62⟩) (((((s.Deps.getD n.toNat []).length:Int):Int) - 0).toNat,s.Width,rv47,0,a55,k56) [0,2,5,6,6,7,8,9,10,11] ⟨rfl,rfl,aM1,(.inr rfl),aM1,aM1⟩ ?_
 rintro ⟨r62,Qhd,Qhe,Qe3,a66,k67⟩ ⟨hM68,hr69,hi70,hi71,hk72,hk73⟩
 refine QaE fun _ _ hL hA=>?_; dsimp only at hL hA; subst hL hA
 refine Fb 8 0 fun _=>Fb 8 1 fun _=>Fo 1 fun ho76=>Fb 24 5 fun _=>Fb 88 6 fun _=>Fb 32 7 fun _=>Fb 32 8 fun _=>KS ?_
 refine Oq Qbo (KS ?_)
 refine Kc ?_ ?_
 ·intro h81
  have g82:=dt h81
  have hq:=hvs.dep_mem (j:=n) aM1 aM1 _ (QaA (xs:=s.Deps.getD n.toNat []) (i:=Qe3.toNat) (d:=0) aM1)
  obtain ⟨r83,rfl⟩:=scc (n:=r62) aM1
  refine KS ?_
  refine Oq (Vi QcP 1) ?_
  have hb84:=ok1 (i:=Qe3.toNat) ho76 rng
  refine Oq (QjF sh3 1) (Oq Va (KS ?_))
  refine Qa0 (((s.Deps.getD n.toNat []).getD Qe3.toNat 0):Int).toNat 6 rfl rng fun a85 k86 a87 k88 a89 k90 hb91 hb92=>?_
  unfold Qaa at hb91 hb92
  refine Fb 8 1 fun _=>Fb 8 2 fun _=>Fb 16 3 fun _=>?_
  refine Qbf (((s.Deps.getD n.toNat []).getD Qe3.toNat 0):Int).toNat 12 rfl rng fun a96 k97 hb98=>?_
  unfold Qaa at hb98
  refine Fb 8 1 fun _=>?_
  refine Qam [0,1,0,7,15,0,0,96,224,511,1023,2047,2047,0,12287,32767] QcF ?_
  refine Dv [10] (Vfa Qco 0) (Dv [10] (Qai QiS 0) (Dv [] Vm (Dv [12] (Vi Qhi 0) (Dv [2] (Qar Qdm 0) (Dv [] Vm (Dv [] Vm (Dv [14] (Vi Qd2 0) (Dv [0] (Qar Qaw 0) ?_))))))))
  refine QaO (Qeu (s.Transfers.getD (((s.Deps.getD n.toNat []).getD Qe3.toNat 0):Int).toNat default) (values.getD (((s.Deps.getD n.toNat []).getD Qe3.toNat 0):Int).toNat default)) fun rv101 hg102=>?_
  refine Dx [1,3,4,5] [] [2,3,4,5,0,1] (fun G=>.tuple #[.agg #[vi rv101.1.Width,(G.g 9 0)],vi rv101.2]) [fun G=>SP.fact (Qaa rv101.1.Width/\Qaa rv101.2),fun G=>sl (G.g 9 0) rv101.1.Words] (fun G=>xC [1,2,3,0] Qyj (Qze ((s.Transfers.getD (((s.Deps.getD n.toNat []).getD Qe3.toNat 0):Int).toNat default)) a85 k86 a87 k88 a89 k90 ((values.getD (((s.Deps.getD n.toNat []).getD Qe3.toNat 0):Int).toNat default)) a96 k97 pre pre pre rv101 hg102)) (Dg [] (fun G=>.tuple #[.agg #[vi rv101.1.Width,(G.g 9 0)],vi rv101.2]) (fun G=>Vm) (Dg [] (fun G=>.agg #[vi rv101.1.Width,(G.g 9 0)]) (fun G=>Vx) (Dv [] Vx (Dx [] [] [0] (fun G=>(G.g 13 0)) [fun G=>Cl (G.g 13 0) [vi 0,.slice none 0 0]] (fun G=>xA (Al Qhj [vi 0,.slice none 0 0])) (Dx0 [17,18] [18] [1,0] [fun G=>Cl (G.g 13 0) [vi rv101.1.Width,(G.g 9 0)]] (fun G=>x1 0 rfl QjQ fun ho104=>(xS (Scl [1] Qaw [vi rv101.1.Width,(G.g 9 0)] (v:=.agg #[vi rv101.1.Width,(G.g 9 0)]) (h1:=show [vi rv101.1.Width,(G.g 9 0)].all (·.oneCell')=true from (by simp only [List.all_cons,List.all_nil,ho104,Bool.and_true,Bool.true_and] <;> rfl))))) (Dv [] Va ?_))))))
  refine Dn ⟨by kernel_rfl,fun G=>?_⟩
  refine Jw2 [(1,vl valuesa0 valuesk0 values),(3,p5),(6,p6),(8,p52),(62,vl a58 k59 (s.Deps.getD n.toNat [])),(63,vi ((s.Deps.getD n.toNat []).length:Int)),(64,vi Qe3),(11,(G.g 13 0))] [0,1,2,3,4,5,6,7,8,9,10,11,12,13,14,15] [SP.fact (Qaa rv101.1.Width/\Qaa rv101.2),sl (G.g 9 0) rv101.1.Words,Cl (G.g 13 0) [vi rv101.1.Width,(G.g 9 0)]] ?_
  generalize G.g 9 0=c100,G.g 13 0=p103
  refine Jf 16 rfl ?_; rintro ⟨he105,he106⟩
  unfold Qaa at he105 he106
  refine Jk [0,1,2,3,4,5,6,7,8,9,9,10,11,12,13,14,15,16] ?_
  refine Jo 16 ?_; rintro a107 k108 rfl
  refine Fb 8 16 fun _=>KS ?_
  refine Oq (Qar Qaw 15) (Oq (Qar Qaw 17) ?_)
  refine QaO (QeX (Qaf.mk Qhd Qhe) rv101.1) fun rv111 hg112=>?_
  have hc113:=Qwa ((Qaf.mk Qhd Qhe)) a66 k67 rv101.1 a107 k108 pre pre rv111 hg112
  refine Oc [6,16] Qw9 hc113 ?_
  rintro c110 ⟨he114,he115⟩
  unfold Qaa at he114 he115
  refine Jo 0 ?_; rintro a116 k117 rfl
  refine Fb 8 0 fun _=>?_
  refine Oq Vm (Oq Vx (Oq Vx (Ost (Scl [16] Qaw [vi rv111.1.Width,vl a116 k117 rv111.1.Words]) (KS ?_))))
  refine Oq QaS (Oq Vm (KS ?_))
  exact Kg (r83,rv111.1.Width,rv111.1.Words,(Qe3+1),a116,k117) [1,9,10,11,11,12,13,14,15,0] ⟨(q3 hM68 (by simp only [Qd9,h81,hg102,hg112,cs4])),aM1,aM1,aM1,aM1,aM1⟩
 intro h81
 have g119:=df h81
 obtain rfl:r62=0:=by omega
 refine Ke ?_
 have hR120:=q2 hM68 (Qhd,Qhe) (by simp only [Qd9,h81,cs4])
 refine KS ?_
 refine Oq (Qar Qaw 9) (Ost (Scl [3] Qaw [vi Qhd,vl a66 k67 Qhe]) (Oq Va (KS ?_)))
 have hq:=q4 hrr ((Qaf.mk Qhd Qhe),0) (by simp only [Qev,h10,h15,h17,h20,h23,h29,h35,h40,h81,hg8,hg27,hg33,hg48,hR120,cs4]); subst hq
 exact Kr (vl a66 k67 Qhe) rfl (.cellN 0 rfl Qaw rfl (Qak _ _) rfl (.tmp rfl .nil)) [1] en
theorem QBP (s:Qab) (sa1:Option Addr) (sk1:Nat) (sa2:Option Addr) (sk2:Nat) (sa3:Option Addr) (sk3:Nat) (values:List Qaf) (valuesa0:Option Addr) (valuesk0:Nat) (QcL:Qaa s.Width) (rr:List Qaf×Int) (hrr:Qiu s values=rr):FT Tryz.prog 59 #[.agg #[vi s.Width,vl sa1 sk1 s.Deps,vl sa2 sk2 s.Transfers,vl sa3 sk3 s.Boundary],vl valuesa0 valuesk0 values] [S sa1 sk1 s.Deps,S sa2 sk2 s.Transfers,S sa3 sk3 s.Boundary,S valuesa0 valuesk0 values] (fun g:Value=>Qaa rr.2) (fun g=>.tuple #[g,vi rr.2]) (fun g=>[sl g rr.1]):=by
 refine FTi Tryz.func59 fun w0 M0 F0=>?_
 unfold Qaa at QcL
 refine Fb 24 0 fun _=>Fb 88 1 fun _=>Fb 32 2 fun _=>Fb 32 3 fun _=>KS ?_
 refine Oa (Ab [vi s.Width,vl sa1 sk1 s.Deps,vl sa2 sk2 s.Transfers,vl sa3 sk3 s.Boundary]) fun p5=>Oq Va (Oq Va (KS ?_))
 refine Oq (Qar Qeh 0) ?_
 refine QaO (Qca s) fun rv6 hg7=>?_
 have hc8:=QxJ s sa1 sk1 sa2 sk2 sa3 sk3 pre rv6 hg7
 refine Oc [1,2,3] Qxz hc8 ?_
 rintro - -
 refine Oq QcN (KS ?_)
 refine Kc ?_ ?_
 ·intro h9
  have h11:=not_true h9
  refine KS ?_
  refine Oq Va (Oq Va (KS ?_))
  refine Jl [] (Ent.slNil (α:=Qaf)) ?_
  have hq:=q4 hrr (([]:List Qaf),1) (by simp only [Qiu,h9,h11,hg7,cs4]); subst hq
  exact Kr (.slice none 0 0) rfl (.tmp rfl (.tmp rfl .nil)) [0] en
 intro h9
 have h14:=not_false h9
 try (have hvs:=(Qdw s).1 (by simp only [h9,h14,hg7]); have hv1:=hvs.n)
 refine KS ?_
 refine Oq Va (KS ?_)
 refine Oq (Vfa Qbt 0) (Oq (Qai QfL 0) (Oq (Qbc QeN) (Oq Vm (KS ?_))))
 refine Jl [] (Ent.osNil (α:=Qaf)) ?_
 refine Kl (γ:=Nat×List Qaf×Int×Option Addr×Nat) (fun (r16,Qjo,Qig,a19,k20)=>⟨[(1,vl valuesa0 valuesk0 values),(2,p5),(6,vl a19 k20 Qjo),(15,vi (s.Deps.length:Int)),(16,vi Qig)],[O a19 k20 Qjo,pv p5 [vi s.Width,vl sa1 sk1 s.Deps,vl sa2 sk2 s.Transfers,vl sa3 sk3 s.Boundary],S sa1 sk1 s.Deps,S sa2 sk2 s.Transfers,S sa3 sk3 s.Boundary,S valuesa0 valuesk0 values],QdQ s values r16 Qjo Qig=QdQ s values (((s.Deps.length:Int) - 0).toNat) [] 0/\r16=((s.Deps.length:Int) - Qig).toNat/\(0:Int)<=Qig/\Qig<=(s.Deps.length:Int)/\(-9223372036854775808<=Qig/\Qig<=9223372036854775807)/\(Qjo.length:Int)<=Qig,r16⟩) (((s.Deps.length:Int) - 0).toNat,[],0,none,0) [0,0,1,2,3,4] ⟨rfl,rfl,aM1,aM1,aM1,iv0⟩ ?_
 rintro ⟨r16,Qjo,Qig,a19,k20⟩ ⟨hM21,hr22,hi23,hi24,hk25,hv26⟩
 refine QaE fun _ _ hL hA=>?_; dsimp only at hL hA; subst hL hA
 refine Fb 32 0 fun _=>Fb 24 2 fun _=>Fb 88 3 fun _=>Fb 32 4 fun _=>Fb 32 5 fun _=>KS ?_
 refine Oq Qbo (KS ?_)
 refine Kc ?_ ?_
 ·intro h32
  have g33:=dt h32
  obtain ⟨r34,rfl⟩:=scc (n:=r16) aM1
  refine KS ?_
  refine Oq Vm (Oq Va (KS ?_))
  refine Oq (Qar Qeh 1) (Oq Vm (Oq Vm ?_))
  refine QaO (Qev s values Qig) fun rv36 hg37=>?_
  have hc38:=Qyq s sa1 sk1 sa2 sk2 sa3 sk3 values valuesa0 valuesk0 Qig pre pre rv36 hg37
  refine Oc [2,3,4,5] Qy6 hc38 ?_
  rintro c35 ⟨he39,he40⟩
  unfold Qaa at he39 he40
  refine Jo 0 ?_; rintro a41 k42 rfl
  refine Fb 8 0 fun _=>?_
  refine Oq Vm (Oq Vx (Oq Vx (Oa (Al Qhj [vi 0,.slice none 0 0]) fun p44=>Ost (Scl [0] Qaw [vi rv36.1.Width,vl a41 k42 rv36.1.Words]) (Oq Va (KS ?_)))))
  refine Oq Vm (Oq Qf4 (KS ?_))
  refine Kc ?_ ?_
  ·intro h45
   have g46:=Qax h45
   refine KS ?_
   refine Oq Vm (Oq Va (Oq Va (KS ?_)))
   refine Jl [] (Ent.slNil (α:=Qaf)) ?_
   have hR47:=q2 hM21 (.ret (([]:List Qaf),rv36.2)) (by simp only [QdQ,h32,h45,hg37,cs4])
   have hq:=q4 hrr (([]:List Qaf),rv36.2) (by simp only [Qiu,h9,h14,h32,h45,hg7,hg37,hR47,cs4]); subst hq
   exact Kr (.slice none 0 0) rfl (.tmp rfl (.tmp rfl .nil)) [0] en
  intro h45
  have g48:=Qae h45
  refine KS ?_
  refine Oq Vm (Oq (Qar Qaw 0) (Oa (AsV Qd2 Qob [.agg #[vi rv36.1.Width,vl a41 k42 rv36.1.Words]] [vi rv36.1.Width,vl a41 k42 rv36.1.Words]) fun c49=>?_))
  refine Jo 0 ?_; rintro a50 k51 rfl
  refine Jl [0,1] (Ent.cr1 (α:=Qaf) (A:=[S a41 k42 rv36.1.Words]) _ rv36.1 _ aB1 (fun h=>⟨_,rfl,aL1,Qaj (i:=0) rfl h⟩)) ?_
  refine Oa (ApO [4,0] Qd2 Qd2 Qob) fun c52=>?_
  refine Jo 0 ?_; rintro a53 k54 rfl
  refine Fb 32 0 fun _=>?_
  have hn56:=la Qjo ([rv36.1]:List Qaf)
  refine Oq Va (KS ?_)
  refine Oq QaS (Oq Vm (KS ?_))
  exact Kg (r34,(Qjo++[rv36.1]),(Qig+1),a53,k54) [0,3,4,5,6,7] ⟨(q3 hM21 (by simp only [QdQ,h32,h45,hg37,cs4])),aM1,aM1,aM1,aM1,iv1⟩
 intro h32
 have g57:=df h32
 obtain rfl:r16=0:=by omega
 refine Ke ?_
 have hR58:=q2 hM21 (.brk Qjo) (by simp only [QdQ,h32,cs4])
 refine KS ?_
 refine Oq Vm (Oq Va (Oq Va (KS ?_)))
 refine Jl [0] (Ent.freeze _ _) ?_
 have hq:=q4 hrr (Qjo,0) (by simp only [Qiu,h9,h14,h32,hg7,hR58,cs4]); subst hq
 exact Kr (vl a19 k20 Qjo) rfl (.tmp rfl (.tmp rfl .nil)) [0] en
theorem QBl (now:List Qaf) (nowa0:Option Addr) (nowk0:Nat) (cap0P:Value) (cap0:Qab) (cap0a1:Option Addr) (cap0k1:Nat) (cap0a2:Option Addr) (cap0k2:Nat) (cap0a3:Option Addr) (cap0k3:Nat) (QgH:Qaa cap0.Width) (rr:List Qaf) (hrr:QcW now cap0=rr):FT Tryz.prog 58 #[vl nowa0 nowk0 now,cap0P] [S nowa0 nowk0 now,pv cap0P [vi cap0.Width,vl cap0a1 cap0k1 cap0.Deps,vl cap0a2 cap0k2 cap0.Transfers,vl cap0a3 cap0k3 cap0.Boundary],S cap0a1 cap0k1 cap0.Deps,S cap0a2 cap0k2 cap0.Transfers,S cap0a3 cap0k3 cap0.Boundary] (fun g:Value=>True) (fun g=>g) (fun g=>[sl g rr]):=by
 refine FTi Tryz.func58 fun w0 M0 F0=>?_
 unfold Qaa at QgH
 refine Fb 32 0 fun _=>Fb 24 2 fun _=>Fb 88 3 fun _=>Fb 32 4 fun _=>KS ?_
 refine Oq Va (KS ?_)
 refine Oq (Qar Qeh 1) (Oq Vm ?_)
 refine QaO (Qiu cap0 now) fun rv6 hg7=>?_
 have hc8:=QBP cap0 cap0a1 cap0k1 cap0a2 cap0k2 cap0a3 cap0k3 now nowa0 nowk0 pre rv6 hg7
 refine Oc [2,3,4,0] QCc hc8 ?_
 rintro c5 he9
 unfold Qaa at he9
 refine Jo 0 ?_; rintro a10 k11 rfl
 refine Fb 32 0 fun _=>?_
 refine Oq Vm (Oq Vx (Oq Vx (Oq Va (Oq Va (KS ?_)))))
 refine Oq Vm (Oq Va (KS ?_))
 have hq:=q4 hrr rv6.1 (by simp only [QcW,hg7,cs4]); subst hq
 exact Kr (vl a10 k11 rv6.1) rfl (.tmp rfl .nil) [0] trivial
theorem QBQ (s:Qab) (sa1:Option Addr) (sk1:Nat) (sa2:Option Addr) (sk2:Nat) (sa3:Option Addr) (sk3:Nat) (QcL:Qaa s.Width) (rr:List Qaf×Int×Int) (hrr:Qf0 s=rr):FT Tryz.prog 24 #[.agg #[vi s.Width,vl sa1 sk1 s.Deps,vl sa2 sk2 s.Transfers,vl sa3 sk3 s.Boundary]] [S sa1 sk1 s.Deps,S sa2 sk2 s.Transfers,S sa3 sk3 s.Boundary] (fun g:Value=>Qaa rr.2.1/\Qaa rr.2.2) (fun g=>.tuple #[g,vi rr.2.1,vi rr.2.2]) (fun g=>[sl g rr.1]):=by
 refine FTi Tryz.func24 fun w0 M0 F0=>?_
 unfold Qaa at QcL
 refine Fb 24 0 fun _=>Fb 88 1 fun _=>Fb 32 2 fun _=>KS ?_
 refine Oa (Ab [vi s.Width,vl sa1 sk1 s.Deps,vl sa2 sk2 s.Transfers,vl sa3 sk3 s.Boundary]) fun p4=>Oq Va (Oq Va (Oq Va (KS ?_)))
 refine Oq (Qar Qeh 0) ?_
 refine QaO (Qca s) fun rv5 hg6=>?_
 have hc7:=QxJ s sa1 sk1 sa2 sk2 sa3 sk3 pre rv5 hg6
 refine Oc [1,2,3] Qxz hc7 ?_
 rintro - -
 refine Oq QcN (KS ?_)
 refine Kc ?_ ?_
 ·intro h8
  have h10:=not_true h8
  refine KS ?_
  refine Oq Va (Oq Va (Oq Va (KS ?_)))
  refine Jl [] (Ent.slNil (α:=Qaf)) ?_
  have hq:=q4 hrr (([]:List Qaf),0,1) (by simp only [Qf0,h8,h10,hg6,cs4]); subst hq
  exact Kr (.slice none 0 0) rfl (.tmp rfl (.tmp rfl (.tmp rfl .nil))) [0] en
 intro h8
 have h13:=not_false h8
 try (have hvs:=(Qdw s).1 (by simp only [h8,h13,hg6]); have hv1:=hvs.n; have hv4:=hvs.w)
 refine KS ?_
 refine Oq (Vfa Qb7 0) (Oq (Qai sh3 0) (Oq (Vfa Qbt 0) (Oq (Qai QfL 0) (Oq (Qbc QeN) (Oq (Vf [p4]) ?_)))))
 refine Qic (Ent.pall [0,1,2,3] rfl rfl) ?_
 refine QaO (Qio s.Width (s.Deps.length:Int) (fun x0=>QcW x0 s)) fun rv16 hg17=>?_
 have hc18:=QAF s.Width ((s.Deps.length:Int)) 58 [p4] (fun x0=>QcW x0 s) [pv p4 [vi s.Width,vl sa1 sk1 s.Deps,vl sa2 sk2 s.Transfers,vl sa3 sk3 s.Boundary],S sa1 sk1 s.Deps,S sa2 sk2 s.Transfers,S sa3 sk3 s.Boundary] pre pre QA0 (fun x0 a0 k0=>Qgc (A1:=_) (QBl x0 a0 k0 p4 s sa1 sk1 sa2 sk2 sa3 sk3 pre _ rfl)) pre (QrE hvs) rv16 hg17
 refine Oc [0] QAS hc18 ?_
 rintro c15 he19
 unfold Qaa at he19
 refine Jo 0 ?_; rintro a20 k21 rfl
 refine Fb 32 0 fun _=>?_
 refine Oq Vm (Oq Vx (Oq Vx (Oq Va (Oq Va (KS ?_)))))
 refine Oq Vm (Oq Vm (Oq Va (Oq Va (Oq Va (KS ?_)))))
 have hq:=q4 hrr (rv16.1,rv16.2,0) (by simp only [Qf0,h8,h13,hg6,hg17,cs4]); subst hq
 exact Kr (vl a20 k21 rv16.1) rfl (.tmp rfl (.tmp rfl (.tmp rfl .nil))) [0] en
theorem QBV (s:Qab) (sa1:Option Addr) (sk1:Nat) (sa2:Option Addr) (sk2:Nat) (sa3:Option Addr) (sk3:Nat) (n:Int) (bit:Int) (QcL:Qaa s.Width) (Qf1:Qaa n) (QfG:Qaa bit) (rr:List Qaf×Bool×Int) (hrr:QfF s n bit=rr):FT Tryz.prog 26 #[.agg #[vi s.Width,vl sa1 sk1 s.Deps,vl sa2 sk2 s.Transfers,vl sa3 sk3 s.Boundary],vi n,vi bit] [S sa1 sk1 s.Deps,S sa2 sk2 s.Transfers,S sa3 sk3 s.Boundary] (fun g:Value=>Qaa rr.2.2) (fun g=>.tuple #[g,vb rr.2.1,vi rr.2.2]) (fun g=>[sl g rr.1]):=by
 refine FTi Tryz.func26 fun w0 M0 F0=>?_
 unfold Qaa at QcL Qf1 QfG
 refine Fb 24 0 fun _=>Fb 88 1 fun _=>Fb 32 2 fun _=>KS ?_
 refine Oa (Ab [vi s.Width,vl sa1 sk1 s.Deps,vl sa2 sk2 s.Transfers,vl sa3 sk3 s.Boundary]) fun p4=>Oq Va (Oq Va (Oq Va (KS ?_)))
 refine Oq (Qar Qeh 0) (Oq Vm (Oq Vm ?_))
 refine QaO (Qap s n bit) fun rv5 hg6=>?_
 have hc7:=QxH s sa1 sk1 sa2 sk2 sa3 sk3 n bit pre pre pre rv5 hg6
 refine Oc [1,2,3] QxC hc7 ?_
 rintro - he8
 unfold Qaa at he8
 refine Oq Va (KS ?_)
 refine Oq Vm (Oq Qf4 (KS ?_))
 refine Kc ?_ ?_
 ·intro h9
  have g10:=Qax h9
  refine KS ?_
  refine Oq Vm (Oq Va (Oq Va (Oq Va (KS ?_))))
  refine Jl [] (Ent.slNil (α:=Qaf)) ?_
  have hq:=q4 hrr (([]:List Qaf),false,rv5) (by simp only [QfF,h9,hg6,cs4]); subst hq
  exact Kr (.slice none 0 0) rfl (.tmp rfl (.tmp rfl (.tmp rfl .nil))) [0] en
 intro h9
 have g11:=Qae h9
 have hwa:=Qn4 (by assumption:Qap s _ _=rv5) h9; have hwb:=hwa.1.bl; have hww:=hwa.1.w; have hwn:=hwa.1.n; have hwt:=hwa.1.tl; have hdw:=Qu5 hwa.1; have hwr:Qfv s (Qag.mk n bit):=hwa.2
 refine KS ?_
 refine Oq (Qar Qeh 0) ?_
 refine QaO (Qf0 s) fun rv13 hg14=>?_
 have hc15:=QBQ s sa1 sk1 sa2 sk2 sa3 sk3 pre rv13 hg14
 refine Oc [1,2,3] QBe hc15 ?_
 rintro c12 ⟨he16,he17⟩
 unfold Qaa at he16 he17
 refine Jo 0 ?_; rintro a18 k19 rfl
 refine Fb 32 0 fun _=>?_
 have hsl:=QqA (by assumption:Qf0 s=rv13) hwa.1
 refine Oq Vm (Oq Vx (Oq Vx (Oq Vx (Oq Va (Oq Va (Oq Va (KS ?_)))))))
 refine Oq Vm (Oq Vm (Oq (Vi Qd2 0) ?_))
 refine Qbf n.toNat 0 rfl rng fun a21 k22 hb23=>?_
 unfold Qaa at hb23
 refine Fb 8 1 fun _=>?_
 refine Oq (Qar Qaw 0) (Oq Vm ?_)
 refine QaO (Qei (rv13.1.getD n.toNat default) bit) fun rv25 hg26=>?_
 have hc27:=Qu9 ((rv13.1.getD n.toNat default)) a21 k22 bit pre pre rv25 hg26
 refine Oc [1] QuD hc27 ?_
 rintro - -
 refine KS ?_
 refine Kc ?_ ?_
 ·intro h28
  refine KS ?_
  refine Oq Va (Oq Va (Oq Va (KS ?_)))
  refine Jl [] (Ent.slNil (α:=Qaf)) ?_
  have hq:=q4 hrr (([]:List Qaf),false,0) (by simp only [QfF,h9,h28,hg6,hg14,hg26,cs4]); subst hq
  exact Kr (.slice none 0 0) rfl (.tmp rfl (.tmp rfl (.tmp rfl .nil))) [0] en
 intro h28
 refine KS ?_
 refine Oq Vm (Oq Va (Oq Va (Oq Va (KS ?_))))
 have hq:=q4 hrr (rv13.1,true,0) (by simp only [QfF,h9,h28,hg6,hg14,hg26,cs4]); subst hq
 exact Kr (vl a18 k19 rv13.1) rfl (.tmp rfl (.tmp rfl (.tmp rfl .nil))) [2] en
theorem QCt (a:Qaf) (aa1:Option Addr) (ak1:Nat) (b:Qaf) (ba1:Option Addr) (bk1:Nat) (Qke:Qaa a.Width) (QgI:Qaa b.Width) (rr:Bool) (hrr:QeC a b=rr):FT Tryz.prog 70 #[.agg #[vi a.Width,vl aa1 ak1 a.Words],.agg #[vi b.Width,vl ba1 bk1 b.Words]] [S aa1 ak1 a.Words,S ba1 bk1 b.Words] (fun g:Unit=>True) (fun g=>vb rr) (fun g=>[]):=by
 refine FTi Tryz.func70 fun w0 M0 F0=>?_
 unfold Qaa at Qke QgI
 refine Fb 8 0 fun _=>Fb 8 1 fun _=>KS ?_
 refine Oa (Ab [vi a.Width,vl aa1 ak1 a.Words]) fun p3=>Oa (Ab [vi b.Width,vl ba1 bk1 b.Words]) fun p4=>Oq Va (KS ?_)
 refine Oq (Vfa Qbj 1) (Oq (Qai sh3 1) (Oq (Vfa Qbj 0) (Oq (Qai sh3 0) (Oq Qf4 (Oq Vm ?_)))))
 refine Js 11 ?_ ?_
 ·intro h5
  have g6:=Qax h5
  refine Osk (Osk (Osk (Osk (Osk (Osk (Osk (Oq Vpt (KS ?_))))))))
  refine Kt (KS ?_)
  refine Oq Va (KS ?_)
  have hq:=q4 hrr false (by simp only [QeC,h5,cs4]); subst hq
  exact Kr () rfl (.tmp rfl .nil) [] trivial
 intro h5
 have g7:=Qae h5
 refine Oq (Vfa Qcv 1) (Oq (Qai Qi4 1) (Oq (Qbc QgP) (Oq (Vfa Qcv 0) (Oq (Qai Qi4 0) (Oq (Qbc QgP) (Oq Qf4 (Oq Vpf (KS ?_))))))))
 refine Kc ?_ ?_
 ·intro h8
  have g9:=Qax h8
  refine KS ?_
  refine Oq Va (KS ?_)
  have hq:=q4 hrr false (by simp only [QeC,h5,h8,cs4]); subst hq
  exact Kr () rfl (.tmp rfl .nil) [] trivial
 intro h8
 have g10:=Qae h8
 refine KS ?_
 refine Oq Va (KS ?_)
 refine Kl (γ:=Nat×Int) (fun (r11,Qb0)=>⟨[(2,p3),(3,p4),(5,vi Qb0)],[pv p4 [vi b.Width,vl ba1 bk1 b.Words],pv p3 [vi a.Width,vl aa1 ak1 a.Words],S aa1 ak1 a.Words,S ba1 bk1 b.Words],QdS a b r11 Qb0=QdS a b (((a.Words.length:Int) - 0).toNat) 0/\r11=((a.Words.length:Int) - Qb0).toNat/\(0:Int)<=Qb0/\Qb0<=(a.Words.length:Int)/\(-9223372036854775808<=Qb0/\Qb0<=9223372036854775807),r11⟩) (((a.Words.length:Int) - 0).toNat,0) [0,1,2,3] ⟨rfl,rfl,aM1,aM1,aM1⟩ ?_
 rintro ⟨r11,Qb0⟩ ⟨hM13,hr14,hi15,hi16,hk17⟩
 refine QaE fun _ _ hL hA=>?_; dsimp only at hL hA; subst hL hA
 refine Fb 8 2 fun _=>Fb 8 3 fun _=>KS ?_
 refine Oq Vm (Oq (Vfa Qcv 1) (Oq (Qai Qi4 1) (Oq (Qbc QgP) (Oq Qbo (KS ?_)))))
 refine Kc ?_ ?_
 ·intro h20
  have g21:=dt h20
  obtain ⟨r22,rfl⟩:=scc (n:=r11) aM1
  refine KS ?_
  refine Kq [0,1,0,7,15,0,32,0,224,480,1023] QcF ?_
  refine Qv [1] (Vfa Qcv 0) (Qv [1] (Qai Qi4 0) (Qv [] Vm (Qv [2] (Vi QgP 0) (Qv [2] (Qp3 Qn0 0) (Qv [0] (Vfa Qcv 0) (Qv [0] (Qai Qi4 0) (Qv [] Vm (Qv [3] (Vi QgP 0) (Qv [3] (Qp3 Qn0 0) ?_)))))))))
  refine Qv [] QvO ?_
  refine Qn ⟨by kernel_rfl,?_⟩
  refine Kc ?_ ?_
  ·intro h23
   have g24:=Qax h23
   refine KS ?_
   refine Oq Va (KS ?_)
   have hR25:=q2 hM13 (.ret false) (by simp only [QdS,h20,h23,cs4])
   have hq:=q4 hrr false (by simp only [QeC,h5,h8,h20,h23,hR25,cs4]); subst hq
   exact Kr () rfl (.tmp rfl .nil) [] trivial
  intro h23
  have g26:=Qae h23
  refine KS ?_
  refine Oq Vm (Oq QaS (Oq Va (KS ?_)))
  exact Kg (r22,(Qb0+1)) [0,1,2,3] ⟨(q3 hM13 (by simp only [QdS,h20,h23,cs4])),aM1,aM1,aM1,aM1⟩
 intro h20
 have g27:=df h20
 obtain rfl:r11=0:=by omega
 refine Ke ?_
 have hR28:=q2 hM13 (.brk ()) (by simp only [QdS,h20,cs4])
 refine KS ?_
 refine Oq Va (KS ?_)
 have hq:=q4 hrr true (by simp only [QeC,h5,h8,h20,hR28,cs4]); subst hq
 exact Kr () rfl (.tmp rfl .nil) [] trivial
theorem Qz4 (a:List Qaf) (aa0:Option Addr) (ak0:Nat) (b:List Qaf) (ba0:Option Addr) (bk0:Nat) (rr:Bool) (hrr:Qck a b=rr):FT Tryz.prog 39 #[vl aa0 ak0 a,vl ba0 bk0 b] [S aa0 ak0 a,S ba0 bk0 b] (fun g:Unit=>True) (fun g=>vb rr) (fun g=>[]):=by
 refine FTi Tryz.func39 fun w0 M0 F0=>Fb 32 0 fun _=>Fb 32 1 fun _=>?_
 refine KS ?_
 refine Oq Va (KS ?_)
 refine Oq Vm (Oq (Qbc Qd2) (Oq Vm (Oq (Qbc Qd2) (Oq Qf4 (KS ?_)))))
 refine Kc ?_ ?_
 ·intro h3
  have g4:=Qax h3
  refine KS ?_
  refine Oq Va (KS ?_)
  have hq:=q4 hrr false (by simp only [Qck,h3,cs4]); subst hq
  exact Kr () rfl (.tmp rfl .nil) [] trivial
 intro h3
 have g5:=Qae h3
 refine KS ?_
 refine Oq Va (KS ?_)
 refine Kl (γ:=Nat×Int) (fun (r6,i_7)=>⟨[(0,vl aa0 ak0 a),(1,vl ba0 bk0 b),(5,vi i_7)],[S aa0 ak0 a,S ba0 bk0 b],Qch a b r6 i_7=Qch a b (((a.length:Int) - 0).toNat) 0/\r6=((a.length:Int) - i_7).toNat/\(0:Int)<=i_7/\i_7<=(a.length:Int)/\(-9223372036854775808<=i_7/\i_7<=9223372036854775807),r6⟩) (((a.length:Int) - 0).toNat,0) [0,1] ⟨rfl,rfl,aM1,aM1,aM1⟩ ?_
 rintro ⟨r6,i_7⟩ ⟨hM8,hr9,hi10,hi11,hk12⟩
 refine QaE fun _ _ hL hA=>?_; dsimp only at hL hA; subst hL hA
 refine Fb 32 0 fun _=>Fb 32 1 fun _=>KS ?_
 refine Oq Vm (Oq Vm (Oq (Qbc Qd2) (Oq Qbo (KS ?_))))
 refine Kc ?_ ?_
 ·intro h15
  have g16:=dt h15
  obtain ⟨r17,rfl⟩:=scc (n:=r6) aM1
  refine KS ?_
  refine Qbf i_7.toNat 0 rfl rng fun a18 k19 hb20=>?_
  unfold Qaa at hb20
  refine Fb 8 1 fun _=>?_
  refine Qbf i_7.toNat 3 rfl rng fun a22 k23 hb24=>?_
  unfold Qaa at hb24
  refine Fb 8 1 fun _=>?_
  refine Qam [0,0,3,7,0,0,48,112,255,511] QcF ?_
  refine Dv [] Vm (Dv [] Vm (Dv [4] (Vi Qd2 0) (Dv [2] (Qar Qaw 0) (Dv [] Vm (Dv [] Vm (Dv [5] (Vi Qd2 0) (Dv [0] (Qar Qaw 0) ?_)))))))
  refine QaO (QeC (a.getD i_7.toNat default) (b.getD i_7.toNat default)) fun rv26 hg27=>?_
  refine Dx [1,3] [] [1,2,0] (fun G=>vb rv26) [fun G=>SP.fact (True)] (fun G=>xC [1,0] QBv (QCt ((a.getD i_7.toNat default)) a18 k19 ((b.getD i_7.toNat default)) a22 k23 pre pre rv26 hg27)) (Dv [] QcN ?_)
  refine Dn ⟨by kernel_rfl,fun G=>?_⟩
  refine Jw2 [(0,vl aa0 ak0 a),(1,vl ba0 bk0 b),(5,vi i_7),(26,vb (!rv26))] [0,1,2,3,4,5] [SP.fact (True)] ?_
  refine Jk [0,1,2,3,4,5] ?_
  refine Kc ?_ ?_
  ·intro h28
   have h30:=not_true h28
   refine KS ?_
   refine Oq Va (KS ?_)
   have hR32:=q2 hM8 (.ret false) (by simp only [Qch,h15,h28,h30,hg27,cs4])
   have hq:=q4 hrr false (by simp only [Qck,h3,h15,h28,h30,hg27,hR32,cs4]); subst hq
   exact Kr () rfl (.tmp rfl .nil) [] trivial
  intro h28
  have h34:=not_false h28
  refine KS ?_
  refine Oq Vm (Oq QaS (Oq Va (KS ?_)))
  exact Kg (r17,(i_7+1)) [4,5] ⟨(q3 hM8 (by simp only [Qch,h15,h28,h34,hg27,cs4])),aM1,aM1,aM1,aM1⟩
 intro h15
 have g36:=df h15
 obtain rfl:r6=0:=by omega
 refine Ke ?_
 have hR37:=q2 hM8 (.brk ()) (by simp only [Qch,h15,cs4])
 refine KS ?_
 refine Oq Va (KS ?_)
 have hq:=q4 hrr true (by simp only [Qck,h3,h15,hR37,cs4]); subst hq
 exact Kr () rfl (.tmp rfl .nil) [] trivial
theorem QA8 (s:Qab) (sa1:Option Addr) (sk1:Nat) (sa2:Option Addr) (sk2:Nat) (sa3:Option Addr) (sk3:Nat) (QcL:Qaa s.Width) (hw0:0<=s.Width/\s.Width<=1000) (rr:List Qaf) (hrr:Qdr s=rr):FT Tryz.prog 37 #[.agg #[vi s.Width,vl sa1 sk1 s.Deps,vl sa2 sk2 s.Transfers,vl sa3 sk3 s.Boundary]] [S sa1 sk1 s.Deps,S sa2 sk2 s.Transfers,S sa3 sk3 s.Boundary] (fun g:Value=>(rr.length=s.Boundary.length)) (fun g=>g) (fun g=>[sl g rr]):=by
 refine FTi Tryz.func37 fun w0 M0 F0=>?_
 unfold Qaa at QcL
 refine Fb 24 0 fun _=>Fb 88 1 fun _=>Fb 32 2 fun _=>KS ?_
 refine Oa (Ab [vi s.Width,vl sa1 sk1 s.Deps,vl sa2 sk2 s.Transfers,vl sa3 sk3 s.Boundary]) fun p4=>Oq Va (KS ?_)
 refine Oq Va (KS ?_)
 refine Oq Va (KS ?_)
 refine Jl [] (Ent.osNil (α:=Qaf)) ?_
 refine Kl (γ:=Nat×List Qaf×Int×Option Addr×Nat) (fun (r5,QmH,n_7,a8,k9)=>⟨[(1,p4),(3,vl a8 k9 QmH),(4,vi n_7)],[O a8 k9 QmH,pv p4 [vi s.Width,vl sa1 sk1 s.Deps,vl sa2 sk2 s.Transfers,vl sa3 sk3 s.Boundary],S sa1 sk1 s.Deps,S sa2 sk2 s.Transfers,S sa3 sk3 s.Boundary],Qdc s r5 QmH n_7=Qdc s (((s.Boundary.length:Int) - 0).toNat) [] 0/\r5=((s.Boundary.length:Int) - n_7).toNat/\(0:Int)<=n_7/\n_7<=(s.Boundary.length:Int)/\(-9223372036854775808<=n_7/\n_7<=9223372036854775807)/\(QmH.length:Int)=n_7,r5⟩) (((s.Boundary.length:Int) - 0).toNat,[],0,none,0) [0,0,1,2,3] ⟨rfl,rfl,aM1,aM1,aM1,iv0⟩ ?_
 rintro ⟨r5,QmH,n_7,a8,k9⟩ ⟨hM10,hr11,hi12,hi13,hk14,hv15⟩
 refine QaE fun _ _ hL hA=>?_; dsimp only at hL hA; subst hL hA
 refine Fb 32 0 fun _=>Fb 24 2 fun _=>Fb 88 3 fun _=>Fb 32 4 fun _=>KS ?_
 refine Oq Vm (Oq (Vfa Qc8 1) (Oq (Qai Qjc 1) (Oq (Qbc Qd2) (Oq Qbo (KS ?_)))))
 refine Kc ?_ ?_
 ·intro h20
  have g21:=dt h20
  obtain ⟨r22,rfl⟩:=scc (n:=r5) aM1
  refine KS ?_
  refine Oq Vm (Oq (Vfa Qb7 1) (Oq (Qai sh3 1) ?_))
  refine QaO (QaD s.Width) fun rv24 hg25=>?_
  have hc26:=QpO s.Width pre pre rv24 hg25
  refine Oc [] Qp0 hc26 ?_
  rintro c23 ⟨he27,he28,he29⟩
  unfold Qaa at he27
  refine Jo 0 ?_; rintro a30 k31 rfl
  refine Fb 8 0 fun _=>Oa (AsV Qd2 Qob [.agg #[vi rv24.Width,vl a30 k31 rv24.Words]] [vi rv24.Width,vl a30 k31 rv24.Words]) fun c33=>?_
  refine Jo 0 ?_; rintro a34 k35 rfl
  refine Jl [1] (Ent.freeze _ _) ?_
  refine Jl [1,0] (Ent.cr1 (α:=Qaf) (A:=[S a30 k31 rv24.Words]) _ rv24 _ aB1 (fun h=>⟨_,rfl,aL1,Qaj (i:=0) rfl h⟩)) ?_
  refine Oa (ApO [3,0] Qd2 Qd2 Qob) fun c36=>?_
  refine Jo 0 ?_; rintro a37 k38 rfl
  refine Fb 32 0 fun _=>?_
  have hn40:=la QmH ([rv24]:List Qaf)
  refine Oq Va (KS ?_)
  refine Oq Vm (Oq QaS (Oq Va (KS ?_)))
  exact Kg (r22,(QmH++[rv24]),(n_7+1),a37,k38) [0,2,3,4,5] ⟨(q3 hM10 (by simp only [Qdc,h20,hg25,cs4])),aM1,aM1,aM1,aM1,iv1⟩
 intro h20
 have g41:=df h20
 obtain rfl:r5=0:=by omega
 refine Ke ?_
 have hR42:=q2 hM10 QmH (by simp only [Qdc,h20,cs4])
 refine KS ?_
 refine Oq Vm (Oq Va (KS ?_))
 refine Jl [0] (Ent.freeze _ _) ?_
 have hq:=q4 hrr QmH (by simp only [Qdr,h20,hR42,cs4]); subst hq
 exact Kr (vl a8 k9 QmH) rfl (.tmp rfl .nil) [0] en
theorem QAT (s:Qab) (sa1:Option Addr) (sk1:Nat) (sa2:Option Addr) (sk2:Nat) (sa3:Option Addr) (sk3:Nat) (v:List Qaf) (va0:Option Addr) (vk0:Nat) (QcL:Qaa s.Width) (rr:Int) (hrr:Qds s v=rr):FT Tryz.prog 81 #[.agg #[vi s.Width,vl sa1 sk1 s.Deps,vl sa2 sk2 s.Transfers,vl sa3 sk3 s.Boundary],vl va0 vk0 v] [S sa1 sk1 s.Deps,S sa2 sk2 s.Transfers,S sa3 sk3 s.Boundary,S va0 vk0 v] (fun g:Unit=>Qaa rr) (fun g=>vi rr) (fun g=>[]):=by
 refine FTi Tryz.func81 fun w0 M0 F0=>?_
 unfold Qaa at QcL
 refine Fb 24 0 fun _=>Fb 88 1 fun _=>Fb 32 2 fun _=>Fb 32 3 fun _=>KS ?_
 refine Oa (Ab [vi s.Width,vl sa1 sk1 s.Deps,vl sa2 sk2 s.Transfers,vl sa3 sk3 s.Boundary]) fun p5=>Oq Va (KS ?_)
 refine Oq Vm (Oq (Qbc Qd2) (Oq (Vfa Qc8 0) (Oq (Qai Qjc 0) (Oq (Qbc Qd2) (Oq Qf4 (KS ?_))))))
 refine Kc ?_ ?_
 ·intro h6
  have g7:=Qax h6
  refine KS ?_
  refine Oq Va (KS ?_)
  have hq:=q4 hrr 1 (by simp only [Qds,h6,cs4]); subst hq
  exact Kr () rfl (.tmp rfl .nil) [] en
 intro h6
 have g8:=Qae h6
 refine KS ?_
 refine Oq Va (KS ?_)
 refine Kl (γ:=Nat×Int) (fun (r9,QqM)=>⟨[(1,vl va0 vk0 v),(2,p5),(5,vi QqM)],[pv p5 [vi s.Width,vl sa1 sk1 s.Deps,vl sa2 sk2 s.Transfers,vl sa3 sk3 s.Boundary],S sa1 sk1 s.Deps,S sa2 sk2 s.Transfers,S sa3 sk3 s.Boundary,S va0 vk0 v],Qc3 v r9 QqM=Qc3 v (((v.length:Int) - 0).toNat) 0/\r9=((v.length:Int) - QqM).toNat/\(0:Int)<=QqM/\QqM<=(v.length:Int)/\(-9223372036854775808<=QqM/\QqM<=9223372036854775807),r9⟩) (((v.length:Int) - 0).toNat,0) [0,1,2,3,4] ⟨rfl,rfl,aM1,aM1,aM1⟩ ?_
 rintro ⟨r9,QqM⟩ ⟨hM11,hr12,hi13,hi14,hk15⟩
 refine QaE fun _ _ hL hA=>?_; dsimp only at hL hA; subst hL hA
 refine Fb 24 1 fun _=>Fb 88 2 fun _=>Fb 32 3 fun _=>Fb 32 4 fun _=>KS ?_
 refine Oq Vm (Oq Vm (Oq (Qbc Qd2) (Oq Qbo (KS ?_))))
 refine Kc ?_ ?_
 ·intro h20
  have g21:=dt h20
  obtain ⟨r22,rfl⟩:=scc (n:=r9) aM1
  refine KS ?_
  refine Oq Vm (Oq Vm (Oq (Vi Qd2 4) ?_))
  refine Qbf QqM.toNat 4 rfl rng fun a23 k24 hb25=>?_
  unfold Qaa at hb25
  refine Fb 8 1 fun _=>Oq (Qar Qaw 0) ?_
  refine QaO (Qbd (v.getD QqM.toNat default)) fun rv27 hg28=>?_
  have hc29:=QtN ((v.getD QqM.toNat default)) a23 k24 pre rv27 hg28
  refine Oc [1] QtJ hc29 ?_
  rintro - -
  refine Oq QcN (KS ?_)
  refine Kc ?_ ?_
  ·intro h30
   have h32:=not_true h30
   refine KS ?_
   refine Oq Va (KS ?_)
   have hR34:=q2 hM11 (.ret 1) (by simp only [Qc3,h20,h30,h32,hg28,cs4])
   have hq:=q4 hrr 1 (by simp only [Qds,h6,h20,h30,h32,hg28,hR34,cs4]); subst hq
   exact Kr () rfl (.tmp rfl .nil) [] en
  intro h30
  have h36:=not_false h30
  refine KS ?_
  refine Oq Vm (Oq QaS (Oq Va (KS ?_)))
  exact Kg (r22,(QqM+1)) [2,3,4,5,6] ⟨(q3 hM11 (by simp only [Qc3,h20,h30,h36,hg28,cs4])),aM1,aM1,aM1,aM1⟩
 intro h20
 have g38:=df h20
 obtain rfl:r9=0:=by omega
 refine Ke ?_
 have hR39:=q2 hM11 (.brk ()) (by simp only [Qc3,h20,cs4])
 refine KS ?_
 refine Oq Va (KS ?_)
 refine Kl (γ:=Nat×Int) (fun (r40,QmA)=>⟨[(1,vl va0 vk0 v),(2,p5),(6,vi QmA)],[pv p5 [vi s.Width,vl sa1 sk1 s.Deps,vl sa2 sk2 s.Transfers,vl sa3 sk3 s.Boundary],S sa1 sk1 s.Deps,S sa2 sk2 s.Transfers,S sa3 sk3 s.Boundary,S va0 vk0 v],Qc6 s v r40 QmA=Qc6 s v (((v.length:Int) - 0).toNat) 0/\r40=((v.length:Int) - QmA).toNat/\(0:Int)<=QmA/\QmA<=(v.length:Int)/\(-9223372036854775808<=QmA/\QmA<=9223372036854775807),r40⟩) (((v.length:Int) - 0).toNat,0) [0,1,2,3,4] ⟨rfl,rfl,aM1,aM1,aM1⟩ ?_
 rintro ⟨r40,QmA⟩ ⟨hM42,hr43,hi44,hi45,hk46⟩
 refine QaE fun _ _ hL hA=>?_; dsimp only at hL hA; subst hL hA
 refine Fb 24 1 fun _=>Fb 88 2 fun _=>Fb 32 3 fun _=>Fb 32 4 fun _=>KS ?_
 refine Oq Vm (Oq Vm (Oq (Qbc Qd2) (Oq Qbo (KS ?_))))
 refine Kc ?_ ?_
 ·intro h51
  have g52:=dt h51
  obtain ⟨r53,rfl⟩:=scc (n:=r40) aM1
  refine KS ?_
  refine Qbf QmA.toNat 4 rfl rng fun a54 k55 hb56=>?_
  unfold Qaa at hb56
  refine Fb 8 1 fun _=>?_
  refine Kq [0,0,3,7,15,0,32,127] QcF ?_
  refine Qv [] Vm (Qv [] Vm (Qv [6] (Vi Qd2 0) (Qv [0] (Vfa Qbj 0) (Qv [0] (Qai sh3 0) (Qv [2] (Vfa Qb7 0) (Qv [2] (Qai sh3 0) (Qv [] Qf4 ?_)))))))
  refine Qn ⟨by kernel_rfl,?_⟩
  refine Kc ?_ ?_
  ·intro h58
   have g59:=Qax h58
   refine KS ?_
   refine Oq Va (KS ?_)
   have hR60:=q2 hM42 (.ret 2) (by simp only [Qc6,h51,h58,cs4])
   have hq:=q4 hrr 2 (by simp only [Qds,h6,h20,h51,h58,hR39,hR60,cs4]); subst hq
   exact Kr () rfl (.tmp rfl .nil) [] en
  intro h58
  have g61:=Qae h58
  refine KS ?_
  refine Oq Vm (Oq QaS (Oq Va (KS ?_)))
  exact Kg (r53,(QmA+1)) [2,3,4,5,6] ⟨(q3 hM42 (by simp only [Qc6,h51,h58,cs4])),aM1,aM1,aM1,aM1⟩
 intro h51
 have g62:=df h51
 obtain rfl:r40=0:=by omega
 refine Ke ?_
 have hR63:=q2 hM42 (.brk ()) (by simp only [Qc6,h51,cs4])
 refine KS ?_
 refine Oq Va (KS ?_)
 have hq:=q4 hrr 0 (by simp only [Qds,h6,h20,h51,hR39,hR63,cs4]); subst hq
 exact Kr () rfl (.tmp rfl .nil) [] en
theorem Qx2 (t:Qad) (ta1:Option Addr) (tk1:Nat) (ta3:Option Addr) (tk3:Nat) (ta4:Option Addr) (tk4:Nat) (s:Qaf) (sa1:Option Addr) (sk1:Nat) (QkH:Qaa t.Gen.Width) (QkI:Qaa t.Kill.Width) (QcL:Qaa s.Width) (rr:Qaf×Int) (hrr:Qd0 t s=rr):FT Tryz.prog 118 #[.agg #[vi t.Gen.Width,vl ta1 tk1 t.Gen.Words,vi t.Kill.Width,vl ta3 tk3 t.Kill.Words,vl ta4 tk4 t.Copies],.agg #[vi s.Width,vl sa1 sk1 s.Words]] [S ta1 tk1 t.Gen.Words,S ta3 tk3 t.Kill.Words,S ta4 tk4 t.Copies,S sa1 sk1 s.Words] (fun g:Value=>Qaa rr.1.Width/\Qaa rr.2) (fun g=>.tuple #[.agg #[vi rr.1.Width,g],vi rr.2]) (fun g=>[sl g rr.1.Words]):=by
 refine FTi Tryz.func118 fun w0 M0 F0=>?_
 unfold Qaa at QkH QkI QcL
 refine Fb 8 0 fun _=>Fb 8 1 fun _=>Fb 16 2 fun _=>Fb 8 3 fun _=>KS ?_
 refine Oa (Ab [vi t.Gen.Width,vl ta1 tk1 t.Gen.Words,vi t.Kill.Width,vl ta3 tk3 t.Kill.Words,vl ta4 tk4 t.Copies]) fun p5=>Oa (Ab [vi s.Width,vl sa1 sk1 s.Words]) fun p6=>Oa (Al Qhj [vi 0,.slice none 0 0]) fun p7=>Oq Va (KS ?_)
 refine Oq (Qar Qdm 2) ?_
 refine QaO (Qal t) fun rv8 hg9=>?_
 have hc10:=Qvv t ta1 tk1 ta3 tk3 ta4 tk4 pre pre rv8 hg9
 refine Oc [3,4,5] Qvw hc10 ?_
 rintro - -
 refine Oq QcN (Oq Vm ?_)
 refine Js 9 ?_ ?_
 ·intro h11
  have h13:=not_true h11
  refine Osk (Osk (Osk (Oq Vpt (KS ?_))))
  refine Kt (KS ?_)
  refine Oq (Vbd Qjw [vi 0,.slice none 0 0]) (Ost (Scl [0] Qaw [vi 0,.slice none 0 0]) (Oq Va (KS ?_)))
  refine Jl [] (Ent.slNil (α:=BitVec 64)) ?_
  have hq:=q4 hrr ((Qaf.mk 0 []),1) (by simp only [Qd0,h11,h13,hg9,cs4]); subst hq
  exact Kr (.slice none 0 0) rfl (.cellN 1 rfl Qaw rfl (Qak _ _) rfl (.tmp rfl .nil)) [0] en
 intro h11
 have h16:=not_false h11
 refine Oq (Qar Qaw 1) ?_
 refine QaO (Qbd s) fun rv18 hg19=>?_
 have hc20:=QtN s sa1 sk1 pre rv18 hg19
 refine Oc [6] QtJ hc20 ?_
 rintro - -
 refine Oq QcN (Oq Vpf (KS ?_))
 refine Kc ?_ ?_
 ·intro h21
  have h23:=not_true h21
  refine KS ?_
  refine Oq (Vbd Qjw [vi 0,.slice none 0 0]) (Ost (Scl [0] Qaw [vi 0,.slice none 0 0]) (Oq Va (KS ?_)))
  refine Jl [] (Ent.slNil (α:=BitVec 64)) ?_
  have hq:=q4 hrr ((Qaf.mk 0 []),1) (by simp only [Qd0,h11,h16,h21,h23,hg9,hg19,cs4]); subst hq
  exact Kr (.slice none 0 0) rfl (.cellN 1 rfl Qaw rfl (Qak _ _) rfl (.tmp rfl .nil)) [0] en
 intro h21
 have h26:=not_false h21
 refine KS ?_
 refine Oq (Vfa Qdx 2) (Oq (Qoy Qbj 2) (Oq (Qai sh3 2) (Oq (Vfa Qbj 1) (Oq (Qai sh3 1) (Oq Qf4 (KS ?_))))))
 refine Kc ?_ ?_
 ·intro h28
  have g29:=Qax h28
  refine KS ?_
  refine Oq (Vbd Qjw [vi 0,.slice none 0 0]) (Ost (Scl [0] Qaw [vi 0,.slice none 0 0]) (Oq Va (KS ?_)))
  refine Jl [] (Ent.slNil (α:=BitVec 64)) ?_
  have hq:=q4 hrr ((Qaf.mk 0 []),2) (by simp only [Qd0,h11,h16,h21,h26,h28,hg9,hg19,cs4]); subst hq
  exact Kr (.slice none 0 0) rfl (.cellN 1 rfl Qaw rfl (Qak _ _) rfl (.tmp rfl .nil)) [0] en
 intro h28
 have g30:=Qae h28
 refine KS ?_
 refine Oq (Qar Qdm 2) (Oq (Qar Qaw 1) ?_)
 refine QaO (QiV t s) fun rv32 hg33=>?_
 have hc34:=QwH t ta1 tk1 ta3 tk3 ta4 tk4 s sa1 sk1 pre pre pre (by simp only [h11,h16,h21,h26,h28,hg9,hg19]) pre rv32 hg33
 refine Oc [3,4,5,6] Qxl hc34 ?_
 rintro c31 he35
 unfold Qaa at he35
 refine Jo 0 ?_; rintro a36 k37 rfl
 refine Fb 8 0 fun _=>?_
 refine Ost (Scl [1] Qaw [vi rv32.Width,vl a36 k37 rv32.Words]) (Oq Va (KS ?_))
 have hq:=q4 hrr (rv32,0) (by simp only [Qd0,h11,h16,h21,h26,h28,hg9,hg19,hg33,cs4]); subst hq
 exact Kr (vl a36 k37 rv32.Words) rfl (.cellN 0 rfl Qaw rfl (Qak _ _) rfl (.tmp rfl .nil)) [1] en
theorem QCj (a:Qaf) (aa1:Option Addr) (ak1:Nat) (b:Qaf) (ba1:Option Addr) (bk1:Nat) (one:Bool) (two:Bool) (both:Bool) (Qke:Qaa a.Width) (QgI:Qaa b.Width) (rr:Qaf×Int) (hrr:Qif a b one two both=rr):FT Tryz.prog 71 #[.agg #[vi a.Width,vl aa1 ak1 a.Words],.agg #[vi b.Width,vl ba1 bk1 b.Words],vb one,vb two,vb both] [S aa1 ak1 a.Words,S ba1 bk1 b.Words] (fun g:Value=>Qaa rr.1.Width/\Qaa rr.2) (fun g=>.tuple #[.agg #[vi rr.1.Width,g],vi rr.2]) (fun g=>[sl g rr.1.Words]):=by
 refine FTi Tryz.func71 fun w0 M0 F0=>?_
 unfold Qaa at Qke QgI
 refine Fb 8 0 fun _=>Fb 8 1 fun _=>KS ?_
 refine Oa (Ab [vi a.Width,vl aa1 ak1 a.Words]) fun p3=>Oa (Ab [vi b.Width,vl ba1 bk1 b.Words]) fun p4=>Oa (Al Qhj [vi 0,.slice none 0 0]) fun p5=>Oq Va (KS ?_)
 refine Oq (Qar Qaw 2) ?_
 refine QaO (Qbd a) fun rv6 hg7=>?_
 have hc8:=QtN a aa1 ak1 pre rv6 hg7
 refine Oc [3] QtJ hc8 ?_
 rintro - -
 refine Oq QcN (Oq Vm ?_)
 refine Js 19 ?_ ?_
 ·intro h9
  have h11:=not_true h9
  refine Osk (Osk (Osk (Oq Vpt (KS ?_))))
  refine Kt (KS ?_)
  refine Oq (Vbd Qjw [vi 0,.slice none 0 0]) (Ost (Scl [0] Qaw [vi 0,.slice none 0 0]) (Oq Va (KS ?_)))
  refine Jl [] (Ent.slNil (α:=BitVec 64)) ?_
  have hq:=q4 hrr ((Qaf.mk 0 []),1) (by simp only [Qif,h9,h11,hg7,cs4]); subst hq
  exact Kr (.slice none 0 0) rfl (.cellN 1 rfl Qaw rfl (Qak _ _) rfl (.tmp rfl .nil)) [0] en
 intro h9
 have h14:=not_false h9
 try have hrg:=Qsg (s:=a) (by simp only [h9,h14,hg7])
 refine Oq (Qar Qaw 1) ?_
 refine QaO (Qbd b) fun rv16 hg17=>?_
 have hc18:=QtN b ba1 bk1 pre rv16 hg17
 refine Oc [4] QtJ hc18 ?_
 rintro - -
 refine Oq QcN (Oq Vpf (KS ?_))
 refine Kc ?_ ?_
 ·intro h19
  have h21:=not_true h19
  refine KS ?_
  refine Oq (Vbd Qjw [vi 0,.slice none 0 0]) (Ost (Scl [0] Qaw [vi 0,.slice none 0 0]) (Oq Va (KS ?_)))
  refine Jl [] (Ent.slNil (α:=BitVec 64)) ?_
  have hq:=q4 hrr ((Qaf.mk 0 []),1) (by simp only [Qif,h9,h14,h19,h21,hg7,hg17,cs4]); subst hq
  exact Kr (.slice none 0 0) rfl (.cellN 1 rfl Qaw rfl (Qak _ _) rfl (.tmp rfl .nil)) [0] en
 intro h19
 have h24:=not_false h19
 try have hrg:=Qsg (s:=a) (by simp only [h9,h14,h19,h24,hg7,hg17])
 refine KS ?_
 refine Oq (Vfa Qbj 2) (Oq (Qai sh3 2) (Oq (Vfa Qbj 1) (Oq (Qai sh3 1) (Oq Qf4 (KS ?_)))))
 refine Kc ?_ ?_
 ·intro h26
  have g27:=Qax h26
  refine KS ?_
  refine Oq (Vbd Qjw [vi 0,.slice none 0 0]) (Ost (Scl [0] Qaw [vi 0,.slice none 0 0]) (Oq Va (KS ?_)))
  refine Jl [] (Ent.slNil (α:=BitVec 64)) ?_
  have hq:=q4 hrr ((Qaf.mk 0 []),2) (by simp only [Qif,h9,h14,h19,h24,h26,hg7,hg17,cs4]); subst hq
  exact Kr (.slice none 0 0) rfl (.cellN 1 rfl Qaw rfl (Qak _ _) rfl (.tmp rfl .nil)) [0] en
 intro h26
 have g28:=Qae h26
 refine KS ?_
 refine Oq (Vfa Qbj 2) (Oq (Qai sh3 2) ?_)
 refine QaO (QaD a.Width) fun rv30 hg31=>?_
 have hc32:=QpO a.Width pre pre rv30 hg31
 refine Oc [] Qp0 hc32 ?_
 rintro c29 ⟨he33,he34,he35⟩
 unfold Qaa at he33
 refine Jo 0 ?_; rintro a36 k37 rfl
 refine Fb 8 0 fun _=>?_
 refine Oa (Al Qhj [vi 0,.slice none 0 0]) fun p39=>Ost (Scl [0] Qaw [vi rv30.Width,vl a36 k37 rv30.Words]) (KS ?_)
 refine Oq Va (KS ?_)
 refine Kl (γ:=Nat×Int×List (BitVec 64)×Int×Option Addr×Nat) (fun (r40,QfS,Qia,QkL,a44,k45)=>⟨[(2,vb one),(3,vb two),(4,vb both),(5,p3),(6,p4),(10,p5),(12,p39),(13,vi QkL)],[O a44 k45 Qia,Cl p39 [vi QfS,vl a44 k45 Qia],Cl p5 [vi 0,.slice none 0 0],pv p4 [vi b.Width,vl ba1 bk1 b.Words],pv p3 [vi a.Width,vl aa1 ak1 a.Words],S aa1 ak1 a.Words,S ba1 bk1 b.Words],Qbb a b one two both r40 QfS Qia QkL=Qbb a b one two both (((a.Width:Int) - 0).toNat) rv30.Width rv30.Words 0/\r40=((a.Width:Int) - QkL).toNat/\(0:Int)<=QkL/\(QkL<=a.Width\/QkL=0)/\(-9223372036854775808<=QfS/\QfS<=9223372036854775807)/\(-9223372036854775808<=QkL/\QkL<=9223372036854775807)/\QfS=a.Width/\Qia.length=((a.Width+63) / 64).toNat,r40⟩) (((a.Width:Int) - 0).toNat,rv30.Width,rv30.Words,0,a36,k37) [1,0,0,0,1,2,3] ⟨rfl,rfl,aM1,(.inr rfl),aM1,aM1,iv0,iv0⟩ ?_
 rintro ⟨r40,QfS,Qia,QkL,a44,k45⟩ ⟨hM46,hr47,hi48,hi49,hk50,hk51,hv52,hv53⟩
 refine QaE fun _ _ hL hA=>?_; dsimp only at hL hA; subst hL hA
 refine Fb 8 0 fun _=>Fb 8 5 fun _=>Fb 8 6 fun _=>KS ?_
 refine Oq Vm (Oq (Vfa Qbj 4) (Oq (Qai sh3 4) (Oq Qbo (KS ?_))))
 refine Kc ?_ ?_
 ·intro h57
  have g58:=dt h57
  obtain ⟨r59,rfl⟩:=scc (n:=r40) aM1
  refine KS ?_
  refine Qam [0,0,3,0,0,31,63,127] QcF ?_
  refine Dv [4] (Qar Qaw 0) (Dv [] Vm ?_)
  refine QaO (Qas a QkL) fun rv60 hg61=>?_
  refine Dx [5] [] [1,0] (fun G=>vb rv60) [fun G=>SP.fact (True)] (fun G=>xC [0] Qtc (Qtx a aa1 ak1 QkL pre pre rv60 hg61)) (Dv [3] (Qar Qaw 0) (Dv [] Vm ?_))
  refine QaO (Qas b QkL) fun rv62 hg63=>?_
  refine Dx [6] [] [1,0] (fun G=>vb rv62) [fun G=>SP.fact (True)] (fun G=>xC [0] Qtc (Qtx b ba1 bk1 QkL pre pre rv62 hg63)) (Dv [] Va (Dv [] Va ?_))
  refine Dn ⟨by kernel_rfl,fun G=>?_⟩
  refine Jw2 [(2,vb one),(3,vb two),(4,vb both),(5,p3),(6,p4),(10,p5),(12,p39),(13,vi QkL),(14,vb rv60),(15,vb rv62)] [0,1,2,3,4,5,6] [SP.fact (True),SP.fact (True)] ?_
  refine Jk [0,0,0,0,1,2,3] ?_
  refine KS ?_
  refine Oq Vm (Oq Vm ?_)
  refine Js 47 ?_ ?_
  ·intro h64
   try have hrg:=Qsg (s:=a) (by simp only [h9,h14,h19,h24,h26,h57,h64,hg7,hg17,hg31,hg61,hg63])
   refine Oq Vm (Oq Vpt (Oq Vm ?_))
   refine Js 50 ?_ ?_
   ·intro h66
    try have hrg:=Qsg (s:=a) (by simp only [h9,h14,h19,h24,h26,h57,h64,h66,hg7,hg17,hg31,hg61,hg63])
    refine Oq Vm (Oq Vpt (Oq Vm ?_))
    refine Js 53 ?_ ?_
    ·intro h68
     refine Osk (Osk (Osk (Osk (Osk (Osk (Osk (Osk (Oq Vpt (Oq Vm ?_)))))))))
     refine Osk (Osk (Osk (Osk (Osk (Osk (Osk (Osk (Oq Vpt (KS ?_)))))))))
     refine Kt (KS ?_)
     refine Oq (Qar Qaw 1) (Oq Vm ?_)
     refine QaO (QbC (Qaf.mk QfS Qia) QkL) fun rv71 hg72=>?_
     refine Oc [0] QqG (Qdp (A:=_) hlx (Qe7 (Ent.take (is:=[0]) rfl) (QqH ((Qaf.mk QfS Qia)) a44 k45 QkL pre pre pre pre rv71 hg72))) ?_ (ht:=rfl)
     rintro c70 ⟨he73,he74,he75⟩
     unfold Qaa at he73
     have he74:(rv71.Width=QfS):=he74
     have he75:(rv71.Words.length=((QfS+63) / 64).toNat):=he75
     refine Jo 1 ?_; rintro a76 k77 rfl
     refine Fb 8 1 fun _=>?_
     refine Ost (Scl [2] Qaw [vi rv71.Width,vl a76 k77 rv71.Words]) (KS ?_)
     refine Oq Vm (Oq QaS (Oq Va (KS ?_)))
     exact Kg (r59,rv71.Width,rv71.Words,(QkL+1),a76,k77) [2,0,1,1,2,3,4] ⟨(q3 hM46 (by simp only [Qbb,h57,h64,h66,h68,hg61,hg63,hg72,cs4])),aM1,aM1,aM1,aM1,aM1,iv1,iv1⟩
    intro h68
    refine Oq Vm (Oq Vm ?_)
    refine Js 55 ?_ ?_
    ·intro h80
     try have hrg:=Qsg (s:=a) (by simp only [h9,h14,h19,h24,h26,h57,h64,h66,h68,h80,hg7,hg17,hg31,hg61,hg63])
     refine Oq Vm (Oq QcN (Oq Vpt (Oq Vm ?_)))
     refine Js 59 ?_ ?_
     ·intro h82
      exact absurd h82 (by first | (simp [h66]; done) | (simp only [bne,h66]; decide) | (simp only [bne,h66,Bool.not_true,Bool.not_false]; decide) | (exfalso; omega) | (intro hq; simp only [bne,hq,Bool.not_false,Bool.not_true,reduceCtorEq] at h66))
     intro h82
     have h84:=not_false h82
     try have hrg:=Qsg (s:=a) (by simp only [h9,h14,h19,h24,h26,h57,h64,h66,h68,h80,h82,h84,hg7,hg17,hg31,hg61,hg63])
     refine Osk (Oq Vpf (Oq Vpf (Oq Vm (Oq Vm (Oq QcN (Oq Vm ?_))))))
     refine Js 66 ?_ ?_
     ·intro h86
      exact absurd h86 (by first | (simp [h80]; done) | (simp only [bne,h80]; decide) | (simp only [bne,h80,Bool.not_true,Bool.not_false]; decide) | (exfalso; omega) | (intro hq; simp only [bne,hq,Bool.not_false,Bool.not_true,reduceCtorEq] at h80))
     intro h86
     have h88:=not_false h86
     try have hrg:=Qsg (s:=a) (by simp only [h9,h14,h19,h24,h26,h57,h64,h66,h68,h80,h82,h84,h86,h88,hg7,hg17,hg31,hg61,hg63])
     refine Osk (Oq Vpf (Oq Vm (Osk (Oq Vpf (Oq Vpf (KS ?_))))))
     refine Kf (KS ?_)
     refine Oq Vm (Oq QaS (Oq Va (KS ?_)))
     exact Kg (r59,QfS,Qia,(QkL+1),a44,k45) [0,0,0,0,1,2,3] ⟨(q3 hM46 (by simp only [Qbb,h57,h64,h66,h68,h80,h82,h84,h86,h88,hg61,hg63,cs4])),aM1,aM1,aM1,aM1,aM1,iv1,iv1⟩
    intro h80
    exact absurd h80 (by first | (simp [h64]; done) | (simp only [bne,h64]; decide) | (simp only [bne,h64,Bool.not_true,Bool.not_false]; decide) | (exfalso; omega) | (intro hq; simp only [bne,hq,Bool.not_false,Bool.not_true,reduceCtorEq] at h64))
   intro h66
   refine Osk (Oq Vpf (Oq Vm (Oq Vm (Oq Vm ?_))))
   refine Js 55 ?_ ?_
   ·intro h91
    try have hrg:=Qsg (s:=a) (by simp only [h9,h14,h19,h24,h26,h57,h64,h66,h91,hg7,hg17,hg31,hg61,hg63])
    refine Oq Vm (Oq QcN (Oq Vpt (Oq Vm ?_)))
    refine Js 59 ?_ ?_
    ·intro h93
     have h95:=not_true h93
     refine Oq Vm (Oq Vpt (Oq Vpf (Oq Vm ?_)))
     refine Js 63 ?_ ?_
     ·intro h97
      refine Osk (Osk (Osk (Osk (Osk (Osk (Osk (Osk (Oq Vpt (KS ?_)))))))))
      refine Kt (KS ?_)
      refine Oq (Qar Qaw 1) (Oq Vm ?_)
      refine QaO (QbC (Qaf.mk QfS Qia) QkL) fun rv100 hg101=>?_
      refine Oc [0] QqG (Qdp (A:=_) hlx (Qe7 (Ent.take (is:=[0]) rfl) (QqH ((Qaf.mk QfS Qia)) a44 k45 QkL pre pre pre pre rv100 hg101))) ?_ (ht:=rfl)
      rintro c99 ⟨he102,he103,he104⟩
      unfold Qaa at he102
      have he103:(rv100.Width=QfS):=he103
      have he104:(rv100.Words.length=((QfS+63) / 64).toNat):=he104
      refine Jo 1 ?_; rintro a105 k106 rfl
      refine Fb 8 1 fun _=>?_
      refine Ost (Scl [2] Qaw [vi rv100.Width,vl a105 k106 rv100.Words]) (KS ?_)
      refine Oq Vm (Oq QaS (Oq Va (KS ?_)))
      exact Kg (r59,rv100.Width,rv100.Words,(QkL+1),a105,k106) [2,0,1,1,2,3,4] ⟨(q3 hM46 (by simp only [Qbb,h57,h64,h66,h91,h93,h95,h97,hg61,hg63,hg101,cs4])),aM1,aM1,aM1,aM1,aM1,iv1,iv1⟩
     intro h97
     refine Oq Vm (Oq QcN (Oq Vm ?_))
     refine Js 66 ?_ ?_
     ·intro h109
      exact absurd h109 (by first | (simp [h91]; done) | (simp only [bne,h91]; decide) | (simp only [bne,h91,Bool.not_true,Bool.not_false]; decide) | (exfalso; omega) | (intro hq; simp only [bne,hq,Bool.not_false,Bool.not_true,reduceCtorEq] at h91))
     intro h109
     have h111:=not_false h109
     try have hrg:=Qsg (s:=a) (by simp only [h9,h14,h19,h24,h26,h57,h64,h66,h91,h93,h95,h97,h109,h111,hg7,hg17,hg31,hg61,hg63])
     refine Osk (Oq Vpf (Oq Vm (Osk (Oq Vpf (Oq Vpf (KS ?_))))))
     refine Kf (KS ?_)
     refine Oq Vm (Oq QaS (Oq Va (KS ?_)))
     exact Kg (r59,QfS,Qia,(QkL+1),a44,k45) [0,0,0,0,1,2,3] ⟨(q3 hM46 (by simp only [Qbb,h57,h64,h66,h91,h93,h95,h97,h109,h111,hg61,hg63,cs4])),aM1,aM1,aM1,aM1,aM1,iv1,iv1⟩
    intro h93
    exact absurd h93 (by first | (simp [h66]; done) | (simp only [bne,h66]; decide) | (simp only [bne,h66,Bool.not_true,Bool.not_false]; decide) | (exfalso; omega) | (intro hq; simp only [bne,hq,Bool.not_false,Bool.not_true,reduceCtorEq] at h66))
   intro h91
   exact absurd h91 (by first | (simp [h64]; done) | (simp only [bne,h64]; decide) | (simp only [bne,h64,Bool.not_true,Bool.not_false]; decide) | (exfalso; omega) | (intro hq; simp only [bne,hq,Bool.not_false,Bool.not_true,reduceCtorEq] at h64))
  intro h64
  refine Osk (Oq Vpf (Oq Vm (Osk (Oq Vpf (Oq Vm (Oq Vm (Oq Vm ?_)))))))
  refine Js 55 ?_ ?_
  ·intro h114
   exact absurd h114 (by first | (simp [h64]; done) | (simp only [bne,h64]; decide) | (simp only [bne,h64,Bool.not_true,Bool.not_false]; decide) | (exfalso; omega) | (intro hq; simp only [bne,hq,Bool.not_false,Bool.not_true,reduceCtorEq] at h64))
  intro h114
  refine Osk (Osk (Oq Vpf (Oq Vm (Osk (Oq Vpf (Oq Vpf (Oq Vm (Oq Vm (Oq QcN ?_)))))))))
  refine Oq Vm ?_
  refine Js 66 ?_ ?_
  ·intro h116
   have h118:=not_true h116
   refine Oq Vm (Oq Vpt (Oq Vm ?_))
   refine Js 69 ?_ ?_
   ·intro h120
    try have hrg:=Qsg (s:=a) (by simp only [h9,h14,h19,h24,h26,h57,h64,h114,h116,h118,h120,hg7,hg17,hg31,hg61,hg63])
    refine Oq Vm (Oq Vpt (Oq Vpf (KS ?_)))
    refine Kc ?_ ?_
    ·intro h122
     refine KS ?_
     refine Oq (Qar Qaw 1) (Oq Vm ?_)
     refine QaO (QbC (Qaf.mk QfS Qia) QkL) fun rv125 hg126=>?_
     refine Oc [0] QqG (Qdp (A:=_) hlx (Qe7 (Ent.take (is:=[0]) rfl) (QqH ((Qaf.mk QfS Qia)) a44 k45 QkL pre pre pre pre rv125 hg126))) ?_ (ht:=rfl)
     rintro c124 ⟨he127,he128,he129⟩
     unfold Qaa at he127
     have he128:(rv125.Width=QfS):=he128
     have he129:(rv125.Words.length=((QfS+63) / 64).toNat):=he129
     refine Jo 1 ?_; rintro a130 k131 rfl
     refine Fb 8 1 fun _=>?_
     refine Ost (Scl [2] Qaw [vi rv125.Width,vl a130 k131 rv125.Words]) (KS ?_)
     refine Oq Vm (Oq QaS (Oq Va (KS ?_)))
     exact Kg (r59,rv125.Width,rv125.Words,(QkL+1),a130,k131) [2,0,1,1,2,3,4] ⟨(q3 hM46 (by simp only [Qbb,h57,h64,h114,h116,h118,h120,h122,hg61,hg63,hg126,cs4])),aM1,aM1,aM1,aM1,aM1,iv1,iv1⟩
    intro h122
    refine KS ?_
    refine Oq Vm (Oq QaS (Oq Va (KS ?_)))
    exact Kg (r59,QfS,Qia,(QkL+1),a44,k45) [0,0,0,0,1,2,3] ⟨(q3 hM46 (by simp only [Qbb,h57,h64,h114,h116,h118,h120,h122,hg61,hg63,cs4])),aM1,aM1,aM1,aM1,aM1,iv1,iv1⟩
   intro h120
   refine Osk (Oq Vpf (Oq Vpf (KS ?_)))
   refine Kf (KS ?_)
   refine Oq Vm (Oq QaS (Oq Va (KS ?_)))
   exact Kg (r59,QfS,Qia,(QkL+1),a44,k45) [0,0,0,0,1,2,3] ⟨(q3 hM46 (by simp only [Qbb,h57,h64,h114,h116,h118,h120,hg61,hg63,cs4])),aM1,aM1,aM1,aM1,aM1,iv1,iv1⟩
  intro h116
  exact absurd h116 (by first | (simp [h114]; done) | (simp only [bne,h114]; decide) | (simp only [bne,h114,Bool.not_true,Bool.not_false]; decide) | (exfalso; omega) | (intro hq; simp only [bne,hq,Bool.not_false,Bool.not_true,reduceCtorEq] at h114))
 intro h57
 have g135:=df h57
 obtain rfl:r40=0:=by omega
 refine Ke ?_
 have hR136:=q2 hM46 (QfS,Qia) (by simp only [Qbb,h57,cs4])
 refine KS ?_
 refine Oq (Qar Qaw 1) (Ost (Scl [2] Qaw [vi QfS,vl a44 k45 Qia]) (Oq Va (KS ?_)))
 refine Jl [1] (Ent.freeze _ _) ?_
 have hq:=q4 hrr ((Qaf.mk QfS Qia),0) (by simp only [Qif,h9,h14,h19,h24,h26,h57,hg7,hg17,hg31,hR136,cs4]); subst hq
 exact Kr (vl a44 k45 Qia) rfl (.cellN 1 rfl Qaw rfl (Qak _ _) rfl (.tmp rfl .nil)) [0] en
theorem QBu (a:Qaf) (aa1:Option Addr) (ak1:Nat) (b:Qaf) (ba1:Option Addr) (bk1:Nat) (Qke:Qaa a.Width) (QgI:Qaa b.Width) (rr:Qaf×Int) (hrr:Qfu a b=rr):FT Tryz.prog 40 #[.agg #[vi a.Width,vl aa1 ak1 a.Words],.agg #[vi b.Width,vl ba1 bk1 b.Words]] [S aa1 ak1 a.Words,S ba1 bk1 b.Words] (fun g:Value=>Qaa rr.1.Width/\Qaa rr.2) (fun g=>.tuple #[.agg #[vi rr.1.Width,g],vi rr.2]) (fun g=>[sl g rr.1.Words]):=by
 refine FTi Tryz.func40 fun w0 M0 F0=>?_
 unfold Qaa at Qke QgI
 refine Fb 8 0 fun _=>Fb 8 1 fun _=>KS ?_
 refine Oa (Ab [vi a.Width,vl aa1 ak1 a.Words]) fun p3=>Oa (Ab [vi b.Width,vl ba1 bk1 b.Words]) fun p4=>Oa (Al Qhj [vi 0,.slice none 0 0]) fun p5=>Oq Va (KS ?_)
 refine Oq (Qar Qaw 2) (Oq (Qar Qaw 1) ?_)
 refine QaO (Qif a b true true true) fun rv7 hg8=>?_
 have hc9:=QCj a aa1 ak1 b ba1 bk1 true true true pre pre rv7 hg8
 refine Oc [3,4] QBE hc9 ?_
 rintro c6 ⟨he10,he11⟩
 unfold Qaa at he10 he11
 refine Jo 0 ?_; rintro a12 k13 rfl
 refine Fb 8 0 fun _=>?_
 refine Oq Vx (Oq Vx (Ost (Scl [1] Qaw [vi rv7.1.Width,vl a12 k13 rv7.1.Words]) (Oq Va (KS ?_))))
 have hq:=q4 hrr (rv7.1,rv7.2) (by simp only [Qfu,hg8,cs4]); subst hq
 exact Kr (vl a12 k13 rv7.1.Words) rfl (.cellN 0 rfl Qaw rfl (Qak _ _) rfl (.tmp rfl .nil)) [1] en
theorem QBz (a:Qaf) (aa1:Option Addr) (ak1:Nat) (b:Qaf) (ba1:Option Addr) (bk1:Nat) (Qke:Qaa a.Width) (QgI:Qaa b.Width) (rr:Qaf) (hrr:Qg3 a b=rr):FT Tryz.prog 12 #[.agg #[vi a.Width,vl aa1 ak1 a.Words],.agg #[vi b.Width,vl ba1 bk1 b.Words]] [S aa1 ak1 a.Words,S ba1 bk1 b.Words] (fun g:Value=>Qaa rr.Width) (fun g=>.agg #[vi rr.Width,g]) (fun g=>[sl g rr.Words]):=by
 refine FTi Tryz.func12 fun w0 M0 F0=>?_
 unfold Qaa at Qke QgI
 refine Fb 8 0 fun _=>Fb 8 1 fun _=>KS ?_
 refine Oa (Ab [vi a.Width,vl aa1 ak1 a.Words]) fun p3=>Oa (Ab [vi b.Width,vl ba1 bk1 b.Words]) fun p4=>Oa (Al Qhj [vi 0,.slice none 0 0]) fun p5=>KS ?_
 refine Oq (Qar Qaw 2) (Oq (Qar Qaw 1) ?_)
 refine QaO (Qfu a b) fun rv7 hg8=>?_
 have hc9:=QBu a aa1 ak1 b ba1 bk1 pre pre rv7 hg8
 refine Oc [3,4] QBs hc9 ?_
 rintro c6 ⟨he10,he11⟩
 unfold Qaa at he10 he11
 refine Jo 0 ?_; rintro a12 k13 rfl
 refine Fb 8 0 fun _=>?_
 refine Oq Vm (Oq Vx (Oq Vx (Oa (Al Qhj [vi 0,.slice none 0 0]) fun p15=>Ost (Scl [0] Qaw [vi rv7.1.Width,vl a12 k13 rv7.1.Words]) (Oq Va (KS ?_)))))
 refine Oq (Qar Qaw 0) (Ost (Scl [2] Qaw [vi rv7.1.Width,vl a12 k13 rv7.1.Words]) (KS ?_))
 have hq:=q4 hrr rv7.1 (by simp only [Qg3,hg8,cs4]); subst hq
 exact Kr (vl a12 k13 rv7.1.Words) rfl (.cellN 0 rfl Qaw rfl (Qak _ _) rfl .nil) [2] en
theorem QA9 (s:Qab) (sa1:Option Addr) (sk1:Nat) (sa2:Option Addr) (sk2:Nat) (sa3:Option Addr) (sk3:Nat) (v:List Qaf) (va0:Option Addr) (vk0:Nat) (n:Int) (QcL:Qaa s.Width) (Qf1:Qaa n) (hv:QcT s) (hl:v.length=s.Boundary.length) (hn:0<=n/\n < (s.Boundary.length:Int)) (rr:Qaf) (hrr:QcI s v n=rr):FT Tryz.prog 83 #[.agg #[vi s.Width,vl sa1 sk1 s.Deps,vl sa2 sk2 s.Transfers,vl sa3 sk3 s.Boundary],vl va0 vk0 v,vi n] [S sa1 sk1 s.Deps,S sa2 sk2 s.Transfers,S sa3 sk3 s.Boundary,S va0 vk0 v] (fun g:Value=>Qaa rr.Width) (fun g=>.agg #[vi rr.Width,g]) (fun g=>[sl g rr.Words]):=by
 refine FTi Tryz.func83 fun w0 M0 F0=>?_
 unfold Qaa at QcL Qf1
 refine Fb 24 0 fun _=>Fb 88 1 fun _=>Fb 32 2 fun _=>Fb 32 3 fun _=>?_
 have hv1:=hv.n
 have hv2:=hv.tl
 have hv3:=hv.bl
 have hv4:=hv.w
 have hv5:=hv.dep_len
 refine KS ?_
 refine Oa (Ab [vi s.Width,vl sa1 sk1 s.Deps,vl sa2 sk2 s.Transfers,vl sa3 sk3 s.Boundary]) fun p5=>Oa (Al Qhj [vi 0,.slice none 0 0]) fun p6=>KS ?_
 refine Oq (Vfa Qc8 1) (Oq (Qai Qjc 1) (Oq Vm (Oq (Vi Qd2 4) ?_)))
 refine Qbf n.toNat 4 rfl rng fun a7 k8 hb9=>?_
 unfold Qaa at hb9
 refine Fb 8 1 fun _=>?_
 refine Oq (Qar Qaw 0) (Oa (Al Qhj [vi 0,.slice none 0 0]) fun p11=>Ost (Scl [0] Qaw [vi ((s.Boundary.getD n.toNat default).Width),vl a7 k8 ((s.Boundary.getD n.toNat default).Words)]) (KS ?_))
 refine Oq Va (KS ?_)
 refine Kl (γ:=Nat×Int×List (BitVec 64)×Int×Option Addr×Nat) (fun (r12,Qhf,Qhg,Qn9,a16,k17)=>⟨[(1,vl va0 vk0 v),(2,vi n),(3,p5),(6,p6),(7,p11),(8,vi Qn9)],[S a16 k17 Qhg,Cl p11 [vi Qhf,vl a16 k17 Qhg],Cl p6 [vi 0,.slice none 0 0],pv p5 [vi s.Width,vl sa1 sk1 s.Deps,vl sa2 sk2 s.Transfers,vl sa3 sk3 s.Boundary],S sa1 sk1 s.Deps,S sa2 sk2 s.Transfers,S sa3 sk3 s.Boundary,S va0 vk0 v],QbM s v n r12 Qhf Qhg Qn9=QbM s v n (((((s.Deps.getD n.toNat []).length:Int):Int) - 0).toNat) ((s.Boundary.getD n.toNat default).Width) ((s.Boundary.getD n.toNat default).Words) 0/\r12=((((s.Deps.getD n.toNat []).length:Int):Int) - Qn9).toNat/\(0:Int)<=Qn9/\(Qn9<=((s.Deps.getD n.toNat []).length:Int)\/Qn9=0)/\(-9223372036854775808<=Qhf/\Qhf<=9223372036854775807)/\(-9223372036854775808<=Qn9/\Qn9<=9223372036854775807),r12⟩) (((((s.Deps.getD n.toNat []).length:Int):Int) - 0).toNat,(s.Boundary.getD n.toNat default).Width,(s.Boundary.getD n.toNat default).Words,0,a7,k8) [2,0,2,2,3,4,5,6] ⟨rfl,rfl,aM1,(.inr rfl),aM1,aM1⟩ ?_
 rintro ⟨r12,Qhf,Qhg,Qn9,a16,k17⟩ ⟨hM18,hr19,hi20,hi21,hk22,hk23⟩
 refine QaE fun _ _ hL hA=>?_; dsimp only at hL hA; subst hL hA
 refine Fb 8 0 fun _=>Fb 24 4 fun _=>Fb 88 5 fun _=>Fb 32 6 fun _=>Fb 32 7 fun _=>KS ?_
 refine Oq Vm (Oq (Vfa Qbt 3) (Oq (Qai QfL 3) (Oq Vm (Oq (Vi QeN 4) ?_))))
 refine Qef n.toNat 4 rfl rng fun a29 k30=>?_
 refine Fb 8 1 fun _=>Fo 1 fun ho32=>?_
 refine Oq (Vld Qjs 0) (Oq (Qbc QcP) (Oq Qbo (KS ?_)))
 refine Kc ?_ ?_
 ·intro h33
  have g34:=dt h33
  have hq:=hv.dep_mem (j:=n) aM1 aM1 _ (QaA (xs:=s.Deps.getD n.toNat []) (i:=Qn9.toNat) (d:=0) aM1)
  obtain ⟨r35,rfl⟩:=scc (n:=r12) aM1
  refine KS ?_
  refine Oq (Vfa Qbt 5) (Oq (Qai QfL 5) (Oq Vm (Oq (Vi QeN 6) (Oq (Vld Qjs 0) (Oq Vm (Oq (Vi QcP 1) ?_))))))
  have hb36:=ok1 (i:=Qn9.toNat) ho32 rng
  refine Oq (QjF sh3 1) (Oq Va (KS ?_))
  refine Qa0 (((s.Deps.getD n.toNat []).getD Qn9.toNat 0):Int).toNat 7 rfl rng fun a37 k38 a39 k40 a41 k42 hb43 hb44=>?_
  unfold Qaa at hb43 hb44
  refine Fb 8 1 fun _=>Fb 8 2 fun _=>Fb 16 3 fun _=>?_
  refine Qbf (((s.Deps.getD n.toNat []).getD Qn9.toNat 0):Int).toNat 13 rfl rng fun a48 k49 hb50=>?_
  unfold Qaa at hb50
  refine Fb 8 1 fun _=>?_
  refine Qam [0,1,0,7,15,0,0,96,224,511,1023,2047,2047,0,12287,32767] QcF ?_
  refine Dv [11] (Vfa Qco 0) (Dv [11] (Qai QiS 0) (Dv [] Vm (Dv [13] (Vi Qhi 0) (Dv [2] (Qar Qdm 0) (Dv [] Vm (Dv [] Vm (Dv [15] (Vi Qd2 0) (Dv [0] (Qar Qaw 0) ?_))))))))
  refine QaO (Qd0 (s.Transfers.getD (((s.Deps.getD n.toNat []).getD Qn9.toNat 0):Int).toNat default) (v.getD (((s.Deps.getD n.toNat []).getD Qn9.toNat 0):Int).toNat default)) fun rv53 hg54=>?_
  refine Dx [1,3,4,5] [] [2,3,4,5,0,1] (fun G=>.tuple #[.agg #[vi rv53.1.Width,(G.g 9 0)],vi rv53.2]) [fun G=>SP.fact (Qaa rv53.1.Width/\Qaa rv53.2),fun G=>sl (G.g 9 0) rv53.1.Words] (fun G=>xC [1,2,3,0] Qzp (Qx2 ((s.Transfers.getD (((s.Deps.getD n.toNat []).getD Qn9.toNat 0):Int).toNat default)) a37 k38 a39 k40 a41 k42 ((v.getD (((s.Deps.getD n.toNat []).getD Qn9.toNat 0):Int).toNat default)) a48 k49 pre pre pre rv53 hg54)) (Dg [] (fun G=>.tuple #[.agg #[vi rv53.1.Width,(G.g 9 0)],vi rv53.2]) (fun G=>Vm) (Dg [] (fun G=>.agg #[vi rv53.1.Width,(G.g 9 0)]) (fun G=>Vx) (Dv [] Vx (Dx [] [] [0] (fun G=>(G.g 13 0)) [fun G=>Cl (G.g 13 0) [vi 0,.slice none 0 0]] (fun G=>xA (Al Qhj [vi 0,.slice none 0 0])) (Dx0 [17,18] [18] [1,0] [fun G=>Cl (G.g 13 0) [vi rv53.1.Width,(G.g 9 0)]] (fun G=>x1 0 rfl QjQ fun ho56=>(xS (Scl [1] Qaw [vi rv53.1.Width,(G.g 9 0)] (v:=.agg #[vi rv53.1.Width,(G.g 9 0)]) (h1:=show [vi rv53.1.Width,(G.g 9 0)].all (·.oneCell')=true from (by simp only [List.all_cons,List.all_nil,ho56,Bool.and_true,Bool.true_and] <;> rfl))))) (Dv [] Va ?_))))))
  refine Dn ⟨by kernel_rfl,fun G=>?_⟩
  refine Jw2 [(1,vl va0 vk0 v),(2,vi n),(3,p5),(6,p6),(7,p11),(8,vi Qn9),(10,(G.g 13 0))] [0,1,2,3,4,5,6,7,8,9,10,11,12,13,14,15] [SP.fact (Qaa rv53.1.Width/\Qaa rv53.2),sl (G.g 9 0) rv53.1.Words,Cl (G.g 13 0) [vi rv53.1.Width,(G.g 9 0)]] ?_
  generalize G.g 9 0=c52,G.g 13 0=p55
  refine Jf 16 rfl ?_; rintro ⟨he57,he58⟩
  unfold Qaa at he57 he58
  refine Jk [0,1,2,3,4,5,6,7,8,9,9,9,10,11,12,13,15,16] ?_
  refine Jo 16 ?_; rintro a59 k60 rfl
  refine Fb 8 16 fun _=>KS ?_
  refine Oq (Qar Qaw 9) (Oq (Qar Qaw 17) ?_)
  refine QaO (Qg3 (Qaf.mk Qhf Qhg) rv53.1) fun rv63 hg64=>?_
  have hc65:=QBz ((Qaf.mk Qhf Qhg)) a16 k17 rv53.1 a59 k60 pre pre rv63 hg64
  refine Oc [8,16] QAW hc65 ?_
  rintro c62 he66
  unfold Qaa at he66
  refine Jo 0 ?_; rintro a67 k68 rfl
  refine Fb 8 0 fun _=>?_
  refine Ost (Scl [10] Qaw [vi rv63.Width,vl a67 k68 rv63.Words]) (KS ?_)
  refine Oq Vm (Oq QaS (Oq Va (KS ?_)))
  exact Kg (r35,rv63.Width,rv63.Words,(Qn9+1),a67,k68) [1,0,10,10,11,12,13,14] ⟨(q3 hM18 (by simp only [QbM,h33,hg54,hg64,cs4])),aM1,aM1,aM1,aM1,aM1⟩
 intro h33
 have g70:=df h33
 obtain rfl:r12=0:=by omega
 refine Ke ?_
 have hR71:=q2 hM18 (Qhf,Qhg) (by simp only [QbM,h33,cs4])
 refine KS ?_
 refine Oq (Qar Qaw 3) (Ost (Scl [4] Qaw [vi Qhf,vl a16 k17 Qhg]) (KS ?_))
 have hq:=q4 hrr (Qaf.mk Qhf Qhg) (by simp only [QcI,h33,hR71,cs4]); subst hq
 exact Kr (vl a16 k17 Qhg) rfl (.cellN 0 rfl Qaw rfl (Qak _ _) rfl .nil) [3] en
theorem QCb (s:Qab) (sa1:Option Addr) (sk1:Nat) (sa2:Option Addr) (sk2:Nat) (sa3:Option Addr) (sk3:Nat) (v:List Qaf) (va0:Option Addr) (vk0:Nat) (n:Int) (QcL:Qaa s.Width) (Qf1:Qaa n) (rr:Qaf×Int) (hrr:Qeq s v n=rr):FT Tryz.prog 69 #[.agg #[vi s.Width,vl sa1 sk1 s.Deps,vl sa2 sk2 s.Transfers,vl sa3 sk3 s.Boundary],vl va0 vk0 v,vi n] [S sa1 sk1 s.Deps,S sa2 sk2 s.Transfers,S sa3 sk3 s.Boundary,S va0 vk0 v] (fun g:Value=>Qaa rr.1.Width/\Qaa rr.2) (fun g=>.tuple #[.agg #[vi rr.1.Width,g],vi rr.2]) (fun g=>[sl g rr.1.Words]):=by
 refine FTi Tryz.func69 fun w0 M0 F0=>?_
 unfold Qaa at QcL Qf1
 refine Fb 24 0 fun _=>Fb 88 1 fun _=>Fb 32 2 fun _=>Fb 32 3 fun _=>KS ?_
 refine Oa (Ab [vi s.Width,vl sa1 sk1 s.Deps,vl sa2 sk2 s.Transfers,vl sa3 sk3 s.Boundary]) fun p5=>Oa (Al Qhj [vi 0,.slice none 0 0]) fun p6=>Oq Va (KS ?_)
 refine Oq (Qar Qeh 1) ?_
 refine QaO (Qbi s) fun rv7 hg8=>?_
 have hc9:=QyC s sa1 sk1 sa2 sk2 sa3 sk3 pre rv7 hg8
 refine Oc [2,3,4] Qy1 hc9 ?_
 rintro - -
 refine Oq QcN (KS ?_)
 refine Kc ?_ ?_
 ·intro h10
  have h12:=not_true h10
  refine KS ?_
  refine Oq (Vbd Qjw [vi 0,.slice none 0 0]) (Ost (Scl [0] Qaw [vi 0,.slice none 0 0]) (Oq Va (KS ?_)))
  refine Jl [] (Ent.slNil (α:=BitVec 64)) ?_
  have hq:=q4 hrr ((Qaf.mk 0 []),1) (by simp only [Qeq,h10,h12,hg8,cs4]); subst hq
  exact Kr (.slice none 0 0) rfl (.cellN 1 rfl Qaw rfl (Qak _ _) rfl (.tmp rfl .nil)) [0] en
 intro h10
 have h15:=not_false h10
 try (have hvs:=(QcD s).1 (by simp only [h10,h15,hg8]); have hv1:=hvs.n; have hv2:=hvs.tl; have hv3:=hvs.bl; have hv4:=hvs.w)
 refine KS ?_
 refine Oq Vm (Oq Qbo (Oq Vm ?_))
 refine Js 15 ?_ ?_
 ·intro h17
  have g18:=dt h17
  refine Osk (Osk (Osk (Osk (Osk (Oq Vpt (KS ?_))))))
  refine Kt (KS ?_)
  refine Oq (Vbd Qjw [vi 0,.slice none 0 0]) (Ost (Scl [0] Qaw [vi 0,.slice none 0 0]) (Oq Va (KS ?_)))
  refine Jl [] (Ent.slNil (α:=BitVec 64)) ?_
  have hq:=q4 hrr ((Qaf.mk 0 []),9) (by simp only [Qeq,h10,h15,h17,hg8,cs4]); subst hq
  exact Kr (.slice none 0 0) rfl (.cellN 1 rfl Qaw rfl (Qak _ _) rfl (.tmp rfl .nil)) [0] en
 intro h17
 have g19:=df h17
 refine Oq Vm (Oq (Vfa Qc8 1) (Oq (Qai Qjc 1) (Oq (Qbc Qd2) (Oq Qhv (Oq Vpf (KS ?_))))))
 refine Kc ?_ ?_
 ·intro h20
  have g21:=dt h20
  refine KS ?_
  refine Oq (Vbd Qjw [vi 0,.slice none 0 0]) (Ost (Scl [0] Qaw [vi 0,.slice none 0 0]) (Oq Va (KS ?_)))
  refine Jl [] (Ent.slNil (α:=BitVec 64)) ?_
  have hq:=q4 hrr ((Qaf.mk 0 []),9) (by simp only [Qeq,h10,h15,h17,h20,hg8,cs4]); subst hq
  exact Kr (.slice none 0 0) rfl (.cellN 1 rfl Qaw rfl (Qak _ _) rfl (.tmp rfl .nil)) [0] en
 intro h20
 have g22:=df h20
 refine KS ?_
 refine Oq (Qar Qeh 1) (Oq Vm ?_)
 refine QaO (Qds s v) fun rv23 hg24=>?_
 have hc25:=QAT s sa1 sk1 sa2 sk2 sa3 sk3 v va0 vk0 pre rv23 hg24
 refine Oc [2,3,4,5] QCq hc25 ?_
 rintro - he26
 unfold Qaa at he26
 refine Oq Va (KS ?_)
 refine Oq Vm (Oq Qf4 (KS ?_))
 refine Kc ?_ ?_
 ·intro h27
  have g28:=Qax h27
  refine KS ?_
  refine Oq (Vbd Qjw [vi 0,.slice none 0 0]) (Oq Vm (Ost (Scl [0] Qaw [vi 0,.slice none 0 0]) (Oq Va (KS ?_))))
  refine Jl [] (Ent.slNil (α:=BitVec 64)) ?_
  have hq:=q4 hrr ((Qaf.mk 0 []),rv23) (by simp only [Qeq,h10,h15,h17,h20,h27,hg8,hg24,cs4]); subst hq
  exact Kr (.slice none 0 0) rfl (.cellN 1 rfl Qaw rfl (Qak _ _) rfl (.tmp rfl .nil)) [0] en
 intro h27
 have g29:=Qae h27
 refine KS ?_
 refine Oq (Qar Qeh 1) (Oq Vm (Oq Vm ?_))
 refine QaO (QcI s v n) fun rv31 hg32=>?_
 have hc33:=QA9 s sa1 sk1 sa2 sk2 sa3 sk3 v va0 vk0 n pre pre hvs (Qqw aM1) pre rv31 hg32
 refine Oc [2,3,4,5] QAU hc33 ?_
 rintro c30 he34
 unfold Qaa at he34
 refine Jo 0 ?_; rintro a35 k36 rfl
 refine Fb 8 0 fun _=>?_
 refine Ost (Scl [1] Qaw [vi rv31.Width,vl a35 k36 rv31.Words]) (Oq Va (KS ?_))
 have hq:=q4 hrr (rv31,0) (by simp only [Qeq,h10,h15,h17,h20,h27,hg8,hg24,hg32,cs4]); subst hq
 exact Kr (vl a35 k36 rv31.Words) rfl (.cellN 0 rfl Qaw rfl (Qak _ _) rfl (.tmp rfl .nil)) [1] en
theorem QBJ (s:Qab) (sa1:Option Addr) (sk1:Nat) (sa2:Option Addr) (sk2:Nat) (sa3:Option Addr) (sk3:Nat) (v:List Qaf) (va0:Option Addr) (vk0:Nat) (QcL:Qaa s.Width) (rr:List Qaf×Int) (hrr:QhE s v=rr):FT Tryz.prog 38 #[.agg #[vi s.Width,vl sa1 sk1 s.Deps,vl sa2 sk2 s.Transfers,vl sa3 sk3 s.Boundary],vl va0 vk0 v] [S sa1 sk1 s.Deps,S sa2 sk2 s.Transfers,S sa3 sk3 s.Boundary,S va0 vk0 v] (fun g:Value=>Qaa rr.2/\(rr.1.length<=s.Boundary.length+1)) (fun g=>.tuple #[g,vi rr.2]) (fun g=>[sl g rr.1]):=by
 refine FTi Tryz.func38 fun w0 M0 F0=>?_
 unfold Qaa at QcL
 refine Fb 24 0 fun _=>Fb 88 1 fun _=>Fb 32 2 fun _=>Fb 32 3 fun _=>KS ?_
 refine Oa (Ab [vi s.Width,vl sa1 sk1 s.Deps,vl sa2 sk2 s.Transfers,vl sa3 sk3 s.Boundary]) fun p5=>Oq Va (Oq Va (KS ?_))
 refine Oq Va (KS ?_)
 refine Oq Va (KS ?_)
 refine Jl [] (Ent.osNil (α:=Qaf)) ?_
 refine Kl (γ:=Nat×List Qaf×Int×Option Addr×Nat) (fun (r6,Qik,n_8,a9,k10)=>⟨[(1,vl va0 vk0 v),(2,p5),(6,vl a9 k10 Qik),(7,vi n_8)],[O a9 k10 Qik,pv p5 [vi s.Width,vl sa1 sk1 s.Deps,vl sa2 sk2 s.Transfers,vl sa3 sk3 s.Boundary],S sa1 sk1 s.Deps,S sa2 sk2 s.Transfers,S sa3 sk3 s.Boundary,S va0 vk0 v],Qdi s v r6 Qik n_8=Qdi s v ((((max (s.Boundary.length:Int) 1):Int) - 0).toNat) [] 0/\r6=(((max (s.Boundary.length:Int) 1):Int) - n_8).toNat/\(0:Int)<=n_8/\(n_8<=(max (s.Boundary.length:Int) 1)\/n_8=0)/\(-9223372036854775808<=n_8/\n_8<=9223372036854775807)/\(Qik.length:Int)=n_8,r6⟩) ((((max (s.Boundary.length:Int) 1):Int) - 0).toNat,[],0,none,0) [0,0,1,2,3,4] ⟨rfl,rfl,aM1,(.inr rfl),aM1,iv0⟩ ?_
 rintro ⟨r6,Qik,n_8,a9,k10⟩ ⟨hM11,hr12,hi13,hi14,hk15,hv16⟩
 refine QaE fun _ _ hL hA=>?_; dsimp only at hL hA; subst hL hA
 refine Fb 32 0 fun _=>Fb 24 2 fun _=>Fb 88 3 fun _=>Fb 32 4 fun _=>Fb 32 5 fun _=>KS ?_
 refine Oq Vm (Oq (Vfa Qc8 1) (Oq (Qai Qjc 1) (Oq (Qbc Qd2) (Oq QBT (Oq Qbo (KS ?_))))))
 refine Kc ?_ ?_
 ·intro h22
  have g23:=dt h22
  obtain ⟨r24,rfl⟩:=scc (n:=r6) aM1
  refine KS ?_
  refine Oq (Qar Qeh 1) (Oq Vm (Oq Vm ?_))
  refine QaO (Qeq s v n_8) fun rv26 hg27=>?_
  have hc28:=QCb s sa1 sk1 sa2 sk2 sa3 sk3 v va0 vk0 n_8 pre pre rv26 hg27
  refine Oc [2,3,4,5] QAD hc28 ?_
  rintro c25 ⟨he29,he30⟩
  unfold Qaa at he29 he30
  refine Jo 0 ?_; rintro a31 k32 rfl
  refine Fb 8 0 fun _=>?_
  refine Oq Vm (Oq Vx (Oq Vx (Oa (Al Qhj [vi 0,.slice none 0 0]) fun p34=>Ost (Scl [0] Qaw [vi rv26.1.Width,vl a31 k32 rv26.1.Words]) (Oq Va (KS ?_)))))
  refine Oq Vm (Oq Qf4 (KS ?_))
  refine Kc ?_ ?_
  ·intro h35
   have g36:=Qax h35
   refine KS ?_
   refine Oq Vm (Oq Va (Oq Va (KS ?_)))
   refine Jl [] (Ent.slNil (α:=Qaf)) ?_
   have hR37:=q2 hM11 (.ret (([]:List Qaf),rv26.2)) (by simp only [Qdi,h22,h35,hg27,cs4])
   have hq:=q4 hrr (([]:List Qaf),rv26.2) (by simp only [QhE,h22,h35,hg27,hR37,cs4]); subst hq
   exact Kr (.slice none 0 0) rfl (.tmp rfl (.tmp rfl .nil)) [0] en
  intro h35
  have g38:=Qae h35
  refine KS ?_
  refine Oq Vm (Oq (Qar Qaw 0) (Oa (AsV Qd2 Qob [.agg #[vi rv26.1.Width,vl a31 k32 rv26.1.Words]] [vi rv26.1.Width,vl a31 k32 rv26.1.Words]) fun c39=>?_))
  refine Jo 0 ?_; rintro a40 k41 rfl
  refine Jl [0,1] (Ent.cr1 (α:=Qaf) (A:=[S a31 k32 rv26.1.Words]) _ rv26.1 _ aB1 (fun h=>⟨_,rfl,aL1,Qaj (i:=0) rfl h⟩)) ?_
  refine Oa (ApO [4,0] Qd2 Qd2 Qob) fun c42=>?_
  refine Jo 0 ?_; rintro a43 k44 rfl
  refine Fb 32 0 fun _=>?_
  have hn46:=la Qik ([rv26.1]:List Qaf)
  refine Oq Va (KS ?_)
  refine Oq Vm (Oq QaS (Oq Va (KS ?_)))
  exact Kg (r24,(Qik++[rv26.1]),(n_8+1),a43,k44) [0,3,4,5,6,7] ⟨(q3 hM11 (by simp only [Qdi,h22,h35,hg27,cs4])),aM1,aM1,aM1,aM1,iv1⟩
 intro h22
 have g47:=df h22
 obtain rfl:r6=0:=by omega
 refine Ke ?_
 have hR48:=q2 hM11 (.brk Qik) (by simp only [Qdi,h22,cs4])
 refine KS ?_
 refine Oq Vm (Oq Va (Oq Va (KS ?_)))
 refine Jl [0] (Ent.freeze _ _) ?_
 have hq:=q4 hrr (Qik,0) (by simp only [QhE,h22,hR48,cs4]); subst hq
 exact Kr (vl a9 k10 Qik) rfl (.tmp rfl (.tmp rfl .nil)) [0] en
theorem QA7 (s:Qab) (sa1:Option Addr) (sk1:Nat) (sa2:Option Addr) (sk2:Nat) (sa3:Option Addr) (sk3:Nat) (QcL:Qaa s.Width) (rr:List Qaf×Int×Int) (hrr:QeT s=rr):FT Tryz.prog 11 #[.agg #[vi s.Width,vl sa1 sk1 s.Deps,vl sa2 sk2 s.Transfers,vl sa3 sk3 s.Boundary]] [S sa1 sk1 s.Deps,S sa2 sk2 s.Transfers,S sa3 sk3 s.Boundary] (fun g:Value=>Qaa rr.2.1/\Qaa rr.2.2/\(rr.1.length<=257)) (fun g=>.tuple #[g,vi rr.2.1,vi rr.2.2]) (fun g=>[sl g rr.1]):=by
 refine FTi Tryz.func11 fun w0 M0 F0=>?_
 unfold Qaa at QcL
 refine Fb 24 0 fun _=>Fb 88 1 fun _=>Fb 32 2 fun _=>KS ?_
 refine Oa (Ab [vi s.Width,vl sa1 sk1 s.Deps,vl sa2 sk2 s.Transfers,vl sa3 sk3 s.Boundary]) fun p4=>Oq Va (Oq Va (Oq Va (KS ?_)))
 refine Oq (Qar Qeh 0) ?_
 refine QaO (Qbi s) fun rv5 hg6=>?_
 have hc7:=QyC s sa1 sk1 sa2 sk2 sa3 sk3 pre rv5 hg6
 refine Oc [1,2,3] Qy1 hc7 ?_
 rintro - -
 refine Oq QcN (KS ?_)
 refine Kc ?_ ?_
 ·intro h8
  have h10:=not_true h8
  refine KS ?_
  refine Oq Va (Oq Va (Oq Va (KS ?_)))
  refine Jl [] (Ent.slNil (α:=Qaf)) ?_
  have hq:=q4 hrr (([]:List Qaf),0,1) (by simp only [QeT,h8,h10,hg6,cs4]); subst hq
  exact Kr (.slice none 0 0) rfl (.tmp rfl (.tmp rfl (.tmp rfl .nil))) [0] en
 intro h8
 have h13:=not_false h8
 try (have hvs:=(QcD s).1 (by simp only [h8,h13,hg6]); have hv1:=hvs.n; have hv3:=hvs.bl; have hv4:=hvs.w; have hbb:s.Boundary.length*s.Width.toNat<=256*256:=Nat.mul_le_mul aM1 aM1)
 refine KS ?_
 refine Oq (Qar Qeh 0) ?_
 refine QaO (Qdr s) fun rv16 hg17=>?_
 have hc18:=QA8 s sa1 sk1 sa2 sk2 sa3 sk3 pre pre rv16 hg17
 refine Oc [1,2,3] QCg hc18 ?_
 rintro c15 he19
 refine Jo 0 ?_; rintro a20 k21 rfl
 refine Fb 32 0 fun _=>?_
 refine Oq Va (KS ?_)
 refine Oq Va (KS ?_)
 have hterm32:Qcf s (s.Boundary.length*s.Width.toNat+2) rv16 0≠LR.oof:=(Qqy (by simp only [h8,h13,hg6,hg17]) (by assumption))
 refine Kl (γ:=Nat×List Qaf×Int×Option Addr×Nat) (fun (r23,QqN,Qfx,a26,k27)=>⟨[(1,p4),(5,vl a26 k27 QqN),(6,vi Qfx)],[S a26 k27 QqN,pv p4 [vi s.Width,vl sa1 sk1 s.Deps,vl sa2 sk2 s.Transfers,vl sa3 sk3 s.Boundary],S sa1 sk1 s.Deps,S sa2 sk2 s.Transfers,S sa3 sk3 s.Boundary],Qcf s r23 QqN Qfx=Qcf s (s.Boundary.length*s.Width.toNat+2) rv16 0/\(-9223372036854775808<=Qfx/\Qfx<=9223372036854775807)/\0<=Qfx/\Qfx+(r23:Int)=((s.Boundary.length*s.Width.toNat+2:Nat):Int)/\QqN.length<=s.Boundary.length+1,r23⟩) ((s.Boundary.length*s.Width.toNat+2),rv16,0,a20,k21) [0,1,2,3,4] ⟨rfl,aM1,iv0,iv0⟩ ?_
 rintro ⟨r23,QqN,Qfx,a26,k27⟩ ⟨hM28,hk29,hv30,hv31⟩
 refine QaE fun _ _ hL hA=>?_; dsimp only at hL hA; subst hL hA
 refine Fb 32 0 fun _=>Fb 24 2 fun _=>Fb 88 3 fun _=>Fb 32 4 fun _=>?_
 rcases r23 with _ | r23
 ·exact absurd (hM28.symm.trans rfl) hterm32
 refine KS ?_
 refine Oq (Qar Qeh 1) (Oq Vm ?_)
 refine QaO (QhE s QqN) fun rv38 hg39=>?_
 have hc40:=QBJ s sa1 sk1 sa2 sk2 sa3 sk3 QqN a26 k27 pre rv38 hg39
 refine Oc [2,3,4,0] QB7 hc40 ?_
 rintro c37 ⟨he41,he42⟩
 unfold Qaa at he41
 refine Jo 0 ?_; rintro a43 k44 rfl
 refine Fb 32 0 fun _=>?_
 refine Oq Vm (Oq Vx (Oq Vx (Oq Va (Oq Va (KS ?_)))))
 refine Oq Vm (Oq Vm ?_)
 refine QaO (Qck rv38.1 QqN) fun rv46 hg47=>?_
 have hc48:=Qz4 rv38.1 a43 k44 QqN a26 k27 rv46 hg47
 refine Oc [0,1] QAu hc48 ?_
 rintro - -
 refine KS ?_
 refine Kc ?_ ?_
 ·intro h49
  try (have hvs:=(QcD s).1 (by simp only [h8,h13,h49,hg6,hg17,hg39,hg47]); have hv1:=hvs.n; have hv3:=hvs.bl; have hv4:=hvs.w; have hbb:s.Boundary.length*s.Width.toNat<=256*256:=Nat.mul_le_mul aM1 aM1)
  refine KS ?_
  refine Oq Vm (Oq Vm (Oq Va (Oq Va (Oq Va (KS ?_)))))
  have hR51:=q2 hM28 (.ret (QqN,Qfx,0)) (by simp only [Qcf,h49,hg39,hg47,cs4])
  have hq:=q4 hrr (QqN,Qfx,0) (by simp only [QeT,h8,h13,h49,hg6,hg17,hg39,hg47,hR51,cs4]); subst hq
  exact Kr (vl a26 k27 QqN) rfl (.tmp rfl (.tmp rfl (.tmp rfl .nil))) [1] en
 intro h49
 refine KS ?_
 refine Oq Vm (Oq Va (KS ?_))
 refine Oq Vm (Oq QaS (Oq Va (KS ?_)))
 exact Kg (r23,rv38.1,(Qfx+1),a43,k44) [0,2,3,4,5] ⟨(q3 hM28 (by simp only [Qcf,h49,hg39,hg47,cs4])),aM1,iv1,iv1⟩
theorem QAY (s:Qab) (sa1:Option Addr) (sk1:Nat) (sa2:Option Addr) (sk2:Nat) (sa3:Option Addr) (sk3:Nat) (n:Int) (bit:Int) (QcL:Qaa s.Width) (Qf1:Qaa n) (QfG:Qaa bit) (rr:List Qaf×Bool×Int) (hrr:QeG s n bit=rr):FT Tryz.prog 54 #[.agg #[vi s.Width,vl sa1 sk1 s.Deps,vl sa2 sk2 s.Transfers,vl sa3 sk3 s.Boundary],vi n,vi bit] [S sa1 sk1 s.Deps,S sa2 sk2 s.Transfers,S sa3 sk3 s.Boundary] (fun g:Value=>Qaa rr.2.2) (fun g=>.tuple #[g,vb rr.2.1,vi rr.2.2]) (fun g=>[sl g rr.1]):=by
 refine FTi Tryz.func54 fun w0 M0 F0=>?_
 unfold Qaa at QcL Qf1 QfG
 refine Fb 24 0 fun _=>Fb 88 1 fun _=>Fb 32 2 fun _=>KS ?_
 refine Oa (Ab [vi s.Width,vl sa1 sk1 s.Deps,vl sa2 sk2 s.Transfers,vl sa3 sk3 s.Boundary]) fun p4=>Oq Va (Oq Va (Oq Va (KS ?_)))
 refine Oq (Qar Qeh 0) (Oq Vm (Oq Vm ?_))
 refine QaO (QbE s n bit) fun rv5 hg6=>?_
 have hc7:=QAm s sa1 sk1 sa2 sk2 sa3 sk3 n bit pre pre pre rv5 hg6
 refine Oc [1,2,3] QAs hc7 ?_
 rintro - he8
 unfold Qaa at he8
 refine Oq Va (KS ?_)
 refine Oq Vm (Oq Qf4 (KS ?_))
 refine Kc ?_ ?_
 ·intro h9
  have g10:=Qax h9
  refine KS ?_
  refine Oq Vm (Oq Va (Oq Va (Oq Va (KS ?_))))
  refine Jl [] (Ent.slNil (α:=Qaf)) ?_
  have hq:=q4 hrr (([]:List Qaf),false,rv5) (by simp only [QeG,h9,hg6,cs4]); subst hq
  exact Kr (.slice none 0 0) rfl (.tmp rfl (.tmp rfl (.tmp rfl .nil))) [0] en
 intro h9
 have g11:=Qae h9
 have hwa:=Qr5 (by assumption:QbE s _ _=rv5) h9; have hwb:=hwa.1.bl; have hww:=hwa.1.w; have hwn:=hwa.1.n
 refine KS ?_
 refine Oq (Qar Qeh 0) ?_
 refine QaO (QeT s) fun rv13 hg14=>?_
 have hc15:=QA7 s sa1 sk1 sa2 sk2 sa3 sk3 pre rv13 hg14
 refine Oc [1,2,3] QBd hc15 ?_
 rintro c12 ⟨he16,he17,he18⟩
 unfold Qaa at he16 he17
 refine Jo 0 ?_; rintro a19 k20 rfl
 refine Fb 32 0 fun _=>?_
 have hsl:=Qqj (by assumption:QeT s=rv13) hwa.1
 refine Oq Vm (Oq Vx (Oq Vx (Oq Vx (Oq Va (Oq Va (Oq Va (KS ?_)))))))
 refine Oq Vm (Oq Vm (Oq (Vi Qd2 0) ?_))
 refine Qbf n.toNat 0 rfl rng fun a22 k23 hb24=>?_
 unfold Qaa at hb24
 refine Fb 8 1 fun _=>?_
 refine Oq (Qar Qaw 0) (Oq Vm ?_)
 refine QaO (Qas (rv13.1.getD n.toNat default) bit) fun rv26 hg27=>?_
 have hc28:=Qtx ((rv13.1.getD n.toNat default)) a22 k23 bit pre pre rv26 hg27
 refine Oc [1] Qtc hc28 ?_
 rintro - -
 refine KS ?_
 refine Kc ?_ ?_
 ·intro h29
  refine KS ?_
  refine Oq Va (Oq Va (Oq Va (KS ?_)))
  refine Jl [] (Ent.slNil (α:=Qaf)) ?_
  have hq:=q4 hrr (([]:List Qaf),false,0) (by simp only [QeG,h9,h29,hg6,hg14,hg27,cs4]); subst hq
  exact Kr (.slice none 0 0) rfl (.tmp rfl (.tmp rfl (.tmp rfl .nil))) [0] en
 intro h29
 refine KS ?_
 refine Oq Vm (Oq Va (Oq Va (Oq Va (KS ?_))))
 have hq:=q4 hrr (rv13.1,true,0) (by simp only [QeG,h9,h29,hg6,hg14,hg27,cs4]); subst hq
 exact Kr (vl a19 k20 rv13.1) rfl (.tmp rfl (.tmp rfl (.tmp rfl .nil))) [2] en
theorem QxA (s:Qab) (sa1:Option Addr) (sk1:Nat) (sa2:Option Addr) (sk2:Nat) (sa3:Option Addr) (sk3:Nat) (n:Int) (bit:Int) (QcL:Qaa s.Width) (Qf1:Qaa n) (QfG:Qaa bit) (rr:Bool) (hrr:Qcg s n bit=rr):FT Tryz.prog 22 #[.agg #[vi s.Width,vl sa1 sk1 s.Deps,vl sa2 sk2 s.Transfers,vl sa3 sk3 s.Boundary],vi n,vi bit] [S sa1 sk1 s.Deps,S sa2 sk2 s.Transfers,S sa3 sk3 s.Boundary] (fun g:Unit=>True) (fun g=>vb rr) (fun g=>[]):=by
 refine FTi Tryz.func22 fun w0 M0 F0=>?_
 unfold Qaa at QcL Qf1 QfG
 refine Fb 24 0 fun _=>Fb 88 1 fun _=>Fb 32 2 fun _=>KS ?_
 refine Oa (Ab [vi s.Width,vl sa1 sk1 s.Deps,vl sa2 sk2 s.Transfers,vl sa3 sk3 s.Boundary]) fun p4=>Oq Va (KS ?_)
 refine Oq (Qar Qeh 0) (Oq Vm (Oq Vm ?_))
 refine QaO (QfO s n bit) fun rv6 hg7=>?_
 have hc8:=QzT s sa1 sk1 sa2 sk2 sa3 sk3 n bit pre pre pre rv6 hg7
 refine Oc [1,2,3] QAl hc8 ?_
 rintro c5 he9
 unfold Qaa at he9
 refine Jo 0 ?_; rintro a10 k11 rfl
 refine Fb 16 0 fun _=>?_
 refine Oq Vm (Oq Vx (Oq Vx (Oq Vx (Oq Va (Oq Va (Oq Va (KS ?_)))))))
 refine Oq (Qar Qeh 1) (Oq Vm (Oq Vm ?_))
 refine QaO (QeR s n bit) fun rv14 hg15=>?_
 have hc16:=QBo s sa1 sk1 sa2 sk2 sa3 sk3 n bit pre pre pre rv14 hg15
 refine Oc [2,3,4] QBS hc16 ?_
 rintro c13 ⟨he17,he18⟩
 unfold Qaa at he17
 refine Jo 0 ?_; rintro a19 k20 rfl
 refine Fb 16 0 fun _=>?_
 refine Oq Vm (Oq Vx (Oq Vx (Oq Vx (Oq Va (Oq Va (Oq Va (KS ?_)))))))
 refine Oq (Qar Qeh 2) (Oq Vm (Oq Vm ?_))
 refine QaO (QfF s n bit) fun rv23 hg24=>?_
 have hc25:=QBV s sa1 sk1 sa2 sk2 sa3 sk3 n bit pre pre pre rv23 hg24
 refine Oc [3,4,5] QAC hc25 ?_
 rintro c22 he26
 unfold Qaa at he26
 refine Jo 0 ?_; rintro a27 k28 rfl
 refine Fb 32 0 fun _=>?_
 refine Oq Vm (Oq Vx (Oq Vx (Oq Vx (Oq Va (Oq Va (Oq Va (KS ?_)))))))
 refine Oq (Qar Qeh 3) (Oq Vm (Oq Vm ?_))
 refine QaO (QeG s n bit) fun rv31 hg32=>?_
 have hc33:=QAY s sa1 sk1 sa2 sk2 sa3 sk3 n bit pre pre pre rv31 hg32
 refine Oc [4,5,6] QCu hc33 ?_
 rintro c30 he34
 unfold Qaa at he34
 refine Jo 0 ?_; rintro a35 k36 rfl
 refine Fb 32 0 fun _=>?_
 refine Oq Vm (Oq Vx (Oq Vx (Oq Vx (Oq Va (Oq Va (Oq Va (KS ?_)))))))
 refine Oq Vm (Oq Vm (Oq Qcb (Oq Vm ?_)))
 refine Js 54 ?_ ?_
 ·intro h38
  have g39:=eq_of_beq h38
  refine Oq Vm (Oq Vm (Oq (Veb un4) (Oq Vpt (Oq Vm ?_))))
  refine Js 59 ?_ ?_
  ·intro h40
   refine Oq Vm (Oq Vm ?_)
   refine QaO (Qda rv6.1 rv14.1) fun rv42 hg43=>?_
   have hc44:=Qz9 rv6.1 a10 k11 rv14.1 a19 k20 rv42 hg43
   refine Oc [3,2] Qz6 hc44 ?_
   rintro - -
   refine Oq Vpt (Oq Vm ?_)
   refine Js 64 ?_ ?_
   ·intro h45
    refine Oq Vm (Oq Vm (Oq Qcb (Oq Vpt (Oq Vm ?_))))
    refine Js 69 ?_ ?_
    ·intro h47
     have g48:=eq_of_beq h47
     refine Oq Vm (Oq Vm (Oq (Veb un4) (Oq Vpt (Oq Vm ?_))))
     refine Js 74 ?_ ?_
     ·intro h49
      refine Oq Vm (Oq Vm ?_)
      refine QaO (Qck rv23.1 rv31.1) fun rv51 hg52=>?_
      have hc53:=Qz4 rv23.1 a27 k28 rv31.1 a35 k36 rv51 hg52
      refine Oc [1,0] QAu hc53 ?_
      rintro - -
      refine Oq Vpt (Oq Va (KS ?_))
      have hq:=q4 hrr rv51 (by simp only [Qcg,h38,h40,h45,h47,h49,hg7,hg15,hg24,hg32,hg43,hg52,cs4]); subst hq
      exact Kr () rfl (.tmp rfl .nil) [] trivial
     intro h49
     refine Osk (Osk (Osk (Oq Vpf (Oq Va (KS ?_)))))
     have hq:=q4 hrr false (by simp only [Qcg,h38,h40,h45,h47,h49,hg7,hg15,hg24,hg32,hg43,cs4]); subst hq
     exact Kr () rfl (.tmp rfl .nil) [] trivial
    intro h47
    have g55:=ne_of_beq_false h47
    refine Osk (Osk (Osk (Oq Vpf (Oq Vm (Osk (Osk (Osk (Oq Vpf (Oq Va ?_)))))))))
    refine KS ?_
    have hq:=q4 hrr false (by simp only [Qcg,h38,h40,h45,h47,hg7,hg15,hg24,hg32,hg43,cs4]); subst hq
    exact Kr () rfl (.tmp rfl .nil) [] trivial
   intro h45
   refine Osk (Osk (Osk (Oq Vpf (Oq Vm (Osk (Osk (Osk (Oq Vpf (Oq Vm ?_)))))))))
   refine Osk (Osk (Osk (Oq Vpf (Oq Va (KS ?_)))))
   have hq:=q4 hrr false (by simp only [Qcg,h38,h40,h45,hg7,hg15,hg24,hg32,hg43,cs4]); subst hq
   exact Kr () rfl (.tmp rfl .nil) [] trivial
  intro h40
  refine Osk (Osk (Osk (Oq Vpf (Oq Vm (Osk (Osk (Osk (Oq Vpf (Oq Vm ?_)))))))))
  refine Osk (Osk (Osk (Oq Vpf (Oq Vm (Osk (Osk (Osk (Oq Vpf (Oq Va ?_)))))))))
  refine KS ?_
  have hq:=q4 hrr false (by simp only [Qcg,h38,h40,hg7,hg15,hg24,hg32,cs4]); subst hq
  exact Kr () rfl (.tmp rfl .nil) [] trivial
 intro h38
 have g58:=ne_of_beq_false h38
 refine Osk (Osk (Osk (Oq Vpf (Oq Vm (Osk (Osk (Osk (Oq Vpf (Oq Vm ?_)))))))))
 refine Osk (Osk (Osk (Oq Vpf (Oq Vm (Osk (Osk (Osk (Oq Vpf (Oq Vm ?_)))))))))
 refine Osk (Osk (Osk (Oq Vpf (Oq Va (KS ?_)))))
 have hq:=q4 hrr false (by simp only [Qcg,h38,hg7,hg15,hg24,hg32,cs4]); subst hq
 exact Kr () rfl (.tmp rfl .nil) [] trivial
theorem QAQ (v:Int) (n:Int) (QqD:Qaa v) (Qf1:Qaa n) (hn1:1<=n) (rr:Int) (hrr:Qq3 v n=rr):FT Tryz.prog 31 #[vi v,vi n] [] (fun g:Unit=>Qaa rr/\(0<=rr/\rr < n)) (fun g=>vi rr) (fun g=>[]):=by
 refine FTi Tryz.func31 fun w0 M0 F0=>?_
 unfold Qaa at QqD Qf1
 have hm:=Qlw v n aM1
 refine KS ?_
 refine Oq Va (KS ?_)
 refine Oq Vm (Oq (VcU un3 Qrp) (Oq Vm (Oq (VcU un3 Qrp) (Oq (QrH (Qth n aM1)) (Oq (VcN Qrp un3 (h:=(QvR v n aM1))) (Oq Va (KS ?_)))))))
 have hq:=q4 hrr (((BitVec.ofInt 64 v) % (BitVec.ofInt 64 n)).toNat:Int) (by simp only [Qq3,cs4]); subst hq
 exact Kr () rfl (.tmp rfl .nil) [] en
theorem fn9 (tP:Value) (ta:Option Addr) (tk:Nat) (tT:List Int) (tI:Int) (n:Int) (htI:0<=tI/\tI<=(tT.length:Int)) (Qf1:Qaa n) (rr:Int×Int) (hrr:Qan tT tI n=rr):FT Tryz.prog 9 #[tP,vi n] [Cl tP [vl ta tk tT,vi tI],S ta tk tT] (fun g:Unit=>Qaa rr.1/\(0<=rr.2/\rr.2<=(tT.length:Int))/\(0<=rr.1/\(rr.1 < n\/rr.1=0))) (fun g=>vi rr.1) (fun g=>[Cl tP [vl ta tk tT,vi rr.2]]):=by
 refine FTi Tryz.func9 fun w0 M0 F0=>?_
 unfold Qaa at Qf1
 refine Fb 8 1 fun _=>Fo 1 fun ho2=>KS ?_
 refine Oq Va (KS ?_)
 refine Jp 0 fun hp3=>?_
 refine Kq [0,1,3,7,15,31,63,7,135,391,903,1927,4095,8191] QcF ?_
 refine Qv [] Vm (Qv [] Qss ?_)
 refine Qa5 (decide (n<=1)) ?_ ?_
 ·intro h4
  have g5:=dt h4
  refine Qb h4 [] Vm (Qs (Qs (Qs (Qs (Qs (Qs (Qs (Qs (Qs ?_)))))))))
  refine Qs (Qv [] Vpt ?_)
  refine Qn ⟨by kernel_rfl,?_⟩
  refine Kt (KS ?_)
  refine Oq Va (KS ?_)
  have hq:=q4 hrr (0,tI) (by simp only [Qan,h4,cs4]); subst hq
  exact Kr () rfl (.tmp rfl .nil) [1] en
 intro h4
 have g6:=df h4
 refine Qb h4 [] Vm (Qv [] Vm (Qv [0] (Vn 0) (Qv [0] (Vfa Qp4 0) (Qv [1] (Qai sh3 0) (Qv [] Vm (Qv [0] (Vn 0) (Qv [0] (Vfa QtB 0) (Qv [1] (Qai Qjs 0) (Qv [] (Qbc QcP) ?_)))))))))
 refine Qv [] Qhv (Qv [] Vpf ?_)
 refine Qn ⟨by kernel_rfl,?_⟩
 refine Kc ?_ ?_
 ·intro h7
  have g8:=dt h7
  refine KS ?_
  refine Oq Va (KS ?_)
  have hq:=q4 hrr (0,tI) (by simp only [Qan,h4,h7,cs4]); subst hq
  exact Kr () rfl (.tmp rfl .nil) [1] en
 intro h7
 have g9:=df h7
 refine KS ?_
 refine Oq Vm (Oq (Vn 1) (Oq (Vfa Qp4 1) (Oq (Qai sh3 1) (Oq QaS (Oq (Vn 1) (Oq (Vfa Qp4 1) (Ost (Qij [1] sh3 [vl ta tk tT,vi (tI+1)]) (KS ?_))))))))
 refine Qam [0,1,3,7,0,16,48,112,240,511,1023,0,4095,8191] QcF ?_
 refine Dv [] Vm (Dv [1] (Vn 0) (Dv [1] (Vfa QtB 0) (Dv [0] (Qai Qjs 0) (Dv [] Vm (Dv [1] (Vn 0) (Dv [1] (Vfa Qp4 0) (Dv [0] (Qai sh3 0) (Dv [] Qjf (Dv [2] (Vi QcP 0) ?_)))))))))
 have hb10:=ok1 (i:=(((tI+1) - 1):Int).toNat) ho2 rng
 refine Dv [2] (QjF sh3 0) (Dv [] Vm ?_)
 refine QaO (Qq3 (tT.getD (((tI+1) - 1):Int).toNat 0) n) fun rv11 hg12=>?_
 refine Dx [] [] [0] (fun G=>vi rv11) [fun G=>SP.fact (Qaa rv11/\(0<=rv11/\rv11 < n))] (fun G=>xC [] QBM (QAQ ((tT.getD (((tI+1) - 1):Int).toNat 0)) n pre pre pre rv11 hg12)) (Dv [] Va ?_)
 refine Dn ⟨by kernel_rfl,fun G=>?_⟩
 refine Jw2 [(4,vi rv11)] [0,1,2] [SP.fact (Qaa rv11/\(0<=rv11/\rv11 < n))] ?_
 refine Jf 3 rfl ?_; rintro ⟨he13,he14⟩
 unfold Qaa at he13
 refine Jk [0,1] ?_
 have hq:=q4 hrr (rv11,(tI+1)) (by simp only [Qan,h4,h7,hg12,cs4]); subst hq
 exact Kr () rfl (.tmp rfl .nil) [0] en
theorem Qy9 (tP:Value) (ta:Option Addr) (tk:Nat) (tT:List Int) (tI:Int) (s:Qaf) (sa1:Option Addr) (sk1:Nat) (htI:0<=tI/\tI<=(tT.length:Int)) (QcL:Qaa s.Width) (hs:Qqd s) (rr:Qaf×Int) (hrr:Qcs tT tI s=rr):FT Tryz.prog 49 #[tP,.agg #[vi s.Width,vl sa1 sk1 s.Words]] [Cl tP [vl ta tk tT,vi tI],S ta tk tT,S sa1 sk1 s.Words] (fun g:Value=>Qaa rr.1.Width/\(0<=rr.2/\rr.2<=(tT.length:Int))) (fun g=>.agg #[vi rr.1.Width,g]) (fun g=>[sl g rr.1.Words,Cl tP [vl ta tk tT,vi rr.2]]):=by
 refine FTi Tryz.func49 fun w0 M0 F0=>?_
 unfold Qaa at QcL
 refine Fb 8 1 fun _=>Fo 1 fun ho2=>Fb 8 2 fun _=>?_
 obtain ⟨hw0,hw1,hw2⟩:=hs
 refine KS ?_
 refine Oa (Ab [vi s.Width,vl sa1 sk1 s.Words]) fun p4=>Oa (Al Qhj [vi 0,.slice none 0 0]) fun p5=>KS ?_
 refine Qam [0,1,0,0,8,28,63,0,255] QcF ?_
 refine Dv [1] (Vfa Qbj 0) (Dv [1] (Qai sh3 0) (Dx [] [] [0] (fun G=>(G.g 2 0)) [fun G=>Cr (G.g 2 0) 0 []] (fun G=>xA (As0 QgP)) (Dv [1] (Vfa Qcv 0) (Dv [1] (Qai Qi4 0) (Dx [4,5] [5] [1,0] (fun G=>(G.g 5 0)) [fun G=>os (G.g 5 0) s.Words] (fun G=>xp [1] rfl (Ent.crNil (α:=BitVec 64) _) (xA (Ap0 [0,0] QgP QgP Quy))) ?_)))))
 refine Dx [6] [] [0] (fun G=>.agg #[vi s.Width,(G.g 5 0)]) [] (fun G=>xV (v:=.agg #[vi s.Width,(G.g 5 0)]) (Vo 0 rfl (Qim _ _) fun aq8 kq9 eq10=>(by rw [eq10]; exact Vbd Qjw [vi s.Width,.slice aq8 ((s.Words:List (BitVec 64)).length) kq9]))) (Dx [] [] [0] (fun G=>(G.g 7 0)) [fun G=>Cl (G.g 7 0) [vi 0,.slice none 0 0]] (fun G=>xA (Al Qhj [vi 0,.slice none 0 0])) (Dx0 [6,7] [7] [1,0] [fun G=>Cl (G.g 7 0) [vi s.Width,(G.g 5 0)]] (fun G=>x1 0 rfl Qcn fun ho12=>(xS (Scl [1] Qaw [vi s.Width,(G.g 5 0)] (v:=.agg #[vi s.Width,(G.g 5 0)]) (h1:=show [vi s.Width,(G.g 5 0)].all (·.oneCell')=true from (by simp only [List.all_cons,List.all_nil,ho12,Bool.and_true,Bool.true_and] <;> rfl))))) ?_))
 refine Dn ⟨by kernel_rfl,fun G=>?_⟩
 refine Jw2 [(0,tP),(4,p5),(5,(G.g 7 0))] [0,1,2,3,4] [os (G.g 5 0) s.Words,Cl (G.g 7 0) [vi s.Width,(G.g 5 0)]] ?_
 generalize G.g 5 0=c7,G.g 7 0=p11
 refine Jo 5 ?_; rintro a13 k14 rfl
 refine KS ?_
 refine Oq Vm ?_
 refine QaO (Qan tT tI 4) fun rv15 hg16=>?_
 have hc17:=fn9 tP ta tk tT tI 4 pre pre rv15 hg16
 refine Oc [2,2] ca9 hc17 ?_
 rintro - ⟨he18,he19,he20⟩
 unfold Qaa at he18
 refine KS ?_
 refine Oq Qcb (Oq Va (KS ?_))
 refine Kc ?_ ?_
 ·intro h21
  have g22:=eq_of_beq h21
  refine Jp 6 fun hp23=>?_
  refine Qam [0,1,0,4,12,31,63,127] QcF ?_
  refine Dv [0] (Vfa Qbj 0) (Dv [7] (Qai sh3 0) (Dv [] Vm ?_))
  refine QaO (Qan tT rv15.2 5) fun rv24 hg25=>Dx [1,4] [1] [2,0,1] (fun G=>vi rv24.1) [fun G=>SP.fact (Qaa rv24.1/\(0<=rv24.2/\rv24.2<=(tT.length:Int))/\(0<=rv24.1/\(rv24.1 < 5\/rv24.1=0))),fun G=>Cl tP [vl ta tk tT,vi rv24.2]] (fun G=>xC [0,0] ca9 (fn9 tP ta tk tT rv15.2 5 pre pre rv24 hg25)) ?_
  refine Dx [8] [] [0] (fun G=>vi (rv24.1 - 2)) [] (fun G=>by refine xf 0 rfl ?_; rintro ⟨he26,he27,he28⟩; unfold Qaa at he26; exact xV (Qjf)) ?_
  refine Dx [8] [] [0] (fun G=>vi (s.Width+(rv24.1 - 2))) [] (fun G=>by refine xf 0 rfl ?_; rintro ⟨he29,he30,he31⟩; unfold Qaa at he29; exact xV (QaS)) (Dv [0] (Vfa Qbj 0) (Dx0 [7] [7] [0] [fun G=>Cl p11 [vi (s.Width+(rv24.1 - 2)),vl a13 k14 s.Words]] (fun G=>xS (Qij [0] sh3 [vi (s.Width+(rv24.1 - 2)),vl a13 k14 s.Words])) ?_))
  refine Dn ⟨by kernel_rfl,fun G=>?_⟩
  refine Jw2 [(4,p5),(5,p11)] [0,2,3,4,5,6] [SP.fact (Qaa rv24.1/\(0<=rv24.2/\rv24.2<=(tT.length:Int))/\(0<=rv24.1/\(rv24.1 < 5\/rv24.1=0))),Cl tP [vl ta tk tT,vi rv24.2],Cl p11 [vi (s.Width+(rv24.1 - 2)),vl a13 k14 s.Words]] ?_
  refine Jf 6 rfl ?_; rintro ⟨he32,he33,he34⟩
  unfold Qaa at he32
  refine Jk [1,1,2,3,4,5,5] ?_
  refine KS ?_
  refine Oq (Qar Qaw 6) (Ost (Scl [0] Qaw [vi (s.Width+(rv24.1 - 2)),vl a13 k14 s.Words]) (KS ?_))
  refine Jl [4] (Ent.freeze _ _) ?_
  have hq:=q4 hrr ((Qaf.mk (s.Width+(rv24.1 - 2)) s.Words),rv24.2) (by simp only [Qcs,h21,hg16,hg25,cs4]); subst hq
  exact Kr (vl a13 k14 s.Words) rfl (.cellN 1 rfl Qaw rfl (Qak _ _) rfl .nil) [0,5] ⟨(by (try dsimp only) <;> first | (unfold Qaa; omega) | exact QiJ (p:=Qaa) (by intro x hx; simp only [List.mem_cons,List.not_mem_nil,or_false] at hx; unfold Qaa; omega) aK1 _),en⟩
 intro h21
 have g35:=ne_of_beq_false h21
 refine KS ?_
 refine Oq Qcb (Oq Va (KS ?_))
 refine Kc ?_ ?_
 ·intro h36
  have g37:=eq_of_beq h36
  refine Jp 6 fun hp38=>?_
  refine Qam [0,1,0,4,12,28,63,127,255] QcF ?_
  refine Dv [0] (Vfa Qcv 0) (Dv [7] (Qai Qi4 0) (Dv [] Vm ?_))
  refine QaO (Qan tT rv15.2 2) fun rv39 hg40=>?_
  refine Dx [1,4] [1] [2,0,1] (fun G=>vi rv39.1) [fun G=>SP.fact (Qaa rv39.1/\(0<=rv39.2/\rv39.2<=(tT.length:Int))/\(0<=rv39.1/\(rv39.1 < 2\/rv39.1=0))),fun G=>Cl tP [vl ta tk tT,vi rv39.2]] (fun G=>xC [0,0] ca9 (fn9 tP ta tk tT rv15.2 2 pre pre rv39 hg40)) (Dv [] (VcU un3 QCd) (Dx [] [] [0] (fun G=>(G.g 5 0)) [fun G=>Cr (G.g 5 0) 1 [u64 (BitVec.ofInt 64 rv39.1)]] (fun G=>xA (AsV QgP Quy [u64 (BitVec.ofInt 64 rv39.1)] [u64 (BitVec.ofInt 64 rv39.1)])) ?_))
  have hn43:=la s.Words ([(BitVec.ofInt 64 rv39.1)]:List (BitVec 64))
  refine Dx [6,8,10] [6,10] [1,0] (fun G=>(G.g 6 0)) [fun G=>os (G.g 6 0) ((s.Words++[(BitVec.ofInt 64 rv39.1)]):List (BitVec 64))] (fun G=>by refine xf 1 rfl ?_; rintro ⟨he44,he45,he46⟩; unfold Qaa at he44; exact xp [2] rfl (Ent.cr1 (α:=BitVec 64) (A:=[]) _ (BitVec.ofInt 64 rv39.1) _ aB1 (fun _=>rfl)) (xA (ApO [1,0] QgP QgP Quy))) (Dv [0] (Vfa Qcv 0) (Dx0 [7,11] [7] [1,0] [fun G=>Cl p11 [vi s.Width,(G.g 6 0)]] (fun G=>x1 1 rfl Qcn fun ho47=>(xS (OpS.frame [0] rfl (OpS.storeClF [(G.g 6 0)] [vi s.Width,(G.g 6 0)] rfl rfl rfl Qi4 (QaF ho47) rfl (by simp only [List.all_cons,List.all_nil,ho47,Bool.and_true,Bool.true_and] <;> rfl) aB1 rfl)))) ?_))
  refine Dn ⟨by kernel_rfl,fun G=>?_⟩
  refine Jw2 [(4,p5),(5,p11)] [0,2,3,4,5] [SP.fact (Qaa rv39.1/\(0<=rv39.2/\rv39.2<=(tT.length:Int))/\(0<=rv39.1/\(rv39.1 < 2\/rv39.1=0))),Cl tP [vl ta tk tT,vi rv39.2],os (G.g 6 0) ((s.Words++[(BitVec.ofInt 64 rv39.1)]):List (BitVec 64)),Cl p11 [vi s.Width,(G.g 6 0)]] ?_
  generalize G.g 6 0=c42
  refine Jf 5 rfl ?_; rintro ⟨he48,he49,he50⟩
  unfold Qaa at he48
  refine Jk [1,1,2,3,5,5,5] ?_
  refine Jo 5 ?_; rintro a51 k52 rfl
  refine Fb 8 5 fun _=>KS ?_
  refine Oq (Qar Qaw 6) (Ost (Scl [0] Qaw [vi s.Width,vl a51 k52 (s.Words++[(BitVec.ofInt 64 rv39.1)])]) (KS ?_))
  refine Jl [5] (Ent.freeze _ _) ?_
  have hq:=q4 hrr ((Qaf.mk s.Width (s.Words++[(BitVec.ofInt 64 rv39.1)])),rv39.2) (by simp only [Qcs,h21,h36,hg16,hg40,cs4]); subst hq
  exact Kr (vl a51 k52 (s.Words++[(BitVec.ofInt 64 rv39.1)])) rfl (.cellN 1 rfl Qaw rfl (Qak _ _) rfl .nil) [0,5] ⟨(by (try dsimp only) <;> first | (unfold Qaa; omega) | exact QiJ (p:=Qaa) (by intro x hx; simp only [List.mem_cons,List.not_mem_nil,or_false] at hx; unfold Qaa; omega) aK1 _),en⟩
 intro h36
 have g54:=ne_of_beq_false h36
 refine KS ?_
 refine Oq Qcb (Oq Va (KS ?_))
 refine Kc ?_ ?_
 ·intro h55
  have g56:=eq_of_beq h55
  refine KS ?_
  refine Oq (Vfa Qcv 6) (Oq (Qai Qi4 6) (Oq (Qbc QgP) (Oq QgZ (KS ?_))))
  refine Kc ?_ ?_
  ·intro h57
   have g58:=dt h57
   refine Jp 6 fun hp59=>?_
   refine Qam [0,1,0,4,12,28,63,127,0,256,768,1792,4095,8191,16383] QcF ?_
   refine Dv [0] (Vfa Qcv 0) (Dv [7] (Qai Qi4 0) (Dv [0] (Vfa Qcv 0) (Dv [7] (Qai Qi4 0) (Dv [] (Qbc QgP) (Dv [] Qjf (Dv [6] (Vi QgP 0) (Dv [6] (Qp3 Qn0 0) (Dv [] Vm ?_))))))))
   refine QaO (Qan tT rv15.2 64) fun rv60 hg61=>?_
   refine Dx [1,4] [1] [2,0,1] (fun G=>vi rv60.1) [fun G=>SP.fact (Qaa rv60.1/\(0<=rv60.2/\rv60.2<=(tT.length:Int))/\(0<=rv60.1/\(rv60.1 < 64\/rv60.1=0))),fun G=>Cl tP [vl ta tk tT,vi rv60.2]] (fun G=>xC [0,0] ca9 (fn9 tP ta tk tT rv15.2 64 pre pre rv60 hg61)) (Dv [] (VcU un3 Qrp) ?_)
   refine Dx [8] [] [0] (fun G=>u64 (1#64 <<< (((BitVec.ofInt 64 rv60.1).toNat:Int)).toNat)) [] (fun G=>by refine xf 0 rfl ?_; rintro ⟨he62,he63,he64⟩; unfold Qaa at he62; exact xV (QqZ (a:=1#64))) (Dv [] Qxy (Dv [6] (Vi QgP 0) (Dx0 [6] [6] [0] [fun G=>os (vl a13 k14 s.Words) (s.Words.set (((s.Words.length:Int) - 1):Int).toNat ((s.Words.getD (((s.Words.length:Int) - 1):Int).toNat 0#64) ||| (1#64 <<< (((BitVec.ofInt 64 rv60.1).toNat:Int)).toNat)))] (fun G=>xS (SoU [0] Qn0)) ?_)))
   refine Dn ⟨by kernel_rfl,fun G=>?_⟩
   refine Jw2 [(4,p5),(5,p11)] [0,2,3,4,5,7] [SP.fact (Qaa rv60.1/\(0<=rv60.2/\rv60.2<=(tT.length:Int))/\(0<=rv60.1/\(rv60.1 < 64\/rv60.1=0))),Cl tP [vl ta tk tT,vi rv60.2],os (vl a13 k14 s.Words) (s.Words.set (((s.Words.length:Int) - 1):Int).toNat ((s.Words.getD (((s.Words.length:Int) - 1):Int).toNat 0#64) ||| (1#64 <<< (((BitVec.ofInt 64 rv60.1).toNat:Int)).toNat)))] ?_
   refine Jf 6 rfl ?_; rintro ⟨he65,he66,he67⟩
   unfold Qaa at he65
   refine Jk [1,1,2,3,4,5,5] ?_
   refine KS ?_
   refine Oq (Qar Qaw 4) (Ost (Scl [0] Qaw [vi s.Width,vl a13 k14 s.Words]) (KS ?_))
   refine Jl [6] (Ent.freeze _ _) ?_
   have hq:=q4 hrr ((Qaf.mk s.Width (s.Words.set (((s.Words.length:Int) - 1):Int).toNat ((s.Words.getD (((s.Words.length:Int) - 1):Int).toNat 0#64) ||| (1#64 <<< (((BitVec.ofInt 64 rv60.1).toNat:Int)).toNat)))),rv60.2) (by simp only [Qcs,h21,h36,h55,h57,hg16,hg61,cs4]); subst hq
   exact Kr (vl a13 k14 s.Words) rfl (.cellN 1 rfl Qaw rfl (Qak _ _) rfl .nil) [0,6] ⟨(by (try dsimp only) <;> first | (unfold Qaa; omega) | exact QiJ (p:=Qaa) (by intro x hx; simp only [List.mem_cons,List.not_mem_nil,or_false] at hx; unfold Qaa; omega) aK1 _),en⟩
  intro h57
  have g68:=df h57
  refine KS ?_
  refine Oq (Qar Qaw 6) (Ost (Scl [1] Qaw [vi s.Width,vl a13 k14 s.Words]) (KS ?_))
  refine Jl [5] (Ent.freeze _ _) ?_
  have hq:=q4 hrr (s,rv15.2) (by simp only [Qcs,h21,h36,h55,h57,hg16,cs4]); subst hq
  exact Kr (vl a13 k14 s.Words) rfl (.cellN 1 rfl Qaw rfl (Qak _ _) rfl .nil) [0,2] ⟨(by (try dsimp only) <;> first | (unfold Qaa; omega) | exact QiJ (p:=Qaa) (by intro x hx; simp only [List.mem_cons,List.not_mem_nil,or_false] at hx; unfold Qaa; omega) aK1 _),en⟩
 intro h55
 have g69:=ne_of_beq_false h55
 refine KS ?_
 refine Oa (AsV QcP QmX [vi (-1),vi 257,vi 320,vi 0] [vi (-1),vi 257,vi 320,vi 0]) fun c70=>?_
 refine Jo 0 ?_; rintro a71 k72 rfl
 refine Oq Vm ?_
 refine QaO (Qan tT rv15.2 4) fun rv73 hg74=>?_
 have hc75:=fn9 tP ta tk tT rv15.2 4 pre pre rv73 hg74
 refine Oc [1,3] ca9 hc75 ?_
 rintro - ⟨he76,he77,he78⟩
 unfold Qaa at he76
 refine Jl [1] (Ent.crInt _ [-1,257,320,0] _ _ rfl rfl (by intro x hx; simp only [List.mem_cons,List.not_mem_nil,or_false] at hx; rcases hx with rfl | rfl | rfl | rfl <;> (unfold Qaa; omega)) aB1) ?_
 refine Oq (Vi QcP 0) (Oq (QjF sh3 0) (Oq (Vfa Qbj 7) (Ost (Qij [7] sh3 [vi ([-1,257,320,0].getD rv73.1.toNat 0),vl a13 k14 s.Words]) (KS ?_))))
 refine Oq (Qar Qaw 0) (Ost (Scl [3] Qaw [vi ([-1,257,320,0].getD rv73.1.toNat 0),vl a13 k14 s.Words]) (KS ?_))
 refine Jl [7] (Ent.freeze _ _) ?_
 have hq:=q4 hrr ((Qaf.mk ([-1,257,320,0].getD rv73.1.toNat 0) s.Words),rv73.2) (by simp only [Qcs,h21,h36,h55,hg16,hg74,cs4]); subst hq
 exact Kr (vl a13 k14 s.Words) rfl (.cellN 1 rfl Qaw rfl (Qak _ _) rfl .nil) [0,4] ⟨(by (try dsimp only) <;> first | (unfold Qaa; omega) | exact QiJ (p:=Qaa) (by intro x hx; simp only [List.mem_cons,List.not_mem_nil,or_false] at hx; unfold Qaa; omega) aK1 _),en⟩
end Go.SL.G
