/- Part 6 of the walks: mirrors, plain laws and walks used by the last text of this claim. -/
import Derived.Test.YtbccjgpbflaibaaGreatW5
import Derived.Test.YtbccjgpbflaibaaGreatProg
set_option linter.unusedVariables false
set_option linter.unusedSimpArgs false
namespace Go.SL.G
open Go Go.SL Go.Proofs
set_option maxHeartbeats 20000000
set_option maxRecDepth 100000
theorem fn3 (t:List Int) (ta0:Option Addr) (tk0:Nat) (s:Qac) (sa1:Option Addr) (sk1:Nat) (sa2:Option Addr) (sk2:Nat) (sa3:Option Addr) (sk3:Nat) (n:Int) (bit:Int) (l:List Qas) (la0:Option Addr) (lk0:Nat) (v:List Qaf) (va0:Option Addr) (vk0:Nat) (Qcc:Qaa s.Width) (Qgv:Qaa n) (Qfj:Qaa bit) (rr:Bool) (hrr:QaN t s n bit l v = rr):FT Tryz.prog 3 #[vl ta0 tk0 t,.agg #[vi s.Width,vl sa1 sk1 s.Deps,vl sa2 sk2 s.Transfers,vl sa3 sk3 s.Boundary],vi n,vi bit,vl la0 lk0 l,vl va0 vk0 v] [S ta0 tk0 t,S sa1 sk1 s.Deps,S sa2 sk2 s.Transfers,S sa3 sk3 s.Boundary,S la0 lk0 l,S va0 vk0 v] (fun g:Unit=>True) (fun g=>vb rr) (fun g=>[]):=by
 refine FTi Tryz.func3 fun w0 M0 F0=>?_
 unfold Qaa at Qcc Qgv Qfj
 refine Fb 8 0 fun _=>Fo 0 fun ho2=>Fb 24 1 fun _=>Fb 88 2 fun _=>Fb 32 3 fun _=>Fb 16 4 fun _=>Fb 32 5 fun _=>?_
 have cdup:∀ (c:Bool) (x y:LR Unit Bool),(bif c then x else bif c then x else y) = bif c then x else y:=fun c x y=>by cases c <;> rfl
 refine KS ?_
 refine Oa (Ab [vi s.Width,vl sa1 sk1 s.Deps,vl sa2 sk2 s.Transfers,vl sa3 sk3 s.Boundary]) fun p8=>Oq Va (KS ?_)
 refine Oq Vm ?_
 refine QaJ (Qsl t) fun rv10 hg11=>?_
 have hc12:=fn7 t ta0 tk0 rv10 hg11
 refine Oc [1] ca7 hc12 ?_
 rintro c9 -
 refine Oq Va (KS ?_)
 refine Oq Va (KS ?_)
 refine Kl (γ:=Nat × Int × Int) (fun (r13,Qmk,Qhc)=>⟨[(2,vi n),(3,vi bit),(4,vl la0 lk0 l),(5,vl va0 vk0 v),(7,p8),(13,c9),(14,vi Qhc)],[Cl c9 [vl ta0 tk0 t,vi Qmk],pv p8 [vi s.Width,vl sa1 sk1 s.Deps,vl sa2 sk2 s.Transfers,vl sa3 sk3 s.Boundary],S ta0 tk0 t,S sa1 sk1 s.Deps,S sa2 sk2 s.Transfers,S sa3 sk3 s.Boundary,S la0 lk0 l,S va0 vk0 v],Qak t r13 Qmk Qhc = Qak t 4 0 0 /\ r13 = ((4:Int) - Qhc).toNat /\ (0:Int) <= Qhc /\ Qhc <= 4 /\ (-9223372036854775808 <= Qmk /\ Qmk <= 9223372036854775807) /\ (0 <= Qmk /\ Qmk <= (t.length:Int)) /\ (-9223372036854775808 <= Qhc /\ Qhc <= 9223372036854775807),r13⟩) (4,0,0) [0,0,1,2,3,4,5,6] ⟨rfl,rfl,aM1,aM1,aM1,aM1,aM1⟩ ?_
 rintro ⟨r13,Qmk,Qhc⟩ ⟨hM16,hr17,hi18,hi19,hk20,ht21,hk22⟩
 refine QaA fun _ _ hL hA=>?_; dsimp only at hL hA; subst hL hA
 refine Fb 8 2 fun _=>Fo 2 fun ho24=>Fb 24 3 fun _=>Fb 88 4 fun _=>Fb 32 5 fun _=>Fb 16 6 fun _=>Fb 32 7 fun _=>KS ?_
 refine Oq Vm (Oq Qbh (KS ?_))
 refine Kc ?_ ?_
 ·intro h30
  have g31:=dt h30
  obtain ⟨r32,rfl⟩:=scc (n:=r13) aM1
  refine KS ?_
  refine Oq Vm ?_
  refine QaJ (Qdl t Qmk 5) fun rv36 hg37=>?_
  have hc38:=fn8 c9 ta0 tk0 t Qmk 5 pre pre pre rv36 hg37
  refine Oc [0,1] ca8 hc38 ?_
  rintro ⟨c33,c34,c35⟩ ⟨he39,he40,he41⟩
  unfold Qaa at he39
  refine Jo 0 ?_; rintro a42 k43 rfl
  refine Fb 24 0 fun _=>?_
  refine Jo 1 ?_; rintro a45 k46 rfl
  refine Fb 88 1 fun _=>?_
  refine Jo 2 ?_; rintro a48 k49 rfl
  refine Fb 32 2 fun _=>?_
  have hds:=Qn1 (by assumption:Qdl t Qmk 5 = rv36) aM1
  obtain ⟨hd1,hd2,hd3⟩:=hds
  have hv1:=hd1.n
  have hv2:=hd1.tl
  have hv3:=hd1.bl
  have hv4:=hd1.w
  have hv5:=hd1.dep_len
  refine Oa (Al QuJ [vi 0,.slice none 0 0,.slice none 0 0,.slice none 0 0]) fun p51=>Ost (Scl [0] Qen [vi rv36.1.Width,vl a42 k43 rv36.1.Deps,vl a45 k46 rv36.1.Transfers,vl a48 k49 rv36.1.Boundary]) (KS ?_)
  refine Jp 0 fun hp52=>?_
  refine Qam [0,0,2,6,15,0,0,64,192,511,1023,2047] Qco ?_
  refine Dv [] Vm (Dv [0] (Vfa QbI 0) (Dv [1] (Qah QgG 0) (Dv [] (Qba Qfr) ?_)))
  refine QaJ (Qan t rv36.2 (rv36.1.Deps.length:Int)) fun rv53 hg54=>?_
  refine Dx [5,7] [5] [2,0,1] (fun G=>vi rv53.1) [fun G=>SP.fact (Qaa rv53.1 /\ (0 <= rv53.2 /\ rv53.2 <= (t.length:Int)) /\ (0 <= rv53.1 /\ (rv53.1 < (rv36.1.Deps.length:Int) \/ rv53.1 = 0))),fun G=>Cl c9 [vl ta0 tk0 t,vi rv53.2]] (fun G=>xC [0,0] ca9 (fn9 c9 ta0 tk0 t rv36.2 ((rv36.1.Deps.length:Int)) pre pre rv53 hg54)) (Dv [] Vm (Dv [0] (Vfa QbR 0) (Dv [1] (Qah sh3 0) (Dv [] QaS ?_))))
  refine QaJ (Qan t rv53.2 (rv36.1.Width + 1)) fun rv55 hg56=>?_
  refine Dx [7,13,14] [14] [2,3,0,1] (fun G=>vi rv55.1) [fun G=>SP.fact (Qaa rv55.1 /\ (0 <= rv55.2 /\ rv55.2 <= (t.length:Int)) /\ (0 <= rv55.1 /\ (rv55.1 < (rv36.1.Width + 1) \/ rv55.1 = 0))),fun G=>Cl c9 [vl ta0 tk0 t,vi rv55.2]] (fun G=>by refine xf 1 rfl ?_; rintro ⟨he57,he58,he59⟩; unfold Qaa at he57; exact xC [2,0] ca9 (fn9 c9 ta0 tk0 t rv53.2 ((rv36.1.Width + 1)) pre pre rv55 hg56)) (Dv [] Va (Dv [] Va ?_))
  refine Dn ⟨by kernel_rfl,fun G=>?_⟩
  refine Jw2 [(2,vi n),(3,vi bit),(4,vl la0 lk0 l),(5,vl va0 vk0 v),(7,p8),(13,c9),(14,vi Qhc),(15,p51),(16,vi rv53.1),(17,vi rv55.1)] [0,1,2,3,4,6,7,8,9,10,11,12] [SP.fact (Qaa rv53.1 /\ (0 <= rv53.2 /\ rv53.2 <= (t.length:Int)) /\ (0 <= rv53.1 /\ (rv53.1 < (rv36.1.Deps.length:Int) \/ rv53.1 = 0))),SP.fact (Qaa rv55.1 /\ (0 <= rv55.2 /\ rv55.2 <= (t.length:Int)) /\ (0 <= rv55.1 /\ (rv55.1 < (rv36.1.Width + 1) \/ rv55.1 = 0))),Cl c9 [vl ta0 tk0 t,vi rv55.2]] ?_
  refine Jf 12 rfl ?_; rintro ⟨he60,he61,he62⟩
  unfold Qaa at he60
  refine Jf 13 rfl ?_; rintro ⟨he63,he64,he65⟩
  unfold Qaa at he63
  refine Jk [1,1,2,3,4,5,6,7,8,9,10,13] ?_
  refine KS ?_
  refine Oq (Qau Qen 0) (Oq Vm (Oq Vm ?_))
  refine QaJ (Qiv rv36.1 rv53.1 rv55.1) fun rv67 hg68=>?_
  have hc69:=QAJ rv36.1 a42 k43 a45 k46 a48 k49 rv53.1 rv55.1 pre pre pre rv67 hg68
  refine Oc [1,2,3] QA5 hc69 ?_
  rintro c66 ⟨he70,he71⟩
  unfold Qaa at he70
  refine Jo 0 ?_; rintro a72 k73 rfl
  refine Fb 16 0 fun _=>?_
  refine Oq Vm (Oq Vx (Oq Vx (Oq Vx (Oq Va (Oq Va (Oq Va (KS ?_)))))))
  refine Oa (As0 QcX) fun c75=>?_
  refine Jo 0 ?_; rintro a76 k77 rfl
  refine Oq Vm ?_
  refine Jl [0] (Ent.crNil (α:=Qas) _) ?_
  refine Oa (Ap0 [0,0] QcX QcX QmR) fun c78=>?_
  refine Jo 0 ?_; rintro a79 k80 rfl
  refine Oq Va ?_
  refine KT ?_
  refine KjC (γ:=Int × List Qas × Option Addr × Nat) (fun (QnG,Qgq,a83,k84)=>⟨[(2,vi n),(3,vi bit),(4,vl la0 lk0 l),(5,vl va0 vk0 v),(7,p8),(13,c9),(14,vi Qhc),(15,p51),(16,vi rv53.1),(17,vi rv55.1),(18,vl a72 k73 rv67.1),(21,vl a83 k84 Qgq)],[O a83 k84 Qgq,S a72 k73 rv67.1,Cl p51 [vi rv36.1.Width,vl a42 k43 rv36.1.Deps,vl a45 k46 rv36.1.Transfers,vl a48 k49 rv36.1.Boundary],S a42 k43 rv36.1.Deps,S a45 k46 rv36.1.Transfers,S a48 k49 rv36.1.Boundary,pv p8 [vi s.Width,vl sa1 sk1 s.Deps,vl sa2 sk2 s.Transfers,vl sa3 sk3 s.Boundary],S ta0 tk0 t,S sa1 sk1 s.Deps,S sa2 sk2 s.Transfers,S sa3 sk3 s.Boundary,S la0 lk0 l,S va0 vk0 v,Cl c9 [vl ta0 tk0 t,vi QnG]],(
              let rv86:=(QcN rv36.1)
              let rv106:=(Qer t QnG rv36.1.Width)
              let rv117:=(QdS (rv86.1.getD rv53.1.toNat default) rv106.1)
              let rv124:=(Qbe rv36.1 rv53.1 rv55.1 rv67.1)
              let rv127:=(Qaq rv36.1 rv53.1 rv55.1 rv67.1)
              bif (!(rv124 == rv127)) then
               .ret false
              else
               let rv133:=(Qbe rv36.1 rv53.1 rv55.1 Qgq)
               let rv136:=(Qaq rv36.1 rv53.1 rv55.1 Qgq)
               bif (!(rv133 == rv136)) then
                .ret false
               else
                let rv143:=(Qat rv36.1 rv53.1 rv55.1 (rv86.1.set rv53.1.toNat rv117))
                let rv146:=(QaQ rv36.1 rv53.1 rv55.1 (rv86.1.set rv53.1.toNat rv117))
                bif (!(rv143 == rv146)) then
                 .ret false
                else
                 let rv153:=(Qdo t rv106.2 rv36.1)
                 let rv160:=(Qat rv36.1 rv53.1 rv55.1 rv153.1)
                 bif rv160 then
                  bif decide (rv36.1.Width <= rv55.1) then
                   .ret false
                  else
                   Qak t r32 rv153.2 (Qhc + 1)
                 else
                  Qak t r32 rv153.2 (Qhc + 1)) = Qak t 4 0 0 /\ (-9223372036854775808 <= QnG /\ QnG <= 9223372036854775807) /\ (0 <= QnG /\ QnG <= (t.length:Int)),0⟩) ?_ ?_
  ·skip
   refine KS ?_
   refine Oq Vm (Oq (Qba QcX) (Oq Qgr (KS ?_)))
   refine Kc ?_ ?_
   ·intro h88
    have g89:=dt h88
    refine KS ?_
    refine Oq Vm (Oq Vm (Oq (Qba QcX) ?_))
    refine QaJ (Qan t rv55.2 (rv67.1.length:Int)) fun rv90 hg91=>?_
    have hc92:=fn9 c9 ta0 tk0 t rv55.2 ((rv67.1.length:Int)) pre pre rv90 hg91
    refine Oc [13,7] ca9 hc92 ?_
    rintro - ⟨he93,he94,he95⟩
    unfold Qaa at he93
    refine Oq Va (KS ?_)
    refine Oq Vm ?_
    refine QaJ (Qan t rv90.2 4) fun rv96 hg97=>?_
    have hc98:=fn9 c9 ta0 tk0 t rv90.2 4 pre pre rv96 hg97
    refine Oc [0,7] ca9 hc98 ?_
    rintro - ⟨he99,he100,he101⟩
    unfold Qaa at he99
    refine KS ?_
    refine Oq QbW (Oq Va (KS ?_))
    refine Kc ?_ ?_
    ·intro h102
     have g103:=eq_of_beq h102
     refine KS ?_
     refine Oq Vm (Oq Vm (Oq Vm ?_))
     refine QaJ (Qan t rv96.2 7) fun rv104 hg105=>?_
     have hc106:=fn9 c9 ta0 tk0 t rv96.2 7 pre pre rv104 hg105
     refine Oc [0,7] ca9 hc106 ?_
     rintro - ⟨he107,he108,he109⟩
     unfold Qaa at he107
     refine Oq QjU (Oq (Vi QcX 1) ?_)
     refine Qhx rv90.1.toNat 1 rfl rng fun hb110 hb111=>?_
     unfold Qaa at hb110 hb111
     refine Oq (Vfa Qc8 0) ?_
     refine Ost (QzB (Rs:=[]) [0] sh3 (Qas.mk (rv104.1 - 1) ((rv67.1.getD rv90.1.toNat default).Bit)) [vi (rv104.1 - 1),vi ((rv67.1.getD rv90.1.toNat default).Bit)] (fun h=>⟨rfl,aL1,aL1⟩)) (KS ?_)
     refine Fl 0 fun hn112=>?_; (try unfold vl); rw [show Value.slice a79 rv67.1.length k80 = Value.slice a79 ((rv67.1.set rv90.1.toNat (Qas.mk (rv104.1 - 1) ((rv67.1.getD rv90.1.toNat default).Bit))).length) k80 from by rw [hn112]]
     exact Kg (rv104.2,(rv67.1.set rv90.1.toNat (Qas.mk (rv104.1 - 1) ((rv67.1.getD rv90.1.toNat default).Bit))),a79,k80) [0,1,2,2,3,4,5,6,7,8,9,10,11,0] ⟨(q3 hM16 (by simp only [Qak,h30,h88,h102,hg37,hg54,hg56,hg68,hg91,hg97,hg105,cs4,cdup])),aM1,aM1⟩
    intro h102
    have g113:=ne_of_beq_false h102
    refine KS ?_
    refine Oq QbW (Oq Va (KS ?_))
    refine Kc ?_ ?_
    ·intro h114
     have g115:=eq_of_beq h114
     refine KS ?_
     refine Oq Vm (Oq Vm (Oq Vm ?_))
     refine QaJ (Qan t rv96.2 6) fun rv116 hg117=>?_
     have hc118:=fn9 c9 ta0 tk0 t rv96.2 6 pre pre rv116 hg117
     refine Oc [0,7] ca9 hc118 ?_
     rintro - ⟨he119,he120,he121⟩
     unfold Qaa at he119
     refine Oq QjU (Oq (Vi QcX 1) ?_)
     refine Qhx rv90.1.toNat 1 rfl rng fun hb122 hb123=>?_
     unfold Qaa at hb122 hb123
     refine Oq (Vfa QfA 0) ?_
     refine Ost (QzB (Rs:=[]) [0] sh3 (Qas.mk ((rv67.1.getD rv90.1.toNat default).Node) (rv116.1 - 1)) [vi ((rv67.1.getD rv90.1.toNat default).Node),vi (rv116.1 - 1)] (fun h=>⟨rfl,aL1,aL1⟩)) (KS ?_)
     refine Fl 0 fun hn124=>?_; (try unfold vl); rw [show Value.slice a79 rv67.1.length k80 = Value.slice a79 ((rv67.1.set rv90.1.toNat (Qas.mk ((rv67.1.getD rv90.1.toNat default).Node) (rv116.1 - 1))).length) k80 from by rw [hn124]]
     exact Kg (rv116.2,(rv67.1.set rv90.1.toNat (Qas.mk ((rv67.1.getD rv90.1.toNat default).Node) (rv116.1 - 1))),a79,k80) [0,1,2,2,3,4,5,6,7,8,9,10,11,0] ⟨(q3 hM16 (by simp only [Qak,h30,h88,h102,h114,hg37,hg54,hg56,hg68,hg91,hg97,hg117,cs4,cdup])),aM1,aM1⟩
    intro h114
    have g125:=ne_of_beq_false h114
    refine KS ?_
    refine Oq QbW (Oq Va (KS ?_))
    refine Kc ?_ ?_
    ·intro h126
     have g127:=eq_of_beq h126
     refine Qam [0,0,3,0,0,16,56,127,255] Qco ?_
     refine Dv [] Vm (Dv [] Vm (Dv [1] (QAm QcX 0 (rv90.1.toNat)) (Dv [] Vm (Dv [] Vm (Dv [] QaS (Dv [1] (QAa QcX 0 (((rv90.1 + 1):Int).toNat)) ?_))))))
     have hn129:=QnT rv67.1 (rv90.1.toNat) rng
     refine Dx [1] [1] [0] (fun G=>(G.g 7 0)) [fun G=>os (G.g 7 0) (rv67.1.eraseIdx (rv90.1.toNat))] (fun G=>xA (QAj [0] QcX QcX (rv90.1.toNat) (((rv90.1 + 1):Int).toNat))) (Dg [] (fun G=>(G.g 7 0)) (fun G=>Va) ?_)
     refine Dn ⟨by kernel_rfl,fun G=>?_⟩
     refine Jw2 [(2,vi n),(3,vi bit),(4,vl la0 lk0 l),(5,vl va0 vk0 v),(7,p8),(13,c9),(14,vi Qhc),(15,p51),(16,vi rv53.1),(17,vi rv55.1),(18,vl a72 k73 rv67.1),(21,(G.g 7 0))] [0,2,3,4,5,6,7,8,9,10,11,12,13] [os (G.g 7 0) (rv67.1.eraseIdx (rv90.1.toNat))] ?_
     generalize G.g 7 0 = c128
     refine Jo 13 ?_; rintro a130 k131 rfl
     refine Fb 16 13 fun _=>KS ?_
     exact Kg (rv96.2,(rv67.1.eraseIdx (rv90.1.toNat)),a130,k131) [13,1,2,2,3,4,5,6,7,8,9,10,11,0] ⟨(q3 hM16 (by simp only [Qak,h30,h88,h102,h114,h126,hg37,hg54,hg56,hg68,hg91,hg97,cs4,cdup])),aM1,aM1⟩
    intro h126
    have g133:=ne_of_beq_false h126
    refine KS ?_
    refine Oq Vm (Oq Vm (Oq (Vi QcX 1) ?_))
    refine Qhx (0:Int).toNat 1 rfl rng fun hb134 hb135=>?_
    unfold Qaa at hb134 hb135
    refine Oq (Qau Qfo 0) (Oa (AsV QcX QmR [.agg #[vi ((rv67.1.getD (0:Int).toNat default).Node),vi ((rv67.1.getD (0:Int).toNat default).Bit)]] [vi ((rv67.1.getD (0:Int).toNat default).Node),vi ((rv67.1.getD (0:Int).toNat default).Bit)]) fun c136=>?_)
    refine Jo 0 ?_; rintro a137 k138 rfl
    refine Jl [1] (Ent.oread _ _ _ _) ?_
    refine Jl [1] (Ent.cr1 (α:=Qas) (A:=[]) _ (rv67.1.getD (0:Int).toNat default) _ aB1 (fun h=>⟨rfl,aL1,aL1⟩)) ?_
    refine Oa (ApO [1,0] QcX QcX QmR) fun c139=>?_
    refine Jo 0 ?_; rintro a140 k141 rfl
    refine Fb 16 0 fun _=>?_
    have hn143:=la rv67.1 ([(rv67.1.getD (0:Int).toNat default)]:List Qas)
    refine Oq Va (KS ?_)
    exact Kg (rv96.2,(rv67.1 ++ [(rv67.1.getD (0:Int).toNat default)]),a140,k141) [0,1,2,2,3,4,5,6,7,8,9,10,11,0] ⟨(q3 hM16 (by simp only [Qak,h30,h88,h102,h114,h126,hg37,hg54,hg56,hg68,hg91,hg97,cs4,cdup])),aM1,aM1⟩
   intro h88
   have g144:=df h88
   refine KS ?_
   exact Kg (rv55.2,rv67.1,a79,k80) [0,0,1,1,2,3,4,5,6,7,8,9,10,11] ⟨(q3 hM16 (by simp only [Qak,h30,h88,hg37,hg54,hg56,hg68,cs4,cdup])),aM1,aM1⟩
  rintro ⟨QnG,Qgq,a83,k84⟩ ⟨hM85,hk86,ht87⟩
  refine QaA fun _ _ hL hA=>?_; dsimp only at hL hA; subst hL hA
  refine Fb 16 0 fun _=>Fb 16 1 fun _=>Fb 24 3 fun _=>Fb 88 4 fun _=>Fb 32 5 fun _=>Fb 8 7 fun _=>Fo 7 fun ho151=>Fb 24 8 fun _=>?_
  refine Fb 88 9 fun _=>Fb 32 10 fun _=>Fb 16 11 fun _=>Fb 32 12 fun _=>KS ?_
  refine Oq (Qau Qen 2) ?_
  refine QaJ (QcN rv36.1) fun rv158 hg159=>?_
  have hc160:=QBe rv36.1 a42 k43 a45 k46 a48 k49 pre rv158 hg159
  refine Oc [3,4,5] Qz5 hc160 ?_
  rintro c157 ⟨he161,he162,he163⟩
  unfold Qaa at he161 he162
  refine Jo 0 ?_; rintro a164 k165 rfl
  refine Fb 32 0 fun _=>?_
  have hsl:=Qp8 (by assumption:QcN rv36.1 = rv158) hd1
  refine Oq Vm (Oq Vx (Oq Vx (Oq Vx (Oq Va (Oq Va (Oq Va (KS ?_)))))))
  refine Oa (As0 Qc6) fun c167=>?_
  refine Jo 0 ?_; rintro a168 k169 rfl
  refine Oq Vm ?_
  refine Jl [0] (Ent.crNil (α:=Qaf) _) ?_
  refine Oa (Ap0 [0,0] Qc6 Qc6 Ql4) fun c170=>?_
  refine Jo 0 ?_; rintro a171 k172 rfl
  refine Oq Va (KS ?_)
  refine Qjv rv53.1.toNat 0 rfl rng fun a173 k174 hb175=>?_
  unfold Qaa at hb175
  refine Fb 8 1 fun _=>?_
  refine Jp 5 fun hp177=>?_
  refine Qam [0,0,0,0,12,28,0,0,128,448,1020,2047,4095] Qco ?_
  refine Dv [] Vm (Dv [] Vm (Dv [] Vm (Dv [] Vm (Dv [1] (Vi Qc6 0) (Dv [1] (Qau Qax 0) (Dv [] Vm (Dv [0] (Vfa QbR 0) (Dv [6] (Qah sh3 0) ?_))))))))
  refine QaJ (Qer t QnG rv36.1.Width) fun rv179 hg180=>Dx [11,17] [17] [3,0,1,1] (fun G=>.agg #[vi rv179.1.Width,(G.g 9 0)]) [fun G=>SP.fact (Qaa rv179.1.Width /\ (0 <= rv179.2 /\ rv179.2 <= (t.length:Int)) /\ (rv179.1.Width = rv36.1.Width) /\ (rv179.1.Words.length = (((rv36.1.Width:Int) + 63) / 64).toNat)),fun G=>os (G.g 9 0) rv179.1.Words,fun G=>Cl c9 [vl ta0 tk0 t,vi rv179.2]] (fun G=>xC [1,0] Qwh (Qwq c9 ta0 tk0 t QnG rv36.1.Width pre pre pre rv179 hg180)) ?_
  refine QaJ (QdS (rv158.1.getD rv53.1.toNat default) rv179.1) fun rv185 hg186=>?_
  refine Dx [2,18,19] [19] [3,4,2,0,1] (fun G=>.agg #[vi rv185.Width,(G.g 10 0)]) [fun G=>sl (G.g 9 0) rv179.1.Words,fun G=>SP.fact (Qaa rv185.Width),fun G=>sl (G.g 10 0) rv185.Words] (fun G=>by refine xf 1 rfl ?_; rintro ⟨he187,he188,he189,he190⟩; unfold Qaa at he187; exact xp [2] rfl (Ent.freeze _ _) (xD [0,1] QzF rfl rfl rfl (Qh1 (γ:=Value) (I:=fun g=>Qaa rv185.Width) (V:=fun g=>.agg #[vi rv185.Width,g]) (B:=fun g=>[sl g rv185.Words]) (R:=sl (G.g 9 0) rv179.1.Words) QgC (fun aq181 kq182 eq183=>by rw [eq183]; exact Qd3 (Ent.take (is:=[1,0]) rfl) (Qzq ((rv158.1.getD rv53.1.toNat default)) a173 k174 rv179.1 aq181 kq182 pre pre rv185 hg186))))) (Dv [1] (Vi Qc6 0) ?_)
  refine Dx0 [1,22,23] [1] [2,1,0] [fun G=>os (vl a171 k172 rv158.1) (rv158.1.set rv53.1.toNat rv185)] (fun G=>by refine xf 1 rfl ?_; rintro he191; unfold Qaa at he191; exact xp [0] rfl (Ent.oread _ _ _ _) (xS (So (Rs:=[sl (G.g 10 0) rv185.Words]) [0,1] Qax rv185 (fun h=>⟨_,rfl,aL1,Qaj (i:=0) rfl h⟩)))) ?_
  refine Dn ⟨by kernel_rfl,fun G=>?_⟩
  refine Jw2 [(2,vi n),(3,vi bit),(4,vl la0 lk0 l),(5,vl va0 vk0 v),(7,p8),(13,c9),(14,vi Qhc),(15,p51),(16,vi rv53.1),(17,vi rv55.1),(18,vl a72 k73 rv67.1),(21,vl a83 k84 Qgq),(26,vl a171 k172 rv158.1)] [0,2,3,4,5,6,7,8,9,10,11,12,13,14,15,16] [SP.fact (Qaa rv179.1.Width /\ (0 <= rv179.2 /\ rv179.2 <= (t.length:Int)) /\ (rv179.1.Width = rv36.1.Width) /\ (rv179.1.Words.length = (((rv36.1.Width:Int) + 63) / 64).toNat)),Cl c9 [vl ta0 tk0 t,vi rv179.2],sl (G.g 9 0) rv179.1.Words,SP.fact (Qaa rv185.Width),sl (G.g 10 0) rv185.Words,os (vl a171 k172 rv158.1) (rv158.1.set rv53.1.toNat rv185)] ?_
  generalize G.g 9 0 = c178,G.g 10 0 = c184
  refine Jf 16 rfl ?_; rintro ⟨he192,he193,he194,he195⟩
  unfold Qaa at he192
  refine Jf 19 rfl ?_; rintro he196
  unfold Qaa at he196
  refine Jk [1,2,3,3,4,4,5,6,7,8,9,10,11,12,13,15,15,17,18] ?_
  refine Jo 16 ?_; rintro a197 k198 rfl
  refine Fb 8 16 fun _=>?_
  refine Jo 17 ?_; rintro a200 k201 rfl
  refine Fb 8 17 fun _=>KS ?_
  refine Fl 18 fun hn203=>?_; (try unfold vl); rw [show Value.slice a171 rv158.1.length k172 = Value.slice a171 ((rv158.1.set rv53.1.toNat rv185).length) k172 from by rw [hn203]]
  refine Jp 4 fun hp204=>?_
  refine Qam [0,0,0,0,15,0,0,0,0,511,1023,2047,4095,4095,4095,4095,65535,4095,4095,4095,4095,2097151,4194303,8388607,16777215,33554431,33554431,33554431,33554431,536870911,33554431,33554431,33554431,33554431,17179869183,34359738367,68719476735,137438953471,274877906943,274877906943,274877906943,274877906943,274877906943,6871947673599,17592186044415,35184372088831,70368744177663,70368744177663,211106232532991,562949953421311,1125899906842623,2251799813685247] Qco ?_
  refine Dv [5] (Qau Qen 0) (Dv [] Vm (Dv [] Vm (Dv [] Vm ?_)))
  refine QaJ (Qbe rv36.1 rv53.1 rv55.1 rv67.1) fun rv205 hg206=>?_
  refine Dx [4,6,7,8] [] [1,2,3,4,0] (fun G=>vb rv205) [fun G=>SP.fact (True)] (fun G=>xC [1,2,3,0] QwC (QwL rv36.1 a42 k43 a45 k46 a48 k49 rv53.1 rv55.1 rv67.1 a72 k73 pre pre pre rv205 hg206)) (Dv [5] (Qau Qen 0) (Dv [] Vm (Dv [] Vm (Dv [] Vm ?_))))
  refine QaJ (Qaq rv36.1 rv53.1 rv55.1 rv67.1) fun rv207 hg208=>?_
  refine Dx [4,6,7,8] [] [1,2,3,4,0] (fun G=>vb rv207) [fun G=>SP.fact (True)] (fun G=>xC [1,2,3,0] QyJ (QxC rv36.1 a42 k43 a45 k46 a48 k49 rv53.1 rv55.1 rv67.1 a72 k73 pre pre pre rv207 hg208)) (Dv [] (Vnb un4) ?_)
  refine QaE (!(rv205 == rv207)) ?_ ?_
  ·intro h209
   refine Db h209 [] Vm (Ds (Ds (Ds (Ds (Ds (Ds (Ds (Ds (Ds ?_)))))))))
   refine Ds (Ds (Dv [] Vpt (Dv [] Vm (Ds (Ds (Ds (Ds (Ds (Ds ?_)))))))))
   refine Ds (Ds (Ds (Ds (Ds (Dv [] Vpt (Dv [] Vm (Ds (Ds (Ds ?_)))))))))
   refine Ds (Ds (Ds (Ds (Ds (Ds (Ds (Ds (Ds (Ds ?_)))))))))
   refine Dv [] Vpt ?_
   refine Dn ⟨by kernel_rfl,fun G=>?_⟩
   refine Jw2 [(2,vi n),(3,vi bit),(4,vl la0 lk0 l),(5,vl va0 vk0 v),(7,p8),(13,c9),(14,vi Qhc),(171,vb true)] [0,1,2,3,4,5,6,7,8,9,10,11,12,13,14,15,16,17,18,19] [SP.fact (True),SP.fact (True)] ?_
   refine Jk [1,2,3,3,4,4,5,6,7,8,9,10,11,12,13,14,14,15,16] (Kt ?_)
   refine KS ?_
   refine Oq Va (KS ?_)
   have hR211:=q2 hM85 (.ret false) (by simp only [h209,hg159,hg180,hg186,hg206,hg208,cs4])
   have hq:=q4 hrr false (by unfold QaN; simp only [h30,h209,hg11,hg37,hg54,hg56,hg68,hg159,hg180,hg186,hg206,hg208,hR211,cs4]); subst hq
   exact Kr () rfl (.tmp rfl .nil) [] trivial
  intro h209
  refine Db h209 [] Vm (Dv [5] (Qau Qen 0) (Dv [] Vm (Dv [] Vm (Dv [] Vm ?_))))
  refine QaJ (Qbe rv36.1 rv53.1 rv55.1 Qgq) fun rv213 hg214=>?_
  refine Dx [3,6,7,8] [3] [2,3,4,1,0] (fun G=>vb rv213) [fun G=>S a83 k84 Qgq,fun G=>SP.fact (True)] (fun G=>xp [0] rfl (Ent.freeze _ _) (xC [1,2,3,0] QwC (QwL rv36.1 a42 k43 a45 k46 a48 k49 rv53.1 rv55.1 Qgq a83 k84 pre pre pre rv213 hg214))) (Dv [5] (Qau Qen 0) (Dv [] Vm (Dv [] Vm (Dv [] Vm ?_))))
  refine QaJ (Qaq rv36.1 rv53.1 rv55.1 Qgq) fun rv215 hg216=>?_
  refine Dx [6,7,8,22] [] [1,2,3,4,0] (fun G=>vb rv215) [fun G=>SP.fact (True)] (fun G=>xC [0,1,2,3] QyJ (QxC rv36.1 a42 k43 a45 k46 a48 k49 rv53.1 rv55.1 Qgq a83 k84 pre pre pre rv215 hg216)) (Dv [] (Vnb un4) (Dv [] Vpf ?_))
  refine QaE (!(rv213 == rv215)) ?_ ?_
  ·intro h217
   refine Db h217 [] Vm (Ds (Ds (Ds (Ds (Ds (Ds (Ds (Ds (Ds ?_)))))))))
   refine Ds (Ds (Dv [] Vpt (Dv [] Vm (Ds (Ds (Ds (Ds (Ds (Ds ?_)))))))))
   refine Ds (Ds (Ds (Ds (Ds (Ds (Ds (Dv [] Vpt ?_)))))))
   refine Dn ⟨by kernel_rfl,fun G=>?_⟩
   refine Jw2 [(2,vi n),(3,vi bit),(4,vl la0 lk0 l),(5,vl va0 vk0 v),(7,p8),(13,c9),(14,vi Qhc),(171,vb true)] [0,1,2,4,5,6,7,8,9,10,11,12,13,14,15,16,17,18,19] [SP.fact (True),SP.fact (True),S a83 k84 Qgq,SP.fact (True),SP.fact (True)] ?_
   refine Jk [1,2,3,4,4,5,6,7,8,9,10,11,12,13,14,14,15,16,18] (Kt ?_)
   refine KS ?_
   refine Oq Va (KS ?_)
   have hR219:=q2 hM85 (.ret false) (by simp only [h209,h217,hg159,hg180,hg186,hg206,hg208,hg214,hg216,cs4])
   have hq:=q4 hrr false (by unfold QaN; simp only [h30,h209,h217,hg11,hg37,hg54,hg56,hg68,hg159,hg180,hg186,hg206,hg208,hg214,hg216,hR219,cs4]); subst hq
   exact Kr () rfl (.tmp rfl .nil) [] trivial
  intro h217
  refine Db h217 [] Vm (Dv [5] (Qau Qen 0) (Dv [] Vm (Dv [] Vm (Dv [] Vm ?_))))
  refine QaJ (Qat rv36.1 rv53.1 rv55.1 (rv158.1.set rv53.1.toNat rv185)) fun rv221 hg222=>?_
  refine Dx [6,7,8,19] [19] [2,3,4,1,0] (fun G=>vb rv221) [fun G=>S a171 k172 (rv158.1.set rv53.1.toNat rv185),fun G=>SP.fact (True)] (fun G=>xp [3] rfl (Ent.freeze _ _) (xC [1,2,3,0] QwX (QxQ rv36.1 a42 k43 a45 k46 a48 k49 rv53.1 rv55.1 ((rv158.1.set rv53.1.toNat rv185)) a171 k172 pre pre pre rv221 hg222))) (Dv [5] (Qau Qen 0) (Dv [] Vm (Dv [] Vm (Dv [] Vm ?_))))
  refine QaJ (QaQ rv36.1 rv53.1 rv55.1 (rv158.1.set rv53.1.toNat rv185)) fun rv223 hg224=>?_
  refine Dx [6,7,8,25] [] [1,2,3,4,0] (fun G=>vb rv223) [fun G=>SP.fact (True)] (fun G=>xC [0,1,2,3] Qzh (Qzi rv36.1 a42 k43 a45 k46 a48 k49 rv53.1 rv55.1 ((rv158.1.set rv53.1.toNat rv185)) a171 k172 pre pre pre rv223 hg224)) (Dv [] (Vnb un4) (Dv [] Vpf ?_))
  refine QaE (!(rv221 == rv223)) ?_ ?_
  ·intro h225
   refine Db h225 [] Vm (Ds (Ds (Ds (Ds (Ds (Ds (Ds (Ds (Ds ?_)))))))))
   refine Ds (Ds (Ds (Ds (Dv [] Vpt ?_))))
   refine Dn ⟨by kernel_rfl,fun G=>?_⟩
   refine Jw2 [(2,vi n),(3,vi bit),(4,vl la0 lk0 l),(5,vl va0 vk0 v),(7,p8),(13,c9),(14,vi Qhc),(171,vb true)] [0,1,2,4,5,6,7,8,9,10,11,12,13,14,15,16,17,18] [SP.fact (True),SP.fact (True),S a83 k84 Qgq,SP.fact (True),SP.fact (True),S a171 k172 (rv158.1.set rv53.1.toNat rv185),SP.fact (True),SP.fact (True)] ?_
   refine Jk [1,2,3,4,4,5,6,7,8,9,10,11,12,13,14,14,15,18,21] (Kt ?_)
   refine KS ?_
   refine Oq Va (KS ?_)
   have hR227:=q2 hM85 (.ret false) (by simp only [h209,h217,h225,hg159,hg180,hg186,hg206,hg208,hg214,hg216,hg222,hg224,cs4])
   have hq:=q4 hrr false (by unfold QaN; simp only [h30,h209,h217,h225,hg11,hg37,hg54,hg56,hg68,hg159,hg180,hg186,hg206,hg208,hg214,hg216,hg222,hg224,hR227,cs4]); subst hq
   exact Kr () rfl (.tmp rfl .nil) [] trivial
  intro h225
  refine Db h225 [] Vm (Dv [5] (Qau Qen 0) (Dv [] Vm (Dv [] Vm (Dv [] Vm (Dv [5] (Qau Qen 0) ?_)))))
  refine QaJ (Qdo t rv179.2 rv36.1) fun rv230 hg231=>Dx [6,7,8,10,16] [16] [3,4,5,6,0,1,2] (fun G=>(G.g 43 0)) [fun G=>SP.fact ((0 <= rv230.2 /\ rv230.2 <= (t.length:Int))),fun G=>sl (G.g 43 0) rv230.1,fun G=>Cl c9 [vl ta0 tk0 t,vi rv230.2]] (fun G=>xC [4,3,0,1,2] QBn (QAe c9 ta0 tk0 t rv179.2 rv36.1 a42 k43 a45 k46 a48 k49 pre pre hd1 rv230 hg231)) ?_
  refine QaJ (Qat rv36.1 rv53.1 rv55.1 rv230.1) fun rv235 hg236=>?_
  refine Dx [6,7,8,28,29] [] [1,2,3,4,5,0] (fun G=>vb rv235) [fun G=>SP.fact (True)] (fun G=>by refine xf 3 rfl ?_; rintro he237; exact xD [4,0,1,2] QwX rfl rfl rfl (Qh1 (γ:=Unit) (I:=fun g=>True) (V:=fun g=>vb rv235) (B:=fun g=>[]) (R:=sl (G.g 43 0) rv230.1) QgC (fun aq232 kq233 eq234=>by rw [eq234]; exact Qd3 (Ent.take (is:=[1,2,3,0]) rfl) (QxQ rv36.1 a42 k43 a45 k46 a48 k49 rv53.1 rv55.1 rv230.1 aq232 kq233 pre pre pre rv235 hg236)))) ?_
  refine QaE rv235 ?_ ?_
  ·intro h238
   refine Db h238 [] Vm (Dv [] Vm (Dv [0] (Vfa QbR 0) (Dv [5] (Qah sh3 0) (Dv [] Qg8 (Dv [] Vpt (Dv [] Vpf ?_))))))
   refine Dn ⟨by kernel_rfl,fun G=>?_⟩
   refine Jw2 [(2,vi n),(3,vi bit),(4,vl la0 lk0 l),(5,vl va0 vk0 v),(7,p8),(13,c9),(14,vi Qhc),(171,vb (decide (rv36.1.Width <= rv55.1)))] [0,1,2,4,5,6,7,8,9,10,11,12,13,14,15,17,18] [SP.fact (True),SP.fact (True),S a83 k84 Qgq,SP.fact (True),SP.fact (True),S a171 k172 (rv158.1.set rv53.1.toNat rv185),SP.fact (True),SP.fact (True),SP.fact ((0 <= rv230.2 /\ rv230.2 <= (t.length:Int))),sl (G.g 43 0) rv230.1,Cl c9 [vl ta0 tk0 t,vi rv230.2],SP.fact (True)] ?_
   generalize G.g 43 0 = c229
   refine Jf 25 rfl ?_; rintro he240
   refine Jk [1,2,3,4,4,5,6,7,8,9,10,11,12,13,14,15,18,21,25,26] ?_
   refine Jo 18 ?_; rintro a241 k242 rfl
   refine Fb 32 18 fun _=>?_
   refine Kc ?_ ?_
   ·intro h244
    have g245:=dt h244
    refine KS ?_
    refine Oq Va (KS ?_)
    have hR246:=q2 hM85 (.ret false) (by simp only [h209,h217,h225,h238,h244,hg159,hg180,hg186,hg206,hg208,hg214,hg216,hg222,hg224,hg231,hg236,cs4])
    have hq:=q4 hrr false (by unfold QaN; simp only [h30,h209,h217,h225,h238,h244,hg11,hg37,hg54,hg56,hg68,hg159,hg180,hg186,hg206,hg208,hg214,hg216,hg222,hg224,hg231,hg236,hR246,cs4]); subst hq
    exact Kr () rfl (.tmp rfl .nil) [] trivial
   intro h244
   have g247:=df h244
   refine KS ?_
   refine Oq Vm (Oq QaS (Oq Va (KS ?_)))
   exact Kg (r32,rv230.2,(Qhc + 1)) [19,7,8,9,10,11,12,13] ⟨(q3 hM85 (by simp only [h209,h217,h225,h238,h244,hg159,hg180,hg186,hg206,hg208,hg214,hg216,hg222,hg224,hg231,hg236,cs4])),aM1,aM1,aM1,aM1,aM1,aM1⟩
  intro h238
  refine Db h238 [] Vm (Ds (Ds (Ds (Ds (Dv [] Vpf (Dv [] Vpf ?_))))))
  refine Dn ⟨by kernel_rfl,fun G=>?_⟩
  refine Jw2 [(2,vi n),(3,vi bit),(4,vl la0 lk0 l),(5,vl va0 vk0 v),(7,p8),(13,c9),(14,vi Qhc),(171,vb false)] [0,1,2,4,5,6,7,8,9,10,11,12,13,14,15,17,18] [SP.fact (True),SP.fact (True),S a83 k84 Qgq,SP.fact (True),SP.fact (True),S a171 k172 (rv158.1.set rv53.1.toNat rv185),SP.fact (True),SP.fact (True),SP.fact ((0 <= rv230.2 /\ rv230.2 <= (t.length:Int))),sl (G.g 43 0) rv230.1,Cl c9 [vl ta0 tk0 t,vi rv230.2],SP.fact (True)] ?_
  generalize G.g 43 0 = c229
  refine Jf 25 rfl ?_; rintro he249
  refine Jk [1,2,3,4,4,5,6,7,8,9,10,11,12,13,14,15,18,21,25,26] ?_
  refine Jo 18 ?_; rintro a250 k251 rfl
  refine Fb 32 18 fun _=>?_
  refine Kf (KS ?_)
  refine Oq Vm (Oq QaS (Oq Va (KS ?_)))
  exact Kg (r32,rv230.2,(Qhc + 1)) [19,7,8,9,10,11,12,13] ⟨(q3 hM85 (by simp only [h209,h217,h225,h238,hg159,hg180,hg186,hg206,hg208,hg214,hg216,hg222,hg224,hg231,hg236,cs4])),aM1,aM1,aM1,aM1,aM1,aM1⟩
 intro h30
 have g253:=df h30
 obtain rfl:r13 = 0:=by omega
 refine Ke ?_
 have hR254:=q2 hM16 (.brk ()) (by simp only [Qak,h30,cs4])
 refine KS ?_
 refine Oq (Qau Qen 1) ?_
 refine QaJ (QiM s) fun rv255 hg256=>?_
 have hc257:=QBd s sa1 sk1 sa2 sk2 sa3 sk3 pre rv255 hg256
 refine Oc [3,4,5] QBa hc257 ?_
 rintro - -
 refine Oq Vm ?_
 refine Js 174 ?_ ?_
 ·intro h258
  refine Osk (Osk (Osk (Oq Vpt (Oq Vm (Osk (Osk (Osk (Oq Vpt (KS ?_)))))))))
  refine Kt (KS ?_)
  have hc260:=QwB  Qdg rfl
  refine Oc [] QwG hc260 ?_
  rintro - -
  refine Oq Va (KS ?_)
  have hq:=q4 hrr Qdg (by unfold QaN; simp only [h30,h258,hg11,hR254,hg256,cs4]); subst hq
  exact Kr () rfl (.tmp rfl .nil) [] trivial
 intro h258
 refine Oq Vm (Oq (Qba QcX) (Oq Qgr (Oq Vpf (Oq Vm ?_))))
 refine Js 179 ?_ ?_
 ·intro h262
  have g263:=dt h262
  refine Osk (Osk (Osk (Oq Vpt (KS ?_))))
  refine Kt (KS ?_)
  have hc264:=QwB  Qdg rfl
  refine Oc [] QwG hc264 ?_
  rintro - -
  refine Oq Va (KS ?_)
  have hq:=q4 hrr Qdg (by unfold QaN; simp only [h30,h258,h262,hg11,hR254,hg256,cs4]); subst hq
  exact Kr () rfl (.tmp rfl .nil) [] trivial
 intro h262
 have g265:=df h262
 refine Oq Vm (Oq (Qba Qc6) (Oq Qgr (Oq Vpf (KS ?_))))
 refine Kc ?_ ?_
 ·intro h266
  have g267:=dt h266
  refine KS ?_
  have hc268:=QwB  Qdg rfl
  refine Oc [] QwG hc268 ?_
  rintro - -
  refine Oq Va (KS ?_)
  have hq:=q4 hrr Qdg (by unfold QaN; simp only [h30,h258,h262,h266,hg11,hR254,hg256,cs4]); subst hq
  exact Kr () rfl (.tmp rfl .nil) [] trivial
 intro h266
 have g269:=df h266
 refine KS ?_
 refine Qam [0,0,0,0,15,0,0,0,0,511,1023,2047,4095,4095,4095,4095,65535,4095,4095,4095,4095,2097151,4194303,8388607,16777215,33554431,67108863,134217727] Qco ?_
 refine Dv [1] (Qau Qen 0) (Dv [] Vm (Dv [] Vm (Dv [] Vm ?_)))
 refine QaJ (Qbe s n bit l) fun rv270 hg271=>?_
 refine Dx [3,4,5,6] [] [1,2,3,4,0] (fun G=>vb rv270) [fun G=>SP.fact (True)] (fun G=>xC [0,1,2,3] QwC (QwL s sa1 sk1 sa2 sk2 sa3 sk3 n bit l la0 lk0 pre pre pre rv270 hg271)) (Dv [1] (Qau Qen 0) (Dv [] Vm (Dv [] Vm (Dv [] Vm ?_))))
 refine QaJ (Qaq s n bit l) fun rv272 hg273=>?_
 refine Dx [3,4,5,6] [] [1,2,3,4,0] (fun G=>vb rv272) [fun G=>SP.fact (True)] (fun G=>xC [0,1,2,3] QyJ (QxC s sa1 sk1 sa2 sk2 sa3 sk3 n bit l la0 lk0 pre pre pre rv272 hg273)) (Dv [] (Veb un4) ?_)
 refine QaE (rv270 == rv272) ?_ ?_
 ·intro h274
  refine Db h274 [] Vm (Dv [1] (Qau Qen 0) (Dv [] Vm (Dv [] Vm (Dv [] Vm ?_))))
  refine QaJ (Qat s n bit v) fun rv276 hg277=>?_
  refine Dx [3,4,5,7] [] [1,2,3,4,0] (fun G=>vb rv276) [fun G=>SP.fact (True)] (fun G=>xC [0,1,2,3] QwX (QxQ s sa1 sk1 sa2 sk2 sa3 sk3 n bit v va0 vk0 pre pre pre rv276 hg277)) (Dv [1] (Qau Qen 0) (Dv [] Vm (Dv [] Vm (Dv [] Vm ?_))))
  refine QaJ (QaQ s n bit v) fun rv278 hg279=>?_
  refine Dx [3,4,5,7] [] [1,2,3,4,0] (fun G=>vb rv278) [fun G=>SP.fact (True)] (fun G=>xC [0,1,2,3] Qzh (Qzi s sa1 sk1 sa2 sk2 sa3 sk3 n bit v va0 vk0 pre pre pre rv278 hg279)) (Dv [] (Veb un4) (Dv [] Vpt ?_))
  refine QaE (rv276 == rv278) ?_ ?_
  ·intro h280
   refine Db h280 [] Vm (Dx [] [] [0] (fun G=>vb Qdg) [fun G=>SP.fact (True)] (fun G=>xC [] QwG (QwB  Qdg rfl)) (Dv [] Vpt (Dv [] Va ?_)))
   refine Dn ⟨by kernel_rfl,fun G=>?_⟩
   refine Jw2 [(12,vb Qdg)] [0,1,2,3,4,5,6,7] [SP.fact (True),SP.fact (True),SP.fact (True),SP.fact (True),SP.fact (True)] ?_
   refine Jk [0,0,1,2,3,4,5,6] ?_
   have hq:=q4 hrr Qdg (by unfold QaN; simp only [h30,h258,h262,h266,h274,h280,hg11,hR254,hg256,hg271,hg273,hg277,hg279,cs4]); subst hq
   exact Kr () rfl (.tmp rfl .nil) [] trivial
  intro h280
  refine Db h280 [] Vm (Ds (Dv [] Vpf (Dv [] Va ?_)))
  refine Dn ⟨by kernel_rfl,fun G=>?_⟩
  refine Jw2 [(12,vb false)] [0,1,2,3,4,5,6,7] [SP.fact (True),SP.fact (True),SP.fact (True),SP.fact (True)] ?_
  refine Jk [0,0,1,2,3,4,5,6] ?_
  have hq:=q4 hrr false (by unfold QaN; simp only [h30,h258,h262,h266,h274,h280,hg11,hR254,hg256,hg271,hg273,hg277,hg279,cs4]); subst hq
  exact Kr () rfl (.tmp rfl .nil) [] trivial
 intro h274
 refine Db h274 [] Vm (Ds (Ds (Ds (Ds (Ds (Ds (Ds (Ds (Ds ?_)))))))))
 refine Ds (Ds (Dv [] Vpf (Dv [] Vm (Ds (Dv [] Vpf (Dv [] Va ?_))))))
 refine Dn ⟨by kernel_rfl,fun G=>?_⟩
 refine Jw2 [(12,vb false)] [0,1,2,3,4,5,6,7] [SP.fact (True),SP.fact (True)] ?_
 refine Jk [0,0,1,2,3,4,5,6] ?_
 have hq:=q4 hrr false (by unfold QaN; simp only [h30,h258,h262,h266,h274,hg11,hR254,hg256,hg271,hg273,cs4]); subst hq
 exact Kr () rfl (.tmp rfl .nil) [] trivial
end Go.SL.G
