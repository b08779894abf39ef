/- Part 4 of the walks: mirrors, plain laws and walks used by the last text of this claim. -/
import Derived.Test.YtbccjgpbflaibaaGreatW3
import Derived.Test.YtbccjgpbflaibaaGreatProg
set_option linter.unusedVariables false
set_option linter.unusedSimpArgs false
namespace Go.SL.G
open Go Go.SL Go.Proofs
set_option maxHeartbeats 20000000
set_option maxRecDepth 100000
theorem QBs (width:Int) (f:Qad) (fa1:Option Addr) (fk1:Nat) (fa3:Option Addr) (fk3:Nat) (fa4:Option Addr) (fk4:Nat) (Qcj:Qaa width) (QsL:Qaa f.Gen.Width) (QyU:Qaa f.Kill.Width) (rr:Bool) (hrr:Qkh width f = rr):FT Tryz.prog 98 #[vi width,.agg #[vi f.Gen.Width,vl fa1 fk1 f.Gen.Words,vi f.Kill.Width,vl fa3 fk3 f.Kill.Words,vl fa4 fk4 f.Copies]] [S fa1 fk1 f.Gen.Words,S fa3 fk3 f.Kill.Words,S fa4 fk4 f.Copies] (fun g:Unit=>True) (fun g=>vb rr) (fun g=>[]):=by
 refine FTi Tryz.func98 fun w0 M0 F0=>?_
 unfold Qaa at Qcj QsL QyU
 refine Fb 8 0 fun _=>Fb 8 1 fun _=>Fb 16 2 fun _=>KS ?_
 refine Oa (Ab [vi f.Gen.Width,vl fa1 fk1 f.Gen.Words,vi f.Kill.Width,vl fa3 fk3 f.Kill.Words,vl fa4 fk4 f.Copies]) fun p4=>Oq Va (KS ?_)
 refine Oq (Qau Qek 0) ?_
 refine QaJ (Qcu f) fun rv5 hg6=>?_
 have hc7:=QxG f fa1 fk1 fa3 fk3 fa4 fk4 pre pre rv5 hg6
 refine Oc [1,2,3] Qx6 hc7 ?_
 rintro - -
 refine Oq Vm ?_
 refine Js 7 ?_ ?_
 ·intro h8
  refine Oq (Vfa QdB 0) (Oq (Qol Qbi 0) (Oq (Qah sh3 0) (Oq Vm (Oq QbW (Oq Vpt (Oq Va (KS ?_)))))))
  have hq:=q4 hrr (f.Gen.Width == width) (by simp only [Qkh,h8,hg6,cs4]); subst hq
  exact Kr () rfl (.tmp rfl .nil) [] trivial
 intro h8
 refine Osk (Osk (Osk (Osk (Osk (Oq Vpf (Oq Va (KS ?_)))))))
 have hq:=q4 hrr false (by simp only [Qkh,h8,hg6,cs4]); subst hq
 exact Kr () rfl (.tmp rfl .nil) [] trivial
theorem QAY (f:Qad) (fa1:Option Addr) (fk1:Nat) (fa3:Option Addr) (fk3:Nat) (fa4:Option Addr) (fk4:Nat) (cap0P:Value) (cap0:Qac) (cap0a1:Option Addr) (cap0k1:Nat) (cap0a2:Option Addr) (cap0k2:Nat) (cap0a3:Option Addr) (cap0k3:Nat) (QsL:Qaa f.Gen.Width) (QyU:Qaa f.Kill.Width) (QhM:Qaa cap0.Width) (rr:Bool) (hrr:QcD f cap0 = rr):FT Tryz.prog 97 #[.agg #[vi f.Gen.Width,vl fa1 fk1 f.Gen.Words,vi f.Kill.Width,vl fa3 fk3 f.Kill.Words,vl fa4 fk4 f.Copies],cap0P] [S fa1 fk1 f.Gen.Words,S fa3 fk3 f.Kill.Words,S fa4 fk4 f.Copies,pv cap0P [vi cap0.Width,vl cap0a1 cap0k1 cap0.Deps,vl cap0a2 cap0k2 cap0.Transfers,vl cap0a3 cap0k3 cap0.Boundary],S cap0a1 cap0k1 cap0.Deps,S cap0a2 cap0k2 cap0.Transfers,S cap0a3 cap0k3 cap0.Boundary] (fun g:Unit=>True) (fun g=>vb rr) (fun g=>[]):=by
 refine FTi Tryz.func97 fun w0 M0 F0=>?_
 unfold Qaa at QsL QyU QhM
 refine Fb 8 0 fun _=>Fb 8 1 fun _=>Fb 16 2 fun _=>Fb 24 4 fun _=>Fb 88 5 fun _=>Fb 32 6 fun _=>KS ?_
 refine Oa (Ab [vi f.Gen.Width,vl fa1 fk1 f.Gen.Words,vi f.Kill.Width,vl fa3 fk3 f.Kill.Words,vl fa4 fk4 f.Copies]) fun p7=>Oq Va (KS ?_)
 refine Oq (Vfa QbR 4) (Oq (Qah sh3 4) (Oq (Qau Qek 0) ?_))
 refine QaJ (Qkh cap0.Width f) fun rv8 hg9=>?_
 have hc10:=QBs cap0.Width f fa1 fk1 fa3 fk3 fa4 fk4 pre pre pre rv8 hg9
 refine Oc [1,2,3] QBk hc10 ?_
 rintro - -
 refine Oq Qcy (Oq Va (KS ?_))
 have hq:=q4 hrr (!rv8) (by simp only [QcD,hg9,cs4]); subst hq
 exact Kr () rfl (.tmp rfl .nil) [] trivial
theorem QyC (s:Qac) (sa1:Option Addr) (sk1:Nat) (sa2:Option Addr) (sk2:Nat) (sa3:Option Addr) (sk3:Nat) (Qcc:Qaa s.Width) (rr:Bool) (hrr:QbZ s = rr):FT Tryz.prog 56 #[.agg #[vi s.Width,vl sa1 sk1 s.Deps,vl sa2 sk2 s.Transfers,vl sa3 sk3 s.Boundary]] [S sa1 sk1 s.Deps,S sa2 sk2 s.Transfers,S sa3 sk3 s.Boundary] (fun g:Unit=>True) (fun g=>vb rr) (fun g=>[]):=by
 refine FTi Tryz.func56 fun w0 M0 F0=>?_
 unfold Qaa at Qcc
 refine Fb 24 0 fun _=>Fb 88 1 fun _=>Fb 32 2 fun _=>KS ?_
 refine Oa (Ab [vi s.Width,vl sa1 sk1 s.Deps,vl sa2 sk2 s.Transfers,vl sa3 sk3 s.Boundary]) fun p4=>Oq Va (KS ?_)
 refine Oq (Vfa QbI 0) (Oq (Qah QgG 0) (Oq (Qba Qfr) (Oq Va (KS ?_))))
 refine Oq (Vfa QbR 0) (Oq (Qah sh3 0) (Oq Vm ?_))
 refine QaJ (QgD s.Width (s.Deps.length:Int)) fun rv5 hg6=>?_
 have hc7:=Qz0 s.Width ((s.Deps.length:Int)) pre pre rv5 hg6
 refine Oc [] QAO hc7 ?_
 rintro - -
 refine Oq Qcy (Oq Vm ?_)
 refine Js 15 ?_ ?_
 ·intro h8
  have h10:=not_true h8
  refine Osk (Osk (Osk (Osk (Osk (Oq Vpt (Oq Vm (Osk (Osk (Osk ?_)))))))))
  refine Osk (Osk (Oq Vpt (KS ?_)))
  refine Kt (KS ?_)
  refine Oq Va (KS ?_)
  have hq:=q4 hrr false (by simp only [QbZ,h8,h10,hg6,cs4]); subst hq
  exact Kr () rfl (.tmp rfl .nil) [] trivial
 intro h8
 have h13:=not_false h8
 refine Oq (Vfa QcW 0) (Oq (Qah QjR 0) (Oq (Qba QiI) (Oq Vm (Oq QfZ (Oq Vpf (Oq Vm ?_))))))
 refine Js 22 ?_ ?_
 ·intro h15
  have g16:=QaB h15
  refine Osk (Osk (Osk (Osk (Osk (Oq Vpt (KS ?_))))))
  refine Kt (KS ?_)
  refine Oq Va (KS ?_)
  have hq:=q4 hrr false (by simp only [QbZ,h8,h13,h15,hg6,cs4]); subst hq
  exact Kr () rfl (.tmp rfl .nil) [] trivial
 intro h15
 have g17:=Qae h15
 refine Oq (Vfa Qc4 0) (Oq (Qah Qjd 0) (Oq (Qba Qc6) (Oq Vm (Oq QfZ (Oq Vpf (KS ?_))))))
 refine Kc ?_ ?_
 ·intro h18
  have g19:=QaB h18
  refine KS ?_
  refine Oq Va (KS ?_)
  have hq:=q4 hrr false (by simp only [QbZ,h8,h13,h15,h18,hg6,cs4]); subst hq
  exact Kr () rfl (.tmp rfl .nil) [] trivial
 intro h18
 have g20:=Qae h18
 refine KS ?_
 refine Oq Va (KS ?_)
 refine Oq (Vfa QbI 0) (Oq (Qah QgG 0) (Oq (Qba Qfr) (Oq Vm (KS ?_))))
 refine Kl (γ:=Nat × Int × Int) (fun (r21,QgI,Qhd)=>⟨[(1,p4),(3,vi (s.Deps.length:Int)),(4,vi QgI),(30,vl sa1 sk1 s.Deps),(31,vi (s.Deps.length:Int)),(32,vi Qhd)],[pv p4 [vi s.Width,vl sa1 sk1 s.Deps,vl sa2 sk2 s.Transfers,vl sa3 sk3 s.Boundary],S sa1 sk1 s.Deps,S sa2 sk2 s.Transfers,S sa3 sk3 s.Boundary],Qcq s r21 QgI Qhd = Qcq s (((s.Deps.length:Int) - 0).toNat) 0 0 /\ r21 = ((s.Deps.length:Int) - Qhd).toNat /\ (0:Int) <= Qhd /\ Qhd <= (s.Deps.length:Int) /\ (-9223372036854775808 <= QgI /\ QgI <= 9223372036854775807) /\ (-9223372036854775808 <= Qhd /\ Qhd <= 9223372036854775807) /\ 0 <= QgI /\ QgI <= 1024,r21⟩) (((s.Deps.length:Int) - 0).toNat,0,0) [0,1,2,3] ⟨rfl,rfl,aM1,aM1,aM1,aM1,iv0⟩ ?_
 rintro ⟨r21,QgI,Qhd⟩ ⟨hM24,hr25,hi26,hi27,hk28,hk29,hv30⟩
 refine QaA fun _ _ hL hA=>?_; dsimp only at hL hA; subst hL hA
 refine Fb 24 1 fun _=>Fb 88 2 fun _=>Fb 32 3 fun _=>KS ?_
 refine Oq Qbh (KS ?_)
 refine Kc ?_ ?_
 ·intro h34
  have g35:=dt h34
  obtain ⟨r36,rfl⟩:=scc (n:=r21) aM1
  refine KS ?_
  refine Oq (Vi Qfr 1) ?_
  refine QdV Qhd.toNat 1 rfl rng fun a37 k38=>?_
  refine Fb 8 1 fun _=>Fo 1 fun ho40=>?_
  refine Oq (Vld QjI 0) (Oq Va (KS ?_))
  refine Oq Vm (Oq Vm (Oq (Qba QcA) (Oq QaS (Oq Va (KS ?_)))))
  refine Oq Vm (Oq Qgr (Oq Vm ?_))
  refine Js 42 ?_ ?_
  ·intro h41
   have g42:=dt h41
   refine Osk (Osk (Osk (Osk (Oq Vpt (KS ?_)))))
   refine Kt (KS ?_)
   refine Oq Va (KS ?_)
   have hR43:=q2 hM24 (.ret false) (by simp only [Qcq,h34,h41,cs4])
   have hq:=q4 hrr false (by simp only [QbZ,h8,h13,h15,h18,h34,h41,hg6,hR43,cs4]); subst hq
   exact Kr () rfl (.tmp rfl .nil) [] trivial
  intro h41
  have g44:=df h41
  refine Oq Vm (Oq Vm ?_)
  refine QaJ (QcP (s.Deps.getD Qhd.toNat []) (s.Deps.length:Int)) fun rv45 hg46=>?_
  have hc47:=QAb ((s.Deps.getD Qhd.toNat [])) a37 k38 ((s.Deps.length:Int)) pre rv45 hg46
  refine Oc [1] QAX hc47 ?_
  rintro - -
  refine Oq Qcy (Oq Vpf (KS ?_))
  refine Kc ?_ ?_
  ·intro h48
   have h50:=not_true h48
   refine KS ?_
   refine Oq Va (KS ?_)
   have hR52:=q2 hM24 (.ret false) (by simp only [Qcq,h34,h41,h48,h50,hg46,cs4])
   have hq:=q4 hrr false (by simp only [QbZ,h8,h13,h15,h18,h34,h41,h48,h50,hg6,hg46,hR52,cs4]); subst hq
   exact Kr () rfl (.tmp rfl .nil) [] trivial
  intro h48
  have h54:=not_false h48
  refine KS ?_
  refine Oq QaS (Oq Vm (KS ?_))
  exact Kg (r36,(QgI + ((s.Deps.getD Qhd.toNat []).length:Int)),(Qhd + 1)) [2,3,4,5] ⟨(q3 hM24 (by simp only [Qcq,h34,h41,h48,h54,hg46,cs4])),aM1,aM1,aM1,aM1,aM1,iv1⟩
 intro h34
 have g56:=df h34
 obtain rfl:r21 = 0:=by omega
 refine Ke ?_
 have hR57:=q2 hM24 (.brk ()) (by simp only [Qcq,h34,cs4])
 refine KS ?_
 refine Oq (Vfa QbR 0) (Oq (Qah sh3 0) (Oq (Vfa Qc4 0) (Oq (Qah Qjd 0) ?_)))
 refine QaJ (QfT s.Width s.Boundary) fun rv58 hg59=>?_
 have hc60:=Qzk s.Width s.Boundary sa3 sk3 pre rv58 hg59
 refine Oc [3] Qzs hc60 ?_
 rintro - -
 refine Oq Vm ?_
 refine Js 54 ?_ ?_
 ·intro h61
  refine Oq (Vfa QcW 0) (Oq (Qah QjR 0) (Oq (Vf [p4]) ?_))
  refine QiW (Ent.pall [0,1,2,3] rfl rfl) ?_
  refine QaJ (QaH s.Transfers (fun x=>QcD x s)) fun rv63 hg64=>?_
  have hc65:=QAw s.Transfers sa2 sk2 97 [p4] (fun x=>QcD x s) [pv p4 [vi s.Width,vl sa1 sk1 s.Deps,vl sa2 sk2 s.Transfers,vl sa3 sk3 s.Boundary],S sa1 sk1 s.Deps,S sa2 sk2 s.Transfers,S sa3 sk3 s.Boundary] QAu (fun x hx a1 k1 a3 k3 a4 k4 hq0 hq2=>Qh9 (A1:=_) (QAY x a1 k1 a3 k3 a4 k4 p4 s sa1 sk1 sa2 sk2 sa3 sk3 hq0 hq2 pre _ rfl)) rv63 hg64
  refine Oc [3,0] QBx hc65 ?_
  rintro - -
  refine Oq Qcy (Oq Vpt (Oq Va (KS ?_)))
  have hq:=q4 hrr (!rv63) (by simp only [QbZ,h8,h13,h15,h18,h34,h61,hg6,hR57,hg59,hg64,cs4]); subst hq
  exact Kr () rfl (.tmp rfl .nil) [] trivial
 intro h61
 refine Osk (Osk (Osk (Osk (Osk (Oq Vpf (Oq Va (KS ?_)))))))
 have hq:=q4 hrr false (by simp only [QbZ,h8,h13,h15,h18,h34,h61,hg6,hR57,hg59,cs4]); subst hq
 exact Kr () rfl (.tmp rfl .nil) [] trivial
theorem QwE (s:Qac) (sa1:Option Addr) (sk1:Nat) (sa2:Option Addr) (sk2:Nat) (sa3:Option Addr) (sk3:Nat) (n:Int) (bit:Int) (Qcc:Qaa s.Width) (Qgv:Qaa n) (Qfj:Qaa bit) (rr:Int) (hrr:Qar s n bit = rr):FT Tryz.prog 42 #[.agg #[vi s.Width,vl sa1 sk1 s.Deps,vl sa2 sk2 s.Transfers,vl sa3 sk3 s.Boundary],vi n,vi bit] [S sa1 sk1 s.Deps,S sa2 sk2 s.Transfers,S sa3 sk3 s.Boundary] (fun g:Unit=>Qaa rr) (fun g=>vi rr) (fun g=>[]):=by
 refine FTi Tryz.func42 fun w0 M0 F0=>?_
 unfold Qaa at Qcc Qgv Qfj
 refine Fb 24 0 fun _=>Fb 88 1 fun _=>Fb 32 2 fun _=>KS ?_
 refine Oa (Ab [vi s.Width,vl sa1 sk1 s.Deps,vl sa2 sk2 s.Transfers,vl sa3 sk3 s.Boundary]) fun p4=>Oq Va (KS ?_)
 refine Oq (Qau Qen 0) ?_
 refine QaJ (QbZ s) fun rv5 hg6=>?_
 have hc7:=QyC s sa1 sk1 sa2 sk2 sa3 sk3 pre rv5 hg6
 refine Oc [1,2,3] Qxa hc7 ?_
 rintro - -
 refine Oq Qcy (Oq Va (KS ?_))
 refine Kc ?_ ?_
 ·intro h8
  have h10:=not_true h8
  refine KS ?_
  refine Oq Va (KS ?_)
  have hq:=q4 hrr 1 (by simp only [Qar,h8,h10,hg6,cs4]); subst hq
  exact Kr () rfl (.tmp rfl .nil) [] en
 intro h8
 have h13:=not_false h8
 refine KS ?_
 refine Oq Vm (Oq Qbh (Oq Vm ?_))
 refine Js 14 ?_ ?_
 ·intro h15
  have g16:=dt h15
  refine Osk (Osk (Osk (Osk (Osk (Oq Vpt (Oq Va (KS ?_)))))))
  refine Kt (KS ?_)
  refine Oq Va (KS ?_)
  have hq:=q4 hrr 9 (by simp only [Qar,h8,h13,h15,hg6,cs4]); subst hq
  exact Kr () rfl (.tmp rfl .nil) [] en
 intro h15
 have g17:=df h15
 refine Oq Vm (Oq (Vfa QbI 0) (Oq (Qah QgG 0) (Oq (Qba Qfr) (Oq Qg8 (Oq Vpf (Oq Va (KS ?_)))))))
 refine Kc ?_ ?_
 ·intro h18
  have g19:=dt h18
  refine KS ?_
  refine Oq Va (KS ?_)
  have hq:=q4 hrr 9 (by simp only [Qar,h8,h13,h15,h18,hg6,cs4]); subst hq
  exact Kr () rfl (.tmp rfl .nil) [] en
 intro h18
 have g20:=df h18
 refine KS ?_
 refine Oq Vm (Oq Qbh (Oq Vm ?_))
 refine Js 24 ?_ ?_
 ·intro h21
  have g22:=dt h21
  refine Osk (Osk (Osk (Osk (Oq Vpt (Oq Va (KS ?_))))))
  refine Kt (KS ?_)
  refine Oq Va (KS ?_)
  have hq:=q4 hrr 3 (by simp only [Qar,h8,h13,h15,h18,h21,hg6,cs4]); subst hq
  exact Kr () rfl (.tmp rfl .nil) [] en
 intro h21
 have g23:=df h21
 refine Oq Vm (Oq (Vfa QbR 0) (Oq (Qah sh3 0) (Oq Qg8 (Oq Vpf (Oq Va (KS ?_))))))
 refine Kc ?_ ?_
 ·intro h24
  have g25:=dt h24
  refine KS ?_
  refine Oq Va (KS ?_)
  have hq:=q4 hrr 3 (by simp only [Qar,h8,h13,h15,h18,h21,h24,hg6,cs4]); subst hq
  exact Kr () rfl (.tmp rfl .nil) [] en
 intro h24
 have g26:=df h24
 refine KS ?_
 refine Oq Va (KS ?_)
 have hq:=q4 hrr 0 (by simp only [Qar,h8,h13,h15,h18,h21,h24,hg6,cs4]); subst hq
 exact Kr () rfl (.tmp rfl .nil) [] en
theorem Qzz (s:Qaf) (sa1:Option Addr) (sk1:Nat) (b:Int) (Qcc:Qaa s.Width) (QfG:Qaa b) (rr:Bool) (hrr:Qc3 s b = rr):FT Tryz.prog 80 #[.agg #[vi s.Width,vl sa1 sk1 s.Words],vi b] [S sa1 sk1 s.Words] (fun g:Unit=>True) (fun g=>vb rr) (fun g=>[]):=by
 refine FTi Tryz.func80 fun w0 M0 F0=>?_
 unfold Qaa at Qcc QfG
 refine Fb 8 0 fun _=>KS ?_
 refine Oa (Ab [vi s.Width,vl sa1 sk1 s.Words]) fun p2=>Oq Va (KS ?_)
 refine Oq Vm (Oq Qg8 (Oq Vm ?_))
 refine Js 7 ?_ ?_
 ·intro h3
  have g4:=dt h3
  refine Oq Vm (Oq (Vfa Qbi 0) (Oq (Qah sh3 0) (Oq Qbh (Oq Vpt (Oq Va (KS ?_))))))
  have hq:=q4 hrr (decide (b < s.Width)) (by simp only [Qc3,h3,cs4]); subst hq
  exact Kr () rfl (.tmp rfl .nil) [] trivial
 intro h3
 have g5:=df h3
 refine Osk (Osk (Osk (Osk (Oq Vpf (Oq Va (KS ?_))))))
 have hq:=q4 hrr false (by simp only [Qc3,h3,cs4]); subst hq
 exact Kr () rfl (.tmp rfl .nil) [] trivial
theorem QtR (s:Qaf) (sa1:Option Addr) (sk1:Nat) (b:Int) (Qcc:Qaa s.Width) (QfG:Qaa b) (rr:Bool) (hrr:Qfe s b = rr):FT Tryz.prog 47 #[.agg #[vi s.Width,vl sa1 sk1 s.Words],vi b] [S sa1 sk1 s.Words] (fun g:Unit=>True) (fun g=>vb rr) (fun g=>[]):=by
 refine FTi Tryz.func47 fun w0 M0 F0=>?_
 unfold Qaa at Qcc QfG
 refine Fb 8 0 fun _=>KS ?_
 refine Oa (Ab [vi s.Width,vl sa1 sk1 s.Words]) fun p2=>Oq Va (KS ?_)
 refine Oq (Qau Qax 0) ?_
 refine QaJ (Qa0 s) fun rv3 hg4=>?_
 have hc5:=QrD s sa1 sk1 pre rv3 hg4
 refine Oc [1] QrI hc5 ?_
 rintro - -
 refine Oq Vm ?_
 refine Js 7 ?_ ?_
 ·intro h6
  try have hrg:=Qr2 (s:=s) (by simp only [h6,hg4])
  try have hwi:=Qg3 (s:=s) (b:=b) (by simp only [h6,hg4])
  refine Oq (Qau Qax 0) (Oq Vm ?_)
  refine QaJ (Qc3 s b) fun rv8 hg9=>?_
  have hc10:=Qzz s sa1 sk1 b pre pre rv8 hg9
  refine Oc [1] Qy8 hc10 ?_
  rintro - -
  refine Oq Vpt (Oq Vm ?_)
  refine Js 12 ?_ ?_
  ·intro h11
   try have hrg:=Qr2 (s:=s) (by simp only [h6,h11,hg4,hg9])
   try have hwi:=Qg3 (s:=s) (b:=b) (by simp only [h6,h11,hg4,hg9])
   refine Oq (Vfa Qcm 0) (Oq (Qah QiV 0) (Oq Vm (Oq Qrl (Oq (Vi QgV 1) (Oq (QpT QnH 1) (Oq Vm (Oq (VcU un3 QqC) (Oq (Qri (b:=64#64) (by simp)) (Oq Qnr ?_)))))))))
   refine Oq (QmX (b:=1#64)) (Oq (Qsx (b:=1#64)) (Oq Vpt (Oq Va (KS ?_))))
   have hq:=q4 hrr ((((s.Words.getD ((b / 64):Int).toNat 0#64) >>> ((((BitVec.ofInt 64 b) % 64#64).toNat:Int)).toNat) &&& 1#64) == 1#64) (by simp only [Qfe,h6,h11,hg4,hg9,cs4]); subst hq
   exact Kr () rfl (.tmp rfl .nil) [] trivial
  intro h11
  refine Osk (Osk (Osk (Osk (Osk (Osk (Osk (Osk (Osk (Osk ?_)))))))))
  refine Osk (Osk (Oq Vpf (Oq Va (KS ?_))))
  have hq:=q4 hrr false (by simp only [Qfe,h6,h11,hg4,hg9,cs4]); subst hq
  exact Kr () rfl (.tmp rfl .nil) [] trivial
 intro h6
 refine Osk (Osk (Osk (Oq Vpf (Oq Vm (Osk (Osk (Osk (Osk (Osk ?_)))))))))
 refine Osk (Osk (Osk (Osk (Osk (Osk (Osk (Oq Vpf (Oq Va (KS ?_)))))))))
 have hq:=q4 hrr false (by simp only [Qfe,h6,hg4,cs4]); subst hq
 exact Kr () rfl (.tmp rfl .nil) [] trivial
theorem Qyv (s:List Int) (sa0:Option Addr) (sk0:Nat) (fF:FuncId) (fC:List Value) (fp:Int -> Bool) (fA:List SP) (hfc:Qab Tryz.prog fF = true) (hfF:∀ x ∈ s,Qaa x -> FT Tryz.prog fF ([(vi x:Value)] ++ fC).toArray ([] ++ [Qg5 fA]) (fun _:Unit=>True) (fun _=>.bool (fp x)) (fun _=>[])) (rr:Int) (hrr:QcE s fp = rr):FT Tryz.prog 108 #[vl sa0 sk0 s,.func (.func fF) #[] fC.toArray] [S sa0 sk0 s,Qg5 fA] (fun g:Unit=>Qaa rr) (fun g=>vi rr) (fun g=>[]):=by
 refine FTi Tryz.func108 fun w0 M0 F0=>Fb 8 0 fun _=>Fo 0 fun ho2=>?_
 refine KS ?_
 refine Oq Va (KS ?_)
 refine Oq Vm (Oq (Qba QcA) (Oq Vm (KS ?_)))
 refine Kl (γ:=Nat × Int) (fun (r3,Qhh)=>⟨[(0,vl sa0 sk0 s),(1,.func (.func fF) #[] fC.toArray),(7,vi (s.length:Int)),(8,vi Qhh)],[S sa0 sk0 s,Qg5 fA],QaZ s fp r3 Qhh = QaZ s fp (((s.length:Int) - 0).toNat) 0 /\ r3 = ((s.length:Int) - Qhh).toNat /\ (0:Int) <= Qhh /\ Qhh <= (s.length:Int) /\ (-9223372036854775808 <= Qhh /\ Qhh <= 9223372036854775807),r3⟩) (((s.length:Int) - 0).toNat,0) [0,1] ⟨rfl,rfl,aM1,aM1,aM1⟩ ?_
 rintro ⟨r3,Qhh⟩ ⟨hM5,hr6,hi7,hi8,hk9⟩
 refine QaA fun _ _ hL hA=>?_; dsimp only at hL hA; subst hL hA
 refine Fb 8 0 fun _=>Fo 0 fun ho11=>KS ?_
 refine Oq Qbh (KS ?_)
 refine Kc ?_ ?_
 ·intro h12
  have g13:=dt h12
  obtain ⟨r14,rfl⟩:=scc (n:=r3) aM1
  refine KS ?_
  refine Oq Vm (Oq Va (KS ?_))
  refine Oq Vm (Oq Vm (Oq Vm (Oq (Vi QcA 0) ?_)))
  have hb15:=ok1 (i:=Qhh.toNat) ho11 rng
  refine Oq (Qjc sh3 0) ?_
  refine Qj5 [1] rfl rfl rfl (OpC.clo (asv:=[(vi (s.getD Qhh.toNat 0):Value)] ++ fC) rfl rfl hfc rfl (by simp)) (hfF (s.getD Qhh.toNat 0) (Qa4 rng)  pre) rfl fun _ _=>?_
  refine KS ?_
  refine Kc ?_ ?_
  ·intro h16
   refine KS ?_
   refine Oq Vm (Oq Va (KS ?_))
   have hR18:=q2 hM5 (.ret Qhh) (by simp only [QaZ,h12,h16,cs4])
   have hq:=q4 hrr Qhh (by simp only [QcE,h12,h16,hR18,cs4]); subst hq
   exact Kr () rfl (.tmp rfl .nil) [] en
  intro h16
  refine KS ?_
  refine Oq QaS (Oq Vm (KS ?_))
  exact Kg (r14,(Qhh + 1)) [0,1] ⟨(q3 hM5 (by simp only [QaZ,h12,h16,cs4])),aM1,aM1,aM1,aM1⟩
 intro h12
 have g20:=df h12
 obtain rfl:r3 = 0:=by omega
 refine Ke ?_
 have hR21:=q2 hM5 (.brk ()) (by simp only [QaZ,h12,cs4])
 refine KS ?_
 refine Oq Va (KS ?_)
 have hq:=q4 hrr (-1) (by simp only [QcE,h12,hR21,cs4]); subst hq
 exact Kr () rfl (.tmp rfl .nil) [] en
theorem QAU (s:List Int) (sa0:Option Addr) (sk0:Nat) (fF:FuncId) (fC:List Value) (fp:Int -> Bool) (fA:List SP) (hfc:Qab Tryz.prog fF = true) (hfF:∀ x ∈ s,Qaa x -> FT Tryz.prog fF ([(vi x:Value)] ++ fC).toArray ([] ++ [Qg5 fA]) (fun _:Unit=>True) (fun _=>.bool (fp x)) (fun _=>[])) (rr:Bool) (hrr:QbS s fp = rr):FT Tryz.prog 72 #[vl sa0 sk0 s,.func (.func fF) #[] fC.toArray] [S sa0 sk0 s,Qg5 fA] (fun g:Unit=>True) (fun g=>vb rr) (fun g=>[]):=by
 refine FTi Tryz.func72 fun w0 M0 F0=>Fb 8 0 fun _=>Fo 0 fun ho2=>?_
 refine KS ?_
 refine Oq Va (KS ?_)
 refine Oq Vm (Oq Vm ?_)
 refine QaJ (QcE s fp) fun rv3 hg4=>?_
 have hc5:=Qyv s sa0 sk0 fF fC fp fA hfc hfF rv3 hg4
 refine Oc [0,1] Qxx hc5 ?_
 rintro - he6
 unfold Qaa at he6
 refine Oq Qg8 (Oq Va (KS ?_))
 have hq:=q4 hrr (decide (0 <= rv3)) (by simp only [QbS,hg4,cs4]); subst hq
 exact Kr () rfl (.tmp rfl .nil) [] trivial
theorem QAA (k:Int) (cap0P:Value) (cap0:Qac) (cap0a1:Option Addr) (cap0k1:Nat) (cap0a2:Option Addr) (cap0k2:Nat) (cap0a3:Option Addr) (cap0k3:Nat) (cap1P:Value) (cap1:Qas) (QyV:Qaa k) (QhM:Qaa cap0.Width) (Quv:Qaa cap1.Node) (Quw:Qaa cap1.Bit) (hv0:Qfg cap0) (hk0:0 <= k /\ k < (cap0.Deps.length:Int)) (rr:Bool) (hrr:Qeg k cap0 cap1 = rr):FT Tryz.prog 73 #[vi k,cap0P,cap1P] [pv cap0P [vi cap0.Width,vl cap0a1 cap0k1 cap0.Deps,vl cap0a2 cap0k2 cap0.Transfers,vl cap0a3 cap0k3 cap0.Boundary],S cap0a1 cap0k1 cap0.Deps,S cap0a2 cap0k2 cap0.Transfers,S cap0a3 cap0k3 cap0.Boundary,pv cap1P [vi cap1.Node,vi cap1.Bit]] (fun g:Unit=>True) (fun g=>vb rr) (fun g=>[]):=by
 refine FTi Tryz.func73 fun w0 M0 F0=>?_
 unfold Qaa at QyV QhM Quv Quw
 refine Fb 24 1 fun _=>Fb 88 2 fun _=>Fb 32 3 fun _=>?_
 have hv2:=hv0.tl
 have hv3:=hv0.bl
 refine KS ?_
 refine Oq Va (KS ?_)
 refine QaU k.toNat 2 rfl rng fun a4 k5 a6 k7 a8 k9 hb10 hb11=>?_
 unfold Qaa at hb10 hb11
 refine Fb 8 1 fun _=>Fb 8 2 fun _=>Fb 16 3 fun _=>?_
 refine Qam [0,1,0,7,15,31,0,64,255,511] Qco ?_
 refine Dv [4] (Vfa QcW 0) (Dv [4] (Qah QjR 0) (Dv [] Vm (Dv [6] (Vi QiI 0) (Dv [0] (Vfa QdB 0) (Dv [0] (Qmr Qax 0 [vi (((cap0.Transfers.getD k.toNat default).Gen).Width),vl a4 k5 (((cap0.Transfers.getD k.toNat default).Gen).Words)]) (Dv [8] (Vfa QfA 0) (Dv [8] (Qah sh3 0) ?_)))))))
 refine QaJ (Qfe ((cap0.Transfers.getD k.toNat default).Gen) cap1.Bit) fun rv15 hg16=>?_
 refine Dx [1] [] [1,0] (fun G=>vb rv15) [fun G=>SP.fact (True)] (fun G=>xC [0] QtI (QtR (((cap0.Transfers.getD k.toNat default).Gen)) a4 k5 cap1.Bit pre pre rv15 hg16)) (Dv [] Va ?_)
 refine Dn ⟨by kernel_rfl,fun G=>?_⟩
 refine Jw2 [(4,vb rv15)] [0,1,2,3,4,5,6,7,8] [SP.fact (True)] ?_
 refine Jk [0,1,2,3,4,5,6,7,8] ?_
 have hq:=q4 hrr rv15 (by simp only [Qeg,hg16,cs4]); subst hq
 exact Kr () rfl (.tmp rfl .nil) [] trivial
theorem Qzy (s:Qac) (sa1:Option Addr) (sk1:Nat) (sa2:Option Addr) (sk2:Nat) (sa3:Option Addr) (sk3:Nat) (h:Qas) (Qcc:Qaa s.Width) (Qus:Qaa h.Node) (Qut:Qaa h.Bit) (hv0:Qfg s) (hn0:0 <= h.Node /\ h.Node < (s.Deps.length:Int)) (rr:Bool) (hrr:QdP s h = rr):FT Tryz.prog 43 #[.agg #[vi s.Width,vl sa1 sk1 s.Deps,vl sa2 sk2 s.Transfers,vl sa3 sk3 s.Boundary],.agg #[vi h.Node,vi h.Bit]] [S sa1 sk1 s.Deps,S sa2 sk2 s.Transfers,S sa3 sk3 s.Boundary] (fun g:Unit=>True) (fun g=>vb rr) (fun g=>[]):=by
 refine FTi Tryz.func43 fun w0 M0 F0=>?_
 unfold Qaa at Qcc Qus Qut
 refine Fb 24 0 fun _=>Fb 88 1 fun _=>Fb 32 2 fun _=>?_
 have hv2:=hv0.tl
 have hv3:=hv0.bl
 refine KS ?_
 refine Oa (Ab [vi s.Width,vl sa1 sk1 s.Deps,vl sa2 sk2 s.Transfers,vl sa3 sk3 s.Boundary]) fun p4=>Oa (Ab [vi h.Node,vi h.Bit]) fun p5=>Oq Va (KS ?_)
 refine Qa3 h.Node.toNat 4 rfl rng fun a6 k7 hb8=>?_
 unfold Qaa at hb8
 refine Fb 8 1 fun _=>?_
 refine QaJ (Qfe (s.Boundary.getD h.Node.toNat default) h.Bit) fun rv10 hg11=>?_
 refine QaE rv10 ?_ ?_
 ·intro h12
  refine Qam [0,1,0,4,15,31,0,64,255,511,1023,2047,1023,5119,16383,32767,1023,131071,262143,524287] Qco ?_
  refine Dv [3] (Vfa Qc4 0) (Dv [3] (Qah Qjd 0) (Dv [2] (Vfa Qc8 0) (Dv [2] (Qah sh3 0) (Dv [6] (Vi Qc6 0) (Dv [0] (Qau Qax 0) (Dv [2] (Vfa QfA 0) (Dv [2] (Qah sh3 0) ?_)))))))
  refine Dx [1] [] [1,0] (fun G=>vb true) [fun G=>SP.fact (True)] (fun G=>xC [0] QtI (QtR ((s.Boundary.getD h.Node.toNat default)) a6 k7 h.Bit pre pre rv10 hg11)) ?_ (hV:=fun _ _=>congrArg Value.bool h12)
  refine Dv [] Vm (Ds (Ds (Ds (Ds (Ds (Ds (Ds (Ds (Dv [] Vpt ?_)))))))))
  refine Dv [] Va ?_
  refine Dn ⟨by kernel_rfl,fun G=>?_⟩
  refine Jw2 [(4,vb true)] [0,1,2,3,4,5,6] [SP.fact (True)] ?_
  refine Jk [0,1,2,3,4,5,6] ?_
  have hq:=q4 hrr true (by simp only [QdP,h12,hg11,cs4]); subst hq
  exact Kr () rfl (.tmp rfl .nil) [] trivial
 intro h12
 refine QdV h.Node.toNat 4 rfl rng fun a15 k16=>?_
 refine Fb 8 1 fun _=>Fo 1 fun ho18=>?_
 refine Qam [0,1,0,4,15,31,0,64,255,511,1023,2047,1023,5119,16383,32767,1023,131071,262143,524287] Qco ?_
 refine Dv [5] (Vfa Qc4 0) (Dv [5] (Qah Qjd 0) (Dv [4] (Vfa Qc8 0) (Dv [4] (Qah sh3 0) (Dv [8] (Vi Qc6 0) (Dv [2] (Qau Qax 0) (Dv [4] (Vfa QfA 0) (Dv [4] (Qah sh3 0) ?_)))))))
 refine Dx [3] [] [1,0] (fun G=>vb false) [fun G=>SP.fact (True)] (fun G=>xC [0] QtI (QtR ((s.Boundary.getD h.Node.toNat default)) a6 k7 h.Bit pre pre rv10 hg11)) ?_ (hV:=fun _ _=>congrArg Value.bool h12)
 refine Dv [] Vm (Dv [5] (Vfa QbI 0) (Dv [5] (Qah QgG 0) (Dv [4] (Vfa Qc8 0) (Dv [4] (Qah sh3 0) (Dv [6] (Vi Qfr 0) (Dv [0] (Vld QjI 0) (Dv [] (Vf [p4,p5]) ?_)))))))
 refine QaJ (QbS (s.Deps.getD h.Node.toNat []) (fun x=>Qeg x s h)) fun rv19 hg20=>?_
 refine Dx [1,4,5,6,7,8] [] [2,3,4,5,6,7,1,0] (fun G=>vb rv19) [fun G=>Qg5 [pv p4 [vi s.Width,vl sa1 sk1 s.Deps,vl sa2 sk2 s.Transfers,vl sa3 sk3 s.Boundary],S sa1 sk1 s.Deps,S sa2 sk2 s.Transfers,S sa3 sk3 s.Boundary,pv p5 [vi h.Node,vi h.Bit]],fun G=>SP.fact (True)] (fun G=>xp [2,3,4,5,1] rfl (Ent.pallT rfl) (xC [1,0] QAM (QAU ((s.Deps.getD h.Node.toNat [])) a15 k16 73 [p4,p5] (fun x=>Qeg x s h) [pv p4 [vi s.Width,vl sa1 sk1 s.Deps,vl sa2 sk2 s.Transfers,vl sa3 sk3 s.Boundary],S sa1 sk1 s.Deps,S sa2 sk2 s.Transfers,S sa3 sk3 s.Boundary,pv p5 [vi h.Node,vi h.Bit]] QAv (fun x hx hq0=>Qh9 (A1:=_) (QAA x  p4 s sa1 sk1 sa2 sk2 sa3 sk3 p5 h hq0 pre pre pre hv0 (hv0.dep_mem hn0.1 hn0.2 _ hx) _ rfl)) rv19 hg20))) (Dv [] Vpf (Dv [] Va ?_))
 refine Dn ⟨by kernel_rfl,fun G=>?_⟩
 refine Jw2 [(4,vb rv19)] [0,1,2,3,4,5,6,7,8] [SP.fact (True),Qg5 [pv p4 [vi s.Width,vl sa1 sk1 s.Deps,vl sa2 sk2 s.Transfers,vl sa3 sk3 s.Boundary],S sa1 sk1 s.Deps,S sa2 sk2 s.Transfers,S sa3 sk3 s.Boundary,pv p5 [vi h.Node,vi h.Bit]],SP.fact (True)] ?_
 refine Jk [0,1,2,3,4,5,6,7,8,10] ?_
 have hq:=q4 hrr rv19 (by simp only [QdP,h12,hg11,hg20,cs4]); subst hq
 exact Kr () rfl (.tmp rfl .nil) [] trivial
theorem QBf (s:List Int) (sa0:Option Addr) (sk0:Nat) (v:Int) (QsK:Qaa v) (rr:Int) (hrr:Qet s v = rr):FT Tryz.prog 74 #[vl sa0 sk0 s,vi v] [S sa0 sk0 s] (fun g:Unit=>Qaa rr) (fun g=>vi rr) (fun g=>[]):=by
 refine FTi Tryz.func74 fun w0 M0 F0=>?_
 unfold Qaa at QsK
 refine Fb 8 0 fun _=>Fo 0 fun ho2=>KS ?_
 refine Oq Va (KS ?_)
 refine Oq Vm (Oq (Qba QcA) (Oq Vm (KS ?_)))
 refine Kl (γ:=Nat × Int) (fun (r3,Qhh)=>⟨[(0,vl sa0 sk0 s),(1,vi v),(7,vi (s.length:Int)),(8,vi Qhh)],[S sa0 sk0 s],Qb4 s v r3 Qhh = Qb4 s v (((s.length:Int) - 0).toNat) 0 /\ r3 = ((s.length:Int) - Qhh).toNat /\ (0:Int) <= Qhh /\ Qhh <= (s.length:Int) /\ (-9223372036854775808 <= Qhh /\ Qhh <= 9223372036854775807),r3⟩) (((s.length:Int) - 0).toNat,0) [0] ⟨rfl,rfl,aM1,aM1,aM1⟩ ?_
 rintro ⟨r3,Qhh⟩ ⟨hM5,hr6,hi7,hi8,hk9⟩
 refine QaA fun _ _ hL hA=>?_; dsimp only at hL hA; subst hL hA
 refine Fb 8 0 fun _=>Fo 0 fun ho11=>KS ?_
 refine Oq Qbh (KS ?_)
 refine Kc ?_ ?_
 ·intro h12
  have g13:=dt h12
  obtain ⟨r14,rfl⟩:=scc (n:=r3) aM1
  refine KS ?_
  refine Oq Vm (Oq Va (KS ?_))
  refine Oq Vm (Oq Vm (Oq Vm (Oq (Vi QcA 0) ?_)))
  have hb15:=ok1 (i:=Qhh.toNat) ho11 rng
  refine Oq (Qjc sh3 0) (Oq QbW (KS ?_))
  refine Kc ?_ ?_
  ·intro h16
   have g17:=eq_of_beq h16
   refine KS ?_
   refine Oq Vm (Oq Va (KS ?_))
   have hR18:=q2 hM5 (.ret Qhh) (by simp only [Qb4,h12,h16,cs4])
   have hq:=q4 hrr Qhh (by simp only [Qet,h12,h16,hR18,cs4]); subst hq
   exact Kr () rfl (.tmp rfl .nil) [] en
  intro h16
  have g19:=ne_of_beq_false h16
  refine KS ?_
  refine Oq QaS (Oq Vm (KS ?_))
  exact Kg (r14,(Qhh + 1)) [0] ⟨(q3 hM5 (by simp only [Qb4,h12,h16,cs4])),aM1,aM1,aM1,aM1⟩
 intro h12
 have g20:=df h12
 obtain rfl:r3 = 0:=by omega
 refine Ke ?_
 have hR21:=q2 hM5 (.brk ()) (by simp only [Qb4,h12,cs4])
 refine KS ?_
 refine Oq Va (KS ?_)
 have hq:=q4 hrr (-1) (by simp only [Qet,h12,hR21,cs4]); subst hq
 exact Kr () rfl (.tmp rfl .nil) [] en
theorem QwM (s:List Int) (sa0:Option Addr) (sk0:Nat) (v:Int) (QsK:Qaa v) (rr:Bool) (hrr:QaF s v = rr):FT Tryz.prog 44 #[vl sa0 sk0 s,vi v] [S sa0 sk0 s] (fun g:Unit=>True) (fun g=>vb rr) (fun g=>[]):=by
 refine FTi Tryz.func44 fun w0 M0 F0=>?_
 unfold Qaa at QsK
 refine Fb 8 0 fun _=>Fo 0 fun ho2=>KS ?_
 refine Oq Va (KS ?_)
 refine Oq Vm (Oq Vm ?_)
 refine QaJ (Qet s v) fun rv3 hg4=>?_
 have hc5:=QBf s sa0 sk0 v pre rv3 hg4
 refine Oc [0] QA3 hc5 ?_
 rintro - he6
 unfold Qaa at he6
 refine Oq Qg8 (Oq Va (KS ?_))
 have hq:=q4 hrr (decide (0 <= rv3)) (by simp only [QaF,hg4,cs4]); subst hq
 exact Kr () rfl (.tmp rfl .nil) [] trivial
theorem QyA (s:List QbA) (sa0:Option Addr) (sk0:Nat) (fF:FuncId) (fC:List Value) (fp:QbA -> Bool) (fA:List SP) (hfc:Qab Tryz.prog fF = true) (hfF:∀ x ∈ s,Qaa x.From -> Qaa x.To -> FT Tryz.prog fF ([(.agg #[vi x.From,vi x.To]:Value)] ++ fC).toArray ([] ++ [Qg5 fA]) (fun _:Unit=>True) (fun _=>.bool (fp x)) (fun _=>[])) (rr:Int) (hrr:Qcp s fp = rr):FT Tryz.prog 175 #[vl sa0 sk0 s,.func (.func fF) #[] fC.toArray] [S sa0 sk0 s,Qg5 fA] (fun g:Unit=>Qaa rr) (fun g=>vi rr) (fun g=>[]):=by
 refine FTi Tryz.func175 fun w0 M0 F0=>Fb 16 0 fun _=>?_
 refine KS ?_
 refine Oq Va (KS ?_)
 refine Oq Vm (Oq (Qba QkQ) (Oq Vm (KS ?_)))
 refine Kl (γ:=Nat × Int) (fun (r2,Qea)=>⟨[(0,vl sa0 sk0 s),(1,.func (.func fF) #[] fC.toArray),(7,vi (s.length:Int)),(8,vi Qea)],[S sa0 sk0 s,Qg5 fA],Qbf s fp r2 Qea = Qbf s fp (((s.length:Int) - 0).toNat) 0 /\ r2 = ((s.length:Int) - Qea).toNat /\ (0:Int) <= Qea /\ Qea <= (s.length:Int) /\ (-9223372036854775808 <= Qea /\ Qea <= 9223372036854775807),r2⟩) (((s.length:Int) - 0).toNat,0) [0,1] ⟨rfl,rfl,aM1,aM1,aM1⟩ ?_
 rintro ⟨r2,Qea⟩ ⟨hM4,hr5,hi6,hi7,hk8⟩
 refine QaA fun _ _ hL hA=>?_; dsimp only at hL hA; subst hL hA
 refine Fb 16 0 fun _=>KS ?_
 refine Oq Qbh (KS ?_)
 refine Kc ?_ ?_
 ·intro h10
  have g11:=dt h10
  obtain ⟨r12,rfl⟩:=scc (n:=r2) aM1
  refine KS ?_
  refine Oq Vm (Oq Va (KS ?_))
  refine Oq Vm (Oq Vm (Oq Vm (Oq (Vi QkQ 0) ?_)))
  refine QcI Qea.toNat 0 rfl rng fun hb13 hb14=>?_
  unfold Qaa at hb13 hb14
  refine Oq (Qau Qj9 0) ?_
  refine Qj5 [2] rfl rfl rfl (OpC.clo (asv:=[(.agg #[vi ((s.getD Qea.toNat default).From),vi ((s.getD Qea.toNat default).To)]:Value)] ++ fC) rfl rfl hfc rfl (by simp)) (hfF (s.getD Qea.toNat default) (Qa4 rng)  pre pre) rfl fun _ _=>?_
  refine KS ?_
  refine Kc ?_ ?_
  ·intro h15
   refine KS ?_
   refine Oq Vm (Oq Va (KS ?_))
   have hR17:=q2 hM4 (.ret Qea) (by simp only [Qbf,h10,h15,cs4])
   have hq:=q4 hrr Qea (by simp only [Qcp,h10,h15,hR17,cs4]); subst hq
   exact Kr () rfl (.tmp rfl .nil) [] en
  intro h15
  refine KS ?_
  refine Oq QaS (Oq Vm (KS ?_))
  exact Kg (r12,(Qea + 1)) [1,2] ⟨(q3 hM4 (by simp only [Qbf,h10,h15,cs4])),aM1,aM1,aM1,aM1⟩
 intro h10
 have g19:=df h10
 obtain rfl:r2 = 0:=by omega
 refine Ke ?_
 have hR20:=q2 hM4 (.brk ()) (by simp only [Qbf,h10,cs4])
 refine KS ?_
 refine Oq Va (KS ?_)
 have hq:=q4 hrr (-1) (by simp only [Qcp,h10,hR20,cs4]); subst hq
 exact Kr () rfl (.tmp rfl .nil) [] en
theorem QyG (s:List QbA) (sa0:Option Addr) (sk0:Nat) (fF:FuncId) (fC:List Value) (fp:QbA -> Bool) (fA:List SP) (hfc:Qab Tryz.prog fF = true) (hfF:∀ x ∈ s,Qaa x.From -> Qaa x.To -> FT Tryz.prog fF ([(.agg #[vi x.From,vi x.To]:Value)] ++ fC).toArray ([] ++ [Qg5 fA]) (fun _:Unit=>True) (fun _=>.bool (fp x)) (fun _=>[])) (rr:Bool) (hrr:QbL s fp = rr):FT Tryz.prog 148 #[vl sa0 sk0 s,.func (.func fF) #[] fC.toArray] [S sa0 sk0 s,Qg5 fA] (fun g:Unit=>True) (fun g=>vb rr) (fun g=>[]):=by
 refine FTi Tryz.func148 fun w0 M0 F0=>Fb 16 0 fun _=>?_
 refine KS ?_
 refine Oq Va (KS ?_)
 refine Oq Vm (Oq Vm ?_)
 refine QaJ (Qcp s fp) fun rv2 hg3=>?_
 have hc4:=QyA s sa0 sk0 fF fC fp fA hfc hfF rv2 hg3
 refine Oc [0,1] QxP hc4 ?_
 rintro - he5
 unfold Qaa at he5
 refine Oq Qg8 (Oq Va (KS ?_))
 have hq:=q4 hrr (decide (0 <= rv2)) (by simp only [QbL,hg3,cs4]); subst hq
 exact Kr () rfl (.tmp rfl .nil) [] trivial
theorem QxK (x:QbA) (cap0P:Value) (cap0:QbA) (Quu:Qaa x.From) (QBJ:Qaa x.To) (QhM:Qaa cap0.From) (Qux:Qaa cap0.To) (rr:Bool) (hrr:QeQ x cap0 = rr):FT Tryz.prog 149 #[.agg #[vi x.From,vi x.To],cap0P] [pv cap0P [vi cap0.From,vi cap0.To]] (fun g:Unit=>True) (fun g=>vb rr) (fun g=>[]):=by
 refine FTi Tryz.func149 fun w0 M0 F0=>?_
 unfold Qaa at Quu QBJ QhM Qux
 refine KS ?_
 refine Oa (Ab [vi x.From,vi x.To]) fun p1=>Oq Va (KS ?_)
 refine Oq (Qau Qj9 0) (Oq (Qau Qj9 1) (Oq (Qzv QvP (l:=[x.From,x.To]) (m:=[cap0.From,cap0.To])) (Oq Va (KS ?_))))
 have hq:=q4 hrr ([x.From,x.To] == [cap0.From,cap0.To]) (by simp only [QeQ,cs4]); subst hq
 exact Kr () rfl (.tmp rfl .nil) [] trivial
theorem Qvl (t:Qad) (ta1:Option Addr) (tk1:Nat) (ta3:Option Addr) (tk3:Nat) (ta4:Option Addr) (tk4:Nat) (c:QbA) (Qkl:Qaa t.Gen.Width) (Qkm:Qaa t.Kill.Width) (QyW:Qaa c.From) (QBK:Qaa c.To) (rr:Bool) (hrr:Qfa t c = rr):FT Tryz.prog 110 #[.agg #[vi t.Gen.Width,vl ta1 tk1 t.Gen.Words,vi t.Kill.Width,vl ta3 tk3 t.Kill.Words,vl ta4 tk4 t.Copies],.agg #[vi c.From,vi c.To]] [S ta1 tk1 t.Gen.Words,S ta3 tk3 t.Kill.Words,S ta4 tk4 t.Copies] (fun g:Unit=>True) (fun g=>vb rr) (fun g=>[]):=by
 refine FTi Tryz.func110 fun w0 M0 F0=>?_
 unfold Qaa at Qkl Qkm QyW QBK
 refine Fb 8 0 fun _=>Fb 8 1 fun _=>Fb 16 2 fun _=>KS ?_
 refine Oa (Ab [vi t.Gen.Width,vl ta1 tk1 t.Gen.Words,vi t.Kill.Width,vl ta3 tk3 t.Kill.Words,vl ta4 tk4 t.Copies]) fun p4=>Oa (Ab [vi c.From,vi c.To]) fun p5=>Oq Va (KS ?_)
 refine Oq (Vfa Qeo 1) (Oq (Qah Qmn 1) (Oq (Vf [p5]) ?_))
 refine QiW (Ent.pall [0] rfl rfl) ?_
 refine QaJ (QbL t.Copies (fun x=>QeQ x c)) fun rv6 hg7=>?_
 have hc8:=QyG t.Copies ta4 tk4 149 [p5] (fun x=>QeQ x c) [pv p5 [vi c.From,vi c.To]] Qxt (fun x hx hq0 hq1=>Qh9 (A1:=_) (QxK x  p5 c hq0 hq1 pre pre _ rfl)) rv6 hg7
 refine Oc [5,0] Qx7 hc8 ?_
 rintro - -
 refine Oq Va (KS ?_)
 have hq:=q4 hrr rv6 (by simp only [Qfa,hg7,cs4]); subst hq
 exact Kr () rfl (.tmp rfl .nil) [] trivial
theorem QzY (t:Qad) (ta1:Option Addr) (tk1:Nat) (ta3:Option Addr) (tk3:Nat) (ta4:Option Addr) (tk4:Nat) (from_:Int) (to_:Int) (Qkl:Qaa t.Gen.Width) (Qkm:Qaa t.Kill.Width) (hfrom__0:Qaa from_) (hto__0:Qaa to_) (rr:Bool) (hrr:QdX t from_ to_ = rr):FT Tryz.prog 77 #[.agg #[vi t.Gen.Width,vl ta1 tk1 t.Gen.Words,vi t.Kill.Width,vl ta3 tk3 t.Kill.Words,vl ta4 tk4 t.Copies],vi from_,vi to_] [S ta1 tk1 t.Gen.Words,S ta3 tk3 t.Kill.Words,S ta4 tk4 t.Copies] (fun g:Unit=>True) (fun g=>vb rr) (fun g=>[]):=by
 refine FTi Tryz.func77 fun w0 M0 F0=>?_
 unfold Qaa at Qkl Qkm hfrom__0 hto__0
 refine Fb 8 0 fun _=>Fb 8 1 fun _=>Fb 16 2 fun _=>KS ?_
 refine Oa (Ab [vi t.Gen.Width,vl ta1 tk1 t.Gen.Words,vi t.Kill.Width,vl ta3 tk3 t.Kill.Words,vl ta4 tk4 t.Copies]) fun p4=>Oq Va (KS ?_)
 refine Oq Vm (Oq Vm (Oq QbW (Oq Vm ?_)))
 refine Js 10 ?_ ?_
 ·intro h5
  have g6:=eq_of_beq h5
  refine Oq (Vfa Qgj 0) (Oq (Qmr Qax 0 [vi t.Kill.Width,vl ta3 tk3 t.Kill.Words]) (Oq Vm ?_))
  refine QaJ (Qfe t.Kill to_) fun rv7 hg8=>?_
  have hc9:=QtR t.Kill ta3 tk3 to_ pre pre rv7 hg8
  refine Oc [2] QtI hc9 ?_
  rintro - -
  refine Oq Qcy (Oq Vpt (Oq Vm ?_))
  refine Js 17 ?_ ?_
  ·intro h10
   have h12:=not_true h10
   refine Osk (Osk (Osk (Osk (Osk (Oq Vpt (Oq Va (KS ?_)))))))
   have hq:=q4 hrr true (by simp only [QdX,h5,h10,h12,hg8,cs4]); subst hq
   exact Kr () rfl (.tmp rfl .nil) [] trivial
  intro h10
  have h15:=not_false h10
  refine Oq (Qau Qek 0) (Oq Vm (Oq Vm (Oq (Vbd Qt8 [vi from_,vi to_]) ?_)))
  refine QaJ (Qfa t (QbA.mk from_ to_)) fun rv17 hg18=>?_
  have hc19:=Qvl t ta1 tk1 ta3 tk3 ta4 tk4 ((QbA.mk from_ to_)) pre pre pre pre rv17 hg18
  refine Oc [1,2,3] Qvj hc19 ?_
  rintro - -
  refine Oq Vpf (Oq Va (KS ?_))
  have hq:=q4 hrr rv17 (by simp only [QdX,h5,h10,h15,hg8,hg18,cs4]); subst hq
  exact Kr () rfl (.tmp rfl .nil) [] trivial
 intro h5
 have g20:=ne_of_beq_false h5
 refine Osk (Osk (Osk (Osk (Osk (Oq Vpf (Oq Vm (Oq (Qau Qek 0) (Oq Vm (Oq Vm ?_)))))))))
 refine Oq (Vbd Qt8 [vi from_,vi to_]) ?_
 refine QaJ (Qfa t (QbA.mk from_ to_)) fun rv21 hg22=>?_
 have hc23:=Qvl t ta1 tk1 ta3 tk3 ta4 tk4 ((QbA.mk from_ to_)) pre pre pre pre rv21 hg22
 refine Oc [1,2,3] Qvj hc23 ?_
 rintro - -
 refine Oq Vpf (Oq Va (KS ?_))
 have hq:=q4 hrr rv21 (by simp only [QdX,h5,hg22,cs4]); subst hq
 exact Kr () rfl (.tmp rfl .nil) [] trivial
theorem Qy3 (t:Qad) (ta1:Option Addr) (tk1:Nat) (ta3:Option Addr) (tk3:Nat) (ta4:Option Addr) (tk4:Nat) (from_:Int) (to_:Int) (Qkl:Qaa t.Gen.Width) (Qkm:Qaa t.Kill.Width) (hfrom__0:Qaa from_) (hto__0:Qaa to_) (rr:Bool) (hrr:Qb8 t from_ to_ = rr):FT Tryz.prog 45 #[.agg #[vi t.Gen.Width,vl ta1 tk1 t.Gen.Words,vi t.Kill.Width,vl ta3 tk3 t.Kill.Words,vl ta4 tk4 t.Copies],vi from_,vi to_] [S ta1 tk1 t.Gen.Words,S ta3 tk3 t.Kill.Words,S ta4 tk4 t.Copies] (fun g:Unit=>True) (fun g=>vb rr) (fun g=>[]):=by
 refine FTi Tryz.func45 fun w0 M0 F0=>?_
 unfold Qaa at Qkl Qkm hfrom__0 hto__0
 refine Fb 8 0 fun _=>Fb 8 1 fun _=>Fb 16 2 fun _=>KS ?_
 refine Oa (Ab [vi t.Gen.Width,vl ta1 tk1 t.Gen.Words,vi t.Kill.Width,vl ta3 tk3 t.Kill.Words,vl ta4 tk4 t.Copies]) fun p4=>Oq Va (KS ?_)
 refine Oq (Qau Qek 0) ?_
 refine QaJ (Qcu t) fun rv5 hg6=>?_
 have hc7:=QxG t ta1 tk1 ta3 tk3 ta4 tk4 pre pre rv5 hg6
 refine Oc [1,2,3] Qx6 hc7 ?_
 rintro - -
 refine Oq Vm ?_
 refine Js 9 ?_ ?_
 ·intro h8
  refine Oq (Qau Qek 0) (Oq Vm ?_)
  refine QaJ (Qg2 t from_) fun rv10 hg11=>?_
  have hc12:=Qr4 t ta1 tk1 ta3 tk3 ta4 tk4 from_ pre pre pre rv10 hg11
  refine Oc [1,2,3] Qsz hc12 ?_
  rintro - -
  refine Oq Vpt (Oq Vm ?_)
  refine Js 14 ?_ ?_
  ·intro h13
   refine Oq (Qau Qek 0) (Oq Vm ?_)
   refine QaJ (Qg2 t to_) fun rv15 hg16=>?_
   have hc17:=Qr4 t ta1 tk1 ta3 tk3 ta4 tk4 to_ pre pre pre rv15 hg16
   refine Oc [1,2,3] Qsz hc17 ?_
   rintro - -
   refine Oq Vpt (Oq Vm ?_)
   refine Js 19 ?_ ?_
   ·intro h18
    refine Oq (Qau Qek 0) (Oq Vm (Oq Vm ?_))
    refine QaJ (QdX t from_ to_) fun rv20 hg21=>?_
    have hc22:=QzY t ta1 tk1 ta3 tk3 ta4 tk4 from_ to_ pre pre pre pre rv20 hg21
    refine Oc [1,2,3] QAB hc22 ?_
    rintro - -
    refine Oq Vpt (Oq Va (KS ?_))
    have hq:=q4 hrr rv20 (by simp only [Qb8,h8,h13,h18,hg6,hg11,hg16,hg21,cs4]); subst hq
    exact Kr () rfl (.tmp rfl .nil) [] trivial
   intro h18
   refine Osk (Osk (Osk (Osk (Oq Vpf (Oq Va (KS ?_))))))
   have hq:=q4 hrr false (by simp only [Qb8,h8,h13,h18,hg6,hg11,hg16,cs4]); subst hq
   exact Kr () rfl (.tmp rfl .nil) [] trivial
  intro h13
  refine Osk (Osk (Osk (Oq Vpf (Oq Vm (Osk (Osk (Osk (Osk (Oq Vpf ?_)))))))))
  refine Oq Va (KS ?_)
  have hq:=q4 hrr false (by simp only [Qb8,h8,h13,hg6,hg11,cs4]); subst hq
  exact Kr () rfl (.tmp rfl .nil) [] trivial
 intro h8
 refine Osk (Osk (Osk (Oq Vpf (Oq Vm (Osk (Osk (Osk (Oq Vpf (Oq Vm ?_)))))))))
 refine Osk (Osk (Osk (Osk (Oq Vpf (Oq Va (KS ?_))))))
 have hq:=q4 hrr false (by simp only [Qb8,h8,hg6,cs4]); subst hq
 exact Kr () rfl (.tmp rfl .nil) [] trivial
theorem QwL (s:Qac) (sa1:Option Addr) (sk1:Nat) (sa2:Option Addr) (sk2:Nat) (sa3:Option Addr) (sk3:Nat) (n:Int) (bit:Int) (l:List Qas) (la0:Option Addr) (lk0:Nat) (Qcc:Qaa s.Width) (Qgv:Qaa n) (Qfj:Qaa bit) (rr:Bool) (hrr:Qbe s n bit l = rr):FT Tryz.prog 14 #[.agg #[vi s.Width,vl sa1 sk1 s.Deps,vl sa2 sk2 s.Transfers,vl sa3 sk3 s.Boundary],vi n,vi bit,vl la0 lk0 l] [S sa1 sk1 s.Deps,S sa2 sk2 s.Transfers,S sa3 sk3 s.Boundary,S la0 lk0 l] (fun g:Unit=>True) (fun g=>vb rr) (fun g=>[]):=by
 refine FTi Tryz.func14 fun w0 M0 F0=>?_
 unfold Qaa at Qcc Qgv Qfj
 refine Fb 24 0 fun _=>Fb 88 1 fun _=>Fb 32 2 fun _=>Fb 16 3 fun _=>KS ?_
 refine Oa (Ab [vi s.Width,vl sa1 sk1 s.Deps,vl sa2 sk2 s.Transfers,vl sa3 sk3 s.Boundary]) fun p5=>Oq Va (KS ?_)
 refine Oq (Qau Qen 0) (Oq Vm (Oq Vm ?_))
 refine QaJ (Qar s n bit) fun rv6 hg7=>?_
 have hc8:=QwE s sa1 sk1 sa2 sk2 sa3 sk3 n bit pre pre pre rv6 hg7
 refine Oc [1,2,3] Qwy hc8 ?_
 rintro - he9
 unfold Qaa at he9
 refine Oq QfZ (Oq Vm ?_)
 refine Js 16 ?_ ?_
 ·intro h10
  have g11:=QaB h10
  refine Osk (Osk (Osk (Oq Vpt (Oq Vm (Osk (Osk (Osk (Osk (Osk ?_)))))))))
  refine Osk (Osk (Osk (Osk (Osk (Oq Vpt (KS ?_))))))
  refine Kt (KS ?_)
  refine Oq Va (KS ?_)
  have hq:=q4 hrr false (by simp only [Qbe,h10,hg7,cs4]); subst hq
  exact Kr () rfl (.tmp rfl .nil) [] trivial
 intro h10
 have g12:=Qae h10
 have hwa:=Qqz (by assumption:Qar s _ _ = rv6) h10; have hwt:=hwa.2.1; have hwb:=hwa.1.bl; have hwc:=hwa.1.tl
 refine Oq Vm (Oq (Qba QcX) (Oq QbW (Oq Vpf (Oq Vm ?_))))
 refine Js 21 ?_ ?_
 ·intro h13
  have g14:=eq_of_beq h13
  refine Osk (Osk (Osk (Osk (Osk (Osk (Osk (Osk (Osk (Osk ?_)))))))))
  refine Oq Vpt (KS ?_)
  refine Kt (KS ?_)
  refine Oq Va (KS ?_)
  have hq:=q4 hrr false (by simp only [Qbe,h10,h13,hg7,cs4]); subst hq
  exact Kr () rfl (.tmp rfl .nil) [] trivial
 intro h13
 have g15:=ne_of_beq_false h13
 refine Oq Vm (Oq Vm (Oq (Qba QcX) (Oq QjU (Oq (Vi QcX 4) ?_))))
 refine Qbq (((l.length:Int) - 1):Int).toNat 4 rfl rng fun hb16 hb17=>?_
 unfold Qaa at hb16 hb17
 refine Oq (Qau Qfo 0) (Oq Vm (Oq Vm (Oq (Vbd QrK [vi n,vi bit]) (Oq (QyF Qtw (l:=[(l.getD (((l.length:Int) - 1):Int).toNat default).Node,(l.getD (((l.length:Int) - 1):Int).toNat default).Bit]) (m:=[n,bit])) (Oq Vpf (KS ?_))))))
 refine Kc ?_ ?_
 ·intro h18
  have g19:=QaB h18
  refine KS ?_
  refine Oq Va (KS ?_)
  have hq:=q4 hrr false (by simp only [Qbe,h10,h13,h18,hg7,cs4]); subst hq
  exact Kr () rfl (.tmp rfl .nil) [] trivial
 intro h18
 have g20:=Qae h18
 refine KS ?_
 refine Oq Vm (Oq (Qba QcX) (Oq Vm (KS ?_)))
 refine Kl (γ:=Nat × Int) (fun (r21,Qa2)=>⟨[(3,vl la0 lk0 l),(4,p5),(33,vl la0 lk0 l),(34,vi (l.length:Int)),(35,vi Qa2)],[pv p5 [vi s.Width,vl sa1 sk1 s.Deps,vl sa2 sk2 s.Transfers,vl sa3 sk3 s.Boundary],S sa1 sk1 s.Deps,S sa2 sk2 s.Transfers,S sa3 sk3 s.Boundary,S la0 lk0 l],QaM s l r21 Qa2 = QaM s l (((l.length:Int) - 0).toNat) 0 /\ r21 = ((l.length:Int) - Qa2).toNat /\ (0:Int) <= Qa2 /\ Qa2 <= (l.length:Int) /\ (-9223372036854775808 <= Qa2 /\ Qa2 <= 9223372036854775807),r21⟩) (((l.length:Int) - 0).toNat,0) [1,2,3,4,5] ⟨rfl,rfl,aM1,aM1,aM1⟩ ?_
 rintro ⟨r21,Qa2⟩ ⟨hM23,hr24,hi25,hi26,hk27⟩
 refine QaA fun _ _ hL hA=>?_; dsimp only at hL hA; subst hL hA
 refine Fb 24 1 fun _=>Fb 88 2 fun _=>Fb 32 3 fun _=>Fb 16 4 fun _=>KS ?_
 refine Oq Qbh (KS ?_)
 refine Kc ?_ ?_
 ·intro h32
  have g33:=dt h32
  obtain ⟨r34,rfl⟩:=scc (n:=r21) aM1
  refine KS ?_
  refine Oq Vm (Oq (Vi QcX 4) ?_)
  refine Qbq Qa2.toNat 4 rfl rng fun hb35 hb36=>?_
  unfold Qaa at hb35 hb36
  refine Oq (Qau Qfo 0) (Oa (Al Qqp [vi 0,vi 0]) fun p37=>Oq Va (Ost (Scl [0] Qfo [vi ((l.getD Qa2.toNat default).Node),vi ((l.getD Qa2.toNat default).Bit)]) (KS ?_)))
  refine Oq (Qau Qen 2) (Oq (Vfa Qc8 0) (Oq (Qah sh3 0) (Oq (Vfa QfA 0) (Oq (Qah sh3 0) ?_))))
  refine QaJ (Qar s ((l.getD Qa2.toNat default).Node) ((l.getD Qa2.toNat default).Bit)) fun rv38 hg39=>?_
  have hc40:=QwE s sa1 sk1 sa2 sk2 sa3 sk3 ((l.getD Qa2.toNat default).Node) ((l.getD Qa2.toNat default).Bit) pre pre pre rv38 hg39
  refine Oc [3,4,5] Qwy hc40 ?_
  rintro - he41
  unfold Qaa at he41
  refine Oq QfZ (Oq Vm ?_)
  refine Js 47 ?_ ?_
  ·intro h42
   have g43:=QaB h42
   refine Osk (Osk (Osk (Osk (Osk (Osk (Osk (Osk (Oq Vpt (KS ?_)))))))))
   refine Kt (KS ?_)
   refine Oq Va (KS ?_)
   have hR44:=q2 hM23 (.ret false) (by simp only [QaM,h32,h42,hg39,cs4])
   have hq:=q4 hrr false (by simp only [Qbe,h10,h13,h18,h32,h42,hg7,hg39,hR44,cs4]); subst hq
   exact Kr () rfl (.tmp rfl .nil) [] trivial
  intro h42
  have g45:=Qae h42
  have hwa:=Qqz (by assumption:Qar s _ _ = rv38) h42; have hwt:=hwa.2.1; have hwb:=hwa.1.bl; have hwc:=hwa.1.tl
  refine Oq Vm (Oq QbW (Oq Vm ?_))
  refine Js 50 ?_ ?_
  ·intro h46
   have g47:=eq_of_beq h46
   refine Oq (Qau Qen 2) (Oq (Qau Qfo 0) ?_)
   refine QaJ (QdP s (l.getD Qa2.toNat default)) fun rv48 hg49=>?_
   have hc50:=Qzy s sa1 sk1 sa2 sk2 sa3 sk3 ((l.getD Qa2.toNat default)) pre pre pre hwa.1 hwa.2.1 rv48 hg49
   refine Oc [3,4,5] QzD hc50 ?_
   rintro - -
   refine Oq Qcy (Oq Vpt (Oq Vpf (KS ?_)))
   refine Kc ?_ ?_
   ·intro h51
    have h53:=not_true h51
    refine KS ?_
    refine Oq Va (KS ?_)
    have hR55:=q2 hM23 (.ret false) (by simp only [QaM,h32,h42,h46,h51,h53,hg39,hg49,cs4])
    have hq:=q4 hrr false (by simp only [Qbe,h10,h13,h18,h32,h42,h46,h51,h53,hg7,hg39,hg49,hR55,cs4]); subst hq
    exact Kr () rfl (.tmp rfl .nil) [] trivial
   intro h51
   have h57:=not_false h51
   try (have hq:=hwa.1.dep_mem hwa.2.1.1 hwa.2.1.2 _ ((Qel _ _).1 ((by assumption:QaF _ _ = rv48).trans h57)))
   refine KS ?_
   refine Jp 0 fun hp59=>?_
   refine QaE (decide (0 < Qa2)) ?_ ?_
   ·intro h60
    have g61:=dt h60
    refine QdV ((l.getD Qa2.toNat default).Node:Int).toNat 4 rfl rng fun a62 k63=>?_
    refine Fb 8 1 fun _=>Fo 1 fun ho65=>?_
    refine Qbq ((Qa2 - 1):Int).toNat 9 rfl rng fun hb66 hb67=>?_
    unfold Qaa at hb66 hb67
    refine QaJ (QaF (s.Deps.getD ((l.getD Qa2.toNat default).Node:Int).toNat []) ((l.getD ((Qa2 - 1):Int).toNat default).Node)) fun rv68 hg69=>?_
    refine QaE rv68 ?_ ?_
    ·intro h70
     try (have hq:=hwa.1.dep_mem hwa.2.1.1 hwa.2.1.2 _ ((Qel _ _).1 ((by assumption:QaF _ _ = rv68).trans h70)))
     refine QaU ((l.getD ((Qa2 - 1):Int).toNat default).Node:Int).toNat 8 rfl rng fun a72 k73 a74 k75 a76 k77 hb78 hb79=>?_
     unfold Qaa at hb78 hb79
     refine Fb 8 1 fun _=>Fb 8 2 fun _=>Fb 16 3 fun _=>?_
     refine Qam [0,1,3,7,15,7,39,127,255,7,7,1031,3591,7687,15879,32767,65535,131071,262143,131071,131071,1179647,3801087,7995391,16383999,33554431,67108863,131071,131071,268566527,939655167,2013396991,4160880639,131071,8590065663,34359738367,68719476735,137438953471,274877906943] Qco ?_
     refine Dv [] Vm (Db h60 [] Qgr (Dv [] Vm (Dv [10] (Vfa QbI 0) (Dv [10] (Qah QgG 0) (Dv [7] (Vfa Qc8 0) (Dv [8] (Qah sh3 0) (Dv [11] (Vi Qfr 0) (Dv [5] (Vld QjI 0) (Dv [] Vm ?_)))))))))
     refine Dv [] Vm (Dv [] QjU (Dv [14] (Vi QcX 0) (Dv [4] (Vfa Qc8 0) (Dv [4] (Qah sh3 0) ?_))))
     refine Dx [6] [] [1,0] (fun G=>vb true) [fun G=>SP.fact (True)] (fun G=>xC [0] Qwz (QwM ((s.Deps.getD ((l.getD Qa2.toNat default).Node:Int).toNat [])) a62 k63 ((l.getD ((Qa2 - 1):Int).toNat default).Node) pre rv68 hg69)) ?_ (hV:=fun _ _=>congrArg Value.bool h70)
     refine Dv [] Vm (Dv [10] (Vfa QcW 0) (Dv [10] (Qah QjR 0) (Dv [] Vm (Dv [] Vm (Dv [] QjU (Dv [14] (Vi QcX 0) (Dv [4] (Vfa Qc8 0) (Dv [4] (Qah sh3 0) (Dv [12] (Vi QiI 0) ?_)))))))))
     refine Dv [0] (Qau Qek 0) (Dv [] Vm (Dv [] Vm (Dv [] QjU (Dv [14] (Vi QcX 0) (Dv [4] (Vfa QfA 0) (Dv [4] (Qah sh3 0) (Dv [7] (Vfa QfA 0) (Dv [8] (Qah sh3 0) ?_))))))))
     refine QaJ (Qb8 (s.Transfers.getD ((l.getD ((Qa2 - 1):Int).toNat default).Node:Int).toNat default) ((l.getD ((Qa2 - 1):Int).toNat default).Bit) ((l.getD Qa2.toNat default).Bit)) fun rv83 hg84=>?_
     refine Dx [1,2,3] [] [1,2,3,0] (fun G=>vb rv83) [fun G=>SP.fact (True)] (fun G=>xC [0,1,2] Qzx (Qy3 ((s.Transfers.getD ((l.getD ((Qa2 - 1):Int).toNat default).Node:Int).toNat default)) a72 k73 a74 k75 a76 k77 ((l.getD ((Qa2 - 1):Int).toNat default).Bit) ((l.getD Qa2.toNat default).Bit) pre pre pre pre rv83 hg84)) (Dv [] Vpt (Dv [] Qcy (Dv [] Vpt ?_)))
     refine Dn ⟨by kernel_rfl,fun G=>?_⟩
     refine Jw2 [(3,vl la0 lk0 l),(4,p5),(33,vl la0 lk0 l),(34,vi (l.length:Int)),(35,vi Qa2),(95,vb (!rv83))] [0,1,2,3,4,5,6,7,8,9,10,11,12,13,14] [SP.fact (True),SP.fact (True)] ?_
     refine Jk [0,1,2,3,4,5,6,8,8,9,10,11,12,13] ?_
     refine Kc ?_ ?_
     ·intro h85
      have h87:=not_true h85
      refine KS ?_
      refine Oq Va (KS ?_)
      have hR89:=q2 hM23 (.ret false) (by simp only [QaM,h32,h42,h46,h51,h57,h60,h70,h85,h87,hg39,hg49,hg69,hg84,cs4])
      have hq:=q4 hrr false (by simp only [Qbe,h10,h13,h18,h32,h42,h46,h51,h57,h60,h70,h85,h87,hg7,hg39,hg49,hg69,hg84,hR89,cs4]); subst hq
      exact Kr () rfl (.tmp rfl .nil) [] trivial
     intro h85
     have h91:=not_false h85
     try (have hq:=hwa.1.dep_mem hwa.2.1.1 hwa.2.1.2 _ ((Qel _ _).1 ((by assumption:QaF _ _ = rv83).trans h91)))
     refine KS ?_
     refine Oq QaS (Oq Vm (KS ?_))
     exact Kg (r34,(Qa2 + 1)) [9,10,11,12,13] ⟨(q3 hM23 (by simp only [QaM,h32,h42,h46,h51,h57,h60,h70,h85,h91,hg39,hg49,hg69,hg84,cs4])),aM1,aM1,aM1,aM1⟩
    intro h70
    refine Qam [0,1,3,7,15,7,39,127,255,7,7,1031,3591,7687,15879,32767,65535,131071,262143,131071,131071,1179647,3801087,7995391,16383999,33554431,67108863,131071,131071,268566527,939655167,2013396991,4160880639,131071,8590065663,34359738367,68719476735,137438953471,274877906943] Qco ?_
    refine Dv [] Vm (Db h60 [] Qgr (Dv [] Vm (Dv [6] (Vfa QbI 0) (Dv [6] (Qah QgG 0) (Dv [3] (Vfa Qc8 0) (Dv [4] (Qah sh3 0) (Dv [7] (Vi Qfr 0) (Dv [1] (Vld QjI 0) (Dv [] Vm ?_)))))))))
    refine Dv [] Vm (Dv [] QjU (Dv [10] (Vi QcX 0) (Dv [0] (Vfa Qc8 0) (Dv [0] (Qah sh3 0) ?_))))
    refine Dx [2] [] [1,0] (fun G=>vb false) [fun G=>SP.fact (True)] (fun G=>xC [0] Qwz (QwM ((s.Deps.getD ((l.getD Qa2.toNat default).Node:Int).toNat [])) a62 k63 ((l.getD ((Qa2 - 1):Int).toNat default).Node) pre rv68 hg69)) ?_ (hV:=fun _ _=>congrArg Value.bool h70)
    refine Dv [] Vm (Ds (Ds (Ds (Ds (Ds (Ds (Ds (Ds (Ds ?_)))))))))
    refine Ds (Ds (Ds (Ds (Ds (Ds (Ds (Ds (Ds (Ds ?_)))))))))
    refine Dv [] Vpf (Dv [] Qcy (Dv [] Vpt ?_))
    refine Dn ⟨by kernel_rfl,fun G=>?_⟩
    refine Jw2 [(3,vl la0 lk0 l),(4,p5),(33,vl la0 lk0 l),(34,vi (l.length:Int)),(35,vi Qa2),(95,vb true)] [0,1,2,3,4,5,6,7,8,9,10] [SP.fact (True)] ?_
    refine Jk [0,1,2,4,4,5,6,7,8,9] (Kt ?_)
    refine KS ?_
    refine Oq Va (KS ?_)
    have hR94:=q2 hM23 (.ret false) (by simp only [QaM,h32,h42,h46,h51,h57,h60,h70,hg39,hg49,hg69,cs4])
    have hq:=q4 hrr false (by simp only [Qbe,h10,h13,h18,h32,h42,h46,h51,h57,h60,h70,hg7,hg39,hg49,hg69,hR94,cs4]); subst hq
    exact Kr () rfl (.tmp rfl .nil) [] trivial
   intro h60
   have g95:=df h60
   refine Kq [0,1,3,7,15,7,39,127,255,7,7,1031,3591,7687,15879,32767,65535,131071,262143,131071,131071,1179647,3801087,7995391,16383999,33554431,67108863,131071,131071,268566527,939655167,2013396991,4160880639,131071,8590065663,34359738367,68719476735,137438953471,274877906943] Qco ?_
   refine Qv [] Vm (Qb h60 [] Qgr (Qv [] Vm (Qs (Qs (Qs (Qs (Qs (Qs (Qs ?_)))))))))
   refine Qs (Qs (Qs (Qs (Qs (Qs (Qs (Qs (Qs (Qs ?_)))))))))
   refine Qs (Qs (Qs (Qs (Qs (Qs (Qs (Qs (Qs (Qs ?_)))))))))
   refine Qs (Qs (Qs (Qs (Qs (Qs (Qs (Qs (Qv [] Vpf ?_))))))))
   refine Qn ⟨by kernel_rfl,?_⟩
   refine Kf (KS ?_)
   refine Oq QaS (Oq Vm (KS ?_))
   exact Kg (r34,(Qa2 + 1)) [3,4,5,6,7] ⟨(q3 hM23 (by simp only [QaM,h32,h42,h46,h51,h57,h60,hg39,hg49,cs4])),aM1,aM1,aM1,aM1⟩
  intro h46
  have g96:=ne_of_beq_false h46
  refine Osk (Osk (Osk (Osk (Oq Vpf (Oq Vpf (KS ?_))))))
  refine Kf (KS ?_)
  refine Jp 0 fun hp97=>?_
  refine QaE (decide (0 < Qa2)) ?_ ?_
  ·intro h98
   have g99:=dt h98
   refine QdV ((l.getD Qa2.toNat default).Node:Int).toNat 4 rfl rng fun a100 k101=>?_
   refine Fb 8 1 fun _=>Fo 1 fun ho103=>?_
   refine Qbq ((Qa2 - 1):Int).toNat 9 rfl rng fun hb104 hb105=>?_
   unfold Qaa at hb104 hb105
   refine QaJ (QaF (s.Deps.getD ((l.getD Qa2.toNat default).Node:Int).toNat []) ((l.getD ((Qa2 - 1):Int).toNat default).Node)) fun rv106 hg107=>?_
   refine QaE rv106 ?_ ?_
   ·intro h108
    try (have hq:=hwa.1.dep_mem hwa.2.1.1 hwa.2.1.2 _ ((Qel _ _).1 ((by assumption:QaF _ _ = rv106).trans h108)))
    refine QaU ((l.getD ((Qa2 - 1):Int).toNat default).Node:Int).toNat 8 rfl rng fun a110 k111 a112 k113 a114 k115 hb116 hb117=>?_
    unfold Qaa at hb116 hb117
    refine Fb 8 1 fun _=>Fb 8 2 fun _=>Fb 16 3 fun _=>?_
    refine Qam [0,1,3,7,15,7,39,127,255,7,7,1031,3591,7687,15879,32767,65535,131071,262143,131071,131071,1179647,3801087,7995391,16383999,33554431,67108863,131071,131071,268566527,939655167,2013396991,4160880639,131071,8590065663,34359738367,68719476735,137438953471,274877906943] Qco ?_
    refine Dv [] Vm (Db h98 [] Qgr (Dv [] Vm (Dv [10] (Vfa QbI 0) (Dv [10] (Qah QgG 0) (Dv [7] (Vfa Qc8 0) (Dv [8] (Qah sh3 0) (Dv [11] (Vi Qfr 0) (Dv [5] (Vld QjI 0) (Dv [] Vm ?_)))))))))
    refine Dv [] Vm (Dv [] QjU (Dv [14] (Vi QcX 0) (Dv [4] (Vfa Qc8 0) (Dv [4] (Qah sh3 0) ?_))))
    refine Dx [6] [] [1,0] (fun G=>vb true) [fun G=>SP.fact (True)] (fun G=>xC [0] Qwz (QwM ((s.Deps.getD ((l.getD Qa2.toNat default).Node:Int).toNat [])) a100 k101 ((l.getD ((Qa2 - 1):Int).toNat default).Node) pre rv106 hg107)) ?_ (hV:=fun _ _=>congrArg Value.bool h108)
    refine Dv [] Vm (Dv [10] (Vfa QcW 0) (Dv [10] (Qah QjR 0) (Dv [] Vm (Dv [] Vm (Dv [] QjU (Dv [14] (Vi QcX 0) (Dv [4] (Vfa Qc8 0) (Dv [4] (Qah sh3 0) (Dv [12] (Vi QiI 0) ?_)))))))))
    refine Dv [0] (Qau Qek 0) (Dv [] Vm (Dv [] Vm (Dv [] QjU (Dv [14] (Vi QcX 0) (Dv [4] (Vfa QfA 0) (Dv [4] (Qah sh3 0) (Dv [7] (Vfa QfA 0) (Dv [8] (Qah sh3 0) ?_))))))))
    refine QaJ (Qb8 (s.Transfers.getD ((l.getD ((Qa2 - 1):Int).toNat default).Node:Int).toNat default) ((l.getD ((Qa2 - 1):Int).toNat default).Bit) ((l.getD Qa2.toNat default).Bit)) fun rv121 hg122=>?_
    refine Dx [1,2,3] [] [1,2,3,0] (fun G=>vb rv121) [fun G=>SP.fact (True)] (fun G=>xC [0,1,2] Qzx (Qy3 ((s.Transfers.getD ((l.getD ((Qa2 - 1):Int).toNat default).Node:Int).toNat default)) a110 k111 a112 k113 a114 k115 ((l.getD ((Qa2 - 1):Int).toNat default).Bit) ((l.getD Qa2.toNat default).Bit) pre pre pre pre rv121 hg122)) (Dv [] Vpt (Dv [] Qcy (Dv [] Vpt ?_)))
    refine Dn ⟨by kernel_rfl,fun G=>?_⟩
    refine Jw2 [(3,vl la0 lk0 l),(4,p5),(33,vl la0 lk0 l),(34,vi (l.length:Int)),(35,vi Qa2),(95,vb (!rv121))] [0,1,2,3,4,5,6,7,8,9,10,11,12,13,14] [SP.fact (True),SP.fact (True)] ?_
    refine Jk [0,1,2,3,4,5,6,8,8,9,10,11,12,13] ?_
    refine Kc ?_ ?_
    ·intro h123
     have h125:=not_true h123
     refine KS ?_
     refine Oq Va (KS ?_)
     have hR127:=q2 hM23 (.ret false) (by simp only [QaM,h32,h42,h46,h98,h108,h123,h125,hg39,hg107,hg122,cs4])
     have hq:=q4 hrr false (by simp only [Qbe,h10,h13,h18,h32,h42,h46,h98,h108,h123,h125,hg7,hg39,hg107,hg122,hR127,cs4]); subst hq
     exact Kr () rfl (.tmp rfl .nil) [] trivial
    intro h123
    have h129:=not_false h123
    try (have hq:=hwa.1.dep_mem hwa.2.1.1 hwa.2.1.2 _ ((Qel _ _).1 ((by assumption:QaF _ _ = rv121).trans h129)))
    refine KS ?_
    refine Oq QaS (Oq Vm (KS ?_))
    exact Kg (r34,(Qa2 + 1)) [9,10,11,12,13] ⟨(q3 hM23 (by simp only [QaM,h32,h42,h46,h98,h108,h123,h129,hg39,hg107,hg122,cs4])),aM1,aM1,aM1,aM1⟩
   intro h108
   refine Qam [0,1,3,7,15,7,39,127,255,7,7,1031,3591,7687,15879,32767,65535,131071,262143,131071,131071,1179647,3801087,7995391,16383999,33554431,67108863,131071,131071,268566527,939655167,2013396991,4160880639,131071,8590065663,34359738367,68719476735,137438953471,274877906943] Qco ?_
   refine Dv [] Vm (Db h98 [] Qgr (Dv [] Vm (Dv [6] (Vfa QbI 0) (Dv [6] (Qah QgG 0) (Dv [3] (Vfa Qc8 0) (Dv [4] (Qah sh3 0) (Dv [7] (Vi Qfr 0) (Dv [1] (Vld QjI 0) (Dv [] Vm ?_)))))))))
   refine Dv [] Vm (Dv [] QjU (Dv [10] (Vi QcX 0) (Dv [0] (Vfa Qc8 0) (Dv [0] (Qah sh3 0) ?_))))
   refine Dx [2] [] [1,0] (fun G=>vb false) [fun G=>SP.fact (True)] (fun G=>xC [0] Qwz (QwM ((s.Deps.getD ((l.getD Qa2.toNat default).Node:Int).toNat [])) a100 k101 ((l.getD ((Qa2 - 1):Int).toNat default).Node) pre rv106 hg107)) ?_ (hV:=fun _ _=>congrArg Value.bool h108)
   refine Dv [] Vm (Ds (Ds (Ds (Ds (Ds (Ds (Ds (Ds (Ds ?_)))))))))
   refine Ds (Ds (Ds (Ds (Ds (Ds (Ds (Ds (Ds (Ds ?_)))))))))
   refine Dv [] Vpf (Dv [] Qcy (Dv [] Vpt ?_))
   refine Dn ⟨by kernel_rfl,fun G=>?_⟩
   refine Jw2 [(3,vl la0 lk0 l),(4,p5),(33,vl la0 lk0 l),(34,vi (l.length:Int)),(35,vi Qa2),(95,vb true)] [0,1,2,3,4,5,6,7,8,9,10] [SP.fact (True)] ?_
   refine Jk [0,1,2,4,4,5,6,7,8,9] (Kt ?_)
   refine KS ?_
   refine Oq Va (KS ?_)
   have hR132:=q2 hM23 (.ret false) (by simp only [QaM,h32,h42,h46,h98,h108,hg39,hg107,cs4])
   have hq:=q4 hrr false (by simp only [Qbe,h10,h13,h18,h32,h42,h46,h98,h108,hg7,hg39,hg107,hR132,cs4]); subst hq
   exact Kr () rfl (.tmp rfl .nil) [] trivial
  intro h98
  have g133:=df h98
  refine Kq [0,1,3,7,15,7,39,127,255,7,7,1031,3591,7687,15879,32767,65535,131071,262143,131071,131071,1179647,3801087,7995391,16383999,33554431,67108863,131071,131071,268566527,939655167,2013396991,4160880639,131071,8590065663,34359738367,68719476735,137438953471,274877906943] Qco ?_
  refine Qv [] Vm (Qb h98 [] Qgr (Qv [] Vm (Qs (Qs (Qs (Qs (Qs (Qs (Qs ?_)))))))))
  refine Qs (Qs (Qs (Qs (Qs (Qs (Qs (Qs (Qs (Qs ?_)))))))))
  refine Qs (Qs (Qs (Qs (Qs (Qs (Qs (Qs (Qs (Qs ?_)))))))))
  refine Qs (Qs (Qs (Qs (Qs (Qs (Qs (Qs (Qv [] Vpf ?_))))))))
  refine Qn ⟨by kernel_rfl,?_⟩
  refine Kf (KS ?_)
  refine Oq QaS (Oq Vm (KS ?_))
  exact Kg (r34,(Qa2 + 1)) [3,4,5,6,7] ⟨(q3 hM23 (by simp only [QaM,h32,h42,h46,h98,hg39,cs4])),aM1,aM1,aM1,aM1⟩
 intro h32
 have g134:=df h32
 obtain rfl:r21 = 0:=by omega
 refine Ke ?_
 have hR135:=q2 hM23 (.brk ()) (by simp only [QaM,h32,cs4])
 refine KS ?_
 refine Oq Va (KS ?_)
 have hq:=q4 hrr true (by simp only [Qbe,h10,h13,h18,h32,hg7,hR135,cs4]); subst hq
 exact Kr () rfl (.tmp rfl .nil) [] trivial
theorem QxC (s:Qac) (sa1:Option Addr) (sk1:Nat) (sa2:Option Addr) (sk2:Nat) (sa3:Option Addr) (sk3:Nat) (n:Int) (bit:Int) (l:List Qas) (la0:Option Addr) (lk0:Nat) (Qcc:Qaa s.Width) (Qgv:Qaa n) (Qfj:Qaa bit) (rr:Bool) (hrr:Qaq s n bit l = rr):FT Tryz.prog 15 #[.agg #[vi s.Width,vl sa1 sk1 s.Deps,vl sa2 sk2 s.Transfers,vl sa3 sk3 s.Boundary],vi n,vi bit,vl la0 lk0 l] [S sa1 sk1 s.Deps,S sa2 sk2 s.Transfers,S sa3 sk3 s.Boundary,S la0 lk0 l] (fun g:Unit=>True) (fun g=>vb rr) (fun g=>[]):=by
 refine FTi Tryz.func15 fun w0 M0 F0=>?_
 unfold Qaa at Qcc Qgv Qfj
 refine Fb 24 0 fun _=>Fb 88 1 fun _=>Fb 32 2 fun _=>Fb 16 3 fun _=>KS ?_
 refine Oa (Ab [vi s.Width,vl sa1 sk1 s.Deps,vl sa2 sk2 s.Transfers,vl sa3 sk3 s.Boundary]) fun p5=>Oq Va (KS ?_)
 refine Oq (Qau Qen 0) (Oq Vm (Oq Vm ?_))
 refine QaJ (QaL s n bit) fun rv6 hg7=>?_
 have hc8:=QwD s sa1 sk1 sa2 sk2 sa3 sk3 n bit pre pre pre rv6 hg7
 refine Oc [1,2,3] QwP hc8 ?_
 rintro - he9
 unfold Qaa at he9
 refine Oq QfZ (Oq Vm ?_)
 refine Js 16 ?_ ?_
 ·intro h10
  have g11:=QaB h10
  refine Osk (Osk (Osk (Oq Vpt (Oq Vm (Osk (Osk (Osk (Osk (Osk ?_)))))))))
  refine Osk (Osk (Osk (Osk (Osk (Oq Vpt (KS ?_))))))
  refine Kt (KS ?_)
  refine Oq Va (KS ?_)
  have hq:=q4 hrr false (by simp only [Qaq,h10,hg7,cs4]); subst hq
  exact Kr () rfl (.tmp rfl .nil) [] trivial
 intro h10
 have g12:=Qae h10
 have hwa:=QnA (by assumption:QaL s _ _ = rv6) h10; have hwb:=hwa.1.bl; have hww:=hwa.1.w; have hwn:=hwa.1.n
 refine Oq Vm (Oq (Qba QcX) (Oq QbW (Oq Vpf (Oq Vm ?_))))
 refine Js 21 ?_ ?_
 ·intro h13
  have g14:=eq_of_beq h13
  refine Osk (Osk (Osk (Osk (Osk (Osk (Osk (Osk (Osk (Osk ?_)))))))))
  refine Oq Vpt (KS ?_)
  refine Kt (KS ?_)
  refine Oq Va (KS ?_)
  have hq:=q4 hrr false (by simp only [Qaq,h10,h13,hg7,cs4]); subst hq
  exact Kr () rfl (.tmp rfl .nil) [] trivial
 intro h13
 have g15:=ne_of_beq_false h13
 refine Oq Vm (Oq Vm (Oq (Qba QcX) (Oq QjU (Oq (Vi QcX 4) ?_))))
 refine Qbq (((l.length:Int) - 1):Int).toNat 4 rfl rng fun hb16 hb17=>?_
 unfold Qaa at hb16 hb17
 refine Oq (Qau Qfo 0) (Oq Vm (Oq Vm (Oq (Vbd QrK [vi n,vi bit]) (Oq (QyF Qtw (l:=[(l.getD (((l.length:Int) - 1):Int).toNat default).Node,(l.getD (((l.length:Int) - 1):Int).toNat default).Bit]) (m:=[n,bit])) (Oq Vpf (KS ?_))))))
 refine Kc ?_ ?_
 ·intro h18
  have g19:=QaB h18
  refine KS ?_
  refine Oq Va (KS ?_)
  have hq:=q4 hrr false (by simp only [Qaq,h10,h13,h18,hg7,cs4]); subst hq
  exact Kr () rfl (.tmp rfl .nil) [] trivial
 intro h18
 have g20:=Qae h18
 refine KS ?_
 refine Oq Va (KS ?_)
 refine Kl (γ:=Nat × Int) (fun (r21,QiD)=>⟨[(3,vl la0 lk0 l),(4,p5),(9,vi QiD)],[pv p5 [vi s.Width,vl sa1 sk1 s.Deps,vl sa2 sk2 s.Transfers,vl sa3 sk3 s.Boundary],S sa1 sk1 s.Deps,S sa2 sk2 s.Transfers,S sa3 sk3 s.Boundary,S la0 lk0 l],QaY s l r21 QiD = QaY s l (((l.length:Int) - 0).toNat) 0 /\ r21 = ((l.length:Int) - QiD).toNat /\ (0:Int) <= QiD /\ QiD <= (l.length:Int) /\ (-9223372036854775808 <= QiD /\ QiD <= 9223372036854775807),r21⟩) (((l.length:Int) - 0).toNat,0) [1,2,3,4,5] ⟨rfl,rfl,aM1,aM1,aM1⟩ ?_
 rintro ⟨r21,QiD⟩ ⟨hM23,hr24,hi25,hi26,hk27⟩
 refine QaA fun _ _ hL hA=>?_; dsimp only at hL hA; subst hL hA
 refine Fb 24 1 fun _=>Fb 88 2 fun _=>Fb 32 3 fun _=>Fb 16 4 fun _=>KS ?_
 refine Oq Vm (Oq Vm (Oq (Qba QcX) (Oq Qbh (KS ?_))))
 refine Kc ?_ ?_
 ·intro h32
  have g33:=dt h32
  try (have hc0:=Qn3 (by assumption) (j:=QiD) aM1 aM1; have hc1:=Qn3 (by assumption) (j:=QiD - 1) aM1 aM1)
  obtain ⟨r34,rfl⟩:=scc (n:=r21) aM1
  refine KS ?_
  refine Qbq QiD.toNat 4 rfl rng fun hb35 hb36=>?_
  unfold Qaa at hb35 hb36
  refine Qam [0,0,0,6,14,30,0,0,192,448,960,2047,4095] Qco ?_
  refine Dv [1] (Qau Qen 0) (Dv [] Vm (Dv [] Vm (Dv [5] (Vi QcX 0) (Dv [0] (Vfa Qc8 0) (Dv [0] (Qah sh3 0) (Dv [] Vm (Dv [] Vm (Dv [5] (Vi QcX 0) (Dv [0] (Vfa QfA 0) ?_)))))))))
  refine Dv [0] (Qah sh3 0) ?_
  refine QaJ (QaL s ((l.getD QiD.toNat default).Node) ((l.getD QiD.toNat default).Bit)) fun rv37 hg38=>?_
  refine Dx [2,3,4] [] [1,2,3,0] (fun G=>vi rv37) [fun G=>SP.fact (Qaa rv37)] (fun G=>xC [0,1,2] QwP (QwD s sa1 sk1 sa2 sk2 sa3 sk3 ((l.getD QiD.toNat default).Node) ((l.getD QiD.toNat default).Bit) pre pre pre rv37 hg38)) (Dv [] QfZ ?_)
  refine Dn ⟨by kernel_rfl,fun G=>?_⟩
  refine Jw2 [(3,vl la0 lk0 l),(4,p5),(9,vi QiD),(51,vb (rv37 != 0))] [0,1,2,3,4,5] [SP.fact (Qaa rv37)] ?_
  refine Jf 6 rfl ?_; rintro he39
  unfold Qaa at he39
  refine Jk [0,1,2,3,4,5] ?_
  refine Kc ?_ ?_
  ·intro h40
   have g41:=QaB h40
   refine KS ?_
   refine Oq Va (KS ?_)
   have hR42:=q2 hM23 (.ret false) (by simp only [QaY,h32,h40,hg38,cs4])
   have hq:=q4 hrr false (by simp only [Qaq,h10,h13,h18,h32,h40,hg7,hg38,hR42,cs4]); subst hq
   exact Kr () rfl (.tmp rfl .nil) [] trivial
  intro h40
  have g43:=Qae h40
  have hwa:=QnA (by assumption:QaL s _ _ = rv37) h40; have hwb:=hwa.1.bl; have hww:=hwa.1.w; have hwn:=hwa.1.n
  refine KS ?_
  refine Oq Vm (Oq QaS (Oq Va (KS ?_)))
  exact Kg (r34,(QiD + 1)) [1,2,3,4,5] ⟨(q3 hM23 (by simp only [QaY,h32,h40,hg38,cs4])),aM1,aM1,aM1,aM1⟩
 intro h32
 have g44:=df h32
 obtain rfl:r21 = 0:=by omega
 refine Ke ?_
 have hR45:=q2 hM23 (.brk ()) (by simp only [QaY,h32,cs4])
 refine KS ?_
 refine Oq Va (KS ?_)
 refine Kl (γ:=Nat × Int) (fun (r46,QnC)=>⟨[(3,vl la0 lk0 l),(4,p5),(10,vi QnC)],[pv p5 [vi s.Width,vl sa1 sk1 s.Deps,vl sa2 sk2 s.Transfers,vl sa3 sk3 s.Boundary],S sa1 sk1 s.Deps,S sa2 sk2 s.Transfers,S sa3 sk3 s.Boundary,S la0 lk0 l],Qbn s l r46 QnC = Qbn s l (((l.length:Int) - 1).toNat) 1 /\ r46 = ((l.length:Int) - QnC).toNat /\ (1:Int) <= QnC /\ (QnC <= (l.length:Int) \/ QnC = 1) /\ (-9223372036854775808 <= QnC /\ QnC <= 9223372036854775807),r46⟩) (((l.length:Int) - 1).toNat,1) [0,1,2,3,4] ⟨rfl,rfl,aM1,(.inr rfl),aM1⟩ ?_
 rintro ⟨r46,QnC⟩ ⟨hM48,hr49,hi50,hi51,hk52⟩
 refine QaA fun _ _ hL hA=>?_; dsimp only at hL hA; subst hL hA
 refine Fb 24 1 fun _=>Fb 88 2 fun _=>Fb 32 3 fun _=>Fb 16 4 fun _=>KS ?_
 refine Oq Vm (Oq Vm (Oq (Qba QcX) (Oq Qbh (KS ?_))))
 refine Kc ?_ ?_
 ·intro h57
  have g58:=dt h57
  try (have hc0:=Qn3 (by assumption) (j:=QnC) aM1 aM1; have hc1:=Qn3 (by assumption) (j:=QnC - 1) aM1 aM1)
  obtain ⟨r59,rfl⟩:=scc (n:=r46) aM1
  refine KS ?_
  refine Qbq ((QnC - 1):Int).toNat 4 rfl rng fun hb60 hb61=>?_
  unfold Qaa at hb60 hb61
  refine Qbq QnC.toNat 5 rfl rng fun hb62 hb63=>?_
  unfold Qaa at hb62 hb63
  refine Qam [0,0,0,4,14,30,0,0,192,448,1023,2047] Qco ?_
  refine Dv [2] (Qau Qen 0) (Dv [] Vm (Dv [] Vm (Dv [] QjU (Dv [6] (Vi QcX 0) (Dv [1] (Qau Qfo 0) (Dv [] Vm (Dv [] Vm (Dv [6] (Vi QcX 0) (Dv [0] (Qau Qfo 0) ?_)))))))))
  refine QaJ (Qdq s (l.getD ((QnC - 1):Int).toNat default) (l.getD QnC.toNat default)) fun rv64 hg65=>?_
  refine Dx [3,4,5] [] [1,2,3,0] (fun G=>vb rv64) [fun G=>SP.fact (True)] (fun G=>xC [0,1,2] Qzd (QzG s sa1 sk1 sa2 sk2 sa3 sk3 ((l.getD ((QnC - 1):Int).toNat default)) ((l.getD QnC.toNat default)) pre pre pre pre pre hwa.1 pre pre rv64 hg65)) (Dv [] Qcy ?_)
  refine Dn ⟨by kernel_rfl,fun G=>?_⟩
  refine Jw2 [(3,vl la0 lk0 l),(4,p5),(10,vi QnC),(69,vb (!rv64))] [0,1,2,3,4,5,6] [SP.fact (True)] ?_
  refine Jk [0,1,2,3,4,5,6] ?_
  refine Kc ?_ ?_
  ·intro h66
   have h68:=not_true h66
   refine KS ?_
   refine Oq Va (KS ?_)
   have hR70:=q2 hM48 (.ret false) (by simp only [Qbn,h57,h66,h68,hg65,cs4])
   have hq:=q4 hrr false (by simp only [Qaq,h10,h13,h18,h32,h57,h66,h68,hg7,hR45,hg65,hR70,cs4]); subst hq
   exact Kr () rfl (.tmp rfl .nil) [] trivial
  intro h66
  have h72:=not_false h66
  refine KS ?_
  refine Oq Vm (Oq QaS (Oq Va (KS ?_)))
  exact Kg (r59,(QnC + 1)) [2,3,4,5,6] ⟨(q3 hM48 (by simp only [Qbn,h57,h66,h72,hg65,cs4])),aM1,aM1,aM1,aM1⟩
 intro h57
 have g74:=df h57
 obtain rfl:r46 = 0:=by omega
 refine Ke ?_
 have hR75:=q2 hM48 (.brk ()) (by simp only [Qbn,h57,cs4])
 refine KS ?_
 refine Qbq (0:Int).toNat 4 rfl rng fun hb76 hb77=>?_
 unfold Qaa at hb76 hb77
 refine Qam [0,0,2,6,15,31] Qco ?_
 refine Dv [1] (Qau Qen 0) (Dv [] Vm (Dv [5] (Vi QcX 0) (Dv [0] (Qau Qfo 0) ?_)))
 refine QaJ (Qb6 s (l.getD (0:Int).toNat default)) fun rv78 hg79=>?_
 refine Dx [2,3,4] [] [1,2,3,0] (fun G=>vb rv78) [fun G=>SP.fact (True)] (fun G=>xC [0,1,2] Qyq (QwS s sa1 sk1 sa2 sk2 sa3 sk3 ((l.getD (0:Int).toNat default)) pre pre pre hwa.1 (Qn3 (by assumption) aM1 aM1) rv78 hg79)) (Dv [] Va ?_)
 refine Dn ⟨by kernel_rfl,fun G=>?_⟩
 refine Jw2 [(8,vb rv78)] [0,1,2,3,4,5] [SP.fact (True)] ?_
 refine Jk [0,1,2,3,4,5] ?_
 have hq:=q4 hrr rv78 (by simp only [Qaq,h10,h13,h18,h32,h57,hg7,hR45,hR75,hg79,cs4]); subst hq
 exact Kr () rfl (.tmp rfl .nil) [] trivial
theorem Qx5 (v:Qaf) (va1:Option Addr) (vk1:Nat) (QsK:Qaa v.Width) (rr:Bool) (hrr:QdW v = rr):FT Tryz.prog 141 #[.agg #[vi v.Width,vl va1 vk1 v.Words]] [S va1 vk1 v.Words] (fun g:Unit=>True) (fun g=>vb rr) (fun g=>[]):=by
 refine FTi Tryz.func141 fun w0 M0 F0=>?_
 unfold Qaa at QsK
 refine Fb 8 0 fun _=>KS ?_
 refine Oa (Ab [vi v.Width,vl va1 vk1 v.Words]) fun p2=>Oq Va (KS ?_)
 refine Oq (Qau Qax 0) ?_
 refine QaJ (Qa0 v) fun rv3 hg4=>?_
 have hc5:=QrD v va1 vk1 pre rv3 hg4
 refine Oc [1] QrI hc5 ?_
 rintro - -
 refine Oq Qcy (Oq Va (KS ?_))
 have hq:=q4 hrr (!rv3) (by simp only [QdW,hg4,cs4]); subst hq
 exact Kr () rfl (.tmp rfl .nil) [] trivial
theorem QuY (s:List (BitVec 64)) (sa0:Option Addr) (sk0:Nat) (rr:List (BitVec 64)) (hrr:Qcr s = rr):FT Tryz.prog 142 #[vl sa0 sk0 s] [S sa0 sk0 s] (fun g:Value=>(rr.length = s.length)) (fun g=>g) (fun g=>[os g rr]):=by
 have hm:Qcr s = s:=rfl
 rw [hm] at hrr
 subst hrr
 refine FTi Tryz.func142 fun w0 M0 F0=>?_
 refine KS ?_
 refine Oq Va ?_
 refine KS ?_
 refine Oq Vm ?_
 refine Oq (Qxg QAq) ?_
 refine KS ?_
 refine Kc ?_ ?_
 ·intro h
  refine Qzg 0 h ?_
  intro h0
  subst h0
  refine KS ?_
  refine Oq Va ?_
  refine KS ?_
  refine Jl [] (Ent.osNil (α:=BitVec 64)) ?_
  exact Kr (.slice none 0 0) rfl (.tmp rfl .nil) [0] rfl
 ·intro _
  refine KS ?_
  refine Oa (As0 QgV) fun c1=>?_
  refine Jo 0 ?_; rintro a2 k3 rfl
  refine Oq Vm ?_
  refine Fb 8 1 fun hl=>?_
  refine Jl [0] (Ent.crNil (α:=BitVec 64) _) ?_
  refine Oa (Ap0 [0,0] QgV QgV QuM) fun c4=>?_
  refine Oq Va ?_
  refine KS ?_
  exact Kr c4 rfl (.tmp rfl .nil) [0] rfl
theorem Qwi (a:Qaf) (aa1:Option Addr) (ak1:Nat) (b:Qaf) (ba1:Option Addr) (bk1:Nat) (combineF:FuncId) (combineC:List Value) (combinep:(BitVec 64) -> (BitVec 64) -> (BitVec 64)) (combineA:List SP) (Qja:Qaa a.Width) (QfG:Qaa b.Width) (hcombinec:Qab Tryz.prog combineF = true) (hcombineF:∀ x0 x1,FT Tryz.prog combineF ([u64 x0,u64 x1] ++ combineC).toArray ([] ++ [Qg5 combineA]) (fun _:Unit=>True) (fun _=>u64 (combinep x0 x1)) (fun _=>[])) (rr:Qaf × Int) (hrr:Qdz a b combinep = rr):FT Tryz.prog 150 #[.agg #[vi a.Width,vl aa1 ak1 a.Words],.agg #[vi b.Width,vl ba1 bk1 b.Words],.func (.func combineF) #[] combineC.toArray] [S aa1 ak1 a.Words,S ba1 bk1 b.Words,Qg5 combineA] (fun g:Value=>Qaa rr.1.Width /\ Qaa rr.2) (fun g=>.tuple #[.agg #[vi rr.1.Width,g],vi rr.2]) (fun g=>[sl g rr.1.Words]):=by
 refine FTi Tryz.func150 fun w0 M0 F0=>?_
 unfold Qaa at Qja QfG
 refine Fb 8 0 fun _=>Fb 8 1 fun _=>KS ?_
 refine Oa (Ab [vi a.Width,vl aa1 ak1 a.Words]) fun p3=>Oa (Ab [vi b.Width,vl ba1 bk1 b.Words]) fun p4=>Oa (Al QgU [vi 0,.slice none 0 0]) fun p5=>Oq Va (KS ?_)
 refine Oq (Qau Qax 2) ?_
 refine QaJ (Qa0 a) fun rv6 hg7=>?_
 have hc8:=QrD a aa1 ak1 pre rv6 hg7
 refine Oc [3] QrI hc8 ?_
 rintro - -
 refine Oq Qcy (Oq Vm ?_)
 refine Js 14 ?_ ?_
 ·intro h9
  have h11:=not_true h9
  refine Osk (Osk (Osk (Oq Vpt (Oq Va (KS ?_)))))
  refine Kt (KS ?_)
  refine Oq (Vbd Qju [vi 0,.slice none 0 0]) (Ost (Scl [0] Qax [vi 0,.slice none 0 0]) (Oq Va (KS ?_)))
  refine Jl [] (Ent.slNil (α:=BitVec 64)) ?_
  have hq:=q4 hrr ((Qaf.mk 0 []),1) (by simp only [Qdz,h9,h11,hg7,cs4]); subst hq
  exact Kr (.slice none 0 0) rfl (.cellN 1 rfl Qax rfl (Qal _ _) rfl (.tmp rfl .nil)) [0] en
 intro h9
 have h14:=not_false h9
 try have hra:=Qr2 (s:=a) (by simp only [h9,h14,hg7])
 try have hrb:=Qr2 (s:=b) (by simp only [h9,h14,hg7])
 refine Oq (Qau Qax 1) ?_
 refine QaJ (Qa0 b) fun rv16 hg17=>?_
 have hc18:=QrD b ba1 bk1 pre rv16 hg17
 refine Oc [4] QrI hc18 ?_
 rintro - -
 refine Oq Qcy (Oq Vpf (Oq Va (KS ?_)))
 refine Kc ?_ ?_
 ·intro h19
  have h21:=not_true h19
  refine KS ?_
  refine Oq (Vbd Qju [vi 0,.slice none 0 0]) (Ost (Scl [0] Qax [vi 0,.slice none 0 0]) (Oq Va (KS ?_)))
  refine Jl [] (Ent.slNil (α:=BitVec 64)) ?_
  have hq:=q4 hrr ((Qaf.mk 0 []),1) (by simp only [Qdz,h9,h14,h19,h21,hg7,hg17,cs4]); subst hq
  exact Kr (.slice none 0 0) rfl (.cellN 1 rfl Qax rfl (Qal _ _) rfl (.tmp rfl .nil)) [0] en
 intro h19
 have h24:=not_false h19
 try have hra:=Qr2 (s:=a) (by simp only [h9,h14,h19,h24,hg7,hg17])
 try have hrb:=Qr2 (s:=b) (by simp only [h9,h14,h19,h24,hg7,hg17])
 refine KS ?_
 refine Oq (Vfa Qbi 2) (Oq (Qah sh3 2) (Oq (Vfa Qbi 1) (Oq (Qah sh3 1) (Oq QfZ (Oq Va (KS ?_))))))
 refine Kc ?_ ?_
 ·intro h26
  have g27:=QaB h26
  refine KS ?_
  refine Oq (Vbd Qju [vi 0,.slice none 0 0]) (Ost (Scl [0] Qax [vi 0,.slice none 0 0]) (Oq Va (KS ?_)))
  refine Jl [] (Ent.slNil (α:=BitVec 64)) ?_
  have hq:=q4 hrr ((Qaf.mk 0 []),2) (by simp only [Qdz,h9,h14,h19,h24,h26,hg7,hg17,cs4]); subst hq
  exact Kr (.slice none 0 0) rfl (.cellN 1 rfl Qax rfl (Qal _ _) rfl (.tmp rfl .nil)) [0] en
 intro h26
 have g28:=Qae h26
 refine KS ?_
 refine Qam [0,1,0,4,12,28,63,0,255] Qco ?_
 refine Dv [2] (Vfa Qbi 0) (Dv [2] (Qah sh3 0) (Dv [2] (Vfa Qcm 0) (Dv [2] (Qah QiV 0) (Dv [] (Qba QgV) ?_))))
 have hn30:=List.length_replicate (n:=(a.Words.length:Int).toNat) (a:=(0#64:BitVec 64))
 refine Dx [] [] [0] (fun G=>(G.g 5 0)) [fun G=>os (G.g 5 0) ((List.replicate (a.Words.length:Int).toNat 0#64):List (BitVec 64))] (fun G=>xA (Amk (α:=BitVec 64) QgV QuM 0#64 (fun _ _=>rfl))) ?_
 refine Dx [6] [] [0] (fun G=>.agg #[vi a.Width,(G.g 5 0)]) [] (fun G=>xV (v:=.agg #[vi a.Width,(G.g 5 0)]) (Vo 0 rfl (Qks _ _) fun aq31 kq32 eq33=>(by rw [eq33]; exact Vbd Qju [vi a.Width,.slice aq31 (((List.replicate (a.Words.length:Int).toNat 0#64):List (BitVec 64)).length) kq32]))) (Dx [] [] [0] (fun G=>(G.g 7 0)) [fun G=>Cl (G.g 7 0) [vi 0,.slice none 0 0]] (fun G=>xA (Al QgU [vi 0,.slice none 0 0])) (Dx0 [6,7] [7] [1,0] [fun G=>Cl (G.g 7 0) [vi a.Width,(G.g 5 0)]] (fun G=>x1 0 rfl Qc0 fun ho35=>(xS (Scl [1] Qax [vi a.Width,(G.g 5 0)] (v:=.agg #[vi a.Width,(G.g 5 0)]) (h1:=show [vi a.Width,(G.g 5 0)].all (·.oneCell') = true from (by simp only [List.all_cons,List.all_nil,ho35,Bool.and_true,Bool.true_and] <;> rfl))))) ?_))
 refine Dn ⟨by kernel_rfl,fun G=>?_⟩
 refine Jw2 [(2,.func (.func combineF) #[] combineC.toArray),(3,p3),(4,p4),(6,p5),(8,(G.g 7 0))] [0,1,2,3,4,5] [os (G.g 5 0) ((List.replicate (a.Words.length:Int).toNat 0#64):List (BitVec 64)),Cl (G.g 7 0) [vi a.Width,(G.g 5 0)]] ?_
 generalize G.g 5 0 = c29,G.g 7 0 = p34
 refine Jo 6 ?_; rintro a36 k37 rfl
 refine Fb 8 6 fun _=>KS ?_
 refine Oq (Vfa Qcm 7) (Oq (Qah QiV 7) (Oq (Qba QgV) (Oq Vm (KS ?_))))
 refine Kl (γ:=Nat × List (BitVec 64) × Int) (fun (r39,QhN,Qc9)=>⟨[(2,.func (.func combineF) #[] combineC.toArray),(3,p3),(4,p4),(6,p5),(8,p34),(36,vi (((List.replicate (a.Words.length:Int).toNat 0#64).length:Nat):Int)),(37,vi Qc9)],[Cl p5 [vi 0,.slice none 0 0],pv p4 [vi b.Width,vl ba1 bk1 b.Words],pv p3 [vi a.Width,vl aa1 ak1 a.Words],S aa1 ak1 a.Words,S ba1 bk1 b.Words,Qg5 combineA,os (vl a36 k37 (List.replicate (a.Words.length:Int).toNat 0#64)) QhN,Cl p34 [vi a.Width,vl a36 k37 (List.replicate (a.Words.length:Int).toNat 0#64)]],Qct a b combinep r39 QhN Qc9 = Qct a b combinep ((((((List.replicate (a.Words.length:Int).toNat 0#64).length:Nat):Int):Int) - 0).toNat) (List.replicate (a.Words.length:Int).toNat 0#64) 0 /\ r39 = (((((List.replicate (a.Words.length:Int).toNat 0#64).length:Nat):Int):Int) - Qc9).toNat /\ (0:Int) <= Qc9 /\ (Qc9 <= (((List.replicate (a.Words.length:Int).toNat 0#64).length:Nat):Int) \/ Qc9 = 0) /\ (-9223372036854775808 <= Qc9 /\ Qc9 <= 9223372036854775807) /\ QhN.length = a.Words.length,r39⟩) ((((((List.replicate (a.Words.length:Int).toNat 0#64).length:Nat):Int):Int) - 0).toNat,(List.replicate (a.Words.length:Int).toNat 0#64),0) [0,0,1,2,3,4,5,5] ⟨rfl,rfl,aM1,(.inr rfl),aM1,iv0⟩ ?_
 rintro ⟨r39,QhN,Qc9⟩ ⟨hM42,hr43,hi44,hi45,hk46,hv47⟩
 refine QaA fun _ _ hL hA=>?_; dsimp only at hL hA; subst hL hA
 refine Fb 8 3 fun _=>Fb 8 4 fun _=>Fb 8 6 fun _=>Fl 6 fun hn51=>?_
 refine KS ?_
 refine Oq Qbh (KS ?_)
 refine Kc ?_ ?_
 ·intro h52
  have g53:=dt h52
  obtain ⟨r54,rfl⟩:=scc (n:=r39) aM1
  refine KS ?_
  refine Oq Vm (Oq Va (KS ?_))
  refine Jp 7 fun hp55=>?_
  refine Qam [0,1,0,0,0,16,0,112,240,0,512,0,3584,7680,16376,32767,65535] Qco ?_
  refine Dv [0] (Vfa Qcm 0) (Dv [8] (Qah QiV 0) (Dv [] Vm (Dv [] Vm (Dv [3] (Vfa Qcm 0) (Dv [3] (Qah QiV 0) (Dv [] Vm (Dv [4] (Vi QgV 0) (Dv [4] (QpT QnH 0) (Dv [2] (Vfa Qcm 0) ?_)))))))))
  refine Dv [2] (Qah QiV 0) (Dv [] Vm (Dv [5] (Vi QgV 0) (Dv [5] (QpT QnH 0) (Dx [6] [] [1,0] (fun G=>u64 (combinep (a.Words.getD Qc9.toNat 0#64) (b.Words.getD Qc9.toNat 0#64))) [fun G=>SP.fact (True)] (fun G=>xE (asv:=[(u64 (a.Words.getD Qc9.toNat 0#64):Value),(u64 (b.Words.getD Qc9.toNat 0#64):Value)] ++ combineC) [0] hcombinec rfl rfl rfl (by simp) rfl (hcombineF (a.Words.getD Qc9.toNat 0#64) (b.Words.getD Qc9.toNat 0#64)  )) (Dv [7] (Vi QgV 0) (Dx0 [7] [7] [0] [fun G=>os (vl a36 k37 (List.replicate (a.Words.length:Int).toNat 0#64)) (QhN.set Qc9.toNat (combinep (a.Words.getD Qc9.toNat 0#64) (b.Words.getD Qc9.toNat 0#64)))] (fun G=>xS (SoU [0] QnH)) ?_))))))
  refine Dn ⟨by kernel_rfl,fun G=>?_⟩
  refine Jw2 [(2,.func (.func combineF) #[] combineC.toArray),(3,p3),(4,p4),(6,p5),(8,p34),(36,vi (((List.replicate (a.Words.length:Int).toNat 0#64).length:Nat):Int)),(37,vi Qc9)] [0,1,2,3,4,5,6,8] [SP.fact (True),os (vl a36 k37 (List.replicate (a.Words.length:Int).toNat 0#64)) (QhN.set Qc9.toNat (combinep (a.Words.getD Qc9.toNat 0#64) (b.Words.getD Qc9.toNat 0#64)))] ?_
  refine Jk [1,1,2,3,4,5,6,7] ?_
  refine KS ?_
  refine Oq QaS (Oq Vm (KS ?_))
  exact Kg (r54,(QhN.set Qc9.toNat (combinep (a.Words.getD Qc9.toNat 0#64) (b.Words.getD Qc9.toNat 0#64))),(Qc9 + 1)) [0,0,1,2,3,4,6,5] ⟨(q3 hM42 (by simp only [Qct,h52,cs4])),aM1,aM1,aM1,aM1,iv1⟩
 intro h52
 have g56:=df h52
 obtain rfl:r39 = 0:=by omega
 refine Ke ?_
 have hR57:=q2 hM42 QhN (by simp only [Qct,h52,cs4])
 refine KS ?_
 refine Oq (Qau Qax 7) (Ost (Scl [0] Qax [vi a.Width,vl a36 k37 (List.replicate (a.Words.length:Int).toNat 0#64)]) (Oq Va (KS ?_)))
 refine Jl [6] (Ent.freeze _ _) ?_
 have hq:=q4 hrr ((Qaf.mk a.Width QhN),0) (by simp only [Qdz,h9,h14,h19,h24,h26,h52,hg7,hg17,hR57,cs4]); subst hq
 exact Kr (vl a36 k37 (List.replicate (a.Words.length:Int).toNat 0#64)) rfl (.cellN 1 rfl Qax rfl (Qal _ _) rfl (.tmp rfl .nil)) [0] en
theorem QxN (x:BitVec 64) (y:BitVec 64) (rr:BitVec 64) (hrr:Qf7 x y = rr):FT Tryz.prog 151 #[u64 x,u64 y] [] (fun g:Unit=>True) (fun g=>u64 rr) (fun g=>[]):=by
 refine FTi Tryz.func151 fun w0 M0 F0=>?_
 refine KS ?_
 refine Oq Va (KS ?_)
 refine Oq Vm (Oq Vm (Oq Qpw (Oq Va (KS ?_))))
 have hq:=q4 hrr (x &&& ~~~y) (by simp only [Qf7,cs4]); subst hq
 exact Kr () rfl (.tmp rfl .nil) [] trivial
theorem Qva (a:Qaf) (aa1:Option Addr) (ak1:Nat) (b:Qaf) (ba1:Option Addr) (bk1:Nat) (Qja:Qaa a.Width) (QfG:Qaa b.Width) (rr:Qaf × Int) (hrr:Qh7 a b = rr):FT Tryz.prog 111 #[.agg #[vi a.Width,vl aa1 ak1 a.Words],.agg #[vi b.Width,vl ba1 bk1 b.Words]] [S aa1 ak1 a.Words,S ba1 bk1 b.Words] (fun g:Value=>Qaa rr.1.Width /\ Qaa rr.2) (fun g=>.tuple #[.agg #[vi rr.1.Width,g],vi rr.2]) (fun g=>[sl g rr.1.Words]):=by
 refine FTi Tryz.func111 fun w0 M0 F0=>?_
 unfold Qaa at Qja QfG
 refine Fb 8 0 fun _=>Fb 8 1 fun _=>KS ?_
 refine Oa (Ab [vi a.Width,vl aa1 ak1 a.Words]) fun p3=>Oa (Ab [vi b.Width,vl ba1 bk1 b.Words]) fun p4=>Oa (Al QgU [vi 0,.slice none 0 0]) fun p5=>Oq Va (KS ?_)
 refine Oq (Qau Qax 2) (Oq (Qau Qax 1) ?_)
 refine QiW (Ent.pall [] rfl rfl) ?_
 refine QaJ (Qdz a b (fun x0 x1=>Qf7 x0 x1)) fun rv7 hg8=>?_
 have hc9:=Qwi a aa1 ak1 b ba1 bk1 151 [] (fun x0 x1=>Qf7 x0 x1) [] pre pre Qyf (fun x0 x1=>Qh9 (A1:=[]) (QxN x0 x1   _ rfl)) rv7 hg8
 refine Oc [4,5,0] Qv4 hc9 ?_
 rintro c6 ⟨he10,he11⟩
 unfold Qaa at he10 he11
 refine Jo 0 ?_; rintro a12 k13 rfl
 refine Fb 8 0 fun _=>?_
 refine Oq Vx (Oq Vx (Ost (Scl [2] Qax [vi rv7.1.Width,vl a12 k13 rv7.1.Words]) (Oq Va (KS ?_))))
 have hq:=q4 hrr (rv7.1,rv7.2) (by simp only [Qh7,hg8,cs4]); subst hq
 exact Kr (vl a12 k13 rv7.1.Words) rfl (.cellN 0 rfl Qax rfl (Qal _ _) rfl (.tmp rfl .nil)) [1] en
theorem QxD (x:BitVec 64) (y:BitVec 64) (rr:BitVec 64) (hrr:QeT x y = rr):FT Tryz.prog 173 #[u64 x,u64 y] [] (fun g:Unit=>True) (fun g=>u64 rr) (fun g=>[]):=by
 refine FTi Tryz.func173 fun w0 M0 F0=>?_
 refine KS ?_
 refine Oq Va (KS ?_)
 refine Oq Vm (Oq Vm (Oq QwK (Oq Va (KS ?_))))
 have hq:=q4 hrr (x ||| y) (by simp only [QeT,cs4]); subst hq
 exact Kr () rfl (.tmp rfl .nil) [] trivial
theorem Qvk (a:Qaf) (aa1:Option Addr) (ak1:Nat) (b:Qaf) (ba1:Option Addr) (bk1:Nat) (Qja:Qaa a.Width) (QfG:Qaa b.Width) (rr:Qaf × Int) (hrr:QeE a b = rr):FT Tryz.prog 144 #[.agg #[vi a.Width,vl aa1 ak1 a.Words],.agg #[vi b.Width,vl ba1 bk1 b.Words]] [S aa1 ak1 a.Words,S ba1 bk1 b.Words] (fun g:Value=>Qaa rr.1.Width /\ Qaa rr.2) (fun g=>.tuple #[.agg #[vi rr.1.Width,g],vi rr.2]) (fun g=>[sl g rr.1.Words]):=by
 refine FTi Tryz.func144 fun w0 M0 F0=>?_
 unfold Qaa at Qja QfG
 refine Fb 8 0 fun _=>Fb 8 1 fun _=>KS ?_
 refine Oa (Ab [vi a.Width,vl aa1 ak1 a.Words]) fun p3=>Oa (Ab [vi b.Width,vl ba1 bk1 b.Words]) fun p4=>Oa (Al QgU [vi 0,.slice none 0 0]) fun p5=>Oq Va (KS ?_)
 refine Oq (Qau Qax 2) (Oq (Qau Qax 1) ?_)
 refine QiW (Ent.pall [] rfl rfl) ?_
 refine QaJ (Qdz a b (fun x0 x1=>QeT x0 x1)) fun rv7 hg8=>?_
 have hc9:=Qwi a aa1 ak1 b ba1 bk1 173 [] (fun x0 x1=>QeT x0 x1) [] pre pre Qxl (fun x0 x1=>Qh9 (A1:=[]) (QxD x0 x1   _ rfl)) rv7 hg8
 refine Oc [4,5,0] Qv4 hc9 ?_
 rintro c6 ⟨he10,he11⟩
 unfold Qaa at he10 he11
 refine Jo 0 ?_; rintro a12 k13 rfl
 refine Fb 8 0 fun _=>?_
 refine Oq Vx (Oq Vx (Ost (Scl [2] Qax [vi rv7.1.Width,vl a12 k13 rv7.1.Words]) (Oq Va (KS ?_))))
 have hq:=q4 hrr (rv7.1,rv7.2) (by simp only [QeE,hg8,cs4]); subst hq
 exact Kr (vl a12 k13 rv7.1.Words) rfl (.cellN 0 rfl Qax rfl (Qal _ _) rfl (.tmp rfl .nil)) [1] en
theorem QyI (s:Qaf) (sa1:Option Addr) (sk1:Nat) (b:Int) (Qcc:Qaa s.Width) (QfG:Qaa b) (hb0:0 <= b /\ b / 64 < (s.Words.length:Int)) (rr:List (BitVec 64)) (hrr:Qn4 s b = rr):FT Tryz.prog 185 #[.agg #[vi s.Width,vl sa1 sk1 s.Words],vi b] [O sa1 sk1 s.Words] (fun g:Unit=>True) (fun g=>.tuple #[]) (fun g=>[os (vl sa1 sk1 s.Words) rr]):=by
 refine FTi Tryz.func185 fun w0 M0 F0=>?_
 unfold Qaa at Qcc QfG
 refine Fb 8 0 fun _=>KS ?_
 refine Oa (Ab [vi s.Width,vl sa1 sk1 s.Words]) fun p2=>KS ?_
 refine Oq (Vfa Qcm 0) (Oq (Qah QiV 0) (Oq Vm (Oq Qrl (Oq (Vi QgV 1) (Oq (QpT QnH 1) (Oq Vm (Oq (VcU un3 QqC) (Oq (Qri (b:=64#64) (by simp)) (Oq (Qrv (a:=1#64)) ?_)))))))))
 refine Oq QwK (Oq (Vi QgV 1) (Ost (SoU [1] QnH) (KS ?_)))
 refine Fl 0 fun hn3=>?_
 have hq:=q4 hrr (s.Words.set ((b / 64):Int).toNat ((s.Words.getD ((b / 64):Int).toNat 0#64) ||| (1#64 <<< ((((BitVec.ofInt 64 b) % 64#64).toNat:Int)).toNat))) (by simp only [Qn4,cs4]); subst hq
 exact Kz () rfl .nil [0] trivial
theorem QyM (s:Qaf) (sa1:Option Addr) (sk1:Nat) (b:Int) (member:Bool) (Qcc:Qaa s.Width) (QfG:Qaa b) (rr:Qaf × Int) (hrr:Qep s b member = rr):FT Tryz.prog 184 #[.agg #[vi s.Width,vl sa1 sk1 s.Words],vi b,vb member] [S sa1 sk1 s.Words] (fun g:Value=>Qaa rr.1.Width /\ Qaa rr.2) (fun g=>.tuple #[.agg #[vi rr.1.Width,g],vi rr.2]) (fun g=>[sl g rr.1.Words]):=by
 refine FTi Tryz.func184 fun w0 M0 F0=>?_
 unfold Qaa at Qcc QfG
 refine Fb 8 0 fun _=>KS ?_
 refine Oa (Ab [vi s.Width,vl sa1 sk1 s.Words]) fun p2=>Oa (Al QgU [vi 0,.slice none 0 0]) fun p3=>Oq Va (KS ?_)
 refine Oq (Qau Qax 1) ?_
 refine QaJ (Qa0 s) fun rv4 hg5=>?_
 have hc6:=QrD s sa1 sk1 pre rv4 hg5
 refine Oc [2] QrI hc6 ?_
 rintro - -
 refine Oq Qcy (Oq Va (KS ?_))
 refine Kc ?_ ?_
 ·intro h7
  have h9:=not_true h7
  refine KS ?_
  refine Oq (Vbd Qju [vi 0,.slice none 0 0]) (Ost (Scl [0] Qax [vi 0,.slice none 0 0]) (Oq Va (KS ?_)))
  refine Jl [] (Ent.slNil (α:=BitVec 64)) ?_
  have hq:=q4 hrr ((Qaf.mk 0 []),1) (by simp only [Qep,h7,h9,hg5,cs4]); subst hq
  exact Kr (.slice none 0 0) rfl (.cellN 1 rfl Qax rfl (Qal _ _) rfl (.tmp rfl .nil)) [0] en
 intro h7
 have h12:=not_false h7
 try have hrg:=Qr2 (s:=s) (by simp only [h7,h12,hg5])
 try have hwi:=Qg3 (s:=s) (b:=b) (by simp only [h7,h12,hg5])
 refine KS ?_
 refine Oq (Qau Qax 1) (Oq Vm ?_)
 refine QaJ (Qc3 s b) fun rv14 hg15=>?_
 have hc16:=Qzz s sa1 sk1 b pre pre rv14 hg15
 refine Oc [2] Qy8 hc16 ?_
 rintro - -
 refine Oq Qcy (Oq Va (KS ?_))
 refine Kc ?_ ?_
 ·intro h17
  have h19:=not_true h17
  refine KS ?_
  refine Oq (Vbd Qju [vi 0,.slice none 0 0]) (Ost (Scl [0] Qax [vi 0,.slice none 0 0]) (Oq Va (KS ?_)))
  refine Jl [] (Ent.slNil (α:=BitVec 64)) ?_
  have hq:=q4 hrr ((Qaf.mk 0 []),3) (by simp only [Qep,h7,h12,h17,h19,hg5,hg15,cs4]); subst hq
  exact Kr (.slice none 0 0) rfl (.cellN 1 rfl Qax rfl (Qal _ _) rfl (.tmp rfl .nil)) [0] en
 intro h17
 have h22:=not_false h17
 try have hrg:=Qr2 (s:=s) (by simp only [h7,h12,h17,h22,hg5,hg15])
 try have hwi:=Qg3 (s:=s) (b:=b) (by simp only [h7,h12,h17,h22,hg5,hg15])
 refine KS ?_
 refine Qam [0,1,0,4,12,31,0,127] Qco ?_
 refine Dv [1] (Vfa Qbi 0) (Dv [1] (Qah sh3 0) (Dv [1] (Vfa Qcm 0) (Dv [1] (Qah QiV 0) ?_)))
 refine QaJ (Qcr s.Words) fun rv25 hg26=>Dx [2] [] [2,0,1] (fun G=>(G.g 4 0)) [fun G=>SP.fact ((rv25.length = s.Words.length)),fun G=>os (G.g 4 0) rv25] (fun G=>xC [0] QvQ (QuY s.Words sa1 sk1 rv25 hg26)) ?_
 refine Dx [4] [] [0] (fun G=>.agg #[vi s.Width,(G.g 4 0)]) [] (fun G=>xV (v:=.agg #[vi s.Width,(G.g 4 0)]) (Vo 0 rfl (Qks _ _) fun aq27 kq28 eq29=>(by rw [eq29]; exact Vbd Qju [vi s.Width,.slice aq27 ((rv25:List (BitVec 64)).length) kq28]))) (Dx [] [] [0] (fun G=>(G.g 6 0)) [fun G=>Cl (G.g 6 0) [vi 0,.slice none 0 0]] (fun G=>xA (Al QgU [vi 0,.slice none 0 0])) (Dx0 [4,5] [5] [1,0] [fun G=>Cl (G.g 6 0) [vi s.Width,(G.g 4 0)]] (fun G=>x1 0 rfl Qc0 fun ho31=>(xS (Scl [1] Qax [vi s.Width,(G.g 4 0)] (v:=.agg #[vi s.Width,(G.g 4 0)]) (h1:=show [vi s.Width,(G.g 4 0)].all (·.oneCell') = true from (by simp only [List.all_cons,List.all_nil,ho31,Bool.and_true,Bool.true_and] <;> rfl))))) ?_))
 refine Dn ⟨by kernel_rfl,fun G=>?_⟩
 refine Jw2 [(1,vi b),(2,vb member),(6,p3),(8,(G.g 6 0))] [0,1,2] [SP.fact ((rv25.length = s.Words.length)),os (G.g 4 0) rv25,Cl (G.g 6 0) [vi s.Width,(G.g 4 0)]] ?_
 generalize G.g 4 0 = c24,G.g 6 0 = p30
 refine Jf 3 rfl ?_; rintro he32
 refine Jk [0,0,1,3,3] ?_
 refine Jo 3 ?_; rintro a33 k34 rfl
 refine Fb 8 3 fun _=>KS ?_
 refine Oq (Vfa Qcm 4) (Oq (Qah QiV 4) (Oq Vm (Oq Qrl (Oq (Vi QgV 3) (Oq (QpT QnH 3) (Oq Vm (Oq (VcU un3 QqC) (Oq (Qri (b:=64#64) (by simp)) (Oq (Qrv (a:=1#64)) ?_)))))))))
 refine Oq Qpw (Oq (Vi QgV 3) (Ost (SoU [3] QnH) (KS ?_)))
 refine Oq Vm (KS ?_)
 refine Kc ?_ ?_
 ·intro h36
  refine KS ?_
  refine Oq (Qau Qax 4) (Oq Vm ?_)
  refine Fl 0 fun hn38=>?_; (try unfold vl); rw [<- hn38]
  refine QaJ (Qn4 (Qaf.mk s.Width (rv25.set ((b / 64):Int).toNat ((rv25.getD ((b / 64):Int).toNat 0#64) &&& ~~~(1#64 <<< ((((BitVec.ofInt 64 b) % 64#64).toNat:Int)).toNat)))) b) fun rv39 hg40=>?_
  have hc41:=QyI ((Qaf.mk s.Width (rv25.set ((b / 64):Int).toNat ((rv25.getD ((b / 64):Int).toNat 0#64) &&& ~~~(1#64 <<< ((((BitVec.ofInt 64 b) % 64#64).toNat:Int)).toNat))))) a33 k34 b pre pre pre rv39 hg40
  refine Oc [0] QwW hc41 ?_
  rintro - -
  refine KS ?_
  refine Oq (Qau Qax 4) (Ost (Scl [1] Qax [vi s.Width,.slice a33 ((rv25.set ((b / 64):Int).toNat ((rv25.getD ((b / 64):Int).toNat 0#64) &&& ~~~(1#64 <<< ((((BitVec.ofInt 64 b) % 64#64).toNat:Int)).toNat))).length) k34]) (Oq Va (KS ?_)))
  refine Jl [1] (Ent.freeze _ _) ?_
  have hq:=q4 hrr ((Qaf.mk s.Width rv39),0) (by simp only [Qep,h7,h12,h17,h22,h36,hg5,hg15,hg26,hg40,cs4]); subst hq
  exact Kr (.slice a33 ((rv25.set ((b / 64):Int).toNat ((rv25.getD ((b / 64):Int).toNat 0#64) &&& ~~~(1#64 <<< ((((BitVec.ofInt 64 b) % 64#64).toNat:Int)).toNat))).length) k34) rfl (.cellN 1 rfl Qax rfl (Qal _ _) rfl (.tmp rfl .nil)) [0] en
 intro h36
 refine KS ?_
 refine Oq (Qau Qax 4) (Ost (Scl [1] Qax [vi s.Width,vl a33 k34 rv25]) (Oq Va (KS ?_)))
 refine Jl [1] (Ent.freeze _ _) ?_
 have hq:=q4 hrr ((Qaf.mk s.Width (rv25.set ((b / 64):Int).toNat ((rv25.getD ((b / 64):Int).toNat 0#64) &&& ~~~(1#64 <<< ((((BitVec.ofInt 64 b) % 64#64).toNat:Int)).toNat)))),0) (by simp only [Qep,h7,h12,h17,h22,h36,hg5,hg15,hg26,cs4]); subst hq
 exact Kr (vl a33 k34 rv25) rfl (.cellN 1 rfl Qax rfl (Qal _ _) rfl (.tmp rfl .nil)) [0] en
theorem QwR (s:Qaf) (sa1:Option Addr) (sk1:Nat) (b:Int) (Qcc:Qaa s.Width) (QfG:Qaa b) (rr:Qaf × Int) (hrr:Qkf s b = rr):FT Tryz.prog 181 #[.agg #[vi s.Width,vl sa1 sk1 s.Words],vi b] [S sa1 sk1 s.Words] (fun g:Value=>Qaa rr.1.Width /\ Qaa rr.2) (fun g=>.tuple #[.agg #[vi rr.1.Width,g],vi rr.2]) (fun g=>[sl g rr.1.Words]):=by
 refine FTi Tryz.func181 fun w0 M0 F0=>?_
 unfold Qaa at Qcc QfG
 refine Fb 8 0 fun _=>KS ?_
 refine Oa (Ab [vi s.Width,vl sa1 sk1 s.Words]) fun p2=>Oa (Al QgU [vi 0,.slice none 0 0]) fun p3=>Oq Va (KS ?_)
 refine Oq (Qau Qax 1) (Oq Vm ?_)
 refine QaJ (Qep s b true) fun rv5 hg6=>?_
 have hc7:=QyM s sa1 sk1 b true pre pre rv5 hg6
 refine Oc [2] Qys hc7 ?_
 rintro c4 ⟨he8,he9⟩
 unfold Qaa at he8 he9
 refine Jo 0 ?_; rintro a10 k11 rfl
 refine Fb 8 0 fun _=>?_
 refine Oq Vx (Oq Vx (Ost (Scl [1] Qax [vi rv5.1.Width,vl a10 k11 rv5.1.Words]) (Oq Va (KS ?_))))
 have hq:=q4 hrr (rv5.1,rv5.2) (by simp only [Qkf,hg6,cs4]); subst hq
 exact Kr (vl a10 k11 rv5.1.Words) rfl (.cellN 0 rfl Qax rfl (Qal _ _) rfl (.tmp rfl .nil)) [1] en
theorem Qxe (t:Qad) (ta1:Option Addr) (tk1:Nat) (ta3:Option Addr) (tk3:Nat) (ta4:Option Addr) (tk4:Nat) (s:Qaf) (sa1:Option Addr) (sk1:Nat) (Qkl:Qaa t.Gen.Width) (Qkm:Qaa t.Kill.Width) (Qcc:Qaa s.Width) (rr:Qaf) (hrr:Qiu t s = rr):FT Tryz.prog 172 #[.agg #[vi t.Gen.Width,vl ta1 tk1 t.Gen.Words,vi t.Kill.Width,vl ta3 tk3 t.Kill.Words,vl ta4 tk4 t.Copies],.agg #[vi s.Width,vl sa1 sk1 s.Words]] [S ta1 tk1 t.Gen.Words,S ta3 tk3 t.Kill.Words,S ta4 tk4 t.Copies,S sa1 sk1 s.Words] (fun g:Value=>Qaa rr.Width) (fun g=>.agg #[vi rr.Width,g]) (fun g=>[sl g rr.Words]):=by
 refine FTi Tryz.func172 fun w0 M0 F0=>?_
 unfold Qaa at Qkl Qkm Qcc
 refine Fb 8 0 fun _=>Fb 8 1 fun _=>Fb 16 2 fun _=>Fb 8 3 fun _=>KS ?_
 refine Oa (Ab [vi t.Gen.Width,vl ta1 tk1 t.Gen.Words,vi t.Kill.Width,vl ta3 tk3 t.Kill.Words,vl ta4 tk4 t.Copies]) fun p5=>Oa (Ab [vi s.Width,vl sa1 sk1 s.Words]) fun p6=>Oa (Al QgU [vi 0,.slice none 0 0]) fun p7=>KS ?_
 refine Oq (Qau Qax 1) (Oq (Vfa Qgj 2) (Oq (Qmr Qax 2 [vi t.Kill.Width,vl ta3 tk3 t.Kill.Words]) ?_))
 refine QaJ (Qh7 s t.Kill) fun rv9 hg10=>?_
 have hc11:=Qva s sa1 sk1 t.Kill ta3 tk3 pre pre rv9 hg10
 refine Oc [6,4] QvG hc11 ?_
 rintro c8 ⟨he12,he13⟩
 unfold Qaa at he12 he13
 refine Jo 0 ?_; rintro a14 k15 rfl
 refine Fb 8 0 fun _=>?_
 refine Oq Vm (Oq Vx (Oq Vx (Oa (Al QgU [vi 0,.slice none 0 0]) fun p17=>Ost (Scl [0] Qax [vi rv9.1.Width,vl a14 k15 rv9.1.Words]) (Oq Va (KS ?_)))))
 refine Oq (Qau Qax 0) (Oq (Vfa QdB 4) (Oq (Qmr Qax 4 [vi t.Gen.Width,vl ta1 tk1 t.Gen.Words]) ?_))
 refine QaJ (QeE rv9.1 t.Gen) fun rv19 hg20=>?_
 have hc21:=Qvk rv9.1 a14 k15 t.Gen ta1 tk1 pre pre rv19 hg20
 refine Oc [1,5] QuV hc21 ?_
 rintro c18 ⟨he22,he23⟩
 unfold Qaa at he22 he23
 refine Jo 0 ?_; rintro a24 k25 rfl
 refine Fb 8 0 fun _=>?_
 refine Oq Vm (Oq Vx (Oq Vx (Ost (Scl [1] Qax [vi rv19.1.Width,vl a24 k25 rv19.1.Words]) (KS ?_))))
 refine Oq (Vfa Qeo 5) (Oq (Qah Qmn 5) (Oq (Qba QkQ) (Oq Vm (KS ?_))))
 refine Kl (γ:=Nat × Int × List (BitVec 64) × Int × Option Addr × Nat) (fun (r27,Qgl,Qgm,Qfm,a31,k32)=>⟨[(3,p6),(4,p7),(5,p17),(24,vl ta4 tk4 t.Copies),(25,vi (t.Copies.length:Int)),(26,vi Qfm)],[S a31 k32 Qgm,Cl p17 [vi Qgl,vl a31 k32 Qgm],Cl p7 [vi 0,.slice none 0 0],pv p6 [vi s.Width,vl sa1 sk1 s.Words],S ta4 tk4 t.Copies,S sa1 sk1 s.Words],QbT t s r27 Qgl Qgm Qfm = QbT t s (((t.Copies.length:Int) - 0).toNat) rv19.1.Width rv19.1.Words 0 /\ r27 = ((t.Copies.length:Int) - Qfm).toNat /\ (0:Int) <= Qfm /\ Qfm <= (t.Copies.length:Int) /\ (-9223372036854775808 <= Qgl /\ Qgl <= 9223372036854775807) /\ (-9223372036854775808 <= Qfm /\ Qfm <= 9223372036854775807),r27⟩) (((t.Copies.length:Int) - 0).toNat,rv19.1.Width,rv19.1.Words,0,a24,k25) [1,0,2,2,6,7] ⟨rfl,rfl,aM1,aM1,aM1,aM1⟩ ?_
 rintro ⟨r27,Qgl,Qgm,Qfm,a31,k32⟩ ⟨hM33,hr34,hi35,hi36,hk37,hk38⟩
 refine QaA fun _ _ hL hA=>?_; dsimp only at hL hA; subst hL hA
 refine Fb 8 0 fun _=>Fb 16 4 fun _=>Fb 8 5 fun _=>KS ?_
 refine Oq Qbh (KS ?_)
 refine Kc ?_ ?_
 ·intro h42
  have g43:=dt h42
  obtain ⟨r44,rfl⟩:=scc (n:=r27) aM1
  refine KS ?_
  refine Oq (Vi QkQ 4) ?_
  refine QcI Qfm.toNat 4 rfl rng fun hb45 hb46=>?_
  unfold Qaa at hb45 hb46
  refine Oq (Qau Qj9 0) (Oa (Al QtO [vi 0,vi 0]) fun p47=>Ost (Scl [0] Qj9 [vi ((t.Copies.getD Qfm.toNat default).From),vi ((t.Copies.getD Qfm.toNat default).To)]) (KS ?_))
  refine Oq (Qau Qax 5) (Oq (Vfa Qci 0) (Oq (Qah sh3 0) ?_))
  refine QaJ (Qfe s ((t.Copies.getD Qfm.toNat default).From)) fun rv48 hg49=>?_
  have hc50:=QtR s sa1 sk1 ((t.Copies.getD Qfm.toNat default).From) pre pre rv48 hg49
  refine Oc [7] QtI hc50 ?_
  rintro - -
  refine KS ?_
  refine Kc ?_ ?_
  ·intro h51
   refine KS ?_
   refine Oq (Qau Qax 3) (Oq (Vfa QdH 0) (Oq (Qah sh3 0) ?_))
   refine QaJ (Qkf (Qaf.mk Qgl Qgm) ((t.Copies.getD Qfm.toNat default).To)) fun rv54 hg55=>?_
   have hc56:=QwR ((Qaf.mk Qgl Qgm)) a31 k32 ((t.Copies.getD Qfm.toNat default).To) pre pre rv54 hg55
   refine Oc [2] Qx0 hc56 ?_
   rintro c53 ⟨he57,he58⟩
   unfold Qaa at he57 he58
   refine Jo 0 ?_; rintro a59 k60 rfl
   refine Fb 8 0 fun _=>?_
   refine Oq Vm (Oq Vx (Oq Vx (Ost (Scl [4] Qax [vi rv54.1.Width,vl a59 k60 rv54.1.Words]) (KS ?_))))
   refine Oq QaS (Oq Vm (KS ?_))
   exact Kg (r44,rv54.1.Width,rv54.1.Words,(Qfm + 1),a59,k60) [1,0,4,4,5,6] ⟨(q3 hM33 (by simp only [QbT,h42,h51,hg49,hg55,cs4])),aM1,aM1,aM1,aM1,aM1⟩
  intro h51
  refine KS ?_
  refine Oq QaS (Oq Vm (KS ?_))
  exact Kg (r44,Qgl,Qgm,(Qfm + 1),a31,k32) [2,3,3,3,4,5] ⟨(q3 hM33 (by simp only [QbT,h42,h51,hg49,cs4])),aM1,aM1,aM1,aM1,aM1⟩
 intro h42
 have g63:=df h42
 obtain rfl:r27 = 0:=by omega
 refine Ke ?_
 have hR64:=q2 hM33 (Qgl,Qgm) (by simp only [QbT,h42,cs4])
 refine KS ?_
 refine Oq (Qau Qax 1) (Ost (Scl [2] Qax [vi Qgl,vl a31 k32 Qgm]) (KS ?_))
 have hq:=q4 hrr (Qaf.mk Qgl Qgm) (by simp only [Qiu,h42,hg10,hg20,hR64,cs4]); subst hq
 exact Kr (vl a31 k32 Qgm) rfl (.cellN 0 rfl Qax rfl (Qal _ _) rfl .nil) [1] en
theorem Qw7 (t:Qad) (ta1:Option Addr) (tk1:Nat) (ta3:Option Addr) (tk3:Nat) (ta4:Option Addr) (tk4:Nat) (s:Qaf) (sa1:Option Addr) (sk1:Nat) (Qkl:Qaa t.Gen.Width) (Qkm:Qaa t.Kill.Width) (Qcc:Qaa s.Width) (rr:Qaf × Int) (hrr:Qd9 t s = rr):FT Tryz.prog 143 #[.agg #[vi t.Gen.Width,vl ta1 tk1 t.Gen.Words,vi t.Kill.Width,vl ta3 tk3 t.Kill.Words,vl ta4 tk4 t.Copies],.agg #[vi s.Width,vl sa1 sk1 s.Words]] [S ta1 tk1 t.Gen.Words,S ta3 tk3 t.Kill.Words,S ta4 tk4 t.Copies,S sa1 sk1 s.Words] (fun g:Value=>Qaa rr.1.Width /\ Qaa rr.2) (fun g=>.tuple #[.agg #[vi rr.1.Width,g],vi rr.2]) (fun g=>[sl g rr.1.Words]):=by
 refine FTi Tryz.func143 fun w0 M0 F0=>?_
 unfold Qaa at Qkl Qkm Qcc
 refine Fb 8 0 fun _=>Fb 8 1 fun _=>Fb 16 2 fun _=>Fb 8 3 fun _=>KS ?_
 refine Oa (Ab [vi t.Gen.Width,vl ta1 tk1 t.Gen.Words,vi t.Kill.Width,vl ta3 tk3 t.Kill.Words,vl ta4 tk4 t.Copies]) fun p5=>Oa (Ab [vi s.Width,vl sa1 sk1 s.Words]) fun p6=>Oa (Al QgU [vi 0,.slice none 0 0]) fun p7=>Oq Va (KS ?_)
 refine Oq (Qau Qek 2) ?_
 refine QaJ (Qcu t) fun rv8 hg9=>?_
 have hc10:=QxG t ta1 tk1 ta3 tk3 ta4 tk4 pre pre rv8 hg9
 refine Oc [3,4,5] Qx6 hc10 ?_
 rintro - -
 refine Oq Qcy (Oq Vm ?_)
 refine Js 10 ?_ ?_
 ·intro h11
  have h13:=not_true h11
  refine Osk (Osk (Osk (Oq Vpt (Oq Va (KS ?_)))))
  refine Kt (KS ?_)
  refine Oq (Vbd Qju [vi 0,.slice none 0 0]) (Ost (Scl [0] Qax [vi 0,.slice none 0 0]) (Oq Va (KS ?_)))
  refine Jl [] (Ent.slNil (α:=BitVec 64)) ?_
  have hq:=q4 hrr ((Qaf.mk 0 []),1) (by simp only [Qd9,h11,h13,hg9,cs4]); subst hq
  exact Kr (.slice none 0 0) rfl (.cellN 1 rfl Qax rfl (Qal _ _) rfl (.tmp rfl .nil)) [0] en
 intro h11
 have h16:=not_false h11
 refine Oq (Qau Qax 1) ?_
 refine QaJ (Qa0 s) fun rv18 hg19=>?_
 have hc20:=QrD s sa1 sk1 pre rv18 hg19
 refine Oc [6] QrI hc20 ?_
 rintro - -
 refine Oq Qcy (Oq Vpf (Oq Va (KS ?_)))
 refine Kc ?_ ?_
 ·intro h21
  have h23:=not_true h21
  refine KS ?_
  refine Oq (Vbd Qju [vi 0,.slice none 0 0]) (Ost (Scl [0] Qax [vi 0,.slice none 0 0]) (Oq Va (KS ?_)))
  refine Jl [] (Ent.slNil (α:=BitVec 64)) ?_
  have hq:=q4 hrr ((Qaf.mk 0 []),1) (by simp only [Qd9,h11,h16,h21,h23,hg9,hg19,cs4]); subst hq
  exact Kr (.slice none 0 0) rfl (.cellN 1 rfl Qax rfl (Qal _ _) rfl (.tmp rfl .nil)) [0] en
 intro h21
 have h26:=not_false h21
 refine KS ?_
 refine Oq (Vfa QdB 2) (Oq (Qol Qbi 2) (Oq (Qah sh3 2) (Oq (Vfa Qbi 1) (Oq (Qah sh3 1) (Oq QfZ (Oq Va (KS ?_)))))))
 refine Kc ?_ ?_
 ·intro h28
  have g29:=QaB h28
  refine KS ?_
  refine Oq (Vbd Qju [vi 0,.slice none 0 0]) (Ost (Scl [0] Qax [vi 0,.slice none 0 0]) (Oq Va (KS ?_)))
  refine Jl [] (Ent.slNil (α:=BitVec 64)) ?_
  have hq:=q4 hrr ((Qaf.mk 0 []),2) (by simp only [Qd9,h11,h16,h21,h26,h28,hg9,hg19,cs4]); subst hq
  exact Kr (.slice none 0 0) rfl (.cellN 1 rfl Qax rfl (Qal _ _) rfl (.tmp rfl .nil)) [0] en
 intro h28
 have g30:=Qae h28
 refine KS ?_
 refine Oq (Qau Qek 2) (Oq (Qau Qax 1) ?_)
 refine QaJ (Qiu t s) fun rv32 hg33=>?_
 have hc34:=Qxe t ta1 tk1 ta3 tk3 ta4 tk4 s sa1 sk1 pre pre pre rv32 hg33
 refine Oc [3,4,5,6] Qxf hc34 ?_
 rintro c31 he35
 unfold Qaa at he35
 refine Jo 0 ?_; rintro a36 k37 rfl
 refine Fb 8 0 fun _=>?_
 refine Ost (Scl [1] Qax [vi rv32.Width,vl a36 k37 rv32.Words]) (Oq Va (KS ?_))
 have hq:=q4 hrr (rv32,0) (by simp only [Qd9,h11,h16,h21,h26,h28,hg9,hg19,hg33,cs4]); subst hq
 exact Kr (vl a36 k37 rv32.Words) rfl (.cellN 0 rfl Qax rfl (Qal _ _) rfl (.tmp rfl .nil)) [1] en
theorem Qx1 (s:Qac) (sa1:Option Addr) (sk1:Nat) (sa2:Option Addr) (sk2:Nat) (sa3:Option Addr) (sk3:Nat) (values:List Qaf) (valuesa0:Option Addr) (valuesk0:Nat) (n:Int) (Qcc:Qaa s.Width) (Qgv:Qaa n) (rr:Qaf × Int) (hrr:Qdf s values n = rr):FT Tryz.prog 101 #[.agg #[vi s.Width,vl sa1 sk1 s.Deps,vl sa2 sk2 s.Transfers,vl sa3 sk3 s.Boundary],vl valuesa0 valuesk0 values,vi n] [S sa1 sk1 s.Deps,S sa2 sk2 s.Transfers,S sa3 sk3 s.Boundary,S valuesa0 valuesk0 values] (fun g:Value=>Qaa rr.1.Width /\ Qaa rr.2) (fun g=>.tuple #[.agg #[vi rr.1.Width,g],vi rr.2]) (fun g=>[sl g rr.1.Words]):=by
 refine FTi Tryz.func101 fun w0 M0 F0=>?_
 unfold Qaa at Qcc Qgv
 refine Fb 24 0 fun _=>Fb 88 1 fun _=>Fb 32 2 fun _=>Fb 32 3 fun _=>KS ?_
 refine Oa (Ab [vi s.Width,vl sa1 sk1 s.Deps,vl sa2 sk2 s.Transfers,vl sa3 sk3 s.Boundary]) fun p5=>Oa (Al QgU [vi 0,.slice none 0 0]) fun p6=>Oq Va (KS ?_)
 refine Oq (Qau Qen 1) ?_
 refine QaJ (QbZ s) fun rv7 hg8=>?_
 have hc9:=QyC s sa1 sk1 sa2 sk2 sa3 sk3 pre rv7 hg8
 refine Oc [2,3,4] Qxa hc9 ?_
 rintro - -
 refine Oq Qcy (Oq Va (KS ?_))
 refine Kc ?_ ?_
 ·intro h10
  have h12:=not_true h10
  refine KS ?_
  refine Oq (Vbd Qju [vi 0,.slice none 0 0]) (Ost (Scl [0] Qax [vi 0,.slice none 0 0]) (Oq Va (KS ?_)))
  refine Jl [] (Ent.slNil (α:=BitVec 64)) ?_
  have hq:=q4 hrr ((Qaf.mk 0 []),1) (by simp only [Qdf,h10,h12,hg8,cs4]); subst hq
  exact Kr (.slice none 0 0) rfl (.cellN 1 rfl Qax rfl (Qal _ _) rfl (.tmp rfl .nil)) [0] en
 intro h10
 have h15:=not_false h10
 try (have hvs:=(QcC s).1 (by simp only [h10,h15,hg8]); have hv1:=hvs.n; have hv2:=hvs.tl; have hv3:=hvs.bl; have hv4:=hvs.w; have hv5:=hvs.dep_len)
 refine KS ?_
 refine Oq Vm (Oq Qbh (Oq Vm ?_))
 refine Js 21 ?_ ?_
 ·intro h17
  have g18:=dt h17
  refine Osk (Osk (Osk (Osk (Osk (Oq Vpt (Oq Va (KS ?_)))))))
  refine Kt (KS ?_)
  refine Oq (Vbd Qju [vi 0,.slice none 0 0]) (Ost (Scl [0] Qax [vi 0,.slice none 0 0]) (Oq Va (KS ?_)))
  refine Jl [] (Ent.slNil (α:=BitVec 64)) ?_
  have hq:=q4 hrr ((Qaf.mk 0 []),9) (by simp only [Qdf,h10,h15,h17,hg8,cs4]); subst hq
  exact Kr (.slice none 0 0) rfl (.cellN 1 rfl Qax rfl (Qal _ _) rfl (.tmp rfl .nil)) [0] en
 intro h17
 have g19:=df h17
 refine Oq Vm (Oq (Vfa QbI 1) (Oq (Qah QgG 1) (Oq (Qba Qfr) (Oq Qg8 (Oq Vpf (Oq Va (KS ?_)))))))
 refine Kc ?_ ?_
 ·intro h20
  have g21:=dt h20
  refine KS ?_
  refine Oq (Vbd Qju [vi 0,.slice none 0 0]) (Ost (Scl [0] Qax [vi 0,.slice none 0 0]) (Oq Va (KS ?_)))
  refine Jl [] (Ent.slNil (α:=BitVec 64)) ?_
  have hq:=q4 hrr ((Qaf.mk 0 []),9) (by simp only [Qdf,h10,h15,h17,h20,hg8,cs4]); subst hq
  exact Kr (.slice none 0 0) rfl (.cellN 1 rfl Qax rfl (Qal _ _) rfl (.tmp rfl .nil)) [0] en
 intro h20
 have g22:=df h20
 refine KS ?_
 refine Oq Vm (Oq (Qba Qc6) (Oq (Vfa QbI 1) (Oq (Qah QgG 1) (Oq (Qba Qfr) (Oq QfZ (Oq Vm ?_))))))
 refine Js 36 ?_ ?_
 ·intro h23
  have g24:=QaB h23
  refine Osk (Osk (Oq Vpt (Oq Va (KS ?_))))
  refine Kt (KS ?_)
  refine Oq (Vbd Qju [vi 0,.slice none 0 0]) (Ost (Scl [0] Qax [vi 0,.slice none 0 0]) (Oq Va (KS ?_)))
  refine Jl [] (Ent.slNil (α:=BitVec 64)) ?_
  have hq:=q4 hrr ((Qaf.mk 0 []),1) (by simp only [Qdf,h10,h15,h17,h20,h23,hg8,cs4]); subst hq
  exact Kr (.slice none 0 0) rfl (.cellN 1 rfl Qax rfl (Qal _ _) rfl (.tmp rfl .nil)) [0] en
 intro h23
 have g25:=Qae h23
 refine Oq Vm ?_
 refine QiW (Ent.pall [] rfl rfl) ?_
 refine QaJ (QaC values (fun x=>QdW x)) fun rv26 hg27=>?_
 have hc28:=Qwn values valuesa0 valuesk0 141 [] (fun x=>QdW x) [] Qyk (fun x hx a1 k1 hq0=>Qh9 (A1:=_) (Qx5 x a1 k1  hq0 _ rfl)) rv26 hg27
 refine Oc [6,0] QvR hc28 ?_
 rintro - -
 refine Oq Vpf (Oq Va (KS ?_))
 refine Kc ?_ ?_
 ·intro h29
  try (have hvs:=(QcC s).1 (by simp only [h10,h15,h17,h20,h23,h29,hg8,hg27]); have hv1:=hvs.n; have hv2:=hvs.tl; have hv3:=hvs.bl; have hv4:=hvs.w; have hv5:=hvs.dep_len)
  refine KS ?_
  refine Oq (Vbd Qju [vi 0,.slice none 0 0]) (Ost (Scl [1] Qax [vi 0,.slice none 0 0]) (Oq Va (KS ?_)))
  refine Jl [] (Ent.slNil (α:=BitVec 64)) ?_
  have hq:=q4 hrr ((Qaf.mk 0 []),1) (by simp only [Qdf,h10,h15,h17,h20,h23,h29,hg8,hg27,cs4]); subst hq
  exact Kr (.slice none 0 0) rfl (.cellN 1 rfl Qax rfl (Qal _ _) rfl (.tmp rfl .nil)) [0] en
 intro h29
 refine KS ?_
 refine Oq (Vfa QbR 2) (Oq (Qah sh3 2) (Oq Vm ?_))
 refine QaJ (QfT s.Width values) fun rv32 hg33=>?_
 have hc34:=Qzk s.Width values valuesa0 valuesk0 pre rv32 hg33
 refine Oc [6] Qzs hc34 ?_
 rintro - -
 refine Oq Qcy (Oq Va (KS ?_))
 refine Kc ?_ ?_
 ·intro h35
  have h37:=not_true h35
  refine KS ?_
  refine Oq (Vbd Qju [vi 0,.slice none 0 0]) (Ost (Scl [1] Qax [vi 0,.slice none 0 0]) (Oq Va (KS ?_)))
  refine Jl [] (Ent.slNil (α:=BitVec 64)) ?_
  have hq:=q4 hrr ((Qaf.mk 0 []),2) (by simp only [Qdf,h10,h15,h17,h20,h23,h29,h35,h37,hg8,hg27,hg33,cs4]); subst hq
  exact Kr (.slice none 0 0) rfl (.cellN 1 rfl Qax rfl (Qal _ _) rfl (.tmp rfl .nil)) [0] en
 intro h35
 have h40:=not_false h35
 try (have hvs:=(QcC s).1 (by simp only [h10,h15,h17,h20,h23,h29,h35,h40,hg8,hg27,hg33]); have hv1:=hvs.n; have hv2:=hvs.tl; have hv3:=hvs.bl; have hv4:=hvs.w; have hv5:=hvs.dep_len)
 refine KS ?_
 refine Qa3 n.toNat 5 rfl rng fun a42 k43 hb44=>?_
 unfold Qaa at hb44
 refine Fb 8 1 fun _=>?_
 refine Qam [0,1,0,4,0,28,60,124,252,511,0,2047] Qco ?_
 refine Dv [4] (Vfa QbR 0) (Dv [4] (Qah sh3 0) (Dv [4] (Vfa Qc4 0) (Dv [4] (Qah Qjd 0) (Dv [] Vm (Dv [7] (Vi Qc6 0) (Dv [0] (Vfa Qcm 0) (Dv [0] (Qah QiV 0) ?_)))))))
 refine QaJ (Qcr ((s.Boundary.getD n.toNat default).Words)) fun rv47 hg48=>Dx [1] [] [2,0,1] (fun G=>(G.g 8 0)) [fun G=>SP.fact ((rv47.length = ((s.Boundary.getD n.toNat default).Words).length)),fun G=>os (G.g 8 0) rv47] (fun G=>xC [0] QvQ (QuY ((s.Boundary.getD n.toNat default).Words) a42 k43 rv47 hg48)) ?_
 refine Dx [10] [] [0] (fun G=>.agg #[vi s.Width,(G.g 8 0)]) [] (fun G=>xV (v:=.agg #[vi s.Width,(G.g 8 0)]) (Vo 0 rfl (Qks _ _) fun aq49 kq50 eq51=>(by rw [eq51]; exact Vbd Qju [vi s.Width,.slice aq49 ((rv47:List (BitVec 64)).length) kq50]))) (Dx [] [] [0] (fun G=>(G.g 10 0)) [fun G=>Cl (G.g 10 0) [vi 0,.slice none 0 0]] (fun G=>xA (Al QgU [vi 0,.slice none 0 0])) (Dx0 [10,11] [11] [1,0] [fun G=>Cl (G.g 10 0) [vi s.Width,(G.g 8 0)]] (fun G=>x1 0 rfl Qc0 fun ho53=>(xS (Scl [1] Qax [vi s.Width,(G.g 8 0)] (v:=.agg #[vi s.Width,(G.g 8 0)]) (h1:=show [vi s.Width,(G.g 8 0)].all (·.oneCell') = true from (by simp only [List.all_cons,List.all_nil,ho53,Bool.and_true,Bool.true_and] <;> rfl))))) ?_))
 refine Dn ⟨by kernel_rfl,fun G=>?_⟩
 refine Jw2 [(1,vl valuesa0 valuesk0 values),(2,vi n),(3,p5),(6,p6),(8,(G.g 10 0))] [0,1,2,3,4,5,6,7,8] [SP.fact ((rv47.length = ((s.Boundary.getD n.toNat default).Words).length)),os (G.g 8 0) rv47,Cl (G.g 10 0) [vi s.Width,(G.g 8 0)]] ?_
 generalize G.g 8 0 = c46,G.g 10 0 = p52
 refine Jf 9 rfl ?_; rintro he54
 refine Jk [0,1,2,3,3,4,5,6,7,9,9] ?_
 refine Jo 9 ?_; rintro a55 k56 rfl
 refine Fb 8 9 fun _=>KS ?_
 refine Oq (Vfa QbI 4) (Oq (Qah QgG 4) (Oq Vm (Oq (Vi Qfr 5) ?_)))
 refine QdV n.toNat 5 rfl rng fun a58 k59=>?_
 refine Fb 8 1 fun _=>Fo 1 fun ho61=>?_
 refine Oq (Vld QjI 0) (Oq (Qba QcA) (Oq Vm (KS ?_)))
 refine Jl [11] (Ent.freeze _ _) ?_
 refine Kl (γ:=Nat × Int × List (BitVec 64) × Int × Option Addr × Nat) (fun (r62,QgP,QgQ,QeJ,a66,k67)=>⟨[(1,vl valuesa0 valuesk0 values),(3,p5),(6,p6),(8,p52),(62,vl a58 k59 (s.Deps.getD n.toNat [])),(63,vi ((s.Deps.getD n.toNat []).length:Int)),(64,vi QeJ)],[S a66 k67 QgQ,S a58 k59 ((s.Deps.getD n.toNat []):List Int),Qg5 [],Cl p6 [vi 0,.slice none 0 0],pv p5 [vi s.Width,vl sa1 sk1 s.Deps,vl sa2 sk2 s.Transfers,vl sa3 sk3 s.Boundary],S sa1 sk1 s.Deps,S sa2 sk2 s.Transfers,S sa3 sk3 s.Boundary,S valuesa0 valuesk0 values,Cl p52 [vi QgP,vl a66 k67 QgQ]],QdL s values n r62 QgP QgQ QeJ = QdL s values n (((((s.Deps.getD n.toNat []).length:Int):Int) - 0).toNat) s.Width rv47 0 /\ r62 = ((((s.Deps.getD n.toNat []).length:Int):Int) - QeJ).toNat /\ (0:Int) <= QeJ /\ (QeJ <= ((s.Deps.getD n.toNat []).length:Int) \/ QeJ = 0) /\ (-9223372036854775808 <= QgP /\ QgP <= 9223372036854775807) /\ (-9223372036854775808 <= QeJ /\ QeJ <= 9223372036854775807),r62⟩) (((((s.Deps.getD n.toNat []).length:Int):Int) - 0).toNat,s.Width,rv47,0,a55,k56) [0,2,5,6,6,7,8,9,10,11] ⟨rfl,rfl,aM1,(.inr rfl),aM1,aM1⟩ ?_
 rintro ⟨r62,QgP,QgQ,QeJ,a66,k67⟩ ⟨hM68,hr69,hi70,hi71,hk72,hk73⟩
 refine QaA fun _ _ hL hA=>?_; dsimp only at hL hA; subst hL hA
 refine Fb 8 0 fun _=>Fb 8 1 fun _=>Fo 1 fun ho76=>Fb 24 5 fun _=>Fb 88 6 fun _=>Fb 32 7 fun _=>Fb 32 8 fun _=>KS ?_
 refine Oq Qbh (KS ?_)
 refine Kc ?_ ?_
 ·intro h81
  have g82:=dt h81
  have hq:=hvs.dep_mem (j:=n) aM1 aM1 _ (Qa4 (xs:=s.Deps.getD n.toNat []) (i:=QeJ.toNat) (d:=0) aM1)
  obtain ⟨r83,rfl⟩:=scc (n:=r62) aM1
  refine KS ?_
  refine Oq (Vi QcA 1) ?_
  have hb84:=ok1 (i:=QeJ.toNat) ho76 rng
  refine Oq (Qjc sh3 1) (Oq Va (KS ?_))
  refine QaU (((s.Deps.getD n.toNat []).getD QeJ.toNat 0):Int).toNat 6 rfl rng fun a85 k86 a87 k88 a89 k90 hb91 hb92=>?_
  unfold Qaa at hb91 hb92
  refine Fb 8 1 fun _=>Fb 8 2 fun _=>Fb 16 3 fun _=>?_
  refine Qa3 (((s.Deps.getD n.toNat []).getD QeJ.toNat 0):Int).toNat 12 rfl rng fun a96 k97 hb98=>?_
  unfold Qaa at hb98
  refine Fb 8 1 fun _=>?_
  refine Qam [0,1,0,7,15,0,0,96,224,511,1023,2047,2047,0,12287,32767] Qco ?_
  refine Dv [10] (Vfa QcW 0) (Dv [10] (Qah QjR 0) (Dv [] Vm (Dv [12] (Vi QiI 0) (Dv [2] (Qau Qek 0) (Dv [] Vm (Dv [] Vm (Dv [14] (Vi Qc6 0) (Dv [0] (Qau Qax 0) ?_))))))))
  refine QaJ (Qd9 (s.Transfers.getD (((s.Deps.getD n.toNat []).getD QeJ.toNat 0):Int).toNat default) (values.getD (((s.Deps.getD n.toNat []).getD QeJ.toNat 0):Int).toNat default)) fun rv101 hg102=>?_
  refine Dx [1,3,4,5] [] [2,3,4,5,0,1] (fun G=>.tuple #[.agg #[vi rv101.1.Width,(G.g 9 0)],vi rv101.2]) [fun G=>SP.fact (Qaa rv101.1.Width /\ Qaa rv101.2),fun G=>sl (G.g 9 0) rv101.1.Words] (fun G=>xC [1,2,3,0] QyR (Qw7 ((s.Transfers.getD (((s.Deps.getD n.toNat []).getD QeJ.toNat 0):Int).toNat default)) a85 k86 a87 k88 a89 k90 ((values.getD (((s.Deps.getD n.toNat []).getD QeJ.toNat 0):Int).toNat default)) a96 k97 pre pre pre rv101 hg102)) (Dg [] (fun G=>.tuple #[.agg #[vi rv101.1.Width,(G.g 9 0)],vi rv101.2]) (fun G=>Vm) (Dg [] (fun G=>.agg #[vi rv101.1.Width,(G.g 9 0)]) (fun G=>Vx) (Dv [] Vx (Dx [] [] [0] (fun G=>(G.g 13 0)) [fun G=>Cl (G.g 13 0) [vi 0,.slice none 0 0]] (fun G=>xA (Al QgU [vi 0,.slice none 0 0])) (Dx0 [17,18] [18] [1,0] [fun G=>Cl (G.g 13 0) [vi rv101.1.Width,(G.g 9 0)]] (fun G=>x1 0 rfl Qkx fun ho104=>(xS (Scl [1] Qax [vi rv101.1.Width,(G.g 9 0)] (v:=.agg #[vi rv101.1.Width,(G.g 9 0)]) (h1:=show [vi rv101.1.Width,(G.g 9 0)].all (·.oneCell') = true from (by simp only [List.all_cons,List.all_nil,ho104,Bool.and_true,Bool.true_and] <;> rfl))))) (Dv [] Va ?_))))))
  refine Dn ⟨by kernel_rfl,fun G=>?_⟩
  refine Jw2 [(1,vl valuesa0 valuesk0 values),(3,p5),(6,p6),(8,p52),(62,vl a58 k59 (s.Deps.getD n.toNat [])),(63,vi ((s.Deps.getD n.toNat []).length:Int)),(64,vi QeJ),(11,(G.g 13 0))] [0,1,2,3,4,5,6,7,8,9,10,11,12,13,14,15] [SP.fact (Qaa rv101.1.Width /\ Qaa rv101.2),sl (G.g 9 0) rv101.1.Words,Cl (G.g 13 0) [vi rv101.1.Width,(G.g 9 0)]] ?_
  generalize G.g 9 0 = c100,G.g 13 0 = p103
  refine Jf 16 rfl ?_; rintro ⟨he105,he106⟩
  unfold Qaa at he105 he106
  refine Jk [0,1,2,3,4,5,6,7,8,9,9,10,11,12,13,14,15,16] ?_
  refine Jo 16 ?_; rintro a107 k108 rfl
  refine Fb 8 16 fun _=>KS ?_
  refine Oq (Qau Qax 15) (Oq (Qau Qax 17) ?_)
  refine QaJ (QeE (Qaf.mk QgP QgQ) rv101.1) fun rv111 hg112=>?_
  have hc113:=Qvk ((Qaf.mk QgP QgQ)) a66 k67 rv101.1 a107 k108 pre pre rv111 hg112
  refine Oc [6,16] QuV hc113 ?_
  rintro c110 ⟨he114,he115⟩
  unfold Qaa at he114 he115
  refine Jo 0 ?_; rintro a116 k117 rfl
  refine Fb 8 0 fun _=>?_
  refine Oq Vm (Oq Vx (Oq Vx (Ost (Scl [16] Qax [vi rv111.1.Width,vl a116 k117 rv111.1.Words]) (KS ?_))))
  refine Oq QaS (Oq Vm (KS ?_))
  exact Kg (r83,rv111.1.Width,rv111.1.Words,(QeJ + 1),a116,k117) [1,9,10,11,11,12,13,14,15,0] ⟨(q3 hM68 (by simp only [QdL,h81,hg102,hg112,cs4])),aM1,aM1,aM1,aM1,aM1⟩
 intro h81
 have g119:=df h81
 obtain rfl:r62 = 0:=by omega
 refine Ke ?_
 have hR120:=q2 hM68 (QgP,QgQ) (by simp only [QdL,h81,cs4])
 refine KS ?_
 refine Oq (Qau Qax 9) (Ost (Scl [3] Qax [vi QgP,vl a66 k67 QgQ]) (Oq Va (KS ?_)))
 have hq:=q4 hrr ((Qaf.mk QgP QgQ),0) (by simp only [Qdf,h10,h15,h17,h20,h23,h29,h35,h40,h81,hg8,hg27,hg33,hg48,hR120,cs4]); subst hq
 exact Kr (vl a66 k67 QgQ) rfl (.cellN 0 rfl Qax rfl (Qal _ _) rfl (.tmp rfl .nil)) [1] en
theorem QBl (s:Qac) (sa1:Option Addr) (sk1:Nat) (sa2:Option Addr) (sk2:Nat) (sa3:Option Addr) (sk3:Nat) (values:List Qaf) (valuesa0:Option Addr) (valuesk0:Nat) (Qcc:Qaa s.Width) (rr:List Qaf × Int) (hrr:QdI s values = rr):FT Tryz.prog 59 #[.agg #[vi s.Width,vl sa1 sk1 s.Deps,vl sa2 sk2 s.Transfers,vl sa3 sk3 s.Boundary],vl valuesa0 valuesk0 values] [S sa1 sk1 s.Deps,S sa2 sk2 s.Transfers,S sa3 sk3 s.Boundary,S valuesa0 valuesk0 values] (fun g:Value=>Qaa rr.2) (fun g=>.tuple #[g,vi rr.2]) (fun g=>[sl g rr.1]):=by
 refine FTi Tryz.func59 fun w0 M0 F0=>?_
 unfold Qaa at Qcc
 refine Fb 24 0 fun _=>Fb 88 1 fun _=>Fb 32 2 fun _=>Fb 32 3 fun _=>KS ?_
 refine Oa (Ab [vi s.Width,vl sa1 sk1 s.Deps,vl sa2 sk2 s.Transfers,vl sa3 sk3 s.Boundary]) fun p5=>Oq Va (Oq Va (KS ?_))
 refine Oq (Qau Qen 0) ?_
 refine QaJ (QbZ s) fun rv6 hg7=>?_
 have hc8:=QyC s sa1 sk1 sa2 sk2 sa3 sk3 pre rv6 hg7
 refine Oc [1,2,3] Qxa hc8 ?_
 rintro - -
 refine Oq Qcy (KS ?_)
 refine Kc ?_ ?_
 ·intro h9
  have h11:=not_true h9
  refine KS ?_
  refine Oq Va (Oq Va (KS ?_))
  refine Jl [] (Ent.slNil (α:=Qaf)) ?_
  have hq:=q4 hrr (([]:List Qaf),1) (by simp only [QdI,h9,h11,hg7,cs4]); subst hq
  exact Kr (.slice none 0 0) rfl (.tmp rfl (.tmp rfl .nil)) [0] en
 intro h9
 have h14:=not_false h9
 try (have hvs:=(QcC s).1 (by simp only [h9,h14,hg7]); have hv1:=hvs.n)
 refine KS ?_
 refine Oq Va (KS ?_)
 refine Oq (Vfa QbI 0) (Oq (Qah QgG 0) (Oq (Qba Qfr) (Oq Vm (KS ?_))))
 refine Jl [] (Ent.osNil (α:=Qaf)) ?_
 refine Kl (γ:=Nat × List Qaf × Int × Option Addr × Nat) (fun (r16,QiX,QhW,a19,k20)=>⟨[(1,vl valuesa0 valuesk0 values),(2,p5),(6,vl a19 k20 QiX),(15,vi (s.Deps.length:Int)),(16,vi QhW)],[O a19 k20 QiX,pv p5 [vi s.Width,vl sa1 sk1 s.Deps,vl sa2 sk2 s.Transfers,vl sa3 sk3 s.Boundary],S sa1 sk1 s.Deps,S sa2 sk2 s.Transfers,S sa3 sk3 s.Boundary,S valuesa0 valuesk0 values],QcY s values r16 QiX QhW = QcY s values (((s.Deps.length:Int) - 0).toNat) [] 0 /\ r16 = ((s.Deps.length:Int) - QhW).toNat /\ (0:Int) <= QhW /\ QhW <= (s.Deps.length:Int) /\ (-9223372036854775808 <= QhW /\ QhW <= 9223372036854775807) /\ (QiX.length:Int) <= QhW,r16⟩) (((s.Deps.length:Int) - 0).toNat,[],0,none,0) [0,0,1,2,3,4] ⟨rfl,rfl,aM1,aM1,aM1,iv0⟩ ?_
 rintro ⟨r16,QiX,QhW,a19,k20⟩ ⟨hM21,hr22,hi23,hi24,hk25,hv26⟩
 refine QaA fun _ _ hL hA=>?_; dsimp only at hL hA; subst hL hA
 refine Fb 32 0 fun _=>Fb 24 2 fun _=>Fb 88 3 fun _=>Fb 32 4 fun _=>Fb 32 5 fun _=>KS ?_
 refine Oq Qbh (KS ?_)
 refine Kc ?_ ?_
 ·intro h32
  have g33:=dt h32
  obtain ⟨r34,rfl⟩:=scc (n:=r16) aM1
  refine KS ?_
  refine Oq Vm (Oq Va (KS ?_))
  refine Oq (Qau Qen 1) (Oq Vm (Oq Vm ?_))
  refine QaJ (Qdf s values QhW) fun rv36 hg37=>?_
  have hc38:=Qx1 s sa1 sk1 sa2 sk2 sa3 sk3 values valuesa0 valuesk0 QhW pre pre rv36 hg37
  refine Oc [2,3,4,5] QxM hc38 ?_
  rintro c35 ⟨he39,he40⟩
  unfold Qaa at he39 he40
  refine Jo 0 ?_; rintro a41 k42 rfl
  refine Fb 8 0 fun _=>?_
  refine Oq Vm (Oq Vx (Oq Vx (Oa (Al QgU [vi 0,.slice none 0 0]) fun p44=>Ost (Scl [0] Qax [vi rv36.1.Width,vl a41 k42 rv36.1.Words]) (Oq Va (KS ?_)))))
  refine Oq Vm (Oq QfZ (KS ?_))
  refine Kc ?_ ?_
  ·intro h45
   have g46:=QaB h45
   refine KS ?_
   refine Oq Vm (Oq Va (Oq Va (KS ?_)))
   refine Jl [] (Ent.slNil (α:=Qaf)) ?_
   have hR47:=q2 hM21 (.ret (([]:List Qaf),rv36.2)) (by simp only [QcY,h32,h45,hg37,cs4])
   have hq:=q4 hrr (([]:List Qaf),rv36.2) (by simp only [QdI,h9,h14,h32,h45,hg7,hg37,hR47,cs4]); subst hq
   exact Kr (.slice none 0 0) rfl (.tmp rfl (.tmp rfl .nil)) [0] en
  intro h45
  have g48:=Qae h45
  refine KS ?_
  refine Oq Vm (Oq (Qau Qax 0) (Oa (AsV Qc6 Ql4 [.agg #[vi rv36.1.Width,vl a41 k42 rv36.1.Words]] [vi rv36.1.Width,vl a41 k42 rv36.1.Words]) fun c49=>?_))
  refine Jo 0 ?_; rintro a50 k51 rfl
  refine Jl [0,1] (Ent.cr1 (α:=Qaf) (A:=[S a41 k42 rv36.1.Words]) _ rv36.1 _ aB1 (fun h=>⟨_,rfl,aL1,Qaj (i:=0) rfl h⟩)) ?_
  refine Oa (ApO [4,0] Qc6 Qc6 Ql4) fun c52=>?_
  refine Jo 0 ?_; rintro a53 k54 rfl
  refine Fb 32 0 fun _=>?_
  have hn56:=la QiX ([rv36.1]:List Qaf)
  refine Oq Va (KS ?_)
  refine Oq QaS (Oq Vm (KS ?_))
  exact Kg (r34,(QiX ++ [rv36.1]),(QhW + 1),a53,k54) [0,3,4,5,6,7] ⟨(q3 hM21 (by simp only [QcY,h32,h45,hg37,cs4])),aM1,aM1,aM1,aM1,iv1⟩
 intro h32
 have g57:=df h32
 obtain rfl:r16 = 0:=by omega
 refine Ke ?_
 have hR58:=q2 hM21 (.brk QiX) (by simp only [QcY,h32,cs4])
 refine KS ?_
 refine Oq Vm (Oq Va (Oq Va (KS ?_)))
 refine Jl [0] (Ent.freeze _ _) ?_
 have hq:=q4 hrr (QiX,0) (by simp only [QdI,h9,h14,h32,hg7,hR58,cs4]); subst hq
 exact Kr (vl a19 k20 QiX) rfl (.tmp rfl (.tmp rfl .nil)) [0] en
theorem QxE (x:BitVec 64) (rr:Int) (hrr:Qbz x = rr):FT Tryz.prog 152 #[u64 x] [] (fun g:Unit=>Qaa rr /\ (0 <= rr /\ rr <= 127)) (fun g=>vi rr) (fun g=>[]):=by
 refine FTi Tryz.func152 fun w0 M0 F0=>?_
 refine KS ?_
 refine Oq Va (KS ?_)
 refine Oq Vm (Oq Qnr (Oq (QmX (b:=6148914691236517205#64)) (Oq Vm (Oq (QmX (b:=6148914691236517205#64)) (Oq Qp2 ?_)))))
 generalize hg2:((x >>> Int.toNat 1) &&& 6148914691236517205#64) + (x &&& 6148914691236517205#64) = rv1
 refine Oq Va (KS ?_)
 refine Oq Vm (Oq Qnr (Oq (QmX (b:=3689348814741910323#64)) (Oq Vm (Oq (QmX (b:=3689348814741910323#64)) (Oq Qp2 ?_)))))
 generalize hg4:((rv1 >>> Int.toNat 2) &&& 3689348814741910323#64) + (rv1 &&& 3689348814741910323#64) = rv3
 refine Oq Va (KS ?_)
 refine Oq Vm (Oq Qnr (Oq Vm (Oq Qp2 (Oq (QmX (b:=1085102592571150095#64)) ?_))))
 generalize hg6:((rv3 >>> Int.toNat 4) + rv3) &&& 1085102592571150095#64 = rv5
 refine Oq Va (KS ?_)
 refine Oq Vm (Oq Vm (Oq Qnr (Oq Qp2 ?_)))
 generalize hg8:rv5 + (rv5 >>> Int.toNat 8) = rv7
 refine Oq Va (KS ?_)
 refine Oq Vm (Oq Vm (Oq Qnr (Oq Qp2 ?_)))
 generalize hg10:rv7 + (rv7 >>> Int.toNat 16) = rv9
 refine Oq Va (KS ?_)
 refine Oq Vm (Oq Vm (Oq Qnr (Oq Qp2 ?_)))
 generalize hg12:rv9 + (rv9 >>> Int.toNat 32) = rv11
 refine Oq Va (KS ?_)
 refine Oq Vm (Oq (VcN QzA un3 (h:=(Qro hg2 hg4 hg6 hg8 hg10 hg12))) ?_)
 have hb13:=Qup (rv11.toNat:Int) 127
 refine Oq Qyi (Oq Va (KS ?_))
 have hq:=q4 hrr (Qs6 (rv11.toNat:Int) 127) (by subst hg2 hg4 hg6 hg8 hg10 hg12; rfl); subst hq
 exact Kr () rfl (.tmp rfl .nil) [] ⟨by unfold Qaa; omega,by have h1:=Qro hg2 hg4 hg6 hg8 hg10 hg12; have h2:=Qq8 (n:=rv11.toNat) aM1; omega⟩
theorem Qxq (s:Qaf) (sa1:Option Addr) (sk1:Nat) (Qcc:Qaa s.Width) (rr:Int) (hrr:QgH s = rr):FT Tryz.prog 112 #[.agg #[vi s.Width,vl sa1 sk1 s.Words]] [S sa1 sk1 s.Words] (fun g:Unit=>Qaa rr) (fun g=>vi rr) (fun g=>[]):=by
 refine FTi Tryz.func112 fun w0 M0 F0=>?_
 unfold Qaa at Qcc
 refine Fb 8 0 fun _=>KS ?_
 refine Oa (Ab [vi s.Width,vl sa1 sk1 s.Words]) fun p2=>Oq Va (KS ?_)
 refine Oq Va (KS ?_)
 refine Oq (Qau Qax 0) ?_
 refine QaJ (Qa0 s) fun rv3 hg4=>?_
 have hc5:=QrD s sa1 sk1 pre rv3 hg4
 refine Oc [1] QrI hc5 ?_
 rintro - -
 refine KS ?_
 refine Kc ?_ ?_
 ·intro h6
  have hpw:=Qr2 (s:=s) (by simp only [h6,hg4])
  refine KS ?_
  refine Oq (Vfa Qcm 0) (Oq (Qah QiV 0) (Oq (Qba QgV) (Oq Vm (KS ?_))))
  refine Kl (γ:=Nat × Int × Int) (fun (r8,n_9,QhX)=>⟨[(3,vi n_9),(9,vl sa1 sk1 s.Words),(10,vi (s.Words.length:Int)),(11,vi QhX)],[S sa1 sk1 s.Words],QbU s r8 n_9 QhX = QbU s (((s.Words.length:Int) - 0).toNat) 0 0 /\ r8 = ((s.Words.length:Int) - QhX).toNat /\ (0:Int) <= QhX /\ QhX <= (s.Words.length:Int) /\ (-9223372036854775808 <= n_9 /\ n_9 <= 9223372036854775807) /\ (-9223372036854775808 <= QhX /\ QhX <= 9223372036854775807) /\ (0 <= n_9 /\ n_9 <= 127 * QhX),r8⟩) (((s.Words.length:Int) - 0).toNat,0,0) [1] ⟨rfl,rfl,aM1,aM1,aM1,aM1,iv0⟩ ?_
  rintro ⟨r8,n_9,QhX⟩ ⟨hM11,hr12,hi13,hi14,hk15,hk16,hv17⟩
  refine QaA fun _ _ hL hA=>?_; dsimp only at hL hA; subst hL hA
  refine Fb 8 0 fun _=>KS ?_
  refine Oq Qbh (KS ?_)
  refine Kc ?_ ?_
  ·intro h19
   have g20:=dt h19
   obtain ⟨r21,rfl⟩:=scc (n:=r8) aM1
   refine KS ?_
   refine Oq (Vi QgV 0) (Oq (QpT QnH 0) (Oq Va (KS ?_)))
   refine Oq Vm (Oq Vm ?_)
   refine QaJ (Qbz (s.Words.getD QhX.toNat 0#64)) fun rv22 hg23=>?_
   have hc24:=QxE ((s.Words.getD QhX.toNat 0#64)) rv22 hg23
   refine Oc [] QwZ hc24 ?_
   rintro - ⟨he25,he26⟩
   unfold Qaa at he25
   refine Oq QaS (Oq Va (KS ?_))
   refine Oq QaS (Oq Vm (KS ?_))
   exact Kg (r21,(n_9 + rv22),(QhX + 1)) [0] ⟨(q3 hM11 (by simp only [QbU,h19,hg23,cs4])),aM1,aM1,aM1,aM1,aM1,iv1⟩
  intro h19
  have g27:=df h19
  obtain rfl:r8 = 0:=by omega
  refine Ke ?_
  have hR28:=q2 hM11 n_9 (by simp only [QbU,h19,cs4])
  refine KS ?_
  refine Oq Vm (Oq Va (KS ?_))
  have hq:=q4 hrr n_9 (by simp only [QgH,h6,h19,hg4,hR28,cs4]); subst hq
  exact Kr () rfl (.tmp rfl .nil) [] en
 intro h6
 refine KS ?_
 refine Oq Vm (Oq Va (KS ?_))
 have hq:=q4 hrr 0 (by simp only [QgH,h6,hg4,cs4]); subst hq
 exact Kr () rfl (.tmp rfl .nil) [] en
theorem Qz7 (a:Qaf) (aa1:Option Addr) (ak1:Nat) (b:Qaf) (ba1:Option Addr) (bk1:Nat) (Qja:Qaa a.Width) (QfG:Qaa b.Width) (rr:Bool) (hrr:Qdp a b = rr):FT Tryz.prog 78 #[.agg #[vi a.Width,vl aa1 ak1 a.Words],.agg #[vi b.Width,vl ba1 bk1 b.Words]] [S aa1 ak1 a.Words,S ba1 bk1 b.Words] (fun g:Unit=>True) (fun g=>vb rr) (fun g=>[]):=by
 refine FTi Tryz.func78 fun w0 M0 F0=>?_
 unfold Qaa at Qja QfG
 refine Fb 8 0 fun _=>Fb 8 1 fun _=>KS ?_
 refine Oa (Ab [vi a.Width,vl aa1 ak1 a.Words]) fun p3=>Oa (Ab [vi b.Width,vl ba1 bk1 b.Words]) fun p4=>Oq Va (KS ?_)
 refine Oq (Qau Qax 1) (Oq (Qau Qax 0) ?_)
 refine QaJ (Qh7 a b) fun rv6 hg7=>?_
 have hc8:=Qva a aa1 ak1 b ba1 bk1 pre pre rv6 hg7
 refine Oc [2,3] QvG hc8 ?_
 rintro c5 ⟨he9,he10⟩
 unfold Qaa at he9 he10
 refine Jo 0 ?_; rintro a11 k12 rfl
 refine Fb 8 0 fun _=>?_
 refine Oq Vm (Oq Vx (Oq Vx (Oa (Al QgU [vi 0,.slice none 0 0]) fun p14=>Ost (Scl [0] Qax [vi rv6.1.Width,vl a11 k12 rv6.1.Words]) (Oq Va (KS ?_)))))
 refine Oq Vm (Oq QbW (Oq Vm ?_))
 refine Js 15 ?_ ?_
 ·intro h15
  have g16:=eq_of_beq h15
  refine Oq (Qau Qax 0) ?_
  refine QaJ (QgH rv6.1) fun rv17 hg18=>?_
  have hc19:=Qxq rv6.1 a11 k12 pre rv17 hg18
  refine Oc [1] QxX hc19 ?_
  rintro - he20
  unfold Qaa at he20
  refine Oq QbW (Oq Vpt (Oq Va (KS ?_)))
  have hq:=q4 hrr (rv17 == 0) (by simp only [Qdp,h15,hg7,hg18,cs4]); subst hq
  exact Kr () rfl (.tmp rfl .nil) [] trivial
 intro h15
 have g21:=ne_of_beq_false h15
 refine Osk (Osk (Osk (Oq Vpf (Oq Va (KS ?_)))))
 have hq:=q4 hrr false (by simp only [Qdp,h15,hg7,cs4]); subst hq
 exact Kr () rfl (.tmp rfl .nil) [] trivial
theorem Qz6 (s:Qac) (sa1:Option Addr) (sk1:Nat) (sa2:Option Addr) (sk2:Nat) (sa3:Option Addr) (sk3:Nat) (values:List Qaf) (valuesa0:Option Addr) (valuesk0:Nat) (Qcc:Qaa s.Width) (rr:Bool) (hrr:Qb5 s values = rr):FT Tryz.prog 46 #[.agg #[vi s.Width,vl sa1 sk1 s.Deps,vl sa2 sk2 s.Transfers,vl sa3 sk3 s.Boundary],vl valuesa0 valuesk0 values] [S sa1 sk1 s.Deps,S sa2 sk2 s.Transfers,S sa3 sk3 s.Boundary,S valuesa0 valuesk0 values] (fun g:Unit=>True) (fun g=>vb rr) (fun g=>[]):=by
 refine FTi Tryz.func46 fun w0 M0 F0=>?_
 unfold Qaa at Qcc
 refine Fb 24 0 fun _=>Fb 88 1 fun _=>Fb 32 2 fun _=>Fb 32 3 fun _=>KS ?_
 refine Oa (Ab [vi s.Width,vl sa1 sk1 s.Deps,vl sa2 sk2 s.Transfers,vl sa3 sk3 s.Boundary]) fun p5=>Oq Va (KS ?_)
 refine Oq (Qau Qen 0) (Oq Vm ?_)
 refine QaJ (QdI s values) fun rv7 hg8=>?_
 have hc9:=QBl s sa1 sk1 sa2 sk2 sa3 sk3 values valuesa0 valuesk0 pre rv7 hg8
 refine Oc [1,2,3,4] QAT hc9 ?_
 rintro c6 he10
 unfold Qaa at he10
 refine Jo 0 ?_; rintro a11 k12 rfl
 refine Fb 32 0 fun _=>?_
 refine Oq Vm (Oq Vx (Oq Vx (Oq Va (Oq Va (KS ?_)))))
 refine Oq Vm (Oq QfZ (KS ?_))
 refine Kc ?_ ?_
 ·intro h14
  have g15:=QaB h14
  refine KS ?_
  refine Oq Va (KS ?_)
  have hq:=q4 hrr false (by simp only [Qb5,h14,hg8,cs4]); subst hq
  exact Kr () rfl (.tmp rfl .nil) [] trivial
 intro h14
 have g16:=Qae h14
 obtain ⟨hnv,hnw,hnx⟩:=Qnc (by assumption:QdI s values = rv7) h14; have hnl:=hnw.1; have hnb:=hnv.bl; have hn1:=hnv.n; have hne:rv7.1.length = s.Boundary.length:=by rw [hnx,Qpx]
 refine KS ?_
 refine Oq Vm (Oq (Qba Qc6) (Oq Vm (KS ?_)))
 refine Kl (γ:=Nat × Int) (fun (r17,QfD)=>⟨[(1,vl valuesa0 valuesk0 values),(5,vl a11 k12 rv7.1),(17,vi (rv7.1.length:Int)),(18,vi QfD)],[S a11 k12 rv7.1,S valuesa0 valuesk0 values],QbH values rv7.1 r17 QfD = QbH values rv7.1 (((rv7.1.length:Int) - 0).toNat) 0 /\ r17 = ((rv7.1.length:Int) - QfD).toNat /\ (0:Int) <= QfD /\ QfD <= (rv7.1.length:Int) /\ (-9223372036854775808 <= QfD /\ QfD <= 9223372036854775807),r17⟩) (((rv7.1.length:Int) - 0).toNat,0) [0,5] ⟨rfl,rfl,aM1,aM1,aM1⟩ ?_
 rintro ⟨r17,QfD⟩ ⟨hM19,hr20,hi21,hi22,hk23⟩
 refine QaA fun _ _ hL hA=>?_; dsimp only at hL hA; subst hL hA
 refine Fb 32 0 fun _=>Fb 32 1 fun _=>KS ?_
 refine Oq Qbh (KS ?_)
 refine Kc ?_ ?_
 ·intro h26
  have g27:=dt h26
  obtain ⟨r28,rfl⟩:=scc (n:=r17) aM1
  refine KS ?_
  refine Oq Vm (Oq Va (KS ?_))
  refine Qa3 QfD.toNat 0 rfl rng fun a29 k30 hb31=>?_
  unfold Qaa at hb31
  refine Fb 8 1 fun _=>?_
  refine Qa3 QfD.toNat 3 rfl rng fun a33 k34 hb35=>?_
  unfold Qaa at hb35
  refine Fb 8 1 fun _=>?_
  refine Qam [0,0,3,7,0,0,48,112,255,511] Qco ?_
  refine Dv [] Vm (Dv [] Vm (Dv [4] (Vi Qc6 0) (Dv [2] (Qau Qax 0) (Dv [] Vm (Dv [] Vm (Dv [5] (Vi Qc6 0) (Dv [0] (Qau Qax 0) ?_)))))))
  refine QaJ (Qdp (rv7.1.getD QfD.toNat default) (values.getD QfD.toNat default)) fun rv37 hg38=>?_
  refine Dx [1,3] [] [1,2,0] (fun G=>vb rv37) [fun G=>SP.fact (True)] (fun G=>xC [1,0] Qz9 (Qz7 ((rv7.1.getD QfD.toNat default)) a29 k30 ((values.getD QfD.toNat default)) a33 k34 pre pre rv37 hg38)) (Dv [] Qcy ?_)
  refine Dn ⟨by kernel_rfl,fun G=>?_⟩
  refine Jw2 [(1,vl valuesa0 valuesk0 values),(5,vl a11 k12 rv7.1),(17,vi (rv7.1.length:Int)),(18,vi QfD),(30,vb (!rv37))] [0,1,2,3,4,5] [SP.fact (True)] ?_
  refine Jk [0,1,2,3,4,5] ?_
  refine Kc ?_ ?_
  ·intro h39
   have h41:=not_true h39
   refine KS ?_
   refine Oq Va (KS ?_)
   have hR43:=q2 hM19 (.ret false) (by simp only [QbH,h26,h39,h41,hg38,cs4])
   have hq:=q4 hrr false (by simp only [Qb5,h14,h26,h39,h41,hg8,hg38,hR43,cs4]); subst hq
   exact Kr () rfl (.tmp rfl .nil) [] trivial
  intro h39
  have h45:=not_false h39
  refine KS ?_
  refine Oq QaS (Oq Vm (KS ?_))
  exact Kg (r28,(QfD + 1)) [4,5] ⟨(q3 hM19 (by simp only [QbH,h26,h39,h45,hg38,cs4])),aM1,aM1,aM1,aM1⟩
 intro h26
 have g47:=df h26
 obtain rfl:r17 = 0:=by omega
 refine Ke ?_
 have hR48:=q2 hM19 (.brk ()) (by simp only [QbH,h26,cs4])
 refine KS ?_
 refine Oq Va (KS ?_)
 have hq:=q4 hrr true (by simp only [Qb5,h14,h26,hg8,hR48,cs4]); subst hq
 exact Kr () rfl (.tmp rfl .nil) [] trivial
theorem QxQ (s:Qac) (sa1:Option Addr) (sk1:Nat) (sa2:Option Addr) (sk2:Nat) (sa3:Option Addr) (sk3:Nat) (n:Int) (bit:Int) (values:List Qaf) (valuesa0:Option Addr) (valuesk0:Nat) (Qcc:Qaa s.Width) (Qgv:Qaa n) (Qfj:Qaa bit) (rr:Bool) (hrr:Qat s n bit values = rr):FT Tryz.prog 16 #[.agg #[vi s.Width,vl sa1 sk1 s.Deps,vl sa2 sk2 s.Transfers,vl sa3 sk3 s.Boundary],vi n,vi bit,vl valuesa0 valuesk0 values] [S sa1 sk1 s.Deps,S sa2 sk2 s.Transfers,S sa3 sk3 s.Boundary,S valuesa0 valuesk0 values] (fun g:Unit=>True) (fun g=>vb rr) (fun g=>[]):=by
 refine FTi Tryz.func16 fun w0 M0 F0=>?_
 unfold Qaa at Qcc Qgv Qfj
 refine Fb 24 0 fun _=>Fb 88 1 fun _=>Fb 32 2 fun _=>Fb 32 3 fun _=>KS ?_
 refine Oa (Ab [vi s.Width,vl sa1 sk1 s.Deps,vl sa2 sk2 s.Transfers,vl sa3 sk3 s.Boundary]) fun p5=>Oq Va (KS ?_)
 refine Oq (Qau Qen 0) (Oq Vm (Oq Vm ?_))
 refine QaJ (Qar s n bit) fun rv6 hg7=>?_
 have hc8:=QwE s sa1 sk1 sa2 sk2 sa3 sk3 n bit pre pre pre rv6 hg7
 refine Oc [1,2,3] Qwy hc8 ?_
 rintro - he9
 unfold Qaa at he9
 refine Oq QbW (Oq Vm ?_)
 refine Js 14 ?_ ?_
 ·intro h10
  have g11:=eq_of_beq h10
  have hwa:=Qt3 (by assumption:Qar s _ _ = rv6) h10; have hwb:=hwa.1.bl; have hwt:=hwa.2.1
  refine Oq (Qau Qen 0) (Oq Vm ?_)
  refine QaJ (Qb5 s values) fun rv12 hg13=>?_
  have hc14:=Qz6 s sa1 sk1 sa2 sk2 sa3 sk3 values valuesa0 valuesk0 pre rv12 hg13
  refine Oc [1,2,3,4] QzL hc14 ?_
  rintro - -
  refine Oq Vpt (Oq Vm ?_)
  refine Js 19 ?_ ?_
  ·intro h15
   try (have hab:=QoQ ((by assumption:Qb5 s values = rv12).trans h15))
   refine Oq Vm (Oq Vm (Oq (Vi Qc6 4) ?_))
   refine Qa3 n.toNat 4 rfl rng fun a17 k18 hb19=>?_
   unfold Qaa at hb19
   refine Fb 8 1 fun _=>?_
   refine Oq (Qau Qax 0) (Oq Vm ?_)
   refine QaJ (Qfe (values.getD n.toNat default) bit) fun rv21 hg22=>?_
   have hc23:=QtR ((values.getD n.toNat default)) a17 k18 bit pre pre rv21 hg22
   refine Oc [1] QtI hc23 ?_
   rintro - -
   refine Oq Qcy (Oq Vpt (Oq Va (KS ?_)))
   have hq:=q4 hrr (!rv21) (by simp only [Qat,h10,h15,hg7,hg13,hg22,cs4]); subst hq
   exact Kr () rfl (.tmp rfl .nil) [] trivial
  intro h15
  refine Osk (Osk (Osk (Osk (Osk (Osk (Osk (Oq Vpf (Oq Va (KS ?_)))))))))
  have hq:=q4 hrr false (by simp only [Qat,h10,h15,hg7,hg13,cs4]); subst hq
  exact Kr () rfl (.tmp rfl .nil) [] trivial
 intro h10
 have g25:=ne_of_beq_false h10
 refine Osk (Osk (Osk (Oq Vpf (Oq Vm (Osk (Osk (Osk (Osk (Osk ?_)))))))))
 refine Osk (Osk (Oq Vpf (Oq Va (KS ?_))))
 have hq:=q4 hrr false (by simp only [Qat,h10,hg7,cs4]); subst hq
 exact Kr () rfl (.tmp rfl .nil) [] trivial
theorem QxY (a:Qaf) (aa1:Option Addr) (ak1:Nat) (b:Qaf) (ba1:Option Addr) (bk1:Nat) (Qja:Qaa a.Width) (QfG:Qaa b.Width) (rr:Qaf × Int) (hrr:QjZ a b = rr):FT Tryz.prog 116 #[.agg #[vi a.Width,vl aa1 ak1 a.Words],.agg #[vi b.Width,vl ba1 bk1 b.Words]] [S aa1 ak1 a.Words,S ba1 bk1 b.Words] (fun g:Value=>Qaa rr.1.Width /\ Qaa rr.2) (fun g=>.tuple #[.agg #[vi rr.1.Width,g],vi rr.2]) (fun g=>[sl g rr.1.Words]):=by
 refine FTi Tryz.func116 fun w0 M0 F0=>?_
 unfold Qaa at Qja QfG
 refine Fb 8 0 fun _=>Fb 8 1 fun _=>KS ?_
 refine Oa (Ab [vi a.Width,vl aa1 ak1 a.Words]) fun p3=>Oa (Ab [vi b.Width,vl ba1 bk1 b.Words]) fun p4=>Oa (Al QgU [vi 0,.slice none 0 0]) fun p5=>Oq Va (KS ?_)
 refine Oq (Qau Qax 2) (Oq (Qau Qax 1) ?_)
 refine QaJ (QgA a b true false false) fun rv7 hg8=>?_
 have hc9:=Qzc a aa1 ak1 b ba1 bk1 true false false pre pre rv7 hg8
 refine Oc [3,4] Qzf hc9 ?_
 rintro c6 ⟨he10,he11⟩
 unfold Qaa at he10 he11
 refine Jo 0 ?_; rintro a12 k13 rfl
 refine Fb 8 0 fun _=>?_
 refine Oq Vx (Oq Vx (Ost (Scl [1] Qax [vi rv7.1.Width,vl a12 k13 rv7.1.Words]) (Oq Va (KS ?_))))
 have hq:=q4 hrr (rv7.1,rv7.2) (by simp only [QjZ,hg8,cs4]); subst hq
 exact Kr (vl a12 k13 rv7.1.Words) rfl (.cellN 0 rfl Qax rfl (Qal _ _) rfl (.tmp rfl .nil)) [1] en
theorem Qw0 (s:Qaf) (sa1:Option Addr) (sk1:Nat) (Qcc:Qaa s.Width) (rr:List Int) (hrr:Qei s = rr):FT Tryz.prog 117 #[.agg #[vi s.Width,vl sa1 sk1 s.Words]] [S sa1 sk1 s.Words] (fun g:Value=>True) (fun g=>g) (fun g=>[sl g rr]):=by
 refine FTi Tryz.func117 fun w0 M0 F0=>?_
 unfold Qaa at Qcc
 refine Fb 8 0 fun _=>KS ?_
 refine Oa (Ab [vi s.Width,vl sa1 sk1 s.Words]) fun p2=>Oq Va (KS ?_)
 refine Oq Va (KS ?_)
 refine Oq Va (KS ?_)
 refine Jl [] (Ent.osNil (α:=Int)) ?_
 have hterm12:Qbj s (s.Width.toNat + 1) [] 0 ≠ LR.oof:=Qf8 _ _ _ _ aM1 aM1
 refine Kl (γ:=Nat × List Int × Int × Option Addr × Nat) (fun (r3,QbM,b_5,a6,k7)=>⟨[(1,p2),(3,vl a6 k7 QbM),(4,vi b_5)],[O a6 k7 QbM,pv p2 [vi s.Width,vl sa1 sk1 s.Words],S sa1 sk1 s.Words],Qbj s r3 QbM b_5 = Qbj s (s.Width.toNat + 1) [] 0 /\ (-9223372036854775808 <= b_5 /\ b_5 <= 9223372036854775807) /\ 0 <= b_5 /\ (QbM.length:Int) <= b_5,r3⟩) ((s.Width.toNat + 1),[],0,none,0) [0,0,1] ⟨rfl,aM1,iv0,iv0⟩ ?_
 rintro ⟨r3,QbM,b_5,a6,k7⟩ ⟨hM8,hk9,hv10,hv11⟩
 refine QaA fun _ _ hL hA=>?_; dsimp only at hL hA; subst hL hA
 refine Fb 8 0 fun _=>Fo 0 fun ho14=>Fb 8 2 fun _=>?_
 rcases r3 with _ | r3
 ·exact absurd (hM8.symm.trans rfl) hterm12
 refine KS ?_
 refine Oq (Qau Qax 1) ?_
 refine QaJ (QaT s) fun rv16 hg17=>?_
 have hc18:=QsI s sa1 sk1 pre rv16 hg17
 refine Oc [2] Qsy hc18 ?_
 rintro - -
 refine Oq Vm ?_
 refine Js 7 ?_ ?_
 ·intro h19
  try have hrg:=Qqe (s:=s) (by simp only [h19,hg17])
  refine Oq Vm (Oq (Vfa Qbi 1) (Oq (Qah sh3 1) (Oq Qbh (Oq Vpt (KS ?_)))))
  refine Kc ?_ ?_
  ·intro h21
   have g22:=dt h21
   refine KS ?_
   refine Oq (Qau Qax 1) (Oq Vm ?_)
   refine QaJ (Qap s b_5) fun rv23 hg24=>?_
   have hc25:=QrH s sa1 sk1 b_5 pre pre rv23 hg24
   refine Oc [2] QrF hc25 ?_
   rintro - -
   refine KS ?_
   refine Kc ?_ ?_
   ·intro h26
    try have hrg:=Qqe (s:=s) (by simp only [h19,h21,h26,hg17,hg24])
    refine KS ?_
    refine Oq Vm (Oq Vm (Oa (AsV QcA Qnk [vi b_5] [vi b_5]) fun c28=>?_))
    refine Jo 0 ?_; rintro a29 k30 rfl
    refine Jl [0] (Ent.crInt _ [b_5] _ _ rfl rfl (by intro x hx; rw [List.mem_singleton] at hx; subst hx; unfold Qaa; omega) aB1) ?_
    refine Oa (ApO [1,0] QcA QcA Qnk) fun c31=>?_
    refine Jo 0 ?_; rintro a32 k33 rfl
    refine Fb 8 0 fun _=>Fo 0 fun ho35=>?_
    have hn36:=la QbM ([b_5]:List Int)
    refine Oq Va (KS ?_)
    refine Oq Vm (Oq QaS (Oq Va (KS ?_)))
    exact Kg (r3,(QbM ++ [b_5]),(b_5 + 1),a32,k33) [0,0,1] ⟨(q3 hM8 (by simp only [Qbj,h19,h21,h26,hg17,hg24,cs4])),aM1,iv1,iv1⟩
   intro h26
   refine KS ?_
   refine Oq Vm (Oq QaS (Oq Va (KS ?_)))
   exact Kg (r3,QbM,(b_5 + 1),a6,k7) [0,0,1] ⟨(q3 hM8 (by simp only [Qbj,h19,h21,h26,hg17,hg24,cs4])),aM1,iv1,iv1⟩
  intro h21
  have g38:=df h21
  refine Ke ?_
  have hR39:=q2 hM8 (.brk QbM) (by simp only [Qbj,h19,h21,hg17,cs4])
  refine KS ?_
  refine Oq Vm (Oq Va (KS ?_))
  refine Jl [0] (Ent.freeze _ _) ?_
  have hq:=q4 hrr QbM (by simp only [Qei,h19,h21,hg17,hR39,cs4]); subst hq
  exact Kr (vl a6 k7 QbM) rfl (.tmp rfl .nil) [0] trivial
 intro h19
 refine Osk (Osk (Osk (Osk (Oq Vpf (KS ?_)))))
 refine Kf ?_
 refine Ke ?_
 have hR41:=q2 hM8 (.brk QbM) (by simp only [Qbj,h19,hg17,cs4])
 refine KS ?_
 refine Oq Vm (Oq Va (KS ?_))
 refine Jl [0] (Ent.freeze _ _) ?_
 have hq:=q4 hrr QbM (by simp only [Qei,h19,hg17,hR41,cs4]); subst hq
 exact Kr (vl a6 k7 QbM) rfl (.tmp rfl .nil) [0] trivial
theorem QBj (a:Qaf) (aa1:Option Addr) (ak1:Nat) (b:Qaf) (ba1:Option Addr) (bk1:Nat) (Qja:Qaa a.Width) (QfG:Qaa b.Width) (rr:Bool) (hrr:QeC a b = rr):FT Tryz.prog 82 #[.agg #[vi a.Width,vl aa1 ak1 a.Words],.agg #[vi b.Width,vl ba1 bk1 b.Words]] [S aa1 ak1 a.Words,S ba1 bk1 b.Words] (fun g:Unit=>True) (fun g=>vb rr) (fun g=>[]):=by
 refine FTi Tryz.func82 fun w0 M0 F0=>?_
 unfold Qaa at Qja QfG
 refine Fb 8 0 fun _=>Fb 8 1 fun _=>KS ?_
 refine Oa (Ab [vi a.Width,vl aa1 ak1 a.Words]) fun p3=>Oa (Ab [vi b.Width,vl ba1 bk1 b.Words]) fun p4=>Oq Va (KS ?_)
 refine Oq (Qau Qax 1) (Oq (Qau Qax 0) ?_)
 refine QaJ (QjZ a b) fun rv6 hg7=>?_
 have hc8:=QxY a aa1 ak1 b ba1 bk1 pre pre rv6 hg7
 refine Oc [2,3] QxO hc8 ?_
 rintro c5 ⟨he9,he10⟩
 unfold Qaa at he9 he10
 refine Jo 0 ?_; rintro a11 k12 rfl
 refine Fb 8 0 fun _=>?_
 refine Oq Vm (Oq Vx (Oq Vx (Oa (Al QgU [vi 0,.slice none 0 0]) fun p14=>Ost (Scl [0] Qax [vi rv6.1.Width,vl a11 k12 rv6.1.Words]) (Oq Va (KS ?_)))))
 refine Oq Vm (Oq QbW (Oq Vm ?_))
 refine Js 15 ?_ ?_
 ·intro h15
  have g16:=eq_of_beq h15
  refine Oq (Qau Qax 0) ?_
  refine QaJ (Qei rv6.1) fun rv18 hg19=>?_
  have hc20:=Qw0 rv6.1 a11 k12 pre rv18 hg19
  refine Oc [1] Qxc hc20 ?_
  rintro c17 -
  refine Jo 0 ?_; rintro a21 k22 rfl
  refine Fb 8 0 fun _=>Fo 0 fun ho24=>?_
  refine Oq (Qba QcA) (Oq QbW (Oq Vpt (Oq Va (KS ?_))))
  have hq:=q4 hrr ((rv18.length:Int) == 0) (by simp only [QeC,h15,hg7,hg19,cs4]); subst hq
  exact Kr () rfl (.tmp rfl .nil) [] trivial
 intro h15
 have g25:=ne_of_beq_false h15
 refine Osk (Osk (Osk (Osk (Oq Vpf (Oq Va (KS ?_))))))
 have hq:=q4 hrr false (by simp only [QeC,h15,hg7,cs4]); subst hq
 exact Kr () rfl (.tmp rfl .nil) [] trivial
theorem QBb (s:Qac) (sa1:Option Addr) (sk1:Nat) (sa2:Option Addr) (sk2:Nat) (sa3:Option Addr) (sk3:Nat) (v:List Qaf) (va0:Option Addr) (vk0:Nat) (Qcc:Qaa s.Width) (rr:Bool) (hrr:Qb9 s v = rr):FT Tryz.prog 48 #[.agg #[vi s.Width,vl sa1 sk1 s.Deps,vl sa2 sk2 s.Transfers,vl sa3 sk3 s.Boundary],vl va0 vk0 v] [S sa1 sk1 s.Deps,S sa2 sk2 s.Transfers,S sa3 sk3 s.Boundary,S va0 vk0 v] (fun g:Unit=>True) (fun g=>vb rr) (fun g=>[]):=by
 refine FTi Tryz.func48 fun w0 M0 F0=>?_
 unfold Qaa at Qcc
 refine Fb 24 0 fun _=>Fb 88 1 fun _=>Fb 32 2 fun _=>Fb 32 3 fun _=>KS ?_
 refine Oa (Ab [vi s.Width,vl sa1 sk1 s.Deps,vl sa2 sk2 s.Transfers,vl sa3 sk3 s.Boundary]) fun p5=>Oq Va (KS ?_)
 refine Oq (Qau Qen 0) ?_
 refine QaJ (Qa1 s) fun rv6 hg7=>?_
 have hc8:=QwA s sa1 sk1 sa2 sk2 sa3 sk3 pre rv6 hg7
 refine Oc [1,2,3] QwF hc8 ?_
 rintro - -
 refine Oq Qcy (Oq Vm ?_)
 refine Js 9 ?_ ?_
 ·intro h9
  have h11:=not_true h9
  refine Osk (Osk (Osk (Osk (Oq Vpt (KS ?_)))))
  refine Kt (KS ?_)
  refine Oq Va (KS ?_)
  have hq:=q4 hrr false (by simp only [Qb9,h9,h11,hg7,cs4]); subst hq
  exact Kr () rfl (.tmp rfl .nil) [] trivial
 intro h9
 have h14:=not_false h9
 try (have hvs:=(Qbu s).1 (by simp only [h9,h14,hg7]); have hv1:=hvs.n; have hv2:=hvs.tl; have hv3:=hvs.bl; have hv4:=hvs.w)
 refine Oq (Qau Qen 0) (Oq Vm ?_)
 refine QaJ (Qbs s v) fun rv16 hg17=>?_
 have hc18:=Qzr s sa1 sk1 sa2 sk2 sa3 sk3 v va0 vk0 pre rv16 hg17
 refine Oc [1,2,3,4] Qy4 hc18 ?_
 rintro - he19
 unfold Qaa at he19
 refine Oq QfZ (Oq Vpf (KS ?_))
 refine Kc ?_ ?_
 ·intro h20
  have g21:=QaB h20
  refine KS ?_
  refine Oq Va (KS ?_)
  have hq:=q4 hrr false (by simp only [Qb9,h9,h14,h20,hg7,hg17,cs4]); subst hq
  exact Kr () rfl (.tmp rfl .nil) [] trivial
 intro h20
 have g22:=Qae h20
 have hvl:=QmD ((by assumption:Qbs s v = rv16).trans (by simpa using h20))
 refine KS ?_
 refine Oq Va (KS ?_)
 refine Kl (γ:=Nat × Int) (fun (r23,Qo4)=>⟨[(1,vl va0 vk0 v),(2,p5),(5,vi Qo4)],[pv p5 [vi s.Width,vl sa1 sk1 s.Deps,vl sa2 sk2 s.Transfers,vl sa3 sk3 s.Boundary],S sa1 sk1 s.Deps,S sa2 sk2 s.Transfers,S sa3 sk3 s.Boundary,S va0 vk0 v],Qck s v r23 Qo4 = Qck s v (((v.length:Int) - 0).toNat) 0 /\ r23 = ((v.length:Int) - Qo4).toNat /\ (0:Int) <= Qo4 /\ Qo4 <= (v.length:Int) /\ (-9223372036854775808 <= Qo4 /\ Qo4 <= 9223372036854775807),r23⟩) (((v.length:Int) - 0).toNat,0) [0,1,2,3,4] ⟨rfl,rfl,aM1,aM1,aM1⟩ ?_
 rintro ⟨r23,Qo4⟩ ⟨hM25,hr26,hi27,hi28,hk29⟩
 refine QaA fun _ _ hL hA=>?_; dsimp only at hL hA; subst hL hA
 refine Fb 24 1 fun _=>Fb 88 2 fun _=>Fb 32 3 fun _=>Fb 32 4 fun _=>KS ?_
 refine Oq Vm (Oq Vm (Oq (Qba Qc6) (Oq Qbh (KS ?_))))
 refine Kc ?_ ?_
 ·intro h34
  have g35:=dt h34
  obtain ⟨r36,rfl⟩:=scc (n:=r23) aM1
  refine KS ?_
  refine Qa3 Qo4.toNat 4 rfl rng fun a37 k38 hb39=>?_
  unfold Qaa at hb39
  refine Fb 8 1 fun _=>?_
  refine Qam [0,0,0,7,0,0,48,112,255,511] Qco ?_
  refine Dv [2] (Qau Qen 0) (Dv [] Vm (Dv [] Vm ?_))
  refine QaJ (QbG s v Qo4) fun rv42 hg43=>?_
  refine Dx [3,4,5,6] [] [2,3,4,5,0,1] (fun G=>.agg #[vi rv42.Width,(G.g 3 0)]) [fun G=>SP.fact (Qaa rv42.Width),fun G=>sl (G.g 3 0) rv42.Words] (fun G=>xC [0,1,2,3] Qy1 (QzC s sa1 sk1 sa2 sk2 sa3 sk3 v va0 vk0 Qo4 pre pre hvs hvl pre rv42 hg43)) (Dv [] Vm (Dv [] Vm (Dv [6] (Vi Qc6 0) (Dv [0] (Qau Qax 0) ?_))))
  refine QaJ (QeC rv42 (v.getD Qo4.toNat default)) fun rv47 hg48=>?_
  refine Dx [1,7,8] [] [1,2,3,0] (fun G=>vb rv47) [fun G=>SP.fact (True)] (fun G=>by refine xf 1 rfl ?_; rintro he49; unfold Qaa at he49; exact xD [2,0] QAl rfl rfl rfl (Qh1 (γ:=Unit) (I:=fun g=>True) (V:=fun g=>vb rv47) (B:=fun g=>[]) (R:=sl (G.g 3 0) rv42.Words) QgC (fun aq44 kq45 eq46=>by rw [eq46]; exact Qd3 (Ent.take (is:=[0,1]) rfl) (QBj rv42 aq44 kq45 ((v.getD Qo4.toNat default)) a37 k38 pre pre rv47 hg48)))) (Dv [] Qcy ?_)
  refine Dn ⟨by kernel_rfl,fun G=>?_⟩
  refine Jw2 [(1,vl va0 vk0 v),(2,p5),(5,vi Qo4),(30,vb (!rv47))] [0,1,2,3,4,5,6] [SP.fact (Qaa rv42.Width),sl (G.g 3 0) rv42.Words,SP.fact (True)] ?_
  generalize G.g 3 0 = c41
  refine Jf 7 rfl ?_; rintro he50
  unfold Qaa at he50
  refine Jk [0,1,2,3,4,5,6,8] ?_
  refine Jo 7 ?_; rintro a51 k52 rfl
  refine Fb 8 7 fun _=>?_
  refine Kc ?_ ?_
  ·intro h54
   have h56:=not_true h54
   refine KS ?_
   refine Oq Va (KS ?_)
   have hR58:=q2 hM25 (.ret false) (by simp only [Qck,h34,h54,h56,hg43,hg48,cs4])
   have hq:=q4 hrr false (by simp only [Qb9,h9,h14,h20,h34,h54,h56,hg7,hg17,hg43,hg48,hR58,cs4]); subst hq
   exact Kr () rfl (.tmp rfl .nil) [] trivial
  intro h54
  have h60:=not_false h54
  try (have hvs:=(Qbu s).1 (by simp only [h9,h14,h20,h34,h54,h60,hg7,hg17,hg43,hg48]); have hv1:=hvs.n; have hv2:=hvs.tl; have hv3:=hvs.bl; have hv4:=hvs.w)
  refine KS ?_
  refine Oq Vm (Oq QaS (Oq Va (KS ?_)))
  exact Kg (r36,(Qo4 + 1)) [2,3,4,5,6] ⟨(q3 hM25 (by simp only [Qck,h34,h54,h60,hg43,hg48,cs4])),aM1,aM1,aM1,aM1⟩
 intro h34
 have g62:=df h34
 obtain rfl:r23 = 0:=by omega
 refine Ke ?_
 have hR63:=q2 hM25 (.brk ()) (by simp only [Qck,h34,cs4])
 refine KS ?_
 refine Oq Va (KS ?_)
 have hq:=q4 hrr true (by simp only [Qb9,h9,h14,h20,h34,hg7,hg17,hR63,cs4]); subst hq
 exact Kr () rfl (.tmp rfl .nil) [] trivial
theorem Qzi (s:Qac) (sa1:Option Addr) (sk1:Nat) (sa2:Option Addr) (sk2:Nat) (sa3:Option Addr) (sk3:Nat) (n:Int) (bit:Int) (v:List Qaf) (va0:Option Addr) (vk0:Nat) (Qcc:Qaa s.Width) (Qgv:Qaa n) (Qfj:Qaa bit) (rr:Bool) (hrr:QaQ s n bit v = rr):FT Tryz.prog 17 #[.agg #[vi s.Width,vl sa1 sk1 s.Deps,vl sa2 sk2 s.Transfers,vl sa3 sk3 s.Boundary],vi n,vi bit,vl va0 vk0 v] [S sa1 sk1 s.Deps,S sa2 sk2 s.Transfers,S sa3 sk3 s.Boundary,S va0 vk0 v] (fun g:Unit=>True) (fun g=>vb rr) (fun g=>[]):=by
 refine FTi Tryz.func17 fun w0 M0 F0=>?_
 unfold Qaa at Qcc Qgv Qfj
 refine Fb 24 0 fun _=>Fb 88 1 fun _=>Fb 32 2 fun _=>Fb 32 3 fun _=>KS ?_
 refine Oa (Ab [vi s.Width,vl sa1 sk1 s.Deps,vl sa2 sk2 s.Transfers,vl sa3 sk3 s.Boundary]) fun p5=>Oq Va (KS ?_)
 refine Oq (Qau Qen 0) (Oq Vm (Oq Vm ?_))
 refine QaJ (QaL s n bit) fun rv6 hg7=>?_
 have hc8:=QwD s sa1 sk1 sa2 sk2 sa3 sk3 n bit pre pre pre rv6 hg7
 refine Oc [1,2,3] QwP hc8 ?_
 rintro - he9
 unfold Qaa at he9
 refine Oq QbW (Oq Vm ?_)
 refine Js 14 ?_ ?_
 ·intro h10
  have g11:=eq_of_beq h10
  have hwa:=Qub (by assumption:QaL s _ _ = rv6) h10; have hwb:=hwa.1.bl; have hwt:=hwa.2.1
  refine Oq (Qau Qen 0) (Oq Vm ?_)
  refine QaJ (Qb9 s v) fun rv12 hg13=>?_
  have hc14:=QBb s sa1 sk1 sa2 sk2 sa3 sk3 v va0 vk0 pre rv12 hg13
  refine Oc [1,2,3,4] QBC hc14 ?_
  rintro - -
  refine Oq Vpt (Oq Vm ?_)
  refine Js 19 ?_ ?_
  ·intro h15
   try (have hab:=Qn6 ((by assumption:Qb9 s v = rv12).trans h15))
   refine Oq Vm (Oq Vm (Oq (Vi Qc6 4) ?_))
   refine Qa3 n.toNat 4 rfl rng fun a17 k18 hb19=>?_
   unfold Qaa at hb19
   refine Fb 8 1 fun _=>?_
   refine Oq (Qau Qax 0) (Oq Vm ?_)
   refine QaJ (Qap (v.getD n.toNat default) bit) fun rv21 hg22=>?_
   have hc23:=QrH ((v.getD n.toNat default)) a17 k18 bit pre pre rv21 hg22
   refine Oc [1] QrF hc23 ?_
   rintro - -
   refine Oq Qcy (Oq Vpt (Oq Va (KS ?_)))
   have hq:=q4 hrr (!rv21) (by simp only [QaQ,h10,h15,hg7,hg13,hg22,cs4]); subst hq
   exact Kr () rfl (.tmp rfl .nil) [] trivial
  intro h15
  refine Osk (Osk (Osk (Osk (Osk (Osk (Osk (Oq Vpf (Oq Va (KS ?_)))))))))
  have hq:=q4 hrr false (by simp only [QaQ,h10,h15,hg7,hg13,cs4]); subst hq
  exact Kr () rfl (.tmp rfl .nil) [] trivial
 intro h10
 have g25:=ne_of_beq_false h10
 refine Osk (Osk (Osk (Oq Vpf (Oq Vm (Osk (Osk (Osk (Osk (Osk ?_)))))))))
 refine Osk (Osk (Oq Vpf (Oq Va (KS ?_))))
 have hq:=q4 hrr false (by simp only [QaQ,h10,hg7,cs4]); subst hq
 exact Kr () rfl (.tmp rfl .nil) [] trivial
theorem QBm (tP:Value) (ta:Option Addr) (tk:Nat) (tT:List Int) (tI:Int) (s:Qaf) (sa1:Option Addr) (sk1:Nat) (htI:0 <= tI /\ tI <= (tT.length:Int)) (Qcc:Qaa s.Width) (hs:Qop s) (rr:Qaf × Int) (hrr:QdO tT tI s = rr):FT Tryz.prog 49 #[tP,.agg #[vi s.Width,vl sa1 sk1 s.Words]] [Cl tP [vl ta tk tT,vi tI],S ta tk tT,S sa1 sk1 s.Words] (fun g:Value=>Qaa rr.1.Width /\ (0 <= rr.2 /\ rr.2 <= (tT.length:Int))) (fun g=>.agg #[vi rr.1.Width,g]) (fun g=>[sl g rr.1.Words,Cl tP [vl ta tk tT,vi rr.2]]):=by
 refine FTi Tryz.func49 fun w0 M0 F0=>?_
 unfold Qaa at Qcc
 refine Fb 8 1 fun _=>Fo 1 fun ho2=>Fb 8 2 fun _=>?_
 obtain ⟨hw0,hw1,hw2⟩:=hs
 refine KS ?_
 refine Oa (Ab [vi s.Width,vl sa1 sk1 s.Words]) fun p4=>Oa (Al QgU [vi 0,.slice none 0 0]) fun p5=>KS ?_
 refine Qam [0,1,0,0,8,28,63,0,255] Qco ?_
 refine Dv [1] (Vfa Qbi 0) (Dv [1] (Qah sh3 0) (Dx [] [] [0] (fun G=>(G.g 2 0)) [fun G=>Cr (G.g 2 0) 0 []] (fun G=>xA (As0 QgV)) (Dv [1] (Vfa Qcm 0) (Dv [1] (Qah QiV 0) (Dx [4,5] [5] [1,0] (fun G=>(G.g 5 0)) [fun G=>os (G.g 5 0) s.Words] (fun G=>xp [1] rfl (Ent.crNil (α:=BitVec 64) _) (xA (Ap0 [0,0] QgV QgV QuM))) ?_)))))
 refine Dx [6] [] [0] (fun G=>.agg #[vi s.Width,(G.g 5 0)]) [] (fun G=>xV (v:=.agg #[vi s.Width,(G.g 5 0)]) (Vo 0 rfl (Qks _ _) fun aq8 kq9 eq10=>(by rw [eq10]; exact Vbd Qju [vi s.Width,.slice aq8 ((s.Words:List (BitVec 64)).length) kq9]))) (Dx [] [] [0] (fun G=>(G.g 7 0)) [fun G=>Cl (G.g 7 0) [vi 0,.slice none 0 0]] (fun G=>xA (Al QgU [vi 0,.slice none 0 0])) (Dx0 [6,7] [7] [1,0] [fun G=>Cl (G.g 7 0) [vi s.Width,(G.g 5 0)]] (fun G=>x1 0 rfl Qc0 fun ho12=>(xS (Scl [1] Qax [vi s.Width,(G.g 5 0)] (v:=.agg #[vi s.Width,(G.g 5 0)]) (h1:=show [vi s.Width,(G.g 5 0)].all (·.oneCell') = true from (by simp only [List.all_cons,List.all_nil,ho12,Bool.and_true,Bool.true_and] <;> rfl))))) ?_))
 refine Dn ⟨by kernel_rfl,fun G=>?_⟩
 refine Jw2 [(0,tP),(4,p5),(5,(G.g 7 0))] [0,1,2,3,4] [os (G.g 5 0) s.Words,Cl (G.g 7 0) [vi s.Width,(G.g 5 0)]] ?_
 generalize G.g 5 0 = c7,G.g 7 0 = p11
 refine Jo 5 ?_; rintro a13 k14 rfl
 refine KS ?_
 refine Oq Vm ?_
 refine QaJ (Qan tT tI 4) fun rv15 hg16=>?_
 have hc17:=fn9 tP ta tk tT tI 4 pre pre rv15 hg16
 refine Oc [2,2] ca9 hc17 ?_
 rintro - ⟨he18,he19,he20⟩
 unfold Qaa at he18
 refine KS ?_
 refine Oq QbW (Oq Va (KS ?_))
 refine Kc ?_ ?_
 ·intro h21
  have g22:=eq_of_beq h21
  refine Jp 6 fun hp23=>?_
  refine Qam [0,1,0,4,12,31,63,127] Qco ?_
  refine Dv [0] (Vfa Qbi 0) (Dv [7] (Qah sh3 0) (Dv [] Vm ?_))
  refine QaJ (Qan tT rv15.2 5) fun rv24 hg25=>Dx [1,4] [1] [2,0,1] (fun G=>vi rv24.1) [fun G=>SP.fact (Qaa rv24.1 /\ (0 <= rv24.2 /\ rv24.2 <= (tT.length:Int)) /\ (0 <= rv24.1 /\ (rv24.1 < 5 \/ rv24.1 = 0))),fun G=>Cl tP [vl ta tk tT,vi rv24.2]] (fun G=>xC [0,0] ca9 (fn9 tP ta tk tT rv15.2 5 pre pre rv24 hg25)) ?_
  refine Dx [8] [] [0] (fun G=>vi (rv24.1 - 2)) [] (fun G=>by refine xf 0 rfl ?_; rintro ⟨he26,he27,he28⟩; unfold Qaa at he26; exact xV (QjU)) ?_
  refine Dx [8] [] [0] (fun G=>vi (s.Width + (rv24.1 - 2))) [] (fun G=>by refine xf 0 rfl ?_; rintro ⟨he29,he30,he31⟩; unfold Qaa at he29; exact xV (QaS)) (Dv [0] (Vfa Qbi 0) (Dx0 [7] [7] [0] [fun G=>Cl p11 [vi (s.Width + (rv24.1 - 2)),vl a13 k14 s.Words]] (fun G=>xS (QiP [0] sh3 [vi (s.Width + (rv24.1 - 2)),vl a13 k14 s.Words])) ?_))
  refine Dn ⟨by kernel_rfl,fun G=>?_⟩
  refine Jw2 [(4,p5),(5,p11)] [0,2,3,4,5,6] [SP.fact (Qaa rv24.1 /\ (0 <= rv24.2 /\ rv24.2 <= (tT.length:Int)) /\ (0 <= rv24.1 /\ (rv24.1 < 5 \/ rv24.1 = 0))),Cl tP [vl ta tk tT,vi rv24.2],Cl p11 [vi (s.Width + (rv24.1 - 2)),vl a13 k14 s.Words]] ?_
  refine Jf 6 rfl ?_; rintro ⟨he32,he33,he34⟩
  unfold Qaa at he32
  refine Jk [1,1,2,3,4,5,5] ?_
  refine KS ?_
  refine Oq (Qau Qax 6) (Ost (Scl [0] Qax [vi (s.Width + (rv24.1 - 2)),vl a13 k14 s.Words]) (KS ?_))
  refine Jl [4] (Ent.freeze _ _) ?_
  have hq:=q4 hrr ((Qaf.mk (s.Width + (rv24.1 - 2)) s.Words),rv24.2) (by simp only [QdO,h21,hg16,hg25,cs4]); subst hq
  exact Kr (vl a13 k14 s.Words) rfl (.cellN 1 rfl Qax rfl (Qal _ _) rfl .nil) [0,5] ⟨(by (try dsimp only) <;> first | (unfold Qaa; omega) | exact Qin (p:=Qaa) (by intro x hx; simp only [List.mem_cons,List.not_mem_nil,or_false] at hx; unfold Qaa; omega) aK1 _),en⟩
 intro h21
 have g35:=ne_of_beq_false h21
 refine KS ?_
 refine Oq QbW (Oq Va (KS ?_))
 refine Kc ?_ ?_
 ·intro h36
  have g37:=eq_of_beq h36
  refine Jp 6 fun hp38=>?_
  refine Qam [0,1,0,4,12,28,63,127,255] Qco ?_
  refine Dv [0] (Vfa Qcm 0) (Dv [7] (Qah QiV 0) (Dv [] Vm ?_))
  refine QaJ (Qan tT rv15.2 2) fun rv39 hg40=>?_
  refine Dx [1,4] [1] [2,0,1] (fun G=>vi rv39.1) [fun G=>SP.fact (Qaa rv39.1 /\ (0 <= rv39.2 /\ rv39.2 <= (tT.length:Int)) /\ (0 <= rv39.1 /\ (rv39.1 < 2 \/ rv39.1 = 0))),fun G=>Cl tP [vl ta tk tT,vi rv39.2]] (fun G=>xC [0,0] ca9 (fn9 tP ta tk tT rv15.2 2 pre pre rv39 hg40)) (Dv [] (VcU un3 QzA) (Dx [] [] [0] (fun G=>(G.g 5 0)) [fun G=>Cr (G.g 5 0) 1 [u64 (BitVec.ofInt 64 rv39.1)]] (fun G=>xA (AsV QgV QuM [u64 (BitVec.ofInt 64 rv39.1)] [u64 (BitVec.ofInt 64 rv39.1)])) ?_))
  have hn43:=la s.Words ([(BitVec.ofInt 64 rv39.1)]:List (BitVec 64))
  refine Dx [6,8,10] [6,10] [1,0] (fun G=>(G.g 6 0)) [fun G=>os (G.g 6 0) ((s.Words ++ [(BitVec.ofInt 64 rv39.1)]):List (BitVec 64))] (fun G=>by refine xf 1 rfl ?_; rintro ⟨he44,he45,he46⟩; unfold Qaa at he44; exact xp [2] rfl (Ent.cr1 (α:=BitVec 64) (A:=[]) _ (BitVec.ofInt 64 rv39.1) _ aB1 (fun _=>rfl)) (xA (ApO [1,0] QgV QgV QuM))) (Dv [0] (Vfa Qcm 0) (Dx0 [7,11] [7] [1,0] [fun G=>Cl p11 [vi s.Width,(G.g 6 0)]] (fun G=>x1 1 rfl Qc0 fun ho47=>(xS (OpS.frame [0] rfl (OpS.storeClF [(G.g 6 0)] [vi s.Width,(G.g 6 0)] rfl rfl rfl QiV (QaX ho47) rfl (by simp only [List.all_cons,List.all_nil,ho47,Bool.and_true,Bool.true_and] <;> rfl) aB1 rfl)))) ?_))
  refine Dn ⟨by kernel_rfl,fun G=>?_⟩
  refine Jw2 [(4,p5),(5,p11)] [0,2,3,4,5] [SP.fact (Qaa rv39.1 /\ (0 <= rv39.2 /\ rv39.2 <= (tT.length:Int)) /\ (0 <= rv39.1 /\ (rv39.1 < 2 \/ rv39.1 = 0))),Cl tP [vl ta tk tT,vi rv39.2],os (G.g 6 0) ((s.Words ++ [(BitVec.ofInt 64 rv39.1)]):List (BitVec 64)),Cl p11 [vi s.Width,(G.g 6 0)]] ?_
  generalize G.g 6 0 = c42
  refine Jf 5 rfl ?_; rintro ⟨he48,he49,he50⟩
  unfold Qaa at he48
  refine Jk [1,1,2,3,5,5,5] ?_
  refine Jo 5 ?_; rintro a51 k52 rfl
  refine Fb 8 5 fun _=>KS ?_
  refine Oq (Qau Qax 6) (Ost (Scl [0] Qax [vi s.Width,vl a51 k52 (s.Words ++ [(BitVec.ofInt 64 rv39.1)])]) (KS ?_))
  refine Jl [5] (Ent.freeze _ _) ?_
  have hq:=q4 hrr ((Qaf.mk s.Width (s.Words ++ [(BitVec.ofInt 64 rv39.1)])),rv39.2) (by simp only [QdO,h21,h36,hg16,hg40,cs4]); subst hq
  exact Kr (vl a51 k52 (s.Words ++ [(BitVec.ofInt 64 rv39.1)])) rfl (.cellN 1 rfl Qax rfl (Qal _ _) rfl .nil) [0,5] ⟨(by (try dsimp only) <;> first | (unfold Qaa; omega) | exact Qin (p:=Qaa) (by intro x hx; simp only [List.mem_cons,List.not_mem_nil,or_false] at hx; unfold Qaa; omega) aK1 _),en⟩
 intro h36
 have g54:=ne_of_beq_false h36
 refine KS ?_
 refine Oq QbW (Oq Va (KS ?_))
 refine Kc ?_ ?_
 ·intro h55
  have g56:=eq_of_beq h55
  refine KS ?_
  refine Oq (Vfa Qcm 6) (Oq (Qah QiV 6) (Oq (Qba QgV) (Oq Qgr (KS ?_))))
  refine Kc ?_ ?_
  ·intro h57
   have g58:=dt h57
   refine Jp 6 fun hp59=>?_
   refine Qam [0,1,0,4,12,28,63,127,0,256,768,1792,4095,8191,16383] Qco ?_
   refine Dv [0] (Vfa Qcm 0) (Dv [7] (Qah QiV 0) (Dv [0] (Vfa Qcm 0) (Dv [7] (Qah QiV 0) (Dv [] (Qba QgV) (Dv [] QjU (Dv [6] (Vi QgV 0) (Dv [6] (QpT QnH 0) (Dv [] Vm ?_))))))))
   refine QaJ (Qan tT rv15.2 64) fun rv60 hg61=>?_
   refine Dx [1,4] [1] [2,0,1] (fun G=>vi rv60.1) [fun G=>SP.fact (Qaa rv60.1 /\ (0 <= rv60.2 /\ rv60.2 <= (tT.length:Int)) /\ (0 <= rv60.1 /\ (rv60.1 < 64 \/ rv60.1 = 0))),fun G=>Cl tP [vl ta tk tT,vi rv60.2]] (fun G=>xC [0,0] ca9 (fn9 tP ta tk tT rv15.2 64 pre pre rv60 hg61)) (Dv [] (VcU un3 QqC) ?_)
   refine Dx [8] [] [0] (fun G=>u64 (1#64 <<< (((BitVec.ofInt 64 rv60.1).toNat:Int)).toNat)) [] (fun G=>by refine xf 0 rfl ?_; rintro ⟨he62,he63,he64⟩; unfold Qaa at he62; exact xV (Qrv (a:=1#64))) (Dv [] QwK (Dv [6] (Vi QgV 0) (Dx0 [6] [6] [0] [fun G=>os (vl a13 k14 s.Words) (s.Words.set (((s.Words.length:Int) - 1):Int).toNat ((s.Words.getD (((s.Words.length:Int) - 1):Int).toNat 0#64) ||| (1#64 <<< (((BitVec.ofInt 64 rv60.1).toNat:Int)).toNat)))] (fun G=>xS (SoU [0] QnH)) ?_)))
   refine Dn ⟨by kernel_rfl,fun G=>?_⟩
   refine Jw2 [(4,p5),(5,p11)] [0,2,3,4,5,7] [SP.fact (Qaa rv60.1 /\ (0 <= rv60.2 /\ rv60.2 <= (tT.length:Int)) /\ (0 <= rv60.1 /\ (rv60.1 < 64 \/ rv60.1 = 0))),Cl tP [vl ta tk tT,vi rv60.2],os (vl a13 k14 s.Words) (s.Words.set (((s.Words.length:Int) - 1):Int).toNat ((s.Words.getD (((s.Words.length:Int) - 1):Int).toNat 0#64) ||| (1#64 <<< (((BitVec.ofInt 64 rv60.1).toNat:Int)).toNat)))] ?_
   refine Jf 6 rfl ?_; rintro ⟨he65,he66,he67⟩
   unfold Qaa at he65
   refine Jk [1,1,2,3,4,5,5] ?_
   refine KS ?_
   refine Oq (Qau Qax 4) (Ost (Scl [0] Qax [vi s.Width,vl a13 k14 s.Words]) (KS ?_))
   refine Jl [6] (Ent.freeze _ _) ?_
   have hq:=q4 hrr ((Qaf.mk s.Width (s.Words.set (((s.Words.length:Int) - 1):Int).toNat ((s.Words.getD (((s.Words.length:Int) - 1):Int).toNat 0#64) ||| (1#64 <<< (((BitVec.ofInt 64 rv60.1).toNat:Int)).toNat)))),rv60.2) (by simp only [QdO,h21,h36,h55,h57,hg16,hg61,cs4]); subst hq
   exact Kr (vl a13 k14 s.Words) rfl (.cellN 1 rfl Qax rfl (Qal _ _) rfl .nil) [0,6] ⟨(by (try dsimp only) <;> first | (unfold Qaa; omega) | exact Qin (p:=Qaa) (by intro x hx; simp only [List.mem_cons,List.not_mem_nil,or_false] at hx; unfold Qaa; omega) aK1 _),en⟩
  intro h57
  have g68:=df h57
  refine KS ?_
  refine Oq (Qau Qax 6) (Ost (Scl [1] Qax [vi s.Width,vl a13 k14 s.Words]) (KS ?_))
  refine Jl [5] (Ent.freeze _ _) ?_
  have hq:=q4 hrr (s,rv15.2) (by simp only [QdO,h21,h36,h55,h57,hg16,cs4]); subst hq
  exact Kr (vl a13 k14 s.Words) rfl (.cellN 1 rfl Qax rfl (Qal _ _) rfl .nil) [0,2] ⟨(by (try dsimp only) <;> first | (unfold Qaa; omega) | exact Qin (p:=Qaa) (by intro x hx; simp only [List.mem_cons,List.not_mem_nil,or_false] at hx; unfold Qaa; omega) aK1 _),en⟩
 intro h55
 have g69:=ne_of_beq_false h55
 refine KS ?_
 refine Oa (AsV QcA Qnk [vi (-1),vi 257,vi 320,vi 0] [vi (-1),vi 257,vi 320,vi 0]) fun c70=>?_
 refine Jo 0 ?_; rintro a71 k72 rfl
 refine Oq Vm ?_
 refine QaJ (Qan tT rv15.2 4) fun rv73 hg74=>?_
 have hc75:=fn9 tP ta tk tT rv15.2 4 pre pre rv73 hg74
 refine Oc [1,3] ca9 hc75 ?_
 rintro - ⟨he76,he77,he78⟩
 unfold Qaa at he76
 refine Jl [1] (Ent.crInt _ [-1,257,320,0] _ _ rfl rfl (by intro x hx; simp only [List.mem_cons,List.not_mem_nil,or_false] at hx; rcases hx with rfl | rfl | rfl | rfl <;> (unfold Qaa; omega)) aB1) ?_
 refine Oq (Vi QcA 0) (Oq (Qjc sh3 0) (Oq (Vfa Qbi 7) (Ost (QiP [7] sh3 [vi ([-1,257,320,0].getD rv73.1.toNat 0),vl a13 k14 s.Words]) (KS ?_))))
 refine Oq (Qau Qax 0) (Ost (Scl [3] Qax [vi ([-1,257,320,0].getD rv73.1.toNat 0),vl a13 k14 s.Words]) (KS ?_))
 refine Jl [7] (Ent.freeze _ _) ?_
 have hq:=q4 hrr ((Qaf.mk ([-1,257,320,0].getD rv73.1.toNat 0) s.Words),rv73.2) (by simp only [QdO,h21,h36,h55,hg16,hg74,cs4]); subst hq
 exact Kr (vl a13 k14 s.Words) rfl (.cellN 1 rfl Qax rfl (Qal _ _) rfl .nil) [0,4] ⟨(by (try dsimp only) <;> first | (unfold Qaa; omega) | exact Qin (p:=Qaa) (by intro x hx; simp only [List.mem_cons,List.not_mem_nil,or_false] at hx; unfold Qaa; omega) aK1 _),en⟩
theorem QAe (tP:Value) (ta:Option Addr) (tk:Nat) (tT:List Int) (tI:Int) (s:Qac) (sa1:Option Addr) (sk1:Nat) (sa2:Option Addr) (sk2:Nat) (sa3:Option Addr) (sk3:Nat) (htI:0 <= tI /\ tI <= (tT.length:Int)) (Qcc:Qaa s.Width) (hv:Qfg s) (rr:List Qaf × Int) (hrr:Qdo tT tI s = rr):FT Tryz.prog 18 #[tP,.agg #[vi s.Width,vl sa1 sk1 s.Deps,vl sa2 sk2 s.Transfers,vl sa3 sk3 s.Boundary]] [Cl tP [vl ta tk tT,vi tI],S ta tk tT,S sa1 sk1 s.Deps,S sa2 sk2 s.Transfers,S sa3 sk3 s.Boundary] (fun g:Value=>(0 <= rr.2 /\ rr.2 <= (tT.length:Int))) (fun g=>g) (fun g=>[sl g rr.1,Cl tP [vl ta tk tT,vi rr.2]]):=by
 refine FTi Tryz.func18 fun w0 M0 F0=>?_
 unfold Qaa at Qcc
 refine Fb 8 1 fun _=>Fo 1 fun ho2=>Fb 24 2 fun _=>Fb 88 3 fun _=>Fb 32 4 fun _=>?_
 have hv1:=hv.n
 have hv3:=hv.bl
 have hv4:=hv.w
 refine KS ?_
 refine Oa (Ab [vi s.Width,vl sa1 sk1 s.Deps,vl sa2 sk2 s.Transfers,vl sa3 sk3 s.Boundary]) fun p6=>Oq Va (KS ?_)
 refine Oq Va (KS ?_)
 refine Oq Va (KS ?_)
 refine Jl [] (Ent.osNil (α:=Qaf)) ?_
 refine Kl (γ:=Nat × Int × List Qaf × Int × Option Addr × Nat) (fun (r7,Qqu,v_9,QlK,a11,k12)=>⟨[(0,tP),(3,p6),(5,vl a11 k12 v_9),(6,vi QlK)],[O a11 k12 v_9,pv p6 [vi s.Width,vl sa1 sk1 s.Deps,vl sa2 sk2 s.Transfers,vl sa3 sk3 s.Boundary],Cl tP [vl ta tk tT,vi Qqu],S ta tk tT,S sa1 sk1 s.Deps,S sa2 sk2 s.Transfers,S sa3 sk3 s.Boundary],Qeu tT s r7 Qqu v_9 QlK = Qeu tT s (((s.Boundary.length:Int) - 0).toNat) tI [] 0 /\ r7 = ((s.Boundary.length:Int) - QlK).toNat /\ (0:Int) <= QlK /\ QlK <= (s.Boundary.length:Int) /\ (-9223372036854775808 <= Qqu /\ Qqu <= 9223372036854775807) /\ (0 <= Qqu /\ Qqu <= (tT.length:Int)) /\ (-9223372036854775808 <= QlK /\ QlK <= 9223372036854775807) /\ (v_9.length:Int) = QlK /\ (∀ g ∈ v_9,Qop g),r7⟩) (((s.Boundary.length:Int) - 0).toNat,tI,[],0,none,0) [0,0,1,1,2,3,4] ⟨rfl,rfl,aM1,aM1,aM1,aM1,aM1,iv0,(fun g hg=>by cases hg)⟩ ?_
 rintro ⟨r7,Qqu,v_9,QlK,a11,k12⟩ ⟨hM13,hr14,hi15,hi16,hk17,ht18,hk19,hv20,hv21⟩
 refine QaA fun _ _ hL hA=>?_; dsimp only at hL hA; subst hL hA
 refine Fb 32 0 fun _=>Fb 8 3 fun _=>Fo 3 fun ho24=>Fb 24 4 fun _=>Fb 88 5 fun _=>Fb 32 6 fun _=>KS ?_
 refine Oq Vm (Oq (Vfa Qc4 1) (Oq (Qah Qjd 1) (Oq (Qba Qc6) (Oq Qbh (KS ?_)))))
 refine Kc ?_ ?_
 ·intro h28
  have g29:=dt h28
  obtain ⟨r30,rfl⟩:=scc (n:=r7) aM1
  refine KS ?_
  refine Oq Vm (Oq Vm (Oq (Vfa QbR 1) (Oq (Qah sh3 1) ?_)))
  refine QaJ (Qer tT Qqu s.Width) fun rv32 hg33=>?_
  have hc34:=Qwq tP ta tk tT Qqu s.Width pre pre pre rv32 hg33
  refine Oc [2,2] Qwh hc34 ?_
  rintro c31 ⟨he35,he36,he37,he38⟩
  unfold Qaa at he35
  refine Jo 0 ?_; rintro a39 k40 rfl
  refine Fb 8 0 fun _=>Oa (AsV Qc6 Ql4 [.agg #[vi rv32.1.Width,vl a39 k40 rv32.1.Words]] [vi rv32.1.Width,vl a39 k40 rv32.1.Words]) fun c42=>?_
  refine Jo 0 ?_; rintro a43 k44 rfl
  refine Jl [1] (Ent.freeze _ _) ?_
  refine Jl [1,0] (Ent.cr1 (α:=Qaf) (A:=[S a39 k40 rv32.1.Words]) _ rv32.1 _ aB1 (fun h=>⟨_,rfl,aL1,Qaj (i:=0) rfl h⟩)) ?_
  refine Oa (ApO [4,0] Qc6 Qc6 Ql4) fun c45=>?_
  refine Jo 0 ?_; rintro a46 k47 rfl
  refine Fb 32 0 fun _=>?_
  have hn49:=la v_9 ([rv32.1]:List Qaf)
  refine Oq Va (KS ?_)
  refine Oq Vm (Oq QaS (Oq Va (KS ?_)))
  exact Kg (r30,rv32.2,(v_9 ++ [rv32.1]),(QlK + 1),a46,k47) [0,3,2,3,4,5,6] ⟨(q3 hM13 (by simp only [Qeu,h28,hg33,cs4])),aM1,aM1,aM1,aM1,aM1,aM1,iv1,(fun g hg=>(List.mem_append.1 hg).elim ((by assumption:∀ g ∈ _,Qop g) g) (fun h=>by rw [List.mem_singleton.1 h]; exact QuT (by assumption) hv4.1 hv4.2))⟩
 intro h28
 have g50:=df h28
 obtain rfl:r7 = 0:=by omega
 refine Ke ?_
 have hR51:=q2 hM13 (Qqu,v_9) (by simp only [Qeu,h28,cs4])
 refine KS ?_
 refine Oq Vm ?_
 refine QaJ (Qan tT Qqu 8) fun rv52 hg53=>?_
 have hc54:=fn9 tP ta tk tT Qqu 8 pre pre rv52 hg53
 refine Oc [2,2] ca9 hc54 ?_
 rintro - ⟨he55,he56,he57⟩
 unfold Qaa at he55
 refine KS ?_
 refine Oq QbW (Oq Va (KS ?_))
 refine Kc ?_ ?_
 ·intro h58
  have g59:=eq_of_beq h58
  refine KS ?_
  refine Oq Vm (Oq Vm (Oq (Vfa QbR 2) (Oq (Qah sh3 2) ?_)))
  refine QaJ (Qer tT rv52.2 s.Width) fun rv61 hg62=>?_
  have hc63:=Qwq tP ta tk tT rv52.2 s.Width pre pre pre rv61 hg62
  refine Oc [0,2] Qwh hc63 ?_
  rintro c60 ⟨he64,he65,he66,he67⟩
  unfold Qaa at he64
  refine Jo 0 ?_; rintro a68 k69 rfl
  refine Fb 8 0 fun _=>Oa (AsV Qc6 Ql4 [.agg #[vi rv61.1.Width,vl a68 k69 rv61.1.Words]] [vi rv61.1.Width,vl a68 k69 rv61.1.Words]) fun c71=>?_
  refine Jo 0 ?_; rintro a72 k73 rfl
  refine Jl [1] (Ent.freeze _ _) ?_
  refine Jl [1,0] (Ent.cr1 (α:=Qaf) (A:=[S a68 k69 rv61.1.Words]) _ rv61.1 _ aB1 (fun h=>⟨_,rfl,aL1,Qaj (i:=0) rfl h⟩)) ?_
  refine Oa (ApO [4,0] Qc6 Qc6 Ql4) fun c74=>?_
  refine Jo 0 ?_; rintro a75 k76 rfl
  refine Fb 32 0 fun _=>?_
  have hn78:=la v_9 ([rv61.1]:List Qaf)
  refine Oq Va (KS ?_)
  refine Oq Vm (Oq Va (KS ?_))
  refine Jl [0] (Ent.freeze _ _) ?_
  have hq:=q4 hrr ((v_9 ++ [rv61.1]),rv61.2) (by simp only [Qdo,h28,h58,hR51,hg53,hg62,cs4]); subst hq
  exact Kr (vl a75 k76 (v_9 ++ [rv61.1])) rfl (.tmp rfl .nil) [0,3] en
 intro h58
 have g79:=ne_of_beq_false h58
 refine KS ?_
 refine Oq QbW (Oq Va (KS ?_))
 refine Kc ?_ ?_
 ·intro h80
  have g81:=eq_of_beq h80
  refine Qam [0,0,0,4,14,0,0,64,192,510,1023,2047] Qco ?_
  refine Dv [] Vm (Dv [] Vm (Dv [] Vm (Dv [] (Qba Qc6) ?_)))
  refine QaJ (Qan tT rv52.2 (v_9.length:Int)) fun rv82 hg83=>?_
  refine Dx [0,3] [0] [2,0,1] (fun G=>vi rv82.1) [fun G=>SP.fact (Qaa rv82.1 /\ (0 <= rv82.2 /\ rv82.2 <= (tT.length:Int)) /\ (0 <= rv82.1 /\ (rv82.1 < (v_9.length:Int) \/ rv82.1 = 0))),fun G=>Cl tP [vl ta tk tT,vi rv82.2]] (fun G=>xC [0,0] ca9 (fn9 tP ta tk tT rv52.2 ((v_9.length:Int)) pre pre rv82 hg83)) (Dv [] Vm (Dv [2] (Vfa QbR 0) (Dv [2] (Qah sh3 0) (Dv [] QaS ?_))))
  refine QaJ (Qer tT rv82.2 (s.Width + 1)) fun rv85 hg86=>?_
  refine Dx [3,7,8] [8] [3,4,0,1,1] (fun G=>.agg #[vi rv85.1.Width,(G.g 9 0)]) [fun G=>SP.fact (Qaa rv85.1.Width /\ (0 <= rv85.2 /\ rv85.2 <= (tT.length:Int)) /\ (rv85.1.Width = (s.Width + 1)) /\ (rv85.1.Words.length = ((((s.Width + 1):Int) + 63) / 64).toNat)),fun G=>os (G.g 9 0) rv85.1.Words,fun G=>Cl tP [vl ta tk tT,vi rv85.2]] (fun G=>by refine xf 1 rfl ?_; rintro ⟨he87,he88,he89⟩; unfold Qaa at he87; exact xC [2,0] Qwh (Qwq tP ta tk tT rv82.2 ((s.Width + 1)) pre pre pre rv85 hg86)) ?_
  refine Dx [1,7,9] [] [0,0,1] (fun G=>(QfB 2 (vl a11 k12 v_9) rv82.1.toNat)) [] (fun G=>by refine xf 1 rfl ?_; rintro ⟨he90,he91,he92⟩; unfold Qaa at he90; refine xf 2 rfl ?_; rintro ⟨he93,he94,he95,he96⟩; unfold Qaa at he93; exact xV (Vi Qc6 0)) ?_
  refine Dx0 [1,7,9,10] [1,10] [3,4,1,0] [fun G=>sl (G.g 9 0) rv85.1.Words,fun G=>os (vl a11 k12 v_9) (v_9.set rv82.1.toNat rv85.1)] (fun G=>by refine xf 1 rfl ?_; rintro ⟨he97,he98,he99⟩; unfold Qaa at he97; refine xf 2 rfl ?_; rintro ⟨he100,he101,he102,he103⟩; unfold Qaa at he100; exact xp [3] rfl (Ent.freeze _ _) (xS (So (Rs:=[sl (G.g 9 0) rv85.1.Words]) [1,0] Qax rv85.1 (fun h=>⟨_,rfl,aL1,Qaj (i:=0) rfl h⟩)))) ?_
  refine Dn ⟨by kernel_rfl,fun G=>?_⟩
  refine Jw2 [(5,vl a11 k12 v_9)] [2,3,4,5,6] [SP.fact (Qaa rv82.1 /\ (0 <= rv82.2 /\ rv82.2 <= (tT.length:Int)) /\ (0 <= rv82.1 /\ (rv82.1 < (v_9.length:Int) \/ rv82.1 = 0))),SP.fact (Qaa rv85.1.Width /\ (0 <= rv85.2 /\ rv85.2 <= (tT.length:Int)) /\ (rv85.1.Width = (s.Width + 1)) /\ (rv85.1.Words.length = ((((s.Width + 1):Int) + 63) / 64).toNat)),Cl tP [vl ta tk tT,vi rv85.2],sl (G.g 9 0) rv85.1.Words,os (vl a11 k12 v_9) (v_9.set rv82.1.toNat rv85.1)] ?_
  generalize G.g 9 0 = c84
  refine Jf 5 rfl ?_; rintro ⟨he104,he105,he106⟩
  unfold Qaa at he104
  refine Jf 6 rfl ?_; rintro ⟨he107,he108,he109,he110⟩
  unfold Qaa at he107
  refine Jk [0,1,2,3,4,7,7,8] ?_
  refine Jo 6 ?_; rintro a111 k112 rfl
  refine Fb 8 6 fun _=>KS ?_
  refine Oq Vm (Oq Va (KS ?_))
  refine Jl [7] (Ent.freeze _ _) ?_
  have hq:=q4 hrr ((v_9.set rv82.1.toNat rv85.1),rv85.2) (by simp only [Qdo,h28,h58,h80,hR51,hg53,hg83,hg86,cs4]); subst hq
  exact Kr (vl a11 k12 v_9) rfl (.tmp rfl .nil) [0,6] en
 intro h80
 have g114:=ne_of_beq_false h80
 refine KS ?_
 refine Oq QbW (Oq Va (KS ?_))
 refine Kc ?_ ?_
 ·intro h115
  have g116:=eq_of_beq h115
  refine KS ?_
  refine Oq Vm (Oq Vm (Oq Vm (Oq (Vi Qc6 1) ?_)))
  refine Qjv (0:Int).toNat 1 rfl rng fun a117 k118 hb119=>?_
  unfold Qaa at hb119
  refine Fb 8 1 fun _=>Oq (Qau Qax 0) ?_
  refine QaJ (QdO tT rv52.2 (v_9.getD (0:Int).toNat default)) fun rv122 hg123=>?_
  have hc124:=QBm tP ta tk tT rv52.2 ((v_9.getD (0:Int).toNat default)) a117 k118 pre pre ((by assumption:∀ g ∈ _,Qop g) _ (Qa4 aM1)) rv122 hg123
  refine Oc [2,3,1] QAg hc124 ?_
  rintro c121 ⟨he125,he126⟩
  unfold Qaa at he125
  refine Jo 0 ?_; rintro a127 k128 rfl
  refine Fb 8 0 fun _=>Oq (Vi Qc6 2) ?_
  refine Jl [2] (Ent.oread _ _ _ _) ?_
  refine Ost (So (Rs:=[S a127 k128 rv122.1.Words]) [0,0] Qax rv122.1 (fun h=>⟨_,rfl,aL1,Qaj (i:=0) rfl h⟩)) (KS ?_)
  refine Oq Vm (Oq Va (KS ?_))
  refine Jl [0] (Ent.freeze _ _) ?_
  have hq:=q4 hrr ((v_9.set (0:Int).toNat rv122.1),rv122.2) (by simp only [Qdo,h28,h58,h80,h115,hR51,hg53,hg123,cs4]); subst hq
  exact Kr (vl a11 k12 v_9) rfl (.tmp rfl .nil) [0,3] en
 intro h115
 have g130:=ne_of_beq_false h115
 refine KS ?_
 refine Oq Vm (Oq Va (KS ?_))
 refine Jl [1] (Ent.freeze _ _) ?_
 have hq:=q4 hrr (v_9,rv52.2) (by simp only [Qdo,h28,h58,h80,h115,hR51,hg53,cs4]); subst hq
 exact Kr (vl a11 k12 v_9) rfl (.tmp rfl .nil) [0,1] en
theorem QBd (s:Qac) (sa1:Option Addr) (sk1:Nat) (sa2:Option Addr) (sk2:Nat) (sa3:Option Addr) (sk3:Nat) (Qcc:Qaa s.Width) (rr:Bool) (hrr:QiM s = rr):FT Tryz.prog 19 #[.agg #[vi s.Width,vl sa1 sk1 s.Deps,vl sa2 sk2 s.Transfers,vl sa3 sk3 s.Boundary]] [S sa1 sk1 s.Deps,S sa2 sk2 s.Transfers,S sa3 sk3 s.Boundary] (fun g:Unit=>True) (fun g=>vb rr) (fun g=>[]):=by
 refine FTi Tryz.func19 fun w0 M0 F0=>?_
 unfold Qaa at Qcc
 refine Fb 24 0 fun _=>Fb 88 1 fun _=>Fb 32 2 fun _=>KS ?_
 refine Oa (Ab [vi s.Width,vl sa1 sk1 s.Deps,vl sa2 sk2 s.Transfers,vl sa3 sk3 s.Boundary]) fun p4=>Oq Va (KS ?_)
 refine Oq (Vfa QbI 0) (Oq (Qah QgG 0) (Oq (Qba Qfr) (Oq Qgr (Oq Vm ?_))))
 refine Js 9 ?_ ?_
 ·intro h5
  have g6:=dt h5
  refine Osk (Osk (Osk (Osk (Oq Vpt (Oq Vm (Osk (Osk (Osk (Osk ?_)))))))))
  refine Oq Vpt (Oq Vm (Osk (Osk (Osk (Oq Vpt (KS ?_))))))
  refine Kt (KS ?_)
  refine Oq Va (KS ?_)
  have hq:=q4 hrr true (by simp only [QiM,h5,cs4]); subst hq
  exact Kr () rfl (.tmp rfl .nil) [] trivial
 intro h5
 have g7:=df h5
 refine Oq (Vfa QcW 0) (Oq (Qah QjR 0) (Oq (Qba QiI) (Oq Qgr (Oq Vpf (Oq Vm ?_)))))
 refine Js 15 ?_ ?_
 ·intro h8
  have g9:=dt h8
  refine Osk (Osk (Osk (Osk (Oq Vpt (Oq Vm (Osk (Osk (Osk (Oq Vpt ?_)))))))))
  refine KS ?_
  refine Kt (KS ?_)
  refine Oq Va (KS ?_)
  have hq:=q4 hrr true (by simp only [QiM,h5,h8,cs4]); subst hq
  exact Kr () rfl (.tmp rfl .nil) [] trivial
 intro h8
 have g10:=df h8
 refine Oq (Vfa Qc4 0) (Oq (Qah Qjd 0) (Oq (Qba Qc6) (Oq Qgr (Oq Vpf (Oq Vm ?_)))))
 refine Js 21 ?_ ?_
 ·intro h11
  have g12:=dt h11
  refine Osk (Osk (Osk (Oq Vpt (KS ?_))))
  refine Kt (KS ?_)
  refine Oq Va (KS ?_)
  have hq:=q4 hrr true (by simp only [QiM,h5,h8,h11,cs4]); subst hq
  exact Kr () rfl (.tmp rfl .nil) [] trivial
 intro h11
 have g13:=df h11
 refine Oq (Vfa QbR 0) (Oq (Qah sh3 0) (Oq Qgr (Oq Vpf (KS ?_))))
 refine Kc ?_ ?_
 ·intro h14
  have g15:=dt h14
  refine KS ?_
  refine Oq Va (KS ?_)
  have hq:=q4 hrr true (by simp only [QiM,h5,h8,h11,h14,cs4]); subst hq
  exact Kr () rfl (.tmp rfl .nil) [] trivial
 intro h14
 have g16:=df h14
 refine KS ?_
 refine Oq Va (KS ?_)
 refine Kl (γ:=Nat × Int) (fun (r17,QiC)=>⟨[(1,p4),(3,vi QiC)],[pv p4 [vi s.Width,vl sa1 sk1 s.Deps,vl sa2 sk2 s.Transfers,vl sa3 sk3 s.Boundary],S sa1 sk1 s.Deps,S sa2 sk2 s.Transfers,S sa3 sk3 s.Boundary],QfX s r17 QiC = QfX s (((s.Deps.length:Int) - 0).toNat) 0 /\ r17 = ((s.Deps.length:Int) - QiC).toNat /\ (0:Int) <= QiC /\ QiC <= (s.Deps.length:Int) /\ (-9223372036854775808 <= QiC /\ QiC <= 9223372036854775807),r17⟩) (((s.Deps.length:Int) - 0).toNat,0) [0,1,2,3] ⟨rfl,rfl,aM1,aM1,aM1⟩ ?_
 rintro ⟨r17,QiC⟩ ⟨hM19,hr20,hi21,hi22,hk23⟩
 refine QaA fun _ _ hL hA=>?_; dsimp only at hL hA; subst hL hA
 refine Fb 24 1 fun _=>Fb 88 2 fun _=>Fb 32 3 fun _=>KS ?_
 refine Oq Vm (Oq (Vfa QbI 0) (Oq (Qah QgG 0) (Oq (Qba Qfr) (Oq Qbh (KS ?_)))))
 refine Kc ?_ ?_
 ·intro h27
  have g28:=dt h27
  obtain ⟨r29,rfl⟩:=scc (n:=r17) aM1
  refine KS ?_
  refine Oq (Vfa QbI 0) (Oq (Qah QgG 0) (Oq Vm (Oq (Vi Qfr 1) ?_)))
  refine QdV QiC.toNat 1 rfl rng fun a30 k31=>?_
  refine Fb 8 1 fun _=>Fo 1 fun ho33=>?_
  refine Oq (Vld QjI 0) (Oq (Qba QcA) (Oq Qgr (KS ?_)))
  refine Kc ?_ ?_
  ·intro h34
   have g35:=dt h34
   refine KS ?_
   refine Oq Va (KS ?_)
   have hR36:=q2 hM19 (.ret true) (by simp only [QfX,h27,h34,cs4])
   have hq:=q4 hrr true (by simp only [QiM,h5,h8,h11,h14,h27,h34,hR36,cs4]); subst hq
   exact Kr () rfl (.tmp rfl .nil) [] trivial
  intro h34
  have g37:=df h34
  refine KS ?_
  refine Oq Vm (Oq QaS (Oq Va (KS ?_)))
  exact Kg (r29,(QiC + 1)) [2,3,4,5] ⟨(q3 hM19 (by simp only [QfX,h27,h34,cs4])),aM1,aM1,aM1,aM1⟩
 intro h27
 have g38:=df h27
 obtain rfl:r17 = 0:=by omega
 refine Ke ?_
 have hR39:=q2 hM19 (.brk ()) (by simp only [QfX,h27,cs4])
 refine KS ?_
 refine Oq Va (KS ?_)
 refine Kl (γ:=Nat × Int) (fun (r40,Qmc)=>⟨[(1,p4),(4,vi Qmc)],[pv p4 [vi s.Width,vl sa1 sk1 s.Deps,vl sa2 sk2 s.Transfers,vl sa3 sk3 s.Boundary],S sa1 sk1 s.Deps,S sa2 sk2 s.Transfers,S sa3 sk3 s.Boundary],Qf1 s r40 Qmc = Qf1 s (((s.Transfers.length:Int) - 0).toNat) 0 /\ r40 = ((s.Transfers.length:Int) - Qmc).toNat /\ (0:Int) <= Qmc /\ Qmc <= (s.Transfers.length:Int) /\ (-9223372036854775808 <= Qmc /\ Qmc <= 9223372036854775807),r40⟩) (((s.Transfers.length:Int) - 0).toNat,0) [0,1,2,3] ⟨rfl,rfl,aM1,aM1,aM1⟩ ?_
 rintro ⟨r40,Qmc⟩ ⟨hM42,hr43,hi44,hi45,hk46⟩
 refine QaA fun _ _ hL hA=>?_; dsimp only at hL hA; subst hL hA
 refine Fb 24 1 fun _=>Fb 88 2 fun _=>Fb 32 3 fun _=>KS ?_
 refine Oq Vm (Oq (Vfa QcW 0) (Oq (Qah QjR 0) (Oq (Qba QiI) (Oq Qbh (KS ?_)))))
 refine Kc ?_ ?_
 ·intro h50
  have g51:=dt h50
  obtain ⟨r52,rfl⟩:=scc (n:=r40) aM1
  refine KS ?_
  refine Oq (Vfa QcW 0) (Oq (Qah QjR 0) (Oq Vm (Oq (Vi QiI 2) ?_)))
  refine QaU Qmc.toNat 2 rfl rng fun a53 k54 a55 k56 a57 k58 hb59 hb60=>?_
  unfold Qaa at hb59 hb60
  refine Fb 8 1 fun _=>Fb 8 2 fun _=>Fb 16 3 fun _=>?_
  refine Oq (Vfa Qeo 0) (Oq (Qah Qmn 0) (Oq (Qba QkQ) (Oq Qgr (KS ?_))))
  refine Kc ?_ ?_
  ·intro h64
   have g65:=dt h64
   refine KS ?_
   refine Oq Va (KS ?_)
   have hR66:=q2 hM42 (.ret true) (by simp only [Qf1,h50,h64,cs4])
   have hq:=q4 hrr true (by simp only [QiM,h5,h8,h11,h14,h27,h50,h64,hR39,hR66,cs4]); subst hq
   exact Kr () rfl (.tmp rfl .nil) [] trivial
  intro h64
  have g67:=df h64
  refine KS ?_
  refine Oq Vm (Oq QaS (Oq Va (KS ?_)))
  exact Kg (r52,(Qmc + 1)) [4,5,6,7] ⟨(q3 hM42 (by simp only [Qf1,h50,h64,cs4])),aM1,aM1,aM1,aM1⟩
 intro h50
 have g68:=df h50
 obtain rfl:r40 = 0:=by omega
 refine Ke ?_
 have hR69:=q2 hM42 (.brk ()) (by simp only [Qf1,h50,cs4])
 refine KS ?_
 refine Oq Va (KS ?_)
 have hq:=q4 hrr false (by simp only [QiM,h5,h8,h11,h14,h27,h50,hR39,hR69,cs4]); subst hq
 exact Kr () rfl (.tmp rfl .nil) [] trivial
theorem QyP (s:List Qas) (sa0:Option Addr) (sk0:Nat) (fF:FuncId) (fC:List Value) (fp:Qas -> LR Unit Bool) (fA:List SP) (hfc:Qab Tryz.prog fF = true) (hfF:∀ x ∈ s,Qaa x.Node -> Qaa x.Bit -> ∀ r,fp x = .ret r -> FT Tryz.prog fF ([(.agg #[vi x.Node,vi x.Bit]:Value)] ++ fC).toArray ([] ++ [Qg5 fA]) (fun _:Unit=>True) (fun _=>.bool r) (fun _=>[])) (rr:Int) (hrr:Qfp s fp = .ret rr):FT Tryz.prog 102 #[vl sa0 sk0 s,.func (.func fF) #[] fC.toArray] [S sa0 sk0 s,Qg5 fA] (fun g:Unit=>Qaa rr) (fun g=>vi rr) (fun g=>[]):=by
 refine FTi Tryz.func102 fun w0 M0 F0=>Fb 16 0 fun _=>?_
 have hx0:=lrn rr; have H:=hrr; unfold Qfp at H
 refine KS ?_
 refine Oq Va (KS ?_)
 refine Oq Vm (Oq (Qba QcX) (Oq Vm (KS ?_)))
 refine llH H hx0 fun X9 hX10 hx11 HL12=>?_
 refine Kl (γ:=Nat × Int) (fun (r2,Qea)=>⟨[(0,vl sa0 sk0 s),(1,.func (.func fF) #[] fC.toArray),(7,vi (s.length:Int)),(8,vi Qea)],[S sa0 sk0 s,Qg5 fA],Qcs s fp r2 Qea = X9 /\ r2 = ((s.length:Int) - Qea).toNat /\ (0:Int) <= Qea /\ Qea <= (s.length:Int) /\ (-9223372036854775808 <= Qea /\ Qea <= 9223372036854775807),r2⟩) (((s.length:Int) - 0).toNat,0) [0,1] ⟨hX10,rfl,aM1,aM1,aM1⟩ ?_
 rintro ⟨r2,Qea⟩ ⟨hM4,hr5,hi6,hi7,hk8⟩
 refine QaA fun _ _ hL hA=>?_; dsimp only at hL hA; subst hL hA
 refine Fb 16 0 fun _=>KS ?_
 refine Oq Qbh (KS ?_)
 refine Kc ?_ ?_
 ·intro h14
  have g15:=dt h14
  obtain ⟨r16,rfl⟩:=scc (n:=r2) aM1
  have H:=hM4; (try dsimp only at H); rw [Qcs] at H
  refine KS ?_
  refine Oq Vm (Oq Va (KS ?_))
  refine Oq Vm (Oq Vm (Oq Vm ?_))
  refine pC H hx11 fun hc17 H=>?_
  refine Oq (Vi QcX 0) ?_
  refine Qbq Qea.toNat 0 rfl rng fun hb18 hb19=>?_
  unfold Qaa at hb18 hb19
  refine Oq (Qau Qfo 0) ?_
  refine pC H hx11 fun hc22 H=>?_
  refine lbH H hx11 fun rv20 hg21 H=>?_
  refine Qj5 [2] rfl rfl rfl (OpC.clo (asv:=[(.agg #[vi ((s.getD Qea.toNat default).Node),vi ((s.getD Qea.toNat default).Bit)]:Value)] ++ fC) rfl rfl hfc rfl (by simp)) (hfF (s.getD Qea.toNat default) (Qa4 rng)  pre pre rv20 hg21) rfl fun _ _=>?_
  refine KS ?_
  refine KcH H ?_ ?_
  ·intro h23 H
   refine KS ?_
   refine Oq Vm (Oq Va (KS ?_))
   have H:=llR H HL12
   have hq:=rI H; subst hq
   exact Kr () rfl (.tmp rfl .nil) [] en
  intro h23 H
  refine KS ?_
  refine Oq QaS (Oq Vm (KS ?_))
  refine pC H hx11 fun hc26 H=>?_
  exact Kg (r16,(Qea + 1)) [1,2] ⟨H,aM1,aM1,aM1,aM1⟩
 intro h14
 have g27:=df h14
 obtain rfl:r2 = 0:=by omega
 have H:=hM4; (try dsimp only at H); rw [Qcs] at H
 refine Ke ?_
 have H:=llB H HL12
 refine KS ?_
 refine Oq Va (KS ?_)
 have hq:=rI H; subst hq
 exact Kr () rfl (.tmp rfl .nil) [] en
theorem QAx (s:List Qas) (sa0:Option Addr) (sk0:Nat) (delF:FuncId) (delC:List Value) (delp:Qas -> LR Unit Bool) (delA:List SP) (hdelc:Qab Tryz.prog delF = true) (hdelF:∀ x ∈ s,Qaa x.Node -> Qaa x.Bit -> ∀ r,delp x = .ret r -> FT Tryz.prog delF ([(.agg #[vi x.Node,vi x.Bit]:Value)] ++ delC).toArray ([] ++ [Qg5 delA]) (fun _:Unit=>True) (fun _=>.bool r) (fun _=>[])) (rr:List Qas) (hrr:QeR s delp = .ret rr):FT Tryz.prog 60 #[vl sa0 sk0 s,.func (.func delF) #[] delC.toArray] [O sa0 sk0 s,Qg5 delA] (fun g:Value=>True) (fun g=>g) (fun g=>[os g rr]):=by
 refine FTi Tryz.func60 fun w0 M0 F0=>Fb 16 0 fun _=>?_
 have hx0:=lrn rr; have H:=hrr; unfold QeR at H
 refine KS ?_
 refine Oq Va (KS ?_)
 refine Oq Vm (Oq Vm ?_)
 refine lbH H hx0 fun rv2 hg3 H=>?_
 refine Oc [0,0] QyK (Qc2 (A:=_) (fun _ _ h=>by cases h) (Qd3 (Ent.take (is:=[0,1]) rfl) (QyP s sa0 sk0 delF delC delp delA hdelc hdelF rv2 hg3))) ?_ (ht:=rfl)
 rintro - he4
 unfold Qaa at he4
 refine Oq Va (KS ?_)
 refine Oq Vm (Oq QbW (KS ?_))
 refine KcH H ?_ ?_
 ·intro h5 H
  have g6:=eq_of_beq h5
  refine KS ?_
  refine Oq Vm (Oq Va (KS ?_))
  have hq:=rI H; subst hq
  exact Kr (vl sa0 sk0 s) rfl (.tmp rfl .nil) [0] trivial
 intro h5 H
 have g7:=ne_of_beq_false h5
 refine KS ?_
 refine Oq Vm ?_
 refine pC H hx0 fun hc8 H=>?_
 refine Oq QaS (Oq Va (KS ?_))
 refine llH H hx0 fun X11 hX12 hx13 HL14=>?_
 refine Kl (γ:=Nat) (fun r9=>⟨[(0,vl sa0 sk0 s),(1,.func (.func delF) #[] delC.toArray),(5,vi rv2),(6,vi (rv2 + 1))],[O sa0 sk0 s,Qg5 delA],Qd0 s (rv2 + 1) r9 = X11,r9⟩) 1 [0,0] hX12 ?_
 rintro r9 hM10
 refine QaA fun _ _ hL hA=>?_; dsimp only at hL hA; subst hL hA
 refine Fb 16 0 fun _=>?_
 rcases r9 with _ | r9
 ·exact absurd (hM10.symm.trans rfl) hx13
 have H:=hM10; (try dsimp only at H); rw [Qd0] at H
 refine KS ?_
 refine Oq Vm (Oq Vm (Oq (Qba QcX) (Oq Qbh (KS ?_))))
 refine pF H hx13 fun h16 H=>?_
 refine KcF h16 ?_
 have g17:=df h16
 refine Ke ?_
 have H:=llB H HL14
 refine KS ?_
 refine Oq Vm (Oq Vm ?_)
 refine pC H hx0 fun hc18 H=>?_
 refine Oq (QAL QcX 0 (rv2.toNat)) ?_
 refine pC H hx0 fun hc19 H=>?_
 refine Oan (OpA.frame [0] rfl (OpA.clearR (α:=Qas) (z:=(Qas.mk 0 0)) QcX (zv:=.agg #[vi 0,vi 0]) Qqp (fun _ _=>⟨rfl,(by unfold Qaa; decide),(by unfold Qaa; decide)⟩) (rv2.toNat) rfl rfl aM1)) fun _=>?_
 have hn20:((s.take (rv2.toNat)) ++ (List.replicate (s.length - rv2.toNat) (Qas.mk 0 0))).length = s.length:=by simp only [List.length_append,List.length_take,List.length_replicate]; omega
 refine KS ?_
 refine Oq Vm (Oq Vm ?_)
 refine pC H hx0 fun hc21 H=>?_
 refine Oa (QAV [0] QcX 0 (rv2.toNat)) fun c22=>?_
 refine Jo 0 ?_; rintro a23 k24 rfl
 refine Fb 16 0 fun _=>?_
 have hn26:((((s.take (rv2.toNat)) ++ (List.replicate (s.length - rv2.toNat) (Qas.mk 0 0))).take (rv2.toNat)).drop 0).length = (rv2.toNat) - 0:=Qh5 rng rng
 refine Oq Va (KS ?_)
 have hq:=rI H; subst hq
 exact Kr (.slice a23 (((((s.take (rv2.toNat)) ++ (List.replicate (s.length - rv2.toNat) (Qas.mk 0 0))).take (rv2.toNat)).drop 0).length) k24) rfl (.tmp rfl .nil) [0] trivial
theorem QBg (s:List Qas) (sa0:Option Addr) (sk0:Nat) (rr:List Qas) (hrr:Qih s = .ret rr):FT Tryz.prog 61 #[vl sa0 sk0 s] [S sa0 sk0 s] (fun g:Value=>True) (fun g=>g) (fun g=>[os g rr]):=by
 have hm:Qih s = .ret s:=rfl
 rw [hm] at hrr
 injection hrr with hrr
 subst hrr
 refine FTi Tryz.func61 fun w0 M0 F0=>?_
 refine KS ?_
 refine Oq Va ?_
 refine KS ?_
 refine Oq Vm ?_
 refine Oq (Qxg QzE) ?_
 refine KS ?_
 refine Kc ?_ ?_
 ·intro h
  refine Qzg 0 h ?_
  intro h0
  subst h0
  refine KS ?_
  refine Oq Va ?_
  refine KS ?_
  refine Jl [] (Ent.osNil (α:=Qas)) ?_
  exact Kr (.slice none 0 0) rfl (.tmp rfl .nil) [0] trivial
 ·intro _
  refine KS ?_
  refine Oa (As0 QcX) fun c1=>?_
  refine Jo 0 ?_; rintro a2 k3 rfl
  refine Oq Vm ?_
  refine Fb 16 1 fun hl=>?_
  refine Jl [0] (Ent.crNil (α:=Qas) _) ?_
  refine Oa (Ap0 [0,0] QcX QcX QmR) fun c4=>?_
  refine Oq Va ?_
  refine KS ?_
  exact Kr c4 rfl (.tmp rfl .nil) [0] trivial
theorem QzT (h:Qas) (cap0P:Value) (cap0:Qac) (cap0a1:Option Addr) (cap0k1:Nat) (cap0a2:Option Addr) (cap0k2:Nat) (cap0a3:Option Addr) (cap0k3:Nat) (Qus:Qaa h.Node) (Qut:Qaa h.Bit) (QhM:Qaa cap0.Width) (rr:Bool) (hrr:Qjh h cap0 = .ret rr):FT Tryz.prog 62 #[.agg #[vi h.Node,vi h.Bit],cap0P] [pv cap0P [vi cap0.Width,vl cap0a1 cap0k1 cap0.Deps,vl cap0a2 cap0k2 cap0.Transfers,vl cap0a3 cap0k3 cap0.Boundary],S cap0a1 cap0k1 cap0.Deps,S cap0a2 cap0k2 cap0.Transfers,S cap0a3 cap0k3 cap0.Boundary] (fun g:Unit=>True) (fun g=>vb rr) (fun g=>[]):=by
 refine FTi Tryz.func62 fun w0 M0 F0=>?_
 unfold Qaa at Qus Qut QhM
 refine Fb 24 1 fun _=>Fb 88 2 fun _=>Fb 32 3 fun _=>?_
 have hx0:=lrn rr; have H:=hrr; unfold Qjh at H
 refine KS ?_
 refine Oa (Ab [vi h.Node,vi h.Bit]) fun p4=>Oq Va (KS ?_)
 refine Oq (Qau Qen 1) (Oq (Qau Qfo 0) ?_)
 refine pC H hx0 fun hc5 H=>?_
 refine pC H hx0 fun hc6 H=>?_
 refine lvH H fun rv7 hg8 H=>?_
 have hc9:=Qzy cap0 cap0a1 cap0k1 cap0a2 cap0k2 cap0a3 cap0k3 h pre pre pre ((QcC _).1 hc5) pre rv7 hg8
 refine Oc [2,3,4] QzD hc9 ?_
 rintro - -
 refine Oq Qcy (Oq Va (KS ?_))
 have hq:=rI H; subst hq
 exact Kr () rfl (.tmp rfl .nil) [] trivial
theorem QyB (x:List Qas) (xa0:Option Addr) (xk0:Nat) (cmpF:FuncId) (cmpC:List Value) (cmpp:Qas -> Qas -> LR Unit Int) (cmpA:List SP) (hcmpc:Qab Tryz.prog cmpF = true) (hcmpF:∀ x0 x1,Qaa x0.Node -> Qaa x0.Bit -> Qaa x1.Node -> Qaa x1.Bit -> ∀ r,(cmpp x0 x1) = .ret r -> FT Tryz.prog cmpF ([(.agg #[vi x0.Node,vi x0.Bit]:Value),(.agg #[vi x1.Node,vi x1.Bit]:Value)] ++ cmpC).toArray ([] ++ [Qg5 cmpA]) (fun _:Unit=>Qaa r) (fun _=>vi r) (fun _=>[])) (rr:Qas) (hrr:QgM x cmpp = .ret rr):FT Tryz.prog 103 #[vl xa0 xk0 x,.func (.func cmpF) #[] cmpC.toArray] [S xa0 xk0 x,Qg5 cmpA] (fun g:Unit=>Qaa rr.Node /\ Qaa rr.Bit) (fun g=>.agg #[vi rr.Node,vi rr.Bit]) (fun g=>[]):=by
 refine FTi Tryz.func103 fun w0 M0 F0=>Fb 16 0 fun _=>?_
 have hx0:=lrn rr; have H:=hrr; unfold QgM at H
 refine KS ?_
 refine Oa (Al Qqp [vi 0,vi 0]) fun p2=>KS ?_
 refine Oq Vm (Oq (Qba QcX) (Oq Qbh (KS ?_)))
 refine pF H hx0 fun h3 H=>?_
 refine KcF h3 ?_
 have g4:=df h3
 refine KS ?_
 refine Oq Vm ?_
 refine pC H hx0 fun hc5 H=>?_
 refine Oq (Vi QcX 1) ?_
 refine Qbq (0:Int).toNat 1 rfl rng fun hb6 hb7=>?_
 unfold Qaa at hb6 hb7
 refine Oq (Qau Qfo 0) (Oa (Al Qqp [vi 0,vi 0]) fun p8=>Ost (Scl [0] Qfo [vi ((x.getD (0:Int).toNat default).Node),vi ((x.getD (0:Int).toNat default).Bit)]) (KS ?_))
 refine Oq Va (KS ?_)
 refine pC H hx0 fun hc11 H=>?_
 refine llH H hx0 fun X12 hX13 hx14 HL15=>?_
 refine Kl (γ:=Nat) (fun r9=>⟨[(0,vl xa0 xk0 x),(1,.func (.func cmpF) #[] cmpC.toArray),(4,p2),(5,p8),(6,vi 1)],[Cl p8 [vi ((x.getD (0:Int).toNat default).Node),vi ((x.getD (0:Int).toNat default).Bit)],Cl p2 [vi 0,vi 0],S xa0 xk0 x,Qg5 cmpA],Qe0 x r9 = X12,r9⟩) 1 [0,1,1,2] hX13 ?_
 rintro r9 hM10
 refine QaA fun _ _ hL hA=>?_; dsimp only at hL hA; subst hL hA
 refine Fb 16 2 fun _=>?_
 rcases r9 with _ | r9
 ·exact absurd (hM10.symm.trans rfl) hx14
 have H:=hM10; (try dsimp only at H); rw [Qe0] at H
 refine KS ?_
 refine Oq Vm (Oq Vm (Oq (Qba QcX) (Oq Qbh (KS ?_))))
 refine pF H hx14 fun h17 H=>?_
 refine KcF h17 ?_
 have g18:=df h17
 refine Ke ?_
 have H:=llB H HL15
 refine KS ?_
 refine Oq (Qau Qfo 0) (Ost (Scl [1] Qfo [vi ((x.getD (0:Int).toNat default).Node),vi ((x.getD (0:Int).toNat default).Bit)]) (KS ?_))
 have hq:=rI H; subst hq
 exact Kr () rfl (.cellN 0 rfl Qfo rfl (Qal _ _) rfl .nil) [] en
theorem QAf (l:List Qas) (la0:Option Addr) (lk0:Nat) (nextP:Value) (next:List (Qas × List Qas)) (rr:List Qas) (hrr:Qnb l next = .ret rr):FT Tryz.prog 63 #[vl la0 lk0 l,nextP] [S la0 lk0 l,MS Qas QeY Qed nextP next] (fun g:Value=>True) (fun g=>g) (fun g=>[sl g rr,MS Qas QeY Qed nextP next]):=by
 refine FTi Tryz.func63 fun w0 M0 F0=>Fb 16 0 fun _=>?_
 have hx0:=lrn rr; have H:=hrr; unfold Qnb at H
 refine KS ?_
 refine Oq Va (KS ?_)
 refine Oq Va (KS ?_)
 refine Jl [] (Ent.osNil (α:=Qas)) ?_
 refine llH H hx0 fun X10 hX11 hx12 HL13=>?_
 refine Kl (γ:=Nat × List Qas × List Qas × Option Addr × Nat × Option Addr × Nat) (fun (r2,l_3,QbM,a5,k6,a7,k8)=>⟨[(0,vl a5 k6 l_3),(1,nextP),(5,vl a7 k8 QbM)],[O a7 k8 QbM,S a5 k6 l_3,MS Qas QeY Qed nextP next],Qhs next r2 l_3 QbM = X10,r2⟩) (100000,l,[],la0,lk0,none,0) [0,0,1] hX11 ?_
 rintro ⟨r2,l_3,QbM,a5,k6,a7,k8⟩ hM9
 refine QaA fun _ _ hL hA=>?_; dsimp only at hL hA; subst hL hA
 refine Fb 16 0 fun _=>Fb 16 1 fun _=>?_
 rcases r2 with _ | r2
 ·exact absurd (hM9.symm.trans rfl) hx12
 have H:=hM9; (try dsimp only at H); rw [Qhs] at H
 refine KS ?_
 refine Oq Vm (Oq (Qba QcX) (Oq Qgr (KS ?_)))
 refine KcH H ?_ ?_
 ·intro h16 H
  have g17:=dt h16
  refine KS ?_
  refine Oq Vm ?_
  refine QiW (Ent.pall [] rfl rfl) ?_
  refine lbH H hx12 fun rv18 hg19 H=>?_
  have hc20:=QyB l_3 a5 k6 104 [] (fun x0 x1=>.oof) [] Qxo (by intros; rename_i h; cases h) rv18 hg19
  refine Oc [2,0] Qw4 hc20 ?_
  rintro - ⟨he21,he22⟩
  unfold Qaa at he21 he22
  refine Oa (Al Qqp [vi 0,vi 0]) fun p23=>Ost (Scl [0] Qfo [vi rv18.Node,vi rv18.Bit]) (KS ?_)
  refine Oq Vm (Oq (Qau Qfo 0) (Oa (AsV QcX QmR [.agg #[vi rv18.Node,vi rv18.Bit]] [vi rv18.Node,vi rv18.Bit]) fun c24=>?_))
  refine Jo 0 ?_; rintro a25 k26 rfl
  refine Jl [0] (Ent.cr1 (α:=Qas) (A:=[]) _ rv18 _ aB1 (fun h=>⟨rfl,aL1,aL1⟩)) ?_
  refine pC H hx12 fun hc27 H=>?_
  refine Oa (ApO [3,0] QcX QcX QmR) fun c28=>?_
  refine Jo 0 ?_; rintro a29 k30 rfl
  refine Fb 16 0 fun _=>?_
  have hn32:=la QbM ([rv18]:List Qas)
  refine Oq Va (KS ?_)
  refine Oq Vm (Oq (Qau Qfo 1) (Oa (QzS 4 QtF Qj3 QwI (key:=rv18) QuC) fun c33=>?_))
  refine Jo 0 ?_; rintro a34 k35 rfl
  refine Fb 16 0 fun _=>?_
  refine Oq Va (KS ?_)
  exact Kg (r2,((Qfs next rv18).getD []),(QbM ++ [rv18]),a34,k35,a29,k30) [1,0,4] H
 intro h16 H
 have g37:=df h16
 refine Ke ?_
 have H:=llB H HL13
 refine KS ?_
 refine Oq Vm (Oq Va (KS ?_))
 refine Jl [0] (Ent.freeze _ _) ?_
 have hq:=rI H; subst hq
 exact Kr (vl a7 k8 QbM) rfl (.tmp rfl .nil) [0,2] trivial
theorem QA9 (s:Qac) (sa1:Option Addr) (sk1:Nat) (sa2:Option Addr) (sk2:Nat) (sa3:Option Addr) (sk3:Nat) (h:Qas) (Qcc:Qaa s.Width) (Qus:Qaa h.Node) (Qut:Qaa h.Bit) (rr:List Qas) (hrr:Qlu s h = .ret rr):FT Tryz.prog 64 #[.agg #[vi s.Width,vl sa1 sk1 s.Deps,vl sa2 sk2 s.Transfers,vl sa3 sk3 s.Boundary],.agg #[vi h.Node,vi h.Bit]] [S sa1 sk1 s.Deps,S sa2 sk2 s.Transfers,S sa3 sk3 s.Boundary] (fun g:Value=>True) (fun g=>g) (fun g=>[sl g rr]):=by
 refine FTi Tryz.func64 fun w0 M0 F0=>?_
 unfold Qaa at Qcc Qus Qut
 refine Fb 24 0 fun _=>Fb 88 1 fun _=>Fb 32 2 fun _=>?_
 have hx0:=lrn rr; have H:=hrr; unfold Qlu at H
 refine KS ?_
 refine Oa (Ab [vi s.Width,vl sa1 sk1 s.Deps,vl sa2 sk2 s.Transfers,vl sa3 sk3 s.Boundary]) fun p4=>Oa (Ab [vi h.Node,vi h.Bit]) fun p5=>Oq Va (KS ?_)
 refine Oq Va (KS ?_)
 refine Oq (Vfa QbI 1) (Oq (Qah QgG 1) (Oq (Vfa Qc8 0) (Oq (Qah sh3 0) ?_)))
 refine pC H hx0 fun hc6 H=>?_
 refine Oq (Vi Qfr 2) ?_
 refine QdV h.Node.toNat 2 rfl rng fun a7 k8=>?_
 refine Fb 8 1 fun _=>Fo 1 fun ho10=>?_
 refine Oq (Vld QjI 0) (Oq (Qba QcA) (Oq Vm (KS ?_)))
 refine Jl [] (Ent.osNil (α:=Qas)) ?_
 refine pC H hx0 fun hc21 H=>?_
 refine llH H hx0 fun X22 hX23 hx24 HL25=>?_
 refine Kl (γ:=Nat × List Qas × Int × Option Addr × Nat) (fun (r11,QmG,QbK,a14,k15)=>⟨[(2,p4),(3,p5),(5,vl a14 k15 QmG),(15,vl a7 k8 (s.Deps.getD h.Node.toNat [])),(16,vi ((s.Deps.getD h.Node.toNat []).length:Int)),(17,vi QbK)],[O a14 k15 QmG,S a7 k8 ((s.Deps.getD h.Node.toNat []):List Int),pv p5 [vi h.Node,vi h.Bit],pv p4 [vi s.Width,vl sa1 sk1 s.Deps,vl sa2 sk2 s.Transfers,vl sa3 sk3 s.Boundary],S sa1 sk1 s.Deps,S sa2 sk2 s.Transfers,S sa3 sk3 s.Boundary],Qe9 s h r11 QmG QbK = X22 /\ r11 = ((((s.Deps.getD h.Node.toNat []).length:Int):Int) - QbK).toNat /\ (0:Int) <= QbK /\ (QbK <= ((s.Deps.getD h.Node.toNat []).length:Int) \/ QbK = 0) /\ (-9223372036854775808 <= QbK /\ QbK <= 9223372036854775807),r11⟩) (((((s.Deps.getD h.Node.toNat []).length:Int):Int) - 0).toNat,[],0,none,0) [0,1,2,3,4,5,6] ⟨hX23,rfl,aM1,(.inr rfl),aM1⟩ ?_
 rintro ⟨r11,QmG,QbK,a14,k15⟩ ⟨hM16,hr17,hi18,hi19,hk20⟩
 refine QaA fun _ _ hL hA=>?_; dsimp only at hL hA; subst hL hA
 refine Fb 16 0 fun _=>Fb 8 1 fun _=>Fo 1 fun ho28=>Fb 24 4 fun _=>Fb 88 5 fun _=>Fb 32 6 fun _=>KS ?_
 refine Oq Qbh (KS ?_)
 refine Kc ?_ ?_
 ·intro h32
  have g33:=dt h32
  obtain ⟨r34,rfl⟩:=scc (n:=r11) aM1
  have H:=hM16; (try dsimp only at H); rw [Qe9] at H
  refine KS ?_
  refine pC H hx24 fun hc35 H=>?_
  refine Oq (Vi QcA 1) ?_
  have hb36:=ok1 (i:=QbK.toNat) ho28 rng
  refine Oq (Qjc sh3 1) (Oq Va (KS ?_))
  refine Oq (Vfa QcW 3) (Oq (Qah QjR 3) (Oq Vm ?_))
  refine pC H hx24 fun hc37 H=>?_
  refine Oq (Vi QiI 5) ?_
  refine QaU (((s.Deps.getD h.Node.toNat []).getD QbK.toNat 0):Int).toNat 5 rfl rng fun a38 k39 a40 k41 a42 k43 hb44 hb45=>?_
  unfold Qaa at hb44 hb45
  refine Fb 8 1 fun _=>Fb 8 2 fun _=>Fb 16 3 fun _=>?_
  refine Oq (Qau Qek 0) (Oa (Al Qqo [vi 0,.slice none 0 0,vi 0,.slice none 0 0,.slice none 0 0]) fun p49=>Ost (Scl [0] Qek [vi (((s.Transfers.getD (((s.Deps.getD h.Node.toNat []).getD QbK.toNat 0):Int).toNat default).Gen).Width),.slice a38 ((((s.Transfers.getD (((s.Deps.getD h.Node.toNat []).getD QbK.toNat 0):Int).toNat default).Gen).Words).length) k39,vi (((s.Transfers.getD (((s.Deps.getD h.Node.toNat []).getD QbK.toNat 0):Int).toNat default).Kill).Width),.slice a40 ((((s.Transfers.getD (((s.Deps.getD h.Node.toNat []).getD QbK.toNat 0):Int).toNat default).Kill).Words).length) k41,.slice a42 (((s.Transfers.getD (((s.Deps.getD h.Node.toNat []).getD QbK.toNat 0):Int).toNat default).Copies).length) k43]) (KS ?_))
  refine Oq (Vfa QbR 8) (Oq (Qah sh3 8) (Oq Vm (KS ?_)))
  refine pC H hx24 fun hc60 H=>?_
  refine llH H hx24 fun X61 hX62 hx63 HL64=>?_
  refine Kl (γ:=Nat × List Qas × Int × Option Addr × Nat) (fun (r50,QlM,Qfn,a53,k54)=>⟨[(2,p4),(3,p5),(5,vl a53 k54 QlM),(15,vl a7 k8 (s.Deps.getD h.Node.toNat [])),(16,vi ((s.Deps.getD h.Node.toNat []).length:Int)),(17,vi QbK),(7,vi ((s.Deps.getD h.Node.toNat []).getD QbK.toNat 0)),(8,p49),(27,vi s.Width),(28,vi Qfn)],[O a53 k54 QlM,Cl p49 [vi (((s.Transfers.getD (((s.Deps.getD h.Node.toNat []).getD QbK.toNat 0):Int).toNat default).Gen).Width),.slice a38 ((((s.Transfers.getD (((s.Deps.getD h.Node.toNat []).getD QbK.toNat 0):Int).toNat default).Gen).Words).length) k39,vi (((s.Transfers.getD (((s.Deps.getD h.Node.toNat []).getD QbK.toNat 0):Int).toNat default).Kill).Width),.slice a40 ((((s.Transfers.getD (((s.Deps.getD h.Node.toNat []).getD QbK.toNat 0):Int).toNat default).Kill).Words).length) k41,.slice a42 (((s.Transfers.getD (((s.Deps.getD h.Node.toNat []).getD QbK.toNat 0):Int).toNat default).Copies).length) k43],S a38 k39 (((s.Transfers.getD (((s.Deps.getD h.Node.toNat []).getD QbK.toNat 0):Int).toNat default).Gen).Words:List (BitVec 64)),S a40 k41 (((s.Transfers.getD (((s.Deps.getD h.Node.toNat []).getD QbK.toNat 0):Int).toNat default).Kill).Words:List (BitVec 64)),S a42 k43 ((s.Transfers.getD (((s.Deps.getD h.Node.toNat []).getD QbK.toNat 0):Int).toNat default).Copies:List QbA),S a7 k8 ((s.Deps.getD h.Node.toNat []):List Int),pv p5 [vi h.Node,vi h.Bit],pv p4 [vi s.Width,vl sa1 sk1 s.Deps,vl sa2 sk2 s.Transfers,vl sa3 sk3 s.Boundary],S sa1 sk1 s.Deps,S sa2 sk2 s.Transfers,S sa3 sk3 s.Boundary],Qfb h ((s.Deps.getD h.Node.toNat []).getD QbK.toNat 0) (((s.Transfers.getD (((s.Deps.getD h.Node.toNat []).getD QbK.toNat 0):Int).toNat default).Kill).Width) (((s.Transfers.getD (((s.Deps.getD h.Node.toNat []).getD QbK.toNat 0):Int).toNat default).Kill).Words) r50 QlM Qfn = X61 /\ r50 = ((s.Width:Int) - Qfn).toNat /\ (0:Int) <= Qfn /\ (Qfn <= s.Width \/ Qfn = 0) /\ (-9223372036854775808 <= Qfn /\ Qfn <= 9223372036854775807),r50⟩) (((s.Width:Int) - 0).toNat,QmG,0,a14,k15) [5,0,1,2,3,4,5,6,7,8,9] ⟨hX62,rfl,aM1,(.inr rfl),aM1⟩ ?_
  rintro ⟨r50,QlM,Qfn,a53,k54⟩ ⟨hM55,hr56,hi57,hi58,hk59⟩
  refine QaA fun _ _ hL hA=>?_; dsimp only at hL hA; subst hL hA
  refine Fb 16 0 fun _=>Fb 8 2 fun _=>Fb 8 3 fun _=>Fb 16 4 fun _=>Fb 8 5 fun _=>Fo 5 fun ho70=>Fb 24 8 fun _=>Fb 88 9 fun _=>?_
  refine Fb 32 10 fun _=>KS ?_
  refine Oq Qbh (KS ?_)
  refine Kc ?_ ?_
  ·intro h74
   have g75:=dt h74
   obtain ⟨r76,rfl⟩:=scc (n:=r50) aM1
   have H:=hM55; (try dsimp only at H); rw [Qfb] at H
   refine KS ?_
   refine Oq Vm (Oq Va (KS ?_))
   refine Oq Vm (Oq (Vfa QfA 6) (Oq (Qah sh3 6) (Oq QbW (Oq Vm ?_))))
   refine pT H hx63 fun h77 H=>?_
   refine JsT 35 h77 ?_
   have g78:=eq_of_beq h77
   refine Oq (Vfa Qgj 1) (Oq (Qmr Qax 1 [vi (((s.Transfers.getD (((s.Deps.getD h.Node.toNat []).getD QbK.toNat 0):Int).toNat default).Kill).Width),.slice a40 ((((s.Transfers.getD (((s.Deps.getD h.Node.toNat []).getD QbK.toNat 0):Int).toNat default).Kill).Words).length) k41]) (Oq Vm ?_))
   refine lvH H fun rv79 hg80 H=>?_
   have hc81:=QtR (((s.Transfers.getD (((s.Deps.getD h.Node.toNat []).getD QbK.toNat 0):Int).toNat default).Kill)) a40 k41 Qfn pre pre rv79 hg80
   refine Oc [3] QtI hc81 ?_
   rintro - -
   refine Oq Qcy (Oq Vpt (Oq Vm ?_))
   refine pT H hx63 fun h82 H=>?_
   refine JsT 42 h82 ?_
   have h84:=not_true h82
   refine Osk (Osk (Osk (Osk (Osk (Osk (Osk (Oq Vpt (KS ?_))))))))
   refine Kt (KS ?_)
   refine Oq Vm (Oq Vm (Oq Vm (Oq (Vbd QrK [vi ((s.Deps.getD h.Node.toNat []).getD QbK.toNat 0),vi Qfn]) (Oa (AsV QcX QmR [.agg #[vi ((s.Deps.getD h.Node.toNat []).getD QbK.toNat 0),vi Qfn]] [vi ((s.Deps.getD h.Node.toNat []).getD QbK.toNat 0),vi Qfn]) fun c86=>?_))))
   refine Jo 0 ?_; rintro a87 k88 rfl
   refine Jl [0] (Ent.cr1 (α:=Qas) (A:=[]) _ (Qas.mk ((s.Deps.getD h.Node.toNat []).getD QbK.toNat 0) Qfn) _ aB1 (fun h=>⟨rfl,aL1,aL1⟩)) ?_
   refine pC H hx63 fun hc89 H=>?_
   refine Oa (ApO [1,0] QcX QcX QmR) fun c90=>?_
   refine Jo 0 ?_; rintro a91 k92 rfl
   refine Fb 16 0 fun _=>?_
   have hn94:=la QlM ([(Qas.mk ((s.Deps.getD h.Node.toNat []).getD QbK.toNat 0) Qfn)]:List Qas)
   refine Oq Va (KS ?_)
   refine Oq QaS (Oq Vm (KS ?_))
   refine pC H hx63 fun hc95 H=>?_
   exact Kg (r76,(QlM ++ [(Qas.mk ((s.Deps.getD h.Node.toNat []).getD QbK.toNat 0) Qfn)]),(Qfn + 1),a91,k92) [0,0,0,1,2,3,4,5,6,7,8] ⟨H,aM1,aM1,aM1,aM1⟩
  intro h74
  have g96:=df h74
  obtain rfl:r50 = 0:=by omega
  have H:=hM55; (try dsimp only at H); rw [Qfb] at H
  refine Ke ?_
  have H:=llB H HL64
  refine KS ?_
  refine Oq QaS (Oq Vm (KS ?_))
  refine pC H hx24 fun hc97 H=>?_
  exact Kg (r34,QlM,(QbK + 1),a53,k54) [0,4,5,6,7,8,9] ⟨H,aM1,aM1,aM1,aM1⟩
 intro h32
 have g98:=df h32
 obtain rfl:r11 = 0:=by omega
 have H:=hM16; (try dsimp only at H); rw [Qe9] at H
 refine Ke ?_
 have H:=llB H HL25
 refine KS ?_
 refine Oq Vm (Oq Va (KS ?_))
 refine Jl [0] (Ent.freeze _ _) ?_
 have hq:=rI H; subst hq
 exact Kr (vl a14 k15 QmG) rfl (.tmp rfl .nil) [0] trivial
theorem QAz (s:Qac) (sa1:Option Addr) (sk1:Nat) (sa2:Option Addr) (sk2:Nat) (sa3:Option Addr) (sk3:Nat) (n:Int) (bit:Int) (Qcc:Qaa s.Width) (Qgv:Qaa n) (Qfj:Qaa bit) (rr:List Qas × Bool × Int) (hrr:QoW s n bit = .ret rr):FT Tryz.prog 25 #[.agg #[vi s.Width,vl sa1 sk1 s.Deps,vl sa2 sk2 s.Transfers,vl sa3 sk3 s.Boundary],vi n,vi bit] [S sa1 sk1 s.Deps,S sa2 sk2 s.Transfers,S sa3 sk3 s.Boundary] (fun g:Value=>Qaa rr.2.2) (fun g=>.tuple #[g,vb rr.2.1,vi rr.2.2]) (fun g=>[sl g rr.1]):=by
 refine FTi Tryz.func25 fun w0 M0 F0=>?_
 unfold Qaa at Qcc Qgv Qfj
 refine Fb 24 0 fun _=>Fb 88 1 fun _=>Fb 32 2 fun _=>?_
 have hx0:=lrn rr; have H:=hrr; unfold QoW at H
 refine KS ?_
 refine Oa (Ab [vi s.Width,vl sa1 sk1 s.Deps,vl sa2 sk2 s.Transfers,vl sa3 sk3 s.Boundary]) fun p4=>Oq Va (Oq Va (Oq Va (KS ?_)))
 refine Oq (Qau Qen 0) (Oq Vm (Oq Vm ?_))
 refine lvH H fun rv5 hg6 H=>?_
 have hc7:=QwE s sa1 sk1 sa2 sk2 sa3 sk3 n bit pre pre pre rv5 hg6
 refine Oc [1,2,3] Qwy hc7 ?_
 rintro - he8
 unfold Qaa at he8
 refine Oq Va (KS ?_)
 refine Oq Vm (Oq QfZ (KS ?_))
 refine pF H hx0 fun h9 H=>?_
 refine KcF h9 ?_
 have g10:=Qae h9
 refine KS ?_
 refine Oq Vm (Oq Vm (Oq (Vbd QrK [vi n,vi bit]) (Oa (Al Qqp [vi 0,vi 0]) fun p11=>Ost (Scl [0] Qfo [vi n,vi bit]) (KS ?_))))
 refine Oa (QzH (κ:=Qas) (α:=Qas) (ek:=QeY) (ok:=Qed)) fun p12=>?_
 refine Qzl (ks:=[]) 0 ?_; rintro b13 rfl
 refine Oq (Qau Qfo 1) ?_
 refine Jl [] (Ent.slNil (α:=Qas)) ?_
 refine Ost (QAi [1,0] QtF Qj3 ([]:List Qas) (key:=(Qas.mk n bit)) QuC) (Oq Vm (Oq Va (KS ?_)))
 refine Oq (Qau Qfo 2) (Oa (AsV QcX QmR [.agg #[vi n,vi bit]] [vi n,vi bit]) fun c14=>?_)
 refine Jo 0 ?_; rintro a15 k16 rfl
 refine Oq Va (KS ?_)
 refine Jl [0] (Ent.cr1 (α:=Qas) (A:=[]) _ (Qas.mk n bit) _ aB1 (fun h=>⟨rfl,aL1,aL1⟩)) ?_
 refine Fb 16 0 fun _=>?_
 refine llH H hx0 fun X24 hX25 hx26 HL27=>?_
 refine Kl (γ:=Nat × (List (Qas × List Qas)) × List Qas × Option Addr × Nat) (fun (r18,QgR,Qbk,a21,k22)=>⟨[(3,p4),(11,(mv b13)),(12,vl a21 k22 Qbk)],[O a21 k22 Qbk,MS Qas QeY Qed (mv b13) QgR,pv p4 [vi s.Width,vl sa1 sk1 s.Deps,vl sa2 sk2 s.Transfers,vl sa3 sk3 s.Boundary],S sa1 sk1 s.Deps,S sa2 sk2 s.Transfers,S sa3 sk3 s.Boundary],Qil s r18 QgR Qbk = X24,r18⟩) (100000,(mset ([]:List (Qas × List Qas)) (Qas.mk n bit) ([]:List Qas)),[(Qas.mk n bit)],a15,k16) [0,0,2,3,4,5] hX25 ?_
 rintro ⟨r18,QgR,Qbk,a21,k22⟩ hM23
 refine QaA fun _ _ hL hA=>?_; dsimp only at hL hA; subst hL hA
 refine Fb 16 0 fun _=>Fb 24 3 fun _=>Fb 88 4 fun _=>Fb 32 5 fun _=>?_
 rcases r18 with _ | r18
 ·exact absurd (hM23.symm.trans rfl) hx26
 have H:=hM23; (try dsimp only at H); rw [Qil] at H
 refine KS ?_
 refine Oq Vm ?_
 refine Jl [0] (Ent.freeze _ _) ?_
 refine lbH H hx26 fun rv33 hg34 H=>?_
 have hc35:=QBg Qbk a21 k22 rv33 hg34
 refine Oc [0] QAI hc35 ?_
 rintro c32 -
 refine Jo 0 ?_; rintro a36 k37 rfl
 refine Fb 16 0 fun _=>Oq (Vf [p4]) ?_
 refine QiW (Ent.pall [3,4,5,6] rfl rfl) ?_
 refine lbH H hx26 fun rv40 hg41 H=>?_
 have hc42:=QAx rv33 a36 k37 62 [p4] (fun x=>Qjh x s) [pv p4 [vi s.Width,vl sa1 sk1 s.Deps,vl sa2 sk2 s.Transfers,vl sa3 sk3 s.Boundary],S sa1 sk1 s.Deps,S sa2 sk2 s.Transfers,S sa3 sk3 s.Boundary] QAG (fun x hx hq0 hq1 r hr=>Qh9 (A1:=_) (QzT x  p4 s sa1 sk1 sa2 sk2 sa3 sk3 hq0 hq1 pre r hr)) rv40 hg41
 refine Oc [1,0] QzU hc42 ?_
 rintro c39 -
 refine Jo 0 ?_; rintro a43 k44 rfl
 refine Fb 16 0 fun _=>?_
 refine Oq Va (KS ?_)
 refine Oq Vm (Oq (Qba QcX) (Oq Qgr (KS ?_)))
 refine KcH H ?_ ?_
 ·intro h46 H
  have g47:=dt h46
  refine KS ?_
  refine Oq Vm (Oq Vm ?_)
  refine Jl [0] (Ent.freeze _ _) ?_
  refine lbH H hx26 fun rv49 hg50 H=>?_
  have hc51:=QAf rv40 a43 k44 (mv b13) QgR rv49 hg50
  refine Oc [0,3] QBi hc51 ?_
  rintro c48 -
  refine Jo 0 ?_; rintro a52 k53 rfl
  refine Fb 16 0 fun _=>?_
  refine Oq Va (Oq Va (Oq Va (KS ?_)))
  have H:=llR H HL27
  have hq:=rI H; subst hq
  exact Kr (vl a52 k53 rv49) rfl (.tmp rfl (.tmp rfl (.tmp rfl .nil))) [0] en
 intro h46 H
 have g55:=df h46
 refine KS ?_
 refine Oa (QzH (κ:=Qas) (α:=Qas) (ek:=QeY) (ok:=Qed)) fun p56=>?_
 refine Qzl (ks:=[]) 0 ?_; rintro b57 rfl
 refine Oq Va (KS ?_)
 refine Oq Va (KS ?_)
 refine Oq Vm (Oq (Qba QcX) (Oq Vm (KS ?_)))
 refine Jl [] (Ent.osNil (α:=Qas)) ?_
 refine llH H hx26 fun X69 hX70 hx71 HL72=>?_
 refine Kl (γ:=Nat × (List (Qas × List Qas)) × List Qas × Int × Option Addr × Nat) (fun (r58,QiE,Qev,QdD,a62,k63)=>⟨[(3,p4),(11,(mv b13)),(14,(mv b57)),(15,vl a62 k63 Qev),(50,vl a21 k22 Qbk),(51,vi (Qbk.length:Int)),(52,vi QdD)],[O a62 k63 Qev,MS Qas QeY Qed (mv b57) QiE,Qg5 [pv p4 [vi s.Width,vl sa1 sk1 s.Deps,vl sa2 sk2 s.Transfers,vl sa3 sk3 s.Boundary],S sa1 sk1 s.Deps,S sa2 sk2 s.Transfers,S sa3 sk3 s.Boundary],S a21 k22 Qbk,MS Qas QeY Qed (mv b13) QgR,pv p4 [vi s.Width,vl sa1 sk1 s.Deps,vl sa2 sk2 s.Transfers,vl sa3 sk3 s.Boundary],S sa1 sk1 s.Deps,S sa2 sk2 s.Transfers,S sa3 sk3 s.Boundary],Qha s QgR Qbk r58 QiE Qev QdD = X69 /\ r58 = ((Qbk.length:Int) - QdD).toNat /\ (0:Int) <= QdD /\ QdD <= (Qbk.length:Int) /\ (-9223372036854775808 <= QdD /\ QdD <= 9223372036854775807),r58⟩) (((Qbk.length:Int) - 0).toNat,[],[],0,none,0) [0,0,1,2,3,3,4,5,6] ⟨hX70,rfl,aM1,aM1,aM1⟩ ?_
 rintro ⟨r58,QiE,Qev,QdD,a62,k63⟩ ⟨hM64,hr65,hi66,hi67,hk68⟩
 refine QaA fun _ _ hL hA=>?_; dsimp only at hL hA; subst hL hA
 refine Fb 16 0 fun _=>Fb 16 3 fun _=>Fb 24 6 fun _=>Fb 88 7 fun _=>Fb 32 8 fun _=>KS ?_
 refine Oq Qbh (KS ?_)
 refine Kc ?_ ?_
 ·intro h78
  have g79:=dt h78
  obtain ⟨r80,rfl⟩:=scc (n:=r58) aM1
  have H:=hM64; (try dsimp only at H); rw [Qha] at H
  refine KS ?_
  refine pC H hx71 fun hc81 H=>?_
  refine Oq (Vi QcX 3) ?_
  refine Qbq QdD.toNat 3 rfl rng fun hb82 hb83=>?_
  unfold Qaa at hb82 hb83
  refine Oq (Qau Qfo 0) (Oa (Al Qqp [vi 0,vi 0]) fun p84=>Ost (Scl [0] Qfo [vi ((Qbk.getD QdD.toNat default).Node),vi ((Qbk.getD QdD.toNat default).Bit)]) (KS ?_))
  refine Oq (Qau Qen 7) (Oq (Qau Qfo 0) ?_)
  refine pC H hx71 fun hc88 H=>?_
  refine lbH H hx71 fun rv86 hg87 H=>?_
  have hc89:=QA9 s sa1 sk1 sa2 sk2 sa3 sk3 ((Qbk.getD QdD.toNat default)) pre pre pre rv86 hg87
  refine Oc [8,9,10] QAh hc89 ?_
  rintro c85 -
  refine Jo 0 ?_; rintro a90 k91 rfl
  refine Fb 16 0 fun _=>?_
  refine Oq (Qba QcX) (Oq Vm (KS ?_))
  refine llH H hx71 fun X104 hX105 hx106 HL107=>?_
  refine Kl (γ:=Nat × (List (Qas × List Qas)) × List Qas × Int × Option Addr × Nat) (fun (r93,QiF,Qe2,Qdr,a97,k98)=>⟨[(3,p4),(11,(mv b13)),(14,(mv b57)),(15,vl a97 k98 Qe2),(50,vl a21 k22 Qbk),(51,vi (Qbk.length:Int)),(52,vi QdD),(17,p84),(58,vl a90 k91 rv86),(59,vi (rv86.length:Int)),(60,vi Qdr)],[O a97 k98 Qe2,S a90 k91 rv86,Cl p84 [vi ((Qbk.getD QdD.toNat default).Node),vi ((Qbk.getD QdD.toNat default).Bit)],MS Qas QeY Qed (mv b57) QiF,Qg5 [pv p4 [vi s.Width,vl sa1 sk1 s.Deps,vl sa2 sk2 s.Transfers,vl sa3 sk3 s.Boundary],S sa1 sk1 s.Deps,S sa2 sk2 s.Transfers,S sa3 sk3 s.Boundary],S a21 k22 Qbk,MS Qas QeY Qed (mv b13) QgR,pv p4 [vi s.Width,vl sa1 sk1 s.Deps,vl sa2 sk2 s.Transfers,vl sa3 sk3 s.Boundary],S sa1 sk1 s.Deps,S sa2 sk2 s.Transfers,S sa3 sk3 s.Boundary],Qg7 QgR ((Qbk.getD QdD.toNat default).Node) ((Qbk.getD QdD.toNat default).Bit) rv86 r93 QiF Qe2 Qdr = X104 /\ r93 = ((rv86.length:Int) - Qdr).toNat /\ (0:Int) <= Qdr /\ Qdr <= (rv86.length:Int) /\ (-9223372036854775808 <= Qdr /\ Qdr <= 9223372036854775807),r93⟩) (((rv86.length:Int) - 0).toNat,QiE,Qev,0,a62,k63) [3,0,1,2,2,3,4,4,5,6,7] ⟨hX105,rfl,aM1,aM1,aM1⟩ ?_
  rintro ⟨r93,QiF,Qe2,Qdr,a97,k98⟩ ⟨hM99,hr100,hi101,hi102,hk103⟩
  refine QaA fun _ _ hL hA=>?_; dsimp only at hL hA; subst hL hA
  refine Fb 16 0 fun _=>Fb 16 1 fun _=>Fb 16 5 fun _=>Fb 24 8 fun _=>Fb 88 9 fun _=>Fb 32 10 fun _=>KS ?_
  refine Oq Qbh (KS ?_)
  refine Kc ?_ ?_
  ·intro h114
   have g115:=dt h114
   obtain ⟨r116,rfl⟩:=scc (n:=r93) aM1
   have H:=hM99; (try dsimp only at H); rw [Qg7] at H
   refine KS ?_
   refine pC H hx106 fun hc117 H=>?_
   refine Oq (Vi QcX 1) ?_
   refine Qbq Qdr.toNat 1 rfl rng fun hb118 hb119=>?_
   unfold Qaa at hb118 hb119
   refine Oq (Qau Qfo 0) (Oa (Al Qqp [vi 0,vi 0]) fun p120=>Ost (Scl [0] Qfo [vi ((rv86.getD Qdr.toNat default).Node),vi ((rv86.getD Qdr.toNat default).Bit)]) (KS ?_))
   refine Oq Vm (Oq (Qau Qfo 0) (Oa (Qw3 8 QtF Qj3 QwI (key:=(rv86.getD Qdr.toNat default)) QuC) fun c121=>?_))
   refine Jo 0 ?_; rintro a122 k123 rfl
   refine Fb 16 0 fun _=>?_
   refine Oq Vm (Oq Vx (Oq Vx (Oq Va (Oq Va (KS ?_)))))
   refine Oq Vm (KS ?_)
   refine pC H hx106 fun hc126 H=>?_
   refine pF H hx106 fun h125 H=>?_
   refine KcF h125 ?_
   refine KS ?_
   refine Oq Vm (Oq (Qau Qfo 1) ?_)
   refine pC H hx106 fun hc128 H=>?_
   refine Oq (Qx8 6 QtF Qj3 QwI (key:=(rv86.getD Qdr.toNat default)) QuC hc128) (Oq (Qxg QzE) (KS ?_))
   refine Kt (KS ?_)
   refine Oq Vm (Oq (Qau Qfo 1) (Oa (AsV QcX QmR [.agg #[vi ((rv86.getD Qdr.toNat default).Node),vi ((rv86.getD Qdr.toNat default).Bit)]] [vi ((rv86.getD Qdr.toNat default).Node),vi ((rv86.getD Qdr.toNat default).Bit)]) fun c129=>?_))
   refine Jo 0 ?_; rintro a130 k131 rfl
   refine Jl [0] (Ent.cr1 (α:=Qas) (A:=[]) _ (rv86.getD Qdr.toNat default) _ aB1 (fun h=>⟨rfl,aL1,aL1⟩)) ?_
   refine pC H hx106 fun hc132 H=>?_
   refine Oa (ApO [4,0] QcX QcX QmR) fun c133=>?_
   refine Jo 0 ?_; rintro a134 k135 rfl
   refine Fb 16 0 fun _=>?_
   have hn137:=la Qe2 ([(rv86.getD Qdr.toNat default)]:List Qas)
   refine Oq Va (KS ?_)
   refine Oq Vm (Oq (Qau Qfo 2) (Oq (Qau Qfo 5) (Oa (AsV QcX QmR [.agg #[vi ((Qbk.getD QdD.toNat default).Node),vi ((Qbk.getD QdD.toNat default).Bit)]] [vi ((Qbk.getD QdD.toNat default).Node),vi ((Qbk.getD QdD.toNat default).Bit)]) fun c138=>?_)))
   refine Jo 0 ?_; rintro a139 k140 rfl
   refine Oa (QBA [7] QtF Qj3 QwI (key:=(rv86.getD Qdr.toNat default)) QuC hc128) fun st141=>Oq Vx ?_
   refine Jl [] (Ent.osNil (α:=Qas)) ?_
   refine Jl [2] (Ent.cr1 (α:=Qas) (A:=[]) _ (Qbk.getD QdD.toNat default) _ aB1 (fun h=>⟨rfl,aL1,aL1⟩)) ?_
   refine Oa (QAr [1,0] QcX QcX QmR) fun c142=>?_
   refine Jo 0 ?_; rintro a143 k144 rfl
   refine Fb 16 0 fun _=>Oq Vx ?_
   refine Jl [0] (Ent.freeze _ _) ?_
   refine Ost (Ses [1,0]) (KS ?_)
   refine Oq QaS (Oq Vm (KS ?_))
   refine pC H hx106 fun hc146 H=>?_
   refine pC H hx106 fun hc147 H=>?_
   exact Kg (r116,(mset ((mset QiF (rv86.getD Qdr.toNat default) ((Qfs QiF (rv86.getD Qdr.toNat default)).getD [])):List (Qas × List Qas)) (rv86.getD Qdr.toNat default) ([(Qbk.getD QdD.toNat default)]:List Qas)),(Qe2 ++ [(rv86.getD Qdr.toNat default)]),(Qdr + 1),a134,k135) [2,5,6,0,5,6,7,7,8,9,10] ⟨H,aM1,aM1,aM1,aM1⟩
  intro h114
  have g148:=df h114
  obtain rfl:r93 = 0:=by omega
  have H:=hM99; (try dsimp only at H); rw [Qg7] at H
  refine Ke ?_
  have H:=llB H HL107
  dsimp only at H
  refine KS ?_
  refine Oq QaS (Oq Vm (KS ?_))
  refine pC H hx71 fun hc149 H=>?_
  exact Kg (r80,QiF,Qe2,(QdD + 1),a97,k98) [0,2,2,3,4,4,5,6,7] ⟨H,aM1,aM1,aM1,aM1⟩
 intro h78
 have g150:=df h78
 obtain rfl:r58 = 0:=by omega
 have H:=hM64; (try dsimp only at H); rw [Qha] at H
 refine Ke ?_
 have H:=llB H HL72
 dsimp only at H
 refine KS ?_
 refine Oq Vm (Oq (Qba QcX) (Oq QbW (KS ?_)))
 refine pF H hx26 fun h151 H=>?_
 refine KcF h151 ?_
 have g152:=ne_of_beq_false h151
 refine KS ?_
 refine Oq Vm ?_
 refine Jl [1] Ent.msfacts ?_
 refine Jf 0 rfl ?_; intro hmf154
 refine Jk [1,1,1,2,3,3,4,5,6] ?_
 refine Oa (QAR [0] QtF) fun p153=>KS ?_
 have HL164:=H
 refine Kl (γ:=(List (Qas × List Qas)) × (List (Qas × List Qas)) × (List (Qas × List Qas))) (fun (dn157,rs158,Qk5)=>⟨[(3,p4),(11,(mv b13)),(15,vl a62 k63 Qev),(93,p153)],[MSI Qas QeY Qed (mv b57) p153 QiE (dn157:List (Qas × List Qas)) (rs158:List (Qas × List Qas)),O a62 k63 Qev,Qg5 [pv p4 [vi s.Width,vl sa1 sk1 s.Deps,vl sa2 sk2 s.Transfers,vl sa3 sk3 s.Boundary],S sa1 sk1 s.Deps,S sa2 sk2 s.Transfers,S sa3 sk3 s.Boundary],MS Qas QeY Qed (mv b13) Qk5,pv p4 [vi s.Width,vl sa1 sk1 s.Deps,vl sa2 sk2 s.Transfers,vl sa3 sk3 s.Boundary],S sa1 sk1 s.Deps,S sa2 sk2 s.Transfers,S sa3 sk3 s.Boundary],Qdt dn157 QgR = Qk5 /\ (∀ e ∈ rs158,Qed e.1),rs158.length⟩) ([],QiE,QgR) [0,0,0,2,2,3,4,5] ⟨rfl,hmf154.2⟩ ?_
 rintro ⟨dn157,rs158,Qk5⟩ ⟨hM159,hv160⟩
 refine QaA fun _ _ hL hA=>?_; dsimp only at hL hA; subst hL hA
 refine Fb 16 1 fun _=>Fb 24 5 fun _=>Fb 88 6 fun _=>Fb 32 7 fun _=>KS ?_
 refine QBv [0] ?_ ?_
 ·intro hz169
  have hz169l:=congrArg List.length hz169
  refine Oq Vx (KS ?_)
  refine Kf ?_
  refine Ke ?_
  refine Jl [0] Ent.msdone ?_
  refine Jf 0 rfl ?_; intro hpm
  refine Jl [1] (Ent.msperm hpm) ?_
  refine Jk [0,1,1,2,2,3,4,5] ?_
  refine Jl [0] Ent.msfacts ?_
  refine Jf 0 rfl ?_; intro hmf
  refine Jk [1,1,1,2,2,3,4,5] ?_
  have hrn:=hM159
  refine Jl [3] Ent.msfacts ?_
  refine Jf 0 rfl ?_; intro hmg
  refine Jk [1,1,1,1,2,3,4,5] ?_
  refine lvH HL164 fun rv170 hg171 H=>?_
  refine Jl [0] (Ent.msperm (m':=rv170) (QoR (f:=Qdt) (fun _=>rfl) (fun _ _ _=>rfl) hpm hmf.1 hmg.1 hrn hg171)) ?_
  refine KS ?_
  refine Oq Vm (Oq Va (KS ?_))
  exact Kg (r18,rv170,Qev,a62,k63) [2,0,2,3,4,5] H
 intro en172 c176 r173 r174 hz175
 have hz175l:=nxe hz175
 refine Jo 0 ?_; rintro a177 k178 rfl
 refine Fb 16 0 fun _=>?_
 have hb180k:=hv160 en172 (by rw [hz175]; simp)
 obtain ⟨hb180,hb181⟩:=hb180k
 unfold Qaa at hb180 hb181
 refine Oq Vx (KS ?_)
 refine Kt (KS ?_)
 refine Oa (Qz3 1) fun c182=>?_
 refine Jo 0 ?_; rintro a183 k184 rfl
 refine Oq Vx (Oq Vx (Oa (Al Qqp [vi 0,vi 0]) fun p185=>Ost (Scl [0] Qfo [vi en172.1.Node,vi en172.1.Bit]) (Oq Va (KS ?_))))
 refine Oq Vm (Oq (Qau Qfo 0) (Oq Vm (Ost (QBh [6,1] QtF Qj3 en172.2 (key:=en172.1) QuC) (KS ?_))))
 exact Kg ((dn157 ++ [en172]),(r173 ++ r174),(mset Qk5 en172.1 en172.2)) [4,4,4,0,4,5,6,7] ⟨(by (try show _ = _); rw [QiR,hM159]; simp only [Qdt,cs4]),(fun e he=>hv160 e (hz175.symm ▸ (List.mem_append.1 he).elim (List.mem_append_left _) (fun h=>List.mem_append_right _ (List.mem_cons_of_mem _ h))))⟩ (hm:=nxl hz175)
theorem QrU (c:Int) (QyW:0 <= c /\ c <= 255) (rr:Bool) (hrr:Qg6 c = .ret rr):FT Tryz.prog 119 #[.int .u8 c] [] (fun g:Unit=>True) (fun g=>vb rr) (fun g=>[]):=by
 refine FTi Tryz.func119 fun w0 M0 F0=>?_
 have hx0:=lrn rr; have H:=hrr; unfold Qg6 at H
 refine KS ?_
 refine Oq Va (KS ?_)
 refine Oq Vm (Oq Qg8 (Oq Vm ?_))
 refine JsH 5 H ?_ ?_
 ·intro h1 H
  have g2:=dt h1
  refine Oq Vm (Oq QrL (Oq Vpt (Oq Vm ?_)))
  refine pT H hx0 fun h3 H=>?_
  refine JsT 9 h3 ?_
  have g4:=dt h3
  refine Osk (Osk (Osk (Osk (Osk (Osk (Oq Vpt (Oq Vm (Osk (Osk ?_)))))))))
  refine Oq Vpt (Oq Va (KS ?_))
  have hq:=rI H; subst hq
  exact Kr () rfl (.tmp rfl .nil) [] trivial
 intro h1 H
 have g5:=df h1
 refine Osk (Osk (Oq Vpf (Oq Vm (Oq Vm (Oq Qg8 (Oq Vm ?_))))))
 refine pF H hx0 fun h6 H=>?_
 refine JsF 12 h6 ?_
 have g7:=df h6
 refine Osk (Osk (Oq Vpf (Oq Vpf (Oq Vm (Oq Vm (Oq QbW (Oq Vpf (Oq Va (KS ?_)))))))))
 have hq:=rI H; subst hq
 exact Kr () rfl (.tmp rfl .nil) [] trivial
theorem QtK (c:Int) (QyW:0 <= c /\ c <= 255) (rr:Bool) (hrr:QkV c = .ret rr):FT Tryz.prog 120 #[.int .u8 c] [] (fun g:Unit=>True) (fun g=>vb rr) (fun g=>[]):=by
 refine FTi Tryz.func120 fun w0 M0 F0=>?_
 have hx0:=lrn rr; have H:=hrr; unfold QkV at H
 refine KS ?_
 refine Oq Va (KS ?_)
 refine Oq Vm (Oq Qg8 (Oq Vm ?_))
 refine JsH 5 H ?_ ?_
 ·intro h1 H
  have g2:=dt h1
  refine Oq Vm (Oq QrL (Oq Vpt (Oq Va (KS ?_))))
  have hq:=rI H; subst hq
  exact Kr () rfl (.tmp rfl .nil) [] trivial
 intro h1 H
 have g3:=df h1
 refine Osk (Osk (Oq Vpf (Oq Va (KS ?_))))
 have hq:=rI H; subst hq
 exact Kr () rfl (.tmp rfl .nil) [] trivial
theorem QBu (text:Str) (Quy:text.b.length <= 140737488355328) (rr:List Qbb × Int × Int × Int) (hrr:Qoq text = .ret rr):FT Tryz.prog 84 #[.string (bs text)] [] (fun g:Value=>Qaa rr.2.1 /\ Qaa rr.2.2.1 /\ Qaa rr.2.2.2) (fun g=>.tuple #[g,vi rr.2.1,vi rr.2.2.1,vi rr.2.2.2]) (fun g=>[sl g rr.1]):=by
 refine FTi Tryz.func84 fun w0 M0 F0=>?_
 have hx0:=lrn rr; have H:=hrr; unfold Qoq at H
 refine KS ?_
 refine Oq Va (Oq Va (Oq Va (Oq Va (KS ?_))))
 refine Oq Vm (Oq (VlS un9 (l:=text)) (Oq Qgr (KS ?_)))
 refine pF H hx0 fun h1 H=>?_
 refine KcF h1 ?_
 have g2:=df h1
 refine KS ?_
 refine Oq Va (KS ?_)
 refine Oq Va (Oq Va (Oq Va (KS ?_)))
 refine Oq Va (KS ?_)
 refine Jl [] (Ent.osNil (α:=Qbb)) ?_
 refine llH H hx0 fun X13 hX14 hx15 HL16=>?_
 refine Kl (γ:=Nat × List Qbb × Int × Bool × Int × Option Addr × Nat) (fun (r3,QbM,QcT,open__6,i_7,a8,k9)=>⟨[(0,.string (bs text)),(6,vl a8 k9 QbM),(7,vi 1),(8,vi QcT),(9,vb open__6),(10,vi i_7)],[O a8 k9 QbM],QeW text r3 QbM QcT open__6 i_7 = X13 /\ (-9223372036854775808 <= QcT /\ QcT <= 9223372036854775807) /\ (-9223372036854775808 <= i_7 /\ i_7 <= 9223372036854775807),r3⟩) (100000,[],1,false,0,none,0) [0] ⟨hX14,aM1,aM1⟩ ?_
 rintro ⟨r3,QbM,QcT,open__6,i_7,a8,k9⟩ ⟨hM10,hk11,hk12⟩
 refine QaA fun _ _ hL hA=>?_; dsimp only at hL hA; subst hL hA
 refine Fb 40 0 fun _=>?_
 rcases r3 with _ | r3
 ·exact absurd (hM10.symm.trans rfl) hx15
 have H:=hM10; (try dsimp only at H); rw [QeW] at H
 refine KS ?_
 refine Oq Vm (Oq Vm (Oq (VlS un9 (l:=text)) (Oq Qbh (KS ?_))))
 refine KcH H ?_ ?_
 ·intro h18 H
  have g19:=dt h18
  refine KS ?_
  refine Oq Vm (Oq Vm ?_)
  refine pC H hx15 fun hc20 H=>?_
  refine Oq (Vix un9 (l:=text)) ?_
  have hb21:=u8b (text.b.getD i_7.toNat 0)
  refine Oq Va (KS ?_)
  refine Oq Vm (Oq QbW (Oq Vm ?_))
  refine JsH 28 H ?_ ?_
  ·intro h22 H
   have g23:=eq_of_beq h22
   refine Osk (Osk (Oq Vpt (Oq Va (KS ?_))))
   refine Kt (KS ?_)
   refine Oq Vm ?_
   refine pC H hx15 fun hc24 H=>?_
   refine Oq QaS (Oq Vm ?_)
   refine pC H hx15 fun hc25 H=>?_
   refine Oq QaS (Oq Va (Oq Va (KS ?_)))
   exact Kg (r3,QbM,(QcT + 1),open__6,(i_7 + 1),a8,k9) [0] ⟨H,aM1,aM1⟩
  intro h22 H
  have g26:=ne_of_beq_false h22
  refine Oq Vm (Oq QbW (Oq Vpf (Oq Va (KS ?_))))
  refine pF H hx15 fun h27 H=>?_
  refine KcF h27 ?_
  have g28:=ne_of_beq_false h27
  refine KS ?_
  refine Oq Vm (Oq QbW (Oq Vm ?_))
  refine pF H hx15 fun h29 H=>?_
  refine JsF 39 h29 ?_
  have g30:=ne_of_beq_false h29
  refine Oq Vm (Oq QbW (Oq Vpf (Oq Vm ?_)))
  refine JsH 43 H ?_ ?_
  ·intro h31 H
   have g32:=eq_of_beq h31
   refine Osk (Osk (Oq Vpt (Oq Va (KS ?_))))
   refine Kt (KS ?_)
   refine Oq Vm (KS ?_)
   refine pT H hx15 fun h33 H=>?_
   refine KcT h33 ?_
   refine KS ?_
   refine Oq Vm (Oq Vm (Oq Vm (Oq (Vbd Qq4 [vi 3,.string (bs (Str.mk [])),vi 1,vi QcT]) (Oa (AsV QeM Ql1 [.agg #[vi 3,.string (bs (Str.mk [])),vi 1,vi QcT]] [vi 3,.string (bs (Str.mk [])),vi 1,vi QcT]) fun c35=>?_))))
   refine Jo 0 ?_; rintro a36 k37 rfl
   refine Jl [0] (Ent.cr1 (α:=Qbb) (A:=[]) _ (Qbb.mk 3 (Str.mk []) 1 QcT) _ aB1 (fun h=>⟨rfl,aL1,aS1,aL1,aL1⟩)) ?_
   refine pC H hx15 fun hc38 H=>?_
   refine Oa (ApO [1,0] QeM QeM Ql1) fun c39=>?_
   refine Jo 0 ?_; rintro a40 k41 rfl
   refine Fb 40 0 fun _=>?_
   have hn43:=la QbM ([(Qbb.mk 3 (Str.mk []) 1 QcT)]:List Qbb)
   refine Oq Va (KS ?_)
   refine Oq Va (KS ?_)
   refine llH H hx15 fun X46 hX47 hx48 HL49=>?_
   refine Kl (γ:=Nat) (fun r44=>⟨[(0,.string (bs text)),(7,vi 1),(8,vi QcT),(10,vi i_7),(11,.int .u8 ((text.b.getD i_7.toNat 0).toNat:Int)),(6,vl a40 k41 (QbM ++ [(Qbb.mk 3 (Str.mk []) 1 QcT)])),(9,vb false)],[O a40 k41 ((QbM ++ [(Qbb.mk 3 (Str.mk []) 1 QcT)]):List Qbb)],Qj8 ((text.b.getD i_7.toNat 0).toNat:Int) r44 = X46,r44⟩) 1 [0] hX47 ?_
   rintro r44 hM45
   refine QaA fun _ _ hL hA=>?_; dsimp only at hL hA; subst hL hA
   refine Fb 40 0 fun _=>?_
   rcases r44 with _ | r44
   ·exact absurd (hM45.symm.trans rfl) hx48
   have H:=hM45; (try dsimp only at H); rw [Qj8] at H
   refine KS ?_
   refine Oq Vm (Oq QbW (Oq Vm ?_))
   refine pF H hx48 fun h51 H=>?_
   refine JsF 56 h51 ?_
   have g52:=ne_of_beq_false h51
   refine Osk (Osk (Osk (Osk (Oq Vpf (Oq Vm (Osk (Osk (Osk (Osk ?_)))))))))
   refine Oq Vpf (KS ?_)
   refine Kf ?_
   refine Ke ?_
   have H:=llB H HL49
   refine KS ?_
   refine Oq Vm (Oq QbW (KS ?_))
   refine Kc ?_ ?_
   ·intro h53
    have g54:=eq_of_beq h53
    refine KS ?_
    refine Oq Vm ?_
    refine pC H hx15 fun hc55 H=>?_
    refine Oq QaS (Oq Vm ?_)
    refine pC H hx15 fun hc56 H=>?_
    refine Oq QaS (Oq Va (Oq Va (KS ?_)))
    refine Oq Vm (Oq Vm (Oq (VlS un9 (l:=text)) (Oq Qbh (Oq Vm ?_))))
    refine pT H hx15 fun h57 H=>?_
    refine JsT 82 h57 ?_
    have g58:=dt h57
    refine Oq Vm (Oq Vm ?_)
    refine pC H hx15 fun hc59 H=>?_
    refine Oq (Vix un9 (l:=text)) ?_
    have hb60:=u8b (text.b.getD ((i_7 + 1):Int).toNat 0)
    refine Oq QbW (Oq Vpt (Oq Vm ?_))
    refine pF H hx15 fun h61 H=>?_
    refine JsF 88 h61 ?_
    have g62:=ne_of_beq_false h61
    refine Osk (Osk (Oq Vpf (KS ?_)))
    refine Kf (KS ?_)
    exact Kg (r3,(QbM ++ [(Qbb.mk 3 (Str.mk []) 1 QcT)]),(QcT + 1),false,(i_7 + 1),a40,k41) [0] ⟨H,aM1,aM1⟩
   intro h53
   exact absurd h53 (by first | (simp [h31]; done) | (simp only [bne,h31]; decide) | (simp only [bne,h31,Bool.not_true,Bool.not_false]; decide) | (exfalso; omega) | (intro hq; simp only [bne,hq,Bool.not_false,Bool.not_true,reduceCtorEq] at h31))
  intro h31 H
  have g63:=ne_of_beq_false h31
  refine Oq Vm (Oq QbW (Oq Vpf (Oq Va (KS ?_))))
  refine pF H hx15 fun h64 H=>?_
  refine KcF h64 ?_
  have g65:=ne_of_beq_false h64
  refine KS ?_
  refine Oq Vm (Oq QbW (Oq Va (KS ?_)))
  refine KcH H ?_ ?_
  ·intro h66 H
   have g67:=eq_of_beq h66
   refine KS ?_
   refine Oq Vm (Oq Vm (Oq Vm (Oq (Vbd Qq4 [vi 2,.string (bs (Str.mk [61])),vi 1,vi QcT]) (Oa (AsV QeM Ql1 [.agg #[vi 2,.string (bs (Str.mk [61])),vi 1,vi QcT]] [vi 2,.string (bs (Str.mk [61])),vi 1,vi QcT]) fun c68=>?_))))
   refine Jo 0 ?_; rintro a69 k70 rfl
   refine Jl [0] (Ent.cr1 (α:=Qbb) (A:=[]) _ (Qbb.mk 2 (Str.mk [61]) 1 QcT) _ aB1 (fun h=>⟨rfl,aL1,aS1,aL1,aL1⟩)) ?_
   refine pC H hx15 fun hc71 H=>?_
   refine Oa (ApO [1,0] QeM QeM Ql1) fun c72=>?_
   refine Jo 0 ?_; rintro a73 k74 rfl
   refine Fb 40 0 fun _=>?_
   have hn76:=la QbM ([(Qbb.mk 2 (Str.mk [61]) 1 QcT)]:List Qbb)
   refine Oq Va (KS ?_)
   refine Oq Vm ?_
   refine pC H hx15 fun hc77 H=>?_
   refine Oq QaS (Oq Vm ?_)
   refine pC H hx15 fun hc78 H=>?_
   refine Oq QaS (Oq Va (Oq Va (Oq Va (KS ?_))))
   exact Kg (r3,(QbM ++ [(Qbb.mk 2 (Str.mk [61]) 1 QcT)]),(QcT + 1),true,(i_7 + 1),a73,k74) [0] ⟨H,aM1,aM1⟩
  intro h66 H
  have g79:=ne_of_beq_false h66
  refine KS ?_
  refine Oq Vm ?_
  refine lbH H hx15 fun rv80 hg81 H=>?_
  have hc82:=QrU (((text.b.getD i_7.toNat 0).toNat:Int)) pre rv80 hg81
  refine Oc [] Qsj hc82 ?_
  rintro - -
  refine Oq Vm ?_
  refine pT H hx15 fun h83 H=>?_
  refine JsT 112 h83 ?_
  refine Osk (Osk (Oq Vpt (Oq Va (KS ?_))))
  refine Kt (KS ?_)
  refine Oq Va (KS ?_)
  refine llH H hx15 fun X89 hX90 hx91 HL92=>?_
  refine Kl (γ:=Nat × Int) (fun (r85,QjX)=>⟨[(0,.string (bs text)),(6,vl a8 k9 QbM),(7,vi 1),(8,vi QcT),(10,vi i_7),(11,.int .u8 ((text.b.getD i_7.toNat 0).toNat:Int)),(12,vi QjX)],[O a8 k9 QbM],QiB text i_7 r85 QjX = X89 /\ (-9223372036854775808 <= QjX /\ QjX <= 9223372036854775807),r85⟩) (100000,0) [0] ⟨hX90,aM1⟩ ?_
  rintro ⟨r85,QjX⟩ ⟨hM87,hk88⟩
  refine QaA fun _ _ hL hA=>?_; dsimp only at hL hA; subst hL hA
  refine Fb 40 0 fun _=>?_
  rcases r85 with _ | r85
  ·exact absurd (hM87.symm.trans rfl) hx91
  have H:=hM87; (try dsimp only at H); rw [QiB] at H
  refine KS ?_
  refine Oq Vm (Oq Vm ?_)
  refine pC H hx91 fun hc94 H=>?_
  refine Oq QaS (Oq Vm (Oq (VlS un9 (l:=text)) (Oq Qbh (Oq Vm ?_))))
  refine JsH 122 H ?_ ?_
  ·intro h95 H
   have g96:=dt h95
   refine Oq Vm (Oq Vm (Oq Vm (Oq QaS ?_)))
   refine pC H hx91 fun hc97 H=>?_
   refine pC H hx91 fun hc98 H=>?_
   refine Oq (Vix un9 (l:=text)) ?_
   have hb99:=u8b (text.b.getD ((i_7 + QjX):Int).toNat 0)
   refine lbH H hx91 fun rv100 hg101 H=>?_
   have hc102:=QrU (((text.b.getD ((i_7 + QjX):Int).toNat 0).toNat:Int)) pre rv100 hg101
   refine Oc [] Qsj hc102 ?_
   rintro - -
   refine Oq Vm ?_
   refine JsH 129 H ?_ ?_
   ·intro h103 H
    refine Osk (Osk (Osk (Osk (Osk (Osk (Oq Vpt (Oq Vpt (KS ?_))))))))
    refine Kt (KS ?_)
    refine Oq Vm ?_
    refine pC H hx91 fun hc105 H=>?_
    refine Oq QaS (Oq Va (KS ?_))
    exact Kg (r85,(QjX + 1)) [0] ⟨H,aM1⟩
   intro h103 H
   refine Oq Vm (Oq Vm (Oq Vm (Oq QaS (Oq (Vix un9 (l:=text)) ?_))))
   have hb107:=u8b (text.b.getD ((i_7 + QjX):Int).toNat 0)
   refine pC H hx91 fun hc110 H=>?_
   refine pC H hx91 fun hc111 H=>?_
   refine lbH H hx91 fun rv108 hg109 H=>?_
   have hc112:=QtK (((text.b.getD ((i_7 + QjX):Int).toNat 0).toNat:Int)) pre rv108 hg109
   refine Oc [] Quj hc112 ?_
   rintro - -
   refine Oq Vpf (Oq Vpt (KS ?_))
   refine pF H hx91 fun h113 H=>?_
   refine KcF h113 ?_
   refine Ke ?_
   have H:=llB H HL92
   refine KS ?_
   refine Oq Vm ?_
   refine lbH H hx15 fun rv115 hg116 H=>?_
   have hc117:=QtK (((text.b.getD i_7.toNat 0).toNat:Int)) pre rv115 hg116
   refine Oc [] Quj hc117 ?_
   rintro - -
   refine KS ?_
   refine pF H hx15 fun h118 H=>?_
   refine KcF h118 ?_
   refine KS ?_
   refine Oq Vm (Oq Qgr (KS ?_))
   refine pF H hx15 fun h120 H=>?_
   refine KcF h120 ?_
   have g121:=df h120
   refine KS ?_
   refine Oq Vm (Oq Vm (Oq Vm (Oq Vm (Oq Vm (Oq QaS ?_)))))
   refine pC H hx15 fun hc122 H=>?_
   refine pC H hx15 fun hc123 H=>?_
   refine Oq (Qy9 un9 (l:=text)) ?_
   have hb124:=QpD text i_7.toNat ((i_7 + QjX):Int).toNat
   refine Oq Vm (Oq Vm (Oq (Vbd Qq4 [vi 1,.string (bs (text.sub i_7.toNat ((i_7 + QjX):Int).toNat)),vi 1,vi QcT]) (Oa (AsV QeM Ql1 [.agg #[vi 1,.string (bs (text.sub i_7.toNat ((i_7 + QjX):Int).toNat)),vi 1,vi QcT]] [vi 1,.string (bs (text.sub i_7.toNat ((i_7 + QjX):Int).toNat)),vi 1,vi QcT]) fun c125=>?_)))
   refine Jo 0 ?_; rintro a126 k127 rfl
   refine Jl [0] (Ent.cr1 (α:=Qbb) (A:=[]) _ (Qbb.mk 1 (text.sub i_7.toNat ((i_7 + QjX):Int).toNat) 1 QcT) _ aB1 (fun h=>⟨rfl,aL1,aS1,aL1,aL1⟩)) ?_
   refine pC H hx15 fun hc128 H=>?_
   refine Oa (ApO [1,0] QeM QeM Ql1) fun c129=>?_
   refine Jo 0 ?_; rintro a130 k131 rfl
   refine Fb 40 0 fun _=>?_
   have hn133:=la QbM ([(Qbb.mk 1 (text.sub i_7.toNat ((i_7 + QjX):Int).toNat) 1 QcT)]:List Qbb)
   refine Oq Va (KS ?_)
   refine Oq Vm (Oq Vm (Oq QaS (Oq Vm (Oq Vm ?_))))
   refine pC H hx15 fun hc134 H=>?_
   refine pC H hx15 fun hc135 H=>?_
   refine Oq QaS (Oq Va (Oq Va (Oq Va (KS ?_))))
   exact Kg (r3,(QbM ++ [(Qbb.mk 1 (text.sub i_7.toNat ((i_7 + QjX):Int).toNat) 1 QcT)]),(QcT + QjX),true,(i_7 + QjX),a130,k131) [0] ⟨H,aM1,aM1⟩
  intro h95 H
  have g136:=df h95
  refine Osk (Osk (Osk (Osk (Osk (Osk (Osk (Osk (Osk (Osk ?_)))))))))
  refine Osk (Osk (Osk (Osk (Oq Vpf (KS ?_)))))
  refine Kf ?_
  refine Ke ?_
  have H:=llB H HL92
  refine KS ?_
  refine Oq Vm ?_
  refine lbH H hx15 fun rv137 hg138 H=>?_
  have hc139:=QtK (((text.b.getD i_7.toNat 0).toNat:Int)) pre rv137 hg138
  refine Oc [] Quj hc139 ?_
  rintro - -
  refine KS ?_
  refine pF H hx15 fun h140 H=>?_
  refine KcF h140 ?_
  refine KS ?_
  refine Oq Vm (Oq Qgr (KS ?_))
  refine pF H hx15 fun h142 H=>?_
  refine KcF h142 ?_
  have g143:=df h142
  refine KS ?_
  refine Oq Vm (Oq Vm (Oq Vm (Oq Vm (Oq Vm (Oq QaS ?_)))))
  refine pC H hx15 fun hc144 H=>?_
  refine pC H hx15 fun hc145 H=>?_
  refine Oq (Qy9 un9 (l:=text)) ?_
  have hb146:=QpD text i_7.toNat ((i_7 + QjX):Int).toNat
  refine Oq Vm (Oq Vm (Oq (Vbd Qq4 [vi 1,.string (bs (text.sub i_7.toNat ((i_7 + QjX):Int).toNat)),vi 1,vi QcT]) (Oa (AsV QeM Ql1 [.agg #[vi 1,.string (bs (text.sub i_7.toNat ((i_7 + QjX):Int).toNat)),vi 1,vi QcT]] [vi 1,.string (bs (text.sub i_7.toNat ((i_7 + QjX):Int).toNat)),vi 1,vi QcT]) fun c147=>?_)))
  refine Jo 0 ?_; rintro a148 k149 rfl
  refine Jl [0] (Ent.cr1 (α:=Qbb) (A:=[]) _ (Qbb.mk 1 (text.sub i_7.toNat ((i_7 + QjX):Int).toNat) 1 QcT) _ aB1 (fun h=>⟨rfl,aL1,aS1,aL1,aL1⟩)) ?_
  refine pC H hx15 fun hc150 H=>?_
  refine Oa (ApO [1,0] QeM QeM Ql1) fun c151=>?_
  refine Jo 0 ?_; rintro a152 k153 rfl
  refine Fb 40 0 fun _=>?_
  have hn155:=la QbM ([(Qbb.mk 1 (text.sub i_7.toNat ((i_7 + QjX):Int).toNat) 1 QcT)]:List Qbb)
  refine Oq Va (KS ?_)
  refine Oq Vm (Oq Vm (Oq QaS (Oq Vm (Oq Vm ?_))))
  refine pC H hx15 fun hc156 H=>?_
  refine pC H hx15 fun hc157 H=>?_
  refine Oq QaS (Oq Va (Oq Va (Oq Va (KS ?_))))
  exact Kg (r3,(QbM ++ [(Qbb.mk 1 (text.sub i_7.toNat ((i_7 + QjX):Int).toNat) 1 QcT)]),(QcT + QjX),true,(i_7 + QjX),a152,k153) [0] ⟨H,aM1,aM1⟩
 intro h18 H
 have g158:=df h18
 refine Ke ?_
 have H:=llB H HL16
 dsimp only at H
 refine KS ?_
 refine Oq Vm (KS ?_)
 refine pT H hx0 fun h159 H=>?_
 refine KcT h159 ?_
 refine KS ?_
 refine Oq Vm (Oq Vm (Oq Vm (Oq (Vbd Qq4 [vi 3,.string (bs (Str.mk [])),vi 1,vi QcT]) (Oa (AsV QeM Ql1 [.agg #[vi 3,.string (bs (Str.mk [])),vi 1,vi QcT]] [vi 3,.string (bs (Str.mk [])),vi 1,vi QcT]) fun c161=>?_))))
 refine Jo 0 ?_; rintro a162 k163 rfl
 refine Jl [0] (Ent.cr1 (α:=Qbb) (A:=[]) _ (Qbb.mk 3 (Str.mk []) 1 QcT) _ aB1 (fun h=>⟨rfl,aL1,aS1,aL1,aL1⟩)) ?_
 refine pC H hx0 fun hc164 H=>?_
 refine Oa (ApO [1,0] QeM QeM Ql1) fun c165=>?_
 refine Jo 0 ?_; rintro a166 k167 rfl
 refine Fb 40 0 fun _=>?_
 have hn169:=la QbM ([(Qbb.mk 3 (Str.mk []) 1 QcT)]:List Qbb)
 refine Oq Va (KS ?_)
 refine Oq Vm (Oq Va (Oq Va (Oq Va (Oq Va (KS ?_)))))
 refine Jl [0] (Ent.freeze _ _) ?_
 have hq:=rI H; subst hq
 exact Kr (vl a166 k167 (QbM ++ [(Qbb.mk 3 (Str.mk []) 1 QcT)])) rfl (.tmp rfl (.tmp rfl (.tmp rfl (.tmp rfl .nil)))) [0] en
theorem QuL (pP:Value) (p:Qag) (pa0:Option Addr) (pk0:Nat) (word:Str) (QlN:Qaa p.at_) (QlO:Qaa p.Err) (QyX:word.b.length <= 140737488355328) (rr:Bool) (hrr:Qod p word = .ret rr):FT Tryz.prog 85 #[pP,.string (bs word)] [Cl pP [vl pa0 pk0 p.l,vi p.at_,vi p.Err],S pa0 pk0 p.l] (fun g:Unit=>True) (fun g=>vb rr) (fun g=>[Cl pP [vl pa0 pk0 p.l,vi p.at_,vi p.Err]]):=by
 refine FTi Tryz.func85 fun w0 M0 F0=>?_
 unfold Qaa at QlN QlO
 refine Fb 40 1 fun _=>?_
 have hx0:=lrn rr; have H:=hrr; unfold Qod at H
 refine KS ?_
 refine Oq Va (KS ?_)
 refine Jp 0 fun hp2=>?_
 refine pT H hx0 fun h3 H=>?_
 have g4:=eq_of_beq h3
 refine pS H ?_ ?_
 ·intro h5 H
  have g6:=dt h5
  refine pC H hx0 fun hc7 H=>?_
  refine Qd4 p.at_.toNat 2 rfl rng fun hb8 hb9 hb10 hb11=>?_
  unfold Qaa at hb8 hb10 hb11
  refine Kq [0,1,3,7,15,31,63,127,255,511,63,1087,3135,7231,15423,32767,65535,131071,262143,524287,1048575,2097151,262143,4456447,12845055,29622271,67108863,134217727,268435455,536870911,1073741823,2147483647,4294967295,8589934591,17179869183,34359738367,4294967295,73014444031,210453397503,485331304447,1099511627775,2199023255551,4398046511103,4294967295,17592186044415,35184372088831,70368744177663] Qco ?_
  refine Qv [] Vm (Qv [1] (Vn 0) (Qv [1] (Vfa QjY 0) (Qv [2] (Qah QuO 0) (Qb h3 [] QbW (Qv [] Vm (Qv [] Vm (Qv [1] (Vn 0) (Qv [1] (Vfa Qcg 0) (Qv [2] (Qah sh3 0) ?_)))))))))
  refine Qv [] Vm (Qv [1] (Vn 0) (Qv [1] (Vfa QfS 0) (Qv [2] (Qah Qlt 0) (Qv [] (Qba QeM) (Qb h5 [] Qbh (Qv [] Vpt (Qv [] Vm (Qv [] Vm (Qv [1] (Vn 0) ?_)))))))))
  refine Qv [1] (Vfa QfS 0) (Qv [2] (Qah Qlt 0) (Qv [] Vm (Qv [1] (Vn 0) (Qv [1] (Vfa Qcg 0) (Qv [2] (Qah sh3 0) (Qv [3] (Vi QeM 0) (Qv [0] (Vfa Qo1 0) (Qv [0] (Qah sh3 0) (Qv [] QbW ?_)))))))))
  refine Qv [] Vpt ?_
  refine pC H hx0 fun hc13 H=>?_
  refine pT H hx0 fun h12 H=>?_
  have g14:=eq_of_beq h12
  refine Qb h12 [] Vm (Qv [] Vm (Qv [1] (Vn 0) (Qv [1] (Vfa QfS 0) (Qv [2] (Qah Qlt 0) (Qv [] Vm (Qv [1] (Vn 0) (Qv [1] (Vfa Qcg 0) (Qv [2] (Qah sh3 0) (Qv [3] (Vi QeM 0) ?_)))))))))
  refine Qv [0] (Vfa Qno 0) (Qv [0] (Qah sh9 0) (Qv [] Vm (Qv [] (Ql5 (l:=(p.l.getD p.at_.toNat default).Text) (m:=word)) (Qv [] Vpt (Qv [] Va ?_)))))
  refine Qn ⟨by kernel_rfl,?_⟩
  refine pC H hx0 fun hc15 H=>?_
  have hq:=rI H; subst hq
  exact Kr () rfl (.tmp rfl .nil) [2] trivial
 intro h5 H
 have g16:=df h5
 refine Kq [0,1,3,7,15,31,63,127,255,511,63,1087,3135,7231,15423,32767,65535,131071,262143,524287,1048575,2097151,262143,4456447,12845055,29622271,67108863,134217727,268435455,536870911,1073741823,2147483647,4294967295,8589934591,17179869183,34359738367,4294967295,73014444031,210453397503,485331304447,1099511627775,2199023255551,4398046511103,4294967295,17592186044415,35184372088831,70368744177663] Qco ?_
 refine Qv [] Vm (Qv [0] (Vn 0) (Qv [0] (Vfa QjY 0) (Qv [1] (Qah QuO 0) (Qb h3 [] QbW (Qv [] Vm (Qv [] Vm (Qv [0] (Vn 0) (Qv [0] (Vfa Qcg 0) (Qv [1] (Qah sh3 0) ?_)))))))))
 refine Qv [] Vm (Qv [0] (Vn 0) (Qv [0] (Vfa QfS 0) (Qv [1] (Qah Qlt 0) (Qv [] (Qba QeM) (Qb h5 [] Qbh (Qv [] Vpt (Qv [] Vm (Qs (Qs ?_)))))))))
 refine Qs (Qs (Qs (Qs (Qs (Qs (Qs (Qs (Qs (Qs ?_)))))))))
 refine Qv [] Vpf (Qv [] Vm (Qs (Qs (Qs (Qs (Qs (Qs (Qs (Qs ?_)))))))))
 refine Qs (Qs (Qs (Qs (Qs (Qv [] Vpf (Qv [] Va ?_))))))
 refine Qn ⟨by kernel_rfl,?_⟩
 have hq:=rI H; subst hq
 exact Kr () rfl (.tmp rfl .nil) [1] trivial
theorem QtH (pP:Value) (p:Qag) (pa0:Option Addr) (pk0:Nat) (w:Str) (QlN:Qaa p.at_) (QlO:Qaa p.Err) (QBZ:w.b.length <= 140737488355328) (rr:Qag) (hrr:QlG p w = .ret rr):FT Tryz.prog 121 #[pP,.string (bs w)] [Cl pP [vl pa0 pk0 p.l,vi p.at_,vi p.Err],S pa0 pk0 p.l] (fun g:Unit=>Qaa rr.at_ /\ Qaa rr.Err) (fun g=>.tuple #[]) (fun g=>[Cl pP [vl pa0 pk0 p.l,vi rr.at_,vi rr.Err]]):=by
 refine FTi Tryz.func121 fun w0 M0 F0=>?_
 unfold Qaa at QlN QlO
 refine Fb 40 1 fun _=>?_
 have hx0:=lrn rr; have H:=hrr; unfold QlG at H
 refine KS ?_
 refine Oq Vm (Oq Vm ?_)
 refine lbH H hx0 fun rv2 hg3 H=>?_
 have hc4:=QuL pP p pa0 pk0 w pre pre pre rv2 hg3
 refine Oc [0,0] QuN hc4 ?_
 rintro - -
 refine Oq Qcy (KS ?_)
 refine pF H hx0 fun h5 H=>?_
 refine KcF h5 ?_
 have h7:=not_false h5
 refine KS ?_
 refine Oq Vm (Oq (Vn 0) (Oq (Vfa Qcg 0) (Oq (Qah sh3 0) ?_)))
 refine pC H hx0 fun hc9 H=>?_
 refine Oq QaS (Oq (Vn 0) (Oq (Vfa Qcg 0) (Ost (QiP [0] sh3 [vl pa0 pk0 p.l,vi (p.at_ + 1),vi p.Err]) (KS ?_))))
 have hq:=rI H; subst hq
 exact Kz () rfl .nil [0] en
theorem QyQ  (rr:List Str) (hrr:Qi1 = .ret rr):FT Tryz.prog 182 #[] [] (fun g:Value=>True) (fun g=>g) (fun g=>[sl g rr]):=by
 refine FTi Tryz.func182 fun w0 M0 F0=>?_
 have hx0:=lrn rr; have H:=hrr; unfold Qi1 at H
 refine KS ?_
 refine Oq Va (KS ?_)
 refine Oa (AsV Qcb QhZ [.string (bs (Str.mk [102,117,110,99])),.string (bs (Str.mk [98,108,111,99,107])),.string (bs (Str.mk [101,110,100])),.string (bs (Str.mk [117,115,101])),.string (bs (Str.mk [99,97,108,108])),.string (bs (Str.mk [115,111,117,114,99,101])),.string (bs (Str.mk [115,105,110,107])),.string (bs (Str.mk [115,97,110,105,116,105,122,101])),.string (bs (Str.mk [103,111,116,111])),.string (bs (Str.mk [98,114,97,110,99,104])),.string (bs (Str.mk [114,101,116,117,114,110]))] [.string (bs (Str.mk [102,117,110,99])),.string (bs (Str.mk [98,108,111,99,107])),.string (bs (Str.mk [101,110,100])),.string (bs (Str.mk [117,115,101])),.string (bs (Str.mk [99,97,108,108])),.string (bs (Str.mk [115,111,117,114,99,101])),.string (bs (Str.mk [115,105,110,107])),.string (bs (Str.mk [115,97,110,105,116,105,122,101])),.string (bs (Str.mk [103,111,116,111])),.string (bs (Str.mk [98,114,97,110,99,104])),.string (bs (Str.mk [114,101,116,117,114,110]))]) fun c1=>?_
 refine Jo 0 ?_; rintro a2 k3 rfl
 refine Oq Va (KS ?_)
 refine Jl [0] (Ent.crOs (α:=Str) (A:=[]) _ ([(Str.mk [102,117,110,99]),(Str.mk [98,108,111,99,107]),(Str.mk [101,110,100]),(Str.mk [117,115,101]),(Str.mk [99,97,108,108]),(Str.mk [115,111,117,114,99,101]),(Str.mk [115,105,110,107]),(Str.mk [115,97,110,105,116,105,122,101]),(Str.mk [103,111,116,111]),(Str.mk [98,114,97,110,99,104]),(Str.mk [114,101,116,117,114,110])]:List Str) _ aB1 (fun h=>⟨[.string (bs (Str.mk [102,117,110,99]))],[.string (bs (Str.mk [98,108,111,99,107])),.string (bs (Str.mk [101,110,100])),.string (bs (Str.mk [117,115,101])),.string (bs (Str.mk [99,97,108,108])),.string (bs (Str.mk [115,111,117,114,99,101])),.string (bs (Str.mk [115,105,110,107])),.string (bs (Str.mk [115,97,110,105,116,105,122,101])),.string (bs (Str.mk [103,111,116,111])),.string (bs (Str.mk [98,114,97,110,99,104])),.string (bs (Str.mk [114,101,116,117,114,110]))],rfl,(fun _=>⟨rfl,by first | omega | (simp; done) | (dsimp only; omega) | exact Qej rfl⟩) h,⟨[.string (bs (Str.mk [98,108,111,99,107]))],[.string (bs (Str.mk [101,110,100])),.string (bs (Str.mk [117,115,101])),.string (bs (Str.mk [99,97,108,108])),.string (bs (Str.mk [115,111,117,114,99,101])),.string (bs (Str.mk [115,105,110,107])),.string (bs (Str.mk [115,97,110,105,116,105,122,101])),.string (bs (Str.mk [103,111,116,111])),.string (bs (Str.mk [98,114,97,110,99,104])),.string (bs (Str.mk [114,101,116,117,114,110]))],rfl,(fun _=>⟨rfl,by first | omega | (simp; done) | (dsimp only; omega) | exact Qej rfl⟩) h,⟨[.string (bs (Str.mk [101,110,100]))],[.string (bs (Str.mk [117,115,101])),.string (bs (Str.mk [99,97,108,108])),.string (bs (Str.mk [115,111,117,114,99,101])),.string (bs (Str.mk [115,105,110,107])),.string (bs (Str.mk [115,97,110,105,116,105,122,101])),.string (bs (Str.mk [103,111,116,111])),.string (bs (Str.mk [98,114,97,110,99,104])),.string (bs (Str.mk [114,101,116,117,114,110]))],rfl,(fun _=>⟨rfl,by first | omega | (simp; done) | (dsimp only; omega) | exact Qej rfl⟩) h,⟨[.string (bs (Str.mk [117,115,101]))],[.string (bs (Str.mk [99,97,108,108])),.string (bs (Str.mk [115,111,117,114,99,101])),.string (bs (Str.mk [115,105,110,107])),.string (bs (Str.mk [115,97,110,105,116,105,122,101])),.string (bs (Str.mk [103,111,116,111])),.string (bs (Str.mk [98,114,97,110,99,104])),.string (bs (Str.mk [114,101,116,117,114,110]))],rfl,(fun _=>⟨rfl,by first | omega | (simp; done) | (dsimp only; omega) | exact Qej rfl⟩) h,⟨[.string (bs (Str.mk [99,97,108,108]))],[.string (bs (Str.mk [115,111,117,114,99,101])),.string (bs (Str.mk [115,105,110,107])),.string (bs (Str.mk [115,97,110,105,116,105,122,101])),.string (bs (Str.mk [103,111,116,111])),.string (bs (Str.mk [98,114,97,110,99,104])),.string (bs (Str.mk [114,101,116,117,114,110]))],rfl,(fun _=>⟨rfl,by first | omega | (simp; done) | (dsimp only; omega) | exact Qej rfl⟩) h,⟨[.string (bs (Str.mk [115,111,117,114,99,101]))],[.string (bs (Str.mk [115,105,110,107])),.string (bs (Str.mk [115,97,110,105,116,105,122,101])),.string (bs (Str.mk [103,111,116,111])),.string (bs (Str.mk [98,114,97,110,99,104])),.string (bs (Str.mk [114,101,116,117,114,110]))],rfl,(fun _=>⟨rfl,by first | omega | (simp; done) | (dsimp only; omega) | exact Qej rfl⟩) h,⟨[.string (bs (Str.mk [115,105,110,107]))],[.string (bs (Str.mk [115,97,110,105,116,105,122,101])),.string (bs (Str.mk [103,111,116,111])),.string (bs (Str.mk [98,114,97,110,99,104])),.string (bs (Str.mk [114,101,116,117,114,110]))],rfl,(fun _=>⟨rfl,by first | omega | (simp; done) | (dsimp only; omega) | exact Qej rfl⟩) h,⟨[.string (bs (Str.mk [115,97,110,105,116,105,122,101]))],[.string (bs (Str.mk [103,111,116,111])),.string (bs (Str.mk [98,114,97,110,99,104])),.string (bs (Str.mk [114,101,116,117,114,110]))],rfl,(fun _=>⟨rfl,by first | omega | (simp; done) | (dsimp only; omega) | exact Qej rfl⟩) h,⟨[.string (bs (Str.mk [103,111,116,111]))],[.string (bs (Str.mk [98,114,97,110,99,104])),.string (bs (Str.mk [114,101,116,117,114,110]))],rfl,(fun _=>⟨rfl,by first | omega | (simp; done) | (dsimp only; omega) | exact Qej rfl⟩) h,⟨[.string (bs (Str.mk [98,114,97,110,99,104]))],[.string (bs (Str.mk [114,101,116,117,114,110]))],rfl,(fun _=>⟨rfl,by first | omega | (simp; done) | (dsimp only; omega) | exact Qej rfl⟩) h,⟨[.string (bs (Str.mk [114,101,116,117,114,110]))],[],rfl,(fun _=>⟨rfl,by first | omega | (simp; done) | (dsimp only; omega) | exact Qej rfl⟩) h,rfl⟩⟩⟩⟩⟩⟩⟩⟩⟩⟩⟩)) ?_
 refine Jl [0] (Ent.freeze _ _) ?_
 have hq:=rI H; subst hq
 exact Kr (.slice a2 11 k3) rfl (.tmp rfl .nil) [0] trivial
theorem Qru (s:Str) (Qcc:s.b.length <= 140737488355328) (rr:Bool) (hrr:QfV s = .ret rr):FT Tryz.prog 176 #[.string (bs s)] [] (fun g:Unit=>True) (fun g=>vb rr) (fun g=>[]):=by
 refine FTi Tryz.func176 fun w0 M0 F0=>?_
 have hx0:=lrn rr; have H:=hrr; unfold QfV at H
 refine KS ?_
 refine Oq Va (KS ?_)
 refine Oq Vm (Oq (VlS un9 (l:=s)) (Oq QbW (Oq Vm ?_)))
 refine JsH 9 H ?_ ?_
 ·intro h1 H
  have g2:=eq_of_beq h1
  refine Osk (Osk (Osk (Oq Vpt (Oq Vm (Osk (Osk (Osk (Osk (Oq Vpt ?_)))))))))
  refine Oq Vm (Osk (Osk (Osk (Oq Vpt (KS ?_)))))
  refine Kt (KS ?_)
  refine Oq Va (KS ?_)
  have hq:=rI H; subst hq
  exact Kr () rfl (.tmp rfl .nil) [] trivial
 intro h1 H
 have g3:=ne_of_beq_false h1
 refine Oq Vm (Oq (VlS un9 (l:=s)) (Oq Qgr (Oq Vpf (Oq Vm ?_))))
 refine pF H hx0 fun h4 H=>?_
 refine JsF 14 h4 ?_
 have g5:=df h4
 refine Oq Vm ?_
 refine pC H hx0 fun hc6 H=>?_
 refine Oq (Vix un9 (l:=s)) ?_
 have hb7:=u8b (s.b.getD (0:Int).toNat 0)
 refine lbH H hx0 fun rv8 hg9 H=>?_
 have hc10:=QrU (((s.b.getD (0:Int).toNat 0).toNat:Int)) pre rv8 hg9
 refine Oc [] Qsj hc10 ?_
 rintro - -
 refine Oq Qcy (Oq Vpf (Oq Vm ?_))
 refine pF H hx0 fun h11 H=>?_
 refine JsF 20 h11 ?_
 have h13:=not_false h11
 refine Oq Vm (Oq (Vix un9 (l:=s)) ?_)
 have hb15:=u8b (s.b.getD (0:Int).toNat 0)
 refine Oq QbW (Oq Vpf (KS ?_))
 refine pC H hx0 fun hc17 H=>?_
 refine pF H hx0 fun h16 H=>?_
 refine KcF h16 ?_
 have g18:=ne_of_beq_false h16
 refine KS ?_
 refine Oq Va (KS ?_)
 refine llH H hx0 fun X26 hX27 hx28 HL29=>?_
 refine Kl (γ:=Nat × Int) (fun (r19,Qry)=>⟨[(0,.string (bs s)),(3,vi Qry)],[],Qe8 s r19 Qry = X26 /\ r19 = ((s.b.length:Int) - Qry).toNat /\ (0:Int) <= Qry /\ Qry <= (s.b.length:Int) /\ (-9223372036854775808 <= Qry /\ Qry <= 9223372036854775807),r19⟩) (((s.b.length:Int) - 0).toNat,0) [] ⟨hX27,rfl,aM1,aM1,aM1⟩ ?_
 rintro ⟨r19,Qry⟩ ⟨hM21,hr22,hi23,hi24,hk25⟩
 refine QaA fun _ _ hL hA=>?_; dsimp only at hL hA; subst hL hA
 refine KS ?_
 refine Oq Vm (Oq Vm (Oq (VlS un9 (l:=s)) (Oq Qbh (KS ?_))))
 refine Kc ?_ ?_
 ·intro h30
  have g31:=dt h30
  obtain ⟨r32,rfl⟩:=scc (n:=r19) aM1
  have H:=hM21; (try dsimp only at H); rw [Qe8] at H
  refine KS ?_
  refine Oq Vm (Oq Vm ?_)
  refine pC H hx28 fun hc33 H=>?_
  refine Oq (Vix un9 (l:=s)) ?_
  have hb34:=u8b (s.b.getD Qry.toNat 0)
  refine lbH H hx28 fun rv35 hg36 H=>?_
  have hc37:=QrU (((s.b.getD Qry.toNat 0).toNat:Int)) pre rv35 hg36
  refine Oc [] Qsj hc37 ?_
  rintro - -
  refine Oq Qcy (Oq Vm ?_)
  refine pF H hx28 fun h38 H=>?_
  refine JsF 36 h38 ?_
  have h40:=not_false h38
  refine Osk (Osk (Osk (Osk (Osk (Oq Vpf (KS ?_))))))
  refine Kf (KS ?_)
  refine Oq Vm (Oq QaS (Oq Va (KS ?_)))
  refine pC H hx28 fun hc42 H=>?_
  exact Kg (r32,(Qry + 1)) [] ⟨H,aM1,aM1,aM1,aM1⟩
 intro h30
 have g43:=df h30
 obtain rfl:r19 = 0:=by omega
 have H:=hM21; (try dsimp only at H); rw [Qe8] at H
 refine Ke ?_
 have H:=llB H HL29
 refine KS ?_
 refine lbH H hx0 fun rv45 hg46 H=>?_
 have hc47:=QyQ  rv45 hg46
 refine Oc [] Qxj hc47 ?_
 rintro c44 -
 refine Jo 0 ?_; rintro a48 k49 rfl
 refine Fb 16 0 fun _=>?_
 refine FoS 0 fun ho51=>?_
 refine Oq Va (KS ?_)
 refine Oq Va (KS ?_)
 refine llH H hx0 fun X59 hX60 hx61 HL62=>?_
 refine Kl (γ:=Nat × Int) (fun (r52,Qrz)=>⟨[(0,.string (bs s)),(4,vl a48 k49 rv45),(5,vi Qrz)],[S a48 k49 rv45],Qff s rv45 r52 Qrz = X59 /\ r52 = ((rv45.length:Int) - Qrz).toNat /\ (0:Int) <= Qrz /\ Qrz <= (rv45.length:Int) /\ (-9223372036854775808 <= Qrz /\ Qrz <= 9223372036854775807),r52⟩) (((rv45.length:Int) - 0).toNat,0) [0] ⟨hX60,rfl,aM1,aM1,aM1⟩ ?_
 rintro ⟨r52,Qrz⟩ ⟨hM54,hr55,hi56,hi57,hk58⟩
 refine QaA fun _ _ hL hA=>?_; dsimp only at hL hA; subst hL hA
 refine Fb 16 0 fun _=>?_
 refine FoS 0 fun ho64=>?_
 refine KS ?_
 refine Oq Vm (Oq Vm (Oq (Qba Qcb) (Oq Qbh (KS ?_))))
 refine Kc ?_ ?_
 ·intro h65
  have g66:=dt h65
  obtain ⟨r67,rfl⟩:=scc (n:=r52) aM1
  have H:=hM54; (try dsimp only at H); rw [Qff] at H
  refine KS ?_
  refine Oq Vm (Oq Vm ?_)
  refine pC H hx61 fun hc68 H=>?_
  refine Oq (Vi Qcb 0) ?_
  have hb69:=okS (i:=Qrz.toNat) ho64 rng
  refine Oq (Qsv sh9 0) (Oq Vm (Oq (Ql5 (l:=(rv45.getD Qrz.toNat default)) (m:=s)) (KS ?_)))
  refine KcH H ?_ ?_
  ·intro h70 H
   have g71:=eq_of_beq h70
   refine KS ?_
   refine Oq Va (KS ?_)
   have H:=llR H HL62
   have hq:=rI H; subst hq
   exact Kr () rfl (.tmp rfl .nil) [] trivial
  intro h70 H
  have g72:=ne_of_beq_false h70
  refine KS ?_
  refine Oq Vm (Oq QaS (Oq Va (KS ?_)))
  refine pC H hx61 fun hc73 H=>?_
  exact Kg (r67,(Qrz + 1)) [0] ⟨H,aM1,aM1,aM1,aM1⟩
 intro h65
 have g74:=df h65
 obtain rfl:r52 = 0:=by omega
 have H:=hM54; (try dsimp only at H); rw [Qff] at H
 refine Ke ?_
 have H:=llB H HL62
 refine KS ?_
 refine Oq Va (KS ?_)
 have hq:=rI H; subst hq
 exact Kr () rfl (.tmp rfl .nil) [] trivial
theorem QqB (pP:Value) (p:Qag) (pa0:Option Addr) (pk0:Nat) (QlN:Qaa p.at_) (QlO:Qaa p.Err) (rr:Bool) (hrr:Qf4 p = .ret rr):FT Tryz.prog 154 #[pP] [Cl pP [vl pa0 pk0 p.l,vi p.at_,vi p.Err],S pa0 pk0 p.l] (fun g:Unit=>True) (fun g=>vb rr) (fun g=>[Cl pP [vl pa0 pk0 p.l,vi p.at_,vi p.Err]]):=by
 refine FTi Tryz.func154 fun w0 M0 F0=>?_
 unfold Qaa at QlN QlO
 refine Fb 40 1 fun _=>?_
 have hx0:=lrn rr; have H:=hrr; unfold Qf4 at H
 refine KS ?_
 refine Oq Va (KS ?_)
 refine Jp 0 fun hp2=>?_
 refine pT H hx0 fun h3 H=>?_
 have g4:=eq_of_beq h3
 refine pT H hx0 fun h5 H=>?_
 have g6:=dt h5
 refine pC H hx0 fun hc7 H=>?_
 refine Qd4 p.at_.toNat 2 rfl rng fun hb8 hb9 hb10 hb11=>?_
 unfold Qaa at hb8 hb10 hb11
 refine Qam [0,1,3,7,15,31,63,127,255,511,63,1087,3135,7231,15423,32767,65535,131071,262143,524287,1048575,2097151,262143,4456447,12845055,29622271,67108863,134217727,268435455,536870911,1073741823,2147483647,4294967295,8589934591,17179869183,34359738367,4294967295,73014444031,210453397503,485331304447,1099511627775,2199023255551,4398046511103,8796093022207,17592186044415,35184372088831] Qco ?_
 refine Dv [] Vm (Dv [1] (Vn 0) (Dv [1] (Vfa QjY 0) (Dv [2] (Qah QuO 0) (Db h3 [] QbW (Dv [] Vm (Dv [] Vm (Dv [1] (Vn 0) (Dv [1] (Vfa Qcg 0) (Dv [2] (Qah sh3 0) ?_)))))))))
 refine Dv [] Vm (Dv [1] (Vn 0) (Dv [1] (Vfa QfS 0) (Dv [2] (Qah Qlt 0) (Dv [] (Qba QeM) (Db h5 [] Qbh (Dv [] Vpt (Dv [] Vm (Dv [] Vm (Dv [1] (Vn 0) ?_)))))))))
 refine Dv [1] (Vfa QfS 0) (Dv [2] (Qah Qlt 0) (Dv [] Vm (Dv [1] (Vn 0) (Dv [1] (Vfa Qcg 0) (Dv [2] (Qah sh3 0) (Dv [3] (Vi QeM 0) (Dv [0] (Vfa Qo1 0) (Dv [0] (Qah sh3 0) (Dv [] QbW ?_)))))))))
 refine Dv [] Vpt ?_
 refine pC H hx0 fun hc13 H=>?_
 refine pS H ?_ ?_
 ·intro h12 H
  have g14:=eq_of_beq h12
  refine Db h12 [] Vm (Dv [] Vm (Dv [1] (Vn 0) (Dv [1] (Vfa QfS 0) (Dv [2] (Qah Qlt 0) (Dv [] Vm (Dv [1] (Vn 0) (Dv [1] (Vfa Qcg 0) (Dv [2] (Qah sh3 0) (Dv [3] (Vi QeM 0) ?_)))))))))
  refine Dv [0] (Vfa Qno 0) (Dv [0] (Qah sh9 0) ?_)
  refine pC H hx0 fun hc17 H=>?_
  refine lbH H hx0 fun rv15 hg16 H=>?_
  refine Dx [] [] [0] (fun G=>vb rv15) [fun G=>SP.fact (True)] (fun G=>xC [] Qq9 (Qru ((p.l.getD p.at_.toNat default).Text) pre rv15 hg16)) (Dv [] Vpt (Dv [] Va ?_))
  refine Dn ⟨by kernel_rfl,fun G=>?_⟩
  refine Jw2 [(2,vb rv15)] [0,1,2,3] [SP.fact (True)] ?_
  refine Jk [0,2,2] ?_
  have hq:=rI H; subst hq
  exact Kr () rfl (.tmp rfl .nil) [1] trivial
 intro h12 H
 have g18:=ne_of_beq_false h12
 refine Db h12 [] Vm (Ds (Ds (Ds (Ds (Ds (Ds (Ds (Ds (Ds ?_)))))))))
 refine Ds (Ds (Ds (Dv [] Vpf (Dv [] Va ?_))))
 refine Dn ⟨by kernel_rfl,fun G=>?_⟩
 refine Jw2 [(2,vb false)] [0,1,2,3] [] ?_
 refine Jk [0,2,2] ?_
 have hq:=rI H; subst hq
 exact Kr () rfl (.tmp rfl .nil) [1] trivial
theorem Qom (pP:Value) (p:Qag) (pa0:Option Addr) (pk0:Nat) (QlN:Qaa p.at_) (QlO:Qaa p.Err) (rr:Str × Qag) (hrr:Qhv p = .ret rr):FT Tryz.prog 122 #[pP] [Cl pP [vl pa0 pk0 p.l,vi p.at_,vi p.Err],S pa0 pk0 p.l] (fun g:Unit=>rr.1.b.length <= 140737488355328 /\ Qaa rr.2.at_ /\ Qaa rr.2.Err) (fun g=>.string (bs rr.1)) (fun g=>[Cl pP [vl pa0 pk0 p.l,vi rr.2.at_,vi rr.2.Err]]):=by
 refine FTi Tryz.func122 fun w0 M0 F0=>?_
 unfold Qaa at QlN QlO
 refine Fb 40 1 fun _=>?_
 have hx0:=lrn rr; have H:=hrr; unfold Qhv at H
 refine KS ?_
 refine Oq Va (KS ?_)
 refine Oq Vm ?_
 refine lbH H hx0 fun rv2 hg3 H=>?_
 have hc4:=QqB pP p pa0 pk0 pre pre rv2 hg3
 refine Oc [0,0] QqS hc4 ?_
 rintro - -
 refine Oq Qcy (KS ?_)
 refine pF H hx0 fun h5 H=>?_
 refine KcF h5 ?_
 have h7:=not_false h5
 refine KS ?_
 refine Oq Vm (Oq (Vn 0) (Oq (Vfa Qcg 0) (Oq (Qah sh3 0) ?_)))
 refine pC H hx0 fun hc9 H=>?_
 refine Oq QaS (Oq (Vn 0) (Oq (Vfa Qcg 0) (Ost (QiP [0] sh3 [vl pa0 pk0 p.l,vi (p.at_ + 1),vi p.Err]) (KS ?_))))
 refine Jp 0 fun hp10=>?_
 refine pC H hx0 fun hc11 H=>?_
 refine pC H hx0 fun hc12 H=>?_
 refine Qd4 (((p.at_ + 1) - 1):Int).toNat 2 rfl rng fun hb13 hb14 hb15 hb16=>?_
 unfold Qaa at hb13 hb15 hb16
 refine Kq [0,1,3,7,0,16,48,112,240,511,1023,2047,4095] Qco ?_
 refine Qv [] Vm (Qv [1] (Vn 0) (Qv [1] (Vfa QfS 0) (Qv [2] (Qah Qlt 0) (Qv [] Vm (Qv [1] (Vn 0) (Qv [1] (Vfa Qcg 0) (Qv [2] (Qah sh3 0) (Qv [] QjU (Qv [3] (Vi QeM 0) ?_)))))))))
 refine Qv [0] (Vfa Qno 0) (Qv [0] (Qah sh9 0) (Qv [] Va ?_))
 refine Qn ⟨by kernel_rfl,?_⟩
 refine pC H hx0 fun hc17 H=>?_
 have hq:=rI H; subst hq
 exact Kr () rfl (.tmp rfl .nil) [2] en
theorem QtZ (pP:Value) (p:Qag) (pa0:Option Addr) (pk0:Nat) (k:Int) (QlN:Qaa p.at_) (QlO:Qaa p.Err) (QyV:Qaa k) (rr:Bool) (hrr:Qh6 p k = .ret rr):FT Tryz.prog 155 #[pP,vi k] [Cl pP [vl pa0 pk0 p.l,vi p.at_,vi p.Err],S pa0 pk0 p.l] (fun g:Unit=>True) (fun g=>vb rr) (fun g=>[Cl pP [vl pa0 pk0 p.l,vi p.at_,vi p.Err]]):=by
 refine FTi Tryz.func155 fun w0 M0 F0=>?_
 unfold Qaa at QlN QlO QyV
 refine Fb 40 1 fun _=>?_
 have hx0:=lrn rr; have H:=hrr; unfold Qh6 at H
 refine KS ?_
 refine Oq Va (KS ?_)
 refine Jp 0 fun hp2=>?_
 refine pT H hx0 fun h3 H=>?_
 have g4:=eq_of_beq h3
 refine pT H hx0 fun h5 H=>?_
 have g6:=dt h5
 refine pC H hx0 fun hc7 H=>?_
 refine Qd4 p.at_.toNat 2 rfl rng fun hb8 hb9 hb10 hb11=>?_
 unfold Qaa at hb8 hb10 hb11
 refine Kq [0,1,3,7,15,31,63,127,255,511,63,1087,3135,7231,15423,32767,65535,131071,262143,524287,1048575,2097151,262143,4456447,12845055,29622271,67108863,134217727,268435455,262143,1073741823,2147483647,4294967295] Qco ?_
 refine Qv [] Vm (Qv [1] (Vn 0) (Qv [1] (Vfa QjY 0) (Qv [2] (Qah QuO 0) (Qb h3 [] QbW (Qv [] Vm (Qv [] Vm (Qv [1] (Vn 0) (Qv [1] (Vfa Qcg 0) (Qv [2] (Qah sh3 0) ?_)))))))))
 refine Qv [] Vm (Qv [1] (Vn 0) (Qv [1] (Vfa QfS 0) (Qv [2] (Qah Qlt 0) (Qv [] (Qba QeM) (Qb h5 [] Qbh (Qv [] Vpt (Qv [] Vm (Qv [] Vm (Qv [1] (Vn 0) ?_)))))))))
 refine Qv [1] (Vfa QfS 0) (Qv [2] (Qah Qlt 0) (Qv [] Vm (Qv [1] (Vn 0) (Qv [1] (Vfa Qcg 0) (Qv [2] (Qah sh3 0) (Qv [3] (Vi QeM 0) (Qv [0] (Vfa Qo1 0) (Qv [0] (Qah sh3 0) (Qv [] Vm ?_)))))))))
 refine Qv [] QbW (Qv [] Vpt (Qv [] Va ?_))
 refine Qn ⟨by kernel_rfl,?_⟩
 refine pC H hx0 fun hc12 H=>?_
 have hq:=rI H; subst hq
 exact Kr () rfl (.tmp rfl .nil) [2] trivial
theorem Qng (pP:Value) (p:Qag) (pa0:Option Addr) (pk0:Nat) (QlN:Qaa p.at_) (QlO:Qaa p.Err) (rr:Qag) (hrr:Qh8 p = .ret rr):FT Tryz.prog 123 #[pP] [Cl pP [vl pa0 pk0 p.l,vi p.at_,vi p.Err],S pa0 pk0 p.l] (fun g:Unit=>Qaa rr.at_ /\ Qaa rr.Err) (fun g=>.tuple #[]) (fun g=>[Cl pP [vl pa0 pk0 p.l,vi rr.at_,vi rr.Err]]):=by
 refine FTi Tryz.func123 fun w0 M0 F0=>?_
 unfold Qaa at QlN QlO
 refine Fb 40 1 fun _=>?_
 have hx0:=lrn rr; have H:=hrr; unfold Qh8 at H
 refine KS ?_
 refine Oq Vm ?_
 refine lbH H hx0 fun rv2 hg3 H=>?_
 have hc4:=QtZ pP p pa0 pk0 3 pre pre pre rv2 hg3
 refine Oc [0,0] Qtr hc4 ?_
 rintro - -
 refine Oq Qcy (KS ?_)
 refine pF H hx0 fun h5 H=>?_
 refine KcF h5 ?_
 have h7:=not_false h5
 refine KS ?_
 refine Oq Vm (Oq (Vn 0) (Oq (Vfa Qcg 0) (Oq (Qah sh3 0) ?_)))
 refine pC H hx0 fun hc9 H=>?_
 refine Oq QaS (Oq (Vn 0) (Oq (Vfa Qcg 0) (Ost (QiP [0] sh3 [vl pa0 pk0 p.l,vi (p.at_ + 1),vi p.Err]) (KS ?_))))
 have hq:=rI H; subst hq
 exact Kz () rfl .nil [0] en
theorem Qu6 (pP:Value) (p:Qag) (pa0:Option Addr) (pk0:Nat) (QlN:Qaa p.at_) (QlO:Qaa p.Err) (rr:Bool) (hrr:QjC p = .ret rr):FT Tryz.prog 156 #[pP] [Cl pP [vl pa0 pk0 p.l,vi p.at_,vi p.Err],S pa0 pk0 p.l] (fun g:Unit=>True) (fun g=>vb rr) (fun g=>[Cl pP [vl pa0 pk0 p.l,vi p.at_,vi p.Err]]):=by
 refine FTi Tryz.func156 fun w0 M0 F0=>?_
 unfold Qaa at QlN QlO
 refine Fb 40 1 fun _=>?_
 have hx0:=lrn rr; have H:=hrr; unfold QjC at H
 refine KS ?_
 refine Oq Va (KS ?_)
 refine Oa (AsV Qcb QhZ [.string (bs (Str.mk [117,115,101])),.string (bs (Str.mk [99,97,108,108])),.string (bs (Str.mk [115,111,117,114,99,101])),.string (bs (Str.mk [115,105,110,107])),.string (bs (Str.mk [115,97,110,105,116,105,122,101])),.string (bs (Str.mk [103,111,116,111])),.string (bs (Str.mk [98,114,97,110,99,104])),.string (bs (Str.mk [114,101,116,117,114,110]))] [.string (bs (Str.mk [117,115,101])),.string (bs (Str.mk [99,97,108,108])),.string (bs (Str.mk [115,111,117,114,99,101])),.string (bs (Str.mk [115,105,110,107])),.string (bs (Str.mk [115,97,110,105,116,105,122,101])),.string (bs (Str.mk [103,111,116,111])),.string (bs (Str.mk [98,114,97,110,99,104])),.string (bs (Str.mk [114,101,116,117,114,110]))]) fun c2=>?_
 refine Jo 0 ?_; rintro a3 k4 rfl
 refine Oq Va (KS ?_)
 refine Oq Va (KS ?_)
 refine Jl [0] (Ent.crOs (α:=Str) (A:=[]) _ ([(Str.mk [117,115,101]),(Str.mk [99,97,108,108]),(Str.mk [115,111,117,114,99,101]),(Str.mk [115,105,110,107]),(Str.mk [115,97,110,105,116,105,122,101]),(Str.mk [103,111,116,111]),(Str.mk [98,114,97,110,99,104]),(Str.mk [114,101,116,117,114,110])]:List Str) _ aB1 (fun h=>⟨[.string (bs (Str.mk [117,115,101]))],[.string (bs (Str.mk [99,97,108,108])),.string (bs (Str.mk [115,111,117,114,99,101])),.string (bs (Str.mk [115,105,110,107])),.string (bs (Str.mk [115,97,110,105,116,105,122,101])),.string (bs (Str.mk [103,111,116,111])),.string (bs (Str.mk [98,114,97,110,99,104])),.string (bs (Str.mk [114,101,116,117,114,110]))],rfl,(fun _=>⟨rfl,by first | omega | (simp; done) | (dsimp only; omega) | exact Qej rfl⟩) h,⟨[.string (bs (Str.mk [99,97,108,108]))],[.string (bs (Str.mk [115,111,117,114,99,101])),.string (bs (Str.mk [115,105,110,107])),.string (bs (Str.mk [115,97,110,105,116,105,122,101])),.string (bs (Str.mk [103,111,116,111])),.string (bs (Str.mk [98,114,97,110,99,104])),.string (bs (Str.mk [114,101,116,117,114,110]))],rfl,(fun _=>⟨rfl,by first | omega | (simp; done) | (dsimp only; omega) | exact Qej rfl⟩) h,⟨[.string (bs (Str.mk [115,111,117,114,99,101]))],[.string (bs (Str.mk [115,105,110,107])),.string (bs (Str.mk [115,97,110,105,116,105,122,101])),.string (bs (Str.mk [103,111,116,111])),.string (bs (Str.mk [98,114,97,110,99,104])),.string (bs (Str.mk [114,101,116,117,114,110]))],rfl,(fun _=>⟨rfl,by first | omega | (simp; done) | (dsimp only; omega) | exact Qej rfl⟩) h,⟨[.string (bs (Str.mk [115,105,110,107]))],[.string (bs (Str.mk [115,97,110,105,116,105,122,101])),.string (bs (Str.mk [103,111,116,111])),.string (bs (Str.mk [98,114,97,110,99,104])),.string (bs (Str.mk [114,101,116,117,114,110]))],rfl,(fun _=>⟨rfl,by first | omega | (simp; done) | (dsimp only; omega) | exact Qej rfl⟩) h,⟨[.string (bs (Str.mk [115,97,110,105,116,105,122,101]))],[.string (bs (Str.mk [103,111,116,111])),.string (bs (Str.mk [98,114,97,110,99,104])),.string (bs (Str.mk [114,101,116,117,114,110]))],rfl,(fun _=>⟨rfl,by first | omega | (simp; done) | (dsimp only; omega) | exact Qej rfl⟩) h,⟨[.string (bs (Str.mk [103,111,116,111]))],[.string (bs (Str.mk [98,114,97,110,99,104])),.string (bs (Str.mk [114,101,116,117,114,110]))],rfl,(fun _=>⟨rfl,by first | omega | (simp; done) | (dsimp only; omega) | exact Qej rfl⟩) h,⟨[.string (bs (Str.mk [98,114,97,110,99,104]))],[.string (bs (Str.mk [114,101,116,117,114,110]))],rfl,(fun _=>⟨rfl,by first | omega | (simp; done) | (dsimp only; omega) | exact Qej rfl⟩) h,⟨[.string (bs (Str.mk [114,101,116,117,114,110]))],[],rfl,(fun _=>⟨rfl,by first | omega | (simp; done) | (dsimp only; omega) | exact Qej rfl⟩) h,rfl⟩⟩⟩⟩⟩⟩⟩⟩)) ?_
 refine Fb 16 0 fun _=>?_
 refine FoS 0 fun ho6=>?_
 refine llH H hx0 fun X14 hX15 hx16 HL17=>?_
 refine Kl (γ:=Nat × Int) (fun (r7,i_8)=>⟨[(0,pP),(3,.slice a3 8 k4),(4,vi i_8)],[os (.slice a3 8 k4) ([(Str.mk [117,115,101]),(Str.mk [99,97,108,108]),(Str.mk [115,111,117,114,99,101]),(Str.mk [115,105,110,107]),(Str.mk [115,97,110,105,116,105,122,101]),(Str.mk [103,111,116,111]),(Str.mk [98,114,97,110,99,104]),(Str.mk [114,101,116,117,114,110])]:List Str),Cl pP [vl pa0 pk0 p.l,vi p.at_,vi p.Err],S pa0 pk0 p.l],Qfi p r7 i_8 = X14 /\ r7 = ((((8:Nat):Int):Int) - i_8).toNat /\ (0:Int) <= i_8 /\ (i_8 <= ((8:Nat):Int) \/ i_8 = 0) /\ (-9223372036854775808 <= i_8 /\ i_8 <= 9223372036854775807),r7⟩) (((((8:Nat):Int):Int) - 0).toNat,0) [0,0,0] ⟨hX15,rfl,aM1,(.inr rfl),aM1⟩ ?_
 rintro ⟨r7,i_8⟩ ⟨hM9,hr10,hi11,hi12,hk13⟩
 refine QaA fun _ _ hL hA=>?_; dsimp only at hL hA; subst hL hA
 refine Fb 16 0 fun _=>?_
 refine FoS 0 fun ho19=>?_
 refine Fl 0 fun hn20=>Fb 40 2 fun _=>?_
 refine KS ?_
 refine Oq Vm (Oq Vm (Oq (Qba Qcb) (Oq Qbh (KS ?_))))
 refine Kc ?_ ?_
 ·intro h22
  have g23:=dt h22
  obtain ⟨r24,rfl⟩:=scc (n:=r7) aM1
  have H:=hM9; (try dsimp only at H); rw [Qfi] at H
  refine KS ?_
  refine Oq Vm (Oq Vm (Oq Vm ?_))
  refine pC H hx16 fun hc25 H=>?_
  refine Oq (Vi Qcb 0) ?_
  have hb26:=okS (i:=i_8.toNat) ho19 rng
  refine Oq (Qsv sh9 0) ?_
  refine lbH H hx16 fun rv27 hg28 H=>?_
  have hc29:=QuL pP p pa0 pk0 (([(Str.mk [117,115,101]),(Str.mk [99,97,108,108]),(Str.mk [115,111,117,114,99,101]),(Str.mk [115,105,110,107]),(Str.mk [115,97,110,105,116,105,122,101]),(Str.mk [103,111,116,111]),(Str.mk [98,114,97,110,99,104]),(Str.mk [114,101,116,117,114,110])].getD i_8.toNat default)) pre pre pre rv27 hg28
  refine Oc [1,1] QuN hc29 ?_
  rintro - -
  refine KS ?_
  refine KcH H ?_ ?_
  ·intro h30 H
   refine KS ?_
   refine Oq Va (KS ?_)
   have H:=llR H HL17
   have hq:=rI H; subst hq
   exact Kr () rfl (.tmp rfl .nil) [0] trivial
  intro h30 H
  refine KS ?_
  refine Oq Vm (Oq QaS (Oq Va (KS ?_)))
  refine pC H hx16 fun hc33 H=>?_
  exact Kg (r24,(i_8 + 1)) [1,0,0] ⟨H,aM1,aM1,aM1,aM1⟩
 intro h22
 have g34:=df h22
 obtain rfl:r7 = 0:=by omega
 have H:=hM9; (try dsimp only at H); rw [Qfi] at H
 refine Ke ?_
 have H:=llB H HL17
 refine KS ?_
 refine Oq Vm ?_
 refine lbH H hx0 fun rv35 hg36 H=>?_
 have hc37:=QqB pP p pa0 pk0 pre pre rv35 hg36
 refine Oc [1,1] QqS hc37 ?_
 rintro - -
 refine Oq Va (KS ?_)
 have hq:=rI H; subst hq
 exact Kr () rfl (.tmp rfl .nil) [0] trivial
theorem Qvi (pP:Value) (p:Qag) (pa0:Option Addr) (pk0:Nat) (have_:Int) (QlN:Qaa p.at_) (QlO:Qaa p.Err) (hhave__0:Qaa have_) (rr:List Str × Qag) (hrr:Qnp p have_ = .ret rr):FT Tryz.prog 177 #[pP,vi have_] [Cl pP [vl pa0 pk0 p.l,vi p.at_,vi p.Err],S pa0 pk0 p.l] (fun g:Value=>Qaa rr.2.at_ /\ Qaa rr.2.Err) (fun g=>g) (fun g=>[sl g rr.1,Cl pP [vl pa0 pk0 p.l,vi rr.2.at_,vi rr.2.Err]]):=by
 refine FTi Tryz.func177 fun w0 M0 F0=>?_
 unfold Qaa at QlN QlO hhave__0
 refine Fb 40 1 fun _=>?_
 have hx0:=lrn rr; have H:=hrr; unfold Qnp at H
 refine KS ?_
 refine Oq Va (KS ?_)
 refine Oq Va (KS ?_)
 refine llH H hx0 fun X4 hX5 hx6 HL7=>?_
 refine Kl (γ:=Nat) (fun r2=>⟨[(0,pP),(1,vi have_),(5,.slice none 0 0)],[Cl pP [vl pa0 pk0 p.l,vi p.at_,vi p.Err],S pa0 pk0 p.l],Qkg p r2 = X4,r2⟩) 1 [0,0] hX5 ?_
 rintro r2 hM3
 refine QaA fun _ _ hL hA=>?_; dsimp only at hL hA; subst hL hA
 refine Fb 40 1 fun _=>?_
 rcases r2 with _ | r2
 ·exact absurd (hM3.symm.trans rfl) hx6
 have H:=hM3; (try dsimp only at H); rw [Qkg] at H
 refine KS ?_
 refine Oq Vm ?_
 refine lbH H hx6 fun rv9 hg10 H=>?_
 have hc11:=QqB pP p pa0 pk0 pre pre rv9 hg10
 refine Oc [0,0] QqS hc11 ?_
 rintro - -
 refine KS ?_
 refine pF H hx6 fun h12 H=>?_
 refine KcF h12 ?_
 refine Ke ?_
 have H:=llB H HL7
 refine KS ?_
 refine Oq Vm (Oq Va (KS ?_))
 refine Jl [] (Ent.slNil (α:=Str)) ?_
 have hq:=rI H; subst hq
 exact Kr (.slice none 0 0) rfl (.tmp rfl .nil) [0,1] en
theorem Qu8 (pP:Value) (p:Qag) (pa0:Option Addr) (pk0:Nat) (QlN:Qaa p.at_) (QlO:Qaa p.Err) (rr:List Str × Qag) (hrr:QkZ p = .ret rr):FT Tryz.prog 178 #[pP] [Cl pP [vl pa0 pk0 p.l,vi p.at_,vi p.Err],S pa0 pk0 p.l] (fun g:Value=>Qaa rr.2.at_ /\ Qaa rr.2.Err) (fun g=>g) (fun g=>[sl g rr.1,Cl pP [vl pa0 pk0 p.l,vi rr.2.at_,vi rr.2.Err]]):=by
 refine FTi Tryz.func178 fun w0 M0 F0=>?_
 unfold Qaa at QlN QlO
 refine Fb 40 1 fun _=>?_
 have hx0:=lrn rr; have H:=hrr; unfold QkZ at H
 refine KS ?_
 refine Oq Va (KS ?_)
 refine Oq Va (KS ?_)
 refine Jl [] (Ent.osNil (α:=Str)) ?_
 refine llH H hx0 fun X11 hX12 hx13 HL14=>?_
 refine Kl (γ:=Nat × Int × Int × List Str × Option Addr × Nat) (fun (r2,Quz,QuA,Qo5,a6,k7)=>⟨[(0,pP),(3,vl a6 k7 Qo5)],[O a6 k7 Qo5,Cl pP [vl pa0 pk0 p.l,vi Quz,vi QuA],S pa0 pk0 p.l],Qht p r2 Quz QuA Qo5 = X11 /\ (-9223372036854775808 <= Quz /\ Quz <= 9223372036854775807) /\ (-9223372036854775808 <= QuA /\ QuA <= 9223372036854775807),r2⟩) (100000,p.at_,p.Err,[],none,0) [0,0,0] ⟨hX12,aM1,aM1⟩ ?_
 rintro ⟨r2,Quz,QuA,Qo5,a6,k7⟩ ⟨hM8,hk9,hk10⟩
 refine QaA fun _ _ hL hA=>?_; dsimp only at hL hA; subst hL hA
 refine Fb 16 0 fun _=>?_
 refine FoS 0 fun ho16=>?_
 refine Fb 40 2 fun _=>?_
 rcases r2 with _ | r2
 ·exact absurd (hM8.symm.trans rfl) hx13
 have H:=hM8; (try dsimp only at H); rw [Qht] at H
 refine KS ?_
 refine Oq Vm ?_
 refine lbH H hx13 fun rv18 hg19 H=>?_
 have hc20:=QqB pP (Qag.mk p.l Quz QuA) pa0 pk0 pre pre rv18 hg19
 refine Oc [1,1] QqS hc20 ?_
 rintro - -
 refine KS ?_
 refine KcH H ?_ ?_
 ·intro h21 H
  refine KS ?_
  refine Oq Vm (Oq (Qba Qcb) (Oq QbW (KS ?_)))
  refine pF H hx13 fun h23 H=>?_
  refine KcF h23 ?_
  have g24:=ne_of_beq_false h23
  refine KS ?_
  refine Oq Vm (Oq Vm ?_)
  refine lbH H hx13 fun rv25 hg26 H=>?_
  have hc27:=Qom pP (Qag.mk p.l Quz QuA) pa0 pk0 pre pre rv25 hg26
  refine Oc [0,1] QoY hc27 ?_
  rintro - ⟨he28,he29,he30⟩
  unfold Qaa at he29 he30
  refine Oa (AsV Qcb QhZ [.string (bs rv25.1)] [.string (bs rv25.1)]) fun c31=>?_
  refine Jo 0 ?_; rintro a32 k33 rfl
  refine Jl [0] (Ent.cr1 (α:=Str) (A:=[]) _ rv25.1 _ aB1 (fun _=>⟨rfl,aS1⟩)) ?_
  refine pC H hx13 fun hc34 H=>?_
  refine Oa (ApO [2,0] Qcb Qcb QhZ) fun c35=>?_
  refine Jo 0 ?_; rintro a36 k37 rfl
  refine Fb 16 0 fun _=>?_
  refine FoS 0 fun ho39=>?_
  have hn40:=la Qo5 ([rv25.1]:List Str)
  refine Oq Va (KS ?_)
  exact Kg (r2,rv25.2.at_,rv25.2.Err,(Qo5 ++ [rv25.1]),a36,k37) [0,0,0] ⟨H,aM1,aM1⟩
 intro h21 H
 refine Ke ?_
 have H:=llB H HL14
 dsimp only at H
 refine KS ?_
 refine Oq Vm (Oq Va (KS ?_))
 refine Jl [1] (Ent.freeze _ _) ?_
 have hq:=rI H; subst hq
 exact Kr (vl a6 k7 Qo5) rfl (.tmp rfl .nil) [0,1] en
end Go.SL.G
