/- Part 3 of the walks: mirrors, plain laws and walks used by the last text of this claim. -/
import Derived.Test.YtkooljfbpbghhaaGreatDoorW2
import Derived.Test.YtkooljfbpbghhaaGreatDoorProg
set_option linter.unusedVariables false
set_option linter.unusedSimpArgs false
namespace Go.SL.G
open Go Go.SL Go.Proofs
set_option maxHeartbeats 20000000
set_option maxRecDepth 100000
theorem Xk (p:Aw) (f:A7) (i k:Int) (S:List Az) (F B:List (Aa×Bool)) (hF:KN F (EN p)) (hB:KN B (Ef f)):∀ (r:Nat) (v:Int),HO i F B k S S r v=Ev p i f.Name f.Blocks k S r v
 | 0,v=>by rw [HO,Ev]
 | r+1,v=>by
  rw [HO,Ev]
  try dsimp only
  rw [<- nH p (A7.mk f.Name f.Blocks) _ _ F B hF hB,Xk p f i k S F B hF hB r (v+1)]
  all_goals (cases (S.getD v.toNat default).Op == 3 <;> rfl)
theorem dR (p:Aw) (f:A7) (i:Int) (F B:List (Aa×Bool)) (hF:KN F (EN p)) (hB:KN B (Ef f)):∀ (r:Nat) (v:Int),JY f i F B r v=Ey p i f.Name f.Blocks r v
 | 0,v=>by rw [JY,Ey]
 | r+1,v=>by
  rw [JY,Ey,Xk p f i v _ F B hF hB,dR p f i F B hF hB r (v+1)]
  all_goals (generalize Ev p i f.Name f.Blocks v ((f.Blocks.getD v.toNat default).Stmts) (((((f.Blocks.getD v.toNat default).Stmts.length:Nat):Int) - 0).toNat) 0=R; cases R <;> rfl)
theorem aF (p:Aw) (i:Int) (a:Aa) (b:List A3) (k:Int) (S:List Az):∀ (r:Nat) (v:Int) (x:Am×Int),Ev p i a b k S r v=.ret x->(x.2 != 0)=true
 | 0,v,x,h=>by rw [Ev] at h; cases h
 | r+1,v,x,h=>by
  rw [Ev] at h
  try dsimp only at h
  cases e:G4 p (A7.mk a b) (S.getD v.toNat default) (v == (((S.length:Nat):Int) - 1)) != 0
  ·rw [e] at h; exact aF p i a b k S r _ x h
  ·rw [e] at h; cases h; exact e
theorem YR (p:Aw) (i:Int) (a:Aa) (b:List A3) (k:Int) (S:List Az):∀ (r:Nat) (v:Int),Ev p i a b k S r v≠.oof
 | 0,v=>by rw [Ev]; exact fun h=>by cases h
 | r+1,v=>by
  rw [Ev]
  try dsimp only
  cases G4 p (A7.mk a b) (S.getD v.toNat default) (v == (((S.length:Nat):Int) - 1)) != 0
  ·exact YR p i a b k S r _
  ·exact fun h=>by cases h
theorem V3 (p:Aw) (i:Int) (a:Aa) (b:List A3):∀ (r:Nat) (v:Int) (x:Am×Int),Ey p i a b r v=.ret x->(x.2 != 0)=true
 | 0,v,x,h=>by rw [Ey] at h; cases h
 | r+1,v,x,h=>by
  rw [Ey] at h;cases e:Ev p i a b v ((b.getD v.toNat default).Stmts) (((((b.getD v.toNat default).Stmts.length:Nat):Int) - 0).toNat) 0 with
  | oof=>rw [e] at h; cases h
  | brk y=>rw [e] at h; exact V3 p i a b r _ x h
  | ret y=>rw [e] at h; cases h; exact aF _ _ _ _ _ _ _ _ _ e
theorem Ur (p:Aw) (i:Int) (a:Aa) (b:List A3):∀ (r:Nat) (v:Int),Ey p i a b r v≠.oof
 | 0,v=>by rw [Ey]; exact fun h=>by cases h
 | r+1,v=>by
  rw [Ey];cases e:Ev p i a b v ((b.getD v.toNat default).Stmts) (((((b.getD v.toNat default).Stmts.length:Nat):Int) - 0).toNat) 0 with
  | oof=>exact absurd e (YR _ _ _ _ _ _ _ _)
  | brk y=>exact Ur p i a b r _
  | ret y=>exact fun h=>by cases h
theorem Zc (p:Aw) (F:List (Aa×Bool)) (hF:KN F (EN p)):∀ (r:Nat) (v:Int),KP p F r v=EK p r v
 | 0,v=>by rw [KP,EK]
 | r+1,v=>by
  rw [KP,EK]
  try dsimp only
  generalize p.Funcs.getD v.toNat default=f;have hb:=rS f;unfold My
  try dsimp only
  rw [hb.1,dR p f v F _ hF hb.2];cases decide (0<=Fu (Ef f))
  ·simp only [cond_false];cases e:Ey p v f.Name f.Blocks (((f.Blocks.length:Nat):Int) - 0).toNat 0 with
   | oof=>exact absurd e (Ur _ _ _ _ _ _)
   | brk y=>exact Zc p F hF r (v+1)
   | ret y=>simp only [V3 _ _ _ _ _ _ _ e,cond_true]
  ·rfl
theorem TL (p:Aw):E0 p=Dp p:=by
 have hr:=d5 p;unfold E0 Dp;rw [S0,tN,Rv];dsimp only;rw [hr.1,Zc p _ hr.2]
 all_goals (generalize EK p (((p.Funcs.length:Nat):Int) - 0).toNat 0=R; cases R <;> rfl)
theorem qE {p:Aw} {r:Am×Int} (h:Dp p=r) (h2:(r.2 != 0)=false):CG p=true:=by
 subst h;cases e:CG p
 ·unfold Dp at h2;rw [e] at h2;cases h2
 ·rfl
theorem ZN {p:Aw} {i:Int} {a:Aa} {b:List A3} {k:Int} {S:List Az}:∀ (r:Nat) (v:Int),0<=v->v+(r:Int)=(S.length:Int)->Ev p i a b k S r v=.brk ()->∀ j,v<=j->j < (S.length:Int)->Nv p (A7.mk a b) (S.getD j.toNat default) (j == (((S.length:Nat):Int) - 1))
 | 0,v,h0,h1,_,j,j0,j1=>by omega
 | r+1,v,h0,h1,h,j,j0,j1=>by
  rw [Ev] at h
  try dsimp only at h
  cases c:G4 p (A7.mk a b) (S.getD (v:Int).toNat default) (v == (((S.length:Nat):Int) - 1)) != 0
  ·rw [c,cond_false] at h;by_cases e:j=v
   ·rw [e]; exact uX (by simpa using c)
   ·exact ZN r (v+1) (by omega) (by omega) h j (by omega) j1
  ·rw [c] at h; cases h
theorem Yt {p:Aw} {i:Int} {a:Aa} {b:List A3}:∀ (r:Nat) (v:Int),0<=v->v+(r:Int)=(b.length:Int)->Ey p i a b r v=.brk ()->∀ k,v<=k->k < (b.length:Int)->∀ j,0<=j->j < ((b.getD k.toNat default).Stmts.length:Int)->Nv p (A7.mk a b) ((b.getD k.toNat default).Stmts.getD j.toNat default) (j == ((((b.getD k.toNat default).Stmts.length:Nat):Int) - 1))
 | 0,v,h0,h1,_,k,k0,k1=>by omega
 | r+1,v,h0,h1,h,k,k0,k1=>by
  rw [Ey] at h;rcases e2:Ev p i a b v ((b.getD (v:Int).toNat default).Stmts) (((((((b.getD (v:Int).toNat default).Stmts).length:Nat):Int):Int) - 0).toNat) 0 with u | u | _
  ·rw [e2] at h;by_cases e:k=v
   ·rw [e]; exact fun j j0 j1=>ZN _ 0 (by omega) (by omega) e2 j j0 j1
   ·exact Yt r (v+1) (by omega) (by omega) h k (by omega) k1
  ·rw [e2] at h; cases h
  ·rw [e2] at h; cases h
theorem Zx {p:Aw}:∀ (r:Nat) (v:Int),0<=v->v+(r:Int)=(p.Funcs.length:Int)->EK p r v=.brk ()->∀ i,v<=i->i < (p.Funcs.length:Int)->∀ k,0<=k->k < ((p.Funcs.getD i.toNat default).Blocks.length:Int)->∀ j,0<=j->j < (((p.Funcs.getD i.toNat default).Blocks.getD k.toNat default).Stmts.length:Int)->Nv p (p.Funcs.getD i.toNat default) (((p.Funcs.getD i.toNat default).Blocks.getD k.toNat default).Stmts.getD j.toNat default) (j == (((((p.Funcs.getD i.toNat default).Blocks.getD k.toNat default).Stmts.length:Nat):Int) - 1))
 | 0,v,h0,h1,_,k,k0,k1=>by omega
 | r+1,v,h0,h1,h,i,i0,i1=>by
  rw [EK] at h
  try dsimp only at h
  cases c:decide (0<=Fu (Ef (p.Funcs.getD (v:Int).toNat default)))
  ·rw [c,cond_false] at h;rcases e2:Ey p v ((p.Funcs.getD (v:Int).toNat default).Name) ((p.Funcs.getD (v:Int).toNat default).Blocks) (((((((p.Funcs.getD (v:Int).toNat default).Blocks).length:Nat):Int):Int) - 0).toNat) 0 with u | u | _
   ·rw [e2] at h;by_cases e:i=v
    ·rw [e]; exact fun k k0 k1 j j0 j1=>Yt _ 0 (by omega) (by omega) e2 k k0 k1 j j0 j1
    ·exact Zx r (v+1) (by omega) (by omega) h i (by omega) i1
   ·rw [e2] at h; cases h
   ·rw [e2] at h; cases h
  ·rw [c] at h; cases h
theorem dZ {p:Aw} (h:((Dp p).2 != 0)=false):Pc p:=by
 have h:(Dp p).2=0:=by simpa using h
 unfold Dp at h;dsimp only at h;cases c1:CG p
 ·rw [c1] at h; exact absurd (show (1:Int)=0 from h) (by decide)
 rw [c1,Bool.not_true,cond_false] at h;by_cases c2:0<=Fu (EN p)
 ·rw [decide_eq_true c2] at h; exact absurd (show (6:Int)=0 from h) (by decide)
 rw [decide_eq_false c2,cond_false] at h;refine ⟨c1,fun k k0 k1 j j0 j1=>?_,?_⟩
 ·have:=s9 c2 k k0 (by rw [MN,List.length_map]; exact k1) j j0 j1;rw [MN,Ps (d:=default) (by omega),Ps (d:=default) (by omega)] at this;exact this
 ·rcases e2:EK p (((((p.Funcs.length:Nat):Int):Int) - 0).toNat) 0 with u | u | _
  ·exact Zx _ 0 (by omega) (by omega) e2
  ·rw [e2] at h;exfalso;have key:∀ (r:Nat) (v:Int),EK p r v=.ret u->u.2≠0:=fun r=>by
    induction r with
    | zero=>intro v e; rw [EK] at e; cases e
    | succ r ih=>
     intro v e;rw [EK] at e
     try dsimp only at e
     cases c:decide (0<=Fu (Ef (p.Funcs.getD (v:Int).toNat default)))
     ·rw [c,cond_false] at e;rcases e3:Ey p v ((p.Funcs.getD (v:Int).toNat default).Name) ((p.Funcs.getD (v:Int).toNat default).Blocks) (((((((p.Funcs.getD (v:Int).toNat default).Blocks).length:Nat):Int):Int) - 0).toNat) 0 with u' | u' | _
      ·rw [e3] at e; exact ih _ e
      ·rw [e3] at e;injection e with e
       have:=V3 _ _ _ _ _ _ _ e3;rw [e] at this
       simpa using this
      ·rw [e3] at e; cases e
     ·rw [c,cond_true] at e;injection e with e
      rw [<- e]; exact (show (6:Int)≠0 by decide)
   exact key _ _ e2 h
  ·rw [e2] at h;exfalso;have key:∀ (r:Nat) (v:Int),EK p r v≠.oof:=fun r=>by
    induction r with
    | zero=>intro v e; rw [EK] at e; cases e
    | succ r ih=>
     intro v e;rw [EK] at e
     try dsimp only at e
     cases c:decide (0<=Fu (Ef (p.Funcs.getD (v:Int).toNat default)))
     ·rw [c,cond_false] at e;rcases e3:Ey p v ((p.Funcs.getD (v:Int).toNat default).Name) ((p.Funcs.getD (v:Int).toNat default).Blocks) (((((((p.Funcs.getD (v:Int).toNat default).Blocks).length:Nat):Int):Int) - 0).toNat) 0 with u' | u' | _
      ·rw [e3] at e; exact ih _ e
      ·rw [e3] at e; cases e
      ·exact Ur _ _ _ _ _ _ e3
     ·rw [c,cond_true] at e; cases e
   exact key _ _ e2
theorem qN {p:Aw} {r:Am×Int} (h:Dp p=r) (h2:(r.2 != 0)=false):((Dp p).2 != 0)=false:=by rw [h]; exact h2
theorem T4 (i k:Int) (S:List Az):∀ (r:Nat) (o:List Am) (v:Int),Ho i k S r o v=Jt i k S r o v
 | 0,o,v=>by rw [Ho,Jt]
 | r+1,o,v=>by rw [Ho,Jt,T4 i k S r,T4 i k S r]
theorem W2 (p:Aw) (i:Int):∀ (r:Nat) (o:List Am) (v:Int),IN i ((p.Funcs.getD i.toNat default).Blocks) r o v=Mk p i r o v
 | 0,o,v=>by rw [IN,Mk]
 | r+1,o,v=>by
  rw [IN,Mk,T4];exact W2 p i r _ _
theorem cH (p:Aw):∀ (r:Nat) (o:List Am) (v:Int),IC p r o v=LQ p r o v
 | 0,o,v=>by rw [IC,LQ]
 | r+1,o,v=>by
  rw [IC,LQ,W2];exact cH p r _ _
theorem ND (p:Aw):Cn p=D5 p:=by
 unfold Cn D5;rw [TL];dsimp only;rw [cH]
theorem iW {p:Aw} {r:List Am} (hc:((Dp p).2 != 0)=false) (h:Cn p=r):r=nF 0 p.Funcs:=by
 rw [<- h,ND,Ri,TL,hc,cond_false]
theorem sZ {p:Aw} {r:List Am} (h:D5 p=r):r.length=(Cn p).length:=by rw [<- h,ND]
def J6 (p:Aw) (f:AO):Prop:=(0<=f.Var/\f.Var < ((Ca p).length:Int)) /\ -1<=f.Node/\f.Node < ((Cn p).length:Int)
theorem l8 {p:Aw} {l:List AO} {v:List Aa} {a:List Am} (h:∀ f∈l,J6 p f) (hv:v.length=(Ca p).length) (ha:a.length=(Cn p).length):∀ f∈l,(0<=f.Var/\f.Var < (v.length:Int)) /\ -1<=f.Node/\f.Node < (a.length:Int):=fun f hf=>by
 have:=h f hf;unfold J6 at this;omega
theorem rW {p:Aw} {l:List Am} (h:Cn p=l):∀ n∈l,Af n.Kind/\Af n.Func/\Af n.Block/\Af n.Stmt:=by
 subst h;rw [ND];intro n hn;have hv:=W4 hn;have hi:=XS hn;rw [Ri] at hn;cases e:(E0 p).2 != 0
 ·rw [e,cond_false] at hn;rw [KY] at hv;simp only [Bool.and_eq_true,decide_eq_true_eq,List.all_eq_true] at hv;refine gV hi ?_ ?_ ?_
  ·rcases VV hn with c | c
   ·exact .inr c
   ·exact .inl c
  ·have:=hv.1; omega
  ·exact fun f hf=>⟨by have:=(hv.2 f hf).2.1; omega,fun b hb=>by have:=((hv.2 f hf).2.2 b hb).2.1; omega⟩
 ·rw [e] at hn; cases hn
theorem WF (n:Am) (l:List Am):∀ (r:Nat) (v:Int),Hl n l r v=G9 l n r v
 | 0,v=>by rw [Hl,G9]
 | r+1,v=>by rw [Hl,G9,WF n l r]
theorem ZT (n:Am) (l:List Am):∀ (r:Nat) (v:Int),0<=v->v+(r:Int)=(l.length:Int)->(∃ j,v<=j/\j < (l.length:Int)/\G9 l n r v=.ret j/\l.getD j.toNat default=n/\∀ i,v<=i->i < j->l.getD i.toNat default≠n)\/(G9 l n r v=.brk ()/\∀ i,v<=i->i < (l.length:Int)->l.getD i.toNat default≠n)
 | 0,v,h0,h1=>.inr ⟨by rw [G9],fun i a b=>by omega⟩
 | r+1,v,h0,h1=>by
  have ee:∀ m:Am,([m.Kind,m.Func,m.Block,m.Stmt] == [n.Kind,n.Func,n.Block,n.Stmt])=true↔m=n:=fun m=>by
   obtain ⟨a,b,c,d⟩:=m;obtain ⟨a',b',c',d'⟩:=n
   simp
  rw [G9];cases e:[(l.getD (v:Int).toNat default).Kind,(l.getD (v:Int).toNat default).Func,(l.getD (v:Int).toNat default).Block,(l.getD (v:Int).toNat default).Stmt] == [n.Kind,n.Func,n.Block,n.Stmt]
  ·have hne:l.getD v.toNat default≠n:=fun h=>by rw [(ee _).2 h] at e; cases e
   rcases ZT n l r (v+1) (by omega) (by omega) with ⟨j,j1,j2,j3,j4,j5⟩ | ⟨j1,j2⟩
   ·refine .inl ⟨j,by omega,j2,j3,j4,fun i a b=>?_⟩;by_cases hi:i=v
    ·rw [hi]; exact hne
    ·exact j5 i (by omega) b
   ·refine .inr ⟨j1,fun i a b=>?_⟩;by_cases hi:i=v
    ·rw [hi]; exact hne
    ·exact j2 i (by omega) b
  ·exact .inl ⟨v,by omega,by omega,rfl,(ee _).1 e,fun i a b=>by omega⟩
theorem Uu {l:List Am} {n:Am} (h:n∈l):0<=Ej l n/\Ej l n < (l.length:Int):=by
 unfold Ej;rcases ZT n l (((((l.length:Nat):Int):Int) - 0).toNat) 0 (by omega) (by omega) with ⟨j,j1,j2,j3,-,-⟩ | ⟨-,j2⟩
 ·rw [j3]; exact ⟨j1,j2⟩
 ·exfalso;obtain ⟨k,k0,k1,e⟩:=(NK (d:=default)).1 h;exact j2 k k0 k1 e
theorem RS (p:Aw) (n:Am):J2 p n=Fd p n:=by
 unfold J2 Fd Ej;dsimp only;rw [ND,WF]
 all_goals (generalize G9 (D5 p) n _ 0=R; cases R <;> rfl)
theorem Vp {p:Aw} {n:Am} {r:Int} (h:J2 p n=r) (hr:decide (r < 0)=false):R8 p n/\CG p=true:=by
 rw [RS] at h;exact ⟨OH h hr,Rt h hr⟩
theorem r6:((List.range 100).all fun k=>ME (k:Int) == JA (k:Int))=true:=by kernel_rfl
theorem kQ {x:Int} (h:0<=x/\x < 100):ME x=JA x:=by
 have:=List.all_eq_true.1 r6 x.toNat (List.mem_range.2 (by omega));rw [show ((x.toNat:Nat):Int)=x by omega] at this;exact beq_iff_eq.1 this
theorem eM:((List.range 100).all fun k=>decide ((JA (k:Int)).b.length<=2))=true:=by kernel_rfl
theorem V5 {n:Int} {r:Aa} (h:JA n=r) (hn:0<=n/\n < 100):r.b.length<=2:=by
 have:=List.all_eq_true.1 eM n.toNat (List.mem_range.2 (by omega));rw [show ((n.toNat:Nat):Int)=n by omega] at this;rw [<- h];exact of_decide_eq_true this
theorem aY:∀ (m:Nat) (n:Int) (s:Aa),0<=n/\n < (m:Int)->LX m n s≠.oof
 | 0,n,s,h=>by omega
 | m+1,n,s,h=>by
  rw [LX];by_cases e:0 < n
  ·simp only [e,decide_true,cond_true];exact aY m (n / 10) _ (by omega)
  ·simp [e]
theorem Rr (p:Aw) (n:Am):GR p n=Ib p n:=by
 unfold GR Ib;dsimp only;rw [RS];cases hf:decide (Fd p n < 0)
 ·have hN:=OH rfl hf;cases e1:n.Kind == 1
  ·cases e2:n.Kind == 2
   ·have h3:=hN.2 (by simpa using e1) (by simpa using e2);rw [kQ ⟨h3.2.1.1,h3.2.2⟩]
   ·rfl
  ·rfl
 ·rfl
theorem SE {p:Aw} {n:Am} {r:Aa} (h:GR p n=r):r.b.length<=5000:=by
 subst h;unfold GR;dsimp only;cases e:decide (J2 p n < 0)
 ·obtain ⟨hN,hv⟩:=Vp rfl e;have hsm:=VJ hv;obtain ⟨hN1,hN2⟩:=hN;have hf1:=(Pr hsm n.Func.toNat).1;have hb1:=((Pr hsm n.Func.toNat).2 n.Block.toNat (by omega)).1;simp only [cond_false];cases e1:n.Kind == 1
  ·simp only [cond_false];cases e2:n.Kind == 2
   ·simp only [cond_false];have hN3:=hN2 (by simpa using e1) (by simpa using e2);have hI:=V5 (n:=n.Stmt) rfl (by omega);generalize JA n.Stmt=dd at hI;cases n.Kind == 4
    ·simp only [cond_false,Q9,List.length_cons,List.length_nil]; omega
    ·simp only [cond_true,Q9,List.length_cons,List.length_nil]; omega
   ·simp only [cond_true,Q9,List.length_cons,List.length_nil]; omega
  ·simp only [cond_true,Q9,List.length_cons,List.length_nil]; omega
 ·simp
theorem Y9 {p:Aw} {n:Am} {r:Aa} (h:Ib p n=r):r.b.length<=5000:=SE (n:=n) ((Rr p n).trans h)
theorem bH (p:Aw) (n:Am):Eu p n=HR p n:=by
 unfold Eu HR Ln;dsimp only;rw [RS];by_cases h3:n.Kind=3
 ·have e3:(n.Kind == 3)=true:=by simpa using h3
  have e3':(n.Kind != 3)=false:=by simpa using h3
  rw [e3,e3']
  all_goals (cases decide (Fd p n < 0) <;> rfl)
 ·have e3:(n.Kind == 3)=false:=by simpa using h3
  have e3':(n.Kind != 3)=true:=by simpa using h3
  rw [e3,e3'];by_cases h4:n.Kind=4
  ·have e4:(n.Kind == 4)=true:=by simpa using h4
   have e4':(n.Kind != 4)=false:=by simpa using h4
   rw [e4,e4']
   all_goals (cases decide (Fd p n < 0) <;> rfl)
  ·have e4:(n.Kind == 4)=false:=by simpa using h4
   have e4':(n.Kind != 4)=true:=by simpa using h4
   rw [e4,e4']
   all_goals (cases decide (Fd p n < 0) <;> rfl)
theorem qV {p:Aw} {n:Am} {r:Az×Bool} (h:Eu p n=r):∀ x∈r.1.Uses,0<=Br (Ca p) x/\Br (Ca p) x < ((Ca p).length:Int):=by
 subst h;intro x hx;refine ⟨Z6 ?_,(W0 _ _).2⟩;unfold Eu at hx;dsimp only at hx;cases e:decide (J2 p n < 0)
 ·rw [e] at hx;simp only [cond_false] at hx;have key:(n.Kind=3\/n.Kind=4)->x∈(((((p.Funcs.getD (n.Func:Int).toNat default).Blocks).getD (n.Block:Int).toNat default).Stmts).getD (n.Stmt:Int).toNat default).Uses->x∈Ca p:=fun hk hx=>by
   rw [RS] at e;have hv:=Rt rfl e;obtain ⟨a1,a2⟩:=OH rfl e;obtain ⟨a3,a4,_⟩:=a2 (by omega) (by omega);exact WR hv a1 a3 a4 (.inl hx)
  cases c3:n.Kind != 3
  ·rw [c3] at hx;exact key (.inl (by rw [bne_eq_false_iff_eq] at c3; exact c3)) hx
  ·rw [c3] at hx;simp only [cond_true] at hx;cases c4:n.Kind != 4
   ·rw [c4] at hx;exact key (.inr (by rw [bne_eq_false_iff_eq] at c4; exact c4)) hx
   ·rw [c4] at hx; cases hx
 ·rw [e] at hx; cases hx
theorem m4 {s:Az} (h:BQ s=true):Hg s=(s.Def != Aa.mk []):=by
 have n0:BY (Aa.mk [])=false:=by kernel_rfl
 have hn:BY s.Def=true->(s.Def != Aa.mk [])=true:=fun h=>by
  rw [bne_iff_ne]; intro e; rw [e,n0] at h; cases h
 have hz:(s.Def == Aa.mk [])=true->(s.Def != Aa.mk [])=false:=fun h=>by simp [bne,h]
 unfold BQ at h;unfold Hg;dsimp only at h;generalize Gp s.Uses 0 4=a1 at h;generalize Gp s.Targets 0 2=a2 at h;cases a1
 ·cases h
 cases a2
 ·cases h
 simp only [Bool.not_true,cond_false] at h;cases e1:(s.Op == 1) with
 | true=>
  rw [e1] at h; cases e:BY s.Def
  ·rw [e] at h; cases h
  ·rw [hn e]; rfl
 | false=>
 rw [e1,cond_false] at h;cases e2:(s.Op == 2) with
 | true=>
  have o:=eq_of_beq e2;rw [e2,cond_true] at h; cases e:(s.Def == Aa.mk [])
  ·rw [e] at h; cases h
  ·rw [hz e,o]; rfl
 | false=>
 rw [e2,cond_false] at h;cases e5:(s.Op == 5) with
 | true=>
  have o:=eq_of_beq e5;rw [e5,cond_true] at h; cases e:(s.Def == Aa.mk [])
  ·rw [e] at h; cases h
  ·rw [hz e,o]; rfl
 | false=>
 rw [e5,cond_false] at h;cases e3:(s.Op == 3) with
 | true=>
  have o:=eq_of_beq e3;rw [e3,cond_true] at h; cases e:(s.Def == Aa.mk [])
  ·rw [e] at h; cases h
  ·rw [hz e,o]; rfl
 | false=>
 rw [e3,cond_false] at h;cases e7:(s.Op == 7) with
 | true=>
  have o:=eq_of_beq e7;rw [e7,cond_true] at h; cases e:(s.Def == Aa.mk [])
  ·rw [e] at h; cases h
  ·rw [hz e,o]; rfl
 | false=>
 rw [e7,cond_false] at h;cases e4:(s.Op == 4) with
 | true=>
  rw [e4,cond_true] at h; cases e:BY s.Def
  ·rw [e] at h; cases h
  ·rw [hn e]; rfl
 | false=>
 rw [e4,cond_false] at h;cases e6:(s.Op == 6) with
 | true=>
  rw [e6,cond_true] at h; cases e:BY s.Def
  ·rw [e] at h; cases h
  ·rw [hn e]; rfl
 | false=>
 rw [e6,cond_false] at h;simp only [cond_false];have:(s.Def == Aa.mk [])=true:=by
  cases e:(s.Def == Aa.mk []) with
  | true=>rfl
  | false=>
   rw [e] at h
   revert h
   generalize (s.Op == 8)=b;generalize (s.Op == 9)=b';intro h;cases b <;> (try cases b') <;> simp_all
 rw [hz this]
theorem eX {p:Aw} {n:Am} (h2:(Eu p n).2=true) (hk:(n.Kind == 3)=true) (hd:Hg (Eu p n).1=true):(Eu p n).1.Def∈Ca p:=by
 rw [bH] at *;unfold HR at *;dsimp only at *;have hk:=eq_of_beq hk;cases e0:Ln n
 ·rw [e0] at h2; cases h2
 ·rw [e0] at h2 hd;simp only [Bool.not_true,cond_false] at *;cases e:decide (Fd p n < 0)
  ·rw [e] at h2 hd;simp only [cond_false] at *;have hv:=Rt rfl e;obtain ⟨a1,a2⟩:=OH rfl e;obtain ⟨a3,a4,_⟩:=a2 (by omega) (by omega);have hv':=hv;rw [KY] at hv';simp only [Bool.and_eq_true,decide_eq_true_eq,List.all_eq_true] at hv';have hs:=((hv'.2 _ (BF (xs:=p.Funcs) (i:=n.Func.toNat) (d:=default) (by omega))).2.2 _ (BF (i:=n.Block.toNat) (d:=default) (by omega))).2.2 _ (BF (i:=n.Stmt.toNat) (d:=default) (by omega));rw [m4 hs,bne_iff_ne] at hd;exact qA hv a1 a3 a4 hd
  ·rw [e] at h2; cases h2
theorem uY {p:Aw} {n:Am} (h:(HR p n).2=false):Hg (HR p n).1=false:=by
 unfold HR at *;dsimp only at *;cases e:Ln n
 ·rfl
 ·rw [e] at h;simp only [Bool.not_true,cond_false] at *;cases e:decide (Fd p n < 0)
  ·rw [e] at h; cases h
  ·rfl
theorem ZR:∀ (r:Nat) (out:List AO) (v:Int),0<=v->(∀ f∈out,f.Node = -1/\0<=f.Var/\f.Var < v)->out.Nodup->(Ft r out v).Nodup/\∀ f∈Ft r out v,f.Node = -1/\0<=f.Var/\f.Var < v+(r:Int)
 | 0,out,v,h0,h1,h2=>by
  rw [Ft];exact ⟨h2,fun f h=>by have:=h1 f h; omega⟩
 | r+1,out,v,h0,h1,h2=>by
  rw [Ft];obtain ⟨a,b⟩:=ZR r (out++[AO.mk (-1) v]) (v+1) (by omega) (fun f h=>(List.mem_append.1 h).elim (fun h=>by have:=h1 f h; omega) fun h=>by rw [List.mem_singleton.1 h]; exact ⟨rfl,h0,by show v < v+1; omega⟩)
   (List.nodup_append.2 ⟨h2,by simp,fun x hx y hy e=>by
    rw [List.mem_singleton.1 hy] at e;have:=h1 x hx;rw [e] at this;have h3:v < v:=this.2.2;omega⟩)
  exact ⟨a,fun f h=>by have:=b f h; omega⟩
theorem Wx (p:Aw):∀ (r:Nat) (out:List AO) (i:Int),0<=i->(∀ f∈out,(0<=f.Var/\f.Var < ((Ca p).length:Int))/\0<=f.Node/\f.Node < i)->out.Nodup ->
  (E1 p (Ca p) (Cn p) r out i).Nodup/\∀ f∈E1 p (Ca p) (Cn p) r out i,(0<=f.Var/\f.Var < ((Ca p).length:Int))/\0<=f.Node/\f.Node < i+(r:Int)
 | 0,out,i,h0,h1,h2=>by
  rw [E1];exact ⟨h2,fun f h=>by have:=h1 f h; omega⟩
 | r+1,out,i,h0,h1,h2=>by
  rw [E1];have up:(∀ f∈out,(0<=f.Var/\f.Var < ((Ca p).length:Int))/\0<=f.Node/\f.Node < i+1):=fun f h=>by have:=h1 f h; omega
  have skip:=Wx p r out (i+1) (by omega) up h2;rw [show i+1+(r:Int)=i+((r+1:Nat):Int) by omega] at skip;dsimp only;cases e1:(Eu p ((Cn p).getD i.toNat default)).2
  ·exact skip
  ·simp only [cond_true];cases e2:(((Cn p).getD i.toNat default).Kind == 3)
   ·exact skip
   ·simp only [cond_true];cases e3:Hg (Eu p ((Cn p).getD i.toNat default)).1
    ·exact skip
    ·simp only [cond_true];have hp:=W0 (Ca p) (Eu p ((Cn p).getD i.toNat default)).1.Def;have hq:=Z6 (eX e1 e2 e3);obtain ⟨a,b⟩:=Wx p r (out++[AO.mk i (Br (Ca p) (Eu p ((Cn p).getD i.toNat default)).1.Def)]) (i+1) (by omega)
      (fun f h=>(List.mem_append.1 h).elim (up f) fun h=>by rw [List.mem_singleton.1 h]; exact ⟨⟨hq,hp.2⟩,h0,by show i < i+1; omega⟩)
      (List.nodup_append.2 ⟨h2,by simp,fun x hx y hy e=>by
       rw [List.mem_singleton.1 hy] at e;have:=h1 x hx;rw [e] at this;have h3:i < i:=this.2.2;omega⟩)
     exact ⟨a,fun f h=>by have:=b f h; omega⟩
theorem UO {p:Aw} {kind:Int} {r:List AO×Int} (h:CI p kind=r):r.1.Nodup/\∀ f∈r.1,J6 p f:=by
 subst h;have h0:([]:List AO).Nodup/\∀ f∈([]:List AO),J6 p f:=⟨List.nodup_nil,fun f h=>by cases h⟩;unfold CI;dsimp only;cases (Dp p).2 != 0
 ·cases decide (kind < 1)
  ·cases decide (4 < kind)
   ·cases kind != 1
    ·simp only [cond_false];have h:=Wx p (((((Cn p).length:Nat):Int) - 0).toNat) [] 0 (by omega) (fun f h=>by cases h) List.nodup_nil;generalize E1 p (Ca p) (Cn p) (((((Cn p).length:Nat):Int) - 0).toNat) [] 0=o at h;cases decide (256 < ((o.length:Nat):Int))
     ·exact ⟨h.1,fun f hf=>by have:=h.2 f hf; unfold J6; omega⟩
     ·exact h0
    ·simp only [cond_false,cond_true];have h:=ZR (((((Ca p).length:Nat):Int) - 0).toNat) [] 0 (by omega) (fun f h=>by cases h) List.nodup_nil;generalize Ft (((((Ca p).length:Nat):Int) - 0).toNat) [] 0=o at h;cases decide (256 < ((o.length:Nat):Int))
     ·exact ⟨h.1,fun f hf=>by have:=h.2 f hf; unfold J6; omega⟩
     ·exact h0
   ·exact h0
  ·exact h0
 ·exact h0
theorem mC (p:Aw) (kind:Int):(CI p kind).1.length<=256:=by
 have z:∀ e:Int,((([]:List AO),e).1).length<=256:=fun e=>Nat.zero_le _;have g:∀ o:List AO,(bif decide (256 < ((o.length:Nat):Int)) then (([]:List AO),(7:Int)) else (o,0)).1.length<=256:=fun o=>by
  by_cases c:256 < ((o.length:Nat):Int)
  ·rw [decide_eq_true c]; exact z 7
  ·rw [decide_eq_false c,cond_false]; show o.length<=256; omega
 unfold CI;dsimp only;cases ((Dp p).2 != 0)
 case true=>exact z _
 rw [cond_false];cases decide (kind < 1)
 case true=>exact z _
 rw [cond_false];cases decide (4 < kind)
 case true=>exact z _
 rw [cond_false];cases (kind != 1)
 case true=>exact g _
 exact g _
theorem YF:∀ (r:Nat) (out:List AO) (v:Int),(Ft r out v).length=out.length+r
 | 0,out,v=>by rw [Ft]; rfl
 | r+1,out,v=>by rw [Ft,YF r]; simp only [List.length_append,List.length_cons,List.length_nil]; omega
theorem tZ {p:Aw} {kind:Int} {r:List AO×Int} (h:CI p kind=r) (h2:(r.2 != 0)=false) (hk:kind=2):r.1.length=(Ca p).length:=by
 subst h; subst hk;unfold CI at *;dsimp only at *;cases c:(Dp p).2 != 0
 ·rw [c] at h2;simp only [cond_false,show decide ((2:Int) < 1)=false from rfl,show decide ((4:Int) < 2)=false from rfl,show ((2:Int) != 1)=true from rfl,cond_true] at *;cases d:decide (256 < (((Ft (((((Ca p).length:Nat):Int) - 0).toNat) [] 0).length:Nat):Int))
  ·simp only [cond_false]; rw [YF,List.length_nil]; omega
  ·rw [d] at h2; cases h2
 ·rw [c] at h2;simp only [cond_true] at h2;rw [c] at h2; cases h2
theorem aC {p:Aw} {f:AO} {r:Aa} (hf:J6 p f) (h:J4 p f=r):r.b.length<=6001:=by
 subst h;unfold J4;dsimp only;have hw:=UQ (p:=p) rfl _ (BF (i:=f.Var.toNat) (d:=default) (by unfold J6 at hf; omega));have hl:=SE (p:=p) (n:=(Cn p).getD f.Node.toNat default) rfl;cases decide (0<=f.Node)
 ·simp only [cond_false]; omega
 ·simp only [cond_true,Q9,List.length_cons,List.length_nil]; omega
def Ue (p:Aw) (l:List AO) (b:Int):Aa:=J4 p (l.getD b.toNat default)
theorem Uv (t:List Int) (k n:Int) (hn:n<=9223372036854775807):0<=(Bs t k n).1/\((Bs t k n).1 < n\/(Bs t k n).1=0):=by
 unfold Bs;by_cases h1:n<=1
 ·simp [h1]
 ·by_cases h2:(t.length:Int)<=k
  ·simp [h1,h2]
  ·simp only [decide_eq_false h1,decide_eq_false h2,cond_false];have:=VE (t.getD (k+1 - 1).toNat 0) n (by omega);unfold Qu;exact ⟨this.1,.inl this.2⟩
theorem l9 (t:List Int) (i n:Int):QS 3 2 (Iq t i n).1=true:=by
 unfold Iq;dsimp only;simp only [Bool.cond_eq_ite]
 repeat' split
 all_goals (unfold QS; simp)
 all_goals omega
theorem Z3 (t:List Int) (n:Int):∀ (r:Nat) (i:Int) (b:List Az) (k:Int),b.all (QS 3 2)=true->(H3 t n r i b k).2.all (QS 3 2)=true
 | 0,i,b,k,h=>by rw [H3]; exact h
 | r+1,i,b,k,h=>by
  rw [H3];refine Z3 t n r _ _ _ ?_;rw [List.all_append,h,List.all_cons,l9]; rfl
theorem Xd (t:List Int) (n:Int):∀ (r:Nat) (i:Int) (b:List Az) (k:Int),(H3 t n r i b k).2.length=b.length+r
 | 0,i,b,k=>by rw [H3]; rfl
 | r+1,i,b,k=>by
  rw [H3];rw [Xd t n r,List.length_append]; simp; omega
theorem Xt (t:List Int) (n m:Int):∀ (r:Nat) (i:Int) (b:List A3) (k:Int),b.all (QB 3 2)=true/\b.all QL=true->((EL t n m r i b k).2.all (QB 3 2)=true/\(EL t n m r i b k).2.all QL=true)/\(EL t n m r i b k).2.length=b.length+r
 | 0,i,b,k,h=>by rw [EL]; exact ⟨h,rfl⟩
 | r+1,i,b,k,h=>by
  rw [EL];have h2:=Z3 t n (((Bs t i 4).1:Int).toNat) (Bs t i 4).2 [] (Bs t i 4).1 rfl;have h3:=Xd t n (((Bs t i 4).1:Int).toNat) (Bs t i 4).2 [] (Bs t i 4).1;have hn:=Uv t i 4 (by omega);dsimp only;generalize H3 t n (((Bs t i 4).1:Int).toNat) (Bs t i 4).2 [] (Bs t i 4).1=R at h2 h3;obtain ⟨o0,o1⟩:=R;dsimp only at h2 h3 ⊢;have step:∀ (i':Int) (nm:Aa) (s:Az),QS 3 2 s=true->((EL t n m r i' (b++[A3.mk nm (o1++[s])]) (k+1)).2.all (QB 3 2)=true/\(EL t n m r i' (b++[A3.mk nm (o1++[s])]) (k+1)).2.all QL=true)/\(EL t n m r i' (b++[A3.mk nm (o1++[s])]) (k+1)).2.length=b.length+(r+1):=fun i' nm s hs=>by
   obtain ⟨a1,a2⟩:=Xt t n m r i' (b++[A3.mk nm (o1++[s])]) (k+1) ⟨by
    rw [List.all_append,h.1,List.all_cons];unfold QB;dsimp only;rw [List.all_append,h2,List.all_cons,hs]; rfl,by
    rw [List.all_append,h.2,List.all_cons];unfold QL;dsimp only;rw [List.length_append,h3,decide_eq_true (by simp; omega)]; rfl⟩
   exact ⟨a1,by rw [a2]; simp; omega⟩
  simp only [Bool.cond_eq_ite]
  repeat' split
  all_goals exact step _ _ _ (by unfold QS; simp)
theorem Yn (t:List Int) (n:Int):∀ (r:Nat) (i:Int) (b:List A7) (k:Int),(b.all (QF 3 2)=true/\∀ f∈b,Uh f)->((Iw t n r i b k).2.all (QF 3 2)=true/\∀ f∈(Iw t n r i b k).2,Uh f)/\(Iw t n r i b k).2.length=b.length+r
 | 0,i,b,k,h=>by rw [Iw]; exact ⟨h,rfl⟩
 | r+1,i,b,k,h=>by
  rw [Iw];have hn:=Uv t i 3 (by omega);have h2:=Xt t n (1+(Bs t i 3).1) ((((1+(Bs t i 3).1):Int) - 0).toNat) (Bs t i 3).2 [] 0 ⟨rfl,rfl⟩;dsimp only;generalize EL t n (1+(Bs t i 3).1) ((((1+(Bs t i 3).1):Int) - 0).toNat) (Bs t i 3).2 [] 0=R at h2;obtain ⟨o0,o1⟩:=R;dsimp only at h2 ⊢;obtain ⟨a1,a2⟩:=Yn t n r o0 (b++[A7.mk ([(Aa.mk [109]),(Aa.mk [102]),(Aa.mk [103])].getD (k:Int).toNat default) o1]) (k+1) ⟨by
   rw [List.all_append,h.1,List.all_cons]; unfold QF; dsimp only; rw [h2.1.1]; rfl,fun f hf=>by
   rcases List.mem_append.1 hf with h' | h'
   ·exact h.2 f h'
   ·rw [List.mem_singleton] at h';subst h';have:=h2.2;refine ⟨?_,h2.1.2⟩;dsimp only;rw [this]; simp; omega⟩
  exact ⟨a1,by rw [a2]; simp; omega⟩
theorem RQ {t:List Int} {i:Int} {r:Aw×Int} (h:Nt t i=r):YN r.1:=by
 subst h;unfold Nt;have hn:=Uv t i 3 (by omega);have h2:=Yn t (1+(Bs t i 3).1) ((((1+(Bs t i 3).1):Int) - 0).toNat) (Bs t i 3).2 [] 0 ⟨rfl,fun f h=>by cases h⟩;dsimp only;generalize Iw t (1+(Bs t i 3).1) ((((1+(Bs t i 3).1):Int) - 0).toNat) (Bs t i 3).2 [] 0=R at h2;obtain ⟨o0,o1⟩:=R;dsimp only at h2 ⊢;exact ⟨by show 1<=o1.length/\o1.length<=3; rw [h2.2]; simp; omega,h2.1.2,h2.1.1⟩
theorem Vt {t:List Int} {i:Int} {r:Aw×Int} (h:Nt t i=r):Ez (Aw.mk r.1.Funcs)=true:=R6 (RQ h)
theorem Zp (p:Aw) (t:Aa):∀ (r:Nat) (v:Int),0<=v->v+(r:Int)=(p.Funcs.length:Int)->KR p t r v=Dt (p.Funcs.map (fun x=>x.Name)) t r v
 | 0,v,_,_=>by rw [KR,Dt]
 | r+1,v,h0,h1=>by
  rw [KR,Dt,Ps (d:=default) (by omega),Zp p t r (v+1) (by omega) (by omega)]
theorem qO (p:Aw) (t:Aa):MI p t=Br (EN p) t:=by
 unfold MI Br;rw [MN,List.length_map,Zp p t _ 0 (by omega) (by omega)]
 all_goals (cases Dt (p.Funcs.map (fun x=>x.Name)) t (((((p.Funcs.length:Nat):Int):Int) - 0).toNat) 0 <;> rfl)
theorem dG (p:Aw) (l:List Am) (i:Int):∀ (r k0:Nat) (out:List Int),k0+r=l.length->∀ k:Int,k∈Hv p l i r out (k0:Int)↔k∈out\/(((k0:Int)<=k/\k < (l.length:Int))/\(l.getD k.toNat default).Kind=4/\(Ck p (l.getD k.toNat default)).Targets.getD 0 default=(p.Funcs.getD (l.getD i.toNat default).Func.toNat default).Name)
 | 0,k0,out,h,k=>by
  rw [Hv];exact ⟨.inl,fun hh=>hh.resolve_right (fun h=>by omega)⟩
 | r+1,k0,out,h,k=>by
  rw [Hv,show (k0:Int)+1=((k0+1:Nat):Int) by omega];have ih:=fun out=>dG p l i r (k0+1) out (by omega) k;have up:∀ Q:Int->Prop,((((k0+1:Nat):Int)<=k/\k < (l.length:Int))/\Q k)\/(k=(k0:Int)/\Q (k0:Int))↔((k0:Int)<=k/\k < (l.length:Int))/\Q k:=fun Q=>by
   constructor
   ·rintro (⟨h1,h2⟩ | ⟨rfl,h2⟩)
    ·exact ⟨by omega,h2⟩
    ·exact ⟨by omega,h2⟩
   ·rintro ⟨h1,h2⟩;by_cases e:k=(k0:Int)
    ·exact .inr ⟨e,e ▸ h2⟩
    ·exact .inl ⟨by omega,h2⟩
  have up:=up (fun k=>(l.getD k.toNat default).Kind=4/\(Ck p (l.getD k.toNat default)).Targets.getD 0 default=(p.Funcs.getD (l.getD i.toNat default).Func.toNat default).Name)
  try dsimp only at up
  rw [<- up];cases c1:(l.getD (k0:Int).toNat default).Kind == 4
  ·rw [cond_false,ih];have c1':¬ (l.getD (k0:Int).toNat default).Kind=4:=beq_eq_false_iff_ne.1 c1;exact ⟨fun h=>h.elim .inl (fun h=>.inr (.inl h)),fun h=>h.elim .inl (fun h=>h.elim .inr (fun h=>absurd h.2.1 c1'))⟩
  ·rw [cond_true];have c1':=eq_of_beq c1;change k∈(bif ((Ck p (l.getD (k0:Int).toNat default)).Targets.getD 0 default == (p.Funcs.getD (l.getD i.toNat default).Func.toNat default).Name) then _ else _)↔_;cases c2:(Ck p (l.getD (k0:Int).toNat default)).Targets.getD 0 default == (p.Funcs.getD (l.getD i.toNat default).Func.toNat default).Name
   ·rw [cond_false,ih];have c2':=beq_eq_false_iff_ne.1 c2;exact ⟨fun h=>h.elim .inl (fun h=>.inr (.inl h)),fun h=>h.elim .inl (fun h=>h.elim .inr (fun h=>absurd h.2.2 c2'))⟩
   ·rw [cond_true,ih,List.mem_append,List.mem_singleton];have c2':=eq_of_beq c2;constructor
    ·rintro ((h | h) | h)
     ·exact .inl h
     ·exact .inr (.inr ⟨h,c1',c2'⟩)
     ·exact .inr (.inl h)
    ·rintro (h | h | h)
     ·exact .inl (.inl h)
     ·exact .inr h
     ·exact .inl (.inr h.1)
theorem XD (p:Aw) (l:List Am) (i:Int):∀ (r:Nat) (t:Int) (out:List Int),0<=t->t+(r:Int)=((Ck p (l.getD i.toNat default)).Targets.length:Int)->L5 p l i r out t=out++((Ck p (l.getD i.toNat default)).Targets.drop t.toNat).map fun t=>Ej l (Am.mk 3 (l.getD i.toNat default).Func (Br (Ef (p.Funcs.getD (l.getD i.toNat default).Func.toNat default)) t) 0)
 | 0,t,out,h0,h1=>by rw [L5,List.drop_of_length_le (by omega)]; simp
 | r+1,t,out,h0,h1=>by
  rw [L5,QZ h0 (by omega),List.map_cons]
  try dsimp only
  rw [XD p l i r (t+1) _ (by omega) (by omega),List.append_assoc]
  rfl
theorem UL (p:Aw) (l:List Am) (i:Int) (b:Bool):KJ p l i b=bif b then [Ej l (Am.mk 1 (J5 p (Ck p (l.getD i.toNat default))) (-1) (-1))] else if (Ck p (l.getD i.toNat default)).Op=7\/(Ck p (l.getD i.toNat default)).Op=8 then (Ck p (l.getD i.toNat default)).Targets.map (fun t=>Ej l (Am.mk 3 (l.getD i.toNat default).Func (Br (Ef (p.Funcs.getD (l.getD i.toNat default).Func.toNat default)) t) 0)) else [Ej l (Am.mk 3 (l.getD i.toNat default).Func (l.getD i.toNat default).Block ((l.getD i.toNat default).Stmt+1))]:=by
 have hL:=XD p l i ((((((Ck p (l.getD i.toNat default)).Targets.length:Nat):Int):Int) - 0).toNat) 0 [] (by omega) (by omega);rw [show (0:Int).toNat=0 from rfl,List.drop_zero,List.nil_append] at hL;cases b
 ·rw [cond_false];have j1:L9 p l i true=_:=hL;have j0:L9 p l i false=[Ej l (Am.mk 3 (l.getD i.toNat default).Func (l.getD i.toNat default).Block ((l.getD i.toNat default).Stmt+1))]:=rfl;change (bif (Ck p (l.getD i.toNat default)).Op == 7 then L9 p l i true else L9 p l i ((Ck p (l.getD i.toNat default)).Op == 8))=_;by_cases c7:(Ck p (l.getD i.toNat default)).Op=7
  ·rw [beq_iff_eq.2 c7,cond_true,j1,if_pos (.inl c7)]
  rw [beq_eq_false_iff_ne.2 c7,cond_false];by_cases c8:(Ck p (l.getD i.toNat default)).Op=8
  ·rw [beq_iff_eq.2 c8,j1,if_pos (.inr c8)]
  rw [beq_eq_false_iff_ne.2 c8,j0,if_neg (by omega)]
 ·rw [cond_true];change [(MD l (MI p ((Ck p (l.getD i.toNat default)).Targets.getD 0 default))).1]=_;rw [qO]; rfl
theorem mJ {p:Aw} {l:List Am} {i:Int} (h3:(l.getD i.toNat default).Kind=3):F6 p l i=(F5 p (l.getD i.toNat default) (Ck p (l.getD i.toNat default))).map (Ej l):=by
 unfold F6;dsimp only;change (bif (l.getD i.toNat default).Kind == 1 then _ else bif (l.getD i.toNat default).Kind == 2 then _ else bif (Ck p (l.getD i.toNat default)).Op == 9 then _ else bif (Ck p (l.getD i.toNat default)).Op == 3 then KJ p l i ((l.getD i.toNat default).Kind == 3) else KJ p l i false)=_;rw [UL,UL,h3,show ((3:Int) == 1)=false from rfl,show ((3:Int) == 2)=false from rfl,show ((3:Int) == 3)=true from rfl,cond_false,cond_false,cond_true,cond_false];unfold F5 MD;generalize Ck p (l.getD i.toNat default)=s;by_cases c9:s.Op=9
 ·rw [beq_iff_eq.2 c9,if_neg (by omega),if_neg (by omega),if_pos c9]; rfl
 rw [beq_eq_false_iff_ne.2 c9,cond_false];by_cases c3:s.Op=3
 ·rw [beq_iff_eq.2 c3,if_neg (by omega),if_neg (by omega),if_neg c9,if_pos c3]; rfl
 rw [beq_eq_false_iff_ne.2 c3,cond_false];by_cases c7:s.Op=7\/s.Op=8
 ·rw [if_pos c7,if_pos c7,List.map_map]; rfl
 rw [if_neg c7,if_neg c7,if_neg c9,if_neg c3]; rfl
theorem gQ {p:Aw} {l:List Am} {i:Int} (h4:(l.getD i.toNat default).Kind=4) (h3:(Ck p (l.getD i.toNat default)).Op=3):F6 p l i=[Ej l (Am.mk 3 (l.getD i.toNat default).Func (l.getD i.toNat default).Block ((l.getD i.toNat default).Stmt+1))]:=by
 unfold F6;dsimp only;change (bif (l.getD i.toNat default).Kind == 1 then _ else bif (l.getD i.toNat default).Kind == 2 then _ else bif (Ck p (l.getD i.toNat default)).Op == 9 then _ else bif (Ck p (l.getD i.toNat default)).Op == 3 then KJ p l i ((l.getD i.toNat default).Kind == 3) else _)=_;rw [UL,h4,h3,show ((4:Int) == 3)=false from rfl,cond_false,if_neg (by omega)]; rfl
theorem pU {p:Aw} {l:List Am} {i:Int} (h1:(l.getD i.toNat default).Kind=1):F6 p l i=[Ej l (Am.mk 3 (l.getD i.toNat default).Func 0 0)]:=by
 unfold F6;rw [h1]; rfl
theorem vN {p:Aw} {l:List Am} {i:Int} (h2:(l.getD i.toNat default).Kind=2):F6 p l i=Hv p l i (((((l.length:Nat):Int):Int) - 0).toNat) [] 0:=by
 unfold F6;rw [h2]; rfl
theorem OF {p:Aw} {l:List Am} {i:Int} {r:List Int} (hck:Pc p) (hl:l=nF 0 p.Funcs) (hi:0<=i/\i < (l.length:Int)) (h:F6 p l i=r):∀ x∈r,0<=x/\x < (l.length:Int):=by
 subst hl; subst h;intro x hx;have hn:(nF 0 p.Funcs).getD i.toNat default∈nF 0 p.Funcs:=BF (by omega);obtain ⟨r1,r2⟩:=Sd hn;have hk:((nF 0 p.Funcs).getD i.toNat default).Kind=1\/((nF 0 p.Funcs).getD i.toNat default).Kind=2\/((nF 0 p.Funcs).getD i.toNat default).Kind=3\/((nF 0 p.Funcs).getD i.toNat default).Kind=4:=by omega
 rcases hk with hk | hk | hk | hk
 ·rw [pU hk,List.mem_singleton] at hx;rw [hx];refine Uu (Uw hck hn ((nF 0 p.Funcs).getD i.toNat default,_) ?_).2;unfold Na; rw [if_pos hk]; exact List.mem_singleton.2 rfl
 ·rw [vN hk] at hx;have h0:=dG p (nF 0 p.Funcs) i (((((nF 0 p.Funcs).length:Nat):Int):Int) - 0).toNat 0 [] (by omega) x;rw [show ((0:Nat):Int)=0 from rfl] at h0;rcases h0.1 hx with h | ⟨h1,-,-⟩
  ·cases h
  ·exact h1
 ·rw [mJ hk,List.mem_map] at hx;obtain ⟨b,hb,e⟩:=hx;rw [<- e];exact Uu (Uw hck hn _ (nP hk hb)).2
 ·obtain ⟨o1,o2⟩:=XZ hn hk;rw [gQ hk o1,List.mem_singleton] at hx;rw [hx];exact Uu (Uw hck o2 _ (jO (p:=p) (n:=Am.mk 3 ((nF 0 p.Funcs).getD i.toNat default).Func ((nF 0 p.Funcs).getD i.toNat default).Block ((nF 0 p.Funcs).getD i.toNat default).Stmt) rfl o1).2).2
theorem Yh (l:List Int) (x:Int):∀ (r:Nat) (i:Int),0<=i->i+(r:Int)=(l.length:Int)->∃ o:Nat,Lx l x r i=(o:Int)/\i.toNat<=o/\o<=l.length/\(∀ k,i.toNat<=k->k < o->l.getD k 0 < x)/\(o < l.length->x<=l.getD o 0)
 | 0,i,h0,h=>⟨i.toNat,by rw [Lx]; omega,Nat.le_refl _,by omega,fun k h1 h2=>by omega,fun hh=>by omega⟩
 | r+1,i,h0,h=>by
  rw [Lx];by_cases c:l.getD i.toNat 0 < x
  ·rw [decide_eq_true c,cond_true];obtain ⟨o,h1,h2,h3,h4,h5⟩:=Yh l x r (i+1) (by omega) (by omega);refine ⟨o,h1,by omega,h3,fun k k1 k2=>?_,h5⟩;by_cases e:k=i.toNat
   ·rw [e]; exact c
   ·exact h4 k (by omega) k2
  ·rw [decide_eq_false c,cond_false];exact ⟨i.toNat,by omega,Nat.le_refl _,by omega,fun k h1 h2=>by omega,fun hh=>by omega⟩
theorem WK {l:List Int} {n x:Int} (h:K5 l n) (hx:0<=x/\x < n):K5 (GY l x) n/\∀ y,y∈GY l x↔y=x\/y∈l:=by
 obtain ⟨o,h1,-,h3,h4,h5⟩:=Yh l x (((((l.length:Nat):Int):Int) - 0).toNat) 0 (by omega) (by omega);have core:(o < l.length->x < l.getD o 0)->K5 ((((l.take (((o:Nat):Int):Int).toNat).drop 0)++[x])++((l.take l.length).drop (((o:Nat):Int):Int).toNat)) n/\∀ y,y∈((((l.take (((o:Nat):Int):Int).toNat).drop 0)++[x])++((l.take l.length).drop (((o:Nat):Int):Int).toNat))↔y=x\/y∈l:=by
  intro hgt;rw [Int.toNat_natCast,List.drop_zero,List.take_length];obtain ⟨p1,p2⟩:=(bU l n).1 h;have ht:∀ y∈l.take o,y < x:=by
   intro y hy;obtain ⟨k,hk,e⟩:=List.mem_iff_getElem.1 hy;rw [List.length_take] at hk;have:=h4 k (by omega) (by omega);rw [V6 (by omega)] at this;rw [List.getElem_take] at e;rw [<- e]; exact this
  have hd:∀ y∈l.drop o,x < y:=by
   intro y hy;obtain ⟨k,hk,e⟩:=List.mem_iff_getElem.1 hy;rw [List.length_drop] at hk;rw [List.getElem_drop] at e;have h0:=hgt (by omega);by_cases k0:k=0
   ·subst k0;rw [V6 (by omega)] at h0;rw [<- e]; exact h0
   ·have h6:=TT h o (k - 1) (by omega);rw [show o+(k - 1)+1=o+k by omega,V6 (k:=o+k) (by omega),e] at h6;omega
  refine ⟨(bU _ _).2 ⟨List.pairwise_append.2 ⟨List.pairwise_append.2 ⟨p1.sublist (List.take_sublist _ _),List.pairwise_singleton _ _,fun a ha b hb=>?_⟩,p1.sublist (List.drop_sublist _ _),fun a ha b hb=>?_⟩,fun y hy=>?_⟩,fun y=>?_⟩
  ·rw [List.mem_singleton] at hb; rw [hb]; exact ht a ha
  ·rcases List.mem_append.1 ha with ha | ha
   ·exact Int.lt_trans (ht a ha) (hd b hb)
   ·rw [List.mem_singleton] at ha; rw [ha]; exact hd b hb
  ·rcases List.mem_append.1 hy with hy | hy
   ·rcases List.mem_append.1 hy with hy | hy
    ·exact p2 y (List.mem_of_mem_take hy)
    ·rw [List.mem_singleton] at hy; rw [hy]; exact hx
   ·exact p2 y (List.mem_of_mem_drop hy)
  ·rw [List.mem_append,List.mem_append,List.mem_singleton];constructor
   ·rintro ((hy | hy) | hy)
    ·exact .inr (List.mem_of_mem_take hy)
    ·exact .inl hy
    ·exact .inr (List.mem_of_mem_drop hy)
   ·rintro (hy | hy)
    ·exact .inl (.inr hy)
    ·rw [<- List.take_append_drop o l,List.mem_append] at hy;rcases hy with hy | hy
     ·exact .inl (.inl hy)
     ·exact .inr hy
 unfold GY;rw [h1];dsimp only;by_cases c:o < l.length
 ·rw [decide_eq_true (by omega:((o:Nat):Int) < ((l.length:Nat):Int)),cond_true];have h6:=h5 c;rw [show (l.getD (((o:Nat):Int)).toNat 0)=l.getD o 0 by rw [Int.toNat_natCast]];by_cases e:l.getD o 0=x
  ·rw [beq_iff_eq.2 e,cond_true];refine ⟨h,fun y=>⟨.inr,?_⟩⟩;rintro (rfl | hy)
   ·rw [<- e]; exact BF c
   ·exact hy
  ·rw [beq_eq_false_iff_ne.2 e,cond_false];exact core fun _=>by omega
 ·rw [decide_eq_false (by omega:¬ ((o:Nat):Int) < ((l.length:Nat):Int)),cond_false];exact core fun hh=>absurd hh c
theorem VF.ins {S P:List (List Int)} {n a b:Nat} (h:VF S P n) (ha:a < n) (hb:b < n):VF (S.set a (GY (S.getD a []) (b:Int))) (P.set b (GY (P.getD b []) (a:Int))) n:=by
 have hA:=WK (h.sa a ha) (x:=(b:Int)) (by omega);have hB:=WK (h.pa b hb) (x:=(a:Int)) (by omega);have e1:=h.sl; have e2:=h.pl
 refine ⟨by rw [List.length_set]; exact e1,by rw [List.length_set]; exact e2,fun k hk=>?_,fun k hk=>?_,fun i k hi hk=>?_⟩
 ·rw [RG (by omega)]; split
  ·exact hA.1
  ·exact h.sa k hk
 ·rw [RG (by omega)]; split
  ·exact hB.1
  ·exact h.pa k hk
 ·rw [RG (by omega),RG (by omega)];by_cases c1:i=a
  ·rw [if_pos c1];by_cases c2:k=b
   ·rw [if_pos c2];exact ⟨fun _=>(hB.2 _).2 (.inl (by omega)),fun _=>(hA.2 _).2 (.inl (by omega))⟩
   ·rw [if_neg c2,hA.2,<- h.mi i k hi hk,c1];exact ⟨fun hh=>hh.resolve_left (by omega),.inr⟩
  ·rw [if_neg c1];by_cases c2:k=b
   ·rw [if_pos c2,hB.2,h.mi i k hi hk,c2];exact ⟨.inr,fun hh=>hh.resolve_left (by omega)⟩
   ·rw [if_neg c2]; exact h.mi i k hi hk
theorem eH {S P:List (List Int)} {n:Nat} {i x:Int} {r1 r2:List Int} (h:VF S P n) (e1:GY (S.getD i.toNat []) x=r1) (e2:GY (P.getD x.toNat []) i=r2) (hi:0<=i/\i < (n:Int)) (hx:0<=x/\x < (n:Int)):VF (S.set i.toNat r1) (P.set x.toNat r2) n:=by
 have:=h.ins (a:=i.toNat) (b:=x.toNat) (by omega) (by omega);rw [show ((i.toNat:Nat):Int)=i by omega,show ((x.toNat:Nat):Int)=x by omega] at this;rw [<- e1,<- e2]; exact this
theorem ZJ {w:Int} (h0:0<=w) (h1:w<=256):ET w (Cz w):=by
 refine ⟨⟨h0,h1,?_,fun b _ _=>Yl _ b⟩,rfl⟩
 simp [Cz]; omega
theorem VZ {w:Int} {s:AE} (h:ET w s) {b:Int} (hb:0<=b/\b < w):ET w (DJ s b):=by
 obtain ⟨⟨h0,h1,h2,h3⟩,rfl⟩:=h;have he:(List.replicate (((s.Width+63) / 64):Int).toNat 0#64).length=s.Words.length:=by simp; omega
 have e:(DJ s b).Words=s.Words.set (b / 64).toNat ((s.Words.getD (b / 64).toNat 0#64) ||| (1#64 <<< (b % 64).toNat)):=by
  unfold DJ Cz;simp only;have e1:s.Words.take (List.replicate (((s.Width+63) / 64):Int).toNat 0#64).length++(List.replicate (((s.Width+63) / 64):Int).toNat 0#64).drop s.Words.length=s.Words:=by
   rw [he,List.take_length,<- he,List.drop_length,List.append_nil]
  rw [e1,S1 (by omega)]
 refine ⟨⟨h0,h1,?_,fun c c1 c2=>?_⟩,rfl⟩
 ·rw [e,List.length_set]; exact h2
 ·rw [e,List.length_set] at c2;have c1:s.Width<=c:=c1;have:=h3 c c1 c2;rw [e];unfold Ep at this ⊢;rw [List.getD_eq_getElem?_getD] at this ⊢;rw [List.getElem?_set];by_cases hq:(b / 64).toNat=(c / 64).toNat
  ·rw [if_pos hq,if_pos (by clear e he; omega)];simp only [Option.getD_some,BitVec.getLsbD_or];rw [List.getD_eq_getElem?_getD,hq,this,Bool.false_or,BitVec.getLsbD_shiftLeft];have:¬ (c % 64).toNat=(b % 64).toNat:=by
    omega
   rw [BitVec.getLsbD_one]
   simp
   omega
  ·rw [if_neg hq]; exact this
theorem dQ {w:Int} {s:AE} (h:ET w s) {b:Int} (hb:0<=b/\b < w):(DJ s b).Words=s.Words.set (b / 64).toNat ((s.Words.getD (b / 64).toNat 0#64) ||| (1#64 <<< (b % 64).toNat)):=by
 have hw:=NN h;have he:(List.replicate (((s.Width+63) / 64):Int).toNat 0#64).length=s.Words.length:=by simp; omega
 unfold DJ Cz;simp only;have e1:s.Words.take (List.replicate (((s.Width+63) / 64):Int).toNat 0#64).length++(List.replicate (((s.Width+63) / 64):Int).toNat 0#64).drop s.Words.length=s.Words:=by
  rw [he,List.take_length,<- he,List.drop_length,List.append_nil]
 rw [e1,S1 (by omega)]
theorem OK (s:AE):EO s=true↔Jq s:=by
 have:=U7 (fun r i=>MG s r i) (fun b=>(((s.Words.getD ((b / 64):Int).toNat 0#64) >>> (((BitVec.ofInt 64 (b % 64)).toNat:Int)).toNat) &&& 1#64) == 1#64) false () (fun _=>rfl) (fun _ _=>rfl)
  ((((64*((s.Words.length:Nat):Int)):Int) - s.Width).toNat) s.Width
 have hb:∀ b:Int,((((s.Words.getD ((b / 64):Int).toNat 0#64) >>> (((BitVec.ofInt 64 (b % 64)).toNat:Int)).toNat) &&& 1#64) == 1#64)=Ep s.Words b:=by
  intro b;rw [XQ,S1 (by omega)]; rfl
 simp only [hb] at this;unfold EO Jq;simp only [Bool.cond_eq_ite];by_cases h1:s.Width < 0
 ·simp [h1]; omega
 ·by_cases h2:256 < s.Width
  ·simp [h1,h2]; omega
  ·by_cases h3:(s.Words.length:Int)=(s.Width+63) / 64
   ·rcases this with ⟨e,j,j1,j2,j3⟩ | ⟨e,h⟩
    ·rw [e];simp only [h1,h2,h3,decide_false,bne_self_eq_false,Bool.false_eq_true,if_false,false_iff];rintro ⟨_,_,_,h⟩;rw [h j j1 (by omega)] at j3; cases j3
    ·rw [e];simp only [h1,h2,h3,decide_false,bne_self_eq_false,Bool.false_eq_true,if_false,true_iff];refine ⟨by omega,by omega,trivial,fun b b1 b2=>h b b1 (by omega)⟩
   ·simp [h1,h2,h3]
theorem wD {s:AE} (h:EO s=true):0<=s.Width/\s.Width<=256/\(s.Words.length:Int)=(s.Width+63) / 64:=by
 have:=(OK s).1 h; exact ⟨this.1,this.2.1,this.2.2.1⟩
theorem qR {w:Int} {s:AE} (h:ET w s):EO s=true:=(OK s).2 h.1
def OA (w:Int) (l:List BN) (a b:Int):Prop:=l.length<=12/\(∀ c∈l,(0<=c.From/\c.From < w)/\(0<=c.To/\c.To < w)/\(c.From < a\/(c.From=a/\c.To < b)))/\l.Pairwise (fun x y=>Mb x y=true)
theorem jB (x y:BN):Mb x y=true↔x.From < y.From\/(x.From=y.From/\x.To < y.To):=by
 unfold Mb;by_cases h:x.From < y.From
 ·simp [h]
 ·by_cases h2:x.From=y.From
  ·simp [h2]
  ·simp [h,h2]
theorem OA.next {w:Int} {l:List BN} {a b a' b':Int} (h:OA w l a b) (hab:a < a'\/(a=a'/\b<=b')):OA w l a' b':=
 ⟨h.1,fun c hc=>⟨(h.2.1 c hc).1,(h.2.1 c hc).2.1,by have:=(h.2.1 c hc).2.2; omega⟩,h.2.2⟩
theorem OA.push {w:Int} {l:List BN} {a b:Int} (h:OA w l a b) (hl:l.length < 12) (ha:0<=a/\a < w) (hb:0<=b/\b < w):OA w (l++[⟨a,b⟩]) a (b+1):=by
 refine ⟨by simp; omega,fun c hc=>?_,?_⟩
 ·rcases List.mem_append.1 hc with hc | hc
  ·have:=h.2.1 c hc; exact ⟨this.1,this.2.1,by omega⟩
  ·simp at hc; subst hc; exact ⟨ha,hb,.inr ⟨rfl,by show b < b+1; omega⟩⟩
 ·rw [List.pairwise_append];refine ⟨h.2.2,by simp,fun x hx y hy=>?_⟩
  simp at hy; subst hy
  rw [jB];exact (h.2.1 x hx).2.2
theorem RI.push {g:JE} {f:List Int} {sn:List Bool} {td out:List Int} (hg:VG g) (h:RI g f sn td out) {x:Int} (hx:0<=x/\x < (g.Nodes.length:Int)) (ht:0 < td.length) (hs:sn.getD x.toNat false=false) :
  RI g f (sn.set x.toNat true) (((td.take (((((td.length:Nat):Int) - 1):Int).toNat)).drop 0)++g.Succ.getD x.toNat []) (out++[x]):=by
 have hl:=h.sl;have hn:x ∉ out:=fun hm=>by rw [(h.so x hx.1 hx.2).2 hm] at hs; cases hs
 refine ⟨by simpa using hl,fun y hy=>?_,?_,fun y hy=>?_,fun y h1 h2=>?_,?_⟩
 ·rcases List.mem_append.1 hy with hy | hy
  ·exact h.tm y (List.mem_of_mem_take (by simpa using hy))
  ·exact X7 (hg.sa x hx.1 hx.2) hy
 ·refine List.nodup_append.2 ⟨h.on,by simp,fun a ha b hb=>?_⟩;rw [List.mem_singleton] at hb; subst hb; intro e; exact hn (e ▸ ha)
 ·rcases List.mem_append.1 hy with hy | hy
  ·exact h.oi y hy
  ·rw [List.mem_singleton] at hy; rw [hy]; exact hx
 ·rw [Un (by omega),List.mem_append,List.mem_singleton];by_cases e:y.toNat=x.toNat
  ·rw [if_pos e]; exact ⟨fun _=>.inr (by omega),fun _=>rfl⟩
  ·rw [if_neg e]; exact (h.so y h1 h2).trans ⟨.inl,fun hh=>hh.resolve_right (fun e'=>e (by rw [e']))⟩
 ·have h1:=h.pt;have h2:=bO (S:=g.Succ) (sn:=sn) (k:=x.toNat) (by omega) hs g.Nodes.length (by omega);simp only [List.length_append,List.drop_zero,List.length_take];omega
def R9 (w:Int) (t:A8):Prop:=D3 t=true/\t.Gen.Width=w
theorem eW {t:A8} (h:D3 t=true):Jq t.Gen/\Jq t.Kill/\t.Gen.Width=t.Kill.Width/\t.Copies.length<=64:=by
 unfold D3 at h;cases h1:EO t.Gen with
 | false=>simp [h1] at h
 | true=>
  cases h2:EO t.Kill with
  | false=>simp [h1,h2] at h
  | true=>
   by_cases h3:t.Gen.Width=t.Kill.Width
   ·by_cases h4:64 < (t.Copies.length:Int)
    ·simp [h1,h2,h3,h4] at h
    ·exact ⟨(OK _).1 h1,(OK _).1 h2,h3,by omega⟩
   ·simp [h1,h2,h3] at h
theorem aE {t:A8} (h:D3 t=true):0<=t.Gen.Width/\t.Gen.Width<=256/\(t.Gen.Words.length:Int)=(t.Gen.Width+63) / 64:=by
 have:=(eW h).1; exact ⟨this.1,this.2.1,this.2.2.1⟩
theorem RB {w:Int} {s:AE} (h:ET w s) (b:Int):Da s b=(decide (0<=b) && (decide (b < w) && Ep s.Words b)):=by
 have hv:=qR h;have hw:=NN h;unfold Da;simp only [hv,cond_true];by_cases h0:0<=b
 ·by_cases h1:b < s.Width
  ·rw [S1 (by omega),XQ];simp only [decide_eq_true h0,decide_eq_true h1,decide_eq_true (show b < w by omega),cond_true,Bool.true_and]
   rfl
  ·simp only [decide_eq_true h0,decide_eq_false h1,decide_eq_false (show ¬ b < w by omega),cond_true,cond_false,Bool.true_and,Bool.false_and]
 ·simp only [decide_eq_false h0,cond_false,Bool.false_and]
theorem kP {w:Int} (h0:0<=w) (h1:w<=256) (x:Int):Da (Cz w) x=false:=by
 rw [RB (ZJ h0 h1)];have:Ep (Cz w).Words x=false:=Yl _ _;rw [this]; simp
theorem jW {w:Int} {s:AE} (h:ET w s) {b:Int} (hb:0<=b/\b < w) (x:Int):Da (DJ s b) x=(Da s x || x == b):=by
 have hw:=NN h;rw [RB (VZ h hb),RB h,dQ h hb];by_cases hx:0<=x
 ·rw [fX hb.1 (by omega) x hx];by_cases h1:x < w
  ·simp [hx,h1]
  ·have:(x == b)=false:=by rw [beq_eq_false_iff_ne]; omega
   simp [h1,this]
 ·have:(x == b)=false:=by rw [beq_eq_false_iff_ne]; omega
  simp [hx,this]
theorem UM (t:A8) (s:AE) (a:Int):∀ (m:Nat) (o0:Int) (o1:List (BitVec 64)) (b:Int),1<=m->s.Width < b+m->IF t s a m o0 o1 b≠.oof
 | 0,o0,o1,b,h0,h=>by omega
 | m+1,o0,o1,b,h0,h=>by
  rw [IF];cases Da s a with
  | false=>intro h; cases h
  | true=>
   by_cases hb:b < s.Width
   ·simp only [cond_true,decide_eq_true hb];cases JS t a b with
    | false=>exact UM t s a m _ _ (b+1) (by omega) (by omega)
    | true=>exact UM t s a m _ _ (b+1) (by omega) (by omega)
   ·simp only [cond_true,decide_eq_false hb,cond_false];intro h; cases h
theorem tA {l:List Int} {n:Int} (hr:HQ l n=true):∀ x∈l,0<=x/\x < n:=by
 have:=U7 (fun r i=>Ht l n r i) (fun i=>bif decide (l.getD i.toNat 0 < 0) then true else bif decide (n<=l.getD i.toNat 0) then true else bif decide (0 < i) then decide (l.getD i.toNat 0<=l.getD (i - 1).toNat 0) else false) false () (fun _=>rfl)
  (fun r i=>by
   show Ht l n (r+1) i=_;rw [Ht];cases decide (l.getD i.toNat 0 < 0) <;> cases decide (n<=l.getD i.toNat 0) <;> cases decide (0 < i) <;> rfl) ((((l.length:Nat):Int) - 0).toNat) 0
 unfold HQ at hr;rcases this with ⟨e,j,j1,j2,j3⟩ | ⟨e,h⟩
 ·rw [e] at hr; simp at hr
 ·intro x hx;obtain ⟨j,j1,j2,rfl⟩:=gF.1 hx;have:=h j j1 (by omega)
  simp [Bool.cond_eq_ite,-List.getD_eq_getElem?_getD] at this
  omega
structure Gz (s:A6):Prop where
 w:0<=s.Width/\s.Width<=256
 n:1<=s.Deps.length/\s.Deps.length<=256
 tl:s.Transfers.length=s.Deps.length
 bl:s.Boundary.length=s.Deps.length
 ris:∀ j:Int,0<=j->j < (s.Deps.length:Int)->HQ (s.Deps.getD j.toNat []) (s.Deps.length:Int)=true
 edges:QR s s.Deps.length 0<=1024
 tr:∀ t∈s.Transfers,R9 s.Width t
 bd:∀ b∈s.Boundary,ET s.Width b
def Qg (s:A6) (j:Int):Prop:=HQ (s.Deps.getD j.toNat []) (s.Boundary.length:Int)=true/\R9 s.Width (s.Transfers.getD j.toNat default)/\ET s.Width (s.Boundary.getD j.toNat default)
theorem tR {s:A6} (hd:s.Deps.length=s.Boundary.length) (ht:s.Transfers.length=s.Boundary.length) :
  (∀ j:Int,0<=j->j < (s.Boundary.length:Int)->Qg s j)↔(∀ j:Int,0<=j->j < (s.Deps.length:Int)->HQ (s.Deps.getD j.toNat []) (s.Deps.length:Int)=true)/\(∀ t∈s.Transfers,R9 s.Width t)/\(∀ b∈s.Boundary,ET s.Width b):=by
 constructor
 ·intro h;refine ⟨fun j j1 j2=>?_,fun t ht'=>?_,fun b hb=>?_⟩
  ·have:=(h j j1 (by omega)).1; rw [hd]; exact this
  ·obtain ⟨j,j1,j2,rfl⟩:=(NK (d:=default)).1 ht';exact (h j j1 (by omega)).2.1
  ·obtain ⟨j,j1,j2,rfl⟩:=(NK (d:=default)).1 hb;exact (h j j1 (by omega)).2.2
 ·rintro ⟨h1,h2,h3⟩ j j1 j2;exact ⟨by rw [<- hd]; exact h1 j j1 (by omega),h2 _ (BF (by omega)),h3 _ (BF (by omega))⟩
theorem Gz.dep_mem {s:A6} (h:Gz s) {j:Int} (h0:0<=j) (h1:j < (s.Deps.length:Int)):∀ x∈s.Deps.getD j.toNat [],0<=x/\x < (s.Deps.length:Int):=tA (h.ris j h0 h1)
theorem Xi {s:A6} (hv:Gz s):s.Boundary.length*s.Width.toNat<=65536:=by
 have h1:=hv.n; have h2:=hv.bl; have h3:=hv.w
 exact Nat.le_trans (Nat.mul_le_mul (show s.Boundary.length<=256 by omega) (show s.Width.toNat<=256 by omega)) (by decide)
theorem oT {s:A6} (hv:Gz s):((s.Boundary.length*s.Width.toNat:Nat):Int)=(s.Boundary.length:Int)*s.Width:=by
 have:=hv.w.1;rw [Int.natCast_mul,Int.toNat_of_nonneg this]
theorem aI (s:A6):∀ (m:Nat) (e i:Int),(GX s m e i=.brk (e+QR s m i)/\(∀ j,i<=j->j < i+m->Qg s j))\/(GX s m e i=.ret false/\¬ (∀ j,i<=j->j < i+m->Qg s j))
 | 0,e,i=>.inl ⟨by simp [GX,QR],fun j h1 h2=>by omega⟩
 | m+1,e,i=>by
  rw [GX];have ih:=aI s m (e+(((s.Deps.getD (i:Int).toNat []).length:Nat):Int)) (i+1);by_cases ho:Qg s i
  ·obtain ⟨h1,⟨h2,h3⟩,h4,h5⟩:=ho;have h4':=(OK _).2 h4;simp only [h1,h2,h3,h4',h5,Bool.not_true,bne_self_eq_false,cond_false];rcases ih with ⟨a,b⟩ | ⟨a,b⟩
   ·refine .inl ⟨?_,fun j j1 j2=>?_⟩
    ·rw [a]; simp only [QR]; congr 1; omega
    ·rcases Int.lt_or_eq_of_le j1 with hlt | rfl
     ·exact b j (by omega) (by omega)
     ·exact ⟨h1,⟨h2,h3⟩,h4,h5⟩
   ·exact .inr ⟨a,fun h=>b fun j j1 j2=>h j (by omega) (by omega)⟩
  ·refine .inr ⟨?_,fun h=>ho (h i (by omega) (by omega))⟩;unfold Qg R9 ET at ho;rw [<- OK] at ho;cases h1:HQ (s.Deps.getD i.toNat []) (s.Boundary.length:Int) with
   | false=>rfl
   | true=>
    cases h2:D3 (s.Transfers.getD i.toNat default) with
    | false=>rfl
    | true=>
     cases h3:((s.Transfers.getD i.toNat default).Gen.Width != s.Width) with
     | true=>simp only [h3]; rfl
     | false=>
      cases h4:EO (s.Boundary.getD i.toNat default) with
      | false=>simp only [h3]; rfl
      | true=>
       cases h5:((s.Boundary.getD i.toNat default).Width != s.Width) with
       | true=>simp only [h3,h5]; rfl
       | false=>
        exfalso;apply ho;rw [h1,h2,h4];exact ⟨rfl,⟨rfl,by simpa [-List.getD_eq_getElem?_getD] using h3⟩,rfl,by simpa [-List.getD_eq_getElem?_getD] using h5⟩
theorem ZS (s:A6):Fx s=true↔Gz s:=by
 unfold Fx;simp only [Bool.cond_eq_ite];by_cases h1:s.Width < 0
 ·simp only [h1,decide_true,if_true]; exact ⟨fun h=>(by cases h),fun h=>by have:=h.w; omega⟩
 by_cases h2:256 < s.Width
 ·simp only [h1,h2,decide_true,decide_false,if_true,if_false,Bool.false_eq_true]; exact ⟨fun h=>(by cases h),fun h=>by have:=h.w; omega⟩
 by_cases h3:(s.Boundary.length:Int) < 1
 ·simp only [h1,h2,h3,decide_true,decide_false,if_true,if_false,Bool.false_eq_true]; exact ⟨fun h=>(by cases h),fun h=>by have:=h.n; have:=h.bl; omega⟩
 by_cases h4:256 < (s.Boundary.length:Int)
 ·simp only [h1,h2,h3,h4,decide_true,decide_false,if_true,if_false,Bool.false_eq_true]; exact ⟨fun h=>(by cases h),fun h=>by have:=h.n; have:=h.bl; omega⟩
 by_cases h5:(s.Deps.length:Int)=(s.Boundary.length:Int)
 case neg=>
  have h5':((s.Deps.length:Int) != (s.Boundary.length:Int))=true:=by simp [h5]
  simp only [h1,h2,h3,h4,h5',decide_true,decide_false,if_true,if_false,Bool.false_eq_true]; exact ⟨fun h=>(by cases h),fun h=>by have:=h.bl; omega⟩
 have h5':((s.Deps.length:Int) != (s.Boundary.length:Int))=false:=by simp [h5]
 by_cases h6:(s.Transfers.length:Int)=(s.Boundary.length:Int)
 case neg=>
  have h6':((s.Transfers.length:Int) != (s.Boundary.length:Int))=true:=by simp [h6]
  simp only [h1,h2,h3,h4,h5',h6',decide_true,decide_false,if_true,if_false,Bool.false_eq_true]; exact ⟨fun h=>(by cases h),fun h=>by have:=h.bl; have:=h.tl; omega⟩
 have h6':((s.Transfers.length:Int) != (s.Boundary.length:Int))=false:=by simp [h6]
 simp only [h1,h2,h3,h4,h5',h6',decide_false,if_false,Bool.false_eq_true];have hm:((((s.Boundary.length:Nat):Int):Int) - 0).toNat=s.Boundary.length:=by omega
 rw [hm];have hall:=tR (s:=s) (by omega) (by omega);rcases aI s s.Boundary.length 0 0 with ⟨e,p⟩ | ⟨e,p⟩
 ·rw [e];simp only [decide_eq_true_eq];have hp:=hall.1 (fun j j1 j2=>p j j1 (by omega));constructor
  ·intro h;exact ⟨by omega,by omega,by omega,by omega,hp.1,by rw [show s.Deps.length=s.Boundary.length by omega]; omega,hp.2.1,hp.2.2⟩
  ·intro h;have:=h.edges;rw [show s.Deps.length=s.Boundary.length by omega] at this; omega
 ·rw [e];exact ⟨fun h=>(by cases h),fun h=>absurd (fun j j1 j2=>(hall.2 ⟨h.ris,h.tr,h.bd⟩) j j1 (by omega)) p⟩
theorem nU (s:A6) (n b:Int):HS s n b=0↔Gz s/\(0<=n/\n < (s.Deps.length:Int))/\0<=b/\b < s.Width:=by
 unfold HS;cases e:Fx s with
 | false=>
  exact ⟨fun h=>by simp at h,fun h=>by rw [(ZS s).2 h.1] at e; cases e⟩
 | true=>
  have hv:=(ZS s).1 e;have hb:=hv.bl;simp only [Bool.not_true,cond_false];by_cases h1:n < 0
  ·rw [decide_eq_true h1]; exact ⟨fun h=>by simp at h,fun h=>by omega⟩
  ·by_cases h2:(s.Boundary.length:Int)<=n
   ·rw [decide_eq_false h1,decide_eq_true h2]; exact ⟨fun h=>by simp at h,fun h=>by omega⟩
   ·by_cases h3:b < 0
    ·rw [decide_eq_false h1,decide_eq_false h2,decide_eq_true h3]; exact ⟨fun h=>by simp at h,fun h=>by omega⟩
    ·by_cases h4:s.Width<=b
     ·rw [decide_eq_false h1,decide_eq_false h2,decide_eq_false h3,decide_eq_true h4]; exact ⟨fun h=>by simp at h,fun h=>by omega⟩
     ·rw [decide_eq_false h1,decide_eq_false h2,decide_eq_false h3,decide_eq_false h4]; exact ⟨fun _=>⟨hv,⟨by omega,by omega⟩,by omega,by omega⟩,fun _=>rfl⟩
theorem pB {s:A6} {n b r:Int} (h:HS s n b=r) (h0:(r != 0)=false):Gz s/\(0<=n/\n < (s.Deps.length:Int))/\0<=b/\b < s.Width:=(nU s n b).1 (h.trans (by simpa using h0))
theorem QT {s:A6} {level n m c:Int} (hl:0<=level) (m0:0<=m) (m1:m < (s.Boundary.length:Int)) (hw:0<=s.Width):∀ (r:Nat) (d:List Int) (more:Bool) (a:Int),0<=a->a<=s.Width->s.Width - a < r->(d.length:Int)=(s.Boundary.length:Int)*s.Width ->
  ∃ d' more',E7 s level n m c r d more a=.brk (d',more')/\DQ d more d' more'
 | 0,d,more,a,h0,ha,h1,hd=>by omega
 | r+1,d,more,a,h0,ha,h1,hd=>by
  rw [E7];cases e1:((d.getD (((n*s.Width)+c):Int).toNat 0) == level) with
  | false=>exact ⟨d,more,rfl,DQ.refl _ _⟩
  | true=>
   by_cases e2:a < s.Width
   ·rw [decide_eq_true e2];have hi:=Tg m0 m1 hw;cases e3:((d.getD (((m*s.Width)+a):Int).toNat 0) == 0) with
    | false=>
     simp only [cond_true,cond_false];exact QT hl m0 m1 hw r d more (a+1) (by omega) (by omega) (by omega) hd
    | true=>
     simp only [cond_true];cases Ip (s.Transfers.getD (m:Int).toNat default) a c with
     | false=>exact QT hl m0 m1 hw r d more (a+1) (by omega) (by omega) (by omega) hd
     | true=>
      simp only [cond_true];obtain ⟨d',m',q1,q2⟩:=QT (n:=n) (c:=c) hl m0 m1 hw r (d.set (((m*s.Width)+a):Int).toNat (level+1)) true (a+1) (by omega) (by omega) (by omega) (by rw [List.length_set]; exact hd);have hz:=uT (d:=d) (i:=(((m*s.Width)+a):Int).toNat) (v:=level+1) (by omega) (by simpa using e3) (by omega);exact ⟨d',m',q1,⟨by rw [q2.len,List.length_set],by have:=q2.le; omega,fun _=>.inr (by have:=q2.le; omega)⟩⟩
   ·rw [decide_eq_false e2]; exact ⟨d,more,rfl,DQ.refl _ _⟩
theorem Xq {s:A6} {level n m:Int} (hl:0<=level) (m0:0<=m) (m1:m < (s.Boundary.length:Int)) (hw:0<=s.Width):∀ (r:Nat) (d:List Int) (more:Bool) (c:Int),(d.length:Int)=(s.Boundary.length:Int)*s.Width ->
  DQ d more (IG s level n m r d more c).1 (IG s level n m r d more c).2
 | 0,d,more,c,hd=>DQ.refl _ _
 | r+1,d,more,c,hd=>by
  obtain ⟨d',m',e,q⟩:=QT (n:=n) (c:=c) hl m0 m1 hw (s.Width.toNat+1) d more 0 (by omega) (by omega) (by omega) hd;rw [IG,e];exact q.trans (Xq hl m0 m1 hw r d' m' (c+1) (by rw [q.len]; exact hd))
theorem Yk {s:A6} (hv:Gz s) {level n:Int} (hl:0<=level) (n0:0<=n) (n1:n < (s.Boundary.length:Int)):∀ (r:Nat) (d:List Int) (more:Bool) (i:Int),0<=i->i+r=((s.Deps.getD n.toNat []).length:Int)->(d.length:Int)=(s.Boundary.length:Int)*s.Width ->
  DQ d more (Jn s level n r d more i).1 (Jn s level n r d more i).2
 | 0,d,more,i,h0,h1,hd=>DQ.refl _ _
 | r+1,d,more,i,h0,h1,hd=>by
  have hb:=hv.bl;have hm:=hv.dep_mem n0 (by omega) ((s.Deps.getD n.toNat []).getD i.toNat 0) (BF (by omega));have q:=Xq (n:=n) (m:=(s.Deps.getD n.toNat []).getD i.toNat 0) hl hm.1 (by omega) hv.w.1 (((s.Width:Int) - 0).toNat) d more 0 hd;rw [Jn];exact q.trans (Yk hv hl n0 n1 r _ _ (i+1) (by omega) (by omega) (by rw [q.len]; exact hd))
theorem Zm {s:A6} (hv:Gz s) {level:Int} (hl:0<=level):∀ (r:Nat) (d:List Int) (more:Bool) (n:Int),0<=n->n+r=(s.Boundary.length:Int)->(d.length:Int)=(s.Boundary.length:Int)*s.Width ->
  DQ d more (HY s level r d more n).1 (HY s level r d more n).2
 | 0,d,more,n,h0,h1,hd=>DQ.refl _ _
 | r+1,d,more,n,h0,h1,hd=>by
  have q:=Yk hv hl h0 (by omega) ((((((s.Deps.getD (n:Int).toNat []).length:Nat):Int):Int) - 0).toNat) d more 0 (by omega) (by omega) hd;rw [HY];exact q.trans (Zm hv hl r _ _ (n+1) (by omega) (by omega) (by rw [q.len]; exact hd))
theorem WW {s:A6} (hv:Gz s):∀ (r:Nat) (d:List Int) (level:Int),0<=level->zc d < r->(d.length:Int)=(s.Boundary.length:Int)*s.Width->∃ d',Hj s r d level=.ret d'/\d'.length=d.length
 | 0,d,level,h0,h1,hd=>by omega
 | r+1,d,level,h0,h1,hd=>by
  have q:=Zm hv h0 (((((s.Boundary.length:Nat):Int):Int) - 0).toNat) d false 0 (by omega) (by omega) hd;rw [Hj];generalize HY s level (((((s.Boundary.length:Nat):Int):Int) - 0).toNat) d false 0=o at q ⊢;obtain ⟨d',m'⟩:=o;dsimp only at q ⊢;cases m' with
  | false=>exact ⟨d',rfl,q.len⟩
  | true=>
   have:=q.more rfl;obtain ⟨d2,e,hl⟩:=WW hv r d' (level+1) (by omega) (by rcases this with h | h; cases h; omega) (by rw [q.len]; exact hd);exact ⟨d2,e,by rw [hl,q.len]⟩
theorem YB {s:A6} (hv:Gz s) {d:List Int} (hd:(d.length:Int)=(s.Boundary.length:Int)*s.Width):∃ d',Hj s ((s.Boundary.length*s.Width.toNat:Nat)+2) d 1=.ret d'/\d'.length=d.length:=by
 refine WW hv _ _ _ (by omega) ?_ hd;have h1:zc d<=d.length:=List.count_le_length;have h2:((s.Boundary.length*s.Width.toNat:Nat):Int)=(s.Boundary.length:Int)*s.Width:=by
  have:=hv.w.1;rw [Int.natCast_mul,Int.toNat_of_nonneg this]
 omega
theorem eS {s:A6} {level n m c:Int} {d:List Int} {more:Bool} (hl:0<=level) (m0:0<=m) (m1:m < (s.Boundary.length:Int)) (hw:0<=s.Width) (hd:(d.length:Int)=(s.Boundary.length:Int)*s.Width):E7 s level n m c (s.Width.toNat+1) d more 0≠.oof:=by
 obtain ⟨d',m',e,_⟩:=QT (n:=n) (c:=c) hl m0 m1 hw (s.Width.toNat+1) d more 0 (by omega) (by omega) (by omega) hd;rw [e]; intro h; cases h
theorem Zi {s:A6} (hv:Gz s) {h:Ao} {r:List Int} (e:JZ s h=r):(r.length:Int)=(s.Boundary.length:Int)*s.Width:=by
 have hb:((List.replicate ((((s.Boundary.length:Nat):Int)*s.Width):Int).toNat (0:Int)).set (((h.Node*s.Width)+h.Bit):Int).toNat 1).length=(((s.Boundary.length:Nat):Int)*s.Width).toNat:=by simp
 have hn:0<=((s.Boundary.length:Nat):Int)*s.Width:=Int.mul_nonneg (by omega) hv.w.1;obtain ⟨d',e1,e2⟩:=YB hv (d:=((List.replicate ((((s.Boundary.length:Nat):Int)*s.Width):Int).toNat (0:Int)).set (((h.Node*s.Width)+h.Bit):Int).toNat 1)) (by omega);rw [<- e];unfold JZ;rw [e1];dsimp only;omega
theorem Ti {s:A6} {level n m c K:Int} (hK:level+1<=K):∀ (r:Nat) (d:List Int) (more:Bool) (a:Int),(∀ x∈d,x<=K)->∀ d' m',E7 s level n m c r d more a=.brk (d',m')->∀ x∈d',x<=K
 | 0,d,more,a,hd,d',m',h=>by rw [E7] at h; cases h
 | r+1,d,more,a,hd,d',m',h=>by
  rw [E7] at h;simp only [Bool.cond_eq_ite] at h
  split at h
  ·split at h
   ·split at h
    ·split at h
     ·exact Ti hK r _ _ _ (fun x hx=>by rcases List.mem_or_eq_of_mem_set hx with h | rfl; exact hd x h; exact hK) d' m' h
     ·exact Ti hK r _ _ _ hd d' m' h
    ·exact Ti hK r _ _ _ hd d' m' h
   ·cases h; exact hd
  ·cases h; exact hd
theorem WC {s:A6} {level n m K:Int} (hK:level+1<=K):∀ (r:Nat) (d:List Int) (more:Bool) (c:Int),(∀ x∈d,x<=K)->∀ x∈(IG s level n m r d more c).1,x<=K
 | 0,d,more,c,hd=>hd
 | r+1,d,more,c,hd=>by
  have h4:=Ti (s:=s) (n:=n) (m:=m) (c:=c) hK (s.Width.toNat+1) d more 0 hd;rw [IG];generalize E7 s level n m c (s.Width.toNat+1) d more 0=o at h4 ⊢;cases o with
  | brk p=>obtain ⟨d',m'⟩:=p; exact WC hK r d' m' (c+1) (h4 d' m' rfl)
  | ret _=>intro x hx; cases hx
  | oof=>intro x hx; cases hx
theorem YH {s:A6} {level n K:Int} (hK:level+1<=K):∀ (r:Nat) (d:List Int) (more:Bool) (i:Int),(∀ x∈d,x<=K)->∀ x∈(Jn s level n r d more i).1,x<=K
 | 0,d,more,c,hd=>hd
 | r+1,d,more,i,hd=>by
  rw [Jn];exact YH hK r _ _ (i+1) (WC hK _ d more 0 hd)
theorem WU {s:A6} {level K:Int} (hK:level+1<=K):∀ (r:Nat) (d:List Int) (more:Bool) (n:Int),(∀ x∈d,x<=K)->∀ x∈(HY s level r d more n).1,x<=K
 | 0,d,more,c,hd=>hd
 | r+1,d,more,n,hd=>by
  rw [HY];exact WU hK r _ _ (n+1) (YH hK _ d more 0 hd)
theorem XN {s:A6} {K:Int}:∀ (r:Nat) (d:List Int) (level:Int),level+r<=K->(∀ x∈d,x<=K)->∀ d',Hj s r d level=.ret d'->∀ x∈d',x<=K
 | 0,d,level,h1,hd,d',h=>by rw [Hj] at h; cases h
 | r+1,d,level,h1,hd,d',h=>by
  have q:=WU (s:=s) (level:=level) (K:=K) (by omega) (((((s.Boundary.length:Nat):Int):Int) - 0).toNat) d false 0 hd;rw [Hj] at h;generalize HY s level (((((s.Boundary.length:Nat):Int):Int) - 0).toNat) d false 0=o at q h;obtain ⟨d2,m2⟩:=o;cases m2 with
  | false=>cases h; exact q
  | true=>exact XN r d2 (level+1) (by omega) q d' h
theorem uS {s:A6} (hv:Gz s) {h:Ao} {r:List Int} (e:JZ s h=r):∀ x∈r,x<=65540:=by
 have hb:=Xi hv;rw [<- e];unfold JZ;have q:=XN (s:=s) (K:=65540) ((s.Boundary.length*s.Width.toNat:Nat)+2) ((List.replicate ((((s.Boundary.length:Nat):Int)*s.Width):Int).toNat (0:Int)).set (((h.Node*s.Width)+h.Bit):Int).toNat 1) 1 (by omega) (fun x hx=>by
  rcases List.mem_or_eq_of_mem_set hx with h | rfl
  ·rw [(List.mem_replicate.1 h).2]; decide
  ·decide)
 generalize Hj s ((s.Boundary.length*s.Width.toNat:Nat)+2) ((List.replicate ((((s.Boundary.length:Nat):Int)*s.Width):Int).toNat (0:Int)).set (((h.Node*s.Width)+h.Bit):Int).toNat 1) 1=o at q ⊢;cases o with
 | brk _=>intro x hx; cases hx
 | ret d'=>exact q d' rfl
 | oof=>intro x hx; cases hx
theorem tO (s:Az):Nw s=Hg s:=rfl
theorem We (p:Aw) (vars:List Aa) (l:List Am):∀ (r:Nat) (out:List AO) (v:Int),HX p vars l r out v=E1 p vars l r out v
 | 0,out,v=>by rw [HX,E1]
 | r+1,out,v=>by
  rw [HX,E1];dsimp only;rw [bH,tO,iV,We p vars l r,We p vars l r];cases e1:(HR p (l.getD v.toNat default)).2
  ·rw [uY e1]
   all_goals (cases (l.getD v.toNat default).Kind == 3 <;> rfl)
  ·simp only [cond_true]
theorem Xz:∀ (r:Nat) (out:List AO) (v:Int),Mi r out v=Ft r out v
 | 0,out,v=>by rw [Mi,Ft]
 | r+1,out,v=>by rw [Mi,Ft,Xz r]
theorem SI (p:Aw) (kind:Int):Gk p kind=CI p kind:=by
 unfold Gk CI Qr;dsimp only;rw [TL,Rv,ND,We,Xz];cases (Dp p).2 != 0
 ·cases decide (kind < 1)
  ·cases decide (4 < kind)
   ·cases e:kind == 1 <;> simp only [bne,e] <;> rfl
   ·rfl
  ·rfl
 ·rfl
theorem iJ {p:Aw} {kind:Int} {r:List AO×Int} (h:Gk p kind=r):∀ f∈r.1,J6 p f:=(UO ((SI p kind).symm.trans h)).2
theorem W8 {w:Int} (h:JF w=true):0<=w/\w<=256:=by
 unfold JF at h
 simp [Bool.cond_eq_ite] at h; omega
theorem jK {w:Int} (h:0<=w/\w<=256):N7 w=(Cz w,0):=by
 unfold N7 JF MH;rw [decide_eq_true h.1,decide_eq_true h.2];have e:Cz w=AE.mk w (List.replicate (((w+64) - 1) / 64:Int).toNat 0#64):=by
  unfold Cz;rw [show (w+64) - 1=w+63 by omega]
 rw [e]; rfl
theorem oC {s:AE} {b:Int} {r:List (BitVec 64)} (h:L4 s b=r):r.length=s.Words.length:=by
 subst h; exact List.length_set
theorem q8 {w:Int} {s:AE} (hs:ET w s) {b:Int} (hb:0<=b/\b < w):(⟨w,L4 ⟨w,s.Words⟩ b⟩:AE)=DJ s b:=by
 have hw:=NN hs;have e:L4 ⟨w,s.Words⟩ b=(DJ s b).Words:=by
  rw [dQ hs hb];unfold L4;rw [rK (by omega)]
 have e2:(DJ s b).Width=w:=(VZ hs hb).2;rw [e]
 conv=>lhs; rw [<- e2]
theorem aM {m:List Int} {w:Int} (hm:∀ x∈m,0<=x/\x < w):∀ (r k:Nat) (ws:List (BitVec 64)),k+r=m.length->ET w ⟨w,ws⟩->∃ o,JC m w r ws (k:Int)=.brk o/\ET w ⟨w,o⟩/\∀ x,Da ⟨w,o⟩ x=true↔Da ⟨w,ws⟩ x=true\/x∈m.drop k
 | 0,k,ws,hk,h=>by
  rw [JC,List.drop_of_length_le (by omega)];exact ⟨ws,rfl,h,fun x=>by simp⟩
 | r+1,k,ws,hk,h=>by
  have hi:k < m.length:=by omega
  have hb:=hm _ (BF (xs:=m) (d:=0) hi);have hd:m.drop k=m.getD k 0 :: m.drop (k+1):=by
   rw [List.drop_eq_getElem_cons hi]; simp [List.getD,hi]
  rw [JC,show ((k:Int)).toNat=k by omega,decide_eq_false (by omega),cond_false,decide_eq_false (by omega),cond_false,show ((k:Int)+1)=((k+1:Nat):Int) by omega]
  try dsimp only
  have hp:=q8 (s:=⟨w,ws⟩) h hb;dsimp only at hp;obtain ⟨o,o1,o2,o3⟩:=aM hm r (k+1) (L4 ⟨w,ws⟩ (m.getD k 0)) (by omega) (by rw [hp]; exact VZ h hb);refine ⟨o,o1,o2,fun x=>?_⟩;rw [o3 x,hp,jW h hb,hd,List.mem_cons,Bool.or_eq_true,beq_iff_eq,or_assoc]
theorem sV {m:List Int} {w:Int} (hw:0<=w/\w<=256) (hm:∀ x∈m,0<=x/\x < w):∃ s,Lu w m=(s,0)/\ET w s/\∀ x,Da s x=true↔x∈m:=by
 have hE:=ZJ hw.1 hw.2;have he:(Cz w).Width=w:=hE.2;have hE':ET w ⟨w,(Cz w).Words⟩:=by
  have:(⟨w,(Cz w).Words⟩:AE)=Cz w:=rfl;rw [this]; exact hE
 obtain ⟨o,o1,o2,o3⟩:=aM hm m.length 0 (Cz w).Words (by omega) hE';refine ⟨⟨w,o⟩,?_,o2,fun x=>?_⟩
 ·unfold Lu;dsimp only;rw [jK hw,he,show (((((m.length:Nat):Int):Int) - 0).toNat)=m.length by omega];rw [show ((0:Nat):Int)=0 from rfl] at o1;rw [o1]
 ·rw [o3 x,List.drop_zero];have:(⟨w,(Cz w).Words⟩:AE)=Cz w:=rfl;rw [this,kP hw.1 hw.2]
  simp
theorem Yw {w:Int} (h:0<=w/\w<=256) (k:Nat) (hk:k < 64):(O9 w).getLsbD k=decide ((w % 64).toNat<=k):=by
 unfold O9;have e:(((((BitVec.ofInt 64 w) % 64#64).toNat:Int)).toNat)=(w % 64).toNat:=by
  rw [BitVec.toNat_umod,BitVec.toNat_ofInt]
  simp; omega
 rw [e,BitVec.getLsbD_shiftLeft];have e2:(18446744073709551615#64)=BitVec.allOnes 64:=by decide
 rw [e2,BitVec.getLsbD_allOnes];rw [Bool.eq_iff_iff]
 simp [-Int.toNat_le]
 omega
theorem TV (s:AE):Fv s=true↔Jq s:=by
 unfold Fv Jq;simp only [JF,MH,Bool.cond_eq_ite];by_cases h1:0<=s.Width
 ·by_cases h2:s.Width<=256
  ·by_cases h3:(s.Words.length:Int)=(s.Width+64 - 1) / 64
   ·by_cases h4:s.Width % 64=0
    ·simp only [h1,h2,h3,h4]
     simp
     refine ⟨by omega,fun b b1 b2=>by omega⟩
    ·simp only [h1,h2,decide_true,if_true,Bool.not_true,Bool.false_eq_true,if_false];have h3':((s.Words.length:Int) != (s.Width+64 - 1) / 64)=false:=by simp [h3]
     have h4':(s.Width % 64 == 0)=false:=by simp [h4]
     rw [h3',h4'];simp only [Bool.false_eq_true,if_false];rw [beq_iff_eq];constructor
     ·intro h;refine ⟨trivial,trivial,by omega,fun b b1 b2=>?_⟩;have hq:(b / 64).toNat=((s.Words.length:Int) - 1).toNat:=by omega
      unfold Ep;rw [hq];have:=congrArg (fun v:BitVec 64=>v.getLsbD (b % 64).toNat) h;simp only [BitVec.getLsbD_and,BitVec.getLsbD_zero] at this;rw [Yw ⟨h1,h2⟩ _ (by omega)] at this;have hle:(s.Width % 64).toNat<=(b % 64).toNat:=by omega
      simpa [hle] using this
     ·rintro ⟨_,_,hl,h⟩;apply BitVec.eq_of_getLsbD_eq;intro k hk;rw [BitVec.getLsbD_and,Yw ⟨h1,h2⟩ _ hk,BitVec.getLsbD_zero];by_cases hle:(s.Width % 64).toNat<=k
      ·have:=h (64*((s.Words.length:Int) - 1)+k) (by omega) (by omega);unfold Ep at this;rw [show ((64*((s.Words.length:Int) - 1)+k) / 64).toNat=((s.Words.length:Int) - 1).toNat by omega,show ((64*((s.Words.length:Int) - 1)+k) % 64).toNat=k by omega] at this;rw [this]; rfl
      ·simp [hle]
   ·have h3':((s.Words.length:Int) != (s.Width+64 - 1) / 64)=true:=by simp [h3]
    simp only [h1,h2,decide_true,if_true,Bool.not_true,Bool.false_eq_true,if_false,h3'];constructor
    ·intro h; cases h
    ·rintro ⟨_,_,h,_⟩; omega
  ·simp [h1,h2]
 ·simp [h1]
theorem oE {s:AE} (h:Fv s=true):0<=s.Width/\s.Width<=256/\(s.Words.length:Int)=(s.Width+63) / 64:=by
 have:=(TV s).1 h; exact ⟨this.1,this.2.1,this.2.2.1⟩
theorem XW {w:Int} {s:AE} (h:ET w s):Fv s=true:=(TV s).2 h.1
theorem tC (l:List Int):NF l=l:=by
 unfold NF
 simp
theorem UT (i:Int) (w0:BitVec 64):∀ (n k r:Nat) (out:List Int) (w:BitVec 64),k+n=64->n < r->(∀ j,j < k->w.getLsbD j=false)->(∀ j,k<=j->w.getLsbD j=w0.getLsbD j) ->
  Io i r out w=.brk (out++wb i w0 n k)
 | 0,k,r,out,w,hk,hr,h0,h1=>by
  have hw:w=0#64:=by
   apply BitVec.eq_of_getLsbD_eq;intro j hj;rw [h0 j (by omega)]; simp
  obtain ⟨r,rfl⟩:∃ q,r=q+1:=⟨r - 1,by omega⟩;rw [Io,hw]
  simp [wb]
 | n+1,k,r,out,w,hk,hr,h0,h1=>by
  rw [wb];cases e:w0.getLsbD k with
  | false=>
   rw [if_neg (by simp)];refine UT i w0 n (k+1) r out w (by omega) (by omega) (fun j hj=>?_) (fun j hj=>h1 j (by omega));rcases Nat.lt_or_ge j k with c | c
   ·exact h0 j c
   ·have:j=k:=by omega
    subst this;rw [h1 j (Nat.le_refl _),e]
  | true=>
   rw [if_pos rfl];obtain ⟨r,rfl⟩:∃ q,r=q+1:=⟨r - 1,by omega⟩;have hl:OP w k:=⟨by rw [h1 k (Nat.le_refl _),e],h0⟩;rw [Io];have hw:(w != 0#64)=true:=by
    rw [bne_iff_ne];intro h;subst h;have:=hl.1
    simp at this
   rw [hw,cond_true,nC hl (by omega)];rw [UT i w0 n (k+1) r _ _ (by omega) (by omega) (fun j hj=>?_) (fun j hj=>?_)]
   ·simp
   ·rcases Nat.lt_or_ge j 64 with c | c
    ·rw [Z5 hl c];rcases Nat.lt_or_ge j k with d | d
     ·rw [h0 j d]; rfl
     ·have:j=k:=by omega
      subst this; simp
    ·rw [BitVec.getLsbD_of_ge _ _ c]
   ·rcases Nat.lt_or_ge j 64 with c | c
    ·rw [Z5 hl c,h1 j (by omega)];have:j≠k:=by omega
     simp [this]
    ·rw [BitVec.getLsbD_of_ge _ _ c,BitVec.getLsbD_of_ge _ _ c]
theorem Y1 (i:Int) (out:List Int) (w:BitVec 64):Io i 66 out w=.brk (out++wb i w 64 0):=UT i w 64 0 66 out w rfl (by omega) (fun j h=>by omega) (fun _ _=>rfl)
theorem d9 {i:Int} (out:List Int) (w:BitVec 64):Io i 66 out w≠.oof:=by rw [Y1]; intro h; cases h
theorem Xh (s:AE):∀ (r:Nat) (out:List Int) (v:Int),Mc s r out v=out++NS s.Words r v
 | 0,out,v=>by rw [Mc,NS]; simp
 | r+1,out,v=>by rw [Mc,Y1,NS]; simp only; rw [Xh s r]; simp
theorem Y7 {w:Int} {s:AE} (hs:ET w s):KM s=cb s.Words w.toNat 0:=by
 have hw:=NN hs;unfold KM;rw [XW hs];simp only [Bool.not_true,cond_false];rw [Xh,tC,List.nil_append,XE _ _ _ (Int.le_refl _),show (0:Int)*64=0 by omega];obtain ⟨m,hm⟩:∃ m:Nat,64*(((((s.Words.length:Nat):Int):Int) - 0).toNat)=w.toNat+m:=⟨64*(((((s.Words.length:Nat):Int):Int) - 0).toNat) - w.toNat,by omega⟩;rw [hm,VB,XX s.Words m _ fun x h1 h2=>hs.1.2.2.2 x (by omega) (by omega)]
 simp
theorem v6 {s:AE} {r:List Int} (h:KM s=r):r.length<=256/\∀ x∈r,0<=x/\x < s.Width:=by
 subst h;cases e:Fv s with
 | false=>unfold KM; rw [e]; simp
 | true=>
  have hs:ET s.Width s:=⟨(TV s).1 e,rfl⟩;have hw:=NN hs;rw [Y7 hs];refine ⟨Nat.le_trans (YL _ _ _) (by omega),fun x hx=>?_⟩;have:=S4 _ _ _ hx; omega
theorem jT {s:AE} {n b:Int} (hs:ET n s) (h:∀ x,Da s x=true↔x∈[b]) (hb:0<=b/\b < n):KM s=[b]:=by
 have hw:=NN hs;rw [Y7 hs];refine lI (T3 _ _ _) (by simp) fun x=>?_;rw [Wp,<- h x,RB hs,Bool.and_eq_true,Bool.and_eq_true,decide_eq_true_eq,decide_eq_true_eq];constructor
 ·rintro ⟨h1,h2⟩; exact ⟨by omega,by omega,h2⟩
 ·rintro ⟨h1,h2,h3⟩; exact ⟨by omega,h3⟩
theorem V4 (p:Aw) (l:List AO) (m:List Int):∀ (r:Nat) (w:List Aa) (v:Int),JR p l (Ca p) (D5 p) m r w v=w++tw (Ue p l) m r v
 | 0,w,v=>by rw [JR,tw]; simp
 | r+1,w,v=>by
  rw [JR,tw,Ue,J4];dsimp only;rw [ND,Rr,V4 p l m r,V4 p l m r];cases decide (0<=(l.getD (m.getD v.toNat 0).toNat default).Node)
  ·simp only [cond_false]; simp
  ·simp only [cond_true]; simp
theorem Y2 {p:Aw} {kind b:Int} (hl:(CI p kind).2=0) (hb:0<=b/\b < ((CI p kind).1.length:Int)) :
  (Ls p kind (Lu (((CI p kind).1.length:Nat):Int) [b]).1).1=J4 p ((CI p kind).1.getD b.toNat default):=by
 have hF:=mC p kind;obtain ⟨s,o1,o2,o3⟩:=sV (m:=[b]) (w:=(((CI p kind).1.length:Nat):Int)) ⟨by omega,by omega⟩ (fun x hx=>by rw [List.mem_singleton] at hx; omega);have hm:=jT o2 o3 hb;unfold Ls;dsimp only;rw [SI,o1,hl,Rv,hm];dsimp only;rw [XW o2,o2.2];simp only [bne_self_eq_false,cond_false,Bool.not_true];rw [show ((((([b]:List Int).length:Nat):Int):Int) - 0).toNat=1 by simp,V4,tw,tw];show HN [Ue p (CI p kind).1 b] (Aa.mk [32])=_;rw [pK]; rfl
theorem gI {p:Aw} {kind b:Int} {f:List AO×Int} {s:AE×Int} {r:Aa×Int} (h1:Gk p kind=f) (h2:(f.2 != 0)=false) (h3:Lu ((f.1.length:Nat):Int) [b]=s) (h4:Ls p kind s.1=r) (hb:0<=b/\b < (f.1.length:Int)):r.1.b.length<=6001:=by
 rw [SI] at h1;subst h1; subst h3; subst h4;have hl:(CI p kind).2=0:=by rw [bne_eq_false_iff_eq] at h2; exact h2
 rw [Y2 hl hb];exact aC ((UO rfl).2 _ (BF (by omega))) rfl
theorem Zz {p:Aw} {kind:Int} (l:List Ao) (hl:(CI p kind).2=0):∀ (r:Nat) (b:List UInt8) (v:Int),
  (∃ o,Hx p kind l (CI p kind).1 (Cn p) r b v=.brk o/\Hn p l (CI p kind).1 (Cn p) r (Aa.mk b) v=.brk (Aa.mk o)) \/
  (∃ o,Hx p kind l (CI p kind).1 (Cn p) r b v=.ret o/\Hn p l (CI p kind).1 (Cn p) r (Aa.mk b) v=.ret o)
 | 0,b,v=>by rw [Hx,Hn]; exact .inl ⟨b,rfl,rfl⟩
 | r+1,b,v=>by
  rw [Hx,Hn];by_cases c1:(l.getD (v:Int).toNat default).Node < 0
  ·rw [decide_eq_true c1]; exact .inr ⟨_,rfl,rfl⟩
  rw [decide_eq_false c1,cond_false,cond_false];by_cases c2:(((Cn p).length:Nat):Int)<=(l.getD (v:Int).toNat default).Node
  ·rw [decide_eq_true c2]; exact .inr ⟨_,rfl,rfl⟩
  rw [decide_eq_false c2,cond_false,cond_false];by_cases c3:(l.getD (v:Int).toNat default).Bit < 0
  ·rw [decide_eq_true c3]; exact .inr ⟨_,rfl,rfl⟩
  rw [decide_eq_false c3,cond_false,cond_false];by_cases c4:(((CI p kind).1.length:Nat):Int)<=(l.getD (v:Int).toNat default).Bit
  ·rw [decide_eq_true c4]; exact .inr ⟨_,rfl,rfl⟩
  rw [decide_eq_false c4,cond_false,cond_false];dsimp only;rw [Y2 hl ⟨by omega,by omega⟩,Rr];have ih:=Zz l hl r (Qx b (((GR p ((Cn p).getD ((l.getD (v:Int).toNat default).Node:Int).toNat default)++(Aa.mk [32]))++J4 p ((CI p kind).1.getD ((l.getD (v:Int).toNat default).Bit:Int).toNat default))++(Aa.mk [10]))) (v+1);rw [Rr] at ih;exact ih
theorem Tz (p:Aw) (kind:Int) (l:List Ao):G5 p kind l=GN p kind l:=by
 unfold G5 GN;dsimp only;rw [SI,<- ND];by_cases c:(CI p kind).2=0
 ·rw [c,show ((0:Int) != 0)=false from rfl,cond_false,cond_false];rcases Zz l c (((((l.length:Nat):Int):Int) - 0).toNat) [] 0 with ⟨o,e1,e2⟩ | ⟨o,e1,e2⟩
  ·rw [e1,e2]; rfl
  ·rw [e1,e2]
 ·rw [show ((CI p kind).2 != 0)=true by simpa using c]; rfl
theorem uZ:JW=true:=by kernel_rfl
theorem bM (t:List Int):∀ (r:Nat) (k i:Int),GU t r k i=.brk ()
 | 0,k,i=>by rw [GU]
 | r+1,k,i=>by
  rw [GU];dsimp only;rw [Tz,Tz];simp only [bne_self_eq_false,cond_false,bM t r]
  all_goals (generalize ((Bs t _ 4).1 == 0)=c; cases c <;> rfl)
theorem iF (t:List Int) (p:Aw) (kind:Int) (l:List Ao):HP t p kind l=true:=by
 unfold HP;dsimp only;rw [bM,Tz,uZ];simp only [beq_self_eq_true,cond_true,show decide (0<=(((Cn p).length:Nat):Int))=true from decide_eq_true (by omega)];generalize OU p=c;generalize decide (20 < ((l.length:Nat):Int))=d
 all_goals (cases c <;> cases d <;> rfl)
theorem CH:Tryz.prog.underlying 9=some .string:=by kernel_rfl
theorem RA:AA Tryz.prog 116=true:=by kernel_rfl
theorem Su:AA Tryz.prog 117=true:=by kernel_rfl
theorem vT:AA Tryz.prog 165=true:=by kernel_rfl
theorem Bj:Bm Tryz.prog 9=some (false,1):=by kernel_rfl
theorem AN:Bw Tryz.prog 52=some (9,1,16):=by kernel_rfl
theorem Co:Dj Tryz.prog 52=some [.string (bs (Aa.mk []))]:=by kernel_rfl
theorem PQ:AA Tryz.prog 134=true:=by kernel_rfl
theorem FQ:B1 Tryz.prog 60 1=some 1:=by kernel_rfl
theorem ER:B1 Tryz.prog 60 2=some 2:=by kernel_rfl
theorem Ct:Bm Tryz.prog 52=some (false,1):=by kernel_rfl
theorem Hh:B1 Tryz.prog 60 3=some 3:=by kernel_rfl
theorem Z1:AA Tryz.prog 166=true:=by kernel_rfl
theorem CQ:B1 Tryz.prog 60 0=some 0:=by kernel_rfl
theorem An:Bm Tryz.prog 3=some (false,1):=by kernel_rfl
theorem AY:Tryz.prog.follows .mixedOrders=true:=by kernel_rfl
theorem BS:B1 Tryz.prog 25 0=some 0:=by kernel_rfl
theorem BU:Bm Tryz.prog 23=some (false,1):=by kernel_rfl
theorem BC:Bw Tryz.prog 23=some (55,2,40):=by kernel_rfl
theorem CT:Bm Tryz.prog 55=some (true,2):=by kernel_rfl
theorem H9:C6 Tryz.prog 55=some (.agg #[.string (bs (Aa.mk [])),.slice none 0 0]):=by kernel_rfl
theorem HA:B1 Tryz.prog 55 0=some 0:=by kernel_rfl
theorem CB:B1 Tryz.prog 55 1=some 1:=by kernel_rfl
theorem CA:Bm Tryz.prog 53=some (false,1):=by kernel_rfl
theorem B5:Bw Tryz.prog 53=some (58,2,40):=by kernel_rfl
theorem Eg:Bm Tryz.prog 58=some (true,2):=by kernel_rfl
theorem KL:C6 Tryz.prog 58=some (.agg #[.string (bs (Aa.mk [])),.slice none 0 0]):=by kernel_rfl
theorem MM:B1 Tryz.prog 58 0=some 0:=by kernel_rfl
theorem CR:B1 Tryz.prog 58 1=some 1:=by kernel_rfl
theorem CU:Bm Tryz.prog 56=some (false,1):=by kernel_rfl
theorem BI:Bw Tryz.prog 56=some (60,4,72):=by kernel_rfl
theorem Bd:Bm Tryz.prog 60=some (true,4):=by kernel_rfl
theorem vA:AA Tryz.prog 135=true:=by kernel_rfl
theorem Be:Bm Tryz.prog 25=some (true,1):=by kernel_rfl
theorem SW:AA Tryz.prog 97=true:=by kernel_rfl
theorem b8:C6 Tryz.prog 3=some (vi 0):=by kernel_rfl
theorem WG:AA Tryz.prog 103=true:=by kernel_rfl
theorem iD:AA Tryz.prog 146=true:=by kernel_rfl
theorem K4:AA Tryz.prog 44=true:=by kernel_rfl
theorem TE:AA Tryz.prog 81=true:=by kernel_rfl
theorem mL:AA Tryz.prog 174=true:=by kernel_rfl
theorem cA:Tryz.prog.underlying 4=some .bool:=by kernel_rfl
theorem eF:AA Tryz.prog 136=true:=by kernel_rfl
theorem Wl:AA Tryz.prog 84=true:=by kernel_rfl
theorem Z2:AA Tryz.prog 83=true:=by kernel_rfl
theorem Im:C6 Tryz.prog 73=some (.agg #[vi 0,vi 0,vi 0,vi 0]):=by kernel_rfl
theorem rC:AA Tryz.prog 144=true:=by kernel_rfl
theorem hY:AA Tryz.prog 143=true:=by kernel_rfl
theorem Dq:Fi Tryz.prog 73=some ([(0,1),(1,1),(2,1),(3,1)],[vi 0,vi 0,vi 0,vi 0]):=by kernel_rfl
theorem Bp:Bm Tryz.prog 73=some (true,4):=by kernel_rfl
theorem HW:C6 Tryz.prog 60=some (.agg #[vi 0,.string (bs (Aa.mk [])),.slice none 0 0,.slice none 0 0]):=by kernel_rfl
theorem aU:AA Tryz.prog 145=true:=by kernel_rfl
theorem XJ:AA Tryz.prog 82=true:=by kernel_rfl
theorem m9:AA Tryz.prog 85=true:=by kernel_rfl
theorem rG:AA Tryz.prog 86=true:=by kernel_rfl
theorem Sm:AA Tryz.prog 42=true:=by kernel_rfl
theorem TB:AA Tryz.prog 41=true:=by kernel_rfl
theorem Ze:AA Tryz.prog 56=true:=by kernel_rfl
theorem BG:Bw Tryz.prog 47=some (73,4,32):=by kernel_rfl
theorem Gy:Dj Tryz.prog 47=some [vi 0,vi 0,vi 0,vi 0]:=by kernel_rfl
theorem ST:AA Tryz.prog 29=true:=by kernel_rfl
theorem bN:M6 Tryz.prog 73 4=true:=by kernel_rfl
theorem OT:AA Tryz.prog 13=true:=by kernel_rfl
theorem Tk:AA Tryz.prog 90=true:=by kernel_rfl
theorem mZ:AA Tryz.prog 147=true:=by kernel_rfl
theorem HB:Fi Tryz.prog 60=some ([(0,1),(1,1),(2,1),(3,1)],[vi 0,.string (bs (Aa.mk [])),.slice none 0 0,.slice none 0 0]):=by kernel_rfl
theorem dC:AA Tryz.prog 65=true:=by kernel_rfl
theorem H7:B1 Tryz.prog 73 1=some 1:=by kernel_rfl
theorem LV:B1 Tryz.prog 73 2=some 2:=by kernel_rfl
theorem LW:B1 Tryz.prog 73 3=some 3:=by kernel_rfl
theorem G0:B1 Tryz.prog 73 0=some 0:=by kernel_rfl
theorem bT:AA Tryz.prog 47=true:=by kernel_rfl
theorem ZI:AA Tryz.prog 67=true:=by kernel_rfl
theorem Ry:Fi Tryz.prog 102=some ([(0,1),(1,1)],[vi 0,vi 0]):=by kernel_rfl
theorem C2:Bw Tryz.prog 65=some (102,2,16):=by kernel_rfl
theorem M7:Dj Tryz.prog 65=some [vi 0,vi 0]:=by kernel_rfl
theorem cN:AA Tryz.prog 20=true:=by kernel_rfl
theorem aN:AA Tryz.prog 43=true:=by kernel_rfl
theorem V7:B1 Tryz.prog 102 1=some 1:=by kernel_rfl
theorem P9:B1 Tryz.prog 102 0=some 0:=by kernel_rfl
theorem bC:AA Tryz.prog 35=true:=by kernel_rfl
theorem m5:Bm Tryz.prog 102=some (true,2):=by kernel_rfl
theorem gJ:AA Tryz.prog 36=true:=by kernel_rfl
theorem DU:B1 Tryz.prog 42 0=some 0:=by kernel_rfl
theorem Fj:B1 Tryz.prog 42 1=some 1:=by kernel_rfl
theorem bV:AA Tryz.prog 53=true:=by kernel_rfl
theorem RU:C6 Tryz.prog 35=some (.agg #[vi 0,.slice none 0 0,.slice none 0 0,.slice none 0 0]):=by kernel_rfl
theorem YG:AA Tryz.prog 18=true:=by kernel_rfl
theorem aH:Fi Tryz.prog 35=some ([(0,1),(1,1),(2,1),(3,1)],[vi 0,.slice none 0 0,.slice none 0 0,.slice none 0 0]):=by kernel_rfl
theorem D2:Bm Tryz.prog 35=some (true,4):=by kernel_rfl
theorem lK:AA Tryz.prog 19=true:=by kernel_rfl
theorem Us:B1 Tryz.prog 69 0=some 0:=by kernel_rfl
theorem Ww:Bm Tryz.prog 47=some (false,1):=by kernel_rfl
theorem lO:AA Tryz.prog 22=true:=by kernel_rfl
theorem Ed:B1 Tryz.prog 35 1=some 1:=by kernel_rfl
theorem QzZ:B1 Tryz.prog 35 2=some 2:=by kernel_rfl
theorem FU:Bm Tryz.prog 32=some (false,1):=by kernel_rfl
theorem jS:AA Tryz.prog 23=true:=by kernel_rfl
theorem Fc:Bw Tryz.prog 32=some (82,5,88):=by kernel_rfl
theorem Ys:Dj Tryz.prog 32=some [vi 0,.slice none 0 0,vi 0,.slice none 0 0,.slice none 0 0]:=by kernel_rfl
theorem IK:B1 Tryz.prog 35 3=some 3:=by kernel_rfl
theorem fZ:AA Tryz.prog 24=true:=by kernel_rfl
theorem KQ:Fi Tryz.prog 42=some ([(0,1),(1,1)],[vi 0,vi 0]):=by kernel_rfl
theorem j6:AA Tryz.prog 25=true:=by kernel_rfl
theorem H6:C6 Tryz.prog 42=some (.agg #[vi 0,vi 0]):=by kernel_rfl
theorem BP:Bm Tryz.prog 42=some (true,2):=by kernel_rfl
theorem Xb:AA Tryz.prog 26=true:=by kernel_rfl
theorem Bk:Bw Tryz.prog 26=some (42,2,16):=by kernel_rfl
theorem Fw:Dj Tryz.prog 26=some [vi 0,vi 0]:=by kernel_rfl
theorem f7:AA Tryz.prog 27=true:=by kernel_rfl
theorem QX:Fi Tryz.prog 144=some ([(0,1),(1,1),(2,1),(3,1)],[vi 0,.string (bs (Aa.mk [])),vi 0,vi 0]):=by kernel_rfl
theorem DH:Bw Tryz.prog 134=some (144,4,40):=by kernel_rfl
theorem Lm:Dj Tryz.prog 134=some [vi 0,.string (bs (Aa.mk [])),vi 0,vi 0]:=by kernel_rfl
theorem OS:B1 Tryz.prog 139 2=some 2:=by kernel_rfl
theorem OG:Bm Tryz.prog 36=some (false,1):=by kernel_rfl
theorem D4:B1 Tryz.prog 139 1=some 1:=by kernel_rfl
theorem J0:B1 Tryz.prog 139 0=some 0:=by kernel_rfl
theorem JT:Bm Tryz.prog 134=some (false,1):=by kernel_rfl
theorem T5:B1 Tryz.prog 144 0=some 0:=by kernel_rfl
theorem RM:B1 Tryz.prog 144 1=some 1:=by kernel_rfl
theorem O7:AA Tryz.prog 69=true:=by kernel_rfl
theorem P5:AA Tryz.prog 150=true:=by kernel_rfl
theorem Uc:AA Tryz.prog 151=true:=by kernel_rfl
theorem NU:AA Tryz.prog 119=true:=by kernel_rfl
theorem dN:AA Tryz.prog 180=true:=by kernel_rfl
theorem Ml:AA Tryz.prog 120=true:=by kernel_rfl
theorem dF:AA Tryz.prog 181=true:=by kernel_rfl
theorem Vv:AA Tryz.prog 118=true:=by kernel_rfl
theorem bQ:AA Tryz.prog 152=true:=by kernel_rfl
theorem lY:AA Tryz.prog 153=true:=by kernel_rfl
theorem Pt:C6 Tryz.prog 25=some (.agg #[.slice none 0 0]):=by kernel_rfl
theorem i9:Fi Tryz.prog 55=some ([(0,1),(1,1)],[.string (bs (Aa.mk [])),.slice none 0 0]):=by kernel_rfl
theorem fP:Fi Tryz.prog 58=some ([(0,1),(1,1)],[.string (bs (Aa.mk [])),.slice none 0 0]):=by kernel_rfl
theorem hG:AA Tryz.prog 14=true:=by kernel_rfl
theorem Lr:Dj Tryz.prog 56=some [vi 0,.string (bs (Aa.mk [])),.slice none 0 0,.slice none 0 0]:=by kernel_rfl
theorem WM:AA Tryz.prog 15=true:=by kernel_rfl
theorem Tc:Dj Tryz.prog 53=some [.string (bs (Aa.mk [])),.slice none 0 0]:=by kernel_rfl
theorem Sj:Dj Tryz.prog 23=some [.string (bs (Aa.mk [])),.slice none 0 0]:=by kernel_rfl
theorem qI:AA Tryz.prog 121=true:=by kernel_rfl
theorem iC:AA Tryz.prog 68=true:=by kernel_rfl
theorem vK:Fi Tryz.prog 139=some ([(0,1),(1,1),(2,1)],[.slice none 0 0,vi 0,vi 0]):=by kernel_rfl
theorem vQ:AA Tryz.prog 71=true:=by kernel_rfl
theorem S6:B1 Tryz.prog 51 1=some 1:=by kernel_rfl
theorem Zg:B1 Tryz.prog 51 0=some 0:=by kernel_rfl
theorem D0:Bm Tryz.prog 22=some (false,1):=by kernel_rfl
theorem AX:Bw Tryz.prog 22=some (3,1,8):=by kernel_rfl
theorem rH:AA Tryz.prog 17=true:=by kernel_rfl
theorem Hy:C6 Tryz.prog 78=some (.agg #[vi 0,.slice none 0 0]):=by kernel_rfl
theorem FX:Bw Tryz.prog 76=some (161,1,8):=by kernel_rfl
theorem WZ:Dj Tryz.prog 76=some [u64 (0#64)]:=by kernel_rfl
theorem Qo:Fi Tryz.prog 78=some ([(0,1),(1,1)],[vi 0,.slice none 0 0]):=by kernel_rfl
theorem A4:Bm Tryz.prog 78=some (true,2):=by kernel_rfl
theorem bI:C6 Tryz.prog 166=some (.agg #[vi 0,.slice none 0 0,.slice none 0 0]):=by kernel_rfl
theorem nW:Fi Tryz.prog 166=some ([(0,2),(2,1)],[vi 0,.slice none 0 0,.slice none 0 0]):=by kernel_rfl
theorem S3:Bm Tryz.prog 166=some (true,3):=by kernel_rfl
theorem Rw:B1 Tryz.prog 166 1=some 2:=by kernel_rfl
theorem Gw:Bm Tryz.prog 33=some (false,1):=by kernel_rfl
theorem rM:AA Tryz.prog 138=true:=by kernel_rfl
theorem E8:Bw Tryz.prog 33=some (78,2,32):=by kernel_rfl
theorem RE:Dj Tryz.prog 33=some [vi 0,.slice none 0 0]:=by kernel_rfl
theorem uW:AA Tryz.prog 196=true:=by kernel_rfl
theorem Me:Tryz.prog.underlying 109=some (.int .u64):=by kernel_rfl
theorem uD:Tryz.prog.underlying 5=some (.int .u8):=by kernel_rfl
theorem KV:Tryz.prog.underlying 3=some (.int .i64):=by kernel_rfl
theorem C8:B1 Tryz.prog 78 0=some 0:=by kernel_rfl
theorem MX:AA Tryz.prog 21=true:=by kernel_rfl
theorem H8:B1 Tryz.prog 78 1=some 1:=by kernel_rfl
theorem Ic:Bm Tryz.prog 76=some (false,1):=by kernel_rfl
theorem LP:Bm Tryz.prog 161=some (false,1):=by kernel_rfl
theorem cY:AA Tryz.prog 108=true:=by kernel_rfl
theorem YU:AA Tryz.prog 109=true:=by kernel_rfl
theorem jM:AA Tryz.prog 110=true:=by kernel_rfl
theorem Po:AA Tryz.prog 61=true:=by kernel_rfl
theorem iK:AA Tryz.prog 111=true:=by kernel_rfl
theorem lU:AA Tryz.prog 112=true:=by kernel_rfl
theorem d4:AA Tryz.prog 183=true:=by kernel_rfl
theorem s5:AA Tryz.prog 182=true:=by kernel_rfl
theorem Ld:C6 Tryz.prog 82=some (.agg #[vi 0,.slice none 0 0,vi 0,.slice none 0 0,.slice none 0 0]):=by kernel_rfl
theorem V2:Fi Tryz.prog 82=some ([(0,2),(2,2),(4,1)],[vi 0,.slice none 0 0,vi 0,.slice none 0 0,.slice none 0 0]):=by kernel_rfl
theorem B6:Bm Tryz.prog 82=some (true,5):=by kernel_rfl
theorem o6:AA Tryz.prog 184=true:=by kernel_rfl
theorem Eo:B1 Tryz.prog 82 0=some 0:=by kernel_rfl
theorem Rj:AA Tryz.prog 95=true:=by kernel_rfl
theorem II:B1 Tryz.prog 82 1=some 2:=by kernel_rfl
theorem Ff:B1 Tryz.prog 82 2=some 4:=by kernel_rfl
theorem E9:Bm Tryz.prog 80=some (false,1):=by kernel_rfl
theorem Er:Bw Tryz.prog 80=some (122,2,16):=by kernel_rfl
theorem RK:Bm Tryz.prog 122=some (true,2):=by kernel_rfl
theorem tS:C6 Tryz.prog 122=some (.agg #[vi 0,vi 0]):=by kernel_rfl
theorem l7:AA Tryz.prog 137=true:=by kernel_rfl
theorem YT:AA Tryz.prog 131=true:=by kernel_rfl
theorem wF:AA Tryz.prog 159=true:=by kernel_rfl
theorem DZ:B1 Tryz.prog 35 0=some 0:=by kernel_rfl
theorem Sc:AA Tryz.prog 94=true:=by kernel_rfl
theorem j9:AA Tryz.prog 154=true:=by kernel_rfl
theorem mQ:AA Tryz.prog 155=true:=by kernel_rfl
theorem uR:AA Tryz.prog 156=true:=by kernel_rfl
theorem eY:AA Tryz.prog 158=true:=by kernel_rfl
theorem dX:AA Tryz.prog 157=true:=by kernel_rfl
theorem Wz:C6 Tryz.prog 69=some (.agg #[.slice none 0 0,.slice none 0 0,.slice none 0 0]):=by kernel_rfl
theorem cM:Fi Tryz.prog 69=some ([(0,1),(1,1),(2,1)],[.slice none 0 0,.slice none 0 0,.slice none 0 0]):=by kernel_rfl
theorem N6:Bm Tryz.prog 69=some (true,3):=by kernel_rfl
theorem C1:Bw Tryz.prog 31=some (22,1,24):=by kernel_rfl
theorem Th:Dj Tryz.prog 31=some [.slice none 0 0]:=by kernel_rfl
theorem hO:AA Tryz.prog 45=true:=by kernel_rfl
theorem U1:B1 Tryz.prog 69 1=some 1:=by kernel_rfl
theorem Dm:Bm Tryz.prog 31=some (false,1):=by kernel_rfl
theorem cI:AA Tryz.prog 46=true:=by kernel_rfl
theorem TR:B1 Tryz.prog 69 2=some 2:=by kernel_rfl
theorem eE:AA Tryz.prog 122=true:=by kernel_rfl
theorem mX:AA Tryz.prog 123=true:=by kernel_rfl
theorem bE:Tryz.prog.underlying 26=some (.slice 42):=by kernel_rfl
theorem wJ:AA Tryz.prog 160=true:=by kernel_rfl
theorem iH:AA Tryz.prog 161=true:=by kernel_rfl
theorem SD:AA Tryz.prog 124=true:=by kernel_rfl
theorem qU:AA Tryz.prog 126=true:=by kernel_rfl
theorem iG:AA Tryz.prog 125=true:=by kernel_rfl
theorem WD:AA Tryz.prog 76=true:=by kernel_rfl
theorem nY:P3 Tryz.prog 42 2=true:=by kernel_rfl
theorem Pd:KK Tryz.prog 42 H1 G6:=fG (fun x:Ao=>[x.Node,x.Bit]) G6 nY (fun x y h=>by cases x; cases y; simpa using h) (fun _=>rfl) (fun x hx y hy=>by simp only [List.mem_cons,List.not_mem_nil,or_false] at hy; obtain ⟨h0,h1⟩:=hx; rcases hy with rfl | rfl <;> assumption)
theorem NZ:HZ Tryz.prog 145=some (42,26):=by kernel_rfl
theorem RP:C6 Tryz.prog 26=some (.slice none 0 0):=by kernel_rfl
theorem qD:AA Tryz.prog 128=true:=by kernel_rfl
theorem vG:AA Tryz.prog 127=true:=by kernel_rfl
theorem T9:AA Tryz.prog 72=true:=by kernel_rfl
theorem nV:AA Tryz.prog 74=true:=by kernel_rfl
theorem kH:AA Tryz.prog 75=true:=by kernel_rfl
theorem t6:AA Tryz.prog 73=true:=by kernel_rfl
theorem nD:AA Tryz.prog 77=true:=by kernel_rfl
theorem oI:AA Tryz.prog 78=true:=by kernel_rfl
theorem XY:M6 Tryz.prog 42 2=true:=by kernel_rfl
theorem eB:AA Tryz.prog 130=true:=by kernel_rfl
theorem bW:AA Tryz.prog 132=true:=by kernel_rfl
theorem q6:AA Tryz.prog 133=true:=by kernel_rfl
theorem Zk:AA Tryz.prog 79=true:=by kernel_rfl
theorem cX:AA Tryz.prog 80=true:=by kernel_rfl
theorem Wu:AA Tryz.prog 87=true:=by kernel_rfl
theorem EJ:Dj Tryz.prog 22=some [vi 0]:=by kernel_rfl
theorem Yg:AA Tryz.prog 88=true:=by kernel_rfl
theorem jQ:AA Tryz.prog 89=true:=by kernel_rfl
theorem MF:AA Tryz.prog 48=true:=by kernel_rfl
theorem FW:B1 Tryz.prog 122 0=some 0:=by kernel_rfl
theorem JP:B1 Tryz.prog 122 1=some 1:=by kernel_rfl
theorem S9:B1 Tryz.prog 166 0=some 0:=by kernel_rfl
theorem TD:Fi Tryz.prog 122=some ([(0,1),(1,1)],[vi 0,vi 0]):=by kernel_rfl
theorem OM:Dj Tryz.prog 80=some [vi 0,vi 0]:=by kernel_rfl
theorem MV:AA Tryz.prog 54=true:=by kernel_rfl
theorem bK:AA Tryz.prog 96=true:=by kernel_rfl
theorem PP:AA Tryz.prog 91=true:=by kernel_rfl
theorem rU:AA Tryz.prog 93=true:=by kernel_rfl
theorem lQ:AA Tryz.prog 92=true:=by kernel_rfl
theorem jZ:AA Tryz.prog 49=true:=by kernel_rfl
theorem YX:AA Tryz.prog 50=true:=by kernel_rfl
theorem Y4:AA Tryz.prog 51=true:=by kernel_rfl
theorem sH:AA Tryz.prog 37=true:=by kernel_rfl
theorem ZO:AA Tryz.prog 7=true:=by kernel_rfl
theorem vE:AA Tryz.prog 38=true:=by kernel_rfl
theorem fD:AA Tryz.prog 39=true:=by kernel_rfl
theorem e8:AA Tryz.prog 40=true:=by kernel_rfl
theorem jI:Fi Tryz.prog 51=some ([(0,1),(1,1)],[.slice none 0 0,vi 0]):=by kernel_rfl
theorem Fz:AA Tryz.prog 6=true:=by kernel_rfl
theorem Lf:AA Tryz.prog 16=true:=by kernel_rfl
theorem lH:AA Tryz.prog 52=true:=by kernel_rfl
theorem dL:AA Tryz.prog 55=true:=by kernel_rfl
theorem JV:HZ Tryz.prog 168=some (9,4):=by kernel_rfl
theorem So:C6 Tryz.prog 4=some (vb false):=by kernel_rfl
theorem YO:AA Tryz.prog 107=true:=by kernel_rfl
theorem Xo:AA Tryz.prog 167=true:=by kernel_rfl
theorem kE:AA Tryz.prog 199=true:=by kernel_rfl
theorem gE:AA Tryz.prog 189=true:=by kernel_rfl
theorem jC:AA Tryz.prog 168=true:=by kernel_rfl
theorem fS:AA Tryz.prog 169=true:=by kernel_rfl
theorem oU:AA Tryz.prog 170=true:=by kernel_rfl
theorem oZ:Tryz.prog.underlying 52=some (.slice 9):=by kernel_rfl
theorem fU:AA Tryz.prog 190=true:=by kernel_rfl
theorem VN:AA Tryz.prog 139=true:=by kernel_rfl
theorem vJ:AA Tryz.prog 171=true:=by kernel_rfl
theorem dI:AA Tryz.prog 173=true:=by kernel_rfl
theorem YY:AA Tryz.prog 172=true:=by kernel_rfl
theorem vC:AA Tryz.prog 142=true:=by kernel_rfl
theorem tH:AA Tryz.prog 141=true:=by kernel_rfl
theorem oD:AA Tryz.prog 140=true:=by kernel_rfl
theorem Ub:Bm Tryz.prog 168=some (false,1):=by kernel_rfl
theorem rE:C6 Tryz.prog 168=some (.map none):=by kernel_rfl
theorem jA:C6 Tryz.prog 52=some (.slice none 0 0):=by kernel_rfl
theorem qY:C6 Tryz.prog 173=some (.nilFunc):=by kernel_rfl
theorem UW:Bm Tryz.prog 173=some (false,1):=by kernel_rfl
theorem i7:AA Tryz.prog 104=true:=by kernel_rfl
theorem aQ:AA Tryz.prog 102=true:=by kernel_rfl
theorem pX:AA Tryz.prog 99=true:=by kernel_rfl
theorem nA:AA Tryz.prog 98=true:=by kernel_rfl
theorem iO:AA Tryz.prog 100=true:=by kernel_rfl
theorem jL:AA Tryz.prog 101=true:=by kernel_rfl
theorem TP:AA Tryz.prog 57=true:=by kernel_rfl
theorem rZ:AA Tryz.prog 105=true:=by kernel_rfl
theorem nG:AA Tryz.prog 106=true:=by kernel_rfl
theorem lA:AA Tryz.prog 58=true:=by kernel_rfl
theorem lJ:AA Tryz.prog 59=true:=by kernel_rfl
theorem vM:AA Tryz.prog 60=true:=by kernel_rfl
theorem vI:AA Tryz.prog 176=true:=by kernel_rfl
theorem f8:AA Tryz.prog 149=true:=by kernel_rfl
theorem n3:AA Tryz.prog 115=true:=by kernel_rfl
theorem gA:AA Tryz.prog 66=true:=by kernel_rfl
theorem jX:Tryz.prog.underlying 199=some (.array 64 5):=by kernel_rfl
theorem t7:Bm Tryz.prog 5=some (false,1):=by kernel_rfl
theorem cE:AA Tryz.prog 28=true:=by kernel_rfl
theorem fY:AA Tryz.prog 62=true:=by kernel_rfl
theorem XO:AA Tryz.prog 33=true:=by kernel_rfl
theorem rD:AA Tryz.prog 63=true:=by kernel_rfl
theorem pG:C6 Tryz.prog 91=some (.agg #[.pointer none,.slice none 0 0]):=by kernel_rfl
theorem mH:AA Tryz.prog 30=true:=by kernel_rfl
theorem kK:AA Tryz.prog 31=true:=by kernel_rfl
theorem nX:AA Tryz.prog 32=true:=by kernel_rfl
theorem hM:AA Tryz.prog 34=true:=by kernel_rfl
theorem fJ:AA Tryz.prog 4=true:=by kernel_rfl
theorem fI:AA Tryz.prog 5=true:=by kernel_rfl
theorem tG:AA Tryz.prog 8=true:=by kernel_rfl
theorem UF:AA Tryz.prog 9=true:=by kernel_rfl
theorem Uo:AA Tryz.prog 10=true:=by kernel_rfl
theorem pM:AA Tryz.prog 11=true:=by kernel_rfl
theorem Uj:AA Tryz.prog 12=true:=by kernel_rfl
theorem Lk (l:List Aa) (la0:Option Addr) (lk0:Nat) (s:Aa) (By:s.b.length<=140737488355328) (rr:Int) (hrr:Br l s=rr):FT Tryz.prog 44 #[vl la0 lk0 l,.string (bs s)] [S la0 lk0 l] (fun g:Unit=>Af rr) (fun g=>vi rr) (fun g=>[]):=by
 refine AG Tryz.func44 fun w0 M0 F0=>Fb 16 0 fun _=>?_;refine KS ?_;refine Oq Va (KS ?_);refine Oq Va (KS ?_);refine Kl (γ:=Nat×Int) (fun (r3,AJ)=>⟨[(0,vl la0 lk0 l),(1,.string (bs s)),(5,vi AJ)],[S la0 lk0 l],Dt l s r3 AJ=Dt l s (((l.length:Int) - 0).toNat) 0/\r3=((l.length:Int) - AJ).toNat/\(0:Int)<=AJ/\AJ<=(l.length:Int)/\(-9223372036854775808<=AJ/\AJ<=9223372036854775807),r3⟩) (((l.length:Int) - 0).toNat,0) [0] ⟨rfl,rfl,Ad,Ad,Ad⟩ ?_;rintro ⟨r3,AJ⟩ ⟨hM5,hr6,hi7,hi8,hk9⟩;refine JX ?_;refine DM 0 fun ho11=>?_;refine KS ?_;refine Oq Vm (Oq Vm (Oq (AB AN) (Oq AF (KS ?_))));refine Kc ?_ ?_
 ·intro h12;have g13:=dt h12;obtain ⟨r14,rfl⟩:=AP (n:=r3) Ad;refine KS ?_;refine Oq Vm (Oq Vm (Oq (Vi AN 0) ?_));refine Oq (DD Bj 0) (Oq Vm (Oq (De (l:=(l.getD AJ.toNat default)) (m:=s)) (KS ?_)));refine Kc ?_ ?_
  ·intro h16;refine KS ?_;refine Oq Vm (Oq Va (KS ?_));have hR18:=q2 hM5 (.ret AJ) (by simp only [Dt,h12,h16,Ag]);have hq:=q4 hrr AJ (by simp only [Br,h12,h16,hR18,Ag]); subst hq;exact KU [] en
  intro h16;refine KS ?_;refine Oq Vm (Oq Ay (Oq Va (KS ?_)));exact Kg (r14,(AJ+1)) [0] ⟨(q3 hM5 (by simp only [Dt,h12,h16,Ag])),Ad,Ad,Ad,Ad⟩
 intro h12;have g20:=df h12;obtain rfl:r3=0:=by omega
 refine Ke ?_;have hR21:=q2 hM5 (.brk ()) (by simp only [Dt,h12,Ag]);refine KS ?_;refine Oq Va (KS ?_);have hq:=q4 hrr (-1) (by simp only [Br,h12,hR21,Ag]); subst hq;exact KU [] en
theorem Tb (c:Int) (Tw:0<=c/\c<=255) (rr:Bool) (hrr:EB c=rr):FT Tryz.prog 116 #[.int .u8 c] [] (fun g:Unit=>True) (fun g=>vb rr) (fun g=>[]):=by
 refine AG Tryz.func116 fun w0 M0 F0=>?_;refine KS ?_;refine Oq Va (KS ?_);refine Oq Vm (Oq BA (Oq Vm ?_));refine Js 5 ?_ ?_
 ·intro h1;refine Oq Vm (Oq FC (Oq As (Oq Vm ?_)));refine Js 9 ?_ ?_
  ·intro h3;refine Ae (Ae (Ae (Ae (Ae (Ae (Oq As (Oq Vm (Ae (Ae ?_)))))))));refine Oq As (Oq Va (KS ?_));have hq:=q4 hrr true (by simp only [EB,h1,h3,Ag]); subst hq;exact KU [] trivial
  intro h3;refine Oq Vm (Oq BA (Oq Vm ?_));refine Js 12 ?_ ?_
  ·intro h6;refine Oq Vm (Oq FC (Oq As (Oq Au (Oq Vm ?_))));refine Js 17 ?_ ?_
   ·intro h8;refine Ae (Ae (Oq As (Oq Va (KS ?_))));have hq:=q4 hrr true (by simp only [EB,h1,h3,h6,h8,Ag]); subst hq;exact KU [] trivial
   intro h8;refine Oq Vm (Oq AH (Oq Au (Oq Va (KS ?_))));have hq:=q4 hrr (c == 95) (by simp only [EB,h1,h3,h6,h8,Ag]); subst hq;exact KU [] trivial
  intro h6;refine Ae (Ae (Oq Au (Oq Au (Oq Vm (Oq Vm (Oq AH (Oq Au (Oq Va (KS ?_)))))))));have hq:=q4 hrr (c == 95) (by simp only [EB,h1,h3,h6,Ag]); subst hq;exact KU [] trivial
 intro h1;refine Ae (Ae (Oq Au (Oq Vm (Oq Vm (Oq BA (Oq Vm ?_))))));refine Js 12 ?_ ?_
 ·intro h13;refine Oq Vm (Oq FC (Oq As (Oq Au (Oq Vm ?_))));refine Js 17 ?_ ?_
  ·intro h15;refine Ae (Ae (Oq As (Oq Va (KS ?_))));have hq:=q4 hrr true (by simp only [EB,h1,h13,h15,Ag]); subst hq;exact KU [] trivial
  intro h15;refine Oq Vm (Oq AH (Oq Au (Oq Va (KS ?_))));have hq:=q4 hrr (c == 95) (by simp only [EB,h1,h13,h15,Ag]); subst hq;exact KU [] trivial
 intro h13;refine Ae (Ae (Oq Au (Oq Au (Oq Vm (Oq Vm (Oq AH (Oq Au (Oq Va (KS ?_)))))))));have hq:=q4 hrr (c == 95) (by simp only [EB,h1,h13,Ag]); subst hq;exact KU [] trivial
theorem SZ (c:Int) (Tw:0<=c/\c<=255) (rr:Bool) (hrr:K2 c=rr):FT Tryz.prog 117 #[.int .u8 c] [] (fun g:Unit=>True) (fun g=>vb rr) (fun g=>[]):=by
 refine AG Tryz.func117 fun w0 M0 F0=>?_;refine KS ?_;refine Oq Va (KS ?_);refine Oq Vm (Oq BA (Oq Vm ?_));refine Js 5 ?_ ?_
 ·intro h1;refine Oq Vm (Oq FC (Oq As (Oq Va (KS ?_))));have hq:=q4 hrr (decide (c<=57)) (by simp only [K2,h1,Ag]); subst hq;exact KU [] trivial
 intro h1;refine Ae (Ae (Oq Au (Oq Va (KS ?_))));have hq:=q4 hrr false (by simp only [K2,h1,Ag]); subst hq;exact KU [] trivial
theorem tF  (rr:List Aa) (hrr:Gj=rr):FT Tryz.prog 165 #[] [] (fun g:Value=>True) (fun g=>g) (fun g=>[sl g rr]):=by
 refine AG Tryz.func165 fun w0 M0 F0=>?_;refine KS ?_;refine Oq Va (KS ?_);refine Oa (A5 AN Co [.string (bs (Aa.mk [102,117,110,99])),.string (bs (Aa.mk [98,108,111,99,107])),.string (bs (Aa.mk [101,110,100])),.string (bs (Aa.mk [117,115,101])),.string (bs (Aa.mk [99,97,108,108])),.string (bs (Aa.mk [115,111,117,114,99,101])),.string (bs (Aa.mk [115,105,110,107])),.string (bs (Aa.mk [115,97,110,105,116,105,122,101])),.string (bs (Aa.mk [103,111,116,111])),.string (bs (Aa.mk [98,114,97,110,99,104])),.string (bs (Aa.mk [114,101,116,117,114,110]))] [.string (bs (Aa.mk [102,117,110,99])),.string (bs (Aa.mk [98,108,111,99,107])),.string (bs (Aa.mk [101,110,100])),.string (bs (Aa.mk [117,115,101])),.string (bs (Aa.mk [99,97,108,108])),.string (bs (Aa.mk [115,111,117,114,99,101])),.string (bs (Aa.mk [115,105,110,107])),.string (bs (Aa.mk [115,97,110,105,116,105,122,101])),.string (bs (Aa.mk [103,111,116,111])),.string (bs (Aa.mk [98,114,97,110,99,104])),.string (bs (Aa.mk [114,101,116,117,114,110]))]) fun c1=>?_;refine Jo 0 ?_; rintro a2 k3 rfl;refine Oq Va (KS ?_);refine Jl [0] (Aj.crOs (α:=Aa) (A:=[]) _ ([(Aa.mk [102,117,110,99]),(Aa.mk [98,108,111,99,107]),(Aa.mk [101,110,100]),(Aa.mk [117,115,101]),(Aa.mk [99,97,108,108]),(Aa.mk [115,111,117,114,99,101]),(Aa.mk [115,105,110,107]),(Aa.mk [115,97,110,105,116,105,122,101]),(Aa.mk [103,111,116,111]),(Aa.mk [98,114,97,110,99,104]),(Aa.mk [114,101,116,117,114,110])]:List Aa) _ AU (fun h=>⟨[.string (bs (Aa.mk [102,117,110,99]))],[.string (bs (Aa.mk [98,108,111,99,107])),.string (bs (Aa.mk [101,110,100])),.string (bs (Aa.mk [117,115,101])),.string (bs (Aa.mk [99,97,108,108])),.string (bs (Aa.mk [115,111,117,114,99,101])),.string (bs (Aa.mk [115,105,110,107])),.string (bs (Aa.mk [115,97,110,105,116,105,122,101])),.string (bs (Aa.mk [103,111,116,111])),.string (bs (Aa.mk [98,114,97,110,99,104])),.string (bs (Aa.mk [114,101,116,117,114,110]))],rfl,(fun _=>⟨rfl,by first | omega | (simp; done) | (dsimp only; omega) | exact B0 rfl⟩) h,⟨[.string (bs (Aa.mk [98,108,111,99,107]))],[.string (bs (Aa.mk [101,110,100])),.string (bs (Aa.mk [117,115,101])),.string (bs (Aa.mk [99,97,108,108])),.string (bs (Aa.mk [115,111,117,114,99,101])),.string (bs (Aa.mk [115,105,110,107])),.string (bs (Aa.mk [115,97,110,105,116,105,122,101])),.string (bs (Aa.mk [103,111,116,111])),.string (bs (Aa.mk [98,114,97,110,99,104])),.string (bs (Aa.mk [114,101,116,117,114,110]))],rfl,(fun _=>⟨rfl,by first | omega | (simp; done) | (dsimp only; omega) | exact B0 rfl⟩) h,⟨[.string (bs (Aa.mk [101,110,100]))],[.string (bs (Aa.mk [117,115,101])),.string (bs (Aa.mk [99,97,108,108])),.string (bs (Aa.mk [115,111,117,114,99,101])),.string (bs (Aa.mk [115,105,110,107])),.string (bs (Aa.mk [115,97,110,105,116,105,122,101])),.string (bs (Aa.mk [103,111,116,111])),.string (bs (Aa.mk [98,114,97,110,99,104])),.string (bs (Aa.mk [114,101,116,117,114,110]))],rfl,(fun _=>⟨rfl,by first | omega | (simp; done) | (dsimp only; omega) | exact B0 rfl⟩) h,⟨[.string (bs (Aa.mk [117,115,101]))],[.string (bs (Aa.mk [99,97,108,108])),.string (bs (Aa.mk [115,111,117,114,99,101])),.string (bs (Aa.mk [115,105,110,107])),.string (bs (Aa.mk [115,97,110,105,116,105,122,101])),.string (bs (Aa.mk [103,111,116,111])),.string (bs (Aa.mk [98,114,97,110,99,104])),.string (bs (Aa.mk [114,101,116,117,114,110]))],rfl,(fun _=>⟨rfl,by first | omega | (simp; done) | (dsimp only; omega) | exact B0 rfl⟩) h,⟨[.string (bs (Aa.mk [99,97,108,108]))],[.string (bs (Aa.mk [115,111,117,114,99,101])),.string (bs (Aa.mk [115,105,110,107])),.string (bs (Aa.mk [115,97,110,105,116,105,122,101])),.string (bs (Aa.mk [103,111,116,111])),.string (bs (Aa.mk [98,114,97,110,99,104])),.string (bs (Aa.mk [114,101,116,117,114,110]))],rfl,(fun _=>⟨rfl,by first | omega | (simp; done) | (dsimp only; omega) | exact B0 rfl⟩) h,⟨[.string (bs (Aa.mk [115,111,117,114,99,101]))],[.string (bs (Aa.mk [115,105,110,107])),.string (bs (Aa.mk [115,97,110,105,116,105,122,101])),.string (bs (Aa.mk [103,111,116,111])),.string (bs (Aa.mk [98,114,97,110,99,104])),.string (bs (Aa.mk [114,101,116,117,114,110]))],rfl,(fun _=>⟨rfl,by first | omega | (simp; done) | (dsimp only; omega) | exact B0 rfl⟩) h,⟨[.string (bs (Aa.mk [115,105,110,107]))],[.string (bs (Aa.mk [115,97,110,105,116,105,122,101])),.string (bs (Aa.mk [103,111,116,111])),.string (bs (Aa.mk [98,114,97,110,99,104])),.string (bs (Aa.mk [114,101,116,117,114,110]))],rfl,(fun _=>⟨rfl,by first | omega | (simp; done) | (dsimp only; omega) | exact B0 rfl⟩) h,⟨[.string (bs (Aa.mk [115,97,110,105,116,105,122,101]))],[.string (bs (Aa.mk [103,111,116,111])),.string (bs (Aa.mk [98,114,97,110,99,104])),.string (bs (Aa.mk [114,101,116,117,114,110]))],rfl,(fun _=>⟨rfl,by first | omega | (simp; done) | (dsimp only; omega) | exact B0 rfl⟩) h,⟨[.string (bs (Aa.mk [103,111,116,111]))],[.string (bs (Aa.mk [98,114,97,110,99,104])),.string (bs (Aa.mk [114,101,116,117,114,110]))],rfl,(fun _=>⟨rfl,by first | omega | (simp; done) | (dsimp only; omega) | exact B0 rfl⟩) h,⟨[.string (bs (Aa.mk [98,114,97,110,99,104]))],[.string (bs (Aa.mk [114,101,116,117,114,110]))],rfl,(fun _=>⟨rfl,by first | omega | (simp; done) | (dsimp only; omega) | exact B0 rfl⟩) h,⟨[.string (bs (Aa.mk [114,101,116,117,114,110]))],[],rfl,(fun _=>⟨rfl,by first | omega | (simp; done) | (dsimp only; omega) | exact B0 rfl⟩) h,rfl⟩⟩⟩⟩⟩⟩⟩⟩⟩⟩⟩)) ?_;refine Jl [0] (Aj.freeze _ _) ?_;have hq:=q4 hrr [(Aa.mk [102,117,110,99]),(Aa.mk [98,108,111,99,107]),(Aa.mk [101,110,100]),(Aa.mk [117,115,101]),(Aa.mk [99,97,108,108]),(Aa.mk [115,111,117,114,99,101]),(Aa.mk [115,105,110,107]),(Aa.mk [115,97,110,105,116,105,122,101]),(Aa.mk [103,111,116,111]),(Aa.mk [98,114,97,110,99,104]),(Aa.mk [114,101,116,117,114,110])] (by simp only [Gj,Ag]); subst hq;exact Kr (.slice a2 11 k3) rfl (.tmp rfl .nil) [0] trivial
theorem QC (s:Aa) (By:s.b.length<=140737488355328) (rr:Bool) (hrr:BY s=rr):FT Tryz.prog 134 #[.string (bs s)] [] (fun g:Unit=>True) (fun g=>vb rr) (fun g=>[]):=by
 refine AG Tryz.func134 fun w0 M0 F0=>?_;refine KS ?_;refine Oq Va (KS ?_);refine Oq Vm (Oq (K7 CH (l:=s)) (Oq AH (Oq Vm ?_)));refine Js 9 ?_ ?_
 ·intro h1;refine Ae (Ae (Ae (Oq As (Oq Vm (Ae (Ae (Ae (Ae (Oq As ?_)))))))));refine Oq Vm (Ae (Ae (Ae (Oq As (KS ?_)))));refine Kt (KS ?_);refine Oq Va (KS ?_);have hq:=q4 hrr false (by simp only [BY,h1,Ag]); subst hq;exact KU [] trivial
 intro h1;have g3:=ne_of_beq_false h1;refine Oq Vm (Oq (K7 CH (l:=s)) (Oq B3 (Oq Au (Oq Vm ?_))));refine Js 14 ?_ ?_
 ·intro h4;refine Ae (Ae (Ae (Ae (Oq As (Oq Vm (Ae (Ae (Ae (Oq As ?_)))))))));refine KS ?_;refine Kt (KS ?_);refine Oq Va (KS ?_);have hq:=q4 hrr false (by simp only [BY,h1,h4,Ag]); subst hq;exact KU [] trivial
 intro h4;have g6:=df h4;refine Oq Vm (Oq (Lo CH (l:=s)) ?_);have hb7:=MB (s.b.getD (0:Int).toNat 0);refine Av (EB ((s.b.getD (0:Int).toNat 0).toNat:Int)) fun rv8 hg9=>?_;have hc10:=Tb (((s.b.getD (0:Int).toNat 0).toNat:Int)) pre rv8 hg9;refine Oc [] RA hc10 ?_;rintro - -;refine Oq Bh (Oq Au (Oq Vm ?_));refine Js 20 ?_ ?_
 ·intro h11;have h13:=not_true h11;refine Ae (Ae (Ae (Oq As (KS ?_))));refine Kt (KS ?_);refine Oq Va (KS ?_);have hq:=q4 hrr false (by simp only [BY,h1,h4,h11,h13,hg9,Ag]); subst hq;exact KU [] trivial
 intro h11;have h16:=not_false h11;refine Oq Vm (Oq (Lo CH (l:=s)) ?_);refine Oq AH (Oq Au (KS ?_));refine Kc ?_ ?_
 ·intro h19;refine KS ?_;refine Oq Va (KS ?_);have hq:=q4 hrr false (by simp only [BY,h1,h4,h11,h16,h19,hg9,Ag]); subst hq;exact KU [] trivial
 intro h19;refine KS ?_;refine Oq Va (KS ?_);refine Kl (γ:=Nat×Int) (fun (r22,GB)=>⟨[(0,.string (bs s)),(3,vi GB)],[],HU s r22 GB=HU s (((s.b.length:Int) - 0).toNat) 0/\r22=((s.b.length:Int) - GB).toNat/\(0:Int)<=GB/\GB<=(s.b.length:Int)/\(-9223372036854775808<=GB/\GB<=9223372036854775807),r22⟩) (((s.b.length:Int) - 0).toNat,0) [] ⟨rfl,rfl,Ad,Ad,Ad⟩ ?_;rintro ⟨r22,GB⟩ ⟨hM24,hr25,hi26,hi27,hk28⟩;refine JX ?_;refine KS ?_;refine Oq Vm (Oq Vm (Oq (K7 CH (l:=s)) (Oq AF (KS ?_))));refine Kc ?_ ?_
 ·intro h29;have g30:=dt h29;obtain ⟨r31,rfl⟩:=AP (n:=r22) Ad;refine KS ?_;refine Oq Vm (Oq Vm (Oq (Lo CH (l:=s)) ?_));have hb32:=MB (s.b.getD GB.toNat 0);refine Av (EB ((s.b.getD GB.toNat 0).toNat:Int)) fun rv33 hg34=>?_;have hc35:=Tb (((s.b.getD GB.toNat 0).toNat:Int)) pre rv33 hg34;refine Oc [] RA hc35 ?_;rintro - -;refine Oq Bh (Oq Vm ?_);refine Js 36 ?_ ?_
  ·intro h36;have h38:=not_true h36;refine Oq Vm (Oq Vm (Oq (Lo CH (l:=s)) ?_));have hb40:=MB (s.b.getD GB.toNat 0);refine Av (K2 ((s.b.getD GB.toNat 0).toNat:Int)) fun rv41 hg42=>?_;have hc43:=SZ (((s.b.getD GB.toNat 0).toNat:Int)) pre rv41 hg42;refine Oc [] Su hc43 ?_;rintro - -;refine Oq Bh (Oq As (KS ?_));refine Kc ?_ ?_
   ·intro h44;have h46:=not_true h44;refine KS ?_;refine Oq Va (KS ?_);have hR48:=q2 hM24 (.ret false) (by simp only [HU,h29,h36,h38,h44,h46,hg34,hg42,Ag]);have hq:=q4 hrr false (by simp only [BY,h1,h4,h11,h16,h19,h29,h36,h38,h44,h46,hg9,hg34,hg42,hR48,Ag]); subst hq;exact KU [] trivial
   intro h44;have h50:=not_false h44;refine KS ?_;refine Oq Vm (Oq Ay (Oq Va (KS ?_)));exact Kg (r31,(GB+1)) [] ⟨(q3 hM24 (by simp only [HU,h29,h36,h38,h44,h50,hg34,hg42,Ag])),Ad,Ad,Ad,Ad⟩
  intro h36;have h53:=not_false h36;refine Ae (Ae (Ae (Ae (Ae (Oq Au (KS ?_))))));refine Kf (KS ?_);refine Oq Vm (Oq Ay (Oq Va (KS ?_)));exact Kg (r31,(GB+1)) [] ⟨(q3 hM24 (by simp only [HU,h29,h36,h53,hg34,Ag])),Ad,Ad,Ad,Ad⟩
 intro h29;have g55:=df h29;obtain rfl:r22=0:=by omega
 refine Ke ?_;have hR56:=q2 hM24 (.brk ()) (by simp only [HU,h29,Ag]);refine KS ?_;have hc58:=tF  Gj rfl;refine Oc [] vT hc58 ?_;rintro c57 -;refine Jo 0 ?_; rintro a59 k60 rfl;refine Fb 16 0 fun _=>?_;refine Oq Va (KS ?_);refine Oq Va (KS ?_);refine Kl (γ:=Nat×Int) (fun (r63,Ly)=>⟨[(0,.string (bs s)),(4,vl a59 k60 Gj),(5,vi Ly)],[S a59 k60 Gj],JN s r63 Ly=JN s (((Gj.length:Int) - 0).toNat) 0/\r63=((Gj.length:Int) - Ly).toNat/\(0:Int)<=Ly/\Ly<=(Gj.length:Int)/\(-9223372036854775808<=Ly/\Ly<=9223372036854775807),r63⟩) (((Gj.length:Int) - 0).toNat,0) [0] ⟨rfl,rfl,Ad,Ad,Ad⟩ ?_;rintro ⟨r63,Ly⟩ ⟨hM65,hr66,hi67,hi68,hk69⟩;refine JX ?_;refine DM 0 fun ho71=>?_;refine KS ?_;refine Oq Vm (Oq Vm (Oq (AB AN) (Oq AF (KS ?_))));refine Kc ?_ ?_
 ·intro h72;have g73:=dt h72;obtain ⟨r74,rfl⟩:=AP (n:=r63) Ad;refine KS ?_;refine Oq Vm (Oq Vm (Oq (Vi AN 0) ?_));refine Oq (DD Bj 0) (Oq Vm (Oq (De (l:=(Gj.getD Ly.toNat default)) (m:=s)) (KS ?_)));refine Kc ?_ ?_
  ·intro h76;refine KS ?_;refine Oq Va (KS ?_);have hR78:=q2 hM65 (.ret false) (by simp only [JN,h72,h76,Ag]);have hq:=q4 hrr false (by simp only [BY,h1,h4,h11,h16,h19,h29,h72,h76,hg9,hR56,hR78,Ag]); subst hq;exact KU [] trivial
  intro h76;refine KS ?_;refine Oq Vm (Oq Ay (Oq Va (KS ?_)));exact Kg (r74,(Ly+1)) [0] ⟨(q3 hM65 (by simp only [JN,h72,h76,Ag])),Ad,Ad,Ad,Ad⟩
 intro h72;have g80:=df h72;obtain rfl:r63=0:=by omega
 refine Ke ?_;have hR81:=q2 hM65 (.brk ()) (by simp only [JN,h72,Ag]);refine KS ?_;refine Oq Va (KS ?_);have hq:=q4 hrr true (by simp only [BY,h1,h4,h11,h16,h19,h29,h72,hg9,hR56,hR81,Ag]); subst hq;exact KU [] trivial
theorem dH (l:List Aa) (la0:Option Addr) (lk0:Nat) (a:Int) (b:Int) (N9:Af a) (Fk:Af b) (rr:Bool) (hrr:Gp l a b=rr):FT Tryz.prog 166 #[vl la0 lk0 l,vi a,vi b] [S la0 lk0 l] (fun g:Unit=>True) (fun g=>vb rr) (fun g=>[]):=by
 refine AG Tryz.func166 fun w0 M0 F0=>Fb 16 0 fun _=>?_;refine KS ?_;refine Oq Va (KS ?_);refine Oq Va (KS ?_);refine Kl (γ:=Nat×Int) (fun (r3,AJ)=>⟨[(0,vl la0 lk0 l),(1,vi a),(2,vi b),(7,vi AJ)],[S la0 lk0 l],JI l r3 AJ=JI l (((l.length:Int) - 0).toNat) 0/\r3=((l.length:Int) - AJ).toNat/\(0:Int)<=AJ/\AJ<=(l.length:Int)/\(-9223372036854775808<=AJ/\AJ<=9223372036854775807),r3⟩) (((l.length:Int) - 0).toNat,0) [0] ⟨rfl,rfl,Ad,Ad,Ad⟩ ?_;rintro ⟨r3,AJ⟩ ⟨hM5,hr6,hi7,hi8,hk9⟩;refine JX ?_;refine DM 0 fun ho11=>?_;refine KS ?_;refine Oq Vm (Oq Vm (Oq (AB AN) (Oq AF (KS ?_))));refine Kc ?_ ?_
 ·intro h12;have g13:=dt h12;obtain ⟨r14,rfl⟩:=AP (n:=r3) Ad;refine KS ?_;refine Oq Vm (Oq Vm (Oq (Vi AN 0) ?_));have hb15:=Ei (i:=AJ.toNat) ho11 AD;refine Oq (DD Bj 0) ?_;refine Av (BY (l.getD AJ.toNat default)) fun rv16 hg17=>?_;have hc18:=QC ((l.getD AJ.toNat default)) pre rv16 hg17;refine Oc [] PQ hc18 ?_;rintro - -;refine Oq Bh (KS ?_);refine Kc ?_ ?_
  ·intro h19;have h21:=not_true h19;refine KS ?_;refine Oq Va (KS ?_);have hR23:=q2 hM5 (.ret false) (by simp only [JI,h12,h19,h21,hg17,Ag]);have hq:=q4 hrr false (by simp only [Gp,h12,h19,h21,hg17,hR23,Ag]); subst hq;exact KU [] trivial
  intro h19;have h25:=not_false h19;refine KS ?_;refine Oq Vm (Oq Ay (Oq Va (KS ?_)));exact Kg (r14,(AJ+1)) [0] ⟨(q3 hM5 (by simp only [JI,h12,h19,h25,hg17,Ag])),Ad,Ad,Ad,Ad⟩
 intro h12;have g27:=df h12;obtain rfl:r3=0:=by omega
 refine Ke ?_;have hR28:=q2 hM5 (.brk ()) (by simp only [JI,h12,Ag]);refine KS ?_;refine Oq Vm (Oq (AB AN) (Oq Vm (Oq BA (Oq Vm ?_))));refine Js 24 ?_ ?_
 ·intro h29;refine Oq Vm (Oq (AB AN) (Oq Vm (Oq FC (Oq As (Oq Va (KS ?_))))));have hq:=q4 hrr (decide ((l.length:Int)<=b)) (by simp only [Gp,h12,h29,hR28,Ag]); subst hq;exact KU [] trivial
 intro h29;refine Ae (Ae (Ae (Ae (Oq Au (Oq Va (KS ?_))))));have hq:=q4 hrr false (by simp only [Gp,h12,h29,hR28,Ag]); subst hq;exact KU [] trivial
theorem kV (s:Az) (sa2:Option Addr) (sk2:Nat) (sa3:Option Addr) (sk3:Nat) (By:Af s.Op) (Lz:s.Def.b.length<=140737488355328) (rr:Bool) (hrr:BQ s=rr):FT Tryz.prog 135 #[.agg #[vi s.Op,.string (bs s.Def),vl sa2 sk2 s.Uses,vl sa3 sk3 s.Targets]] [S sa2 sk2 s.Uses,S sa3 sk3 s.Targets] (fun g:Unit=>True) (fun g=>vb rr) (fun g=>[]):=by
 refine AG Tryz.func135 fun w0 M0 F0=>?_;refine KS ?_;refine Oa (Ab [vi s.Op,.string (bs s.Def),vl sa2 sk2 s.Uses,vl sa3 sk3 s.Targets]) fun p5=>Oq Va (KS ?_);refine Oq (Ah FQ 0) (Oq (Ai Bj 0) ?_);refine Av (BY s.Def) fun rv6 hg7=>?_;have hc8:=QC s.Def pre rv6 hg7;refine Oc [] PQ hc8 ?_;rintro - -;refine Oq Va (KS ?_);refine Kq [0,1,3,0,8,24,7,127] AY ?_;refine Qv [0] (Ah ER 0) (Qv [0] (Ai Ct 0) (Qv [] (AB AN) (Qv [0] (Ah Hh 0) (Qv [0] (Ai Ct 0) (Qv [] (AB AN) (Qv [] Va (Qv [] Va ?_)))))));refine Qn ⟨by kernel_rfl,?_⟩;refine KS ?_;refine Oq (Ah ER 0) (Oq (Ai Ct 0) ?_);refine Av (Gp s.Uses 0 4) fun rv9 hg10=>?_;have hc11:=dH s.Uses sa2 sk2 0 4 pre pre rv9 hg10;refine Oc [1] Z1 hc11 ?_;rintro - -;refine Oq Bh (Oq Vm ?_);refine Js 19 ?_ ?_
 ·intro h12;have h14:=not_true h12;refine Ae (Ae (Ae (Ae (Oq As (KS ?_)))));refine Kt (KS ?_);refine Oq Va (KS ?_);have hq:=q4 hrr false (by simp only [BQ,h12,h14,hg7,hg10,Ag]); subst hq;exact KU [] trivial
 intro h12;have h17:=not_false h12;refine Oq (Ah Hh 0) (Oq (Ai Ct 0) ?_);refine Av (Gp s.Targets 0 2) fun rv19 hg20=>?_;have hc21:=dH s.Targets sa3 sk3 0 2 pre pre rv19 hg20;refine Oc [2] Z1 hc21 ?_;rintro - -;refine Oq Bh (Oq Au (KS ?_));refine Kc ?_ ?_
 ·intro h22;have h24:=not_true h22;refine KS ?_;refine Oq Va (KS ?_);have hq:=q4 hrr false (by simp only [BQ,h12,h17,h22,h24,hg7,hg10,hg20,Ag]); subst hq;exact KU [] trivial
 intro h22;have h27:=not_false h22;refine KS ?_;refine Oq (Ah CQ 0) (Oq (Ai An 0) (KS ?_));refine Oq AH (Oq Va (KS ?_));refine Kc ?_ ?_
 ·intro h29;refine KS ?_;refine Oq Vm (Oq Vm ?_);refine Js 30 ?_ ?_
  ·intro h31;refine Oq Vm (Oq AH (Oq As (Oq Va (KS ?_))));have hq:=q4 hrr ((s.Targets.length:Int) == 0) (by simp only [BQ,h12,h17,h22,h27,h29,h31,hg7,hg10,hg20,Ag]); subst hq;exact KU [] trivial
  intro h31;refine Ae (Ae (Oq Au (Oq Va (KS ?_))));have hq:=q4 hrr false (by simp only [BQ,h12,h17,h22,h27,h29,h31,hg7,hg10,hg20,Ag]); subst hq;exact KU [] trivial
 intro h29;refine KS ?_;refine Oq AH (Oq Va (KS ?_));refine Kc ?_ ?_
 ·intro h35;refine KS ?_;refine Oq (Ah FQ 0) (Oq (Ai Bj 0) (Oq (De (l:=s.Def) (m:=(Aa.mk []))) (Oq Vm ?_)));refine Js 39 ?_ ?_
  ·intro h37;refine Oq Vm (Oq BA (Oq As (Oq Vm ?_)));refine Js 43 ?_ ?_
   ·intro h39;refine Oq Vm (Oq AH (Oq As (Oq Va (KS ?_))));have hq:=q4 hrr ((s.Targets.length:Int) == 0) (by simp only [BQ,h12,h17,h22,h27,h29,h35,h37,h39,hg7,hg10,hg20,Ag]); subst hq;exact KU [] trivial
   intro h39;refine Ae (Ae (Oq Au (Oq Va (KS ?_))));have hq:=q4 hrr false (by simp only [BQ,h12,h17,h22,h27,h29,h35,h37,h39,hg7,hg10,hg20,Ag]); subst hq;exact KU [] trivial
  intro h37;refine Ae (Ae (Oq Au (Oq Vm (Ae (Ae (Oq Au (Oq Va (KS ?_))))))));have hq:=q4 hrr false (by simp only [BQ,h12,h17,h22,h27,h29,h35,h37,hg7,hg10,hg20,Ag]); subst hq;exact KU [] trivial
 intro h35;refine KS ?_;refine Oq AH (Oq Va (KS ?_));refine Kc ?_ ?_
 ·intro h44;refine KS ?_;refine Oq (Ah FQ 0) (Oq (Ai Bj 0) (Oq (De (l:=s.Def) (m:=(Aa.mk []))) (Oq Vm ?_)));refine Js 52 ?_ ?_
  ·intro h46;refine Oq Vm (Oq AH (Oq As (Oq Vm ?_)));refine Js 56 ?_ ?_
   ·intro h48;refine Oq Vm (Oq AH (Oq As (Oq Va (KS ?_))));have hq:=q4 hrr ((s.Targets.length:Int) == 0) (by simp only [BQ,h12,h17,h22,h27,h29,h35,h44,h46,h48,hg7,hg10,hg20,Ag]); subst hq;exact KU [] trivial
   intro h48;refine Ae (Ae (Oq Au (Oq Va (KS ?_))));have hq:=q4 hrr false (by simp only [BQ,h12,h17,h22,h27,h29,h35,h44,h46,h48,hg7,hg10,hg20,Ag]); subst hq;exact KU [] trivial
  intro h46;refine Ae (Ae (Oq Au (Oq Vm (Ae (Ae (Oq Au (Oq Va (KS ?_))))))));have hq:=q4 hrr false (by simp only [BQ,h12,h17,h22,h27,h29,h35,h44,h46,hg7,hg10,hg20,Ag]); subst hq;exact KU [] trivial
 intro h44;refine KS ?_;refine Oq AH (Oq Va (KS ?_));refine Kc ?_ ?_
 ·intro h53;refine KS ?_;refine Kc ?_ ?_
  ·intro h55;refine KS ?_;refine Oq (Ah FQ 0) (Oq (Ai Bj 0) (Oq (De (l:=s.Def) (m:=(Aa.mk []))) (Oq Vm ?_)));refine Js 66 ?_ ?_
   ·intro h57;refine Oq Vm (Oq AH (Oq As (Oq Vm ?_)));refine Js 70 ?_ ?_
    ·intro h59;refine Oq Vm (Oq AH (Oq As (Oq Va (KS ?_))));have hq:=q4 hrr ((s.Targets.length:Int) == 1) (by simp only [BQ,h12,h17,h22,h27,h29,h35,h44,h53,h55,h57,h59,hg7,hg10,hg20,Ag]); subst hq;exact KU [] trivial
    intro h59;refine Ae (Ae (Oq Au (Oq Va (KS ?_))));have hq:=q4 hrr false (by simp only [BQ,h12,h17,h22,h27,h29,h35,h44,h53,h55,h57,h59,hg7,hg10,hg20,Ag]); subst hq;exact KU [] trivial
   intro h57;refine Ae (Ae (Oq Au (Oq Vm (Ae (Ae (Oq Au (Oq Va (KS ?_))))))));have hq:=q4 hrr false (by simp only [BQ,h12,h17,h22,h27,h29,h35,h44,h53,h55,h57,hg7,hg10,hg20,Ag]); subst hq;exact KU [] trivial
  intro h55;exact absurd h55 (by first | (simp [h53]; done) | (simp only [bne,h53]; decide) | (simp only [bne,h53,Bool.not_true,Bool.not_false]; decide) | (exfalso; omega) | (intro hq; simp only [bne,hq,Bool.not_false,Bool.not_true,reduceCtorEq] at h53))
 intro h53;refine KS ?_;refine Oq AH (Oq Va (KS ?_));refine Kc ?_ ?_
 ·intro h64;refine KS ?_;refine Oq (Ah FQ 0) (Oq (Ai Bj 0) (Oq (De (l:=s.Def) (m:=(Aa.mk []))) (Oq Vm ?_)));refine Js 66 ?_ ?_
  ·intro h66;refine Oq Vm (Oq AH (Oq As (Oq Vm ?_)));refine Js 70 ?_ ?_
   ·intro h68;refine Oq Vm (Oq AH (Oq As (Oq Va (KS ?_))));have hq:=q4 hrr ((s.Targets.length:Int) == 1) (by simp only [BQ,h12,h17,h22,h27,h29,h35,h44,h53,h64,h66,h68,hg7,hg10,hg20,Ag]); subst hq;exact KU [] trivial
   intro h68;refine Ae (Ae (Oq Au (Oq Va (KS ?_))));have hq:=q4 hrr false (by simp only [BQ,h12,h17,h22,h27,h29,h35,h44,h53,h64,h66,h68,hg7,hg10,hg20,Ag]); subst hq;exact KU [] trivial
  intro h66;refine Ae (Ae (Oq Au (Oq Vm (Ae (Ae (Oq Au (Oq Va (KS ?_))))))));have hq:=q4 hrr false (by simp only [BQ,h12,h17,h22,h27,h29,h35,h44,h53,h64,h66,hg7,hg10,hg20,Ag]); subst hq;exact KU [] trivial
 intro h64;refine KS ?_;refine Oq AH (Oq Va (KS ?_));refine Kc ?_ ?_
 ·intro h73;refine KS ?_;refine Kc ?_ ?_
  ·intro h75;refine KS ?_;refine Oq Vm (Oq Vm ?_);refine Js 78 ?_ ?_
   ·intro h77;refine Oq Vm (Oq AH (Oq As (Oq Vm ?_)));refine Js 82 ?_ ?_
    ·intro h79;refine Oq Vm (Oq AH (Oq As (Oq Va (KS ?_))));have hq:=q4 hrr ((s.Targets.length:Int) == 0) (by simp only [BQ,h12,h17,h22,h27,h29,h35,h44,h53,h64,h73,h75,h77,h79,hg7,hg10,hg20,Ag]); subst hq;exact KU [] trivial
    intro h79;refine Ae (Ae (Oq Au (Oq Va (KS ?_))));have hq:=q4 hrr false (by simp only [BQ,h12,h17,h22,h27,h29,h35,h44,h53,h64,h73,h75,h77,h79,hg7,hg10,hg20,Ag]); subst hq;exact KU [] trivial
   intro h77;refine Ae (Ae (Oq Au (Oq Vm (Ae (Ae (Oq Au (Oq Va (KS ?_))))))));have hq:=q4 hrr false (by simp only [BQ,h12,h17,h22,h27,h29,h35,h44,h53,h64,h73,h75,h77,hg7,hg10,hg20,Ag]); subst hq;exact KU [] trivial
  intro h75;exact absurd h75 (by first | (simp [h73]; done) | (simp only [bne,h73]; decide) | (simp only [bne,h73,Bool.not_true,Bool.not_false]; decide) | (exfalso; omega) | (intro hq; simp only [bne,hq,Bool.not_false,Bool.not_true,reduceCtorEq] at h73))
 intro h73;refine KS ?_;refine Oq AH (Oq Va (KS ?_));refine Kc ?_ ?_
 ·intro h84;refine KS ?_;refine Oq Vm (Oq Vm ?_);refine Js 78 ?_ ?_
  ·intro h86;refine Oq Vm (Oq AH (Oq As (Oq Vm ?_)));refine Js 82 ?_ ?_
   ·intro h88;refine Oq Vm (Oq AH (Oq As (Oq Va (KS ?_))));have hq:=q4 hrr ((s.Targets.length:Int) == 0) (by simp only [BQ,h12,h17,h22,h27,h29,h35,h44,h53,h64,h73,h84,h86,h88,hg7,hg10,hg20,Ag]); subst hq;exact KU [] trivial
   intro h88;refine Ae (Ae (Oq Au (Oq Va (KS ?_))));have hq:=q4 hrr false (by simp only [BQ,h12,h17,h22,h27,h29,h35,h44,h53,h64,h73,h84,h86,h88,hg7,hg10,hg20,Ag]); subst hq;exact KU [] trivial
  intro h86;refine Ae (Ae (Oq Au (Oq Vm (Ae (Ae (Oq Au (Oq Va (KS ?_))))))));have hq:=q4 hrr false (by simp only [BQ,h12,h17,h22,h27,h29,h35,h44,h53,h64,h73,h84,h86,hg7,hg10,hg20,Ag]); subst hq;exact KU [] trivial
 intro h84;refine KS ?_;refine Oq AH (Oq Va (KS ?_));refine Kc ?_ ?_
 ·intro h93;refine KS ?_;refine Oq (Ah FQ 0) (Oq (Ai Bj 0) (Oq (De (l:=s.Def) (m:=(Aa.mk []))) (Oq Vm ?_)));refine Js 91 ?_ ?_
  ·intro h95;refine Oq Vm (Oq AH (Oq As (Oq Vm ?_)));refine Js 95 ?_ ?_
   ·intro h97;refine Oq Vm (Oq AH (Oq As (Oq Va (KS ?_))));have hq:=q4 hrr ((s.Targets.length:Int) == 2) (by simp only [BQ,h12,h17,h22,h27,h29,h35,h44,h53,h64,h73,h84,h93,h95,h97,hg7,hg10,hg20,Ag]); subst hq;exact KU [] trivial
   intro h97;refine Ae (Ae (Oq Au (Oq Va (KS ?_))));have hq:=q4 hrr false (by simp only [BQ,h12,h17,h22,h27,h29,h35,h44,h53,h64,h73,h84,h93,h95,h97,hg7,hg10,hg20,Ag]); subst hq;exact KU [] trivial
  intro h95;refine Ae (Ae (Oq Au (Oq Vm (Ae (Ae (Oq Au (Oq Va (KS ?_))))))));have hq:=q4 hrr false (by simp only [BQ,h12,h17,h22,h27,h29,h35,h44,h53,h64,h73,h84,h93,h95,hg7,hg10,hg20,Ag]); subst hq;exact KU [] trivial
 intro h93;refine KS ?_;refine Oq AH (Oq Va (KS ?_));refine Kc ?_ ?_
 ·intro h102;refine KS ?_;refine Oq (Ah FQ 0) (Oq (Ai Bj 0) (Oq (De (l:=s.Def) (m:=(Aa.mk []))) (Oq Vm ?_)));refine Js 104 ?_ ?_
  ·intro h104;refine Oq Vm (Oq AH (Oq As (Oq Vm ?_)));refine Js 108 ?_ ?_
   ·intro h106;refine Oq Vm (Oq AH (Oq As (Oq Va (KS ?_))));have hq:=q4 hrr ((s.Targets.length:Int) == 0) (by simp only [BQ,h12,h17,h22,h27,h29,h35,h44,h53,h64,h73,h84,h93,h102,h104,h106,hg7,hg10,hg20,Ag]); subst hq;exact KU [] trivial
   intro h106;refine Ae (Ae (Oq Au (Oq Va (KS ?_))));have hq:=q4 hrr false (by simp only [BQ,h12,h17,h22,h27,h29,h35,h44,h53,h64,h73,h84,h93,h102,h104,h106,hg7,hg10,hg20,Ag]); subst hq;exact KU [] trivial
  intro h104;refine Ae (Ae (Oq Au (Oq Vm (Ae (Ae (Oq Au (Oq Va (KS ?_))))))));have hq:=q4 hrr false (by simp only [BQ,h12,h17,h22,h27,h29,h35,h44,h53,h64,h73,h84,h93,h102,h104,hg7,hg10,hg20,Ag]); subst hq;exact KU [] trivial
 intro h102;refine KS ?_;refine Oq Va (KS ?_);have hq:=q4 hrr false (by simp only [BQ,h12,h17,h22,h27,h29,h35,h44,h53,h64,h73,h84,h93,h102,hg7,hg10,hg20,Ag]); subst hq;exact KU [] trivial
theorem Um (p:Aw) (pa0:Option Addr) (pk0:Nat) (rr:Bool) (hrr:CG p=rr):FT Tryz.prog 81 #[.agg #[vl pa0 pk0 p.Funcs]] [S pa0 pk0 p.Funcs] (fun g:Unit=>True) (fun g=>vb rr) (fun g=>[]):=by
 refine AG Tryz.func81 fun w0 M0 F0=>Fb 40 0 fun _=>?_;refine KS ?_;refine Oa (Ab [vl pa0 pk0 p.Funcs]) fun p2=>Oq Va (KS ?_);refine Oq (Ah BS 0) (Oq (Ai BU 0) (Oq (AB BC) (Oq AF (Oq Vm ?_))));refine Js 12 ?_ ?_
 ·intro h3;refine Ae (Ae (Ae (Ae (Oq As (KS ?_)))));refine Kt (KS ?_);refine Oq Va (KS ?_);have hq:=q4 hrr false (by simp only [CG,h3,Ag]); subst hq;exact KU [] trivial
 intro h3;have g5:=df h3;refine Oq (Ah BS 0) (Oq (Ai BU 0) (Oq (AB BC) (Oq B3 (Oq Au (KS ?_)))));refine Kc ?_ ?_
 ·intro h6;refine KS ?_;refine Oq Va (KS ?_);have hq:=q4 hrr false (by simp only [CG,h3,h6,Ag]); subst hq;exact KU [] trivial
 intro h6;have g8:=df h6;refine KS ?_;refine Oq Va (KS ?_);refine Kl (γ:=Nat×Int) (fun (r9,Cd)=>⟨[(1,p2),(3,vi Cd)],[pv p2 [vl pa0 pk0 p.Funcs],S pa0 pk0 p.Funcs],FY p r9 Cd=FY p (((p.Funcs.length:Int) - 0).toNat) 0/\r9=((p.Funcs.length:Int) - Cd).toNat/\(0:Int)<=Cd/\Cd<=(p.Funcs.length:Int)/\(-9223372036854775808<=Cd/\Cd<=9223372036854775807),r9⟩) (((p.Funcs.length:Int) - 0).toNat,0) [0,1] ⟨rfl,rfl,Ad,Ad,Ad⟩ ?_;rintro ⟨r9,Cd⟩ ⟨hM11,hr12,hi13,hi14,hk15⟩;refine JX ?_;refine KS ?_;refine Oq Vm (Oq (Ah BS 0) (Oq (Ai BU 0) (Oq (AB BC) (Oq AF (KS ?_)))));refine Kc ?_ ?_
 ·intro h17;have g18:=dt h17;obtain ⟨r19,rfl⟩:=AP (n:=r9) Ad;refine KS ?_;refine Oq (Ah BS 0) (Oq (Ai BU 0) (Oq Vm (Oq (Vi BC 1) ?_)));refine D1 Cd.toNat 1 rfl AD fun a20 k21 hb22=>?_;refine Fb 40 1 fun _=>?_;refine Oq (Aq CT 0) (Oa (Al H9 [.string (bs (Aa.mk [])),.slice none 0 0]) fun p24=>AC (AI [0] CT [.string (bs ((p.Funcs.getD Cd.toNat default).Name)),vl a20 k21 ((p.Funcs.getD Cd.toNat default).Blocks)]) (KS ?_));refine Oq (Ah HA 0) (Oq (Ai Bj 0) ?_);refine Av (BY ((p.Funcs.getD Cd.toNat default).Name)) fun rv25 hg26=>?_;have hc27:=QC ((p.Funcs.getD Cd.toNat default).Name) pre rv25 hg26;refine Oc [] PQ hc27 ?_;rintro - -;refine Oq Bh (Oq Vm ?_);refine Js 34 ?_ ?_
  ·intro h28;have h30:=not_true h28;refine Ae (Ae (Ae (Ae (Oq As (Oq Vm (Ae (Ae (Ae (Ae ?_)))))))));refine Oq As (KS ?_);refine Kt (KS ?_);refine Oq Va (KS ?_);have hR32:=q2 hM11 (.ret false) (by simp only [FY,h17,h28,h30,hg26,Ag]);have hq:=q4 hrr false (by simp only [CG,h3,h6,h17,h28,h30,hg26,hR32,Ag]); subst hq;exact KU [] trivial
  intro h28;have h34:=not_false h28;refine Oq (Ah CB 0) (Oq (Ai CA 0) (Oq (AB B5) (Oq AF (Oq Au (Oq Vm ?_)))));refine Js 40 ?_ ?_
  ·intro h36;refine Ae (Ae (Ae (Ae (Oq As (KS ?_)))));refine Kt (KS ?_);refine Oq Va (KS ?_);have hR38:=q2 hM11 (.ret false) (by simp only [FY,h17,h28,h34,h36,hg26,Ag]);have hq:=q4 hrr false (by simp only [CG,h3,h6,h17,h28,h34,h36,hg26,hR38,Ag]); subst hq;exact KU [] trivial
  intro h36;have g39:=df h36;refine Oq (Ah CB 0) (Oq (Ai CA 0) (Oq (AB B5) (Oq B3 (Oq Au (KS ?_)))));refine Kc ?_ ?_
  ·intro h40;refine KS ?_;refine Oq Va (KS ?_);have hR42:=q2 hM11 (.ret false) (by simp only [FY,h17,h28,h34,h36,h40,hg26,Ag]);have hq:=q4 hrr false (by simp only [CG,h3,h6,h17,h28,h34,h36,h40,hg26,hR42,Ag]); subst hq;exact KU [] trivial
  intro h40;have g43:=df h40;refine KS ?_;refine Oq Va (KS ?_);refine Kl (γ:=Nat×Int) (fun (r44,DK)=>⟨[(1,p2),(3,vi Cd),(4,p24),(5,vi DK)],[Cl p24 [.string (bs ((p.Funcs.getD Cd.toNat default).Name)),vl a20 k21 ((p.Funcs.getD Cd.toNat default).Blocks)],S a20 k21 ((p.Funcs.getD Cd.toNat default).Blocks),pv p2 [vl pa0 pk0 p.Funcs],S pa0 pk0 p.Funcs],Hu ((p.Funcs.getD Cd.toNat default).Blocks) r44 DK=Hu ((p.Funcs.getD Cd.toNat default).Blocks) ((((((p.Funcs.getD Cd.toNat default).Blocks).length:Int):Int) - 0).toNat) 0/\r44=(((((p.Funcs.getD Cd.toNat default).Blocks).length:Int):Int) - DK).toNat/\(0:Int)<=DK/\(DK<=(((p.Funcs.getD Cd.toNat default).Blocks).length:Int)\/DK=0)/\(-9223372036854775808<=DK/\DK<=9223372036854775807),r44⟩) ((((((p.Funcs.getD Cd.toNat default).Blocks).length:Int):Int) - 0).toNat,0) [0,1,2,3] ⟨rfl,rfl,Ad,(.inr rfl),Ad⟩ ?_;rintro ⟨r44,DK⟩ ⟨hM46,hr47,hi48,hi49,hk50⟩;refine JX ?_;refine KS ?_;refine Oq Vm (Oq (Ah CB 0) (Oq (Ai CA 0) (Oq (AB B5) (Oq AF (KS ?_)))));refine Kc ?_ ?_
  ·intro h53;have g54:=dt h53;obtain ⟨r55,rfl⟩:=AP (n:=r44) Ad;refine KS ?_;refine Oq (Ah CB 0) (Oq (Ai CA 0) (Oq Vm (Oq (Vi B5 1) ?_)));refine EQ DK.toNat 1 rfl AD fun a56 k57 hb58=>?_;refine Fb 72 1 fun _=>?_;refine Oq (Aq Eg 0) (Oa (Al KL [.string (bs (Aa.mk [])),.slice none 0 0]) fun p60=>AC (AI [0] Eg [.string (bs ((((p.Funcs.getD Cd.toNat default).Blocks).getD DK.toNat default).Name)),.slice a56 (((((p.Funcs.getD Cd.toNat default).Blocks).getD DK.toNat default).Stmts).length) k57]) (KS ?_));refine Oq (Ah MM 0) (Oq (Ai Bj 0) ?_);refine Av (BY ((((p.Funcs.getD Cd.toNat default).Blocks).getD DK.toNat default).Name)) fun rv61 hg62=>?_;have hc63:=QC ((((p.Funcs.getD Cd.toNat default).Blocks).getD DK.toNat default).Name) pre rv61 hg62;refine Oc [] PQ hc63 ?_;rintro - -;refine Oq Bh (Oq Vm ?_);refine Js 62 ?_ ?_
   ·intro h64;have h66:=not_true h64;refine Ae (Ae (Ae (Ae (Oq As (Oq Vm (Ae (Ae (Ae (Ae ?_)))))))));refine Oq As (KS ?_);refine Kt (KS ?_);refine Oq Va (KS ?_);have hR68:=q2 hM46 (.ret false) (by simp only [Hu,h53,h64,h66,hg62,Ag]);have hR69:=q2 hM11 (.ret false) (by simp only [FY,h17,h28,h34,h36,h40,h53,h64,h66,hg26,hg62,hR68,Ag]);have hq:=q4 hrr false (by simp only [CG,h3,h6,h17,h28,h34,h36,h40,h53,h64,h66,hg26,hg62,hR68,hR69,Ag]); subst hq;exact KU [] trivial
   intro h64;have h71:=not_false h64;refine Oq (Ah CR 0) (Oq (Ai CU 0) (Oq (AB BI) (Oq AF (Oq Au (Oq Vm ?_)))));refine Js 68 ?_ ?_
   ·intro h73;refine Ae (Ae (Ae (Ae (Oq As (KS ?_)))));refine Kt (KS ?_);refine Oq Va (KS ?_);have hR75:=q2 hM46 (.ret false) (by simp only [Hu,h53,h64,h71,h73,hg62,Ag]);have hR76:=q2 hM11 (.ret false) (by simp only [FY,h17,h28,h34,h36,h40,h53,h64,h71,h73,hg26,hg62,hR75,Ag]);have hq:=q4 hrr false (by simp only [CG,h3,h6,h17,h28,h34,h36,h40,h53,h64,h71,h73,hg26,hg62,hR75,hR76,Ag]); subst hq;exact KU [] trivial
   intro h73;have g77:=df h73;refine Oq (Ah CR 0) (Oq (Ai CU 0) (Oq (AB BI) (Oq B3 (Oq Au (KS ?_)))));refine Kc ?_ ?_
   ·intro h78;refine KS ?_;refine Oq Va (KS ?_);have hR80:=q2 hM46 (.ret false) (by simp only [Hu,h53,h64,h71,h73,h78,hg62,Ag]);have hR81:=q2 hM11 (.ret false) (by simp only [FY,h17,h28,h34,h36,h40,h53,h64,h71,h73,h78,hg26,hg62,hR80,Ag]);have hq:=q4 hrr false (by simp only [CG,h3,h6,h17,h28,h34,h36,h40,h53,h64,h71,h73,h78,hg26,hg62,hR80,hR81,Ag]); subst hq;exact KU [] trivial
   intro h78;have g82:=df h78;refine KS ?_;refine Oq Va (KS ?_);refine Kl (γ:=Nat×Int) (fun (r83,Ie)=>⟨[(1,p2),(3,vi Cd),(4,p24),(5,vi DK),(6,p60),(7,vi Ie)],[Cl p60 [.string (bs ((((p.Funcs.getD Cd.toNat default).Blocks).getD DK.toNat default).Name)),.slice a56 (((((p.Funcs.getD Cd.toNat default).Blocks).getD DK.toNat default).Stmts).length) k57],S a56 k57 ((((p.Funcs.getD Cd.toNat default).Blocks).getD DK.toNat default).Stmts),Cl p24 [.string (bs ((p.Funcs.getD Cd.toNat default).Name)),vl a20 k21 ((p.Funcs.getD Cd.toNat default).Blocks)],S a20 k21 ((p.Funcs.getD Cd.toNat default).Blocks),pv p2 [vl pa0 pk0 p.Funcs],S pa0 pk0 p.Funcs],JH ((((p.Funcs.getD Cd.toNat default).Blocks).getD DK.toNat default).Stmts) r83 Ie=JH ((((p.Funcs.getD Cd.toNat default).Blocks).getD DK.toNat default).Stmts) ((((((((p.Funcs.getD Cd.toNat default).Blocks).getD DK.toNat default).Stmts).length:Int):Int) - 0).toNat) 0/\r83=(((((((p.Funcs.getD Cd.toNat default).Blocks).getD DK.toNat default).Stmts).length:Int):Int) - Ie).toNat/\(0:Int)<=Ie/\(Ie<=(((((p.Funcs.getD Cd.toNat default).Blocks).getD DK.toNat default).Stmts).length:Int)\/Ie=0)/\(-9223372036854775808<=Ie/\Ie<=9223372036854775807),r83⟩) ((((((((p.Funcs.getD Cd.toNat default).Blocks).getD DK.toNat default).Stmts).length:Int):Int) - 0).toNat,0) [0,1,2,2,3,4] ⟨rfl,rfl,Ad,(.inr rfl),Ad⟩ ?_;rintro ⟨r83,Ie⟩ ⟨hM85,hr86,hi87,hi88,hk89⟩;refine JX ?_;refine KS ?_;refine Oq Vm (Oq (Ah CR 0) (Oq (Ai CU 0) (Oq (AB BI) (Oq AF (KS ?_)))));refine Kc ?_ ?_
   ·intro h93;have g94:=dt h93;obtain ⟨r95,rfl⟩:=AP (n:=r83) Ad;refine KS ?_;refine Oq (Ah CR 0) (Oq (Ai CU 0) (Oq Vm (Oq (Vi BI 1) ?_)));refine GW Ie.toNat 1 rfl AD fun a96 k97 a98 k99 hb100 hb101=>?_;unfold Af at hb100;refine Oq (Aq Bd 0) ?_;refine Av (BQ (((((p.Funcs.getD Cd.toNat default).Blocks).getD DK.toNat default).Stmts).getD Ie.toNat default)) fun rv106 hg107=>?_;have hc108:=kV ((((((p.Funcs.getD Cd.toNat default).Blocks).getD DK.toNat default).Stmts).getD Ie.toNat default)) a96 k97 a98 k99 pre pre rv106 hg107;refine Oc [1,2] vA hc108 ?_;rintro - -;refine Oq Bh (KS ?_);refine Kc ?_ ?_
    ·intro h109;have h111:=not_true h109;refine KS ?_;refine Oq Va (KS ?_);have hR113:=q2 hM85 (.ret false) (by simp only [JH,h93,h109,h111,hg107,Ag]);have hR114:=q2 hM46 (.ret false) (by simp only [Hu,h53,h64,h71,h73,h78,h93,h109,h111,hg62,hg107,hR113,Ag]);have hR115:=q2 hM11 (.ret false) (by simp only [FY,h17,h28,h34,h36,h40,h53,h64,h71,h73,h78,h93,h109,h111,hg26,hg62,hg107,hR113,hR114,Ag]);have hq:=q4 hrr false (by simp only [CG,h3,h6,h17,h28,h34,h36,h40,h53,h64,h71,h73,h78,h93,h109,h111,hg26,hg62,hg107,hR113,hR114,hR115,Ag]); subst hq;exact KU [] trivial
    intro h109;have h117:=not_false h109;refine KS ?_;refine Oq Vm (Oq Ay (Oq Va (KS ?_)));exact Kg (r95,(Ie+1)) [3,3,4,4,5,6] ⟨(q3 hM85 (by simp only [JH,h93,h109,h117,hg107,Ag])),Ad,Ad,Ad,Ad⟩
   intro h93;have g119:=df h93;obtain rfl:r83=0:=by omega
   refine Ke ?_;have hR120:=q2 hM85 (.brk ()) (by simp only [JH,h93,Ag]);refine KS ?_;refine Oq Vm (Oq Ay (Oq Va (KS ?_)));exact Kg (r55,(DK+1)) [2,2,3,4] ⟨(q3 hM46 (by simp only [Hu,h53,h64,h71,h73,h78,h93,hg62,hR120,Ag])),Ad,Ad,Ad,Ad⟩
  intro h53;have g121:=df h53;obtain rfl:r44=0:=by omega
  refine Ke ?_;have hR122:=q2 hM46 (.brk ()) (by simp only [Hu,h53,Ag]);refine KS ?_;refine Oq Vm (Oq Ay (Oq Va (KS ?_)));exact Kg (r19,(Cd+1)) [2,3] ⟨(q3 hM11 (by simp only [FY,h17,h28,h34,h36,h40,h53,hg26,hR122,Ag])),Ad,Ad,Ad,Ad⟩
 intro h17;have g123:=df h17;obtain rfl:r9=0:=by omega
 refine Ke ?_;have hR124:=q2 hM11 (.brk ()) (by simp only [FY,h17,Ag]);refine KS ?_;refine Oq Va (KS ?_);have hq:=q4 hrr true (by simp only [CG,h3,h6,h17,hR124,Ag]); subst hq;exact KU [] trivial
theorem S8 (p:Aw) (pa0:Option Addr) (pk0:Nat) (rr:List Aa) (hrr:Ca p=rr):FT Tryz.prog 42 #[.agg #[vl pa0 pk0 p.Funcs]] [S pa0 pk0 p.Funcs] (fun g:Value=>True) (fun g=>g) (fun g=>[sl g rr]):=by
 refine AG Tryz.func42 fun w0 M0 F0=>Fb 40 0 fun _=>?_;refine KS ?_;refine Oa (Ab [vl pa0 pk0 p.Funcs]) fun p2=>Oq Va (KS ?_);refine Oq Va (KS ?_);refine Oq (Aq Be 0) ?_;refine Av (CG p) fun rv3 hg4=>?_;have hc5:=Um p pa0 pk0 rv3 hg4;refine Oc [1] TE hc5 ?_;rintro - -;refine Oq Bh (KS ?_);refine Kc ?_ ?_
 ·intro h6;have h8:=not_true h6;refine KS ?_;refine Oq Va (KS ?_);refine Jl [] (Aj.slNil (α:=Aa)) ?_;have hq:=q4 hrr ([]:List Aa) (by simp only [Ca,h6,h8,hg4,Ag]); subst hq;exact Kr (.slice none 0 0) rfl (.tmp rfl .nil) [0] trivial
 intro h6;have h11:=not_false h6
 try have hVb:=U0 (p:=p) (by simp only [h6,h11,hg4])
 refine KS ?_;refine Oq Va (KS ?_);refine Jl [] (Aj.osNil (α:=Aa)) ?_;refine Kl (γ:=Nat×List Aa×Int×Option Addr×Nat) (fun (r13,Ek,BE,a16,k17)=>⟨[(1,p2),(3,vl a16 k17 Ek),(4,vi BE)],[O a16 k17 Ek,pv p2 [vl pa0 pk0 p.Funcs],S pa0 pk0 p.Funcs],Hr p r13 Ek BE=Hr p (((p.Funcs.length:Int) - 0).toNat) [] 0/\r13=((p.Funcs.length:Int) - BE).toNat/\(0:Int)<=BE/\BE<=(p.Funcs.length:Int)/\(-9223372036854775808<=BE/\BE<=9223372036854775807)/\((Ek.length:Int)<=3000*BE),r13⟩) (((p.Funcs.length:Int) - 0).toNat,[],0,none,0) [0,0,1] ⟨rfl,rfl,Ad,Ad,Ad,Bi⟩ ?_;rintro ⟨r13,Ek,BE,a16,k17⟩ ⟨hM18,hr19,hi20,hi21,hk22,hv23⟩;refine JX ?_;refine Fb 16 0 fun _=>KS ?_;refine Oq Vm (Oq (Ah BS 1) (Oq (Ai BU 1) (Oq (AB BC) (Oq AF (KS ?_)))));refine Kc ?_ ?_
 ·intro h27;have g28:=dt h27;have hVf:=hVb.2 BE.toNat;obtain ⟨r29,rfl⟩:=AP (n:=r13) Ad;refine KS ?_;refine Oq Va (KS ?_);refine Kl (γ:=Nat×List Aa×Int×Option Addr×Nat) (fun (r30,EU,Bf,a33,k34)=>⟨[(1,p2),(3,vl a33 k34 EU),(4,vi BE),(5,vi Bf)],[O a33 k34 EU,pv p2 [vl pa0 pk0 p.Funcs],S pa0 pk0 p.Funcs],GQ p BE r30 EU Bf=GQ p BE ((((((p.Funcs.getD BE.toNat default).Blocks).length:Int):Int) - 0).toNat) Ek 0/\r30=(((((p.Funcs.getD BE.toNat default).Blocks).length:Int):Int) - Bf).toNat/\(0:Int)<=Bf/\(Bf<=(((p.Funcs.getD BE.toNat default).Blocks).length:Int)\/Bf=0)/\(-9223372036854775808<=Bf/\Bf<=9223372036854775807)/\((EU.length:Int)<=(Ek.length:Int)+180*Bf),r30⟩) ((((((p.Funcs.getD BE.toNat default).Blocks).length:Int):Int) - 0).toNat,Ek,0,a16,k17) [0,0,1] ⟨rfl,rfl,Ad,(.inr rfl),Ad,Bi⟩ ?_;rintro ⟨r30,EU,Bf,a33,k34⟩ ⟨hM35,hr36,hi37,hi38,hk39,hv40⟩;refine JX ?_;refine Fb 16 0 fun _=>KS ?_;refine Oq Vm (Oq (Ah BS 1) (Oq (Ai BU 1) (Oq Vm (Oq (Vi BC 2) ?_))));refine D1 BE.toNat 2 rfl AD fun a44 k45 _=>?_;refine Oq (Ah CB 0) (Oq (Ai CA 0) (Oq (AB B5) (Oq AF (KS ?_))));refine Kc ?_ ?_
  ·intro h48;have g49:=dt h48;have hVk:=hVf.2 Bf.toNat;obtain ⟨r50,rfl⟩:=AP (n:=r30) Ad;refine KS ?_;refine Oq (Ah BS 3) (Oq (Ai BU 3) (Oq Vm (Oq (Vi BC 4) (Oq (Ah CB 0) (Oq (Ai CA 0) (Oq Vm (Oq (Vi B5 1) ?_)))))));refine EQ Bf.toNat 1 rfl AD fun a51 k52 _=>?_;refine Oq (Ah CR 0) (Oq (Ai CU 0) (Oq Va (KS ?_)));refine Oq Va (KS ?_);refine Kl (γ:=Nat×List Aa×Int×Option Addr×Nat) (fun (r55,HD,CV,a58,k59)=>⟨[(1,p2),(3,vl a58 k59 HD),(4,vi BE),(5,vi Bf),(6,.slice a51 (((((p.Funcs.getD BE.toNat default).Blocks).getD Bf.toNat default).Stmts).length) k52),(7,vi CV)],[O a58 k59 HD,S a51 k52 ((((p.Funcs.getD BE.toNat default).Blocks).getD Bf.toNat default).Stmts),pv p2 [vl pa0 pk0 p.Funcs],S pa0 pk0 p.Funcs],ES ((((p.Funcs.getD BE.toNat default).Blocks).getD Bf.toNat default).Stmts) r55 HD CV=ES ((((p.Funcs.getD BE.toNat default).Blocks).getD Bf.toNat default).Stmts) ((((((((p.Funcs.getD BE.toNat default).Blocks).getD Bf.toNat default).Stmts).length:Int):Int) - 0).toNat) EU 0/\r55=(((((((p.Funcs.getD BE.toNat default).Blocks).getD Bf.toNat default).Stmts).length:Int):Int) - CV).toNat/\(0:Int)<=CV/\(CV<=(((((p.Funcs.getD BE.toNat default).Blocks).getD Bf.toNat default).Stmts).length:Int)\/CV=0)/\(-9223372036854775808<=CV/\CV<=9223372036854775807)/\((HD.length:Int)<=(EU.length:Int)+5*CV),r55⟩) ((((((((p.Funcs.getD BE.toNat default).Blocks).getD Bf.toNat default).Stmts).length:Int):Int) - 0).toNat,EU,0,a33,k34) [4,1,4,5] ⟨rfl,rfl,Ad,(.inr rfl),Ad,Bi⟩ ?_;rintro ⟨r55,HD,CV,a58,k59⟩ ⟨hM60,hr61,hi62,hi63,hk64,hv65⟩;refine JX ?_;refine Fb 16 0 fun _=>KS ?_;refine Oq Vm (Oq Vm (Oq (AB BI) (Oq AF (KS ?_))));refine Kc ?_ ?_
   ·intro h70;have g71:=dt h70;have hVs:=hVk.2 CV.toNat;obtain ⟨r72,rfl⟩:=AP (n:=r55) Ad;refine KS ?_;refine Oq Vm (Oq Vm (Oq (Vi BI 1) ?_));refine GW CV.toNat 1 rfl AD fun a73 k74 a75 k76 _ hb78=>?_;refine Oq (Ah ER 0) (Oq (Ai Ct 0) (Oq Va ?_));refine KT ?_;refine LT (γ:=List Aa×Option Addr×Nat) (fun (EV,a84,k85)=>⟨[(1,p2),(3,vl a58 k59 HD),(4,vi BE),(5,vi Bf),(6,.slice a51 (((((p.Funcs.getD BE.toNat default).Blocks).getD Bf.toNat default).Stmts).length) k52),(7,vi CV),(8,vl a84 k85 EV)],[S a84 k85 EV,O a58 k59 HD,S a51 k52 ((((p.Funcs.getD BE.toNat default).Blocks).getD Bf.toNat default).Stmts),pv p2 [vl pa0 pk0 p.Funcs],S pa0 pk0 p.Funcs],(
                match Dc EV (((EV.length:Int) - 0).toNat) HD 0 with
                | Mm=>
                 ES ((((p.Funcs.getD BE.toNat default).Blocks).getD Bf.toNat default).Stmts) r72 Mm (CV+1))=ES ((((p.Funcs.getD BE.toNat default).Blocks).getD Bf.toNat default).Stmts) ((((((((p.Funcs.getD BE.toNat default).Blocks).getD Bf.toNat default).Stmts).length:Int):Int) - 0).toNat) EU 0/\((EV.length:Int)<=5),0⟩) ?_ ?_
    ·skip;refine KS ?_;refine Oq Vm (Oq Vm (Oq (Vi BI 4) (Oq (Ah FQ 0) (Oq (Ai Bj 0) (Oq (RH (l:=(((((p.Funcs.getD BE.toNat default).Blocks).getD Bf.toNat default).Stmts).getD CV.toNat default).Def) (m:=(Aa.mk []))) (KS ?_))))));refine Kc ?_ ?_
     ·intro h88;refine Bu [0,0,3,7,15,31,0,0,192,448,960,2047,4095] AY ?_;refine Dv [] Vm (Dv [] Vm (Dv [4] (Vi BI 0) (Dv [0] (Ah FQ 0) (Dv [0] (Ai Bj 0) (Dx [] [] [0] (fun G=>(G.g 5 0)) [fun G=>Cr (G.g 5 0) 1 [.string (bs ((((((p.Funcs.getD BE.toNat default).Blocks).getD Bf.toNat default).Stmts).getD CV.toNat default).Def))]] (fun G=>xA (A5 AN Co [.string (bs ((((((p.Funcs.getD BE.toNat default).Blocks).getD Bf.toNat default).Stmts).getD CV.toNat default).Def))] [.string (bs ((((((p.Funcs.getD BE.toNat default).Blocks).getD Bf.toNat default).Stmts).getD CV.toNat default).Def))])) (Dv [] Vm (Dv [] Vm (Dv [4] (Vi BI 0) (Dv [0] (Ah ER 0) ?_)))))))));refine Dv [0] (Ai Ct 0) ?_;have hn92:([(((((p.Funcs.getD BE.toNat default).Blocks).getD Bf.toNat default).Stmts).getD CV.toNat default).Def]++(((((p.Funcs.getD BE.toNat default).Blocks).getD Bf.toNat default).Stmts).getD CV.toNat default).Uses:List Aa).length=1+((((((p.Funcs.getD BE.toNat default).Blocks).getD Bf.toNat default).Stmts).getD CV.toNat default).Uses).length:=la ([(((((p.Funcs.getD BE.toNat default).Blocks).getD Bf.toNat default).Stmts).getD CV.toNat default).Def]:List Aa) ((((((p.Funcs.getD BE.toNat default).Blocks).getD Bf.toNat default).Stmts).getD CV.toNat default).Uses);refine Dx [1,7] [7] [1,0] (fun G=>(G.g 11 0)) [fun G=>os (G.g 11 0) (([(((((p.Funcs.getD BE.toNat default).Blocks).getD Bf.toNat default).Stmts).getD CV.toNat default).Def]++(((((p.Funcs.getD BE.toNat default).Blocks).getD Bf.toNat default).Stmts).getD CV.toNat default).Uses):List Aa)] (fun G=>xp [1] rfl (Aj.cr1 (α:=Aa) (A:=[]) _ ((((((p.Funcs.getD BE.toNat default).Blocks).getD Bf.toNat default).Stmts).getD CV.toNat default).Def) _ AU (fun _=>⟨rfl,Di⟩)) (xA (Ap [0,0] AN AN Co))) (Dg [] (fun G=>(G.g 11 0)) (fun G=>Va) ?_);refine Dn ⟨by kernel_rfl,fun G=>?_⟩;refine Bq [(1,p2),(3,vl a58 k59 HD),(4,vi BE),(5,vi Bf),(6,.slice a51 (((((p.Funcs.getD BE.toNat default).Blocks).getD Bf.toNat default).Stmts).length) k52),(7,vi CV),(8,(G.g 11 0))] [0,1,2,3,4,5,6] [os (G.g 11 0) (([(((((p.Funcs.getD BE.toNat default).Blocks).getD Bf.toNat default).Stmts).getD CV.toNat default).Def]++(((((p.Funcs.getD BE.toNat default).Blocks).getD Bf.toNat default).Stmts).getD CV.toNat default).Uses):List Aa)] ?_;generalize G.g 11 0=c91;refine Jo 7 ?_; rintro a93 k94 rfl;refine Jl [7] (Aj.freeze _ _) ?_;exact Kg (([(((((p.Funcs.getD BE.toNat default).Blocks).getD Bf.toNat default).Stmts).getD CV.toNat default).Def]++(((((p.Funcs.getD BE.toNat default).Blocks).getD Bf.toNat default).Stmts).getD CV.toNat default).Uses),a93,k94) [0,4,4,5,6] ⟨(q3 hM60 (by simp only [ES,h70,h88,Ag])),(by (try simp only [KW]); omega)⟩
     intro h88;refine KS ?_;exact Kg ((((((p.Funcs.getD BE.toNat default).Blocks).getD Bf.toNat default).Stmts).getD CV.toNat default).Uses,a73,k74) [1,3,3,4,5] ⟨(q3 hM60 (by simp only [ES,h70,h88,Ag])),(by (try simp only [KW]); omega)⟩
    rintro ⟨EV,a84,k85⟩ ⟨hM86,hv87⟩;refine JX ?_;refine KS ?_;refine Oq Va (KS ?_);refine Kl (γ:=Nat×List Aa×Int×Option Addr×Nat) (fun (r104,IP,E3,a107,k108)=>⟨[(1,p2),(3,vl a107 k108 IP),(4,vi BE),(5,vi Bf),(6,.slice a51 (((((p.Funcs.getD BE.toNat default).Blocks).getD Bf.toNat default).Stmts).length) k52),(7,vi CV),(8,vl a84 k85 EV),(9,vi E3)],[O a107 k108 IP,S a84 k85 EV,S a51 k52 ((((p.Funcs.getD BE.toNat default).Blocks).getD Bf.toNat default).Stmts),pv p2 [vl pa0 pk0 p.Funcs],S pa0 pk0 p.Funcs],Dc EV r104 IP E3=Dc EV (((EV.length:Int) - 0).toNat) HD 0/\r104=((EV.length:Int) - E3).toNat/\(0:Int)<=E3/\E3<=(EV.length:Int)/\(-9223372036854775808<=E3/\E3<=9223372036854775807)/\((IP.length:Int)<=(HD.length:Int)+E3),r104⟩) (((EV.length:Int) - 0).toNat,HD,0,a58,k59) [1,0,1,2,3] ⟨rfl,rfl,Ad,Ad,Ad,Bi⟩ ?_;rintro ⟨r104,IP,E3,a107,k108⟩ ⟨hM109,hr110,hi111,hi112,hk113,hv114⟩;refine JX ?_;refine Fb 16 0 fun _=>?_;refine DM 1 fun ho118=>?_;refine KS ?_;refine Oq Vm (Oq Vm (Oq (AB AN) (Oq AF (KS ?_))));refine Kc ?_ ?_
    ·intro h121;have g122:=dt h121;obtain ⟨r123,rfl⟩:=AP (n:=r104) Ad;refine KS ?_;refine Oq Vm (Oq Vm (Oq Vm (Oq (Vi AN 1) ?_)));have hb124:=Ei (i:=E3.toNat) ho118 AD;refine Oq (DD Bj 1) ?_;refine Av (Br IP (EV.getD E3.toNat default)) fun rv125 hg126=>?_;refine Oc [0] K4 (KZ (A:=_) (fun _ _ h=>by cases h) (GS (Aj.take (is:=[0]) rfl) (Lk IP a107 k108 ((EV.getD E3.toNat default)) pre rv125 hg126))) ?_ (ht:=rfl);rintro - -;refine Oq AF (KS ?_);refine Kc ?_ ?_
     ·intro h128;refine KS ?_;refine Oq Vm (Oq Vm (Oq Vm (Oq (Vi AN 1) ?_)));have hb130:=Ei (i:=E3.toNat) ho118 AD;refine Oq (DD Bj 1) (Oa (A5 AN Co [.string (bs (EV.getD E3.toNat default))] [.string (bs (EV.getD E3.toNat default))]) fun c131=>?_);refine Jo 0 ?_; rintro a132 k133 rfl;refine Jl [0] (Aj.cr1 (α:=Aa) (A:=[]) _ (EV.getD E3.toNat default) _ AU (fun _=>⟨rfl,Di⟩)) ?_;refine Oa (BH [1,0] AN AN Co) fun c134=>?_;refine Jo 0 ?_; rintro a135 k136 rfl;have hn139:=la IP ([(EV.getD E3.toNat default)]:List Aa);refine Oq Va (KS ?_);refine Oq Vm (Oq Ay (Oq Va (KS ?_)));exact Kg (r123,(IP++[(EV.getD E3.toNat default)]),(E3+1),a135,k136) [0,0,1,2,3] ⟨(q3 hM109 (by simp only [Dc,h121,h128,hg126,Ag])),Ad,Ad,Ad,Ad,AM⟩
     intro h128;refine KS ?_;refine Oq Vm (Oq Ay (Oq Va (KS ?_)));exact Kg (r123,IP,(E3+1),a107,k108) [0,0,1,2,3] ⟨(q3 hM109 (by simp only [Dc,h121,h128,hg126,Ag])),Ad,Ad,Ad,Ad,AM⟩
    intro h121;have g141:=df h121;obtain rfl:r104=0:=by omega
    refine Ke ?_;have hR142:=q2 hM109 IP (by simp only [Dc,h121,Ag]);refine KS ?_;refine Oq Vm (Oq Ay (Oq Va (KS ?_)));exact Kg (r72,IP,(CV+1),a107,k108) [0,1,2,3] ⟨(q3 hM86 (by simp only [h121,hR142,Ag])),Ad,Ad,Ad,Ad,AM⟩
   intro h70;have g143:=df h70;obtain rfl:r55=0:=by omega
   refine Ke ?_;have hR144:=q2 hM60 HD (by simp only [ES,h70,Ag]);refine KS ?_;refine Oq Vm (Oq Ay (Oq Va (KS ?_)));exact Kg (r50,HD,(Bf+1),a58,k59) [0,1,2] ⟨(q3 hM35 (by simp only [GQ,h48,h70,hR144,Ag])),Ad,Ad,Ad,Ad,AM⟩
  intro h48;have g145:=df h48;obtain rfl:r30=0:=by omega
  refine Ke ?_;have hR146:=q2 hM35 EU (by simp only [GQ,h48,Ag]);refine KS ?_;refine Oq Vm (Oq Ay (Oq Va (KS ?_)));exact Kg (r29,EU,(BE+1),a33,k34) [2,2,3] ⟨(q3 hM18 (by simp only [Hr,h27,h48,hR146,Ag])),Ad,Ad,Ad,Ad,AM⟩
 intro h27;have g147:=df h27;obtain rfl:r13=0:=by omega
 refine Ke ?_;have hR148:=q2 hM18 Ek (by simp only [Hr,h27,Ag]);refine KS ?_;refine Oq Vm (Oq Va (KS ?_));refine Jl [0] (Aj.freeze _ _) ?_;have hq:=q4 hrr Ek (by simp only [Ca,h6,h11,h27,hg4,hR148,Ag]); subst hq;exact Kr (vl a16 k17 Ek) rfl (.tmp rfl .nil) [0] trivial
theorem Xe (l:List Aa) (la0:Option Addr) (lk0:Nat) (rr:Int) (hrr:Fu l=rr):FT Tryz.prog 82 #[vl la0 lk0 l] [S la0 lk0 l] (fun g:Unit=>Af rr) (fun g=>vi rr) (fun g=>[]):=by
 refine AG Tryz.func82 fun w0 M0 F0=>Fb 16 0 fun _=>?_;refine KS ?_;refine Oq Va (KS ?_);refine Oq Va (KS ?_);refine Kl (γ:=Nat×Int) (fun (r3,AJ)=>⟨[(0,vl la0 lk0 l),(3,vi AJ)],[S la0 lk0 l],Ex l r3 AJ=Ex l (((l.length:Int) - 0).toNat) 0/\r3=((l.length:Int) - AJ).toNat/\(0:Int)<=AJ/\AJ<=(l.length:Int)/\(-9223372036854775808<=AJ/\AJ<=9223372036854775807),r3⟩) (((l.length:Int) - 0).toNat,0) [0] ⟨rfl,rfl,Ad,Ad,Ad⟩ ?_;rintro ⟨r3,AJ⟩ ⟨hM5,hr6,hi7,hi8,hk9⟩;refine JX ?_;refine DM 0 fun ho11=>?_;refine KS ?_;refine Oq Vm (Oq Vm (Oq (AB AN) (Oq AF (KS ?_))));refine Kc ?_ ?_
 ·intro h12;have g13:=dt h12;obtain ⟨r14,rfl⟩:=AP (n:=r3) Ad;refine KS ?_;refine Bu [0,0,3,0,0,24,56,127,255] AY ?_;refine Dv [] Vm (Dv [] Vm (Dx [0] [] [1,0] (fun G=>(G.g 2 0)) [fun G=>sl (G.g 2 0) ((l.take (AJ.toNat)).drop 0)] (fun G=>xA (P7 [0] AN 0 (AJ.toNat))) (Dv [] Vm (Dv [] Vm (Dv [0] (Vi AN 0) ?_)))));have hb16:=Ei (i:=AJ.toNat) ho11 AD;refine Dv [0] (DD Bj 0) ?_;refine Av (Br ((l.take (AJ.toNat)).drop 0) (l.getD AJ.toNat default)) fun rv20 hg21=>?_;refine Dx [1] [] [1,0] (fun G=>vi rv20) [fun G=>SP.fact (Af rv20)] (fun G=>xD [0] K4 rfl rfl rfl (PR (γ:=Unit) (I:=fun g=>Af rv20) (V:=fun g=>vi rv20) (B:=fun g=>[]) (R:=sl (G.g 2 0) ((l.take (AJ.toNat)).drop 0)) QQ (fun aq17 kq18 eq19=>by rw [eq19]; exact GS (Aj.take (is:=[0]) rfl) (Lk (((l.take (AJ.toNat)).drop 0)) aq17 kq18 ((l.getD AJ.toNat default)) pre rv20 hg21)))) (Dv [] BA ?_);refine Dn ⟨by kernel_rfl,fun G=>?_⟩;refine Bq [(0,vl la0 lk0 l),(3,vi AJ),(18,vb (decide (0<=rv20)))] [0] [sl (G.g 2 0) ((l.take (AJ.toNat)).drop 0),SP.fact (Af rv20)] ?_;generalize G.g 2 0=c15;refine Jf 2 rfl ?_; rintro he22;refine Jk [0,1] ?_;refine Jo 1 ?_; rintro a23 k24 rfl;refine Kc ?_ ?_
  ·intro h27;refine KS ?_;refine Oq Vm (Oq Va (KS ?_));have hR29:=q2 hM5 (.ret AJ) (by simp only [Ex,h12,h27,hg21,Ag]);have hq:=q4 hrr AJ (by simp only [Fu,h12,h27,hg21,hR29,Ag]); subst hq;exact KU [] en
  intro h27;refine KS ?_;refine Oq Vm (Oq Ay (Oq Va (KS ?_)));exact Kg (r14,(AJ+1)) [0] ⟨(q3 hM5 (by simp only [Ex,h12,h27,hg21,Ag])),Ad,Ad,Ad,Ad⟩
 intro h12;have g31:=df h12;obtain rfl:r3=0:=by omega
 refine Ke ?_;have hR32:=q2 hM5 (.brk ()) (by simp only [Ex,h12,Ag]);refine KS ?_;refine Oq Va (KS ?_);have hq:=q4 hrr (-1) (by simp only [Fu,h12,hR32,Ag]); subst hq;exact KU [] en
theorem Xr (p:Aw) (pa0:Option Addr) (pk0:Nat) (rr:List Aa) (hrr:EN p=rr):FT Tryz.prog 83 #[.agg #[vl pa0 pk0 p.Funcs]] [S pa0 pk0 p.Funcs] (fun g:Value=>True) (fun g=>g) (fun g=>[sl g rr]):=by
 refine AG Tryz.func83 fun w0 M0 F0=>Fb 40 0 fun _=>?_;refine KS ?_;refine Oa (Ab [vl pa0 pk0 p.Funcs]) fun p2=>Oq Va (KS ?_);refine Oq Va (KS ?_);refine Oq Va (KS ?_);refine Jl [] (Aj.osNil (α:=Aa)) ?_;refine Kl (γ:=Nat×List Aa×Int×Option Addr×Nat) (fun (r3,Ce,Cv,a6,k7)=>⟨[(1,p2),(3,vl a6 k7 Ce),(4,vi Cv)],[O a6 k7 Ce,pv p2 [vl pa0 pk0 p.Funcs],S pa0 pk0 p.Funcs],Mj p r3 Ce Cv=Mj p (((p.Funcs.length:Int) - 0).toNat) [] 0/\r3=((p.Funcs.length:Int) - Cv).toNat/\(0:Int)<=Cv/\Cv<=(p.Funcs.length:Int)/\(-9223372036854775808<=Cv/\Cv<=9223372036854775807)/\((Ce.length:Int)<=Cv),r3⟩) (((p.Funcs.length:Int) - 0).toNat,[],0,none,0) [0,0,1] ⟨rfl,rfl,Ad,Ad,Ad,Bi⟩ ?_;rintro ⟨r3,Ce,Cv,a6,k7⟩ ⟨hM8,hr9,hi10,hi11,hk12,hv13⟩;refine JX ?_;refine Fb 16 0 fun _=>KS ?_;refine Oq Vm (Oq (Ah BS 1) (Oq (Ai BU 1) (Oq (AB BC) (Oq AF (KS ?_)))));refine Kc ?_ ?_
 ·intro h17;have g18:=dt h17;obtain ⟨r19,rfl⟩:=AP (n:=r3) Ad;refine KS ?_;refine Oq Vm (Oq (Ah BS 1) (Oq (Ai BU 1) (Oq Vm (Oq (Vi BC 2) ?_))));refine D1 Cv.toNat 2 rfl AD fun a20 k21 hb22=>?_;refine Oq (Ah HA 0) (Oq (Ai Bj 0) (Oa (A5 AN Co [.string (bs ((p.Funcs.getD Cv.toNat default).Name))] [.string (bs ((p.Funcs.getD Cv.toNat default).Name))]) fun c24=>?_));refine Jo 0 ?_; rintro a25 k26 rfl;refine Jl [0] (Aj.cr1 (α:=Aa) (A:=[]) _ ((p.Funcs.getD Cv.toNat default).Name) _ AU (fun _=>⟨rfl,Di⟩)) ?_;refine Oa (BH [3,0] AN AN Co) fun c27=>?_;refine Jo 0 ?_; rintro a28 k29 rfl;have hn32:=la Ce ([(p.Funcs.getD Cv.toNat default).Name]:List Aa);refine Oq Va (KS ?_);refine Oq Vm (Oq Ay (Oq Va (KS ?_)));exact Kg (r19,(Ce++[(p.Funcs.getD Cv.toNat default).Name]),(Cv+1),a28,k29) [0,2,3] ⟨(q3 hM8 (by simp only [Mj,h17,Ag])),Ad,Ad,Ad,Ad,AM⟩
 intro h17;have g33:=df h17;obtain rfl:r3=0:=by omega
 refine Ke ?_;have hR34:=q2 hM8 Ce (by simp only [Mj,h17,Ag]);refine KS ?_;refine Oq Vm (Oq Va (KS ?_));refine Jl [0] (Aj.freeze _ _) ?_;have hq:=q4 hrr Ce (by simp only [EN,h17,hR34,Ag]); subst hq;exact Kr (vl a6 k7 Ce) rfl (.tmp rfl .nil) [0] trivial
theorem Ux (f:A7) (fa1:Option Addr) (fk1:Nat) (If:f.Name.b.length<=140737488355328) (rr:List Aa) (hrr:Ef f=rr):FT Tryz.prog 84 #[.agg #[.string (bs f.Name),vl fa1 fk1 f.Blocks]] [S fa1 fk1 f.Blocks] (fun g:Value=>True) (fun g=>g) (fun g=>[sl g rr]):=by
 refine AG Tryz.func84 fun w0 M0 F0=>Fb 40 0 fun _=>?_;refine KS ?_;refine Oa (Ab [.string (bs f.Name),vl fa1 fk1 f.Blocks]) fun p2=>Oq Va (KS ?_);refine Oq Va (KS ?_);refine Oq Va (KS ?_);refine Jl [] (Aj.osNil (α:=Aa)) ?_;refine Kl (γ:=Nat×List Aa×Int×Option Addr×Nat) (fun (r3,Ce,GC,a6,k7)=>⟨[(1,p2),(3,vl a6 k7 Ce),(4,vi GC)],[O a6 k7 Ce,pv p2 [.string (bs f.Name),vl fa1 fk1 f.Blocks],S fa1 fk1 f.Blocks],Mg f r3 Ce GC=Mg f (((f.Blocks.length:Int) - 0).toNat) [] 0/\r3=((f.Blocks.length:Int) - GC).toNat/\(0:Int)<=GC/\GC<=(f.Blocks.length:Int)/\(-9223372036854775808<=GC/\GC<=9223372036854775807)/\((Ce.length:Int)<=GC),r3⟩) (((f.Blocks.length:Int) - 0).toNat,[],0,none,0) [0,0,1] ⟨rfl,rfl,Ad,Ad,Ad,Bi⟩ ?_;rintro ⟨r3,Ce,GC,a6,k7⟩ ⟨hM8,hr9,hi10,hi11,hk12,hv13⟩;refine JX ?_;refine Fb 16 0 fun _=>KS ?_;refine Oq Vm (Oq (Ah CB 1) (Oq (Ai CA 1) (Oq (AB B5) (Oq AF (KS ?_)))));refine Kc ?_ ?_
 ·intro h17;have g18:=dt h17;obtain ⟨r19,rfl⟩:=AP (n:=r3) Ad;refine KS ?_;refine Oq Vm (Oq (Ah CB 1) (Oq (Ai CA 1) (Oq Vm (Oq (Vi B5 2) ?_))));refine EQ GC.toNat 2 rfl AD fun a20 k21 hb22=>?_;refine Oq (Ah MM 0) (Oq (Ai Bj 0) (Oa (A5 AN Co [.string (bs ((f.Blocks.getD GC.toNat default).Name))] [.string (bs ((f.Blocks.getD GC.toNat default).Name))]) fun c24=>?_));refine Jo 0 ?_; rintro a25 k26 rfl;refine Jl [0] (Aj.cr1 (α:=Aa) (A:=[]) _ ((f.Blocks.getD GC.toNat default).Name) _ AU (fun _=>⟨rfl,Di⟩)) ?_;refine Oa (BH [3,0] AN AN Co) fun c27=>?_;refine Jo 0 ?_; rintro a28 k29 rfl;have hn32:=la Ce ([(f.Blocks.getD GC.toNat default).Name]:List Aa);refine Oq Va (KS ?_);refine Oq Vm (Oq Ay (Oq Va (KS ?_)));exact Kg (r19,(Ce++[(f.Blocks.getD GC.toNat default).Name]),(GC+1),a28,k29) [0,2,3] ⟨(q3 hM8 (by simp only [Mg,h17,Ag])),Ad,Ad,Ad,Ad,AM⟩
 intro h17;have g33:=df h17;obtain rfl:r3=0:=by omega
 refine Ke ?_;have hR34:=q2 hM8 Ce (by simp only [Mg,h17,Ag]);refine KS ?_;refine Oq Vm (Oq Va (KS ?_));refine Jl [0] (Aj.freeze _ _) ?_;have hq:=q4 hrr Ce (by simp only [Ef,h17,hR34,Ag]); subst hq;exact Kr (vl a6 k7 Ce) rfl (.tmp rfl .nil) [0] trivial
theorem lD (op:Int) (xM:Af op) (rr:Bool) (hrr:Iz op=rr):FT Tryz.prog 136 #[vi op] [] (fun g:Unit=>True) (fun g=>vb rr) (fun g=>[]):=by
 refine AG Tryz.func136 fun w0 M0 F0=>?_;refine KS ?_;refine Oq Va (KS ?_);refine Oq Vm (Oq AH (Oq Vm ?_));refine Js 5 ?_ ?_
 ·intro h1;refine Ae (Ae (Oq As (Oq Vm (Ae (Ae (Oq As (Oq Va (KS ?_))))))));have hq:=q4 hrr true (by simp only [Iz,h1,Ag]); subst hq;exact KU [] trivial
 intro h1;refine Oq Vm (Oq AH (Oq Au (Oq Vm ?_)));refine Js 9 ?_ ?_
 ·intro h4;refine Ae (Ae (Oq As (Oq Va (KS ?_))));have hq:=q4 hrr true (by simp only [Iz,h1,h4,Ag]); subst hq;exact KU [] trivial
 intro h4;refine Oq Vm (Oq AH (Oq Au (Oq Va (KS ?_))));have hq:=q4 hrr (op == 9) (by simp only [Iz,h1,h4,Ag]); subst hq;exact KU [] trivial
theorem s8 (p:Aw) (pa0:Option Addr) (pk0:Nat) (f:A7) (fa1:Option Addr) (fk1:Nat) (s:Az) (sa2:Option Addr) (sk2:Nat) (sa3:Option Addr) (sk3:Nat) (last:Bool) (If:f.Name.b.length<=140737488355328) (By:Af s.Op) (Lz:s.Def.b.length<=140737488355328) (rr:Int) (hrr:G4 p f s last=rr):FT Tryz.prog 85 #[.agg #[vl pa0 pk0 p.Funcs],.agg #[.string (bs f.Name),vl fa1 fk1 f.Blocks],.agg #[vi s.Op,.string (bs s.Def),vl sa2 sk2 s.Uses,vl sa3 sk3 s.Targets],vb last] [S pa0 pk0 p.Funcs,S fa1 fk1 f.Blocks,S sa2 sk2 s.Uses,S sa3 sk3 s.Targets] (fun g:Unit=>Af rr) (fun g=>vi rr) (fun g=>[]):=by
 refine AG Tryz.func85 fun w0 M0 F0=>?_;unfold Af at By;refine Fb 16 3 fun _=>KS ?_;refine Oa (Ab [vl pa0 pk0 p.Funcs]) fun p7=>Oa (Ab [.string (bs f.Name),vl fa1 fk1 f.Blocks]) fun p8=>Oa (Ab [vi s.Op,.string (bs s.Def),vl sa2 sk2 s.Uses,vl sa3 sk3 s.Targets]) fun p9=>Oq Va (KS ?_);refine Oq (Ah CQ 0) (Oq (Ai An 0) ?_);refine Av (Iz s.Op) fun rv10 hg11=>?_;have hc12:=lD s.Op pre rv10 hg11;refine Oc [] eF hc12 ?_;rintro - -;refine Oq Vm (Oq (XF cA) (KS ?_));refine Kc ?_ ?_
 ·intro h13;refine KS ?_;refine Oq Va (KS ?_);have hq:=q4 hrr 4 (by simp only [G4,h13,hg11,Ag]); subst hq;exact KU [] en
 intro h13;refine KS ?_;refine Oq (Aq CT 1) ?_;refine Av (Ef f) fun rv17 hg18=>?_;have hc19:=Ux f fa1 fk1 pre rv17 hg18;refine Oc [4] Wl hc19 ?_;rintro c16 -;refine Jo 0 ?_; rintro a20 k21 rfl;refine Oq Va (KS ?_);refine Oq (Ah CQ 1) (Oq (Ai An 1) (Oq AH (KS ?_)));refine Kc ?_ ?_
 ·intro h24;refine KS ?_;refine Oq (Aq Be 3) ?_;refine Av (EN p) fun rv27 hg28=>?_;have hc29:=Xr p pa0 pk0 rv27 hg28;refine Oc [4] Z2 hc29 ?_;rintro c26 -;refine Jo 0 ?_; rintro a30 k31 rfl;refine Oq Va (KS ?_);refine Oq Va (KS ?_);refine Kl (γ:=Nat×Int) (fun (r34,IQ)=>⟨[(6,p9),(9,vl a30 k31 rv27),(10,vi IQ)],[S a30 k31 rv27,pv p9 [vi s.Op,.string (bs s.Def),vl sa2 sk2 s.Uses,vl sa3 sk3 s.Targets],S sa2 sk2 s.Uses,S sa3 sk3 s.Targets],EZ s rv27 r34 IQ=EZ s rv27 (((s.Targets.length:Int) - 0).toNat) 0/\r34=((s.Targets.length:Int) - IQ).toNat/\(0:Int)<=IQ/\IQ<=(s.Targets.length:Int)/\(-9223372036854775808<=IQ/\IQ<=9223372036854775807),r34⟩) (((s.Targets.length:Int) - 0).toNat,0) [0,2,7,8] ⟨rfl,rfl,Ad,Ad,Ad⟩ ?_;rintro ⟨r34,IQ⟩ ⟨hM36,hr37,hi38,hi39,hk40⟩;refine JX ?_;refine DM 3 fun ho46=>?_;refine KS ?_;refine Oq Vm (Oq (Ah Hh 1) (Oq (Ai Ct 1) (Oq (AB AN) (Oq AF (KS ?_)))));refine Kc ?_ ?_
  ·intro h47;have g48:=dt h47;obtain ⟨r49,rfl⟩:=AP (n:=r34) Ad;refine KS ?_;refine Oq Vm (Oq (Ah Hh 1) (Oq (Ai Ct 1) (Oq Vm (Oq (Vi AN 3) ?_))));have hb50:=Ei (i:=IQ.toNat) ho46 AD;refine Oq (DD Bj 3) ?_;refine Av (Br rv27 (s.Targets.getD IQ.toNat default)) fun rv51 hg52=>?_;have hc53:=Lk rv27 a30 k31 ((s.Targets.getD IQ.toNat default)) pre rv51 hg52;refine Oc [0] K4 hc53 ?_;rintro - -;refine Oq AF (KS ?_);refine Kc ?_ ?_
   ·intro h55;refine KS ?_;refine Oq Va (KS ?_);have hR57:=q2 hM36 (.ret 5) (by simp only [EZ,h47,h55,hg52,Ag]);have hq:=q4 hrr 5 (by simp only [G4,h13,h24,h47,h55,hg11,hg18,hg28,hg52,hR57,Ag]); subst hq;exact KU [] en
   intro h55;refine KS ?_;refine Oq Vm (Oq Ay (Oq Va (KS ?_)));exact Kg (r49,(IQ+1)) [0,1,2,3] ⟨(q3 hM36 (by simp only [EZ,h47,h55,hg52,Ag])),Ad,Ad,Ad,Ad⟩
  intro h47;have g59:=df h47;obtain rfl:r34=0:=by omega
  refine Ke ?_;have hR60:=q2 hM36 (.brk ()) (by simp only [EZ,h47,Ag]);refine KS ?_;refine Oq Va (KS ?_);have hq:=q4 hrr 0 (by simp only [G4,h13,h24,h47,hg11,hg18,hg28,hR60,Ag]); subst hq;exact KU [] en
 intro h24;refine KS ?_;refine Oq Va (KS ?_);refine Kl (γ:=Nat×Int) (fun (r62,IR)=>⟨[(6,p9),(9,vl a20 k21 rv17),(10,vi IR)],[S a20 k21 rv17,pv p9 [vi s.Op,.string (bs s.Def),vl sa2 sk2 s.Uses,vl sa3 sk3 s.Targets],S sa2 sk2 s.Uses,S sa3 sk3 s.Targets],EZ s rv17 r62 IR=EZ s rv17 (((s.Targets.length:Int) - 0).toNat) 0/\r62=((s.Targets.length:Int) - IR).toNat/\(0:Int)<=IR/\IR<=(s.Targets.length:Int)/\(-9223372036854775808<=IR/\IR<=9223372036854775807),r62⟩) (((s.Targets.length:Int) - 0).toNat,0) [0,1,6,7] ⟨rfl,rfl,Ad,Ad,Ad⟩ ?_;rintro ⟨r62,IR⟩ ⟨hM64,hr65,hi66,hi67,hk68⟩;refine JX ?_;refine DM 3 fun ho74=>?_;refine KS ?_;refine Oq Vm (Oq (Ah Hh 1) (Oq (Ai Ct 1) (Oq (AB AN) (Oq AF (KS ?_)))));refine Kc ?_ ?_
 ·intro h75;have g76:=dt h75;obtain ⟨r77,rfl⟩:=AP (n:=r62) Ad;refine KS ?_;refine Oq Vm (Oq (Ah Hh 1) (Oq (Ai Ct 1) (Oq Vm (Oq (Vi AN 3) ?_))));have hb78:=Ei (i:=IR.toNat) ho74 AD;refine Oq (DD Bj 3) ?_;refine Av (Br rv17 (s.Targets.getD IR.toNat default)) fun rv79 hg80=>?_;have hc81:=Lk rv17 a20 k21 ((s.Targets.getD IR.toNat default)) pre rv79 hg80;refine Oc [0] K4 hc81 ?_;rintro - -;refine Oq AF (KS ?_);refine Kc ?_ ?_
  ·intro h83;refine KS ?_;refine Oq Va (KS ?_);have hR85:=q2 hM64 (.ret 5) (by simp only [EZ,h75,h83,hg80,Ag]);have hq:=q4 hrr 5 (by simp only [G4,h13,h24,h75,h83,hg11,hg18,hg80,hR85,Ag]); subst hq;exact KU [] en
  intro h83;refine KS ?_;refine Oq Vm (Oq Ay (Oq Va (KS ?_)));exact Kg (r77,(IR+1)) [0,1,2,3] ⟨(q3 hM64 (by simp only [EZ,h75,h83,hg80,Ag])),Ad,Ad,Ad,Ad⟩
 intro h75;have g87:=df h75;obtain rfl:r62=0:=by omega
 refine Ke ?_;have hR88:=q2 hM64 (.brk ()) (by simp only [EZ,h75,Ag]);refine KS ?_;refine Oq Va (KS ?_);have hq:=q4 hrr 0 (by simp only [G4,h13,h24,h75,hg11,hg18,hR88,Ag]); subst hq;exact KU [] en
theorem mW (p:Aw) (pa0:Option Addr) (pk0:Nat) (rr:Int×Int) (hrr:N8 p=rr):FT Tryz.prog 86 #[.agg #[vl pa0 pk0 p.Funcs]] [S pa0 pk0 p.Funcs] (fun g:Unit=>Af rr.1/\Af rr.2) (fun g=>.tuple #[vi rr.1,vi rr.2]) (fun g=>[]):=by
 refine AG Tryz.func86 fun w0 M0 F0=>Fb 40 0 fun _=>?_;refine KS ?_;refine Oa (Ab [vl pa0 pk0 p.Funcs]) fun p2=>Oq Va (Oq Va (KS ?_));refine Oq Va (Oq Va (KS ?_));refine Oq (Aq Be 0) ?_;refine Av (CG p) fun rv3 hg4=>?_;have hc5:=Um p pa0 pk0 rv3 hg4;refine Oc [1] TE hc5 ?_;rintro - -;refine Oq Bh (KS ?_);refine Kc ?_ ?_
 ·intro h6;have h8:=not_true h6;refine KS ?_;refine Oq Va (Oq Va (KS ?_));have hq:=q4 hrr (0,0) (by simp only [N8,h6,h8,hg4,Ag]); subst hq;exact Kr () rfl (.tmp rfl (.tmp rfl .nil)) [] en
 intro h6;have h11:=not_false h6
 try have hVb:=U0 (p:=p) (by simp only [h6,h11,hg4])
 refine KS ?_;refine Oq Va (KS ?_);refine Kl (γ:=Nat×Int×Int×Int) (fun (r13,IS,IT,BV)=>⟨[(1,p2),(4,vi IS),(5,vi IT),(6,vi BV)],[pv p2 [vl pa0 pk0 p.Funcs],S pa0 pk0 p.Funcs],Mh p r13 IS IT BV=Mh p (((p.Funcs.length:Int) - 0).toNat) 0 0 0/\r13=((p.Funcs.length:Int) - BV).toNat/\(0:Int)<=BV/\BV<=(p.Funcs.length:Int)/\(-9223372036854775808<=IS/\IS<=9223372036854775807)/\(-9223372036854775808<=IT/\IT<=9223372036854775807)/\(-9223372036854775808<=BV/\BV<=9223372036854775807)/\(0<=IS/\IS<=1100*BV/\0<=IT/\IT<=1700*BV),r13⟩) (((p.Funcs.length:Int) - 0).toNat,0,0,0) [0,1] ⟨rfl,rfl,Ad,Ad,Ad,Ad,Ad,Bi⟩ ?_;rintro ⟨r13,IS,IT,BV⟩ ⟨hM17,hr18,hi19,hi20,hk21,hk22,hk23,hv24⟩;refine JX ?_;refine KS ?_;refine Oq Vm (Oq (Ah BS 0) (Oq (Ai BU 0) (Oq (AB BC) (Oq AF (KS ?_)))));refine Kc ?_ ?_
 ·intro h26;have g27:=dt h26;have hVf:=hVb.2 BV.toNat;obtain ⟨r28,rfl⟩:=AP (n:=r13) Ad;refine KS ?_;refine Oq Vm (Oq Ay (Oq Vm (Oq Ay (Oq Va (Oq Va (KS ?_))))));refine Oq Va (KS ?_);refine Kl (γ:=Nat×Int×Int×Int) (fun (r29,IU,IV,Bf)=>⟨[(1,p2),(6,vi BV),(4,vi IU),(5,vi IV),(7,vi Bf)],[pv p2 [vl pa0 pk0 p.Funcs],S pa0 pk0 p.Funcs],Gi p BV r29 IU IV Bf=Gi p BV ((((((p.Funcs.getD BV.toNat default).Blocks).length:Int):Int) - 0).toNat) (IS+2) (IT+1) 0/\r29=(((((p.Funcs.getD BV.toNat default).Blocks).length:Int):Int) - Bf).toNat/\(0:Int)<=Bf/\(Bf<=(((p.Funcs.getD BV.toNat default).Blocks).length:Int)\/Bf=0)/\(-9223372036854775808<=IU/\IU<=9223372036854775807)/\(-9223372036854775808<=IV/\IV<=9223372036854775807)/\(-9223372036854775808<=Bf/\Bf<=9223372036854775807)/\(0<=IU/\IU<=(IS+2)+66*Bf/\0<=IV/\IV<=(IT+1)+98*Bf),r29⟩) ((((((p.Funcs.getD BV.toNat default).Blocks).length:Int):Int) - 0).toNat,(IS+2),(IT+1),0) [0,1] ⟨rfl,rfl,Ad,(.inr rfl),Ad,Ad,Ad,Bi⟩ ?_;rintro ⟨r29,IU,IV,Bf⟩ ⟨hM33,hr34,hi35,hi36,hk37,hk38,hk39,hv40⟩;refine JX ?_;refine KS ?_;refine Oq Vm (Oq (Ah BS 0) (Oq (Ai BU 0) (Oq Vm (Oq (Vi BC 1) ?_))));refine D1 BV.toNat 1 rfl AD fun a42 k43 _=>?_;refine Oq (Ah CB 0) (Oq (Ai CA 0) (Oq (AB B5) (Oq AF (KS ?_))));refine Kc ?_ ?_
  ·intro h46;have g47:=dt h46;have hVk:=hVf.2 Bf.toNat;obtain ⟨r48,rfl⟩:=AP (n:=r29) Ad;refine KS ?_;refine Oq (Ah BS 2) (Oq (Ai BU 2) (Oq Vm (Oq (Vi BC 3) (Oq (Ah CB 0) (Oq (Ai CA 0) (Oq Vm (Oq (Vi B5 1) ?_)))))));refine EQ Bf.toNat 1 rfl AD fun a49 k50 _=>?_;refine Oq (Ah CR 0) (Oq (Ai CU 0) (Oq Va (KS ?_)));refine Oq Va (KS ?_);refine Kl (γ:=Nat×Int×Int×Int) (fun (r53,IW,IX,GD)=>⟨[(1,p2),(6,vi BV),(4,vi IW),(5,vi IX),(7,vi Bf),(8,.slice a49 (((((p.Funcs.getD BV.toNat default).Blocks).getD Bf.toNat default).Stmts).length) k50),(9,vi GD)],[S a49 k50 ((((p.Funcs.getD BV.toNat default).Blocks).getD Bf.toNat default).Stmts),pv p2 [vl pa0 pk0 p.Funcs],S pa0 pk0 p.Funcs],EM ((((p.Funcs.getD BV.toNat default).Blocks).getD Bf.toNat default).Stmts) r53 IW IX GD=EM ((((p.Funcs.getD BV.toNat default).Blocks).getD Bf.toNat default).Stmts) ((((((((p.Funcs.getD BV.toNat default).Blocks).getD Bf.toNat default).Stmts).length:Int):Int) - 0).toNat) IU IV 0/\r53=(((((((p.Funcs.getD BV.toNat default).Blocks).getD Bf.toNat default).Stmts).length:Int):Int) - GD).toNat/\(0:Int)<=GD/\(GD<=(((((p.Funcs.getD BV.toNat default).Blocks).getD Bf.toNat default).Stmts).length:Int)\/GD=0)/\(-9223372036854775808<=IW/\IW<=9223372036854775807)/\(-9223372036854775808<=IX/\IX<=9223372036854775807)/\(-9223372036854775808<=GD/\GD<=9223372036854775807)/\(0<=IW/\IW<=IU+2*GD/\0<=IX/\IX<=IV+3*GD),r53⟩) ((((((((p.Funcs.getD BV.toNat default).Blocks).getD Bf.toNat default).Stmts).length:Int):Int) - 0).toNat,IU,IV,0) [1,4,5] ⟨rfl,rfl,Ad,(.inr rfl),Ad,Ad,Ad,Bi⟩ ?_;rintro ⟨r53,IW,IX,GD⟩ ⟨hM57,hr58,hi59,hi60,hk61,hk62,hk63,hv64⟩;refine JX ?_;refine KS ?_;refine Oq Vm (Oq Vm (Oq (AB BI) (Oq AF (KS ?_))));refine Kc ?_ ?_
   ·intro h67;have g68:=dt h67;have hVs:=hVk.2 GD.toNat;obtain ⟨r69,rfl⟩:=AP (n:=r53) Ad;refine KS ?_;refine Oq Vm (Oq Ay (Oq Va (KS ?_)));refine Oq Vm (Oq Vm (Oq (Vi BI 0) ?_));refine GW GD.toNat 0 rfl AD fun a70 k71 a72 k73 hb74 _=>?_;unfold Af at hb74;refine Oq (Ah CQ 0) (Oq (Ai An 0) (KS ?_));refine Oq AH (Oq Va (KS ?_));refine Kc ?_ ?_
    ·intro h80;refine KS ?_;refine Oq Vm (Oq Ay (Oq Vm (Oq Ay (Oq Va (Oq Va (KS ?_))))));refine Oq Vm (Oq Ay (Oq Va (KS ?_)));exact Kg (r69,((IW+1)+1),(IX+3),(GD+1)) [3,4,5] ⟨(q3 hM57 (by simp only [EM,h67,h80,Ag])),Ad,Ad,Ad,Ad,Ad,Ad,AM⟩
    intro h80;have g82:=ne_of_beq_false h80;refine KS ?_;refine Oq AH (Oq Va (KS ?_));refine Kc ?_ ?_
    ·intro h83;have g84:=eq_of_beq h83;refine KS ?_;refine Oq Vm (Oq Ay (Oq Va (KS ?_)));refine Oq Vm (Oq Ay (Oq Va (KS ?_)));exact Kg (r69,(IW+1),(IX+2),(GD+1)) [3,4,5] ⟨(q3 hM57 (by simp only [EM,h67,h80,h83,Ag])),Ad,Ad,Ad,Ad,Ad,Ad,AM⟩
    intro h83;have g85:=ne_of_beq_false h83;refine KS ?_;refine Oq Vm (Oq Ay (Oq Va (KS ?_)));refine Oq Vm (Oq Ay (Oq Va (KS ?_)));exact Kg (r69,(IW+1),(IX+1),(GD+1)) [3,4,5] ⟨(q3 hM57 (by simp only [EM,h67,h80,h83,Ag])),Ad,Ad,Ad,Ad,Ad,Ad,AM⟩
   intro h67;have g86:=df h67;obtain rfl:r53=0:=by omega
   refine Ke ?_;have hR87:=q2 hM57 (IW,IX) (by simp only [EM,h67,Ag]);refine KS ?_;refine Oq Vm (Oq Ay (Oq Va (KS ?_)));exact Kg (r48,IW,IX,(Bf+1)) [1,2] ⟨(q3 hM33 (by simp only [Gi,h46,h67,hR87,Ag])),Ad,Ad,Ad,Ad,Ad,Ad,AM⟩
  intro h46;have g88:=df h46;obtain rfl:r29=0:=by omega
  refine Ke ?_;have hR89:=q2 hM33 (IU,IV) (by simp only [Gi,h46,Ag]);refine KS ?_;refine Oq Vm (Oq Ay (Oq Va (KS ?_)));exact Kg (r28,IU,IV,(BV+1)) [2,3] ⟨(q3 hM17 (by simp only [Mh,h26,h46,hR89,Ag])),Ad,Ad,Ad,Ad,Ad,Ad,AM⟩
 intro h26;have g90:=df h26;obtain rfl:r13=0:=by omega
 refine Ke ?_;have hR91:=q2 hM17 (IS,IT) (by simp only [Mh,h26,Ag]);refine KS ?_;refine Oq Vm (Oq Vm (Oq Va (Oq Va (KS ?_))));have hq:=q4 hrr (IS,IT) (by simp only [N8,h6,h11,h26,hg4,hR91,Ag]); subst hq;exact Kr () rfl (.tmp rfl (.tmp rfl .nil)) [] en
theorem Vg (p:Aw) (pa0:Option Addr) (pk0:Nat) (rr:Am×Int) (hrr:Dp p=rr):FT Tryz.prog 41 #[.agg #[vl pa0 pk0 p.Funcs]] [S pa0 pk0 p.Funcs] (fun g:Unit=>Af rr.1.Kind/\Af rr.1.Func/\Af rr.1.Block/\Af rr.1.Stmt/\Af rr.2) (fun g=>.tuple #[.agg #[vi rr.1.Kind,vi rr.1.Func,vi rr.1.Block,vi rr.1.Stmt],vi rr.2]) (fun g=>[]):=by
 refine AG Tryz.func41 fun w0 M0 F0=>Fb 40 0 fun _=>?_;refine KS ?_;refine Oa (Ab [vl pa0 pk0 p.Funcs]) fun p2=>Oa (Al Im [vi 0,vi 0,vi 0,vi 0]) fun p3=>Oq Va (KS ?_);refine Oq (Aq Be 1) ?_;refine Av (CG p) fun rv4 hg5=>?_;have hc6:=Um p pa0 pk0 rv4 hg5;refine Oc [2] TE hc6 ?_;rintro - -;refine Oq Bh (KS ?_);refine Kc ?_ ?_
 ·intro h7;have h9:=not_true h7;refine KS ?_;refine Oq (A0 Dq [vi 0,vi 0,vi 0,vi 0]) (AC (AI [0] Bp [vi 0,vi 0,vi 0,vi 0]) (Oq Va (KS ?_)));have hq:=q4 hrr ((Am.mk 0 0 0 0),1) (by simp only [Dp,h7,h9,hg5,Ag]); subst hq;exact Kr () rfl (.cellN 0 rfl Bp rfl (Bl _ _) rfl (.tmp rfl .nil)) [] en
 intro h7;have h12:=not_false h7;refine KS ?_;refine Oq (Aq Be 1) ?_;refine Av (EN p) fun rv15 hg16=>?_;have hc17:=Xr p pa0 pk0 rv15 hg16;refine Oc [2] Z2 hc17 ?_;rintro c14 -;refine Jo 0 ?_; rintro a18 k19 rfl;refine Av (Fu rv15) fun rv22 hg23=>?_;have hc24:=Xe rv15 a18 k19 rv22 hg23;refine Oc [0] XJ hc24 ?_;rintro - he25;unfold Af at he25;refine Oq Va (KS ?_);refine Oq Vm (Oq BA (KS ?_));refine Kc ?_ ?_
 ·intro h26;have g27:=dt h26;refine KS ?_;refine Oq Vm (Oq (A0 Dq [vi 1,vi rv22,vi (-1),vi (-1)]) (AC (AI [1] Bp [vi 1,vi rv22,vi (-1),vi (-1)]) (Oq Va (KS ?_))));have hq:=q4 hrr ((Am.mk 1 rv22 (-1) (-1)),6) (by simp only [Dp,h7,h12,h26,hg5,hg16,hg23,Ag]); subst hq;exact Kr () rfl (.cellN 0 rfl Bp rfl (Bl _ _) rfl (.tmp rfl .nil)) [] en
 intro h26;refine KS ?_;refine Oq Va (KS ?_);refine Kl (γ:=Nat×Int) (fun (r29,Bv)=>⟨[(1,p2),(2,p3),(5,vi Bv)],[Cl p3 [vi 0,vi 0,vi 0,vi 0],pv p2 [vl pa0 pk0 p.Funcs],S pa0 pk0 p.Funcs],EK p r29 Bv=EK p (((p.Funcs.length:Int) - 0).toNat) 0/\r29=((p.Funcs.length:Int) - Bv).toNat/\(0:Int)<=Bv/\Bv<=(p.Funcs.length:Int)/\(-9223372036854775808<=Bv/\Bv<=9223372036854775807),r29⟩) (((p.Funcs.length:Int) - 0).toNat,0) [1,1,2] ⟨rfl,rfl,Ad,Ad,Ad⟩ ?_;rintro ⟨r29,Bv⟩ ⟨hM31,hr32,hi33,hi34,hk35⟩;refine JX ?_;refine KS ?_;refine Oq Vm (Oq (Ah BS 1) (Oq (Ai BU 1) (Oq (AB BC) (Oq AF (KS ?_)))));refine Kc ?_ ?_
 ·intro h37;have g38:=dt h37;obtain ⟨r39,rfl⟩:=AP (n:=r29) Ad;refine KS ?_;refine Oq (Ah BS 1) (Oq (Ai BU 1) (Oq Vm (Oq (Vi BC 2) ?_)));refine D1 Bv.toNat 2 rfl AD fun a40 k41 hb42=>?_;refine Fb 40 1 fun _=>?_;refine Oq (Aq CT 0) (Oa (Al H9 [.string (bs (Aa.mk [])),.slice none 0 0]) fun p44=>AC (AI [0] CT [.string (bs ((p.Funcs.getD Bv.toNat default).Name)),vl a40 k41 ((p.Funcs.getD Bv.toNat default).Blocks)]) (KS ?_));refine Oq (Aq CT 0) ?_;refine Av (Ef (p.Funcs.getD Bv.toNat default)) fun rv46 hg47=>?_;have hc48:=Ux ((p.Funcs.getD Bv.toNat default)) a40 k41 pre rv46 hg47;refine Oc [2] Wl hc48 ?_;rintro c45 -;refine Jo 0 ?_; rintro a49 k50 rfl;refine Av (Fu rv46) fun rv53 hg54=>?_;have hc55:=Xe rv46 a49 k50 rv53 hg54;refine Oc [0] XJ hc55 ?_;rintro - he56;unfold Af at he56;refine Oq Va (KS ?_);refine Oq Vm (Oq BA (KS ?_));refine Kc ?_ ?_
  ·intro h57;have g58:=dt h57;refine KS ?_;refine Oq Vm (Oq Vm (Oq (A0 Dq [vi 3,vi Bv,vi rv53,vi (-1)]) (AC (AI [4] Bp [vi 3,vi Bv,vi rv53,vi (-1)]) (Oq Va (KS ?_)))));have hR59:=q2 hM31 (.ret ((Am.mk 3 Bv rv53 (-1)),6)) (by simp only [EK,h37,h57,hg47,hg54,Ag]);have hq:=q4 hrr ((Am.mk 3 Bv rv53 (-1)),6) (by simp only [Dp,h7,h12,h26,h37,h57,hg5,hg16,hg23,hg47,hg54,hR59,Ag]); subst hq;exact Kr () rfl (.cellN 0 rfl Bp rfl (Bl _ _) rfl (.tmp rfl .nil)) [] en
  intro h57;refine KS ?_;refine Oq Va (KS ?_);refine Kl (γ:=Nat×Int) (fun (r61,CW)=>⟨[(1,p2),(2,p3),(5,vi Bv),(6,p44),(8,vi CW)],[Cl p44 [.string (bs ((p.Funcs.getD Bv.toNat default).Name)),vl a40 k41 ((p.Funcs.getD Bv.toNat default).Blocks)],S a40 k41 ((p.Funcs.getD Bv.toNat default).Blocks),Cl p3 [vi 0,vi 0,vi 0,vi 0],pv p2 [vl pa0 pk0 p.Funcs],S pa0 pk0 p.Funcs],Ey p Bv ((p.Funcs.getD Bv.toNat default).Name) ((p.Funcs.getD Bv.toNat default).Blocks) r61 CW=Ey p Bv ((p.Funcs.getD Bv.toNat default).Name) ((p.Funcs.getD Bv.toNat default).Blocks) ((((((p.Funcs.getD Bv.toNat default).Blocks).length:Int):Int) - 0).toNat) 0/\r61=(((((p.Funcs.getD Bv.toNat default).Blocks).length:Int):Int) - CW).toNat/\(0:Int)<=CW/\(CW<=(((p.Funcs.getD Bv.toNat default).Blocks).length:Int)\/CW=0)/\(-9223372036854775808<=CW/\CW<=9223372036854775807),r61⟩) ((((((p.Funcs.getD Bv.toNat default).Blocks).length:Int):Int) - 0).toNat,0) [1,2,3,3,4] ⟨rfl,rfl,Ad,(.inr rfl),Ad⟩ ?_;rintro ⟨r61,CW⟩ ⟨hM63,hr64,hi65,hi66,hk67⟩;refine JX ?_;refine KS ?_;refine Oq Vm (Oq (Ah CB 0) (Oq (Ai CA 0) (Oq (AB B5) (Oq AF (KS ?_)))));refine Kc ?_ ?_
  ·intro h70;have g71:=dt h70;obtain ⟨r72,rfl⟩:=AP (n:=r61) Ad;refine KS ?_;refine Oq (Ah CB 0) (Oq (Ai CA 0) (Oq Vm (Oq (Vi B5 1) ?_)));refine EQ CW.toNat 1 rfl AD fun a73 k74 _=>?_;refine Fb 72 1 fun _=>?_;refine Oq (Ah CR 0) (Oq (Ai CU 0) (Oq Va (KS ?_)));refine Oq Va (KS ?_);refine Kl (γ:=Nat×Int) (fun (r77,EC)=>⟨[(1,p2),(2,p3),(5,vi Bv),(6,p44),(8,vi CW),(9,.slice a73 (((((p.Funcs.getD Bv.toNat default).Blocks).getD CW.toNat default).Stmts).length) k74),(10,vi EC)],[S a73 k74 ((((p.Funcs.getD Bv.toNat default).Blocks).getD CW.toNat default).Stmts),Cl p44 [.string (bs ((p.Funcs.getD Bv.toNat default).Name)),vl a40 k41 ((p.Funcs.getD Bv.toNat default).Blocks)],S a40 k41 ((p.Funcs.getD Bv.toNat default).Blocks),Cl p3 [vi 0,vi 0,vi 0,vi 0],pv p2 [vl pa0 pk0 p.Funcs],S pa0 pk0 p.Funcs],Ev p Bv ((p.Funcs.getD Bv.toNat default).Name) ((p.Funcs.getD Bv.toNat default).Blocks) CW ((((p.Funcs.getD Bv.toNat default).Blocks).getD CW.toNat default).Stmts) r77 EC=Ev p Bv ((p.Funcs.getD Bv.toNat default).Name) ((p.Funcs.getD Bv.toNat default).Blocks) CW ((((p.Funcs.getD Bv.toNat default).Blocks).getD CW.toNat default).Stmts) ((((((((p.Funcs.getD Bv.toNat default).Blocks).getD CW.toNat default).Stmts).length:Int):Int) - 0).toNat) 0/\r77=(((((((p.Funcs.getD Bv.toNat default).Blocks).getD CW.toNat default).Stmts).length:Int):Int) - EC).toNat/\(0:Int)<=EC/\(EC<=(((((p.Funcs.getD Bv.toNat default).Blocks).getD CW.toNat default).Stmts).length:Int)\/EC=0)/\(-9223372036854775808<=EC/\EC<=9223372036854775807),r77⟩) ((((((((p.Funcs.getD Bv.toNat default).Blocks).getD CW.toNat default).Stmts).length:Int):Int) - 0).toNat,0) [1,2,2,3,3,4] ⟨rfl,rfl,Ad,(.inr rfl),Ad⟩ ?_;rintro ⟨r77,EC⟩ ⟨hM79,hr80,hi81,hi82,hk83⟩;refine JX ?_;refine KS ?_;refine Oq Vm (Oq Vm (Oq (AB BI) (Oq AF (KS ?_))));refine Kc ?_ ?_
   ·intro h87;have g88:=dt h87;obtain ⟨r89,rfl⟩:=AP (n:=r77) Ad;refine KS ?_;refine GW EC.toNat 0 rfl AD fun a90 k91 a92 k93 hb94 hb95=>?_;unfold Af at hb94;refine Bu [0,0,0,0,12,28,0,0,128,384,960,2047,4095] AY ?_;refine Dv [7] (Aq Be 0) (Dv [4] (Aq CT 0) (Dv [] Vm (Dv [] Vm (Dv [3] (Vi BI 0) (Dv [0] (Aq Bd 0) (Dv [] Vm (Dv [] Vm (Dv [] (AB BI) (Dv [] Et ?_)))))))));refine Dv [] AH ?_;refine Av (G4 p (p.Funcs.getD Bv.toNat default) (((((p.Funcs.getD Bv.toNat default).Blocks).getD CW.toNat default).Stmts).getD EC.toNat default) (EC == ((((((p.Funcs.getD Bv.toNat default).Blocks).getD CW.toNat default).Stmts).length:Int) - 1))) fun rv100 hg101=>?_;refine Dx [1,2,5,8] [] [1,2,3,4,0] (fun G=>vi rv100) [fun G=>SP.fact (Af rv100)] (fun G=>xC [3,2,0,1] m9 (s8 p pa0 pk0 ((p.Funcs.getD Bv.toNat default)) a40 k41 ((((((p.Funcs.getD Bv.toNat default).Blocks).getD CW.toNat default).Stmts).getD EC.toNat default)) a90 k91 a92 k93 ((EC == ((((((p.Funcs.getD Bv.toNat default).Blocks).getD CW.toNat default).Stmts).length:Int) - 1))) pre pre pre rv100 hg101)) (Dv [] Va ?_);refine Dn ⟨by kernel_rfl,fun G=>?_⟩;refine Bq [(1,p2),(2,p3),(5,vi Bv),(6,p44),(8,vi CW),(9,.slice a73 (((((p.Funcs.getD Bv.toNat default).Blocks).getD CW.toNat default).Stmts).length) k74),(10,vi EC),(11,vi rv100)] [0,1,2,3,4,5,6,7,8] [SP.fact (Af rv100)] ?_;refine Jf 9 rfl ?_; rintro he102;unfold Af at he102;refine Jk [0,1,2,3,4,4,5,5,6] ?_;refine KS ?_;refine Oq Vm (Oq Cc (KS ?_));refine Kc ?_ ?_
    ·intro h103;refine KS ?_;refine Oq Vm (Oq Vm (Oq Vm (Oq (A0 Dq [vi 3,vi Bv,vi CW,vi EC]) (Oq Vm (AC (AI [6] Bp [vi 3,vi Bv,vi CW,vi EC]) (Oq Va (KS ?_)))))));have hR105:=q2 hM79 (.ret ((Am.mk 3 Bv CW EC),rv100)) (by simp only [Ev,h87,h103,hg101,Ag]);have hR106:=q2 hM63 (.ret ((Am.mk 3 Bv CW EC),rv100)) (by simp only [Ey,h70,h87,h103,hg101,hR105,Ag]);have hR107:=q2 hM31 (.ret ((Am.mk 3 Bv CW EC),rv100)) (by simp only [EK,h37,h57,h70,h87,h103,hg47,hg54,hg101,hR105,hR106,Ag]);have hq:=q4 hrr ((Am.mk 3 Bv CW EC),rv100) (by simp only [Dp,h7,h12,h26,h37,h57,h70,h87,h103,hg5,hg16,hg23,hg47,hg54,hg101,hR105,hR106,hR107,Ag]); subst hq;exact Kr () rfl (.cellN 0 rfl Bp rfl (Bl _ _) rfl (.tmp rfl .nil)) [] en
    intro h103;refine KS ?_;refine Oq Vm (Oq Ay (Oq Va (KS ?_)));exact Kg (r89,(EC+1)) [3,4,4,5,5,6] ⟨(q3 hM79 (by simp only [Ev,h87,h103,hg101,Ag])),Ad,Ad,Ad,Ad⟩
   intro h87;have g109:=df h87;obtain rfl:r77=0:=by omega
   refine Ke ?_;have hR110:=q2 hM79 (.brk ()) (by simp only [Ev,h87,Ag]);refine KS ?_;refine Oq Vm (Oq Ay (Oq Va (KS ?_)));exact Kg (r72,(CW+1)) [1,1,2,2,3] ⟨(q3 hM63 (by simp only [Ey,h70,h87,hR110,Ag])),Ad,Ad,Ad,Ad⟩
  intro h70;have g111:=df h70;obtain rfl:r61=0:=by omega
  refine Ke ?_;have hR112:=q2 hM63 (.brk ()) (by simp only [Ey,h70,Ag]);refine KS ?_;refine Oq Vm (Oq Ay (Oq Va (KS ?_)));exact Kg (r39,(Bv+1)) [2,2,3] ⟨(q3 hM31 (by simp only [EK,h37,h57,h70,hg47,hg54,hR112,Ag])),Ad,Ad,Ad,Ad⟩
 intro h37;have g113:=df h37;obtain rfl:r29=0:=by omega
 refine Ke ?_;have hR114:=q2 hM31 (.brk ()) (by simp only [EK,h37,Ag]);refine KS ?_;refine Oq (Aq Be 1) ?_;refine Av (N8 p) fun rv115 hg116=>?_;have hc117:=mW p pa0 pk0 rv115 hg116;refine Oc [2] rG hc117 ?_;rintro - -;refine Oq Vm (Oq Vx (Oq Vx (Oq Va (Oq Va (KS ?_)))));refine Oq (Aq Be 1) ?_;refine Av (Ca p) fun rv121 hg122=>?_;have hc123:=S8 p pa0 pk0 rv121 hg122;refine Oc [2] Sm hc123 ?_;rintro c120 -;refine Jo 0 ?_; rintro a124 k125 rfl;refine Oq (AB AN) (Oq B3 (Oq Vm ?_));refine Js 92 ?_ ?_
 ·intro h128;refine Ae (Ae (Oq As (Oq Vm (Ae (Ae (Oq As (KS ?_)))))));refine Kt (KS ?_);refine Oq (A0 Dq [vi 0,vi 0,vi 0,vi 0]) (AC (AI [1] Bp [vi 0,vi 0,vi 0,vi 0]) (Oq Va (KS ?_)));have hq:=q4 hrr ((Am.mk 0 0 0 0),7) (by simp only [Dp,h7,h12,h26,h37,h128,hg5,hg16,hg23,hR114,hg116,hg122,Ag]); subst hq;exact Kr () rfl (.cellN 0 rfl Bp rfl (Bl _ _) rfl (.tmp rfl .nil)) [] en
 intro h128;refine Oq Vm (Oq B3 (Oq Au (Oq Vm ?_)));refine Js 96 ?_ ?_
 ·intro h131;refine Ae (Ae (Oq As (KS ?_)));refine Kt (KS ?_);refine Oq (A0 Dq [vi 0,vi 0,vi 0,vi 0]) (AC (AI [1] Bp [vi 0,vi 0,vi 0,vi 0]) (Oq Va (KS ?_)));have hq:=q4 hrr ((Am.mk 0 0 0 0),7) (by simp only [Dp,h7,h12,h26,h37,h128,h131,hg5,hg16,hg23,hR114,hg116,hg122,Ag]); subst hq;exact Kr () rfl (.cellN 0 rfl Bp rfl (Bl _ _) rfl (.tmp rfl .nil)) [] en
 intro h131;refine Oq Vm (Oq B3 (Oq Au (KS ?_)));refine Kc ?_ ?_
 ·intro h134;refine KS ?_;refine Oq (A0 Dq [vi 0,vi 0,vi 0,vi 0]) (AC (AI [1] Bp [vi 0,vi 0,vi 0,vi 0]) (Oq Va (KS ?_)));have hq:=q4 hrr ((Am.mk 0 0 0 0),7) (by simp only [Dp,h7,h12,h26,h37,h128,h131,h134,hg5,hg16,hg23,hR114,hg116,hg122,Ag]); subst hq;exact Kr () rfl (.cellN 0 rfl Bp rfl (Bl _ _) rfl (.tmp rfl .nil)) [] en
 intro h134;refine KS ?_;refine Oq (A0 Dq [vi 0,vi 0,vi 0,vi 0]) (AC (AI [1] Bp [vi 0,vi 0,vi 0,vi 0]) (Oq Va (KS ?_)));have hq:=q4 hrr ((Am.mk 0 0 0 0),0) (by simp only [Dp,h7,h12,h26,h37,h128,h131,h134,hg5,hg16,hg23,hR114,hg116,hg122,Ag]); subst hq;exact Kr () rfl (.cellN 0 rfl Bp rfl (Bl _ _) rfl (.tmp rfl .nil)) [] en
theorem Pa (p:Aw) (pa0:Option Addr) (pk0:Nat) (rr:List Am) (hrr:Cn p=rr):FT Tryz.prog 13 #[.agg #[vl pa0 pk0 p.Funcs]] [S pa0 pk0 p.Funcs] (fun g:Value=>(rr.length<=20000)) (fun g=>g) (fun g=>[sl g rr]):=by
 refine AG Tryz.func13 fun w0 M0 F0=>Fb 40 0 fun _=>?_;refine KS ?_;refine Oa (Ab [vl pa0 pk0 p.Funcs]) fun p2=>Oq Va (KS ?_);refine Oq Va (KS ?_);refine Oq (Aq Be 0) ?_;refine Av (Dp p) fun rv3 hg4=>?_;have hc5:=Vg p pa0 pk0 rv3 hg4;refine Oc [1] TB hc5 ?_;rintro - -;refine Oq Vm (Oq Vx (Oq Vx (Oa (Al Im [vi 0,vi 0,vi 0,vi 0]) fun p11=>AC (AI [0] Bp [vi rv3.1.Kind,vi rv3.1.Func,vi rv3.1.Block,vi rv3.1.Stmt]) (Oq Va (KS ?_)))));refine Oq Vm (Oq Cc (KS ?_));refine Kc ?_ ?_
 ·intro h12;refine KS ?_;refine Oq Va (KS ?_);refine Jl [] (Aj.slNil (α:=Am)) ?_;have hq:=q4 hrr ([]:List Am) (by simp only [Cn,h12,hg4,Ag]); subst hq;exact Kr (.slice none 0 0) rfl (.tmp rfl .nil) [0] en
 intro h12;have hVb:=U0 (p:=p) (qE (by assumption) (by assumption));refine KS ?_;refine Oq Va (KS ?_);refine Jl [] (Aj.osNil (α:=Am)) ?_;refine Kl (γ:=Nat×List Am×Int×Option Addr×Nat) (fun (r15,D6,Bg,a18,k19)=>⟨[(1,p2),(3,vl a18 k19 D6),(6,vi Bg)],[O a18 k19 D6,pv p2 [vl pa0 pk0 p.Funcs],S pa0 pk0 p.Funcs],LQ p r15 D6 Bg=LQ p (((p.Funcs.length:Int) - 0).toNat) [] 0/\r15=((p.Funcs.length:Int) - Bg).toNat/\(0:Int)<=Bg/\Bg<=(p.Funcs.length:Int)/\(-9223372036854775808<=Bg/\Bg<=9223372036854775807)/\((D6.length:Int)<=1100*Bg),r15⟩) (((p.Funcs.length:Int) - 0).toNat,[],0,none,0) [0,1,2] ⟨rfl,rfl,Ad,Ad,Ad,Bi⟩ ?_;rintro ⟨r15,D6,Bg,a18,k19⟩ ⟨hM20,hr21,hi22,hi23,hk24,hv25⟩;refine JX ?_;refine Fb 32 0 fun _=>KS ?_;refine Oq Vm (Oq (Ah BS 1) (Oq (Ai BU 1) (Oq (AB BC) (Oq AF (KS ?_)))));refine Kc ?_ ?_
 ·intro h28;have g29:=dt h28;have hVf:=hVb.2 Bg.toNat;have hb8:Bg<=7:=by have:=hVb.1; omega
  obtain ⟨r30,rfl⟩:=AP (n:=r15) Ad;refine KS ?_;refine Oq Vm (Oq Vm (Oq (A0 Dq [vi 1,vi Bg,vi (-1),vi (-1)]) (Oa (A5 BG Gy [.agg #[vi 1,vi Bg,vi (-1),vi (-1)]] [vi 1,vi Bg,vi (-1),vi (-1)]) fun c31=>?_)));refine Jo 0 ?_; rintro a32 k33 rfl;refine Jl [0] (Aj.cr1 (α:=Am) (A:=[]) _ (Am.mk 1 Bg (-1) (-1)) _ AU (fun h=>⟨rfl,AR,AR,AR,AR⟩)) ?_;refine Oa (BH [1,0] BG BG Gy) fun c34=>?_;refine Jo 0 ?_; rintro a35 k36 rfl;have hn38:=la D6 ([(Am.mk 1 Bg (-1) (-1))]:List Am);refine Oq Va (KS ?_);refine Oq Va (KS ?_);refine Kl (γ:=Nat×List Am×Int×Option Addr×Nat) (fun (r39,LA,Cp,a42,k43)=>⟨[(1,p2),(6,vi Bg),(3,vl a42 k43 LA),(7,vi Cp)],[O a42 k43 LA,pv p2 [vl pa0 pk0 p.Funcs],S pa0 pk0 p.Funcs],Mk p Bg r39 LA Cp=Mk p Bg ((((((p.Funcs.getD Bg.toNat default).Blocks).length:Int):Int) - 0).toNat) (D6++[(Am.mk 1 Bg (-1) (-1))]) 0/\r39=(((((p.Funcs.getD Bg.toNat default).Blocks).length:Int):Int) - Cp).toNat/\(0:Int)<=Cp/\(Cp<=(((p.Funcs.getD Bg.toNat default).Blocks).length:Int)\/Cp=0)/\(-9223372036854775808<=Cp/\Cp<=9223372036854775807)/\((LA.length:Int)<=1100*Bg+1+66*Cp),r39⟩) ((((((p.Funcs.getD Bg.toNat default).Blocks).length:Int):Int) - 0).toNat,(D6++[(Am.mk 1 Bg (-1) (-1))]),0,a35,k36) [0,0,1] ⟨rfl,rfl,Ad,(.inr rfl),Ad,Bi⟩ ?_;rintro ⟨r39,LA,Cp,a42,k43⟩ ⟨hM44,hr45,hi46,hi47,hk48,hv49⟩;refine JX ?_;refine Fb 32 0 fun _=>KS ?_;refine Oq Vm (Oq (Ah BS 1) (Oq (Ai BU 1) (Oq Vm (Oq (Vi BC 2) ?_))));refine D1 Bg.toNat 2 rfl AD fun a52 k53 _=>?_;refine Oq (Ah CB 0) (Oq (Ai CA 0) (Oq (AB B5) (Oq AF (KS ?_))));refine Kc ?_ ?_
  ·intro h56;have g57:=dt h56;have hVk:=hVf.2 Cp.toNat;have hb16:Cp<=15:=by have:=hVf.1; omega
   obtain ⟨r58,rfl⟩:=AP (n:=r39) Ad;refine KS ?_;refine Oq (Ah BS 3) (Oq (Ai BU 3) (Oq Vm (Oq (Vi BC 4) (Oq (Ah CB 0) (Oq (Ai CA 0) (Oq Vm (Oq (Vi B5 1) ?_)))))));refine EQ Cp.toNat 1 rfl AD fun a59 k60 _=>?_;refine Oq (Ah CR 0) (Oq (Ai CU 0) (Oq Va (KS ?_)));refine Oq Va (KS ?_);refine Kl (γ:=Nat×List Am×Int×Option Addr×Nat) (fun (r63,Kd,Dz,a66,k67)=>⟨[(1,p2),(6,vi Bg),(3,vl a66 k67 Kd),(7,vi Cp),(8,.slice a59 (((((p.Funcs.getD Bg.toNat default).Blocks).getD Cp.toNat default).Stmts).length) k60),(9,vi Dz)],[O a66 k67 Kd,S a59 k60 ((((p.Funcs.getD Bg.toNat default).Blocks).getD Cp.toNat default).Stmts),pv p2 [vl pa0 pk0 p.Funcs],S pa0 pk0 p.Funcs],Jt Bg Cp ((((p.Funcs.getD Bg.toNat default).Blocks).getD Cp.toNat default).Stmts) r63 Kd Dz=Jt Bg Cp ((((p.Funcs.getD Bg.toNat default).Blocks).getD Cp.toNat default).Stmts) ((((((((p.Funcs.getD Bg.toNat default).Blocks).getD Cp.toNat default).Stmts).length:Int):Int) - 0).toNat) LA 0/\r63=(((((((p.Funcs.getD Bg.toNat default).Blocks).getD Cp.toNat default).Stmts).length:Int):Int) - Dz).toNat/\(0:Int)<=Dz/\(Dz<=(((((p.Funcs.getD Bg.toNat default).Blocks).getD Cp.toNat default).Stmts).length:Int)\/Dz=0)/\(-9223372036854775808<=Dz/\Dz<=9223372036854775807)/\((Kd.length:Int)<=1100*Bg+1+66*Cp+2*Dz),r63⟩) ((((((((p.Funcs.getD Bg.toNat default).Blocks).getD Cp.toNat default).Stmts).length:Int):Int) - 0).toNat,LA,0,a42,k43) [4,1,4,5] ⟨rfl,rfl,Ad,(.inr rfl),Ad,Bi⟩ ?_;rintro ⟨r63,Kd,Dz,a66,k67⟩ ⟨hM68,hr69,hi70,hi71,hk72,hv73⟩;refine JX ?_;refine Fb 32 0 fun _=>KS ?_;refine Oq Vm (Oq Vm (Oq (AB BI) (Oq AF (KS ?_))));refine Kc ?_ ?_
   ·intro h77;have g78:=dt h77;have hb32:Dz<=31:=by have:=hVk.1; omega
    obtain ⟨r79,rfl⟩:=AP (n:=r63) Ad;refine KS ?_;refine Oq Vm (Oq Vm (Oq Vm (Oq Vm (Oq (A0 Dq [vi 3,vi Bg,vi Cp,vi Dz]) (Oa (A5 BG Gy [.agg #[vi 3,vi Bg,vi Cp,vi Dz]] [vi 3,vi Bg,vi Cp,vi Dz]) fun c80=>?_)))));refine Jo 0 ?_; rintro a81 k82 rfl;refine Jl [0] (Aj.cr1 (α:=Am) (A:=[]) _ (Am.mk 3 Bg Cp Dz) _ AU (fun h=>⟨rfl,AR,AR,AR,AR⟩)) ?_;refine Oa (BH [1,0] BG BG Gy) fun c83=>?_;refine Jo 0 ?_; rintro a84 k85 rfl;have hn87:=la Kd ([(Am.mk 3 Bg Cp Dz)]:List Am);refine Oq Va (KS ?_);refine Oq Vm (Oq Vm (Oq (Vi BI 1) ?_));refine GW Dz.toNat 1 rfl AD fun a88 k89 a90 k91 _ _=>?_;refine Oq (Ah CQ 0) (Oq (Ai An 0) (Oq AH (KS ?_)));refine Kc ?_ ?_
    ·intro h98;refine KS ?_;refine Oq Vm (Oq Vm (Oq Vm (Oq Vm (Oq (A0 Dq [vi 4,vi Bg,vi Cp,vi Dz]) (Oa (A5 BG Gy [.agg #[vi 4,vi Bg,vi Cp,vi Dz]] [vi 4,vi Bg,vi Cp,vi Dz]) fun c100=>?_)))));refine Jo 0 ?_; rintro a101 k102 rfl;refine Jl [0] (Aj.cr1 (α:=Am) (A:=[]) _ (Am.mk 4 Bg Cp Dz) _ AU (fun h=>⟨rfl,AR,AR,AR,AR⟩)) ?_;refine Oa (BH [4,0] BG BG Gy) fun c103=>?_;refine Jo 0 ?_; rintro a104 k105 rfl;have hn107:=la ((Kd++[(Am.mk 3 Bg Cp Dz)]):List Am) ([(Am.mk 4 Bg Cp Dz)]:List Am);refine Oq Va (KS ?_);refine Oq Vm (Oq Ay (Oq Va (KS ?_)));exact Kg (r79,((Kd++[(Am.mk 3 Bg Cp Dz)])++[(Am.mk 4 Bg Cp Dz)]),(Dz+1),a104,k105) [0,3,4,5] ⟨(q3 hM68 (by simp only [Jt,h77,h98,Ag])),Ad,Ad,Ad,Ad,AM⟩
    intro h98;have g108:=ne_of_beq_false h98;refine KS ?_;refine Oq Vm (Oq Ay (Oq Va (KS ?_)));exact Kg (r79,(Kd++[(Am.mk 3 Bg Cp Dz)]),(Dz+1),a84,k85) [3,3,4,5] ⟨(q3 hM68 (by simp only [Jt,h77,h98,Ag])),Ad,Ad,Ad,Ad,AM⟩
   intro h77;have g109:=df h77;obtain rfl:r63=0:=by omega
   refine Ke ?_;have hR110:=q2 hM68 Kd (by simp only [Jt,h77,Ag]);refine KS ?_;refine Oq Vm (Oq Ay (Oq Va (KS ?_)));exact Kg (r58,Kd,(Cp+1),a66,k67) [0,1,2] ⟨(q3 hM44 (by simp only [Mk,h56,h77,hR110,Ag])),Ad,Ad,Ad,Ad,AM⟩
  intro h56;have g111:=df h56;obtain rfl:r39=0:=by omega
  refine Ke ?_;have hR112:=q2 hM44 LA (by simp only [Mk,h56,Ag]);refine KS ?_;refine Oq Vm (Oq Vm (Oq (A0 Dq [vi 2,vi Bg,vi (-1),vi (-1)]) (Oa (A5 BG Gy [.agg #[vi 2,vi Bg,vi (-1),vi (-1)]] [vi 2,vi Bg,vi (-1),vi (-1)]) fun c113=>?_)));refine Jo 0 ?_; rintro a114 k115 rfl;refine Jl [0] (Aj.cr1 (α:=Am) (A:=[]) _ (Am.mk 2 Bg (-1) (-1)) _ AU (fun h=>⟨rfl,AR,AR,AR,AR⟩)) ?_;refine Oa (BH [3,0] BG BG Gy) fun c116=>?_;refine Jo 0 ?_; rintro a117 k118 rfl;have hn120:=la LA ([(Am.mk 2 Bg (-1) (-1))]:List Am);refine Oq Va (KS ?_);refine Oq Vm (Oq Ay (Oq Va (KS ?_)));exact Kg (r30,(LA++[(Am.mk 2 Bg (-1) (-1))]),(Bg+1),a117,k118) [0,2,3] ⟨(q3 hM20 (by simp only [LQ,h28,h56,hR112,Ag])),Ad,Ad,Ad,Ad,AM⟩
 intro h28;have g121:=df h28;obtain rfl:r15=0:=by omega
 refine Ke ?_;have hR122:=q2 hM20 D6 (by simp only [LQ,h28,Ag]);refine KS ?_;refine Oq Vm (Oq Va (KS ?_));refine Jl [0] (Aj.freeze _ _) ?_;have hq:=q4 hrr D6 (by simp only [Cn,h12,h28,hg4,hR122,Ag]); subst hq;exact Kr (vl a18 k19 D6) rfl (.tmp rfl .nil) [0] en
theorem Rg (l:List Am) (la0:Option Addr) (lk0:Nat) (n:Am) (CX:Af n.Kind) (IY:Af n.Func) (IZ:Af n.Block) (I0:Af n.Stmt) (rr:Int) (hrr:Ej l n=rr):FT Tryz.prog 90 #[vl la0 lk0 l,.agg #[vi n.Kind,vi n.Func,vi n.Block,vi n.Stmt]] [S la0 lk0 l] (fun g:Unit=>Af rr/\(-1<=rr/\rr < (l.length:Int))) (fun g=>vi rr) (fun g=>[]):=by
 refine AG Tryz.func90 fun w0 M0 F0=>Fb 32 0 fun _=>?_;refine KS ?_;refine Oa (Ab [vi n.Kind,vi n.Func,vi n.Block,vi n.Stmt]) fun p2=>Oq Va (KS ?_);refine Oq Va (KS ?_);refine Kl (γ:=Nat×Int) (fun (r3,AJ)=>⟨[(0,vl la0 lk0 l),(3,p2),(5,vi AJ)],[pv p2 [vi n.Kind,vi n.Func,vi n.Block,vi n.Stmt],S la0 lk0 l],G9 l n r3 AJ=G9 l n (((l.length:Int) - 0).toNat) 0/\r3=((l.length:Int) - AJ).toNat/\(0:Int)<=AJ/\AJ<=(l.length:Int)/\(-9223372036854775808<=AJ/\AJ<=9223372036854775807),r3⟩) (((l.length:Int) - 0).toNat,0) [0,1] ⟨rfl,rfl,Ad,Ad,Ad⟩ ?_;rintro ⟨r3,AJ⟩ ⟨hM5,hr6,hi7,hi8,hk9⟩;refine JX ?_;refine KS ?_;refine Oq Vm (Oq Vm (Oq (AB BG) (Oq AF (KS ?_))));refine Kc ?_ ?_
 ·intro h11;have g12:=dt h11;obtain ⟨r13,rfl⟩:=AP (n:=r3) Ad;refine KS ?_;refine KO AJ.toNat 1 rfl AD fun _ _ _ _=>?_;refine Kq [0,0,3,7,0,31] AY ?_;refine Qv [] Vm (Qv [] Vm (Qv [2] (Vi BG 0) (Qv [0] (Aq Bp 0) (Qv [1] (Aq Bp 0) (Qv [] (Yb bN (l:=[(l.getD AJ.toNat default).Kind,(l.getD AJ.toNat default).Func,(l.getD AJ.toNat default).Block,(l.getD AJ.toNat default).Stmt]) (m:=[n.Kind,n.Func,n.Block,n.Stmt])) ?_)))));refine Qn ⟨by kernel_rfl,?_⟩;refine Kc ?_ ?_
  ·intro h18;refine KS ?_;refine Oq Vm (Oq Va (KS ?_));have hR20:=q2 hM5 (.ret AJ) (by simp only [G9,h11,h18,Ag]);have hq:=q4 hrr AJ (by simp only [Ej,h11,h18,hR20,Ag]); subst hq;exact KU [] en
  intro h18;refine KS ?_;refine Oq Vm (Oq Ay (Oq Va (KS ?_)));exact Kg (r13,(AJ+1)) [1,2] ⟨(q3 hM5 (by simp only [G9,h11,h18,Ag])),Ad,Ad,Ad,Ad⟩
 intro h11;have g22:=df h11;obtain rfl:r3=0:=by omega
 refine Ke ?_;have hR23:=q2 hM5 (.brk ()) (by simp only [G9,h11,Ag]);refine KS ?_;refine Oq Va (KS ?_);have hq:=q4 hrr (-1) (by simp only [Ej,h11,hR23,Ag]); subst hq;exact KU [] en
theorem Yx (p:Aw) (pa0:Option Addr) (pk0:Nat) (n:Am) (CX:Af n.Kind) (IY:Af n.Func) (IZ:Af n.Block) (I0:Af n.Stmt) (rr:Int) (hrr:J2 p n=rr):FT Tryz.prog 47 #[.agg #[vl pa0 pk0 p.Funcs],.agg #[vi n.Kind,vi n.Func,vi n.Block,vi n.Stmt]] [S pa0 pk0 p.Funcs] (fun g:Unit=>Af rr/\(-1<=rr/\rr<=20000)) (fun g=>vi rr) (fun g=>[]):=by
 refine AG Tryz.func47 fun w0 M0 F0=>?_;unfold Af at CX IY IZ I0;refine KS ?_;refine Oa (Ab [vl pa0 pk0 p.Funcs]) fun p2=>Oa (Ab [vi n.Kind,vi n.Func,vi n.Block,vi n.Stmt]) fun p3=>Oq Va (KS ?_);refine Bu [0,1,0,7,15] AY ?_;refine Dv [1] (Aq Be 0) ?_;refine Av (Cn p) fun rv5 hg6=>?_;refine Dx [2] [] [2,0,1] (fun G=>(G.g 1 0)) [fun G=>SP.fact ((rv5.length<=20000)),fun G=>sl (G.g 1 0) rv5] (fun G=>xC [0] OT (Pa p pa0 pk0 rv5 hg6)) (Dv [0] (Aq Bp 0) ?_);refine Av (Ej rv5 n) fun rv10 hg11=>?_;refine Dx [3,4] [] [1,2,0] (fun G=>vi rv10) [fun G=>SP.fact (Af rv10/\(-1<=rv10/\rv10 < (rv5.length:Int)))] (fun G=>by refine xf 0 rfl ?_; rintro he12; exact xD [1] Tk rfl rfl rfl (PR (γ:=Unit) (I:=fun g=>Af rv10/\(-1<=rv10/\rv10 < (rv5.length:Int))) (V:=fun g=>vi rv10) (B:=fun g=>[]) (R:=sl (G.g 1 0) rv5) QQ (fun aq7 kq8 eq9=>by rw [eq9]; exact GS (Aj.take (is:=[0]) rfl) (Rg rv5 aq7 kq8 n pre pre pre pre rv10 hg11)))) (Dv [] Va ?_);refine Dn ⟨by kernel_rfl,fun G=>?_⟩;refine Bq [(4,vi rv10)] [0,1,2] [SP.fact ((rv5.length<=20000)),sl (G.g 1 0) rv5,SP.fact (Af rv10/\(-1<=rv10/\rv10 < (rv5.length:Int)))] ?_;generalize G.g 1 0=c4;refine Jf 3 rfl ?_; rintro he13;refine Jf 5 rfl ?_; rintro ⟨he14,he15⟩;unfold Af at he14;refine Jk [0,1,2,4] ?_;refine Jo 3 ?_; rintro a16 k17 rfl;have hq:=q4 hrr rv10 (by simp only [J2,hg6,hg11,Ag]); subst hq;exact KU [] en
theorem XM (p:Aw) (pa0:Option Addr) (pk0:Nat) (n:Am) (CX:Af n.Kind) (IY:Af n.Func) (IZ:Af n.Block) (I0:Af n.Stmt) (rr:Az×Bool) (hrr:Eu p n=rr):FT Tryz.prog 20 #[.agg #[vl pa0 pk0 p.Funcs],.agg #[vi n.Kind,vi n.Func,vi n.Block,vi n.Stmt]] [S pa0 pk0 p.Funcs] (fun g:Value×Value=>Af rr.1.Op/\rr.1.Def.b.length<=140737488355328) (fun g=>.tuple #[.agg #[vi rr.1.Op,.string (bs rr.1.Def),g.1,g.2],vb rr.2]) (fun g=>[sl g.1 rr.1.Uses,sl g.2 rr.1.Targets]):=by
 refine AG Tryz.func20 fun w0 M0 F0=>?_;unfold Af at CX IY IZ I0;refine Fb 40 0 fun _=>KS ?_;refine Oa (Ab [vl pa0 pk0 p.Funcs]) fun p2=>Oa (Ab [vi n.Kind,vi n.Func,vi n.Block,vi n.Stmt]) fun p3=>Oa (Al HW [vi 0,.string (bs (Aa.mk [])),.slice none 0 0,.slice none 0 0]) fun p4=>Oq Va (KS ?_);refine Oq (Aq Be 2) (Oq (Aq Bp 1) ?_);refine Av (J2 p n) fun rv5 hg6=>?_;have hc7:=Yx p pa0 pk0 n pre pre pre pre rv5 hg6;refine Oc [3] bT hc7 ?_;rintro - -;refine Oq AF (Oq Vm ?_);refine Js 10 ?_ ?_
 ·intro h10;refine Ae (Ae (Ae (Ae (Ae (Ae (Ae (Ae (Oq As (KS ?_)))))))));refine Kt (KS ?_);refine Oq (A0 HB [vi 0,.string (bs (Aa.mk [])),.slice none 0 0,.slice none 0 0]) (AC (AI [0] Bd [vi 0,.string (bs (Aa.mk [])),.slice none 0 0,.slice none 0 0]) (Oq Va (KS ?_)));refine Jl [] (Aj.slNil (α:=Aa)) ?_;have hq:=q4 hrr ((Az.mk 0 (Aa.mk []) [] []),false) (by simp only [Eu,h10,hg6,Ag]); subst hq;exact Kr (.slice none 0 0,.slice none 0 0) rfl (.cellN 1 rfl Bd rfl (Bl _ _) rfl (.tmp rfl .nil)) [0,0] en
 intro h10;have hN0:=Vp (by assumption) h10;obtain ⟨hN1,hN2⟩:=hN0.1;refine Oq (Ah G0 1) (Oq (Ai An 1) (Oq Cc (Oq Vm ?_)));refine Js 14 ?_ ?_
 ·intro h13;have g14:=Yv h13;refine Oq (Ah G0 1) (Oq (Ai An 1) (Oq Cc (Oq As (Oq Au (KS ?_)))));refine Kc ?_ ?_
  ·intro h15;refine KS ?_;refine Oq (A0 HB [vi 0,.string (bs (Aa.mk [])),.slice none 0 0,.slice none 0 0]) (AC (AI [0] Bd [vi 0,.string (bs (Aa.mk [])),.slice none 0 0,.slice none 0 0]) (Oq Va (KS ?_)));refine Jl [] (Aj.slNil (α:=Aa)) ?_;have hq:=q4 hrr ((Az.mk 0 (Aa.mk []) [] []),false) (by simp only [Eu,h10,h13,h15,hg6,Ag]); subst hq;exact Kr (.slice none 0 0,.slice none 0 0) rfl (.cellN 1 rfl Bd rfl (Bl _ _) rfl (.tmp rfl .nil)) [0,0] en
  intro h15;have g17:=JG h15;refine KS ?_;refine D1 n.Func.toNat 3 rfl AD fun a18 k19 _=>?_;refine Fb 40 1 fun _=>?_;refine EQ n.Block.toNat 1 rfl AD fun a22 k23 _=>?_;refine Fb 72 1 fun _=>?_;refine GW n.Stmt.toNat 1 rfl AD fun a26 k27 a28 k29 hb30 hb31=>?_;unfold Af at hb30;refine Bu [0,1,0,4,15,31,63,0,128,511,1023,2047,0,4096,16383,32767,65535,131071] AY ?_;refine Dv [9] (Ah BS 0) (Dv [9] (Ai BU 0) (Dv [8] (Ah H7 0) (Dv [8] (Ai An 0) (Dv [10] (Vi BC 0) (Dv [5] (Ah CB 0) (Dv [5] (Ai CA 0) (Dv [8] (Ah LV 0) (Dv [8] (Ai An 0) (Dv [6] (Vi B5 0) ?_)))))))));refine Dv [3] (Ah CR 0) (Dv [3] (Ai CU 0) (Dv [8] (Ah LW 0) (Dv [8] (Ai An 0) (Dv [4] (Vi BI 0) (Dv [0] (Aq Bd 0) (Dw [7] [7] [0] [fun G=>Cl p4 [vi ((((((p.Funcs.getD n.Func.toNat default).Blocks).getD n.Block.toNat default).Stmts).getD n.Stmt.toNat default).Op),.string (bs ((((((p.Funcs.getD n.Func.toNat default).Blocks).getD n.Block.toNat default).Stmts).getD n.Stmt.toNat default).Def)),.slice a26 (((((((p.Funcs.getD n.Func.toNat default).Blocks).getD n.Block.toNat default).Stmts).getD n.Stmt.toNat default).Uses).length) k27,.slice a28 (((((((p.Funcs.getD n.Func.toNat default).Blocks).getD n.Block.toNat default).Stmts).getD n.Stmt.toNat default).Targets).length) k29]] (fun G=>xS (AI [0] Bd [vi ((((((p.Funcs.getD n.Func.toNat default).Blocks).getD n.Block.toNat default).Stmts).getD n.Stmt.toNat default).Op),.string (bs ((((((p.Funcs.getD n.Func.toNat default).Blocks).getD n.Block.toNat default).Stmts).getD n.Stmt.toNat default).Def)),.slice a26 (((((((p.Funcs.getD n.Func.toNat default).Blocks).getD n.Block.toNat default).Stmts).getD n.Stmt.toNat default).Uses).length) k27,.slice a28 (((((((p.Funcs.getD n.Func.toNat default).Blocks).getD n.Block.toNat default).Stmts).getD n.Stmt.toNat default).Targets).length) k29])) (Dv [] Va ?_)))))));refine Dn ⟨by kernel_rfl,fun G=>?_⟩;refine Bq [(4,p4),(5,vb true)] [0,1,2,3,4,5,6,8,9,10] [Cl p4 [vi ((((((p.Funcs.getD n.Func.toNat default).Blocks).getD n.Block.toNat default).Stmts).getD n.Stmt.toNat default).Op),.string (bs ((((((p.Funcs.getD n.Func.toNat default).Blocks).getD n.Block.toNat default).Stmts).getD n.Stmt.toNat default).Def)),.slice a26 (((((((p.Funcs.getD n.Func.toNat default).Blocks).getD n.Block.toNat default).Stmts).getD n.Stmt.toNat default).Uses).length) k27,.slice a28 (((((((p.Funcs.getD n.Func.toNat default).Blocks).getD n.Block.toNat default).Stmts).getD n.Stmt.toNat default).Targets).length) k29]] ?_;have hq:=q4 hrr ((((((p.Funcs.getD n.Func.toNat default).Blocks).getD n.Block.toNat default).Stmts).getD n.Stmt.toNat default),true) (by simp only [Eu,h10,h13,h15,hg6,Ag]); subst hq;exact Kr (.slice a26 (((((((p.Funcs.getD n.Func.toNat default).Blocks).getD n.Block.toNat default).Stmts).getD n.Stmt.toNat default).Uses).length) k27,.slice a28 (((((((p.Funcs.getD n.Func.toNat default).Blocks).getD n.Block.toNat default).Stmts).getD n.Stmt.toNat default).Targets).length) k29) rfl (.cellN 10 rfl Bd rfl (Bl _ _) rfl (.tmp rfl .nil)) [1,2] en
 intro h13;have g36:=JG h13;refine Ae (Ae (Ae (Oq Au (Oq Au (KS ?_)))));refine Kf (KS ?_);refine D1 n.Func.toNat 3 rfl AD fun a37 k38 _=>?_;refine Fb 40 1 fun _=>?_;refine EQ n.Block.toNat 1 rfl AD fun a41 k42 _=>?_;refine Fb 72 1 fun _=>?_;refine GW n.Stmt.toNat 1 rfl AD fun a45 k46 a47 k48 hb49 hb50=>?_;unfold Af at hb49;refine Bu [0,1,0,4,15,31,63,0,128,511,1023,2047,0,4096,16383,32767,65535,131071] AY ?_;refine Dv [9] (Ah BS 0) (Dv [9] (Ai BU 0) (Dv [8] (Ah H7 0) (Dv [8] (Ai An 0) (Dv [10] (Vi BC 0) (Dv [5] (Ah CB 0) (Dv [5] (Ai CA 0) (Dv [8] (Ah LV 0) (Dv [8] (Ai An 0) (Dv [6] (Vi B5 0) ?_)))))))));refine Dv [3] (Ah CR 0) (Dv [3] (Ai CU 0) (Dv [8] (Ah LW 0) (Dv [8] (Ai An 0) (Dv [4] (Vi BI 0) (Dv [0] (Aq Bd 0) (Dw [7] [7] [0] [fun G=>Cl p4 [vi ((((((p.Funcs.getD n.Func.toNat default).Blocks).getD n.Block.toNat default).Stmts).getD n.Stmt.toNat default).Op),.string (bs ((((((p.Funcs.getD n.Func.toNat default).Blocks).getD n.Block.toNat default).Stmts).getD n.Stmt.toNat default).Def)),.slice a45 (((((((p.Funcs.getD n.Func.toNat default).Blocks).getD n.Block.toNat default).Stmts).getD n.Stmt.toNat default).Uses).length) k46,.slice a47 (((((((p.Funcs.getD n.Func.toNat default).Blocks).getD n.Block.toNat default).Stmts).getD n.Stmt.toNat default).Targets).length) k48]] (fun G=>xS (AI [0] Bd [vi ((((((p.Funcs.getD n.Func.toNat default).Blocks).getD n.Block.toNat default).Stmts).getD n.Stmt.toNat default).Op),.string (bs ((((((p.Funcs.getD n.Func.toNat default).Blocks).getD n.Block.toNat default).Stmts).getD n.Stmt.toNat default).Def)),.slice a45 (((((((p.Funcs.getD n.Func.toNat default).Blocks).getD n.Block.toNat default).Stmts).getD n.Stmt.toNat default).Uses).length) k46,.slice a47 (((((((p.Funcs.getD n.Func.toNat default).Blocks).getD n.Block.toNat default).Stmts).getD n.Stmt.toNat default).Targets).length) k48])) (Dv [] Va ?_)))))));refine Dn ⟨by kernel_rfl,fun G=>?_⟩;refine Bq [(4,p4),(5,vb true)] [0,1,2,3,4,5,6,8,9,10] [Cl p4 [vi ((((((p.Funcs.getD n.Func.toNat default).Blocks).getD n.Block.toNat default).Stmts).getD n.Stmt.toNat default).Op),.string (bs ((((((p.Funcs.getD n.Func.toNat default).Blocks).getD n.Block.toNat default).Stmts).getD n.Stmt.toNat default).Def)),.slice a45 (((((((p.Funcs.getD n.Func.toNat default).Blocks).getD n.Block.toNat default).Stmts).getD n.Stmt.toNat default).Uses).length) k46,.slice a47 (((((((p.Funcs.getD n.Func.toNat default).Blocks).getD n.Block.toNat default).Stmts).getD n.Stmt.toNat default).Targets).length) k48]] ?_;have hq:=q4 hrr ((((((p.Funcs.getD n.Func.toNat default).Blocks).getD n.Block.toNat default).Stmts).getD n.Stmt.toNat default),true) (by simp only [Eu,h10,h13,hg6,Ag]); subst hq;exact Kr (.slice a45 (((((((p.Funcs.getD n.Func.toNat default).Blocks).getD n.Block.toNat default).Stmts).getD n.Stmt.toNat default).Uses).length) k46,.slice a47 (((((((p.Funcs.getD n.Func.toNat default).Blocks).getD n.Block.toNat default).Stmts).getD n.Stmt.toNat default).Targets).length) k48) rfl (.cellN 10 rfl Bd rfl (Bl _ _) rfl (.tmp rfl .nil)) [1,2] en
theorem Xl (s:Az) (sa2:Option Addr) (sk2:Nat) (sa3:Option Addr) (sk3:Nat) (By:Af s.Op) (Lz:s.Def.b.length<=140737488355328) (rr:Bool) (hrr:Hg s=rr):FT Tryz.prog 43 #[.agg #[vi s.Op,.string (bs s.Def),vl sa2 sk2 s.Uses,vl sa3 sk3 s.Targets]] [S sa2 sk2 s.Uses,S sa3 sk3 s.Targets] (fun g:Unit=>True) (fun g=>vb rr) (fun g=>[]):=by
 refine AG Tryz.func43 fun w0 M0 F0=>?_;refine KS ?_;refine Oa (Ab [vi s.Op,.string (bs s.Def),vl sa2 sk2 s.Uses,vl sa3 sk3 s.Targets]) fun p5=>Oq Va (KS ?_);refine Oq (Ah CQ 0) (Oq (Ai An 0) (Oq AH (Oq Vm ?_)));refine Js 6 ?_ ?_
 ·intro h6;refine Ae (Ae (Ae (Oq As (Oq Vm (Ae (Ae (Ae (Oq As (Oq Va ?_)))))))));refine KS ?_;have hq:=q4 hrr true (by simp only [Hg,h6,Ag]); subst hq;exact KU [] trivial
 intro h6;refine Oq (Ah CQ 0) (Oq (Ai An 0) (Oq AH (Oq Au (Oq Vm ?_))));refine Js 11 ?_ ?_
 ·intro h9;refine Ae (Ae (Ae (Oq As (Oq Va (KS ?_)))));have hq:=q4 hrr true (by simp only [Hg,h6,h9,Ag]); subst hq;exact KU [] trivial
 intro h9;refine Oq (Ah CQ 0) (Oq (Ai An 0) (Oq AH (Oq Au (Oq Va (KS ?_)))));have hq:=q4 hrr (s.Op == 6) (by simp only [Hg,h6,h9,Ag]); subst hq;exact KU [] trivial
theorem Zn (p:Aw) (pa0:Option Addr) (pk0:Nat) (kind:Int) (I1:Af kind) (rr:List AO×Int) (hrr:CI p kind=rr):FT Tryz.prog 18 #[.agg #[vl pa0 pk0 p.Funcs],vi kind] [S pa0 pk0 p.Funcs] (fun g:Value=>Af rr.2/\(rr.1.length<=256)) (fun g=>.tuple #[g,vi rr.2]) (fun g=>[sl g rr.1]):=by
 refine AG Tryz.func18 fun w0 M0 F0=>?_;refine KS ?_;refine Oa (Ab [vl pa0 pk0 p.Funcs]) fun p2=>Oq Va (Oq Va (KS ?_));refine Oq (Aq Be 0) ?_;refine Av (Dp p) fun rv3 hg4=>?_;have hc5:=Vg p pa0 pk0 rv3 hg4;refine Oc [1] TB hc5 ?_;rintro - ⟨-,-,-,-,he10⟩;unfold Af at he10;refine Oq Vm (Oq Vx (Oq Vx (Oa (Al Im [vi 0,vi 0,vi 0,vi 0]) fun p11=>AC (AI [0] Bp [vi rv3.1.Kind,vi rv3.1.Func,vi rv3.1.Block,vi rv3.1.Stmt]) (Oq Va (KS ?_)))));refine Oq Vm (Oq Cc (KS ?_));refine Kc ?_ ?_
 ·intro h12;refine KS ?_;refine Oq Vm (Oq Va (Oq Va (KS ?_)));refine Jl [] (Aj.slNil (α:=AO)) ?_;have hq:=q4 hrr (([]:List AO),rv3.2) (by simp only [CI,h12,hg4,Ag]); subst hq;exact Kr (.slice none 0 0) rfl (.tmp rfl (.tmp rfl .nil)) [0] en
 intro h12;refine KS ?_;refine Oq Vm (Oq AF (Oq Vm ?_));refine Js 25 ?_ ?_
 ·intro h15;refine Ae (Ae (Oq As (KS ?_)));refine Kt (KS ?_);refine Oq Va (Oq Va (KS ?_));refine Jl [] (Aj.slNil (α:=AO)) ?_;have hq:=q4 hrr (([]:List AO),3) (by simp only [CI,h12,h15,hg4,Ag]); subst hq;exact Kr (.slice none 0 0) rfl (.tmp rfl (.tmp rfl .nil)) [0] en
 intro h15;refine Oq Vm (Oq B3 (Oq Au (KS ?_)));refine Kc ?_ ?_
 ·intro h18;refine KS ?_;refine Oq Va (Oq Va (KS ?_));refine Jl [] (Aj.slNil (α:=AO)) ?_;have hq:=q4 hrr (([]:List AO),3) (by simp only [CI,h12,h15,h18,hg4,Ag]); subst hq;exact Kr (.slice none 0 0) rfl (.tmp rfl (.tmp rfl .nil)) [0] en
 intro h18;refine KS ?_;refine Oq (Aq Be 1) ?_;refine Av (Ca p) fun rv22 hg23=>?_;have hc24:=S8 p pa0 pk0 rv22 hg23;refine Oc [2] Sm hc24 ?_;rintro c21 -;refine Jo 0 ?_; rintro a25 k26 rfl;refine Fb 16 0 fun _=>?_;refine Oq Va (KS ?_);refine Oq Va (KS ?_);refine Oq Vm (Oq Cc (KS ?_));refine Kc ?_ ?_
 ·intro h29;refine KS ?_;refine Oq Va (KS ?_);refine Jl [] (Aj.osNil (α:=AO)) ?_;refine Kl (γ:=Nat×List AO×Int×Option Addr×Nat) (fun (r31,LB,GE,a34,k35)=>⟨[(8,vl a25 k26 rv22),(9,vl a34 k35 LB),(10,vi GE)],[O a34 k35 LB,S a25 k26 rv22],Ft r31 LB GE=Ft (((rv22.length:Int) - 0).toNat) [] 0/\r31=((rv22.length:Int) - GE).toNat/\(0:Int)<=GE/\GE<=(rv22.length:Int)/\(-9223372036854775808<=GE/\GE<=9223372036854775807)/\((LB.length:Int)<=GE),r31⟩) (((rv22.length:Int) - 0).toNat,[],0,none,0) [0,0] ⟨rfl,rfl,Ad,Ad,Ad,Bi⟩ ?_;rintro ⟨r31,LB,GE,a34,k35⟩ ⟨hM36,hr37,hi38,hi39,hk40,hv41⟩;refine JX ?_;refine Fb 16 0 fun _=>KS ?_;refine Oq Vm (Oq Vm (Oq (AB AN) (Oq AF (KS ?_))));refine Kc ?_ ?_
  ·intro h45;have g46:=dt h45;obtain ⟨r47,rfl⟩:=AP (n:=r31) Ad;refine KS ?_;refine Oq Vm (Oq Vm (Oq (A0 Ry [vi (-1),vi GE]) (Oa (A5 C2 M7 [.agg #[vi (-1),vi GE]] [vi (-1),vi GE]) fun c48=>?_)));refine Jo 0 ?_; rintro a49 k50 rfl;refine Jl [0] (Aj.cr1 (α:=AO) (A:=[]) _ (AO.mk (-1) GE) _ AU (fun h=>⟨rfl,AR,AR⟩)) ?_;refine Oa (BH [1,0] C2 C2 M7) fun c51=>?_;refine Jo 0 ?_; rintro a52 k53 rfl;have hn55:=la LB ([(AO.mk (-1) GE)]:List AO);refine Oq Va (KS ?_);refine Oq Vm (Oq Ay (Oq Va (KS ?_)));exact Kg (r47,(LB++[(AO.mk (-1) GE)]),(GE+1),a52,k53) [0,0] ⟨(q3 hM36 (by simp only [Ft,h45,Ag])),Ad,Ad,Ad,Ad,AM⟩
  intro h45;have g56:=df h45;obtain rfl:r31=0:=by omega
  refine Ke ?_;have hR57:=q2 hM36 LB (by simp only [Ft,h45,Ag]);refine KS ?_;refine Oq Vm (Oq (AB C2) (Oq B3 (KS ?_)));refine Kc ?_ ?_
  ·intro h58;refine KS ?_;refine Oq Va (Oq Va (KS ?_));refine Jl [] (Aj.slNil (α:=AO)) ?_;have hq:=q4 hrr (([]:List AO),7) (by simp only [CI,h12,h15,h18,h29,h45,h58,hg4,hg23,hR57,Ag]); subst hq;exact Kr (.slice none 0 0) rfl (.tmp rfl (.tmp rfl .nil)) [0] en
  intro h58;have g60:=df h58;refine KS ?_;refine Oq Vm (Oq Va (Oq Va (KS ?_)));refine Jl [0] (Aj.freeze _ _) ?_;have hq:=q4 hrr (LB,0) (by simp only [CI,h12,h15,h18,h29,h45,h58,hg4,hg23,hR57,Ag]); subst hq;exact Kr (vl a34 k35 LB) rfl (.tmp rfl (.tmp rfl .nil)) [0] en
 intro h29;refine KS ?_;refine Oq (Aq Be 2) ?_;refine Av (Cn p) fun rv63 hg64=>?_;have hc65:=Pa p pa0 pk0 rv63 hg64;refine Oc [3] OT hc65 ?_;rintro c62 he66;refine Jo 0 ?_; rintro a67 k68 rfl;refine Oq Va (KS ?_);refine Oq Va (KS ?_);refine Jl [] (Aj.osNil (α:=AO)) ?_;refine Kl (γ:=Nat×List AO×Int×Option Addr×Nat) (fun (r70,HE,El,a73,k74)=>⟨[(2,p2),(8,vl a25 k26 rv22),(9,vl a73 k74 HE),(11,vl a67 k68 rv63),(12,vi El)],[O a73 k74 HE,S a67 k68 rv63,S a25 k26 rv22,pv p2 [vl pa0 pk0 p.Funcs],S pa0 pk0 p.Funcs],E1 p rv22 rv63 r70 HE El=E1 p rv22 rv63 (((rv63.length:Int) - 0).toNat) [] 0/\r70=((rv63.length:Int) - El).toNat/\(0:Int)<=El/\El<=(rv63.length:Int)/\(-9223372036854775808<=El/\El<=9223372036854775807)/\((HE.length:Int)<=El),r70⟩) (((rv63.length:Int) - 0).toNat,[],0,none,0) [0,0,1,3,4] ⟨rfl,rfl,Ad,Ad,Ad,Bi⟩ ?_;rintro ⟨r70,HE,El,a73,k74⟩ ⟨hM75,hr76,hi77,hi78,hk79,hv80⟩;refine JX ?_;refine Fb 16 0 fun _=>KS ?_;refine Oq Vm (Oq Vm (Oq (AB BG) (Oq AF (KS ?_))));refine Kc ?_ ?_
 ·intro h86;have g87:=dt h86;obtain ⟨r88,rfl⟩:=AP (n:=r70) Ad;refine KS ?_;refine KO El.toNat 1 rfl AD fun hb89 hb90 hb91 hb92=>?_;unfold Af at hb89 hb90 hb91 hb92;refine Bu [0,0,0,6,14,31,63,127,127,0,767,2047] AY ?_;refine Dv [4] (Aq Be 0) (Dv [] Vm (Dv [] Vm (Dv [2] (Vi BG 0) (Dv [0] (Aq Bp 0) ?_))));refine Av (Eu p (rv63.getD El.toNat default)) fun rv95 hg96=>?_;refine Dx [5] [] [3,0,1,2] (fun G=>.tuple #[.agg #[vi rv95.1.Op,.string (bs rv95.1.Def),(G.g 5 0),(G.g 5 1)],vb rv95.2]) [fun G=>SP.fact (Af rv95.1.Op/\rv95.1.Def.b.length<=140737488355328),fun G=>sl (G.g 5 0) rv95.1.Uses,fun G=>sl (G.g 5 1) rv95.1.Targets] (fun G=>xC [0] cN (XM p pa0 pk0 ((rv63.getD El.toNat default)) pre pre pre pre rv95 hg96)) (Dg [] (fun G=>.tuple #[.agg #[vi rv95.1.Op,.string (bs rv95.1.Def),(G.g 5 0),(G.g 5 1)],vb rv95.2]) (fun G=>Vm) (Dg [] (fun G=>.agg #[vi rv95.1.Op,.string (bs rv95.1.Def),(G.g 5 0),(G.g 5 1)]) (fun G=>Vx) (Dv [] Vx (Dx [] [] [0] (fun G=>(G.g 9 0)) [fun G=>Cl (G.g 9 0) [vi 0,.string (bs (Aa.mk [])),.slice none 0 0,.slice none 0 0]] (fun G=>xA (Al HW [vi 0,.string (bs (Aa.mk [])),.slice none 0 0,.slice none 0 0])) (Dw [7,8,9] [9] [1,2,0] [fun G=>Cl (G.g 9 0) [vi rv95.1.Op,.string (bs rv95.1.Def),(G.g 5 0),(G.g 5 1)]] (fun G=>x1 0 rfl Pi fun ho98=>(x1 1 rfl Pi fun ho99=>(xS (AI [2] Bd [vi rv95.1.Op,.string (bs rv95.1.Def),(G.g 5 0),(G.g 5 1)] (v:=.agg #[vi rv95.1.Op,.string (bs rv95.1.Def),(G.g 5 0),(G.g 5 1)]) (h1:=show [vi rv95.1.Op,.string (bs rv95.1.Def),(G.g 5 0),(G.g 5 1)].all (·.oneCell')=true from (by simp only [List.all_cons,List.all_nil,ho98,ho99,Bool.and_true,Bool.true_and] <;> rfl)))))) (Dv [] Va ?_))))));refine Dn ⟨by kernel_rfl,fun G=>?_⟩;refine Bq [(2,p2),(8,vl a25 k26 rv22),(9,vl a73 k74 HE),(11,vl a67 k68 rv63),(12,vi El),(13,(G.g 9 0)),(14,vb rv95.2)] [0,1,2,3,4,5] [SP.fact (Af rv95.1.Op/\rv95.1.Def.b.length<=140737488355328),sl (G.g 5 0) rv95.1.Uses,sl (G.g 5 1) rv95.1.Targets,Cl (G.g 9 0) [vi rv95.1.Op,.string (bs rv95.1.Def),(G.g 5 0),(G.g 5 1)]] ?_;generalize G.g 5 0=c93,G.g 5 1=c94,G.g 9 0=p97;refine Jf 6 rfl ?_; rintro ⟨he100,he101⟩;unfold Af at he100;refine Jk [0,1,1,2,3,4,6,7,8] ?_;refine Jo 6 ?_; rintro a102 k103 rfl;refine Jo 7 ?_; rintro a106 k107 rfl;refine KS ?_;refine Oq Vm (Oq Vm ?_);refine Js 62 ?_ ?_
  ·intro h110;refine Oq Vm (Oq Vm (Oq (Vi BG 2) (Oq (Ah G0 0) (Oq (Ai An 0) (Oq AH (Oq As (Oq Vm ?_)))))));refine Js 70 ?_ ?_
   ·intro h112;refine Oq (Aq Bd 8) ?_;refine Av (Hg rv95.1) fun rv114 hg115=>?_;have hc116:=Xl rv95.1 a102 k103 a106 k107 pre pre rv114 hg115;refine Oc [6,7] aN hc116 ?_;rintro - -;refine Oq As (KS ?_);refine Kc ?_ ?_
    ·intro h117;refine KS ?_;refine Oq Vm (Oq Vm (Oq Vm (Oq (Ah FQ 8) (Oq (Ai Bj 8) ?_))));refine Av (Br rv22 rv95.1.Def) fun rv119 hg120=>?_;have hc121:=Lk rv22 a25 k26 rv95.1.Def pre rv119 hg120;refine Oc [3] K4 hc121 ?_;rintro - he122;unfold Af at he122;refine Oq (A0 Ry [vi El,vi rv119]) (Oa (A5 C2 M7 [.agg #[vi El,vi rv119]] [vi El,vi rv119]) fun c123=>?_);refine Jo 0 ?_; rintro a124 k125 rfl;refine Jl [0] (Aj.cr1 (α:=AO) (A:=[]) _ (AO.mk El rv119) _ AU (fun h=>⟨rfl,AR,AR⟩)) ?_;refine Oa (BH [2,0] C2 C2 M7) fun c126=>?_;refine Jo 0 ?_; rintro a127 k128 rfl;have hn130:=la HE ([(AO.mk El rv119)]:List AO);refine Oq Va (KS ?_);refine Oq Vm (Oq Ay (Oq Va (KS ?_)));exact Kg (r88,(HE++[(AO.mk El rv119)]),(El+1),a127,k128) [0,1,2,3,4] ⟨(q3 hM75 (by simp only [E1,h86,h110,h112,h117,hg96,hg115,hg120,Ag])),Ad,Ad,Ad,Ad,AM⟩
    intro h117;refine KS ?_;refine Oq Vm (Oq Ay (Oq Va (KS ?_)));exact Kg (r88,HE,(El+1),a73,k74) [1,1,2,3,4] ⟨(q3 hM75 (by simp only [E1,h86,h110,h112,h117,hg96,hg115,Ag])),Ad,Ad,Ad,Ad,AM⟩
   intro h112;have g132:=ne_of_beq_false h112;refine Ae (Ae (Oq Au (KS ?_)));refine Kf (KS ?_);refine Oq Vm (Oq Ay (Oq Va (KS ?_)));exact Kg (r88,HE,(El+1),a73,k74) [1,1,2,3,4] ⟨(q3 hM75 (by simp only [E1,h86,h110,h112,hg96,Ag])),Ad,Ad,Ad,Ad,AM⟩
  intro h110;refine Ae (Ae (Ae (Ae (Ae (Ae (Oq Au (Oq Vm (Ae (Ae ?_)))))))));refine Oq Au (KS ?_);refine Kf (KS ?_);refine Oq Vm (Oq Ay (Oq Va (KS ?_)));exact Kg (r88,HE,(El+1),a73,k74) [1,1,2,3,4] ⟨(q3 hM75 (by simp only [E1,h86,h110,hg96,Ag])),Ad,Ad,Ad,Ad,AM⟩
 intro h86;have g134:=df h86;obtain rfl:r70=0:=by omega
 refine Ke ?_;have hR135:=q2 hM75 HE (by simp only [E1,h86,Ag]);refine KS ?_;refine Oq Vm (Oq (AB C2) (Oq B3 (KS ?_)));refine Kc ?_ ?_
 ·intro h136;refine KS ?_;refine Oq Va (Oq Va (KS ?_));refine Jl [] (Aj.slNil (α:=AO)) ?_;have hq:=q4 hrr (([]:List AO),7) (by simp only [CI,h12,h15,h18,h29,h86,h136,hg4,hg23,hg64,hR135,Ag]); subst hq;exact Kr (.slice none 0 0) rfl (.tmp rfl (.tmp rfl .nil)) [0] en
 intro h136;have g138:=df h136;refine KS ?_;refine Oq Vm (Oq Va (Oq Va (KS ?_)));refine Jl [0] (Aj.freeze _ _) ?_;have hq:=q4 hrr (HE,0) (by simp only [CI,h12,h15,h18,h29,h86,h136,hg4,hg23,hg64,hR135,Ag]); subst hq;exact Kr (vl a73 k74 HE) rfl (.tmp rfl (.tmp rfl .nil)) [0] en
theorem XC (n:Int) (CX:Af n) (hn:0<=n/\n<=1000000000) (rr:Aa) (hrr:JA n=rr):FT Tryz.prog 67 #[vi n] [] (fun g:Unit=>rr.b.length<=140737488355328/\((rr.b.length:Int)<=1+n / 10)) (fun g=>.string (bs rr)) (fun g=>[]):=by
 refine AG Tryz.func67 fun w0 M0 F0=>?_;unfold Af at CX;refine KS ?_;refine Oq Va (KS ?_);refine Oq Vm (Oq K6 (Oq Vm (Oq K6 (Oq Ay ?_))));have hb1:(Aa.mk [48,49,50,51,52,53,54,55,56,57]).b.length=10:=rfl;refine Oq (Pg CH (l:=(Aa.mk [48,49,50,51,52,53,54,55,56,57]))) ?_;have hb2:=MO (Aa.mk [48,49,50,51,52,53,54,55,56,57]) ((n % 10):Int).toNat (((n % 10)+1):Int).toNat;refine Oq Va (KS ?_);refine Oq Vm (Oq IH (Oq Va (KS ?_)));have hterm10:LX ((n / 10).toNat+1) (n / 10) ((Aa.mk [48,49,50,51,52,53,54,55,56,57]).sub ((n % 10):Int).toNat (((n % 10)+1):Int).toNat)≠LR.oof:=(aY _ _ _ Ad);refine Kl (γ:=Nat×Int×Aa) (fun (r3,DA,LC)=>⟨[(3,.string (bs LC)),(0,vi DA)],[],LX r3 DA LC=LX ((n / 10).toNat+1) (n / 10) ((Aa.mk [48,49,50,51,52,53,54,55,56,57]).sub ((n % 10):Int).toNat (((n % 10)+1):Int).toNat)/\(-9223372036854775808<=DA/\DA<=9223372036854775807)/\LC.b.length<=140737488355328/\(0<=DA/\(LC.b.length:Int)+DA<=1+n / 10),r3⟩) (((n / 10).toNat+1),(n / 10),((Aa.mk [48,49,50,51,52,53,54,55,56,57]).sub ((n % 10):Int).toNat (((n % 10)+1):Int).toNat)) [] ⟨rfl,Ad,(by first | omega | (simp; done)),Bi⟩ ?_;rintro ⟨r3,DA,LC⟩ ⟨hM6,hk7,hk8,hv9⟩;refine JX ?_;rcases r3 with _ | r3
 ·exact absurd (hM6.symm.trans rfl) hterm10
 refine KS ?_;refine Oq Vm (Oq B3 (KS ?_));refine Kc ?_ ?_
 ·intro h11;have g12:=dt h11;refine KS ?_;refine Oq Vm (Oq K6 (Oq Vm (Oq K6 (Oq Ay ?_))));refine Oq (Pg CH (l:=(Aa.mk [48,49,50,51,52,53,54,55,56,57]))) ?_;have hb14:=MO (Aa.mk [48,49,50,51,52,53,54,55,56,57]) ((DA % 10):Int).toNat (((DA % 10)+1):Int).toNat;refine Oq Vm ?_;have hb15:=Dh ((Aa.mk [48,49,50,51,52,53,54,55,56,57]).sub ((DA % 10):Int).toNat (((DA % 10)+1):Int).toNat) LC;refine Oq (Dl (l:=((Aa.mk [48,49,50,51,52,53,54,55,56,57]).sub ((DA % 10):Int).toNat (((DA % 10)+1):Int).toNat)) (m:=LC)) (Oq Va (KS ?_));refine Oq Vm (Oq IH (Oq Va (KS ?_)));exact Kg (r3,(DA / 10),(((Aa.mk [48,49,50,51,52,53,54,55,56,57]).sub ((DA % 10):Int).toNat (((DA % 10)+1):Int).toNat)++LC)) [] ⟨(q3 hM6 (by simp only [LX,h11,Ag])),Ad,Ad,AM⟩
 intro h11;have g16:=df h11;refine Ke ?_;have hR17:=q2 hM6 (.brk LC) (by simp only [LX,h11,Ag]);refine KS ?_;refine Oq Vm (Oq Va (KS ?_));have hq:=q4 hrr LC (by simp only [JA,h11,hR17,Ag]); subst hq;exact KU [] en
theorem Y6 (p:Aw) (pa0:Option Addr) (pk0:Nat) (n:Am) (CX:Af n.Kind) (IY:Af n.Func) (IZ:Af n.Block) (I0:Af n.Stmt) (rr:Aa) (hrr:GR p n=rr):FT Tryz.prog 35 #[.agg #[vl pa0 pk0 p.Funcs],.agg #[vi n.Kind,vi n.Func,vi n.Block,vi n.Stmt]] [S pa0 pk0 p.Funcs] (fun g:Unit=>rr.b.length<=140737488355328/\(rr.b.length<=5000)) (fun g=>.string (bs rr)) (fun g=>[]):=by
 refine AG Tryz.func35 fun w0 M0 F0=>?_;unfold Af at CX IY IZ I0;refine Fb 40 0 fun _=>KS ?_;refine Oa (Ab [vl pa0 pk0 p.Funcs]) fun p2=>Oa (Ab [vi n.Kind,vi n.Func,vi n.Block,vi n.Stmt]) fun p3=>Oq Va (KS ?_);refine Oq (Aq Be 1) (Oq (Aq Bp 0) ?_);refine Av (J2 p n) fun rv4 hg5=>?_;have hc6:=Yx p pa0 pk0 n pre pre pre pre rv4 hg5;refine Oc [2] bT hc6 ?_;rintro - -;refine Oq AF (KS ?_);refine Kc ?_ ?_
 ·intro h9;refine KS ?_;refine Oq Va (KS ?_);have hq:=q4 hrr (Aa.mk []) (by simp only [GR,h9,hg5,Ag]); subst hq;exact KU [] en
 intro h9;have hN0:=Vp (by assumption) h9;have hsm:=VJ hN0.2;obtain ⟨hN1,hN2⟩:=hN0.1;have hf1:=(Pr hsm n.Func.toNat).1;have hb1:=((Pr hsm n.Func.toNat).2 n.Block.toNat Ad).1;refine KS ?_;refine Oq (Ah BS 1) (Oq (Ai BU 1) (Oq (Ah H7 0) (Oq (Ai An 0) (Oq (Vi BC 2) ?_))));refine D1 n.Func.toNat 2 rfl AD fun a12 k13 _=>?_;refine Fb 40 1 fun _=>?_;refine Oq (Aq CT 0) (Oa (Al H9 [.string (bs (Aa.mk [])),.slice none 0 0]) fun p16=>AC (AI [0] CT [.string (bs ((p.Funcs.getD n.Func.toNat default).Name)),vl a12 k13 ((p.Funcs.getD n.Func.toNat default).Blocks)]) (KS ?_));refine Oq (Ah G0 3) (Oq (Ai An 3) (KS ?_));refine Oq AH (Oq Va (KS ?_));refine Kc ?_ ?_
 ·intro h17;refine KS ?_;refine Oq (Ah HA 0) (Oq (Ai Bj 0) ?_);have hb19:=Dh ((p.Funcs.getD n.Func.toNat default).Name) (Aa.mk [46,101,110,116,114,121]);have hb20:(Aa.mk [46,101,110,116,114,121]).b.length=6:=rfl;refine Oq (Dl (l:=(p.Funcs.getD n.Func.toNat default).Name) (m:=(Aa.mk [46,101,110,116,114,121]))) (Oq Va (KS ?_));have hq:=q4 hrr ((p.Funcs.getD n.Func.toNat default).Name++(Aa.mk [46,101,110,116,114,121])) (by simp only [GR,h9,h17,hg5,Ag]); subst hq;exact KU [] en
 intro h17;have g21:=ne_of_beq_false h17;refine KS ?_;refine Oq AH (Oq Va (KS ?_));refine Kc ?_ ?_
 ·intro h22;refine KS ?_;refine Oq (Ah HA 0) (Oq (Ai Bj 0) ?_);have hb24:=Dh ((p.Funcs.getD n.Func.toNat default).Name) (Aa.mk [46,101,120,105,116]);have hb25:(Aa.mk [46,101,120,105,116]).b.length=5:=rfl;refine Oq (Dl (l:=(p.Funcs.getD n.Func.toNat default).Name) (m:=(Aa.mk [46,101,120,105,116]))) (Oq Va (KS ?_));have hq:=q4 hrr ((p.Funcs.getD n.Func.toNat default).Name++(Aa.mk [46,101,120,105,116])) (by simp only [GR,h9,h17,h22,hg5,Ag]); subst hq;exact KU [] en
 intro h22;have hN3:=hN2 (by assumption) (by simpa using h22);refine KS ?_;refine Oq AH (Oq Va (KS ?_));refine Kc ?_ ?_
 ·intro h27;refine KS ?_;refine Jp 0 fun hp29=>?_;refine EQ n.Block.toNat 3 rfl AD fun a30 k31 _=>?_;refine Bu [0,1,3,0,8,0,32,120,248,504,1023,2047,0,4096,12288,32767,65535,131071] AY ?_;refine Dv [2] (Ah HA 0) (Dv [3] (Ai Bj 0) ?_);have hb34:=Dh ((p.Funcs.getD n.Func.toNat default).Name) (Aa.mk [46]);have hb35:(Aa.mk [46]).b.length=1:=rfl;refine Dv [] (Dl (l:=(p.Funcs.getD n.Func.toNat default).Name) (m:=(Aa.mk [46]))) (Dv [2] (Ah CB 0) (Dv [3] (Ai CA 0) (Dv [6] (Ah LV 0) (Dv [6] (Ai An 0) (Dv [5] (Vi B5 0) (Dv [0] (Ah MM 0) (Dv [0] (Ai Bj 0) ?_)))))));have hb36:=Dh ((p.Funcs.getD n.Func.toNat default).Name++(Aa.mk [46])) ((((p.Funcs.getD n.Func.toNat default).Blocks).getD n.Block.toNat default).Name);refine Dv [] (Dl (l:=((p.Funcs.getD n.Func.toNat default).Name++(Aa.mk [46]))) (m:=(((p.Funcs.getD n.Func.toNat default).Blocks).getD n.Block.toNat default).Name)) ?_;have hb37:=Dh (((p.Funcs.getD n.Func.toNat default).Name++(Aa.mk [46]))++(((p.Funcs.getD n.Func.toNat default).Blocks).getD n.Block.toNat default).Name) (Aa.mk [46]);refine Dv [] (Dl (l:=(((p.Funcs.getD n.Func.toNat default).Name++(Aa.mk [46]))++(((p.Funcs.getD n.Func.toNat default).Blocks).getD n.Block.toNat default).Name)) (m:=(Aa.mk [46]))) (Dv [6] (Ah LW 0) (Dv [6] (Ai An 0) ?_));refine Av (JA n.Stmt) fun rv39 hg40=>?_;have hI:=V5 hg40 Ad;refine Dx [] [] [0] (fun G=>.string (bs rv39)) [fun G=>SP.fact (rv39.b.length<=140737488355328/\((rv39.b.length:Int)<=1+n.Stmt / 10))] (fun G=>xC [] ZI (XC n.Stmt pre pre rv39 hg40)) ?_;have hb41:=Dh ((((p.Funcs.getD n.Func.toNat default).Name++(Aa.mk [46]))++(((p.Funcs.getD n.Func.toNat default).Blocks).getD n.Block.toNat default).Name)++(Aa.mk [46])) rv39;refine Dv [] (Dl (l:=((((p.Funcs.getD n.Func.toNat default).Name++(Aa.mk [46]))++(((p.Funcs.getD n.Func.toNat default).Blocks).getD n.Block.toNat default).Name)++(Aa.mk [46]))) (m:=rv39)) ?_;have hb42:=Dh (((((p.Funcs.getD n.Func.toNat default).Name++(Aa.mk [46]))++(((p.Funcs.getD n.Func.toNat default).Blocks).getD n.Block.toNat default).Name)++(Aa.mk [46]))++rv39) (Aa.mk [43]);have hb43:(Aa.mk [43]).b.length=1:=rfl;refine Dv [] (Dl (l:=(((((p.Funcs.getD n.Func.toNat default).Name++(Aa.mk [46]))++(((p.Funcs.getD n.Func.toNat default).Blocks).getD n.Block.toNat default).Name)++(Aa.mk [46]))++rv39)) (m:=(Aa.mk [43]))) (Dv [] Va ?_);refine Dn ⟨by kernel_rfl,fun G=>?_⟩;refine Bq [(4,.string (bs ((((((p.Funcs.getD n.Func.toNat default).Name++(Aa.mk [46]))++(((p.Funcs.getD n.Func.toNat default).Blocks).getD n.Block.toNat default).Name)++(Aa.mk [46]))++rv39)++(Aa.mk [43]))))] [0,1,2,3,4,5,6,7,8] [SP.fact (rv39.b.length<=140737488355328/\((rv39.b.length:Int)<=1+n.Stmt / 10))] ?_;refine Jf 9 rfl ?_; rintro ⟨he44,he45⟩;refine Jk [0,1,3,3,4,5,6,7] ?_;have hq:=q4 hrr ((((((p.Funcs.getD n.Func.toNat default).Name++(Aa.mk [46]))++(((p.Funcs.getD n.Func.toNat default).Blocks).getD n.Block.toNat default).Name)++(Aa.mk [46]))++rv39)++(Aa.mk [43])) (by simp only [GR,h9,h17,h22,h27,hg5,hg40,Ag]); subst hq;exact KU [] en
 intro h27;refine KS ?_;refine Jp 0 fun hp47=>?_;refine EQ n.Block.toNat 3 rfl AD fun a48 k49 _=>?_;refine Bu [0,1,3,0,8,0,32,120,248,504,1023,2047,0,4096,12288,32767,65535] AY ?_;refine Dv [2] (Ah HA 0) (Dv [3] (Ai Bj 0) ?_);have hb52:=Dh ((p.Funcs.getD n.Func.toNat default).Name) (Aa.mk [46]);have hb53:(Aa.mk [46]).b.length=1:=rfl;refine Dv [] (Dl (l:=(p.Funcs.getD n.Func.toNat default).Name) (m:=(Aa.mk [46]))) (Dv [2] (Ah CB 0) (Dv [3] (Ai CA 0) (Dv [6] (Ah LV 0) (Dv [6] (Ai An 0) (Dv [5] (Vi B5 0) (Dv [0] (Ah MM 0) (Dv [0] (Ai Bj 0) ?_)))))));have hb54:=Dh ((p.Funcs.getD n.Func.toNat default).Name++(Aa.mk [46])) ((((p.Funcs.getD n.Func.toNat default).Blocks).getD n.Block.toNat default).Name);refine Dv [] (Dl (l:=((p.Funcs.getD n.Func.toNat default).Name++(Aa.mk [46]))) (m:=(((p.Funcs.getD n.Func.toNat default).Blocks).getD n.Block.toNat default).Name)) ?_;have hb55:=Dh (((p.Funcs.getD n.Func.toNat default).Name++(Aa.mk [46]))++(((p.Funcs.getD n.Func.toNat default).Blocks).getD n.Block.toNat default).Name) (Aa.mk [46]);refine Dv [] (Dl (l:=(((p.Funcs.getD n.Func.toNat default).Name++(Aa.mk [46]))++(((p.Funcs.getD n.Func.toNat default).Blocks).getD n.Block.toNat default).Name)) (m:=(Aa.mk [46]))) (Dv [6] (Ah LW 0) (Dv [6] (Ai An 0) ?_));refine Av (JA n.Stmt) fun rv57 hg58=>?_;have hI:=V5 hg58 Ad;refine Dx [] [] [0] (fun G=>.string (bs rv57)) [fun G=>SP.fact (rv57.b.length<=140737488355328/\((rv57.b.length:Int)<=1+n.Stmt / 10))] (fun G=>xC [] ZI (XC n.Stmt pre pre rv57 hg58)) ?_;have hb59:=Dh ((((p.Funcs.getD n.Func.toNat default).Name++(Aa.mk [46]))++(((p.Funcs.getD n.Func.toNat default).Blocks).getD n.Block.toNat default).Name)++(Aa.mk [46])) rv57;refine Dv [] (Dl (l:=((((p.Funcs.getD n.Func.toNat default).Name++(Aa.mk [46]))++(((p.Funcs.getD n.Func.toNat default).Blocks).getD n.Block.toNat default).Name)++(Aa.mk [46]))) (m:=rv57)) (Dv [] Va ?_);refine Dn ⟨by kernel_rfl,fun G=>?_⟩;refine Bq [(4,.string (bs (((((p.Funcs.getD n.Func.toNat default).Name++(Aa.mk [46]))++(((p.Funcs.getD n.Func.toNat default).Blocks).getD n.Block.toNat default).Name)++(Aa.mk [46]))++rv57)))] [0,1,2,3,4,5,6,7,8] [SP.fact (rv57.b.length<=140737488355328/\((rv57.b.length:Int)<=1+n.Stmt / 10))] ?_;refine Jf 9 rfl ?_; rintro ⟨he60,he61⟩;refine Jk [0,1,3,3,4,5,6,7] ?_;have hq:=q4 hrr (((((p.Funcs.getD n.Func.toNat default).Name++(Aa.mk [46]))++(((p.Funcs.getD n.Func.toNat default).Blocks).getD n.Block.toNat default).Name)++(Aa.mk [46]))++rv57) (by simp only [GR,h9,h17,h22,h27,hg5,hg58,Ag]); subst hq;exact KU [] en
theorem uU (p:Aw) (pa0:Option Addr) (pk0:Nat) (f:AO) (If:Af f.Node) (wN:Af f.Var) (hf0:J6 p f) (rr:Aa) (hrr:J4 p f=rr):FT Tryz.prog 36 #[.agg #[vl pa0 pk0 p.Funcs],.agg #[vi f.Node,vi f.Var]] [S pa0 pk0 p.Funcs] (fun g:Unit=>rr.b.length<=140737488355328/\(rr.b.length<=6001)) (fun g=>.string (bs rr)) (fun g=>[]):=by
 refine AG Tryz.func36 fun w0 M0 F0=>?_;unfold Af at If wN;unfold J6 at hf0;refine KS ?_;refine Oa (Ab [vl pa0 pk0 p.Funcs]) fun p2=>Oa (Ab [vi f.Node,vi f.Var]) fun p3=>Oq Va (KS ?_);refine Bu [0,1,0,4,15,31,63] AY ?_;refine Dv [1] (Aq Be 0) ?_;refine Av (Ca p) fun rv5 hg6=>?_;have hVV:=UQ hg6;have hvl:=congrArg List.length hg6;have hw:=hVV _ (BF (xs:=rv5) (i:=f.Var.toNat) (d:=default) Ad);refine Dx [2] [] [2,0,1] (fun G=>(G.g 1 0)) [fun G=>SP.fact (True),fun G=>sl (G.g 1 0) rv5] (fun G=>xC [0] Sm (S8 p pa0 pk0 rv5 hg6)) (Dv [0] (Ah V7 0) (Dv [0] (Ai An 0) (Dg [4] (fun G=>(BZ 1 ((G.g 1 0)) f.Var.toNat)) (fun G=>Vi AN 0) (Dv [4] (DD Bj 0) (Dv [] Va ?_)))));refine Dn ⟨by kernel_rfl,fun G=>?_⟩;refine Bq [(2,p2),(3,p3),(5,.string (bs (rv5.getD f.Var.toNat default)))] [0,1,2] [SP.fact (True),sl (G.g 1 0) rv5] ?_;generalize G.g 1 0=c4;refine Jk [0,1,2,4] ?_;refine Jo 3 ?_; rintro a7 k8 rfl;refine KS ?_;refine Oq (Ah P9 0) (Oq (Ai An 0) (Oq BA (KS ?_)));refine Kc ?_ ?_
 ·intro h11;have g12:=dt h11;refine Bu [0,0,0,4,0,16,60,124,254,510,1023,2047] AY ?_;refine Dv [] Vm (Dv [1] (Aq Be 0) (Dv [1] (Aq Be 0) ?_));refine Av (Cn p) fun rv14 hg15=>?_;have hvn:=congrArg List.length hg15;have hnk:=rW hg15 _ (BF (xs:=rv14) (i:=f.Node.toNat) (d:=default) Ad);refine Dx [2] [] [2,0,1] (fun G=>(G.g 3 0)) [fun G=>SP.fact ((rv14.length<=20000)),fun G=>sl (G.g 3 0) rv14] (fun G=>xC [0] OT (Pa p pa0 pk0 rv14 hg15)) (Dv [0] (Ah P9 0) (Dv [0] (Ai An 0) ?_));refine Dx [4,5] [] [0,1] (fun G=>(BZ 4 ((G.g 3 0)) f.Node.toNat)) [] (fun G=>by refine xf 0 rfl ?_; rintro he16; exact xV (Vi BG 1)) (Dv [5] (gC Bp 0 [vi ((rv14.getD f.Node.toNat default).Kind),vi ((rv14.getD f.Node.toNat default).Func),vi ((rv14.getD f.Node.toNat default).Block),vi ((rv14.getD f.Node.toNat default).Stmt)]) ?_);refine Av (GR p (rv14.getD f.Node.toNat default)) fun rv17 hg18=>?_;have hll:=SE hg18;refine Dx [2] [] [1,0] (fun G=>.string (bs rv17)) [fun G=>SP.fact (rv17.b.length<=140737488355328/\(rv17.b.length<=5000))] (fun G=>xC [0] bC (Y6 p pa0 pk0 ((rv14.getD f.Node.toNat default)) (hnk.1) (hnk.2.1) (hnk.2.2.1) (hnk.2.2.2) rv17 hg18)) ?_;have hb19:=Dh (Aa.mk [64]) rv17;have hb20:(Aa.mk [64]).b.length=1:=rfl;refine Dv [] (Dl (l:=(Aa.mk [64])) (m:=rv17)) ?_;have hb21:=Dh (rv5.getD f.Var.toNat default) ((Aa.mk [64])++rv17);refine Dv [] (Dl (l:=(rv5.getD f.Var.toNat default)) (m:=((Aa.mk [64])++rv17))) (Dv [] Va ?_);refine Dn ⟨by kernel_rfl,fun G=>?_⟩;refine Bq [(5,.string (bs ((rv5.getD f.Var.toNat default)++((Aa.mk [64])++rv17))))] [0,1,2,3] [SP.fact ((rv14.length<=20000)),sl (G.g 3 0) rv14,SP.fact (rv17.b.length<=140737488355328/\(rv17.b.length<=5000))] ?_;generalize G.g 3 0=c13;refine Jf 4 rfl ?_; rintro he22;refine Jf 6 rfl ?_; rintro ⟨he23,he24⟩;refine Jk [0,1,2,3,5] ?_;refine Jo 4 ?_; rintro a25 k26 rfl;refine KS ?_;refine Oq Vm (Oq Va (KS ?_));have hq:=q4 hrr ((rv5.getD f.Var.toNat default)++((Aa.mk [64])++rv17)) (by simp only [J4,h11,hg6,hg15,hg18,Ag]); subst hq;exact KU [] en
 intro h11;refine KS ?_;refine Oq Vm (Oq Va (KS ?_));have hq:=q4 hrr (rv5.getD f.Var.toNat default) (by simp only [J4,h11,hg6,Ag]); subst hq;exact KU [] en
theorem VW (p:Aw) (pa0:Option Addr) (pk0:Nat) (kind:Int) (l:List Ao) (la0:Option Addr) (lk0:Nat) (I1:Af kind) (hl0:l.length<=100000) (rr:Aa×Int) (hrr:GN p kind l=rr):FT Tryz.prog 10 #[.agg #[vl pa0 pk0 p.Funcs],vi kind,vl la0 lk0 l] [S pa0 pk0 p.Funcs,S la0 lk0 l] (fun g:Unit=>rr.1.b.length<=140737488355328/\Af rr.2) (fun g=>.tuple #[.string (bs rr.1),vi rr.2]) (fun g=>[]):=by
 refine AG Tryz.func10 fun w0 M0 F0=>?_;unfold Af at I1;refine KS ?_;refine Oa (Ab [vl pa0 pk0 p.Funcs]) fun p3=>Oq Va (Oq Va (KS ?_));refine Oq (Aq Be 0) (Oq Vm ?_);refine Av (CI p kind) fun rv5 hg6=>?_;have hFL:=(UO hg6).2;have hc7:=Zn p pa0 pk0 kind pre rv5 hg6;refine Oc [1] YG hc7 ?_;rintro c4 ⟨he8,-⟩;unfold Af at he8;refine Jo 0 ?_; rintro a10 k11 rfl;refine Oq Vm (Oq Vx (Oq Vx (Oq Va (Oq Va (KS ?_)))));refine Oq Vm (Oq Cc (KS ?_));refine Kc ?_ ?_
 ·intro h13;refine KS ?_;refine Oq Vm (Oq Va (Oq Va (KS ?_)));have hq:=q4 hrr ((Aa.mk []),rv5.2) (by simp only [GN,h13,hg6,Ag]); subst hq;exact Kr () rfl (.tmp rfl (.tmp rfl .nil)) [] en
 intro h13;refine KS ?_;refine Oq (Aq Be 1) ?_;refine Av (Cn p) fun rv17 hg18=>?_;have hc19:=Pa p pa0 pk0 rv17 hg18;refine Oc [2] OT hc19 ?_;rintro c16 -;refine Jo 0 ?_; rintro a21 k22 rfl;refine Oq Va (KS ?_);refine Oq Va (KS ?_);refine Oq Va (KS ?_);refine Kl (γ:=Nat×Aa×Int) (fun (r24,Kh,Fm)=>⟨[(2,vl la0 lk0 l),(3,p3),(8,vl a10 k11 rv5.1),(10,vl a21 k22 rv17),(11,.string (bs Kh)),(12,vi Fm)],[S a21 k22 rv17,S a10 k11 rv5.1,pv p3 [vl pa0 pk0 p.Funcs],S pa0 pk0 p.Funcs,S la0 lk0 l],Hn p l rv5.1 rv17 r24 Kh Fm=Hn p l rv5.1 rv17 (((l.length:Int) - 0).toNat) (Aa.mk []) 0/\r24=((l.length:Int) - Fm).toNat/\(0:Int)<=Fm/\Fm<=(l.length:Int)/\Kh.b.length<=140737488355328/\(-9223372036854775808<=Fm/\Fm<=9223372036854775807)/\((Kh.b.length:Int)<=11003*Fm),r24⟩) (((l.length:Int) - 0).toNat,(Aa.mk []),0) [0,1,2,3,4] ⟨rfl,rfl,Ad,Ad,(by first | omega | (simp; done)),Ad,Bi⟩ ?_;rintro ⟨r24,Kh,Fm⟩ ⟨hM27,hr28,hi29,hi30,hk31,hk32,hv33⟩;refine JX ?_;refine KS ?_;refine Oq Vm (Oq Vm (Oq (AB Bk) (Oq AF (KS ?_))));refine Kc ?_ ?_
 ·intro h38;have g39:=dt h38;obtain ⟨r40,rfl⟩:=AP (n:=r24) Ad;refine KS ?_;refine Oq Vm (Oq Vm (Oq (Vi Bk 4) ?_));refine IB Fm.toNat 4 rfl AD fun hb41 hb42=>?_;unfold Af at hb41 hb42;refine Oq (Ah DU 0) (Oq (Ai An 0) (Oq AF (Oq Vm ?_)));refine Js 36 ?_ ?_
  ·intro h43;refine Ae (Ae (Ae (Ae (Ae (Ae (Ae (Ae (Oq As (Oq Vm ?_)))))))));refine Ae (Ae (Ae (Ae (Ae (Ae (Oq As (Oq Vm (Ae (Ae ?_)))))))));refine Ae (Ae (Ae (Ae (Ae (Ae (Oq As (KS ?_)))))));refine Kt (KS ?_);refine Oq Va (Oq Va (KS ?_));have hR45:=q2 hM27 (.ret ((Aa.mk []),9)) (by simp only [Hn,h38,h43,Ag]);have hq:=q4 hrr ((Aa.mk []),9) (by simp only [GN,h13,h38,h43,hg6,hg18,hR45,Ag]); subst hq;exact Kr () rfl (.tmp rfl (.tmp rfl .nil)) [] en
  intro h43;have g46:=df h43;refine Oq Vm (Oq Vm (Oq (Vi Bk 5) (Oq (Ah DU 0) (Oq (Ai An 0) (Oq Vm (Oq (AB BG) (Oq BA (Oq Au (Oq Vm ?_)))))))));refine Js 46 ?_ ?_
  ·intro h47;refine Ae (Ae (Ae (Ae (Ae (Ae (Oq As (Oq Vm (Ae (Ae ?_)))))))));refine Ae (Ae (Ae (Ae (Ae (Ae (Oq As (KS ?_)))))));refine Kt (KS ?_);refine Oq Va (Oq Va (KS ?_));have hR49:=q2 hM27 (.ret ((Aa.mk []),9)) (by simp only [Hn,h38,h43,h47,Ag]);have hq:=q4 hrr ((Aa.mk []),9) (by simp only [GN,h13,h38,h43,h47,hg6,hg18,hR49,Ag]); subst hq;exact Kr () rfl (.tmp rfl (.tmp rfl .nil)) [] en
  intro h47;have g50:=df h47;refine Oq Vm (Oq Vm (Oq (Vi Bk 5) (Oq (Ah Fj 0) (Oq (Ai An 0) (Oq AF (Oq Au (Oq Vm ?_)))))));refine Js 54 ?_ ?_
  ·intro h51;refine Ae (Ae (Ae (Ae (Ae (Ae (Ae (Ae (Oq As (KS ?_)))))))));refine Kt (KS ?_);refine Oq Va (Oq Va (KS ?_));have hR53:=q2 hM27 (.ret ((Aa.mk []),9)) (by simp only [Hn,h38,h43,h47,h51,Ag]);have hq:=q4 hrr ((Aa.mk []),9) (by simp only [GN,h13,h38,h43,h47,h51,hg6,hg18,hR53,Ag]); subst hq;exact Kr () rfl (.tmp rfl (.tmp rfl .nil)) [] en
  intro h51;have g54:=df h51;refine Oq Vm (Oq Vm (Oq (Vi Bk 5) (Oq (Ah Fj 0) (Oq (Ai An 0) (Oq Vm (Oq (AB C2) (Oq BA (Oq Au (KS ?_)))))))));refine Kc ?_ ?_
  ·intro h55;refine KS ?_;refine Oq Va (Oq Va (KS ?_));have hR57:=q2 hM27 (.ret ((Aa.mk []),9)) (by simp only [Hn,h38,h43,h47,h51,h55,Ag]);have hq:=q4 hrr ((Aa.mk []),9) (by simp only [GN,h13,h38,h43,h47,h51,h55,hg6,hg18,hR57,Ag]); subst hq;exact Kr () rfl (.tmp rfl (.tmp rfl .nil)) [] en
  intro h55;have g58:=df h55;have hf:=hFL _ (BF (xs:=rv5.1) (i:=((l.getD Fm.toNat default).Bit:Int).toNat) (d:=default) Ad);refine KS ?_;refine KO ((l.getD Fm.toNat default).Node:Int).toNat 1 rfl AD fun hb59 hb60 hb61 hb62=>?_;unfold Af at hb59 hb60 hb61 hb62;refine Re ((l.getD Fm.toNat default).Bit:Int).toNat 3 rfl AD fun hb63 hb64=>?_;unfold Af at hb63 hb64;refine Bu [0,0,0,0,0,24,56,120,252,508,1022,2046,0,0,0,0,49152,114688,245760,516096,1040384,2095102,4194302,8388606,16777215,33554431] AY ?_;refine Dv [] Vm (Dv [5] (Aq Be 0) (Dv [] Vm (Dv [] Vm (Dv [] Vm (Dv [7] (Vi Bk 0) (Dv [2] (Ah DU 0) (Dv [2] (Ai An 0) (Dv [3] (Vi BG 0) (Dv [1] (Aq Bp 0) ?_)))))))));refine Av (GR p (rv17.getD ((l.getD Fm.toNat default).Node:Int).toNat default)) fun rv65 hg66=>?_;have hll:=SE hg66;refine Dx [6] [] [1,0] (fun G=>.string (bs rv65)) [fun G=>SP.fact (rv65.b.length<=140737488355328/\(rv65.b.length<=5000))] (fun G=>xC [0] bC (Y6 p pa0 pk0 ((rv17.getD ((l.getD Fm.toNat default).Node:Int).toNat default)) pre pre pre pre rv65 hg66)) ?_;have hb67:=Dh rv65 (Aa.mk [32]);have hb68:(Aa.mk [32]).b.length=1:=rfl;refine Dv [] (Dl (l:=rv65) (m:=(Aa.mk [32]))) (Dv [5] (Aq Be 0) (Dv [] Vm (Dv [] Vm (Dv [] Vm (Dv [7] (Vi Bk 0) (Dv [2] (Ah Fj 0) (Dv [2] (Ai An 0) (Dv [4] (Vi C2 0) (Dv [0] (Aq m5 0) ?_)))))))));refine Av (J4 p (rv5.1.getD ((l.getD Fm.toNat default).Bit:Int).toNat default)) fun rv69 hg70=>?_;have htl:=aC hf hg70;refine Dx [6] [] [1,0] (fun G=>.string (bs rv69)) [fun G=>SP.fact (rv69.b.length<=140737488355328/\(rv69.b.length<=6001))] (fun G=>xC [0] gJ (uU p pa0 pk0 ((rv5.1.getD ((l.getD Fm.toNat default).Bit:Int).toNat default)) pre pre hf rv69 hg70)) ?_;have hb71:=Dh (rv65++(Aa.mk [32])) rv69;refine Dv [] (Dl (l:=(rv65++(Aa.mk [32]))) (m:=rv69)) ?_;have hb72:=Dh ((rv65++(Aa.mk [32]))++rv69) (Aa.mk [10]);have hb73:(Aa.mk [10]).b.length=1:=rfl;refine Dv [] (Dl (l:=((rv65++(Aa.mk [32]))++rv69)) (m:=(Aa.mk [10]))) ?_;have hb74:=Dh Kh (((rv65++(Aa.mk [32]))++rv69)++(Aa.mk [10]));refine Dv [] (Dl (l:=Kh) (m:=(((rv65++(Aa.mk [32]))++rv69)++(Aa.mk [10])))) (Dv [] Va ?_);refine Dn ⟨by kernel_rfl,fun G=>?_⟩;refine Bq [(2,vl la0 lk0 l),(3,p3),(8,vl a10 k11 rv5.1),(10,vl a21 k22 rv17),(12,vi Fm),(11,.string (bs (Kh++(((rv65++(Aa.mk [32]))++rv69)++(Aa.mk [10])))))] [0,1,2,3,4,5,6,7] [SP.fact (rv65.b.length<=140737488355328/\(rv65.b.length<=5000)),SP.fact (rv69.b.length<=140737488355328/\(rv69.b.length<=6001))] ?_;refine Jf 8 rfl ?_; rintro ⟨he75,he76⟩;refine Jf 9 rfl ?_; rintro ⟨he77,he78⟩;refine Jk [0,1,2,3,4,5,6,7] ?_;refine KS ?_;refine Oq Vm (Oq Ay (Oq Va (KS ?_)));exact Kg (r40,(Kh++(((rv65++(Aa.mk [32]))++rv69)++(Aa.mk [10]))),(Fm+1)) [3,4,5,6,7] ⟨(q3 hM27 (by simp only [Hn,h38,h43,h47,h51,h55,hg66,hg70,Ag])),Ad,Ad,Ad,Ad,Ad,AM⟩
 intro h38;have g79:=df h38;obtain rfl:r24=0:=by omega
 refine Ke ?_;have hR80:=q2 hM27 (.brk Kh) (by simp only [Hn,h38,Ag]);refine KS ?_;refine Oq Vm (Oq Va (Oq Va (KS ?_)));have hq:=q4 hrr (Kh,0) (by simp only [GN,h13,h38,hg6,hg18,hR80,Ag]); subst hq;exact Kr () rfl (.tmp rfl (.tmp rfl .nil)) [] en
end Go.SL.G
